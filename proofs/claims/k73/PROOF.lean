import PyProof.Rows.All
import Wide.All
import OpenK.AllK
import Wide.FinOn
import HandS.ForMost
import HandS.Exc
import HandS.TryOnly
import HandS.ExcOwn
import HandS.WordsExc
import HandS.IsInst
import HandS.Wide
import HandS.Strs
import HandS.RaiseMore
import PyProof.ReprRoads
import HandS.TupAny
import KE.GoesEnum
import HandS.ExcInit
import HandS.ExcField
import KE.KExcIs
import KE.KIsAll
import HandS.Flow
import HandS.More
import KE.KFmtOwn
import HandS.OwnEq
import PyProof.InstNe
import HandS.FStr
import HandS.StrMore
import HandS.Dict
import KE.KSortTupG
import HandS.Sort
import KE.KUnpackStar
import HandS.Text
import HandS.BoundDict
import HandS.Style
import HandS.DictComp
import KE.GoesDict
import KE.KDictKeyed
import PyProof.DictUpdate
import HandS.Defaults
import HandS.SetBool
import HandS.TupSets
import HandS.HotCalls
import KE.KDictCopyH
import KE.DataMinMax
import HandS.SortKw
import HandS.Deep
import HandS.Conv
import HandS.Star
import KE.DataCmp
import KE.KDictPairs
import KE.KDictSum
import KE.OsRunLaw
import PySem.Challenge.RW_cellscript_k73_whole_counts_add_up
set_option Elab.async false
set_option linter.all false
section
namespace Law
def lo0 : List PySem.Str := ["_wall", "CellError", "Wrong", "BadRow", "TooMany", "Strange", "NoForebear", "Unfit", "NotAround", "SIGNS", "PLACES", "OFFS", "is_whole", "is_from_to", "is_sign", "is_signs", "is_place", "MOST_STATES", "FOLDED", "need_strip", "words_of", "Strip", "columns_of", "rows_of", "strip_for", "counts_on", "how_many", "picked", "forebear", "SORTS"]
def lo1 : List PySem.Str := ["STRAIGHT", "MOST_ROWS", "MOST_TESTS", "is_near", "are_of", "is_test", "is_cell_row", "is_text_of", "is_block_row", "Rule", "_law_bag", "_law_take", "_law_signs", "_law_some", "_law_near", "_law_test", "_law_row", "_law_block_row", "_law_rule", "_law_holds", "_law_becomes", "_law_off", "_law_middle", "_law_letters", "_law_columns", "_law_rows", "_law_strip", "_law_next_rows", "_law_made_rule", "_law_words"]
def loA : List PySem.Str := lo0 ++ lo1
def qv : PySem.Program := PySem.W.view PySem.Challenge.rw_cellscript_k73_whole_counts_add_up.prog [66]
end Law
open PySem PySem.W PySem.Calls PyProof.Rows in
set_option hygiene false in
local macro_rules
  | `(tactic| o_head ($f:term $k:term $a:term $e:term)) => `(tactic| (rotate_left; exact ($k, $a); exact hH))
open PySem PySem.W PySem.Calls PyProof.Rows in
set_option maxRecDepth 100000 in
set_option maxHeartbeats 0 in
noncomputable def Law.KA : (Params → Frag) × List Addr := by
  refine (fun (_ : PySem.Challenge.rw_cellscript_k73_whole_counts_add_up.row.Holds → PySem.Challenge.rw_cellscript_k73_whole_counts_add_up.row.Holds) (X : (Params → Frag) × List Addr) => X) ?_ ?_
  intro hH
  k_head
open PySem PySem.W PySem.Calls PyProof.Rows in
noncomputable def Law.KX : Params → Frag := Law.KA.1
open PySem PySem.W PySem.Calls PyProof.Rows in
noncomputable def Law.aX : List Addr := Law.KA.2
open PySem PySem.W PySem.Calls PyProof.Rows in
theorem Law.ekX : ∀ P, Law.aX = (Law.KX P).map (·.1) := fun P => by kernel_rfl
open PySem PySem.W PySem.Calls PyProof.Rows in
theorem Law.run0 (w : World) (os : OsState) : (HeadRun.endF (HeadRun.stepQ (HeadRun.denQ HeadRun.tabQ) PySem.Challenge.rw_cellscript_k73_whole_counts_add_up.row.prog (w.withFollow "special-get-raises" false)) 30000 PySem.Challenge.rw_cellscript_k73_whole_counts_add_up.row.prog (w.withFollow "special-get-raises" false) os).map (fun s => (HeadRun.looksF PySem.Challenge.rw_cellscript_k73_whole_counts_add_up.row.prog (boot_heap (w.withFollow "special-get-raises" false).params) s.abs, HeadRun.seenQ Law.qv Law.loA (importedModules PySem.Challenge.rw_cellscript_k73_whole_counts_add_up.row.prog.main.body) (fun s => xlAt Law.qv [] s && recOk (RowW.records (OpenRow.toRowW PySem.Challenge.rw_cellscript_k73_whole_counts_add_up.row)) s) s.abs, Law.aX.map (HeadRun.getT s))) = some (true, openGood Law.qv Law.loA, (Law.KX (w.withFollow "special-get-raises" false).params).map fun x => some x.2) := by kernel_rfl
open PySem PySem.W PySem.Calls PyProof.Rows in
theorem Law.run1 (w : World) (os : OsState) : (HeadRun.endF (HeadRun.stepQ (HeadRun.denQ HeadRun.tabQ) PySem.Challenge.rw_cellscript_k73_whole_counts_add_up.row.prog (w.withFollow "special-get-raises" true)) 30000 PySem.Challenge.rw_cellscript_k73_whole_counts_add_up.row.prog (w.withFollow "special-get-raises" true) os).map (fun s => (HeadRun.looksF PySem.Challenge.rw_cellscript_k73_whole_counts_add_up.row.prog (boot_heap (w.withFollow "special-get-raises" true).params) s.abs, HeadRun.seenQ Law.qv Law.loA (importedModules PySem.Challenge.rw_cellscript_k73_whole_counts_add_up.row.prog.main.body) (fun s => xlAt Law.qv [] s && recOk (RowW.records (OpenRow.toRowW PySem.Challenge.rw_cellscript_k73_whole_counts_add_up.row)) s) s.abs, Law.aX.map (HeadRun.getT s))) = some (true, openGood Law.qv Law.loA, (Law.KX (w.withFollow "special-get-raises" true).params).map fun x => some x.2) := by kernel_rfl
end
set_option Elab.async false
set_option linter.all false
set_option maxRecDepth 100000
set_option maxHeartbeats 2000000
namespace D3
open PySem L2
/-- the program and the world, by which keys are hashed -/
structure PGw where
  P : Program
  w : World
/-- the object itself is known -/
def pinO (a : Addr) (o : Obj) : HO := .ext fun h => h.get? a = some o
/-- the object o is a dict with these keys (each its own tuple), addresses of the tuples, values -/
structure DtOb (g : PGw) (o : Obj) (us : List (List Key × Addr × Value)) : Prop where
  ex : o.ExactDict
  dat : ∃ (es : Array DictEntry) (ep : Nat), o.data = .dict es ep ∧ es.toList = us.map (entryOfKey (tupleKind (mixKind g.P g.w)))
  nd : (us.map (·.1)).Nodup
  sz : us.length ≤ sizeLine
/-- data: a flat or opaque value, a list, a tuple, an instance -/
inductive D where
  | v (x : V) | lst (ds : List D) | tup (ds : List D) | ins (C : Addr) (fs : List (Str × D)) | dic (kvs : List (Key × D))
  /-- a caught exception at a, its dict at d -/
  | exc (a : Addr) (d : Option Addr) (fs : List (Str × D))
  /-- a list of somebody else's at p, that holds ws, for a time -/
  | lent (p : Addr) (ws : List V) (ds : List D)
  /-- a dict whose keys are tuples -/
  | dt (g : PGw) (kvs : List (List Key × D))
abbrev D.int (i : Int) : D := .v (.int i)
abbrev D.str (x : Str) : D := .v (.str x)
abbrev D.bl (b : Bool) : D := .v (.bl b)
abbrev D.non : D := .v .non
/-- a tuple that is read, and that has no dict -/
def SqN (K : PySem.W.Frag) (H : Hp) (a : Addr) (xs : List V) : Prop :=
  (∃ o : Obj, H a = some (.frz o (.tup xs)) ∧ o.dict = none) ∨
    ∃ (o : Obj) (its : Array Value) (n : Nat), K.lookup a = some o ∧ o.dict = none ∧ o.cls = .type "tuple" ∧ o.data = .seq its n ∧ its.size ≤ sizeLine ∧ Vals xs its.toList
theorem SqN.t {K : PySem.W.Frag} {H : Hp} {a : Addr} {xs : List V} (h : SqN K H a xs) : SqT K H a xs := by
  rcases h with ⟨o, h, _⟩ | ⟨o, its, n, h, _, r⟩
  · exact .inl (.inr ⟨o, h⟩)
  · exact .inr ⟨o, its, n, h, r⟩
theorem SqN.of {K : PySem.W.Frag} {H : Hp} {a : Addr} {xs : List V} {o : Obj} (h : H a = some (.frz o (.tup xs))) (d : o.dict = none) : SqN K H a xs := .inl ⟨o, h, d⟩
/-- its object has no dict -/
theorem SqN.noDict {X : Cx} {pins : List (Addr × Obj)} {σ : L2.St} {H : Hp} {s : Shared} {a : Addr} {xs : List V} (I : L2.Inv X pins σ H s) (h : SqN X.K H a xs) : ∃ ob, s.heap.get? a = some ob ∧ ob.dict = none := by
  rcases h with ⟨o, h, d⟩ | ⟨o, _, _, h, d, _⟩
  · exact ⟨o, (I.hok a _ h).1, d⟩
  · exact ⟨o, I.kIn a o h, d⟩
mutual
/-- the value v is, by what the heap I keeps for ever, the data d -/
inductive Is (K : PySem.W.Frag) (I : Hp) : V → D → Prop
  | v (x : V) : Is K I x (.v x)
  | lst {a : Addr} {xs : List V} {ds : List D} : I a = some (.lst xs) → IsAll K I xs ds → Is K I (.ref a) (.lst ds)
  | tup {a : Addr} {xs : List V} {ds : List D} : SqN K I a xs → IsAll K I xs ds → Is K I (.ref a) (.tup ds)
  | ins {a C dx : Addr} {fs : List (Str × V)} {gs : List (Str × D)} : I a = some (.ins C dx fs) → IsFs K I fs gs → Is K I (.ref a) (.ins C gs)
  | dic {a : Addr} {kvs : List (Key × V)} {gs : List (Key × D)} : I a = some (.dK kvs) → IsKv K I kvs gs → Is K I (.ref a) (.dic gs)
  | exc0 {a : Addr} : Is K I (.ref a) (.exc a none [])
  | exc1 {a d : Addr} {fs : List (Str × V)} {gs : List (Str × D)} : I d = some (.xd fs) → IsFs K I fs gs → Is K I (.ref a) (.exc a (some d) gs)
  | lent {p : Addr} {ws : List V} {ds : List D} : IsAll K I ws ds → Is K I (.ref p) (.lent p ws ds)
  | dt {a : Addr} {o : Obj} {g : PGw} {us : List (List Key × Addr × Value)} {gs : List (List Key × D)} : I a = some (pinO a o) → (a == sysModules) = false → DtOb g o us → IsT K I us gs → Is K I (.ref a) (.dt g gs)
inductive IsT (K : PySem.W.Frag) (I : Hp) : List (List Key × Addr × Value) → List (List Key × D) → Prop
  | nil : IsT K I [] []
  | cons {k : List Key} {b : Addr} {u : Value} {v : V} {us : List (List Key × Addr × Value)} {d : D} {ds : List (List Key × D)} : SqN K I b (k.map kV) → RelV v u → Is K I v d → IsT K I us ds → IsT K I ((k, b, u) :: us) ((k, d) :: ds)
inductive IsAll (K : PySem.W.Frag) (I : Hp) : List V → List D → Prop
  | nil : IsAll K I [] []
  | cons {v : V} {vs : List V} {d : D} {ds : List D} : Is K I v d → IsAll K I vs ds → IsAll K I (v :: vs) (d :: ds)
inductive IsFs (K : PySem.W.Frag) (I : Hp) : List (Str × V) → List (Str × D) → Prop
  | nil : IsFs K I [] []
  | cons {f : Str} {v : V} {vs : List (Str × V)} {d : D} {ds : List (Str × D)} : Is K I v d → IsFs K I vs ds → IsFs K I ((f, v) :: vs) ((f, d) :: ds)
inductive IsKv (K : PySem.W.Frag) (I : Hp) : List (Key × V) → List (Key × D) → Prop
  | nil : IsKv K I [] []
  | cons {k : Key} {v : V} {vs : List (Key × V)} {d : D} {ds : List (Key × D)} : Is K I v d → IsKv K I vs ds → IsKv K I ((k, v) :: vs) ((k, d) :: ds)
end
theorem Same.seqT {K : PySem.W.Frag} {H H' : Hp} {a : Addr} {xs : List V} (e : Same H H') (h : SqT K H a xs) : SqT K H' a xs := by
  rcases h with h | h
  · rcases h with h | ⟨o, h⟩
    · exact .inl (.inl (e a _ h))
    · exact .inl (.inr ⟨o, e a _ h⟩)
  · exact .inr h
theorem Same.seqN {K : PySem.W.Frag} {H H' : Hp} {a : Addr} {xs : List V} (e : Same H H') (h : SqN K H a xs) : SqN K H' a xs := by
  rcases h with ⟨o, h, d⟩ | h
  · exact .inl ⟨o, e a _ h, d⟩
  · exact .inr h
mutual
theorem Is.mono {K : PySem.W.Frag} {I I' : Hp} (e : Same I I') : ∀ {v : V} {d : D}, Is K I v d → Is K I' v d
  | _, _, .v x => .v x
  | _, _, .lst h r => .lst (e _ _ h) (IsAll.mono e r)
  | _, _, .tup h r => .tup (Same.seqN e h) (IsAll.mono e r)
  | _, _, .ins h r => .ins (e _ _ h) (IsFs.mono e r)
  | _, _, .dic h r => .dic (e _ _ h) (IsKv.mono e r)
  | _, _, .exc0 => .exc0
  | _, _, .exc1 h r => .exc1 (e _ _ h) (IsFs.mono e r)
  | _, _, .lent r => .lent (IsAll.mono e r)
  | _, _, .dt h y o r => .dt (e _ _ h) y o (IsT.mono e r)
theorem IsT.mono {K : PySem.W.Frag} {I I' : Hp} (e : Same I I') : ∀ {v : List (List Key × Addr × Value)} {d : List (List Key × D)}, IsT K I v d → IsT K I' v d
  | _, _, .nil => .nil
  | _, _, .cons h q r t => .cons (Same.seqN e h) q (Is.mono e r) (IsT.mono e t)
theorem IsAll.mono {K : PySem.W.Frag} {I I' : Hp} (e : Same I I') : ∀ {v : List V} {d : List D}, IsAll K I v d → IsAll K I' v d
  | _, _, .nil => .nil
  | _, _, .cons h r => .cons (Is.mono e h) (IsAll.mono e r)
theorem IsFs.mono {K : PySem.W.Frag} {I I' : Hp} (e : Same I I') : ∀ {v : List (Str × V)} {d : List (Str × D)}, IsFs K I v d → IsFs K I' v d
  | _, _, .nil => .nil
  | _, _, .cons h r => .cons (Is.mono e h) (IsFs.mono e r)
theorem IsKv.mono {K : PySem.W.Frag} {I I' : Hp} (e : Same I I') : ∀ {v : List (Key × V)} {d : List (Key × D)}, IsKv K I v d → IsKv K I' v d
  | _, _, .nil => .nil
  | _, _, .cons h r => .cons (Is.mono e h) (IsKv.mono e r)
end
section
variable {K : PySem.W.Frag} {I I' : Hp}
theorem IsAll.length : ∀ {vs : List V} {ds : List D}, IsAll K I vs ds → vs.length = ds.length
  | _, _, .nil => rfl
  | _, _, .cons _ r => by rw [List.length_cons, List.length_cons, IsAll.length r]
theorem IsAll.get : ∀ {vs : List V} {ds : List D} {i : Nat} {d : D}, IsAll K I vs ds → ds[i]? = some d → ∃ v, vs[i]? = some v ∧ Is K I v d
  | _, _, _, _, .nil, e => by simp at e
  | _, _, 0, _, .cons r _, e => by simp at e; subst e; exact ⟨_, rfl, r⟩
  | _, _, i + 1, d, .cons _ t, e => by
    obtain ⟨v, h1, h2⟩ := IsAll.get (i := i) (d := d) t (by simpa using e)
    exact ⟨v, by simpa using h1, h2⟩
theorem IsAll.getV : ∀ {vs : List V} {ds : List D} {i : Nat} {v : V}, IsAll K I vs ds → vs[i]? = some v → ∃ d, ds[i]? = some d ∧ Is K I v d
  | _, _, _, _, .nil, e => by simp at e
  | _, _, 0, _, .cons r _, e => by simp at e; subst e; exact ⟨_, rfl, r⟩
  | _, _, i + 1, v, .cons _ t, e => by
    obtain ⟨d, h1, h2⟩ := IsAll.getV (i := i) (v := v) t (by simpa using e)
    exact ⟨d, by simpa using h1, h2⟩
theorem IsAll.append : ∀ {vs ws : List V} {ds es : List D}, IsAll K I vs ds → IsAll K I ws es → IsAll K I (vs ++ ws) (ds ++ es)
  | _, _, _, _, .nil, s => s
  | _, _, _, _, .cons h r, s => .cons h (IsAll.append r s)
theorem IsAll.take : ∀ {vs : List V} {ds : List D} (n : Nat), IsAll K I vs ds → IsAll K I (vs.take n) (ds.take n)
  | _, _, 0, _ => .nil
  | _, _, _ + 1, .nil => .nil
  | _, _, n + 1, .cons r t => .cons r (IsAll.take n t)
theorem IsAll.drop : ∀ {vs : List V} {ds : List D} (n : Nat), IsAll K I vs ds → IsAll K I (vs.drop n) (ds.drop n)
  | _, _, 0, r => r
  | _, _, _ + 1, .nil => .nil
  | _, _, n + 1, .cons _ t => IsAll.drop n t
theorem IsAll.set {v : V} {d : D} (h : Is K I v d) : ∀ {vs : List V} {ds : List D} (i : Nat), IsAll K I vs ds → IsAll K I (vs.set i v) (ds.set i d)
  | _, _, _, .nil => .nil
  | _, _, 0, .cons _ t => .cons h t
  | _, _, i + 1, .cons q t => .cons q (IsAll.set h i t)
theorem IsAll.reverse : ∀ {vs : List V} {ds : List D}, IsAll K I vs ds → IsAll K I vs.reverse ds.reverse
  | _, _, .nil => .nil
  | _, _, .cons h r => by
    rw [List.reverse_cons, List.reverse_cons]
    exact IsAll.append (IsAll.reverse r) (.cons h .nil)
theorem IsFs.look : ∀ {vs : List (Str × V)} {ds : List (Str × D)} {f : Str} {d : D}, IsFs K I vs ds → ds.lookup f = some d → ∃ v, vs.lookup f = some v ∧ Is K I v d
  | _, _, _, _, .nil, e => by simp at e
  | _, _, f, d, .cons (f := g) h r, e => by
    rw [List.lookup_cons] at e ⊢
    cases hb : f == g with
    | true =>
      rw [hb] at e
      cases e
      exact ⟨_, rfl, h⟩
    | false =>
      rw [hb] at e
      exact IsFs.look r e
theorem IsFs.lookN : ∀ {vs : List (Str × V)} {ds : List (Str × D)} {f : Str}, IsFs K I vs ds → ds.lookup f = none → vs.lookup f = none
  | _, _, _, .nil, e => rfl
  | _, _, f, .cons (f := g) h r, e => by
    rw [List.lookup_cons] at e ⊢
    cases hb : f == g with
    | true =>
      rw [hb] at e
      cases e
    | false =>
      rw [hb] at e
      exact IsFs.lookN r e
theorem IsFs.len : ∀ {vs : List (Str × V)} {ds : List (Str × D)}, IsFs K I vs ds → vs.length = ds.length
  | _, _, .nil => rfl
  | _, _, .cons _ r => by rw [List.length_cons, List.length_cons, IsFs.len r]
theorem IsKv.app : ∀ {vs ws : List (Key × V)} {gs hs : List (Key × D)}, IsKv K I vs gs → IsKv K I ws hs → IsKv K I (vs ++ ws) (gs ++ hs)
  | _, _, _, _, .nil, s => s
  | _, _, _, _, .cons h r, s => .cons h (IsKv.app r s)
theorem is_v {v x : V} (h : Is K I v (.v x)) : v = x := by cases h; rfl
theorem is_lst {v : V} {ds : List D} (h : Is K I v (.lst ds)) : ∃ a xs, v = .ref a ∧ SqL K I a xs ∧ IsAll K I xs ds := by
  cases h with
  | lst h r => exact ⟨_, _, rfl, SqL.of h, r⟩
theorem is_lstM {v : V} {ds : List D} (h : Is K I v (.lst ds)) : ∃ a xs, v = .ref a ∧ I a = some (.lst xs) ∧ IsAll K I xs ds := by
  cases h with
  | lst h r => exact ⟨_, _, rfl, h, r⟩
theorem is_tup {v : V} {ds : List D} (h : Is K I v (.tup ds)) : ∃ a xs, v = .ref a ∧ SqT K I a xs ∧ IsAll K I xs ds := by
  cases h with
  | tup h r => exact ⟨_, _, rfl, h.t, r⟩
theorem is_tupN {v : V} {ds : List D} (h : Is K I v (.tup ds)) : ∃ a xs, v = .ref a ∧ SqN K I a xs ∧ IsAll K I xs ds := by
  cases h with
  | tup h r => exact ⟨_, _, rfl, h, r⟩
theorem is_dic {v : V} {gs : List (Key × D)} (h : Is K I v (.dic gs)) : ∃ a kvs, v = .ref a ∧ I a = some (.dK kvs) ∧ IsKv K I kvs gs := by
  cases h with
  | dic h r => exact ⟨_, _, rfl, h, r⟩
theorem is_dt {v : V} {g : PGw} {gs : List (List Key × D)} (h : Is K I v (.dt g gs)) : ∃ a o us, v = .ref a ∧ I a = some (pinO a o) ∧ (a == sysModules) = false ∧ DtOb g o us ∧ IsT K I us gs := by
  cases h with
  | dt h y o r => exact ⟨_, _, _, rfl, h, y, o, r⟩
theorem is_ins {v : V} {C : Addr} {gs : List (Str × D)} (h : Is K I v (.ins C gs)) : ∃ a dx fs, v = .ref a ∧ I a = some (.ins C dx fs) ∧ IsFs K I fs gs := by
  cases h with
  | ins h r => exact ⟨_, _, _, rfl, h, r⟩
end
structure Wd where
  ok : Hp → Hp → Prop
  free : Addr → Prop
  ex : ∀ {I H}, ok I H → Same I H
  alo : ∀ {I H p o}, ok I H → H p = none → ok I (upd H p o)
  fr : ∀ {I H p}, ok I H → H p = none → free p
  mu : ∀ {I H p o}, ok I H → I p = none → free p → ok I (upd H p o)
  fzs : ∀ {I I' H}, ok I H → (∀ a, I' a = I a ∨ (I a = none ∧ free a ∧ I' a = H a)) → ok I' H
  nb : ∀ {I H a}, ok I H → ¬ free a → I a = none
  anti : ∀ {I I' H}, ok I' H → Same I I' → ok I H
theorem Same.up {I H : Hp} {p : Addr} {o : HO} (e : Same I H) (h : I p = none) : Same I (upd H p o) := fun b u q => by
  rw [upd_ne (ne_of_none q h)]
  exact e b u q
theorem Same.non {I H : Hp} {p : Addr} (e : Same I H) (h : H p = none) : I p = none := e.free h
theorem Same.new {I : Hp} {p : Addr} {o : HO} (h : I p = none) : Same I (upd I p o) := fun b u q => by
  rw [upd_ne (ne_of_none q h)]
  exact q
theorem Wd.fz (W : Wd) {I H : Hp} {p : Addr} {o : HO} (h : W.ok I H) (n : I p = none) (f : W.free p) (e : H p = some o) : W.ok (upd I p o) H :=
  W.fzs h fun a => by
    by_cases ha : a = p
    · subst ha
      exact .inr ⟨n, f, by rw [upd_same, e]⟩
    · exact .inl (upd_ne ha)
theorem Wd.al (W : Wd) {I H : Hp} {p : Addr} {o : HO} (h : W.ok I H) (n : H p = none) : W.ok (upd I p o) (upd H p o) :=
  W.fz (W.alo h n) (Same.non (W.ex h) n) (W.fr h n) upd_same
/-- nothing else may change -/
def W0 : Wd where
  ok := Same
  free := fun _ => True
  ex := id
  alo := fun h n => Same.up h (Same.non h n)
  fr := fun _ _ => trivial
  mu := fun h n _ => Same.up h n
  fzs := fun {I I' H} h k a o e => by
    rcases k a with q | ⟨_, _, q⟩
    · rw [q] at e; exact h a o e
    · rw [q] at e; exact e
  nb := fun _ h => absurd trivial h
  anti := fun h e => e.trans h
/-- what came later: O, O' the lists that one's own slots own -/
structure Lat (W : Wd) (O : Addr → Prop) (I H : Hp) (O' : Addr → Prop) (I' H' : Hp) : Prop where
  ex : Same I I'
  ok : W.ok I' H'
  fr : ∀ a o, W.free a → ¬ O a → H a = some o → H' a = some o
  nw : ∀ a, I a = none → I' a ≠ none → H a = none ∨ O a
  ow : ∀ a, O' a → W.free a ∧ (H a = none ∨ O a)
abbrev N0 : Addr → Prop := fun _ => False
abbrev Later (W : Wd) (I H I' H' : Hp) : Prop := Lat W N0 I H N0 I' H'
section
variable {W : Wd} {O O' O2 : Addr → Prop} {I H I' H' I2 H2 : Hp}
theorem Lat.refl (h : W.ok I H) (hf : ∀ a, O a → W.free a) : Lat W O I H O I H :=
  ⟨Same.refl I, h, fun _ _ _ _ e => e, fun _ n e => absurd n e, fun a o => ⟨hf a o, .inr o⟩⟩
theorem Later.refl (h : W.ok I H) : Later W I H I H := Lat.refl h fun _ z => z.elim
theorem Lat.trans (a : Lat W O I H O' I' H') (b : Lat W O' I' H' O2 I2 H2) : Lat W O I H O2 I2 H2 where
  ex := a.ex.trans b.ex
  ok := b.ok
  fr := fun c o f n e => b.fr c o f (fun z => (a.ow c z).2.elim (fun q => by rw [e] at q; cases q) n) (a.fr c o f n e)
  nw := fun c n e => by
    have fc : W.free c := Classical.byContradiction fun z => e (W.nb b.ok z)
    by_cases h1 : I' c = none
    · rcases b.nw c h1 e with q | q
      · cases hc : H c with
        | none => exact .inl rfl
        | some o =>
          by_cases ho : O c
          · exact .inr ho
          · rw [a.fr c o fc ho hc] at q; cases q
      · exact (a.ow c q).2
    · exact a.nw c n h1
  ow := fun c o => by
    obtain ⟨f, q⟩ := b.ow c o
    refine ⟨f, ?_⟩
    rcases q with q | q
    · cases hc : H c with
      | none => exact .inl rfl
      | some u =>
        by_cases ho : O c
        · exact .inr ho
        · rw [a.fr c u f ho hc] at q; cases q
    · exact (a.ow c q).2
/-- an expression's, within a state that owns lists -/
theorem Lat.own (a : Later W I H I' H') (hf : ∀ a, O a → W.free a) : Lat W O I H O I' H' :=
  ⟨a.ex, a.ok, fun c o f _ e => a.fr c o f (fun z => z) e, fun c n e => (a.nw c n e).elim .inl fun z => z.elim, fun c o => ⟨hf c o, .inr o⟩⟩
theorem Later.alloc {p : Addr} {o : HO} (h : W.ok I H) (n : H p = none) : Later W I H (upd I p o) (upd H p o) where
  ex := Same.new (Same.non (W.ex h) n)
  ok := W.al h n
  fr := fun a u _ _ e => by rw [upd_ne (ne_of_none e n)]; exact e
  nw := fun a hn e => .inl (by
    by_cases ha : a = p
    · rw [ha]; exact n
    · rw [upd_ne ha] at e; exact absurd hn e)
  ow := fun _ z => z.elim
theorem Later.allocO {p : Addr} {o : HO} (h : W.ok I H) (n : H p = none) : Later W I H I (upd H p o) where
  ex := Same.refl I
  ok := W.alo h n
  fr := fun a u _ _ e => by rw [upd_ne (ne_of_none e n)]; exact e
  nw := fun a hn e => absurd hn e
  ow := fun _ z => z.elim
/-- freezing a list that nobody else knows -/
theorem Later.freeze {p : Addr} {o : HO} (h : W.ok I H) (a : Later W I H I' H') (n : I' p = none) (hn : H p = none) (e : H' p = some o) : Later W I H (upd I' p o) H' where
  ex := a.ex.trans (Same.new n)
  ok := W.fz a.ok n (W.fr h hn) e
  fr := a.fr
  nw := fun c hc q => by
    by_cases h : c = p
    · rw [h]; exact .inl hn
    · rw [upd_ne h] at q; exact a.nw c hc q
  ow := fun _ z => z.elim
end
/-- what a slot holds: data, or a thing that it alone owns: a list, an instance, a tuple with a list in it at p -/
inductive SD where
  | dat (d : D) | own (ds : List D) | obj (p C : Addr) (fs : List (Str × D)) | tupo (p : Addr) (pre ds post : List D) | dk (gs : List (Key × D))
  /-- a dict by tuples -/
  | dt (g : PGw) (gs : List (List Key × D))
  /-- a dict by texts that holds, at k, a dict by tuples at q -/
  | wd (q : Addr) (pre : List (Key × D)) (k : Key) (post : List (Key × D)) (g : PGw) (gs : List (List Key × D))
  /-- a dict by texts that holds lists of its own, each at its place -/
  | kl (gs : List (Key × Addr × List D))
/-- such a dict as data -/
def klD (gs : List (Key × Addr × List D)) : List (Key × D) := gs.map fun g => (g.1, .lst g.2.2)
def klV (gs : List (Key × Addr × List D)) : List (Key × V) := gs.map fun g => (g.1, .ref g.2.1)
abbrev Tau := List (Option SD)
abbrev dd (d : D) : Option SD := some (.dat d)
def At (K : PySem.W.Frag) (W : Wd) (I H : Hp) (v : V) : SD → Prop
  | .dat d => Is K I v d
  | .own ds => ∃ p vs, v = .ref p ∧ H p = some (.lst vs) ∧ I p = none ∧ W.free p ∧ IsAll K I vs ds
  | .obj p C fs => ∃ dx vs, v = .ref p ∧ H p = some (.ins C dx vs) ∧ I p = none ∧ W.free p ∧ IsFs K I vs fs
  | .dk gs => ∃ p vs, v = .ref p ∧ H p = some (.dK vs) ∧ I p = none ∧ W.free p ∧ IsKv K I vs gs
  | .dt g gs => ∃ p o us, v = .ref p ∧ H p = some (pinO p o) ∧ I p = none ∧ W.free p ∧ (p == sysModules) = false ∧ DtOb g o us ∧ IsT K I us gs
  | .wd q pre k post g gs => ∃ p o us as bs, v = .ref p ∧ H p = some (.dK (as ++ (k, .ref q) :: bs)) ∧ I p = none ∧ W.free p ∧ IsKv K I as pre ∧ IsKv K I bs post ∧ H q = some (pinO q o) ∧ I q = none ∧ W.free q ∧ (q == sysModules) = false ∧ DtOb g o us ∧ IsT K I us gs
  | .tupo p pre ds post => ∃ t us ws vs, v = .ref t ∧ SqN K I t (us ++ .ref p :: ws) ∧ IsAll K I us pre ∧ IsAll K I ws post ∧ H p = some (.lst vs) ∧ I p = none ∧ W.free p ∧ IsAll K I vs ds
  | .kl gs => ∃ p, v = .ref p ∧ H p = some (.dK (klV gs)) ∧ I p = none ∧ W.free p ∧ (gs.map (·.2.1)).Nodup ∧ ∀ g ∈ gs, ∃ vs, H g.2.1 = some (.lst vs) ∧ I g.2.1 = none ∧ W.free g.2.1 ∧ IsAll K I vs g.2.2
/-- what it owns -/
def OwnV (v : V) : SD → Addr → Prop
  | .dat _, _ => False
  | .own _, a => v = .ref a
  | .obj p _ _, a => a = p
  | .tupo p _ _ _, a => a = p
  | .dk _, a => v = .ref a
  | .dt _ _, a => v = .ref a
  | .wd q _ _ _ _ _, a => v = .ref a ∨ a = q
  | .kl gs, a => v = .ref a ∨ ∃ g ∈ gs, g.2.1 = a
structure Rep (K : PySem.W.Frag) (W : Wd) (I H : Hp) (σ : St) (τ : Tau) : Prop where
  len : σ.length = τ.length
  at_ : ∀ (i : Nat) (s : SD), τ[i]? = some (some s) → ∃ v, σ[i]? = some (some v) ∧ At K W I H v s
  inj : ∀ (i j : Nat) (s t : SD) (v w : V) (a : Addr), τ[i]? = some (some s) → τ[j]? = some (some t) → σ[i]? = some (some v) → σ[j]? = some (some w) → OwnV v s a → OwnV w t a → i = j
def Own (σ : St) (τ : Tau) (p : Addr) : Prop := ∃ (i : Nat) (s : SD) (v : V), τ[i]? = some (some s) ∧ σ[i]? = some (some v) ∧ OwnV v s p
section
variable {K : PySem.W.Frag} {W : Wd} {I H I' H' : Hp} {σ : St} {τ : Tau}
theorem At.owned {v : V} {s : SD} {a : Addr} (h : At K W I H v s) (o : OwnV v s a) : I a = none ∧ W.free a ∧ ∃ u, H a = some u := by
  cases s with
  | dat d => exact o.elim
  | own ds =>
    obtain ⟨p, vs, e, hp, hi, hf, _⟩ := h
    subst e
    cases o
    exact ⟨hi, hf, _, hp⟩
  | obj p C fs =>
    obtain ⟨dx, vs, e, hp, hi, hf, _⟩ := h
    subst e
    cases o
    exact ⟨hi, hf, _, hp⟩
  | tupo p pre ds post =>
    obtain ⟨t, us, ws, vs, e, st, _, _, hp, hi, hf, _⟩ := h
    cases o
    exact ⟨hi, hf, _, hp⟩
  | dk gs =>
    obtain ⟨p, vs, e, hp, hi, hf, _⟩ := h
    subst e
    cases o
    exact ⟨hi, hf, _, hp⟩
  | dt g gs =>
    obtain ⟨p, ob, us, e, hp, hi, hf, _⟩ := h
    subst e
    cases o
    exact ⟨hi, hf, _, hp⟩
  | wd q pre k post g gs =>
    obtain ⟨p, ob, us, as, bs, e, hp, hi, hf, _, _, hq, hiq, hfq, _⟩ := h
    subst e
    rcases o with o | o
    · cases o
      exact ⟨hi, hf, _, hp⟩
    · subst o
      exact ⟨hiq, hfq, _, hq⟩
  | kl gs =>
    obtain ⟨p, e, hp, hi, hf, _, al⟩ := h
    subst e
    rcases o with o | ⟨g, hg, rfl⟩
    · cases o
      exact ⟨hi, hf, _, hp⟩
    · obtain ⟨vs, h1, h2, h3, _⟩ := al g hg
      exact ⟨h2, h3, _, h1⟩
/-- it hangs on what it owns alone -/
theorem At.keep {v : V} {s : SD} (h : At K W I H v s) (e : Same I I') (n : ∀ a, OwnV v s a → I' a = none) (k : ∀ a, OwnV v s a → H' a = H a) : At K W I' H' v s := by
  cases s with
  | dat d => exact Is.mono e h
  | own ds =>
    obtain ⟨p, vs, e1, hp, hi, hf, r⟩ := h
    subst e1
    exact ⟨p, vs, rfl, (k p rfl).trans hp, n p rfl, hf, IsAll.mono e r⟩
  | obj p C fs =>
    obtain ⟨dx, vs, e1, hp, hi, hf, r⟩ := h
    subst e1
    exact ⟨dx, vs, rfl, (k p rfl).trans hp, n p rfl, hf, IsFs.mono e r⟩
  | tupo p pre ds post =>
    obtain ⟨t, us, ws, vs, e1, st, h1, h2, hp, hi, hf, r⟩ := h
    exact ⟨t, us, ws, vs, e1, Same.seqN e st, IsAll.mono e h1, IsAll.mono e h2, (k p rfl).trans hp, n p rfl, hf, IsAll.mono e r⟩
  | dk gs =>
    obtain ⟨p, vs, e1, hp, hi, hf, r⟩ := h
    subst e1
    exact ⟨p, vs, rfl, (k p rfl).trans hp, n p rfl, hf, IsKv.mono e r⟩
  | dt g gs =>
    obtain ⟨p, ob, us, e1, hp, hi, hf, y, o, r⟩ := h
    subst e1
    exact ⟨p, ob, us, rfl, (k p rfl).trans hp, n p rfl, hf, y, o, IsT.mono e r⟩
  | wd q pre kk post g gs =>
    obtain ⟨p, ob, us, as, bs, e1, hp, hi, hf, r1, r2, hq, hiq, hfq, y, o, r⟩ := h
    subst e1
    exact ⟨p, ob, us, as, bs, rfl, (k p (.inl rfl)).trans hp, n p (.inl rfl), hf, IsKv.mono e r1, IsKv.mono e r2, (k q (.inr rfl)).trans hq, n q (.inr rfl), hfq, y, o, IsT.mono e r⟩
  | kl gs =>
    obtain ⟨p, e1, hp, hi, hf, nd, al⟩ := h
    subst e1
    refine ⟨p, rfl, (k p (.inl rfl)).trans hp, n p (.inl rfl), hf, nd, fun g hg => ?_⟩
    obtain ⟨vs, h1, h2, h3, h4⟩ := al g hg
    exact ⟨vs, (k _ (.inr ⟨g, hg, rfl⟩)).trans h1, n _ (.inr ⟨g, hg, rfl⟩), h3, IsAll.mono e h4⟩
theorem At.later {v : V} {s : SD} (h : At K W I H v s) (l : Later W I H I' H') : At K W I' H' v s := by
  refine h.keep l.ex (fun a o => ?_) fun a o => ?_
  · obtain ⟨hi, hf, u, hp⟩ := h.owned o
    cases q : I' a with
    | none => rfl
    | some o =>
      rcases l.nw a hi (by rw [q]; intro z; cases z) with z | z
      · rw [hp] at z; cases z
      · exact z.elim
  · obtain ⟨hi, hf, u, hp⟩ := h.owned o
    rw [hp]
    exact l.fr a _ hf (fun z => z) hp
theorem Rep.later (r : Rep K W I H σ τ) (l : Later W I H I' H') : Rep K W I' H' σ τ :=
  ⟨r.len, fun i s e => let ⟨v, h1, h2⟩ := r.at_ i s e; ⟨v, h1, h2.later l⟩, r.inj⟩
theorem Rep.owned (r : Rep K W I H σ τ) {a : Addr} (o : Own σ τ a) : I a = none ∧ W.free a ∧ ∃ u, H a = some u := by
  obtain ⟨i, s, v, e1, e2, o⟩ := o
  obtain ⟨v', q, h⟩ := r.at_ i _ e1
  rw [e2] at q
  cases q
  exact h.owned o
theorem Rep.free (r : Rep K W I H σ τ) : ∀ a, Own σ τ a → W.free a := fun a o => (r.owned o).2.1
theorem Rep.own (r : Rep K W I H σ τ) (l : Later W I H I' H') : Lat W (Own σ τ) I H (Own σ τ) I' H' := l.own r.free
theorem Rep.refl (r : Rep K W I H σ τ) (h : W.ok I H) : Lat W (Own σ τ) I H (Own σ τ) I H := Lat.refl h r.free
theorem getSet {α : Type} {l : List (Option α)} {i j : Nat} {x y : α} (h : (l.set i (some x))[j]? = some (some y)) : (i = j ∧ j < l.length ∧ y = x) ∨ (i ≠ j ∧ l[j]? = some (some y)) := by
  by_cases hj : i = j
  · subst hj
    by_cases hv : i < l.length
    · rw [List.getElem?_set_self hv] at h
      cases h
      exact .inl ⟨rfl, hv, rfl⟩
    · rw [List.getElem?_eq_none (by simpa using hv)] at h
      cases h
  · rw [List.getElem?_set_ne hj] at h
    exact .inr ⟨hj, h⟩
theorem Own.set {i : Nat} {v : V} {s : SD} {a : Addr} (h : Own (σ.set i (some v)) (τ.set i (some s)) a) : OwnV v s a ∨ Own σ τ a := by
  obtain ⟨j, t, w, e1, e2, o⟩ := h
  rcases getSet e1 with ⟨rfl, _, rfl⟩ | ⟨hj, f1⟩
  · rcases getSet e2 with ⟨_, _, rfl⟩ | ⟨hj, _⟩
    · exact .inl o
    · exact absurd rfl hj
  · rcases getSet e2 with ⟨rfl, _, rfl⟩ | ⟨_, f2⟩
    · exact absurd rfl hj
    · exact .inr ⟨j, t, w, f1, f2, o⟩
theorem Own.set_dat {i : Nat} {v : V} {d : D} {a : Addr} (h : Own (σ.set i (some v)) (τ.set i (some (.dat d))) a) (hl : σ.length = τ.length) : Own σ τ a := h.set.elim (fun z => z.elim) id
/-- a slot is set to what no other slot owns -/
theorem Rep.set {i : Nat} {v : V} {s : SD} (r : Rep K W I H σ τ) (h : At K W I H v s) (n : ∀ a, OwnV v s a → ∀ (j : Nat) (t : SD) (w : V), j ≠ i → τ[j]? = some (some t) → σ[j]? = some (some w) → ¬ OwnV w t a) : Rep K W I H (σ.set i (some v)) (τ.set i (some s)) := by
  refine ⟨by simpa using r.len, fun j t e => ?_, fun j k t u x y a e1 e2 e3 e4 o1 o2 => ?_⟩
  · rcases getSet e with ⟨rfl, hl, rfl⟩ | ⟨hj, e⟩
    · exact ⟨v, List.getElem?_set_self (by rw [r.len]; exact hl), h⟩
    · rw [List.getElem?_set_ne hj]
      exact r.at_ j t e
  · rcases getSet e1 with ⟨rfl, _, rfl⟩ | ⟨hj, f1⟩
    · rcases getSet e2 with ⟨q, _, rfl⟩ | ⟨hk, f2⟩
      · exact q
      · exfalso
        rw [List.getElem?_set_ne hk] at e4
        rcases getSet e3 with ⟨_, _, rfl⟩ | ⟨q, _⟩
        · exact n a o1 k u y (Ne.symm hk) f2 e4 o2
        · exact absurd rfl q
    · rw [List.getElem?_set_ne hj] at e3
      rcases getSet e2 with ⟨rfl, _, rfl⟩ | ⟨hk, f2⟩
      · exfalso
        rcases getSet e4 with ⟨_, _, rfl⟩ | ⟨q, _⟩
        · exact n a o2 j t x (Ne.symm hj) f1 e3 o1
        · exact absurd rfl q
      · rw [List.getElem?_set_ne hk] at e4
        exact r.inj j k t u x y a f1 f2 e3 e4 o1 o2
theorem Rep.set_dat {i : Nat} {v : V} {d : D} (r : Rep K W I H σ τ) (h : Is K I v d) : Rep K W I H (σ.set i (some v)) (τ.set i (some (.dat d))) := r.set h fun _ z => z.elim
/-- a slot is set to what no slot holds -/
theorem Rep.set_new {i : Nat} {v : V} {s : SD} (r : Rep K W I H σ τ) (h : At K W I H v s) (n : ∀ a, OwnV v s a → ¬ Own σ τ a) : Rep K W I H (σ.set i (some v)) (τ.set i (some s)) :=
  r.set h fun a o j t w _ e1 e2 o2 => n a o ⟨j, t, w, e1, e2, o2⟩
/-- a slot is set to a list of its own, that no slot holds -/
theorem Rep.set_own {i : Nat} {p : Addr} {vs : List V} {ds : List D} (r : Rep K W I H σ τ) (hn : ¬ Own σ τ p) (hp : H p = some (.lst vs)) (hi : I p = none) (hf : W.free p) (h : IsAll K I vs ds) :
    Rep K W I H (σ.set i (some (.ref p))) (τ.set i (some (.own ds))) := r.set_new ⟨p, vs, rfl, hp, hi, hf, h⟩ fun a o => by cases o; exact hn
theorem Own.set_own {i : Nat} {p a : Addr} {ds : List D} (h : Own (σ.set i (some (.ref p))) (τ.set i (some (.own ds))) a) : a = p ∨ Own σ τ a := h.set.imp_left fun o => by cases o; rfl
end
/-- its class, its fields -/
abbrev Exc := Value × List (Str × D)
def IsX (K : PySem.W.Frag) (I : Hp) (cls : Value) (da : Option Addr) (x : Exc) : Prop :=
  cls = x.1 ∧ ((x.2 = [] ∧ da = none) ∨ ∃ (d : Addr) (vs : List (Str × V)), da = some d ∧ I d = some (.xd vs) ∧ IsFs K I vs x.2)
abbrev TDE := Tau → (D → Prop) → (Exc → Prop) → Prop
abbrev TDT := Tau → (Bool → Prop) → (Exc → Prop) → Prop
abbrev TDA := Tau → (List D → Prop) → (Exc → Prop) → Prop
/-- a fresh list of one's own: its items -/
abbrev TDO := Tau → (List D → Prop) → (Exc → Prop) → Prop
structure DEnds where
  nx : Tau → Prop
  rt : SD → Prop
  bk : Tau → Prop := fun _ => False
  ct : Tau → Prop := fun _ => False
  ex : Exc → Tau → Prop := fun _ _ => False
abbrev TDS := Tau → DEnds → Prop
section
variable (K : PySem.W.Frag) (W : Wd) (Wx : WX)
/-- what is wanted of an exception -/
def XOk (R : Exc → Prop) (I H : Hp) (σ : St) : Prop := ∀ (cls : Value) (da : Option Addr) (x : Exc) (I' H' : Hp), R x → IsX K I' cls da x → Later W I H I' H' → Wx cls da σ H'
def SimE (te : TE) (t : TDE) : Prop := ∀ (I H : Hp) (σ : St) (τ : Tau) (Q : D → Prop) (R : Exc → Prop) (G : VK), W.ok I H → Rep K W I H σ τ → t τ Q R →
  (∀ v d I' H', Q d → Is K I' v d → Later W I H I' H' → G v H') → XOk K W Wx R I H σ → te σ H G
def SimT (te : TT) (t : TDT) : Prop := ∀ (I H : Hp) (σ : St) (τ : Tau) (Q : Bool → Prop) (R : Exc → Prop) (G : Bool → Hp → Prop), W.ok I H → Rep K W I H σ τ → t τ Q R →
  (∀ b I' H', Q b → Later W I H I' H' → G b H') → XOk K W Wx R I H σ → te σ H G
def SimA (te : TA) (t : TDA) : Prop := ∀ (I H : Hp) (σ : St) (τ : Tau) (Q : List D → Prop) (R : Exc → Prop) (G : List V → Hp → Prop), W.ok I H → Rep K W I H σ τ → t τ Q R →
  (∀ vs ds I' H', Q ds → IsAll K I' vs ds → Later W I H I' H' → G vs H') → XOk K W Wx R I H σ → te σ H G
def SimO (te : TE) (t : TDO) : Prop := ∀ (I H : Hp) (σ : St) (τ : Tau) (Q : List D → Prop) (R : Exc → Prop) (G : VK), W.ok I H → Rep K W I H σ τ → t τ Q R →
  (∀ p vs ds I' H', Q ds → H p = none → H' p = some (.lst vs) → I' p = none → IsAll K I' vs ds → Later W I H I' H' → G (.ref p) H') → XOk K W Wx R I H σ → te σ H G
end
/-- a thing of one's own, or data -/
abbrev TDX := Tau → (SD → Prop) → (Exc → Prop) → Prop
def SimX (K : PySem.W.Frag) (W : Wd) (Wx : WX) (te : TE) (t : TDX) : Prop := ∀ (I H : Hp) (σ : St) (τ : Tau) (Q : SD → Prop) (R : Exc → Prop) (G : VK), W.ok I H → Rep K W I H σ τ → t τ Q R →
  (∀ v s I' H', Q s → At K W I' H' v s → (∀ a, OwnV v s a → H a = none) → Later W I H I' H' → G v H') → XOk K W Wx R I H σ → te σ H G
theorem XOk.later {K : PySem.W.Frag} {W : Wd} {Wx : WX} {R : Exc → Prop} {I H I' H' : Hp} {σ : St} (x : XOk K W Wx R I H σ) (l : Later W I H I' H') : XOk K W Wx R I' H' σ :=
  fun cls da e I2 H2 r ix l2 => x cls da e I2 H2 r ix (l.trans l2)
/-- a fresh list may stand for data -/
theorem SimO.e {K : PySem.W.Frag} {W : Wd} {Wx : WX} {te : TE} {t : TDO} (h : SimO K W Wx te t) : SimE K W Wx te (fun τ Q R => t τ (fun ds => Q (.lst ds)) R) :=
  fun I H σ τ Q R G ok r ht hq hx => h I H σ τ _ R G ok r ht (fun p vs ds I' H' q hp hp' hi al l =>
    hq (.ref p) (.lst ds) (upd I' p (.lst vs)) H' q (.lst upd_same (IsAll.mono (Same.new hi) al)) (l.freeze ok hi hp hp')) hx
structure DE (X : Cx) (K : PySem.W.Frag) (W : Wd) (Wx : WX) (e : Expr) (te : TE) (t : TDE) : Prop where
  k : X.K = K
  pe : PE X e te
  sim : SimE K W Wx te t
structure DT (X : Cx) (K : PySem.W.Frag) (W : Wd) (Wx : WX) (e : Expr) (te : TT) (t : TDT) : Prop where
  k : X.K = K
  pt : PT X e te
  sim : SimT K W Wx te t
structure DW (X : Cx) (K : PySem.W.Frag) (W : Wd) (Wx : WX) (e : Expr) (te : TT) (t : TDT) : Prop where
  k : X.K = K
  pw : PW X e te
  sim : SimT K W Wx te t
structure DA (X : Cx) (K : PySem.W.Frag) (W : Wd) (Wx : WX) (e : List Expr) (te : TA) (t : TDA) : Prop where
  k : X.K = K
  pa : PA X e te
  sim : SimA K W Wx te t
structure DO (X : Cx) (K : PySem.W.Frag) (W : Wd) (Wx : WX) (e : Expr) (te : TE) (t : TDO) : Prop where
  k : X.K = K
  pe : PE X e te
  sim : SimO K W Wx te t
structure DX (X : Cx) (K : PySem.W.Frag) (W : Wd) (Wx : WX) (e : Expr) (te : TE) (t : TDX) : Prop where
  k : X.K = K
  pe : PE X e te
  sim : SimX K W Wx te t
theorem DO.e {X : Cx} {W : Wd} {Wx : WX} {e : Expr} {te : TE} {t : TDO} (h : DO X K W Wx e te t) : DE X K W Wx e te (fun τ Q R => t τ (fun ds => Q (.lst ds)) R) := by
  have hk := h.k; subst hk
  exact ⟨rfl, h.pe, h.sim.e⟩
theorem DW.t {X : Cx} {W : Wd} {Wx : WX} {e : Expr} {te : TT} {t : TDT} (h : DW X K W Wx e te t) : DT X K W Wx e te t := by
  have hk := h.k; subst hk
  exact ⟨rfl, h.pw.pt, h.sim⟩
end D3
namespace D3
open PySem PySem.Spec PyProof.Rows L2
theorem ObjOk.tupN {P : Program} {w : World} {H : Hp} {h : Heap} {a : Addr} {o : Obj} {xs : List V} {us : List Value} {n : Nat} (e : h.get? a = some o) (c : o.cls = .type "tuple") (d : o.data = .seq us.toArray n) (z : xs.length ≤ sizeLine) (r : Vals xs us) : ObjOk P w H h a (.frz o (.tup xs)) :=
  ⟨e, z, us, r, o, e, c, n, d⟩
def tTupN (t : TA) : TE := fun σ H Q => t σ H fun xs H1 => xs.length ≤ sizeLine ∧ ∀ (p : Addr) (o : Obj), H1 p = none → o.dict = none → Q (.ref p) (upd H1 p (.frz o (.tup xs)))
section
variable {X : Cx} {es : List Expr} {t : TA} {pos : Pos}
theorem pe_tupN {x1} (h : PA X es t) : PE X (.Tuple es x1 pos) (tTupN t) :=
  ⟨fun pn s σ H Q I h0 => wpAny_Tuple_spliced (thn (h.run pos pn s σ H _ I h0) fun us s1 y => by
    obtain ⟨xs, H1, I1, r, z, q⟩ := y
    refine ⟨by rw [← r.length]; exact z, .ref s1.heap.objs.size, _, I1.laid (t' := s1.toks) (fun b u e => Heap.get?_push_of_some _ e) (Nat.le_refl _) (ObjOk.tupN (us := us) (Heap.get?_push_size _ rfl) rfl rfl z r), rfl, q _ _ (I1.hok.fresh (Nat.le_refl _)) rfl⟩)⟩
def rTupleN (K : PySem.W.Frag) : List V → Hp → VK → Prop := fun xs H Q => ∃ p ys, xs = [.ref p] ∧ ((SqL K H p ys ∧ ∀ (l : Addr) (o : Obj), H l = none → o.dict = none → Q (.ref l) (upd H l (.frz o (.tup ys)))) ∨ (SqT K H p ys ∧ Q (.ref p) H))
theorem call_tuple_ofN : CallR X (.type "tuple") (rTupleN X.K) := by
  intro pn s σ H xs us Q I r h
  obtain ⟨p, ys, rfl, ⟨hq, q⟩ | ⟨hq, q⟩⟩ := h
  · obtain ⟨its, r', pl, hz⟩ := I.list hq
    rw [Vals.ref1 r]
    have hlen := r'.length
    refine call_tuple_list pl.isList (fun h' kp => ?_) (by rw [List.size_toArray]; omega)
    have I1 : L2.Inv X pn σ H { s with heap := h' } := I.kept (t' := s.toks) kp
    exact ⟨.ref h'.objs.size, _, I1.laid (t' := s.toks) (h' := h'.push { cls := .type "tuple", data := .seq its.toArray }) (fun b o e => Heap.get?_push_of_some _ e) (Nat.le_refl _) (ObjOk.tupN (us := its) (Heap.get?_push_size _ rfl) rfl rfl hz r'), rfl, q _ _ (I1.hok.fresh (Nat.le_refl _)) rfl⟩
  · exact call_tuple_of pn s σ H _ us Q I r ⟨p, ys, rfl, .inr ⟨hq, q⟩⟩
end
end D3
set_option Elab.async false
set_option linter.all false
set_option maxRecDepth 100000
set_option maxHeartbeats 2000000
namespace D3
open PySem PySem.Spec PyProof.Rows L2
structure RoomG (k : Nat) (A : Around) : Prop where
  r : Room k A
  g : A.guards = some []
theorem RoomG.mono {j k : Nat} {A : Around} (r : RoomG k A) (h : j ≤ k) : RoomG j A := ⟨r.r.mono h, r.g⟩
theorem RoomG.units {k : Nat} {A : Around} (r : RoomG k A) : A.units + 64 < cLine := r.r.units
theorem RoomG.deeper {k : Nat} {A : Around} (r : RoomG (k + 1) A) (env : Env) : RoomG k (A.deeper env) := ⟨r.r.deeper env, r.g⟩
structure FnG (P : Program) (w : World) (K : PySem.W.Frag) (mg : Str → Option Value) (base : Heap) (C : CXT) (k : Nat) (f : Addr) (fd : FuncData) (ps : List Str) (sp : Sp) : Prop where
  len : ∀ vs H Q E, sp vs H Q E → vs.length = ps.length
  run : ∀ (A : Around) (outer : List Env) (s : Shared) (H : Hp) (args : Args) (us : List Value) (vs : List V) (Q : VK) (E : XK), RoomG k A → Env0 P w K mg base A outer s H → BindsTo s fd args (ps.zip us) → Vals vs us → sp vs H Q E →
    codeAny (model P w) A (.call (.ref f) args) (CR C outer P w H s Q E) s
theorem FnG.of {P : Program} {w : World} {K : PySem.W.Frag} {mg : Str → Option Value} {base : Heap} {C : CXT} {k : Nat} {f : Addr} {fd : FuncData} {ps : List Str} {sp : Sp} (F : FnOk P w K mg base C k f fd ps sp) : FnG P w K mg base C k f fd ps sp :=
  ⟨F.len, fun A outer s H args us vs Q E r => F.run A outer s H args us vs Q E r.r⟩
section
variable {P : Program} {w : World} {K : PySem.W.Frag} {mg : Str → Option Value} {base : Heap} {C : CXT} {k : Nat} {f : Addr} {fd : FuncData} {N ps : List Str} {sp : Sp}
/-- a def of the text keeps its promise, by its body -/
theorem fnG {x qual : Str} {st : Stmt} (F : Fun K x qual st f fd) (S : FnScope N ps (defScope st)) (len : ∀ vs H Q E, sp vs H Q E → vs.length = ps.length)
    (body : ∀ (cdv : Value) (A : Around) (outer : List Env) (s : Shared) (H : Hp) (vs : List V) (Q : VK) (E : XK), RoomG k (A.deeper (envOfC qual (defScope st) s.heap.objs.size f cdv)) → sp vs H Q E →
      ∃ t, PSs (cxOf C P w K mg base N qual (defScope st) f cdv A outer s H E) (defBody st) t ∧ t { nx := fun _ H' => Q .non H', rt := Q } (start N vs) H) : FnG P w K mg base C (k + 1) f fd ps sp := by
  obtain ⟨oc, od, kV, doc, pm, an, cdv, ct, osl, rfl, lk, hcd⟩ := F.ex
  refine ⟨len, fun A outer s H args us vs Q E hr e0 hb rv hsp => ?_⟩
  have inK : K.In s.heap := e0.mod.kin.keeps fun b o e => (e0.bs b o e).1
  have free : s.heap.NoLimit := e0.mod.nolimit.keeps fun b o e => (e0.bs b o e).1
  have kinds : ∀ y ∈ ps.zip us, (defScope st).names.lookup y.1 = some .local ∨ ((defScope st).names.lookup y.1 = some .cell ∧ ((cellsFrom (s.heap.objs.size + 1) (defScope st).names []).lookup y.1).isSome = true) := fun y hy =>
    (S.par y.1 (List.of_mem_zip (a := y.1) (b := y.2) hy).1).elim .inl fun q => .inr ⟨q, PySem.W.cellsFrom_some _ _ _ (.inl q)⟩
  refine codeAny_call_function hr.r.depth (inK _ _ lk) rfl S.co S.gen rfl (PySem.W.codeRec_of inK hcd) (hb _ _ _ _ (wpAny_newFunctionEnv_cells S.kind kinds fun env ee s1 ic => ?_))
  cases ee
  obtain ⟨t, ht, hq⟩ := body cdv A outer s H vs Q E (hr.deeper _) hsp
  refine ⟨free.keeps ic.toInCall.keep, codeAny_func (wpAny_mono (ht.run [] s1 (start N vs) H _ (inv_start S hr.r.hd e0 (len _ _ _ _ hsp) rv ic) hq) (fun fl z hz => ?_) fun _ _ hz => hz)⟩
  have ended : ∀ {σ' : L2.St} {H' : Hp} {v : V} {u : Value}, Inv (cxOf C P w K mg base N qual (defScope st) f cdv A outer s H E) [] σ' H' z → RelV v u → Q v H' → CE outer P w H s Q u z := fun J ru q => ⟨_, _, J.os, J.bare, J.base, J.hok, ru, q⟩
  match fl, hz with
  | .ret u, ⟨v, σ', H', J, ru, q⟩ => exact ended J ru q
  | .next, ⟨σ', H', J, q⟩ => exact ended (v := .non) (u := .none) J rfl q
  | .brk, ⟨_, _, _, q⟩ => exact q.elim
  | .cont, ⟨_, _, _, q⟩ => exact q.elim
/-- .. that lets no exception out -/
theorem fnG0 {x qual : Str} {st : Stmt} (F : Fun K x qual st f fd) (S : FnScope N ps (defScope st)) (len : ∀ vs H Q E, sp vs H Q E → vs.length = ps.length)
    (body : ∀ (cdv : Value) (A : Around) (outer : List Env) (s : Shared) (H : Hp) (vs : List V) (Q : VK) (E : XK), RoomG k (A.deeper (envOfC qual (defScope st) s.heap.objs.size f cdv)) → sp vs H Q E →
      ∃ t, PSs (cxOf CX0 P w K mg base N qual (defScope st) f cdv A outer s H E).nox (defBody st) t ∧ t { nx := fun _ H' => Q .non H', rt := Q } (start N vs) H) : FnG P w K mg base CX0 (k + 1) f fd ps sp :=
  fnG F S len fun cdv A outer s H vs Q E hr hsp =>
    let ⟨t, h, q⟩ := body cdv A outer s H vs Q E hr hsp
    ⟨t, h.nox, q⟩
end
section
variable {X : Cx} {C : CXT} {k : Nat} {f : Addr} {fd : FuncData} {ps : List Str} {sp : Sp} {E : L2.St → XK} {x : Str} {p pos : Pos} {e : Expr} {es : List Expr} {t : TA}
/-- f(e, ..) -/
theorem pe_callG (F : FnG X.prog X.w X.K X.mg X.base C k f fd ps sp) (hr : RoomG k X.A) (hg : Gl X x) (hm : X.mg x = some (.ref f)) (hk : PySem.W.keepIn X.K (.ref f) = true) (hb : Binds X.K fd ps []) (hx : ∀ σ, PassesAt C X σ (E σ))
    (ha : PA X (e :: es) t) (hdb : (x == ("__debug__" : Str)) = false := by decide) (he : starEach (e :: es) X.env = (false, eval e X.env) :: starEach es X.env := by rfl) (hpl : (backTo pos (starEach es X.env)).any (·.1) = false := by rfl) :
    PE X (.Call (.Name x p) (e :: es) [] pos) (tCallS sp E t) := by
  refine ⟨fun pins s σ H Q I h => wpAny_Call_Name_kw (ld_glob I hg hm (PySem.W.callWith_K (h₀ := X.base) I.ok.mod.kin hk (thn (ha.run pos pins s σ H _ I h) fun us s1 ⟨vs, H1, J, rv, q⟩ => ⟨J.kIn, ?_⟩) he hpl) hdb)⟩
  have hl : us.length = ps.length := rv.length.symm.trans (F.len _ _ _ _ q)
  have b := hb s1 us J.kIn (by rw [List.append_nil]; exact hl)
  rw [List.append_nil] at b
  refine wpAny_call (codeAny_mono (F.run X.A X.stack s1 H1 ⟨us, []⟩ us vs Q (E σ) hr J.env0 b rv q) fun r z hz => ?_)
  match r, hz with
  | .error e, hz => exact hx σ pins H1 s1 e z J hz
  | .ok (.ret u), hz => exact J.after hz
end
/-- the heap but for the tracked objects -/
theorem law_callG {P : Program} {w : World} {K : PySem.W.Frag} {mg mb : Str → Option Value} {k : Nat} {fa a : Addr} {fd : FuncData} {x : Str} {sp : Sp} {s₁ : Shared} {vs : List Value} {ns : List Int}
    (KX : K.In s₁.heap) (hns : s₁.heap.Ns mainGlobals mg) (hb : s₁.heap.Ns builtinsNs mb) (hbb : ∀ x : Str, x ≠ "__name__" → mb x = bootBuiltins x) (hlim : s₁.heap.NoLimit) (hg : s₁.gens = #[])
    (ha : s₁.heap.get? a = some { cls := .type "list", data := .seq vs.toArray }) (hi : IntsAre vs ns) (hl : ns.length ≤ sizeLine) (hr : Room k callerA)
    (F : ∀ base : Heap, K.In base → base.Ns mainGlobals mg → FnG P w K mg base CX0 k fa fd [x] sp) (hbind : ∀ (s : Shared) (u : Value), BindsTo s fd ⟨[u], []⟩ [(x, u)])
    (hsp : ∀ H : Hp, SqL K H a (ns.map V.int) → sp [.ref a] H (fun v _ => v = .bl true) fun _ _ _ => False) :
    codeAny (model P w) callerA (.call (.ref fa) ⟨[.ref a], []⟩) (fun r s' => r = .ok (.ret (.bool true)) ∧ OldK s₁.heap s'.heap ∧ s'.os = s₁.os ∧ AllBare s'.gens) s₁ := by
  have rv := vals_ints hi
  have go : ∀ H : Hp, (∀ b, H b = none ∨ ∃ o xs, H b = some (.frz o (.lst xs))) → SqL K H a (ns.map V.int) → HOk P w H s₁.heap → (∀ b, H b ≠ none → b = a) → (H a ≠ none → K.lookup a = none) →
      codeAny (model P w) callerA (.call (.ref fa) ⟨[.ref a], []⟩) (fun r s' => r = .ok (.ret (.bool true)) ∧ OldK s₁.heap s'.heap ∧ s'.os = s₁.os ∧ AllBare s'.gens) s₁ := fun H hO hS hok hA hK => by
    have out : ∀ {b : Addr} {o : Obj}, s₁.heap.get? b = some o → b ≠ a → H b = none := fun {b o} e n => Classical.byContradiction fun z => n (hA b z)
    have ns2 : ∀ {b : Addr} {m : Str → Option Value}, s₁.heap.Ns b m → (hidT s₁.heap H).Ns b m := fun {b m} ⟨o, es, ep, e, d, r⟩ => ⟨o, es, ep, hidT_get e (out e fun z => by
      rw [z, ha] at e
      cases e
      cases (show Data.seq vs.toArray _ = Data.dict es ep from d)), d, r⟩
    have in2 : K.In (hidT s₁.heap H) := fun b o e => hidT_get (KX b o e) (by
      by_cases z : H b = none
      · exact z
      · have y := hA b z
        rw [y] at e z
        rw [hK z] at e
        cases e)
    have md : Mod K mg (hidT s₁.heap H) := ⟨in2, ns2 hns, ⟨mb, ns2 hb, hbb⟩, hlim.elim fun mc h => ⟨mc, ns2 h.1, h.2⟩⟩
    have e0 : Env0 P w K mg (hidT s₁.heap H) callerA [] s₁ H := ⟨rfl, md, fun _ _ e => of_hidT e, Nat.le_of_eq (hidT_size _ _), trivial, fun _ z => absurd z List.not_mem_nil, hok, .of_eq hg⟩
    refine codeAny_mono ((F _ in2 (ns2 hns)).run callerA [] s₁ H ⟨[.ref a], []⟩ [.ref a] [.ref a] _ _ ⟨hr, rfl⟩ e0 (hbind s₁ (.ref a)) (.cons rfl .nil) (hsp H hS)) fun r s' h => ?_
    match r, h with
    | .error e, h => exact (show False from h).elim
    | .ok (.ret u), ⟨v, H', os, bare, un, hok', ru, q⟩ =>
      cases (show v = V.bl true from q)
      cases (show u = Value.bool true from ru)
      refine ⟨rfl, OldK.of_keep fun b o e => ?_, os, bare⟩
      rcases hO b with z | ⟨ob, xs, z⟩
      · exact un.keep b o e z (fun y => absurd y List.not_mem_nil) List.not_mem_nil
      · obtain ⟨e1, _⟩ := hok b _ z
        obtain ⟨e2, _⟩ := hok' b _ (un.frzs b ob _ z)
        rw [e] at e1
        cases e1
        exact e2
  cases hk : K.lookup a with
  | some o =>
    have e := KX a o hk
    rw [ha] at e
    cases e
    exact go (fun _ => none) (fun _ => .inl rfl) (.inr ⟨_, vs.toArray, _, hk, rfl, rfl, rfl, by rw [List.size_toArray, hi.length]; exact hl, by simpa using rv⟩) (fun b u z => nomatch z) (fun b z => absurd rfl z) fun z => absurd rfl z
  | none =>
    have one : ∀ b u, (if b = a then some (HO.frz { cls := .type "list", data := .seq vs.toArray } (.lst (ns.map V.int))) else none) = some u → b = a ∧ u = HO.frz { cls := .type "list", data := .seq vs.toArray } (.lst (ns.map V.int)) := fun b u z => by
      split at z
      · rename_i y; cases z; exact ⟨y, rfl⟩
      · cases z
    refine go (fun b => if b = a then some (HO.frz { cls := .type "list", data := .seq vs.toArray } (.lst (ns.map V.int))) else none) (fun b => ?_) (.inl (.inr ⟨{ cls := .type "list", data := .seq vs.toArray }, if_pos rfl⟩)) (fun b u z => ?_) (fun b z => ?_) fun _ => hk
    · by_cases y : b = a
      · exact .inr ⟨_, _, if_pos y⟩
      · exact .inl (if_neg y)
    · obtain ⟨y, rfl⟩ := one b u z
      cases y
      exact ⟨ha, by rw [List.length_map]; exact hl, vs, _, rv, ha⟩
    · by_cases y : b = a
      · exact y
      · exact absurd (if_neg y) z
/-- the end of a law's proof -/
theorem walk_ofG {l : PySem.W.OpenLaw} {n k : Nat} {q : Program} {loose : List Str} {XP : (Str → Option Value) → Heap → Prop} {YP : World → Heap → Prop} {d : DefRec} {K : Params → PySem.W.Frag} {sp : PySem.W.Frag → Sp} {x : Str}
    (hn : l.most = some n) (hn2 : n ≤ sizeLine) (hdf : d.params.defaults = []) (hr : Room k callerA) (hY : ∀ (w : World) (h : Heap), YP w h → (K w.params).In h)
    (F : ∀ (w : World) (mg : Str → Option Value) (fa : Addr) (h : Heap), (K w.params).In h → h.Ns mainGlobals mg → mg d.name = some (.ref fa) →
      ∃ fd : FuncData, (∀ (s : Shared) (u : Value), BindsTo s fd ⟨[u], []⟩ [(x, u)]) ∧ ∀ base : Heap, (K w.params).In base → base.Ns mainGlobals mg → FnG l.prog w (K w.params) mg base CX0 k fa fd [x] (sp (K w.params)))
    (hsp : ∀ (K : PySem.W.Frag) (H : Hp) (a : Addr) (ns : List Int), ns.length ≤ n → SqL K H a (ns.map V.int) → sp K [.ref a] H (fun v _ => v = .bl true) fun _ _ _ => False) :
    PySem.W.WalkO q loose XP YP l.row.toRowW d [] (fun f vs => PySem.call f vs) := by
  refine Att.attach_call hn hdf fun w s₀ s₁ mg mb fa o pm cd doc a vs ns G Y ho hd hcd hmg hobj hints hlen hg => ?_
  obtain ⟨fd, hb, hF⟩ := F w mg fa _ (hY w _ Y) G.T.g hmg
  exact law_callG (hY w _ Y) G.T.g G.T.b G.T.builtins G.T.nolimit hg hobj hints (Nat.le_trans hlen hn2) hr hF hb fun H hS => hsp (K w.params) H a ns hlen hS
end D3
set_option Elab.async false
set_option linter.all false
set_option maxRecDepth 100000
set_option maxHeartbeats 2000000
namespace D3
open PySem L2
section
variable {K : PySem.W.Frag} {W : Wd} {Wx : WX} {X : Cx}
@[simp] def tdVar (i : Nat) : TDE := fun τ Q _ => ∃ d, τ[i]? = some (some (.dat d)) ∧ Q d
@[simp] def tdC (d : D) : TDE := fun _ Q _ => Q d
theorem SimE.var {i : Nat} : SimE K W Wx (tVar i) (tdVar i) := fun I H σ τ Q R G ok r ⟨d, e, q⟩ hq _ => by
  obtain ⟨v, h1, h2⟩ := r.at_ i _ e
  exact ⟨v, h1, hq v d I H q h2 (.refl ok)⟩
theorem SimE.c {x : V} : SimE K W Wx (tC x) (tdC (.v x)) := fun I H σ τ Q R G ok r q hq _ => hq x _ I H q (.v x) (.refl ok)
theorem dv (i : Nat) {x : Str} {pos : Pos} (hN : X.N[i]? = some x := by rfl) (hv : Vis X.env.scope x := by first | exact Or.inl rfl | exact Or.inr (Or.inl rfl) | exact Or.inr (Or.inr rfl)) (hd : (x == ("__debug__" : Str)) = false := by decide)
    (hcd : (x == ("__classdict__" : Str)) = false := by decide) (hk : X.K = K := by rfl) : DE X K W Wx (.Name x pos) (tVar i) (tdVar i) := by
  subst hk
  exact ⟨rfl, pe_var hN hv hd hcd, .var⟩
theorem de_int {i j pos} (hk : X.K = K := by rfl) : DE X K W Wx (.Constant (.int i) j pos) (tC (.int i)) (tdC (.int i)) := by
  subst hk
  exact ⟨rfl, pe_int, .c⟩
theorem de_bl {b j pos} (hk : X.K = K := by rfl) : DE X K W Wx (.Constant (.bool b) j pos) (tC (.bl b)) (tdC (.bl b)) := by
  subst hk
  exact ⟨rfl, pe_bl, .c⟩
theorem de_non {j pos} (hk : X.K = K := by rfl) : DE X K W Wx (.Constant .none j pos) (tC .non) (tdC .non) := by
  subst hk
  exact ⟨rfl, pe_non, .c⟩
theorem de_str {x j pos} (hk : X.K = K := by rfl) : DE X K W Wx (.Constant (.str x) j pos) (tC (.str x)) (tdC (.str x)) := by
  subst hk
  exact ⟨rfl, pe_str, .c⟩
/-- a module's constant that is flat, a class, a def -/
theorem de_glob {x : Str} {v : V} {u : Value} {pos : Pos} (hm : X.mg x = some u) (r : RelV v u) (hg : Gl X x := by rfl) (hd : (x == ("__debug__" : Str)) = false := by decide) (hk : X.K = K := by rfl) : DE X K W Wx (.Name x pos) (tC v) (tdC (.v v)) := by
  subst hk
  exact ⟨rfl, pe_glob hg hm r hd, .c⟩
theorem de_bltn {x : Str} {v : V} {u : Value} {pos : Pos} (hg : Gl X x) (hm : X.mg x = none) (hv : bootBuiltins x = some u) (r : RelV v u) (hn : x ≠ "__name__" := by decide) (hd : (x == ("__debug__" : Str)) = false := by decide) (hk : X.K = K := by rfl) :
    DE X K W Wx (.Name x pos) (tC v) (tdC (.v v)) := by
  subst hk
  exact ⟨rfl, pe_bltn hg hm hv r hn hd, .c⟩
abbrev TD2 := D → D → (D → Prop) → Prop
def R2Sim (K : PySem.W.Frag) (W : Wd) (r : R2) (f : TD2) : Prop := ∀ (I H : Hp) (x y : V) (dx dy : D) (Q : D → Prop) (G : VK), W.ok I H → Is K I x dx → Is K I y dy → f dx dy Q →
  (∀ v d I' H', Q d → Is K I' v d → Later W I H I' H' → G v H') → r x y H G
@[simp] def tdOp (f : TD2) (ta tb : TDE) : TDE := fun τ Q R => ta τ (fun x => tb τ (fun y => f x y Q) R) R
variable {ta tb te : TE} {da db de : TDE} {r : R2} {f : TD2}
theorem SimE.op (hr : R2Sim K W r f) (ha : SimE K W Wx ta da) (hb : SimE K W Wx tb db) : SimE K W Wx (tOp r ta tb) (tdOp f da db) := fun I H σ τ Q R G ok rp h hq hx =>
  ha I H σ τ _ R _ ok rp h (fun x dx I1 H1 q1 i1 l1 => hb I1 H1 σ τ _ R _ l1.ok (rp.later l1) q1 (fun y dy I2 H2 q2 i2 l2 =>
    hr I2 H2 x y dx dy Q G l2.ok (i1.mono l2.ex) i2 q2 fun v d I3 H3 q3 i3 l3 => hq v d I3 H3 q3 i3 ((l1.trans l2).trans l3)) (hx.later l1)) hx
theorem R2Sim.or {r' : R2} {f' : TD2} (h : R2Sim K W r f) (h' : R2Sim K W r' f') : R2Sim K W (fun x y H Q => r x y H Q ∨ r' x y H Q) (fun x y Q => f x y Q ∨ f' x y Q) :=
  fun I H x y dx dy Q G ok hx hy q hq => q.elim (fun q => .inl (h I H x y dx dy Q G ok hx hy q hq)) fun q => .inr (h' I H x y dx dy Q G ok hx hy q hq)
/-- ints -/
def onII (x y : D) (P : Int → Int → Prop) : Prop := match x, y with
  | .v (.int i), .v (.int j) => P i j
  | _, _ => False
def onSS (x y : D) (P : Str → Str → Prop) : Prop := match x, y with
  | .v (.str i), .v (.str j) => P i j
  | _, _ => False
def onBl (x : D) (P : Bool → Prop) : Prop := match x with
  | .v (.bl b) => P b
  | _ => False
@[simp] theorem onII_int {i j : Int} {P : Int → Int → Prop} : onII (.v (.int i)) (.v (.int j)) P = P i j := rfl
@[simp] theorem onSS_str {i j : Str} {P : Str → Str → Prop} : onSS (.v (.str i)) (.v (.str j)) P = P i j := rfl
@[simp] theorem onBl_bl {b : Bool} {P : Bool → Prop} : onBl (.v (.bl b)) P = P b := rfl
@[simp] def fI (g : Int → Int → D) : TD2 := fun x y Q => onII x y fun i j => Q (g i j)
@[simp] def fIC (C : Int → Int → Prop) (g : Int → Int → D) : TD2 := fun x y Q => onII x y fun i j => C i j ∧ Q (g i j)
theorem int_of {K : PySem.W.Frag} {I : Hp} {x y : V} {dx dy : D} {P : Int → Int → Prop} (hx : Is K I x dx) (hy : Is K I y dy) (h : onII dx dy P) :
    ∃ i j, x = .int i ∧ y = .int j ∧ P i j := by
  unfold onII at h
  split at h
  · cases hx; cases hy; exact ⟨_, _, rfl, rfl, h⟩
  · exact h.elim
theorem R2Sim.i0 {g : Int → Int → V} : R2Sim K W (rI0 g) (fI fun i j => .v (g i j)) := fun I H x y dx dy Q G ok hx hy q hq => by
  obtain ⟨i, j, rfl, rfl, q⟩ := int_of (P := fun i j => Q (.v (g i j))) hx hy q
  exact ⟨i, j, rfl, rfl, hq _ _ I H q (.v _) (.refl ok)⟩
theorem R2Sim.i1 {C : Int → Int → Prop} {g : Int → Int → V} : R2Sim K W (rI C g) (fIC C fun i j => .v (g i j)) := fun I H x y dx dy Q G ok hx hy q hq => by
  obtain ⟨i, j, rfl, rfl, c, q⟩ := int_of (P := fun i j => C i j ∧ Q (.v (g i j))) hx hy q
  exact ⟨i, j, rfl, rfl, c, hq _ _ I H q (.v _) (.refl ok)⟩
/-- texts -/
@[simp] def fSC (C : Str → Str → Prop) (g : Str → Str → D) : TD2 := fun x y Q => onSS x y fun i j => C i j ∧ Q (g i j)
@[simp] def fS (g : Str → Str → D) : TD2 := fun x y Q => onSS x y fun i j => Q (g i j)
theorem str_of {K : PySem.W.Frag} {I : Hp} {x y : V} {dx dy : D} {P : Str → Str → Prop} (hx : Is K I x dx) (hy : Is K I y dy) (h : onSS dx dy P) :
    ∃ i j, x = .str i ∧ y = .str j ∧ P i j := by
  unfold onSS at h
  split at h
  · cases hx; cases hy; exact ⟨_, _, rfl, rfl, h⟩
  · exact h.elim
theorem R2Sim.s1 {C : Str → Str → Prop} {g : Str → Str → V} : R2Sim K W (fun x y H Q => ∃ i j, x = .str i ∧ y = .str j ∧ C i j ∧ Q (g i j) H) (fSC C fun i j => .v (g i j)) := fun I H x y dx dy Q G ok hx hy q hq => by
  obtain ⟨i, j, rfl, rfl, c, q⟩ := str_of (P := fun i j => C i j ∧ Q (.v (g i j))) hx hy q
  exact ⟨i, j, rfl, rfl, c, hq _ _ I H q (.v _) (.refl ok)⟩
variable {a b : Expr} {pos : Pos}
theorem de_op {op : Operator} (ho : OpR X (binaryOp op) r) (hr : R2Sim K W r f) (ha : DE X K W Wx a ta da) (hb : DE X K W Wx b tb db) : DE X K W Wx (.BinOp a op b pos) (tOp r ta tb) (tdOp f da db) := by
  have hk := ha.k; subst hk
  exact ⟨rfl, pe_op ho ha.pe hb.pe, .op hr ha.sim hb.sim⟩
theorem de_sub (ha : DE X K W Wx a ta da) (hb : DE X K W Wx b tb db) : DE X K W Wx (.BinOp a .Sub b pos) (tOp (rI0 fun i j => .int (i - j)) ta tb) (tdOp (fI fun i j => .int (i - j)) da db) := by
  have hk := ha.k; subst hk
  exact de_op op_sub .i0 ha hb
theorem de_mod (ha : DE X K W Wx a ta da) (hb : DE X K W Wx b tb db) : DE X K W Wx (.BinOp a .Mod b pos) (tOp (rI (fun _ j => 0 < j) fun i j => .int (i % j)) ta tb) (tdOp (fIC (fun _ j => 0 < j) fun i j => .int (i % j)) da db) := by
  have hk := ha.k; subst hk
  exact de_op op_mod .i1 ha hb
/-- a + b: ints, or texts -/
def fAdd : TD2 := fun x y Q => match x, y with
  | .v (.int i), .v (.int j) => Q (.int (i + j))
  | .v (.str i), .v (.str j) => i.length + j.length ≤ sizeLine ∧ Q (.str (i ++ j))
  | _, _ => False
@[simp] theorem fAdd_int {i j : Int} {Q : D → Prop} : fAdd (.v (.int i)) (.v (.int j)) Q = Q (.int (i + j)) := rfl
@[simp] theorem fAdd_str {i j : Str} {Q : D → Prop} : fAdd (.v (.str i)) (.v (.str j)) Q = (i.length + j.length ≤ sizeLine ∧ Q (.str (i ++ j))) := rfl
def rAddIS : R2 := fun x y H Q => rI0 (fun i j => .int (i + j)) x y H Q ∨ (fun x y H Q => ∃ i j, x = .str i ∧ y = .str j ∧ i.length + j.length ≤ sizeLine ∧ Q (.str (i ++ j)) H) x y H Q
theorem R2Sim.add : R2Sim K W rAddIS fAdd := fun I H x y dx dy Q G ok hx hy q hq => by
  unfold fAdd at q
  split at q
  · cases hx; cases hy; exact .inl ⟨_, _, rfl, rfl, hq _ _ I H q (.v _) (.refl ok)⟩
  · cases hx; cases hy; exact .inr ⟨_, _, rfl, rfl, q.1, hq _ _ I H q.2 (.v _) (.refl ok)⟩
  · exact q.elim
theorem op_addIS : OpR X (binaryOp .Add) rAddIS := op_add.or op_add_str
theorem de_add (ha : DE X K W Wx a ta da) (hb : DE X K W Wx b tb db) : DE X K W Wx (.BinOp a .Add b pos) (tOp rAddIS ta tb) (tdOp fAdd da db) := by
  have hk := ha.k; subst hk
  exact de_op op_addIS .add ha hb
theorem de_mul (ha : DE X K W Wx a ta da) (hb : DE X K W Wx b tb db) : DE X K W Wx (.BinOp a .Mult b pos) (tOp (rI CMul fun i j => .int (i * j)) ta tb) (tdOp (fIC CMul fun i j => .int (i * j)) da db) := by
  have hk := ha.k; subst hk
  exact de_op op_mul .i1 ha hb
variable {op : CmpOp}
theorem de_cmp (ho : OpR X (compareOp op) r) (hr : R2Sim K W r f) (ha : DE X K W Wx a ta da) (hb : DE X K W Wx b tb db) (hm : behindInMarks op b = false) : DE X K W Wx (.Compare a [op] [b] pos) (tOp r ta tb) (tdOp f da db) := by
  have hk := ha.k; subst hk
  exact ⟨rfl, pe_cmpR ho ha.pe hb.pe hm, .op hr ha.sim hb.sim⟩
@[simp] def tdTest (t : TDE) : TDT := fun τ Q R => t τ (fun d => onBl d Q) R
theorem bl_of {K : PySem.W.Frag} {I : Hp} {x : V} {d : D} {P : Bool → Prop} (hx : Is K I x d) (h : onBl d P) : ∃ b, x = .bl b ∧ P b := by
  unfold onBl at h
  split at h
  · cases hx; exact ⟨_, rfl, h⟩
  · exact h.elim
theorem SimT.test (h : SimE K W Wx te de) : SimT K W Wx (tTest te) (tdTest de) := fun I H σ τ Q R G ok rp t hq hx =>
  h I H σ τ _ R _ ok rp t (fun v d I' H' q i l => by
    obtain ⟨b, rfl, q⟩ := bl_of (P := Q) i q
    exact ⟨b, rfl, hq b I' H' q l⟩) hx
theorem SimT.bool (h : SimE K W Wx te de) : SimT K W Wx (tB te) (tdTest de) := fun I H σ τ Q R G ok rp t hq hx =>
  h I H σ τ _ R _ ok rp t (fun v d I' H' q i l => by
    obtain ⟨b, rfl, q⟩ := bl_of (P := Q) i q
    exact ⟨b, rfl, hq b I' H' q l⟩) hx
theorem dt_cmp (ho : OpR X (compareOp op) r) (hr : R2Sim K W r f) (ha : DE X K W Wx a ta da) (hb : DE X K W Wx b tb db) (hm : behindInMarks op b = false) : DT X K W Wx (.Compare a [op] [b] pos) (tTest (tOp r ta tb)) (tdTest (tdOp f da db)) := by
  have hk := ha.k; subst hk
  exact ⟨rfl, pt_cmpR ho ha.pe hb.pe hm, .test (.op hr ha.sim hb.sim)⟩
theorem dt_val {e : Expr} (h : DE X K W Wx e te de) (he : ∀ whole, isTrue e X.env whole = (do let v ← whole; standAt e.pos; holding [v] (truthy v)) := by intro _; rfl) : DT X K W Wx e (tB te) (tdTest de) := by
  have hk := h.k; subst hk
  exact ⟨rfl, pt_val h.pe he, SimT.bool h.sim⟩
abbrev fLt : TD2 := fI fun i j => .bl (decide (i < j))
abbrev fLe : TD2 := fI fun i j => .bl (decide (i ≤ j))
abbrev fGt : TD2 := fI fun i j => .bl (decide (j < i))
abbrev fGe : TD2 := fI fun i j => .bl (decide (j ≤ i))
/-- a < b < c -/
@[simp] def tdChain (f f' : TD2) (ta tb tc : TDE) : TDE := fun τ Q R => ta τ (fun x => tb τ (fun y => f x y fun z => onBl z fun k => if k = true then tc τ (fun w => f' y w Q) R else Q (.bl false)) R) R
theorem SimE.chain {r' : R2} {f' : TD2} {tc : TE} {dc : TDE} (hr : R2Sim K W r f) (hr' : R2Sim K W r' f') (ha : SimE K W Wx ta da) (hb : SimE K W Wx tb db) (hc : SimE K W Wx tc dc) : SimE K W Wx (tChain r r' ta tb tc) (tdChain f f' da db dc) :=
  fun I H σ τ Q R G ok rp h hq hx =>
  ha I H σ τ _ R _ ok rp h (fun x dx I1 H1 q1 i1 l1 => hb I1 H1 σ τ _ R _ l1.ok (rp.later l1) q1 (fun y dy I2 H2 q2 i2 l2 =>
    hr I2 H2 x y dx dy _ _ l2.ok (i1.mono l2.ex) i2 q2 fun v d I3 H3 q3 i3 l3 => by
      obtain ⟨b, rfl, q3⟩ := bl_of i3 q3
      refine ⟨b, rfl, ?_⟩
      cases b with
      | true =>
        rw [if_pos rfl] at q3 ⊢
        exact hc I3 H3 σ τ _ R _ l3.ok (((rp.later l1).later l2).later l3) q3 (fun w dw I4 H4 q4 i4 l4 => hr' I4 H4 y w dy dw Q G l4.ok ((i2.mono l3.ex).mono l4.ex) i4 q4
          fun v d I5 H5 q5 i5 l5 => hq v d I5 H5 q5 i5 ((((l1.trans l2).trans l3).trans l4).trans l5)) (((hx.later l1).later l2).later l3)
      | false =>
        rw [if_neg Bool.false_ne_true] at q3 ⊢
        exact hq _ _ I3 H3 q3 (.v _) ((l1.trans l2).trans l3)) (hx.later l1)) hx
theorem de_chain {op op' : CmpOp} {r' : R2} {f' : TD2} {c : Expr} {tc : TE} {dc : TDE} (ho : OpR X (compareOp op) r) (ho' : OpR X (compareOp op') r') (hr : R2Sim K W r f) (hr' : R2Sim K W r' f') (ha : DE X K W Wx a ta da) (hb : DE X K W Wx b tb db) (hc : DE X K W Wx c tc dc)
    (hm : lastMarks [op, op'] [b, c] = false := by with_unfolding_all rfl) : DE X K W Wx (.Compare a [op, op'] [b, c] pos) (tChain r r' ta tb tc) (tdChain f f' da db dc) := by
  have hk := ha.k; subst hk
  exact ⟨rfl, pe_chain ho ho' ha.pe hb.pe hc.pe hm, .chain hr hr' ha.sim hb.sim hc.sim⟩
theorem dt_chain {op op' : CmpOp} {r' : R2} {f' : TD2} {c : Expr} {tc : TE} {dc : TDE} (ho : OpR X (compareOp op) r) (ho' : OpR X (compareOp op') r') (hr : R2Sim K W r f) (hr' : R2Sim K W r' f') (ha : DE X K W Wx a ta da) (hb : DE X K W Wx b tb db) (hc : DE X K W Wx c tc dc)
    (hm : lastMarks [op, op'] [b, c] = false := by with_unfolding_all rfl) : DT X K W Wx (.Compare a [op, op'] [b, c] pos) (tTest (tChain r r' ta tb tc)) (tdTest (tdChain f f' da db dc)) := by
  have hk := ha.k; subst hk
  exact ⟨rfl, pt_chain ho ho' ha.pe hb.pe hc.pe hm, .test (.chain hr hr' ha.sim hb.sim hc.sim)⟩
def keyPy : Key → PyData
  | .inl i => .int i
  | .inr x => .str x
mutual
def toPy : D → PyData
  | .v .non => .none
  | .v (.bl b) => .bool b
  | .v (.int i) => .int i
  | .v (.str x) => .str x
  | .lst ds => .list (toPys ds)
  | .tup ds => .tuple (toPys ds)
  | .dic gs => .dict (toKv gs)
  | .dt _ gs => .dict (toTv gs)
  | _ => .none
def toPys : List D → List PyData
  | [] => []
  | d :: ds => toPy d :: toPys ds
def toKv : List (Key × D) → List (PyData × PyData)
  | [] => []
  | (.inl i, d) :: ds => (.int i, toPy d) :: toKv ds
  | (.inr x, d) :: ds => (.str x, toPy d) :: toKv ds
def toTv : List (List Key × D) → List (PyData × PyData)
  | [] => []
  | (k, d) :: ds => (.tuple (k.map keyPy), toPy d) :: toTv ds
end
mutual
def pyOk : D → Bool
  | .v .non => true
  | .v (.bl b) => true
  | .v (.int i) => true
  | .v (.str x) => true
  | .lst ds => pyOks ds
  | .tup ds => pyOks ds
  | _ => false
def pyOks : List D → Bool
  | [] => true
  | d :: ds => pyOk d && pyOks ds
end
theorem dp_flat {H : Hp} (x : V) (h : pyOk (.v x) = true) : Dp K H x (toPy (.v x)) := match x, h with
    | .non, _ => Dp.non
    | .bl b, _ => Dp.bl b
    | .int i, _ => Dp.int i
    | .str x, _ => Dp.str x
mutual
theorem Is.dp {I H : Hp} (e : Same I H) : ∀ {v : V} {d : D}, Is K I v d → pyOk d = true → Dp K H v (toPy d)
  | _, _, .v x, h => dp_flat x h
  | _, _, .lst h r, p => Dp.lst (SqL.of (e _ _ h)) (IsAll.dp e r p)
  | _, _, .tup h r, p => Dp.tup (Same.seqT e h.t) (IsAll.dp e r p)
  | _, _, .ins _ _, p => absurd p (by simp [pyOk])
  | _, _, .dic _ _, p => absurd p (by simp [pyOk])
  | _, _, .exc0, p => absurd p (by simp [pyOk])
  | _, _, .exc1 _ _, p => absurd p (by simp [pyOk])
  | _, _, .lent _, p => absurd p (by simp [pyOk])
  | _, _, .dt _ _ _ _, p => absurd p (by simp [pyOk])
theorem IsAll.dp {I H : Hp} (e : Same I H) : ∀ {v : List V} {d : List D}, IsAll K I v d → pyOks d = true → DpAll K H v (toPys d)
  | _, _, .nil, _ => .nil
  | _, _, .cons h r, p => .cons (Is.dp e h (Bool.and_eq_true_iff.mp p).1) (IsAll.dp e r (Bool.and_eq_true_iff.mp p).2)
end
def eqD (x y : D) : Bool := PyData.eqv (toPy x) (toPy y)
/-- such as may be held against each other -/
def cmpOk (x : D) : Prop := pyOk x = true ∧ SeqAt.shaped (toPy x) = true
def fEqN (neg : Bool) : TD2 := fun x y Q => match x, y with
  | .v a, .v b => if scal a b = true then Q (.bl (neg ^^ decide (a = b))) else (cmpOk (.v a) ∧ cmpOk (.v b) ∧ Q (.bl (neg ^^ eqD (.v a) (.v b))))
  | x, y => cmpOk x ∧ cmpOk y ∧ Q (.bl (neg ^^ eqD x y))
@[simp] theorem fEqN_int {n : Bool} {i j : Int} {Q : D → Prop} : fEqN n (.v (.int i)) (.v (.int j)) Q = Q (.bl (n ^^ decide (i = j))) := by
  have e : fEqN n (.v (.int i)) (.v (.int j)) Q = Q (.bl (n ^^ decide (V.int i = V.int j))) := by unfold fEqN; exact if_pos rfl
  rw [e]
  simp
@[simp] theorem fEqN_str {n : Bool} {i j : Str} {Q : D → Prop} : fEqN n (.v (.str i)) (.v (.str j)) Q = Q (.bl (n ^^ decide (i = j))) := by
  have e : fEqN n (.v (.str i)) (.v (.str j)) Q = Q (.bl (n ^^ decide (V.str i = V.str j))) := by unfold fEqN; exact if_pos rfl
  rw [e]
  simp
@[simp] theorem fEqN_bl {n : Bool} {i j : Bool} {Q : D → Prop} : fEqN n (.v (.bl i)) (.v (.bl j)) Q = Q (.bl (n ^^ decide (i = j))) := by
  have e : fEqN n (.v (.bl i)) (.v (.bl j)) Q = Q (.bl (n ^^ decide (V.bl i = V.bl j))) := by unfold fEqN; exact if_pos rfl
  rw [e]
  simp
@[simp] theorem fEqN_lst {n : Bool} {ds : List D} {y : D} {Q : D → Prop} : fEqN n (.lst ds) y Q = (cmpOk (.lst ds) ∧ cmpOk y ∧ Q (.bl (n ^^ eqD (.lst ds) y))) := rfl
@[simp] theorem fEqN_tup {n : Bool} {ds : List D} {y : D} {Q : D → Prop} : fEqN n (.tup ds) y Q = (cmpOk (.tup ds) ∧ cmpOk y ∧ Q (.bl (n ^^ eqD (.tup ds) y))) := rfl
abbrev fEq : TD2 := fEqN false
abbrev fNe : TD2 := fEqN true
def rEqA (K : PySem.W.Frag) : R2 := fun x y H Q => rEq x y H Q ∨ rEqD K x y H Q
def rNeA (K : PySem.W.Frag) : R2 := fun x y H Q => rNe x y H Q ∨ rNeD K x y H Q
theorem cmp_dp {I H : Hp} {v : V} {d : D} (e : Same I H) (h : Is K I v d) (c : cmpOk d) : Dp K H v (toPy d) ∧ SeqAt.shaped (toPy d) = true := ⟨h.dp e c.1, c.2⟩
theorem R2Sim.eq : R2Sim K W (rEqA K) fEq := fun I H x y dx dy Q G ok hx hy q hq => by
  have fin : cmpOk dx ∧ cmpOk dy ∧ Q (.bl (false ^^ eqD dx dy)) → rEqA K x y H G := fun ⟨c1, c2, q⟩ => by
    obtain ⟨p1, s1⟩ := cmp_dp (W.ex ok) hx c1
    obtain ⟨p2, s2⟩ := cmp_dp (W.ex ok) hy c2
    rw [Bool.false_xor] at q
    exact .inr ⟨_, _, p1, p2, s1, s2, hq _ _ I H q (.v _) (.refl ok)⟩
  show rEqA K x y H G
  unfold fEq fEqN at q
  split at q
  · split at q
    · rename_i s
      cases hx; cases hy
      rw [Bool.false_xor] at q
      exact .inl ⟨s, hq _ _ I H q (.v _) (.refl ok)⟩
    · exact fin q
  · exact fin q
theorem R2Sim.ne : R2Sim K W (rNeA K) fNe := fun I H x y dx dy Q G ok hx hy q hq => by
  have fin : cmpOk dx ∧ cmpOk dy ∧ Q (.bl (true ^^ eqD dx dy)) → rNeA K x y H G := fun ⟨c1, c2, q⟩ => by
    obtain ⟨p1, s1⟩ := cmp_dp (W.ex ok) hx c1
    obtain ⟨p2, s2⟩ := cmp_dp (W.ex ok) hy c2
    rw [Bool.true_xor] at q
    exact .inr ⟨_, _, p1, p2, s1, s2, hq _ _ I H q (.v _) (.refl ok)⟩
  show rNeA K x y H G
  unfold fNe fEqN at q
  split at q
  · split at q
    · rename_i s
      cases hx; cases hy
      rw [Bool.true_xor] at q
      exact .inl ⟨s, hq _ _ I H q (.v _) (.refl ok)⟩
    · exact fin q
  · exact fin q
theorem op_eqA (hu : X.A.units + 64 < cLine) : OpR X (compareOp .Eq) (rEqA X.K) := op_eq.or (op_eqD hu)
theorem op_neA (hu : X.A.units + 64 < cLine) : OpR X (compareOp .NotEq) (rNeA X.K) := op_ne.or (op_neD hu)
theorem de_eq (hu : X.A.units + 64 < cLine) (ha : DE X K W Wx a ta da) (hb : DE X K W Wx b tb db) : DE X K W Wx (.Compare a [.Eq] [b] pos) (tOp (rEqA K) ta tb) (tdOp fEq da db) := by
  have hk := ha.k; subst hk
  exact de_cmp (op_eqA hu) .eq ha hb (nomark _)
theorem dt_eq (hu : X.A.units + 64 < cLine) (ha : DE X K W Wx a ta da) (hb : DE X K W Wx b tb db) : DT X K W Wx (.Compare a [.Eq] [b] pos) (tTest (tOp (rEqA K) ta tb)) (tdTest (tdOp fEq da db)) := by
  have hk := ha.k; subst hk
  exact dt_cmp (op_eqA hu) .eq ha hb (nomark _)
theorem dt_ne (hu : X.A.units + 64 < cLine) (ha : DE X K W Wx a ta da) (hb : DE X K W Wx b tb db) : DT X K W Wx (.Compare a [.NotEq] [b] pos) (tTest (tOp (rNeA K) ta tb)) (tdTest (tdOp fNe da db)) := by
  have hk := ha.k; subst hk
  exact dt_cmp (op_neA hu) .ne ha hb (nomark _)
theorem dt_lt (ha : DE X K W Wx a ta da) (hb : DE X K W Wx b tb db) : DT X K W Wx (.Compare a [.Lt] [b] pos) (tTest (tOp (rI0 fun i j => .bl (decide (i < j))) ta tb)) (tdTest (tdOp fLt da db)) := by
  have hk := ha.k; subst hk
  exact dt_cmp op_lt .i0 ha hb (nomark _)
theorem dt_gt (ha : DE X K W Wx a ta da) (hb : DE X K W Wx b tb db) : DT X K W Wx (.Compare a [.Gt] [b] pos) (tTest (tOp (rI0 fun i j => .bl (decide (j < i))) ta tb)) (tdTest (tdOp fGt da db)) := by
  have hk := ha.k; subst hk
  exact dt_cmp op_gt .i0 ha hb (nomark _)
theorem dt_ge (ha : DE X K W Wx a ta da) (hb : DE X K W Wx b tb db) : DT X K W Wx (.Compare a [.GtE] [b] pos) (tTest (tOp (rI0 fun i j => .bl (decide (j ≤ i))) ta tb)) (tdTest (tdOp fGe da db)) := by
  have hk := ha.k; subst hk
  exact dt_cmp op_ge .i0 ha hb (nomark _)
def inS (x y : Str) : Bool := !(Builtin.Str.occurrences y x 0 y.length 1).isEmpty
/-- x in y: texts, or flat things in a list or tuple of flat things -/
def fIn (neg : Bool) : TD2 := fun x y Q => match x, y with
  | .v (.str i), .v (.str j) => Q (.bl (neg ^^ inS i j))
  | .v a, .lst ds => flatV a = true ∧ ∃ xs : List V, ds = xs.map D.v ∧ xs.all flatV = true ∧ Q (.bl (neg ^^ inV a xs))
  | .v a, .tup ds => flatV a = true ∧ ∃ xs : List V, ds = xs.map D.v ∧ xs.all flatV = true ∧ Q (.bl (neg ^^ inV a xs))
  | _, _ => False
@[simp] theorem fIn_str {n : Bool} {i j : Str} {Q : D → Prop} : fIn n (.v (.str i)) (.v (.str j)) Q = Q (.bl (n ^^ inS i j)) := rfl
theorem IsAll.flat {I : Hp} : ∀ {xs ys : List V}, IsAll K I ys (xs.map D.v) → ys = xs
  | [], _, h => by cases h; rfl
  | x :: xs, _, h => by
    cases h with
    | cons h r =>
      cases h
      rw [IsAll.flat r]
def rInA (K : PySem.W.Frag) (neg : Bool) : R2 := fun x y H Q => (∃ i j, x = .str i ∧ y = .str j ∧ Q (.bl (neg ^^ inS i j)) H) ∨ rIn K neg x y H Q
theorem R2Sim.in_ {neg : Bool} : R2Sim K W (rInA K neg) (fIn neg) := fun I H x y dx dy Q G ok hx hy q hq => by
  show rInA K neg x y H G
  have e : ∀ c : Bool, (neg ^^ c) = if neg = true then !c else c := by intro c; cases neg <;> cases c <;> rfl
  unfold fIn at q
  split at q
  · cases hx; cases hy
    exact .inl ⟨_, _, rfl, rfl, hq _ _ I H q (.v _) (.refl ok)⟩
  · cases hx
    obtain ⟨f1, xs, rfl, f2, q⟩ := q
    obtain ⟨p, ys, rfl, sq, al⟩ := is_lst hy
    cases IsAll.flat al
    exact .inr ⟨p, _, rfl, .inl ((W.ex ok).seq sq), f1, f2, by rw [← e]; exact hq _ _ I H q (.v _) (.refl ok)⟩
  · cases hx
    obtain ⟨f1, xs, rfl, f2, q⟩ := q
    obtain ⟨p, ys, rfl, sq, al⟩ := is_tup hy
    cases IsAll.flat al
    exact .inr ⟨p, _, rfl, .inr (Same.seqT (W.ex ok) sq), f1, f2, by rw [← e]; exact hq _ _ I H q (.v _) (.refl ok)⟩
  · exact q.elim
theorem op_inA : OpR X (compareOp .In) (rInA X.K false) := by
  have h := (op_in_str (X := X)).or (op_in_seq (X := X))
  intro pins s σ H x y v u Q I rx ry q
  refine h pins s σ H x y v u Q I rx ry ?_
  rcases q with ⟨i, j, e1, e2, q⟩ | q
  · exact .inl ⟨i, j, e1, e2, by rw [Bool.false_xor] at q; exact q⟩
  · exact .inr q
theorem op_ninA : OpR X (compareOp .NotIn) (rInA X.K true) := by
  have h := (op_notIn_str (X := X)).or (op_notIn_seq (X := X))
  intro pins s σ H x y v u Q I rx ry q
  refine h pins s σ H x y v u Q I rx ry ?_
  rcases q with ⟨i, j, e1, e2, q⟩ | q
  · exact .inl ⟨i, j, e1, e2, by rw [Bool.true_xor] at q; exact q⟩
  · exact .inr q
theorem de_in (ha : DE X K W Wx a ta da) (hb : DE X K W Wx b tb db) (hm : behindInMarks .In b = false := by rfl) : DE X K W Wx (.Compare a [.In] [b] pos) (tOp (rInA K false) ta tb) (tdOp (fIn false) da db) := by
  have hk := ha.k; subst hk
  exact de_cmp op_inA .in_ ha hb hm
theorem dt_in (ha : DE X K W Wx a ta da) (hb : DE X K W Wx b tb db) (hm : behindInMarks .In b = false := by rfl) : DT X K W Wx (.Compare a [.In] [b] pos) (tTest (tOp (rInA K false) ta tb)) (tdTest (tdOp (fIn false) da db)) := by
  have hk := ha.k; subst hk
  exact dt_cmp op_inA .in_ ha hb hm
theorem dt_nin (ha : DE X K W Wx a ta da) (hb : DE X K W Wx b tb db) (hm : behindInMarks .NotIn b = false := by rfl) : DT X K W Wx (.Compare a [.NotIn] [b] pos) (tTest (tOp (rInA K true) ta tb)) (tdTest (tdOp (fIn true) da db)) := by
  have hk := ha.k; subst hk
  exact dt_cmp op_ninA .in_ ha hb hm
variable {tA tB' : TT} {dA dB : TDT} {rest : List Expr}
@[simp] def tdAnd (t u : TDT) : TDT := fun τ Q R => t τ (fun c => if c = true then u τ Q R else Q false) R
@[simp] def tdOr (t u : TDT) : TDT := fun τ Q R => t τ (fun c => if c = true then Q true else u τ Q R) R
@[simp] def tdNot (t : TDT) : TDT := fun τ Q R => t τ (fun c => Q (!c)) R
theorem SimT.and (ha : SimT K W Wx tA dA) (hb : SimT K W Wx tB' dB) : SimT K W Wx (tAnd tA tB') (tdAnd dA dB) := fun I H σ τ Q R G ok rp t hq hx =>
  ha I H σ τ _ R _ ok rp t (fun c I1 H1 q1 l1 => by
    cases c with
    | true =>
      rw [if_pos rfl] at q1 ⊢
      exact hb I1 H1 σ τ Q R G l1.ok (rp.later l1) q1 (fun b I2 H2 q2 l2 => hq b I2 H2 q2 (l1.trans l2)) (hx.later l1)
    | false =>
      rw [if_neg Bool.false_ne_true] at q1 ⊢
      exact hq false I1 H1 q1 l1) hx
theorem SimT.or (ha : SimT K W Wx tA dA) (hb : SimT K W Wx tB' dB) : SimT K W Wx (tOr tA tB') (tdOr dA dB) := fun I H σ τ Q R G ok rp t hq hx =>
  ha I H σ τ _ R _ ok rp t (fun c I1 H1 q1 l1 => by
    cases c with
    | true =>
      rw [if_pos rfl] at q1 ⊢
      exact hq true I1 H1 q1 l1
    | false =>
      rw [if_neg Bool.false_ne_true] at q1 ⊢
      exact hb I1 H1 σ τ Q R G l1.ok (rp.later l1) q1 (fun b I2 H2 q2 l2 => hq b I2 H2 q2 (l1.trans l2)) (hx.later l1)) hx
theorem SimT.not (ha : SimT K W Wx tA dA) : SimT K W Wx (tNot tA) (tdNot dA) := fun I H σ τ Q R G ok rp t hq hx =>
  ha I H σ τ _ R _ ok rp t (fun c I1 H1 q1 l1 => hq _ I1 H1 q1 l1) hx
theorem dt_not (ha : DT X K W Wx a tA dA) : DT X K W Wx (.UnaryOp .Not a pos) (tNot tA) (tdNot dA) := by
  have hk := ha.k; subst hk
  exact ⟨rfl, pt_not ha.pt, .not ha.sim⟩
theorem dw_and1 (ha : DT X K W Wx a tA dA) : DW X K W Wx (.BoolOp .And [a] pos) tA dA := by
  have hk := ha.k; subst hk
  exact ⟨rfl, pw_and1 ha.pt, ha.sim⟩
theorem dw_or1 (ha : DT X K W Wx a tA dA) : DW X K W Wx (.BoolOp .Or [a] pos) tA dA := by
  have hk := ha.k; subst hk
  exact ⟨rfl, pw_or1 ha.pt, ha.sim⟩
theorem dw_and (ha : DT X K W Wx a tA dA) (hb : DW X K W Wx (.BoolOp .And (b :: rest) pos) tB' dB) : DW X K W Wx (.BoolOp .And (a :: b :: rest) pos) (tAnd tA tB') (tdAnd dA dB) := by
  have hk := ha.k; subst hk
  exact ⟨rfl, pw_and ha.pt hb.pw, .and ha.sim hb.sim⟩
theorem dw_or (ha : DT X K W Wx a tA dA) (hb : DW X K W Wx (.BoolOp .Or (b :: rest) pos) tB' dB) : DW X K W Wx (.BoolOp .Or (a :: b :: rest) pos) (tOr tA tB') (tdOr dA dB) := by
  have hk := ha.k; subst hk
  exact ⟨rfl, pw_or ha.pt hb.pw, .or ha.sim hb.sim⟩
/-- .. as values, all but the last bools -/
@[simp] def tdAndV (ta tb : TDE) : TDE := fun τ Q R => ta τ (fun x => onBl x fun k => if k = true then tb τ Q R else Q (.bl false)) R
@[simp] def tdOrV (ta tb : TDE) : TDE := fun τ Q R => ta τ (fun x => onBl x fun k => if k = true then Q (.bl true) else tb τ Q R) R
@[simp] def tdNotV (ta : TDE) : TDE := fun τ Q R => ta τ (fun x => onBl x fun c => Q (.bl (!c))) R
theorem SimE.andV (ha : SimE K W Wx ta da) (hb : SimE K W Wx tb db) : SimE K W Wx (tAndV ta tb) (tdAndV da db) := fun I H σ τ Q R G ok rp t hq hx =>
  ha I H σ τ _ R _ ok rp t (fun v d I1 H1 q1 i1 l1 => by
    obtain ⟨b, rfl, q1⟩ := bl_of i1 q1
    refine ⟨b, rfl, ?_⟩
    cases b with
    | true =>
      rw [if_pos rfl] at q1 ⊢
      exact hb I1 H1 σ τ Q R G l1.ok (rp.later l1) q1 (fun v d I2 H2 q2 i2 l2 => hq v d I2 H2 q2 i2 (l1.trans l2)) (hx.later l1)
    | false =>
      rw [if_neg Bool.false_ne_true] at q1 ⊢
      exact hq _ _ I1 H1 q1 (.v _) l1) hx
theorem SimE.orV (ha : SimE K W Wx ta da) (hb : SimE K W Wx tb db) : SimE K W Wx (tOrV ta tb) (tdOrV da db) := fun I H σ τ Q R G ok rp t hq hx =>
  ha I H σ τ _ R _ ok rp t (fun v d I1 H1 q1 i1 l1 => by
    obtain ⟨b, rfl, q1⟩ := bl_of i1 q1
    refine ⟨b, rfl, ?_⟩
    cases b with
    | true =>
      rw [if_pos rfl] at q1 ⊢
      exact hq _ _ I1 H1 q1 (.v _) l1
    | false =>
      rw [if_neg Bool.false_ne_true] at q1 ⊢
      exact hb I1 H1 σ τ Q R G l1.ok (rp.later l1) q1 (fun v d I2 H2 q2 i2 l2 => hq v d I2 H2 q2 i2 (l1.trans l2)) (hx.later l1)) hx
theorem SimE.notV (ha : SimE K W Wx ta da) : SimE K W Wx (tNotV ta) (tdNotV da) := fun I H σ τ Q R G ok rp t hq hx =>
  ha I H σ τ _ R _ ok rp t (fun v d I1 H1 q1 i1 l1 => by
    obtain ⟨b, rfl, q1⟩ := bl_of i1 q1
    exact ⟨_, rfl, hq _ _ I1 H1 q1 (.v _) l1⟩) hx
theorem de_one {op} (h : DE X K W Wx a ta da) : DE X K W Wx (.BoolOp op [a] pos) ta da := by
  have hk := h.k; subst hk
  exact ⟨rfl, pe_one h.pe, h.sim⟩
theorem de_and (ha : DE X K W Wx a ta da) (hb : DE X K W Wx (.BoolOp .And (b :: rest) pos) tb db) : DE X K W Wx (.BoolOp .And (a :: b :: rest) pos) (tAndV ta tb) (tdAndV da db) := by
  have hk := ha.k; subst hk
  exact ⟨rfl, pe_and ha.pe hb.pe, .andV ha.sim hb.sim⟩
theorem de_or (ha : DE X K W Wx a ta da) (hb : DE X K W Wx (.BoolOp .Or (b :: rest) pos) tb db) : DE X K W Wx (.BoolOp .Or (a :: b :: rest) pos) (tOrV ta tb) (tdOrV da db) := by
  have hk := ha.k; subst hk
  exact ⟨rfl, pe_or ha.pe hb.pe, .orV ha.sim hb.sim⟩
theorem de_not (ha : DE X K W Wx a ta da) : DE X K W Wx (.UnaryOp .Not a pos) (tNotV ta) (tdNotV da) := by
  have hk := ha.k; subst hk
  exact ⟨rfl, pe_not ha.pe, .notV ha.sim⟩
@[simp] def tdIf (t : TDT) (ta tb : TDE) : TDE := fun τ Q R => t τ (fun c => if c = true then ta τ Q R else tb τ Q R) R
theorem SimE.ite (hc : SimT K W Wx tA dA) (ha : SimE K W Wx ta da) (hb : SimE K W Wx tb db) : SimE K W Wx (tIf tA ta tb) (tdIf dA da db) := fun I H σ τ Q R G ok rp t hq hx =>
  hc I H σ τ _ R _ ok rp t (fun c I1 H1 q1 l1 => by
    cases c with
    | true =>
      rw [if_pos rfl] at q1 ⊢
      exact ha I1 H1 σ τ Q R G l1.ok (rp.later l1) q1 (fun v d I2 H2 q2 i2 l2 => hq v d I2 H2 q2 i2 (l1.trans l2)) (hx.later l1)
    | false =>
      rw [if_neg Bool.false_ne_true] at q1 ⊢
      exact hb I1 H1 σ τ Q R G l1.ok (rp.later l1) q1 (fun v d I2 H2 q2 i2 l2 => hq v d I2 H2 q2 i2 (l1.trans l2)) (hx.later l1)) hx
theorem de_if {c : Expr} (hc : DT X K W Wx c tA dA) (ha : DE X K W Wx a ta da) (hb : DE X K W Wx b tb db) : DE X K W Wx (.IfExp c a b pos) (tIf tA ta tb) (tdIf dA da db) := by
  have hk := hc.k; subst hk
  exact ⟨rfl, pe_ifExp hc.pt ha.pe hb.pe, .ite hc.sim ha.sim hb.sim⟩
variable {tr : TA} {dr : TDA} {es : List Expr} {e : Expr}
@[simp] def tdNil : TDA := fun _ Q _ => Q []
@[simp] def tdCons (t : TDE) (u : TDA) : TDA := fun τ Q R => t τ (fun d => u τ (fun ds => Q (d :: ds)) R) R
theorem SimA.nil : SimA K W Wx tNil tdNil := fun I H σ τ Q R G ok rp q hq _ => hq [] [] I H q .nil (.refl ok)
theorem SimA.cons (ha : SimE K W Wx te de) (hr : SimA K W Wx tr dr) : SimA K W Wx (tCons te tr) (tdCons de dr) := fun I H σ τ Q R G ok rp t hq hx =>
  ha I H σ τ _ R _ ok rp t (fun v d I1 H1 q1 i1 l1 => hr I1 H1 σ τ _ R _ l1.ok (rp.later l1) q1 (fun vs ds I2 H2 q2 i2 l2 => hq _ _ I2 H2 q2 (.cons (i1.mono l2.ex) i2) (l1.trans l2)) (hx.later l1)) hx
theorem da_nil (hk : X.K = K := by rfl) : DA X K W Wx [] tNil tdNil := by
  subst hk
  exact ⟨rfl, pa_nil, .nil⟩
theorem da_cons (ha : DE X K W Wx e te de) (hr : DA X K W Wx es tr dr) (hs : starEach (e :: es) X.env = (false, eval e X.env) :: starEach es X.env := by rfl) : DA X K W Wx (e :: es) (tCons te tr) (tdCons de dr) := by
  have hk := ha.k; subst hk
  exact ⟨rfl, pa_cons ha.pe hr.pa hs, .cons ha.sim hr.sim⟩
@[simp] def tdTup (u : TDA) : TDE := fun τ Q R => u τ (fun ds => ds.length ≤ sizeLine ∧ Q (.tup ds)) R
@[simp] def tdLst (u : TDA) : TDO := fun τ Q R => u τ (fun ds => ds.length ≤ sizeLine ∧ Q ds) R
theorem SimE.tup (h : SimA K W Wx tr dr) : SimE K W Wx (tTupN tr) (tdTup dr) := fun I H σ τ Q R G ok rp t hq hx =>
  h I H σ τ _ R _ ok rp t (fun vs ds I1 H1 q1 i1 l1 => ⟨by rw [i1.length]; exact q1.1, fun p o hp hd => hq _ _ (upd I1 p (.frz o (.tup vs))) _ q1.2
    (.tup (SqN.of upd_same hd) (i1.mono (Same.new (Same.non (W.ex l1.ok) hp)))) (l1.trans (Later.alloc l1.ok hp))⟩) hx
theorem SimO.lst (h : SimA K W Wx tr dr) : SimO K W Wx (tLst tr) (tdLst dr) := fun I H σ τ Q R G ok rp t hq hx =>
  h I H σ τ _ R _ ok rp t (fun vs ds I1 H1 q1 i1 l1 => ⟨by rw [i1.length]; exact q1.1, fun p hp => by
    have hp0 : H p = none := by
      cases e : H p with
      | none => rfl
      | some o => rw [l1.fr p o (W.fr l1.ok hp) (fun z => z) e] at hp; cases hp
    exact hq p vs ds I1 _ q1.2 hp0 upd_same (Same.non (W.ex l1.ok) hp) i1 (l1.trans (Later.allocO l1.ok hp))⟩) hx
theorem de_tup {x1} (h : DA X K W Wx es tr dr) : DE X K W Wx (.Tuple es x1 pos) (tTupN tr) (tdTup dr) := by
  have hk := h.k; subst hk
  exact ⟨rfl, pe_tupN h.pa, .tup h.sim⟩
theorem do_lst (h : DA X K W Wx es tr dr) : DO X K W Wx (.List es pos) (tLst tr) (tdLst dr) := by
  have hk := h.k; subst hk
  exact ⟨rfl, pe_lst h.pa, .lst h.sim⟩
theorem Later.back' {W : Wd} {I H I' H' : Hp} {p : Addr} (l : Later W I H I' H') (hp : H' p = none) : H p = none := by
  cases e : H p with
  | none => rfl
  | some o => rw [l.fr p o (W.fr l.ok hp) (fun z => z) e] at hp; cases hp
theorem Later.back {I H I' H' : Hp} {p : Addr} (l : Later W I H I' H') (hp : H' p = none) : H p = none := by
  cases e : H p with
  | none => rfl
  | some o => rw [l.fr p o (W.fr l.ok hp) (fun z => z) e] at hp; cases hp
end
end D3
set_option Elab.async false
set_option linter.all false
set_option maxRecDepth 100000
set_option maxHeartbeats 2000000
namespace D3
open PySem L2
section
variable {K : PySem.W.Frag} {W : Wd} {Wx : WX} {X : Cx} {a b e : Expr} {ta tb te : TE} {da db de : TDE} {pos : Pos}
theorem IsAll.atI {I : Hp} {vs : List V} {ds : List D} {i : Int} {d : D} (h : IsAll K I vs ds) (e : L2.atI ds i = some d) : ∃ v, L2.atI vs i = some v ∧ Is K I v d := by
  unfold L2.atI at e ⊢
  rw [h.length]
  cases q : ixN ds.length i with
  | none => rw [q] at e; cases e
  | some j =>
    rw [q] at e
    exact h.get (i := j) e
def fIx : TD2 := fun x y Q => match x, y with
  | .lst ds, .v (.int i) => ∃ d, L2.atI ds i = some d ∧ Q d
  | .tup ds, .v (.int i) => ∃ d, L2.atI ds i = some d ∧ Q d
  | .v (.str z), .v (.int i) => z.length ≤ sizeLine ∧ ∃ c, L2.atI z.cps.toList i = some c ∧ Q (.str ⟨#[c]⟩)
  | _, _ => False
@[simp] theorem fIx_lst {ds : List D} {i : Int} {Q : D → Prop} : fIx (.lst ds) (.v (.int i)) Q = ∃ d, L2.atI ds i = some d ∧ Q d := rfl
@[simp] theorem fIx_tup {ds : List D} {i : Int} {Q : D → Prop} : fIx (.tup ds) (.v (.int i)) Q = ∃ d, L2.atI ds i = some d ∧ Q d := rfl
@[simp] theorem fIx_str {z : Str} {i : Int} {Q : D → Prop} : fIx (.v (.str z)) (.v (.int i)) Q = (z.length ≤ sizeLine ∧ ∃ c, L2.atI z.cps.toList i = some c ∧ Q (.str ⟨#[c]⟩)) := rfl
theorem R2Sim.ix : R2Sim K W (rIx K) fIx := fun I H x y dx dy Q G ok hx hy q hq => by
  show rIx K x y H G
  unfold fIx at q
  split at q
  · cases hy
    obtain ⟨d, e, q⟩ := q
    obtain ⟨p, xs, rfl, sq, al⟩ := is_lst hx
    obtain ⟨v, e', iv⟩ := al.atI e
    exact .inl ⟨p, xs, _, v, rfl, rfl, (W.ex ok).seq sq, e', hq v d I H q iv (Later.refl ok)⟩
  · cases hy
    obtain ⟨d, e, q⟩ := q
    obtain ⟨p, xs, rfl, sq, al⟩ := is_tup hx
    obtain ⟨v, e', iv⟩ := al.atI e
    exact .inr (.inl ⟨p, xs, _, v, rfl, rfl, Same.seqT (W.ex ok) sq, e', hq v d I H q iv (Later.refl ok)⟩)
  · cases hx; cases hy
    obtain ⟨z, c, e, q⟩ := q
    exact .inr (.inr ⟨_, _, c, rfl, rfl, z, e, hq _ _ I H q (.v _) (Later.refl ok)⟩)
  · exact q.elim
theorem de_ix (ha : DE X K W Wx a ta da) (hb : DE X K W Wx b tb db) (hs : PlainIx b := by exact fun _ _ => rfl) : DE X K W Wx (.Subscript a b pos) (tOp (rIx K) ta tb) (tdOp fIx da db) := by
  have hk := ha.k; subst hk
  exact ⟨rfl, pe_ix ix_seq ha.pe hb.pe hs, .op .ix ha.sim hb.sim⟩
abbrev TDO2 := Tau → (Option Int → Prop) → (Exc → Prop) → Prop
def SimP (K : PySem.W.Frag) (W : Wd) (Wx : WX) (t : TO) (u : TDO2) : Prop := ∀ (I H : Hp) (σ : St) (τ : Tau) (Q : Option Int → Prop) (R : Exc → Prop) (G : Option Int → Hp → Prop), W.ok I H → Rep K W I H σ τ → u τ Q R →
  (∀ o I' H', Q o → Later W I H I' H' → G o H') → XOk K W Wx R I H σ → t σ H G
structure DP (X : Cx) (K : PySem.W.Frag) (W : Wd) (Wx : WX) (e : Option Expr) (t : TO) (u : TDO2) : Prop where
  k : X.K = K
  po : PO X e t
  sim : SimP K W Wx t u
@[simp] def tdNoPart : TDO2 := fun _ Q _ => Q none
def onI (x : D) (P : Int → Prop) : Prop := match x with
  | .v (.int i) => P i
  | _ => False
@[simp] theorem onI_int {i : Int} {P : Int → Prop} : onI (.v (.int i)) P = P i := rfl
def onLst (x : D) (P : List D → Prop) : Prop := match x with
  | .lst ds => P ds
  | _ => False
@[simp] theorem onLst_lst {ds : List D} {P : List D → Prop} : onLst (.lst ds) P = P ds := rfl
def onStr (x : D) (P : Str → Prop) : Prop := match x with
  | .v (.str z) => P z
  | _ => False
@[simp] theorem onStr_str {z : Str} {P : Str → Prop} : onStr (.v (.str z)) P = P z := rfl
theorem lst_of {I : Hp} {x : V} {d : D} {P : List D → Prop} (hx : Is K I x d) (h : onLst d P) : ∃ a xs ds, x = .ref a ∧ SqL K I a xs ∧ IsAll K I xs ds ∧ P ds := by
  unfold onLst at h
  split at h
  · obtain ⟨a, xs, e, s, r⟩ := is_lst hx
    exact ⟨a, xs, _, e, s, r, h⟩
  · exact h.elim
theorem str_of1 {I : Hp} {x : V} {d : D} {P : Str → Prop} (hx : Is K I x d) (h : onStr d P) : ∃ z, x = .str z ∧ P z := by
  unfold onStr at h
  split at h
  · cases hx; exact ⟨_, rfl, h⟩
  · exact h.elim
theorem i_of {I : Hp} {x : V} {d : D} {P : Int → Prop} (hx : Is K I x d) (h : onI d P) : ∃ i, x = .int i ∧ P i := by
  unfold onI at h
  split at h
  · cases hx; exact ⟨_, rfl, h⟩
  · exact h.elim
@[simp] def tdPart (t : TDE) : TDO2 := fun τ Q R => t τ (fun d => onI d fun i => Q (some i)) R
theorem dp_none (hk : X.K = K := by rfl) : DP X K W Wx none tNoPart tdNoPart := by
  subst hk
  exact ⟨rfl, po_none, fun I H σ τ Q R G ok rp q hq _ => hq none I H q (Later.refl ok)⟩
theorem dp_some (h : DE X K W Wx e te de) : DP X K W Wx (some e) (tPart te) (tdPart de) := by
  have hk := h.k; subst hk
  exact ⟨rfl, po_some h.pe, fun I H σ τ Q R G ok rp t hq hx =>
  h.sim I H σ τ _ R _ ok rp t (fun v d I1 H1 q1 i1 l1 => by
    obtain ⟨i, rfl, q⟩ := i_of i1 q1
    exact ⟨i, rfl, hq _ I1 H1 q l1⟩) hx⟩
def cutD (ds : List D) (lo hi : Option Int) : List D := (ds.drop (HT.sIx ds.length 0 lo)).take (HT.sIx ds.length ds.length hi - HT.sIx ds.length 0 lo)
theorem IsAll.cut {I : Hp} {vs : List V} {ds : List D} (h : IsAll K I vs ds) (lo hi : Option Int) : IsAll K I (cutV vs lo hi) (cutD ds lo hi) := by
  unfold cutV cutD
  rw [h.length]
  exact (h.drop _).take _
variable {lo hi : Option Expr} {tl th : TO} {dl dh : TDO2} {p2 : Pos}
/-- of a list: a new list -/
@[simp] def tdSlL (t : TDE) (l h : TDO2) : TDO := fun τ Q R => t τ (fun x => l τ (fun lo => h τ (fun hi => onLst x fun ds => Q (cutD ds lo hi)) R) R) R
theorem do_sl (he : DE X K W Wx e te de) (hl : DP X K W Wx lo tl dl) (hh : DP X K W Wx hi th dh) : DO X K W Wx (.Subscript e (.Slice lo hi none p2) pos) (tSl (rSlL K) te tl th) (tdSlL de dl dh) := by
  have hk := he.k; subst hk
  exact ⟨rfl, pe_slice sl_list he.pe hl.po hh.po, fun I H σ τ Q R G ok rp t hq hx => he.sim I H σ τ _ R _ ok rp t (fun v d I1 H1 q1 i1 l1 =>
    hl.sim I1 H1 σ τ _ R _ l1.ok (rp.later l1) q1 (fun lo I2 H2 q2 l2 => hh.sim I2 H2 σ τ _ R _ l2.ok ((rp.later l1).later l2) q2 (fun hi I3 H3 q3 l3 => by
      obtain ⟨p, xs, ds, rfl, sq, al, q3⟩ := lst_of i1 q3
      · have l := (l1.trans l2).trans l3
        refine ⟨p, xs, rfl, (W.ex l3.ok).seq (l3.ex.seq (l2.ex.seq sq)), fun n hn => ?_⟩
        exact hq n _ _ I3 _ q3 (Later.back l hn) upd_same (Same.non (W.ex l3.ok) hn) (((al.mono l2.ex).mono l3.ex).cut lo hi) (l.trans (Later.allocO l3.ok hn))) ((hx.later l1).later l2)) (hx.later l1)) hx⟩
/-- of a text -/
@[simp] def tdSlS (t : TDE) (l h : TDO2) : TDE := fun τ Q R => t τ (fun x => l τ (fun lo => h τ (fun hi => onStr x fun z => z.length ≤ sizeLine ∧ Q (.str (cutS z lo hi))) R) R) R
theorem de_sl (he : DE X K W Wx e te de) (hl : DP X K W Wx lo tl dl) (hh : DP X K W Wx hi th dh) : DE X K W Wx (.Subscript e (.Slice lo hi none p2) pos) (tSl rSlS te tl th) (tdSlS de dl dh) := by
  have hk := he.k; subst hk
  exact ⟨rfl, pe_slice sl_str he.pe hl.po hh.po, fun I H σ τ Q R G ok rp t hq hx => he.sim I H σ τ _ R _ ok rp t (fun v d I1 H1 q1 i1 l1 =>
    hl.sim I1 H1 σ τ _ R _ l1.ok (rp.later l1) q1 (fun lo I2 H2 q2 l2 => hh.sim I2 H2 σ τ _ R _ l2.ok ((rp.later l1).later l2) q2 (fun hi I3 H3 q3 l3 => by
      obtain ⟨z, rfl, q3⟩ := str_of1 i1 q3
      exact ⟨_, rfl, q3.1, hq _ _ I3 H3 q3.2 (.v _) ((l1.trans l2).trans l3)⟩) ((hx.later l1).later l2)) (hx.later l1)) hx⟩
abbrev TDG := D → Tau → (Tau → Prop) → Prop
/-- g stores into the slots idx alone -/
def SimG (K : PySem.W.Frag) (W : Wd) (g : TG) (t : TDG) (idx : List Nat) : Prop := ∀ (I H : Hp) (σ : St) (τ : Tau) (v : V) (d : D) (Q : Tau → Prop) (G : St → Hp → Prop), W.ok I H → Rep K W I H σ τ → Is K I v d → t d τ Q →
  (∀ σ' τ', Q τ' → Rep K W I H σ' τ' → (∀ p, Own σ' τ' p → Own σ τ p) → (∀ vs : List Nat, (∀ i ∈ idx, i ∈ vs) → wipe σ' vs = wipe σ vs) → G σ' H) → g v σ H G
structure DG (X : Cx) (K : PySem.W.Frag) (W : Wd) (e : Expr) (g : TG) (t : TDG) (idx : List Nat) : Prop where
  k : X.K = K
  pg : PG X e g
  sim : SimG K W g t idx
@[simp] def gdName (i : Nat) : TDG := fun d τ Q => Q (τ.set i (some (.dat d)))
theorem wipe_set {σ : St} {i : Nat} {x : Option V} : ∀ {vs : List Nat}, i ∈ vs → wipe (σ.set i x) vs = wipe σ vs
  | [], h => by cases h
  | v :: vs, h => by
    unfold wipe
    by_cases hi : i ∈ vs
    · rw [wipe_set hi]
    · have e : i = v := by
        rcases List.mem_cons.mp h with e | e
        · exact e
        · exact absurd e hi
      subst e
      have : ∀ ws : List Nat, i ∉ ws → wipe (σ.set i x) ws = (wipe σ ws).set i x := by
        intro ws
        induction ws with
        | nil => intro _; rfl
        | cons w ws ih =>
          intro hn
          have h1 : w ≠ i := fun e => hn (by rw [e]; exact List.mem_cons_self)
          unfold wipe
          rw [ih (fun m => hn (List.mem_cons_of_mem _ m)), List.set_comm _ _ (Ne.symm h1)]
      rw [this vs hi, List.set_set]
theorem SimG.name {i : Nat} : SimG K W (gName i) (gdName i) [i] := fun I H σ τ v d Q G ok rp iv q hq =>
  hq _ _ q (rp.set_dat iv) (fun p o => o.set_dat rp.len) fun vs h => wipe_set (h i (List.mem_singleton.mpr rfl))
theorem dg_name {i : Nat} {x : Str} {pos : Pos} (hN : X.N.Nodup) (hi : X.N[i]? = some x := by rfl) (hx : Loc X.env.scope x := by first | exact Or.inl rfl | exact Or.inr rfl)
    (hf : X.fn x = true ∨ X.env.scope.names.lookup x = some .local := by first | exact .inl rfl | exact .inr rfl | assumption) (hk : X.K = K := by rfl) : DG X K W (.Name x pos) (gName i) (gdName i) [i] := by
  subst hk
  exact ⟨rfl, pg_name hN hi hx hf, .name⟩
abbrev TDGs := List D → Tau → (Tau → Prop) → Prop
def SimGs (K : PySem.W.Frag) (W : Wd) (g : TGs) (t : TDGs) (idx : List Nat) : Prop := ∀ (I H : Hp) (σ : St) (τ : Tau) (v : List V) (d : List D) (Q : Tau → Prop) (G : St → Hp → Prop), W.ok I H → Rep K W I H σ τ → IsAll K I v d → t d τ Q →
  (∀ σ' τ', Q τ' → Rep K W I H σ' τ' → (∀ p, Own σ' τ' p → Own σ τ p) → (∀ vs : List Nat, (∀ i ∈ idx, i ∈ vs) → wipe σ' vs = wipe σ vs) → G σ' H) → g v σ H G
structure DGs (X : Cx) (K : PySem.W.Frag) (W : Wd) (e : List Expr) (g : TGs) (t : TDGs) (idx : List Nat) : Prop where
  k : X.K = K
  pg : PGs X e g
  sim : SimGs K W g t idx
@[simp] def gdNil : TDGs := fun ds τ Q => ds = [] ∧ Q τ
def gdCons (t : TDG) (u : TDGs) : TDGs := fun ds τ Q => match ds with
  | d :: r => t d τ fun τ' => u r τ' Q
  | [] => False
@[simp] theorem gdCons_cons {t : TDG} {u : TDGs} {d : D} {r : List D} {τ : Tau} {Q : Tau → Prop} : gdCons t u (d :: r) τ Q = t d τ fun τ' => u r τ' Q := rfl
theorem dgs_nil (hk : X.K = K := by rfl) : DGs X K W [] gNil gdNil [] := by
  subst hk
  exact ⟨rfl, pgs_nil, fun I H σ τ v d Q G ok rp iv q hq => by
  obtain ⟨rfl, q⟩ := q
  cases iv
  exact ⟨rfl, hq σ τ q rp (fun _ o => o) fun _ _ => rfl⟩⟩
theorem dgs_cons {es : List Expr} {g : TG} {t : TDG} {gs : TGs} {u : TDGs} {i1 i2 : List Nat} (h1 : DG X K W e g t i1) (h2 : DGs X K W es gs u i2) (hs : (assignEach (e :: es) X.env).map (·.2) = assign e X.env :: (assignEach es X.env).map (·.2) := by rfl) :
    DGs X K W (e :: es) (gCons g gs) (gdCons t u) (i1 ++ i2) := by
  have hk := h1.k; subst hk
  exact ⟨rfl, pgs_cons h1.pg h2.pg hs, fun I H σ τ v d Q G ok rp iv q hq => by
  cases iv with
  | nil => exact q.elim
  | cons iv ir =>
    refine ⟨_, _, rfl, h1.sim I H σ τ _ _ _ _ ok rp iv q fun σ1 τ1 q1 rp1 o1 w1 => ?_⟩
    refine h2.sim I H σ1 τ1 _ _ _ _ ok rp1 ir q1 fun σ2 τ2 q2 rp2 o2 w2 => ?_
    exact hq σ2 τ2 q2 rp2 (fun p o => o1 p (o2 p o)) fun vs h => (w2 vs fun i hi => h i (List.mem_append_right _ hi)).trans (w1 vs fun i hi => h i (List.mem_append_left _ hi))⟩
def gdTup (n : Nat) (u : TDGs) : TDG := fun d τ Q => match d with
  | .tup ds => ds.length = n ∧ u ds τ Q
  | _ => False
@[simp] theorem gdTup_tup {n : Nat} {u : TDGs} {ds : List D} {τ : Tau} {Q : Tau → Prop} : gdTup n u (.tup ds) τ Q = (ds.length = n ∧ u ds τ Q) := rfl
theorem dg_tup {es : List Expr} {k : Nat} {gs : TGs} {u : TDGs} {idx : List Nat} (hc : X.calm = true) (h : DGs X K W es gs u idx) (hn : (assignEach es X.env).length = es.length := by rfl) (hst : (assignEach es X.env).findIdx? (·.1) = none := by rfl) :
    DG X K W (.Tuple es k pos) (gTup K es.length gs) (gdTup es.length u) idx := by
  have hk := h.k; subst hk
  exact ⟨rfl, pg_tup hc h.pg hn hst, fun I H σ τ v d Q G ok rp iv q hq => by
  unfold gdTup at q
  split at q
  · obtain ⟨p, xs, rfl, sq, al⟩ := is_tup iv
    exact ⟨p, xs, rfl, Same.seqT (W.ex ok) sq, by rw [al.length]; exact q.1, h.sim I H σ τ _ _ _ _ ok rp al q.2 hq⟩
  · exact q.elim⟩
/-- the iterator J yields the data ds, one by one, whatever comes meanwhile -/
def Walks (K : PySem.W.Frag) (W : Wd) (J : It) (I : Hp) (ds : List D) : Prop := ∀ (i : Nat) (I2 H2 : Hp), Same I I2 → W.ok I2 H2 →
  (i < ds.length → J.go i H2 ∧ ∀ x H3, J.yld i H2 x H3 → ∃ I3 d, ds[i]? = some d ∧ Later W I2 H2 I3 H3 ∧ Is K I3 x d) ∧ (ds.length ≤ i → J.stop i H2)
abbrev TDI := Tau → (List D → Prop) → (Exc → Prop) → Prop
def SimI (K : PySem.W.Frag) (W : Wd) (Wx : WX) (t : TI) (u : TDI) : Prop := ∀ (I H : Hp) (σ : St) (τ : Tau) (Q : List D → Prop) (R : Exc → Prop) (G : It → Hp → Prop), W.ok I H → Rep K W I H σ τ → u τ Q R →
  (∀ J ds I' H', Q ds → Walks K W J I' ds → Later W I H I' H' → G J H') → XOk K W Wx R I H σ → t σ H G
structure DI (X : Cx) (K : PySem.W.Frag) (W : Wd) (Wx : WX) (tg e : Expr) (t : TI) (u : TDI) : Prop where
  k : X.K = K
  pi : PI X tg e t
  sim : SimI K W Wx t u
theorem Walks.lst {I : Hp} {a : Addr} {xs : List V} {ds : List D} (sq : SqL K I a xs) (al : IsAll K I xs ds) (uq : ∀ (I2 H2 : Hp), Same I I2 → W.ok I2 H2 → ∀ ys, SqL K H2 a ys → ys = xs) : Walks K W (Itl K a) I ds := fun i I2 H2 e ok => by
  have s2 : SqL K H2 a xs := (W.ex ok).seq (e.seq sq)
  refine ⟨fun hi => ⟨⟨xs, xs[i]'(by rw [al.length]; exact hi), s2, List.getElem?_eq_getElem _⟩, fun x H3 y => ?_⟩, fun hi => ⟨xs, s2, by rw [al.length]; exact hi⟩⟩
  obtain ⟨rfl, y⟩ := y
  obtain ⟨d, hd, iv⟩ := al.getV (y xs s2)
  exact ⟨I2, d, hd, Later.refl ok, iv.mono e⟩
theorem Walks.lst' {I : Hp} {a : Addr} {xs : List V} {ds : List D} (sq : SqL K I a xs) (al : IsAll K I xs ds) : Walks K W (Itl K a) I ds := fun i I2 H2 e ok => by
  have s2 : SqL K H2 a xs := (W.ex ok).seq (e.seq sq)
  refine ⟨fun hi => ⟨⟨xs, xs[i]'(by rw [al.length]; exact hi), s2, List.getElem?_eq_getElem _⟩, fun x H3 y => ?_⟩, fun hi => ⟨xs, s2, by rw [al.length]; exact hi⟩⟩
  obtain ⟨rfl, y⟩ := y
  obtain ⟨d, hd, iv⟩ := al.getV (y xs s2)
  exact ⟨I2, d, hd, Later.refl ok, iv.mono e⟩
theorem Walks.tup {I : Hp} {a : Addr} {xs : List V} {ds : List D} (sq : SqT K I a xs) (al : IsAll K I xs ds) : Walks K W (Itt K a) I ds := fun i I2 H2 e ok => by
  have s2 : SqT K H2 a xs := Same.seqT (W.ex ok) (Same.seqT e sq)
  refine ⟨fun hi => ⟨⟨xs, xs[i]'(by rw [al.length]; exact hi), s2, List.getElem?_eq_getElem _⟩, fun x H3 y => ?_⟩, fun hi => ⟨xs, s2, by rw [al.length]; exact hi⟩⟩
  obtain ⟨rfl, y⟩ := y
  obtain ⟨d, hd, iv⟩ := al.getV (y xs s2)
  exact ⟨I2, d, hd, Later.refl ok, iv.mono e⟩
/-- a text's signs, each a text -/
def signs (z : Str) : List D := z.cps.toList.map fun c => D.str ⟨#[c]⟩
theorem Walks.str {I : Hp} {z : Str} : Walks K W (Its z) I (signs z) := fun i I2 H2 e ok => by
  have hl : (signs z).length = z.cps.size := by unfold signs; rw [List.length_map, Array.length_toList]
  refine ⟨fun hi => ⟨by rw [hl] at hi; exact hi, fun x H3 y => ?_⟩, fun hi => by rw [hl] at hi; exact hi⟩
  obtain ⟨rfl, c, hc, rfl⟩ := y
  refine ⟨I2, D.str ⟨#[c]⟩, ?_, Later.refl ok, .v _⟩
  unfold signs
  rw [List.getElem?_map, Array.getElem?_toList, hc]
  rfl
def numsD (lo : Int) (n : Nat) : List D := (List.range n).map fun i => D.int (lo + (i : Nat))
theorem Walks.rng {I : Hp} {lo : Int} {n : Nat} : Walks K W (Itr lo n) I (numsD lo n) := fun i I2 H2 e ok => by
  have hl : (numsD lo n).length = n := by unfold numsD; rw [List.length_map, List.length_range]
  refine ⟨fun hi => ⟨by rw [hl] at hi; exact hi, fun x H3 y => ?_⟩, fun hi => by rw [hl] at hi; exact hi⟩
  obtain ⟨rfl, rfl⟩ := y
  refine ⟨I2, D.int (lo + (i : Nat)), ?_, Later.refl ok, .v _⟩
  unfold numsD
  rw [List.getElem?_map, List.getElem?_range (by rw [hl] at hi; exact hi)]
  rfl
/-- over a list, a tuple, a text -/
def items (d : D) (Q : List D → Prop) : Prop := match d with
  | .lst ds => Q ds
  | .tup ds => Q ds
  | .v (.str z) => Q (signs z)
  | _ => False
@[simp] theorem items_lst {ds : List D} {Q : List D → Prop} : items (.lst ds) Q = Q ds := rfl
@[simp] theorem items_tup {ds : List D} {Q : List D → Prop} : items (.tup ds) Q = Q ds := rfl
@[simp] theorem items_str {z : Str} {Q : List D → Prop} : items (.v (.str z)) Q = Q (signs z) := rfl
@[simp] def idAny (t : TDE) : TDI := fun τ Q R => t τ (fun d => items d Q) R
def iAny (K : PySem.W.Frag) (te : TE) : TI := fun σ H R => te σ H fun x H1 => (∃ a, x = .ref a ∧ (∃ xs, SqL K H1 a xs) ∧ R (Itl K a) H1) ∨ (∃ a, x = .ref a ∧ (∃ xs, SqT K H1 a xs) ∧ R (Itt K a) H1) ∨ ∃ z, x = .str z ∧ R (Its z) H1
/-- an iterator just laid -/
theorem laid_it {pins : List (Addr × Obj)} {σ : St} {H1 : Hp} {s1 : Shared} {tg : Expr} {J : It} {G : It → Hp → Prop} {tn : Nat → Heap → Prop} (o : Obj) (I1 : Inv X pins σ H1 s1) (T : Turn X.prog X.w X.K tg J [s1.heap.objs.size] s1.heap.objs.size tn)
    (h0 : tn 0 (s1.heap.push o)) (q : G J H1) : PIE X pins σ tg G (.ref s1.heap.objs.size) { s1 with heap := s1.heap.push o } := by
  have I2 : Inv X pins σ H1 { s1 with heap := s1.heap.push o, toks := s1.toks } := I1.kept fun b o e => Heap.get?_push_of_some _ e
  exact ⟨_, _, tn, J, H1, rfl, I2, T, h0, fun b hb => by
    cases List.mem_singleton.mp hb
    exact I1.fpOk (Nat.le_refl _) (I1.hok.fresh (Nat.le_refl _)), q⟩
theorem pi_any {tg : Expr} (he : PE X e te) : PI X tg e (iAny X.K te) := by
  refine ⟨fun pins s σ H R I h => thn (he.run pins s σ H _ I h) ?_⟩
  rintro v s1 ⟨x, H1, I1, r1, (⟨a, rfl, ⟨xs, hq⟩, q⟩ | ⟨a, rfl, ⟨xs, hq⟩, q⟩ | ⟨z, rfl, q⟩)⟩
  · cases r1
    obtain ⟨its, _, p, _⟩ := I1.list hq
    exact wpAny_pyIter_list p.isList (laid_it _ I1 (turn_list a _) ⟨_, Heap.get?_push_size _ rfl, rfl, rfl⟩ q)
  · cases r1
    obtain ⟨its, _, p, _⟩ := I1.tuple hq
    exact wpAny_pyIter_tuple p (laid_it _ I1 (turn_tuple a _) ⟨_, Heap.get?_push_size _ rfl, rfl, rfl⟩ q)
  · obtain ⟨t, rfl⟩ := r1
    cases hc : z.cps.all (· < 128)
    · exact wpAny_pyIter_wide hc (laid_it _ I1 (turn_str _ z t "str_iterator" (.inr rfl)) ⟨_, Heap.get?_push_size _ rfl, rfl, rfl⟩ q)
    · exact wpAny_pyIter_ascii hc (laid_it _ I1 (turn_str _ z t "str_ascii_iterator" (.inl rfl)) ⟨_, Heap.get?_push_size _ rfl, rfl, rfl⟩ q)
theorem SimI.any (h : SimE K W Wx te de) : SimI K W Wx (iAny K te) (idAny de) := fun I H σ τ Q R G ok rp t hq hx =>
  h I H σ τ _ R _ ok rp t (fun v d I1 H1 q1 i1 l1 => by
    unfold items at q1
    split at q1
    · obtain ⟨a, xs, rfl, sq, al⟩ := is_lst i1
      exact .inl ⟨a, rfl, ⟨xs, (W.ex l1.ok).seq sq⟩, hq _ _ I1 H1 q1 (Walks.lst' sq al) l1⟩
    · obtain ⟨a, xs, rfl, sq, al⟩ := is_tup i1
      exact .inr (.inl ⟨a, rfl, ⟨xs, Same.seqT (W.ex l1.ok) sq⟩, hq _ _ I1 H1 q1 (Walks.tup sq al) l1⟩)
    · cases i1
      exact .inr (.inr ⟨_, rfl, hq _ _ I1 H1 q1 Walks.str l1⟩)
    · exact q1.elim) hx
theorem di_any {tg : Expr} (h : DE X K W Wx e te de) : DI X K W Wx tg e (iAny K te) (idAny de) := by
  have hk := h.k; subst hk
  exact ⟨rfl, pi_any h.pe, .any h.sim⟩
/-- range(n), range(a, b) -/
def rng1 (ds : List D) (Q : List D → Prop) : Prop := match ds with
  | [.v (.int j)] => j < 2 ^ 62 ∧ -(2 ^ 62) ≤ j ∧ Q (numsD 0 j.toNat)
  | _ => False
def rng2 (ds : List D) (Q : List D → Prop) : Prop := match ds with
  | [.v (.int i), .v (.int j)] => (-(2 ^ 62) ≤ i ∧ i < 2 ^ 62 ∧ -(2 ^ 62) ≤ j ∧ j < 2 ^ 62) ∧ Q (numsD i (j - i).toNat)
  | _ => False
@[simp] theorem rng1_int {j : Int} {Q : List D → Prop} : rng1 [.v (.int j)] Q = (j < 2 ^ 62 ∧ -(2 ^ 62) ≤ j ∧ Q (numsD 0 j.toNat)) := rfl
@[simp] theorem rng2_int {i j : Int} {Q : List D → Prop} : rng2 [.v (.int i), .v (.int j)] Q = ((-(2 ^ 62) ≤ i ∧ i < 2 ^ 62 ∧ -(2 ^ 62) ≤ j ∧ j < 2 ^ 62) ∧ Q (numsD i (j - i).toNat)) := rfl
@[simp] def idR1 (u : TDA) : TDI := fun τ Q R => u τ (fun ds => rng1 ds Q) R
@[simp] def idR2 (u : TDA) : TDI := fun τ Q R => u τ (fun ds => rng2 ds Q) R
variable {tr : TA} {dr : TDA} {p : Pos} {tg : Expr}
theorem isAll1 {I : Hp} {vs : List V} {d : D} (h : IsAll K I vs [d]) : ∃ v, vs = [v] ∧ Is K I v d := by
  cases h with
  | cons h r => cases r; exact ⟨_, rfl, h⟩
theorem isAll2 {I : Hp} {vs : List V} {d d' : D} (h : IsAll K I vs [d, d']) : ∃ v v', vs = [v, v'] ∧ Is K I v d ∧ Is K I v' d' := by
  cases h with
  | cons h r =>
    obtain ⟨v', rfl, h'⟩ := isAll1 r
    exact ⟨_, _, rfl, h, h'⟩
theorem di_range1 (hg : Gl X "range") (hm : X.mg "range" = none) (ha : DA X K W Wx [a] tr dr) (hs : starEach [a] X.env = [(false, eval a X.env)] := by rfl) : DI X K W Wx tg (.Call (.Name "range" p) [a] [] pos) (iRng1 tr) (idR1 dr) := by
  have hk := ha.k; subst hk
  exact ⟨rfl, pi_range1 hg hm ha.pa hs, fun I H σ τ Q R G ok rp t hq hx => ha.sim I H σ τ _ R _ ok rp t (fun vs ds I1 H1 q1 i1 l1 => by
    unfold rng1 at q1
    split at q1
    · obtain ⟨v, rfl, h⟩ := isAll1 i1
      cases h
      exact ⟨_, rfl, q1.2.1, q1.1, hq _ _ I1 H1 q1.2.2 Walks.rng l1⟩
    · exact q1.elim) hx⟩
theorem di_range2 (hg : Gl X "range") (hm : X.mg "range" = none) (ha : DA X K W Wx [a, b] tr dr) (hs : starEach [a, b] X.env = [(false, eval a X.env), (false, eval b X.env)] := by rfl) (hs2 : starEach [b] X.env = [(false, eval b X.env)] := by rfl) :
    DI X K W Wx tg (.Call (.Name "range" p) [a, b] [] pos) (iRng2 tr) (idR2 dr) := by
  have hk := ha.k; subst hk
  exact ⟨rfl, pi_range2 hg hm ha.pa hs hs2, fun I H σ τ Q R G ok rp t hq hx => ha.sim I H σ τ _ R _ ok rp t (fun vs ds I1 H1 q1 i1 l1 => by
    unfold rng2 at q1
    split at q1
    · obtain ⟨v, v', rfl, h, h'⟩ := isAll2 i1
      cases h; cases h'
      exact ⟨_, _, rfl, q1.1, hq _ _ I1 H1 q1.2 Walks.rng l1⟩
    · exact q1.elim) hx⟩
@[simp] def wipeT (τ : Tau) : List Nat → Tau
  | [] => τ
  | v :: vs => (wipeT τ vs).set v none
/-- the items of a comprehension -/
def compD (g : TDG) (tt : TDT) (te : TDE) (vs : List Nat) (τ : Tau) : List D → (List D → Prop) → Prop
  | [], Q => Q []
  | d :: ds, Q => g d (wipeT τ vs) fun τ2 => tt τ2 (fun b => if b = true then te τ2 (fun y => compD g tt te vs τ ds fun ys => Q (y :: ys)) (fun _ => False) else compD g tt te vs τ ds Q) (fun _ => False)
theorem Rep.wipe {I H : Hp} {σ : St} {τ : Tau} (r : Rep K W I H σ τ) : ∀ vs : List Nat, Rep K W I H (wipe σ vs) (wipeT τ vs)
  | [] => r
  | v :: vs => by
    have h := Rep.wipe r vs
    unfold L2.wipe wipeT
    have ne : ∀ {m : Nat} {s : SD}, ((wipeT τ vs).set v none)[m]? = some (some s) → v ≠ m := fun {m s} q z => by
      subst z
      by_cases hv : v < (wipeT τ vs).length
      · rw [List.getElem?_set_self hv] at q; cases q
      · rw [List.getElem?_eq_none (by simpa using hv)] at q; cases q
    refine ⟨by simpa using h.len, fun j s e => ?_, fun j k s t v w a e1 e2 e3 e4 => ?_⟩
    · have n1 := ne e
      rw [List.getElem?_set_ne n1] at e ⊢
      exact h.at_ j s e
    · have n1 := ne e1
      have n2 := ne e2
      rw [List.getElem?_set_ne n1] at e1 e3
      rw [List.getElem?_set_ne n2] at e2 e4
      exact h.inj j k s t v w a e1 e2 e3 e4
theorem wipe_in {σ : St} {i : Nat} : ∀ {vs : List Nat}, i ∈ vs → i < σ.length → (L2.wipe σ vs)[i]? = some none
  | [], h, _ => by cases h
  | v :: vs, h, hl => by
    unfold L2.wipe
    by_cases e : v = i
    · subst e
      exact List.getElem?_set_self (by rw [wipe_length]; exact hl)
    · rw [List.getElem?_set_ne e]
      exact wipe_in ((List.mem_cons.mp h).resolve_left fun z => e z.symm) hl
theorem wipe_wipe (σ : St) (vs : List Nat) : L2.wipe (L2.wipe σ vs) vs = L2.wipe σ vs := by
  refine List.ext_getElem? fun i => ?_
  by_cases hl : i < σ.length
  · by_cases hi : i ∈ vs
    · rw [wipe_in hi (by rw [wipe_length]; exact hl), wipe_in hi hl]
    · rw [wipe_out hi]
  · rw [List.getElem?_eq_none (by rw [wipe_length, wipe_length]; omega), List.getElem?_eq_none (by rw [wipe_length]; omega)]
/-- a comprehension's tests -/
structure DTs (X : Cx) (K : PySem.W.Frag) (W : Wd) (ifs : List Expr) (tt : TT) (t : TDT) : Prop where
  k : X.K = K
  pt : PTs X ifs tt
  sim : SimT K W (fun _ _ _ _ => False) tt t
@[simp] def tdYes : TDT := fun _ Q _ => Q true
theorem dts_nil (hk : X.K = K := by rfl) : DTs X K W [] tYes tdYes := by
  subst hk
  exact ⟨rfl, pts_nil, fun I H σ τ Q R G ok rp q hq _ => hq true I H q (Later.refl ok)⟩
theorem dts_one {c : Expr} {tt : TT} {t : TDT} (h : DT X K W (fun _ _ _ _ => False) c tt t) : DTs X K W [c] tt t := by
  have hk := h.k; subst hk
  exact ⟨rfl, pts_one h.pt, h.sim⟩
@[simp] def tdLc (ti : TDI) (g : TDG) (tt : TDT) (te : TDE) (vs : List Nat) : TDO := fun τ Q R => ti τ (fun ds => ds.length ≤ sizeLine ∧ compD g tt te vs τ ds Q) R
theorem xok_false {I H : Hp} {σ : St} : XOk K W (fun _ _ _ _ => False) (fun _ => False) I H σ := fun _ _ _ _ _ z _ _ => z
theorem SimO.lc {wi : TI} {ti : TDI} {g : TG} {gd : TDG} {idx : List Nat} {tt : TT} {td : TDT} {te : TE} {de : TDE} {vs : List Nat} (hi : SimI K W Wx wi ti) (hg : SimG K W g gd idx) (ht : SimT K W (fun _ _ _ _ => False) tt td) (he : SimE K W (fun _ _ _ _ => False) te de)
    (hv : ∀ i ∈ idx, i ∈ vs) : SimO K W Wx (tLc wi g tt te vs) (tdLc ti gd td de vs) := fun I H σ τ Q R G ok rp t hq hx =>
  hi I H σ τ _ R _ ok rp t (fun J ds I1 H1 q1 wk l1 LL hD => by
    have hD0 : H LL = none := Later.back l1 hD
    have fD : W.free LL := W.fr l1.ok hD
    refine ⟨fun i m H2 => ∃ (I2 : Hp) (acc : List V) (ys : List D), m = ds.length - i ∧ i ≤ ds.length ∧ Later W I H I2 H2 ∧ Same I1 I2 ∧ H2 LL = some (.lst acc) ∧ I2 LL = none ∧ IsAll K I2 acc ys ∧ ys.length ≤ i ∧
      compD gd td de vs τ (ds.drop i) (fun zs => Q (ys ++ zs)), ⟨ds.length, I1, [], [], by simp, Nat.zero_le _, l1.trans (Later.allocO l1.ok hD), Same.refl _, upd_same, Same.non (W.ex l1.ok) hD, .nil, Nat.le_refl _, q1.2⟩, ?_⟩
    rintro i m H2 ⟨I2, acc, ys, rfl, hil, l2, e2, hacc, hI, al, hy, c⟩
    obtain ⟨w1, w2⟩ := wk i I2 H2 e2 l2.ok
    by_cases hlt : i < ds.length
    · obtain ⟨go, yl⟩ := w1 hlt
      refine .inr ⟨go, fun H3 => ∃ (I3 : Hp) (acc : List V) (ys : List D), Later W I H I3 H3 ∧ Same I1 I3 ∧ H3 LL = some (.lst acc) ∧ I3 LL = none ∧ IsAll K I3 acc ys ∧ ys.length ≤ i + 1 ∧ compD gd td de vs τ (ds.drop (i + 1)) (fun zs => Q (ys ++ zs)), ?_, ?_⟩
      · rintro H3 ⟨I3, acc, ys, h1, h2, h3, h4, h5, h6, h7⟩
        exact ⟨ds.length - (i + 1), by omega, I3, acc, ys, rfl, hlt, h1, h2, h3, h4, h5, h6, h7⟩
      · intro x H3 y
        obtain ⟨I3, d, hd, l3, ix⟩ := yl x H3 y
        have hdrop : ds.drop i = d :: ds.drop (i + 1) := by
          obtain ⟨h1, h2⟩ := List.getElem?_eq_some_iff.mp hd
          rw [← h2]; exact List.drop_eq_getElem_cons h1
        rw [hdrop] at c
        have lH3 := l2.trans l3
        have keepD : ∀ {I4 H4 : Hp}, Later W I2 H2 I4 H4 → H4 LL = some (.lst acc) ∧ I4 LL = none := fun {I4 H4} l => ⟨l.fr LL _ fD (fun z => z) hacc, by
          cases q : I4 LL with
          | none => rfl
          | some o =>
            rcases l.nw LL hI (by rw [q]; intro z; cases z) with z | z
            · rw [hacc] at z; cases z
            · exact z.elim⟩
        refine hg I3 H3 (wipe σ vs) (wipeT τ vs) x d _ _ l3.ok ((rp.later lH3).wipe vs) ix c fun σ2 τ2 q2 rp2 _ wz => ⟨(wz vs hv).trans (wipe_wipe σ vs), ?_⟩
        refine ht I3 H3 σ2 τ2 _ _ _ l3.ok rp2 q2 (fun b I4 H4 q4 l4 => ?_) xok_false
        cases b with
        | true =>
          rw [if_pos rfl] at q4 ⊢
          refine he I4 H4 σ2 τ2 _ _ _ l4.ok (rp2.later l4) q4 (fun v dy I5 H5 q5 i5 l5 => ?_) xok_false
          have l25 := (l3.trans l4).trans l5
          obtain ⟨k1, k2⟩ := keepD l25
          have hlen : acc.length < sizeLine := by
            have := al.length
            have := q1.1
            omega
          refine ⟨acc, k1, hlen, I5, acc ++ [v], ys ++ [dy], ?_, (e2.trans l25.ex), upd_same, k2, (al.mono l25.ex).append (.cons i5 .nil), by simp; omega, by simpa [List.append_assoc] using q5⟩
          have l5' := l2.trans l25
          exact ⟨l5'.ex, W.mu l5'.ok k2 fD, fun a o f n e => by
            have : a ≠ LL := fun z => by rw [z, hD0] at e; cases e
            rw [upd_ne this]; exact l5'.fr a o f n e, l5'.nw, l5'.ow⟩
        | false =>
          rw [if_neg Bool.false_ne_true] at q4 ⊢
          have l24 := l3.trans l4
          obtain ⟨k1, k2⟩ := keepD l24
          exact ⟨I4, acc, ys, l2.trans l24, e2.trans l24.ex, k1, k2, al.mono l24.ex, by omega, q4⟩
    · have e : i = ds.length := by omega
      subst e
      refine .inl ⟨w2 (Nat.le_refl _), ?_⟩
      rw [List.drop_length] at c
      exact hq LL acc ys I2 H2 (by simpa [compD] using c) hD0 hacc hI al l2) hx
theorem do_lc {elt tg iter : Expr} {ifs : List Expr} {scope : Scope} {own : List (Str × Nat)} {pos : Pos} {wi : TI} {ti : TDI} {g : TG} {gd : TDG} {idx : List Nat} {tt : TT} {td : TDT} {te : TE} {de : TDE} (hc : X.calm = true) (hN : X.N.Nodup) (hi : DI X K W Wx tg iter wi ti) (ok : BlkOk X.N X.env.scope scope own)
    (hg : ∀ (s : Shared) (H : Hp) (C : Addr) (cl : List (Str × Addr)) (fp : List Addr), DG (X.blk s H scope (compEnvC scope cl C X.env) fp) K W tg g gd idx) (ht : ∀ (s : Shared) (H : Hp) (C : Addr) (cl : List (Str × Addr)) (fp : List Addr), DTs (X.blk s H scope (compEnvC scope cl C X.env) fp) K W ifs tt td)
    (he : ∀ (s : Shared) (H : Hp) (C : Addr) (cl : List (Str × Addr)) (fp : List Addr), DE (X.blk s H scope (compEnvC scope cl C X.env) fp) K W (fun _ _ _ _ => False) elt te de) (hv : ∀ i ∈ idx, i ∈ own.map (·.2) := by decide) (hs : ∀ x, foldedSetIterable iter X.env x = pure x := by intro _; rfl) :
    DO X K W Wx (.ListComp elt [⟨tg, iter, ifs, 0⟩] scope pos) (tLc wi g tt te (own.map (·.2))) (tdLc ti gd td de (own.map (·.2))) := by
  have hk := hi.k; subst hk
  exact ⟨rfl, pe_lc hc hN hi.pi ok (fun s H C cl fp => (hg s H C cl fp).pg) (fun s H C cl fp => (ht s H C cl fp).pt) (fun s H C cl fp => (he s H C cl fp).pe) hs,
    .lc hi.sim (hg { heap := { objs := #[] } } (fun _ => none) 0 [] []).sim (ht { heap := { objs := #[] } } (fun _ => none) 0 [] []).sim (he { heap := { objs := #[] } } (fun _ => none) 0 [] []).sim hv⟩
end
end D3
set_option Elab.async false
set_option linter.all false
set_option maxRecDepth 100000
set_option maxHeartbeats 2000000
namespace D3
open PySem L2
section
variable {K : PySem.W.Frag} {W : Wd} {Wx : WX} {X : Cx} {a b e : Expr} {es : List Expr} {ta tb te : TE} {da db de : TDE} {tr : TA} {dr : TDA} {pos p : Pos} {x : Str}
abbrev FD := List D → (D → Prop) → Prop
def CallSim (K : PySem.W.Frag) (W : Wd) (r : List V → Hp → VK → Prop) (f : FD) : Prop := ∀ (I H : Hp) (vs : List V) (ds : List D) (Q : D → Prop) (G : VK), W.ok I H → IsAll K I vs ds → f ds Q →
  (∀ v d I' H', Q d → Is K I' v d → Later W I H I' H' → G v H') → r vs H G
def CallSimO (K : PySem.W.Frag) (W : Wd) (r : List V → Hp → VK → Prop) (f : List D → (List D → Prop) → Prop) : Prop := ∀ (I H : Hp) (vs : List V) (ds : List D) (Q : List D → Prop) (G : VK), W.ok I H → IsAll K I vs ds → f ds Q →
  (∀ p ws es I' H', Q es → H p = none → H' p = some (.lst ws) → I' p = none → IsAll K I' ws es → Later W I H I' H' → G (.ref p) H') → r vs H G
@[simp] def tdCB (f : FD) (u : TDA) : TDE := fun τ Q R => u τ (fun ds => f ds Q) R
@[simp] def tdCBO (f : List D → (List D → Prop) → Prop) (u : TDA) : TDO := fun τ Q R => u τ (fun ds => f ds Q) R
theorem SimE.cb {r : List V → Hp → VK → Prop} {f : FD} (hr : CallSim K W r f) (h : SimA K W Wx tr dr) : SimE K W Wx (tCB r tr) (tdCB f dr) := fun I H σ τ Q R G ok rp t hq hx =>
  h I H σ τ _ R _ ok rp t (fun vs ds I1 H1 q1 i1 l1 => hr I1 H1 vs ds Q G l1.ok i1 q1 fun v d I2 H2 q2 i2 l2 => hq v d I2 H2 q2 i2 (l1.trans l2)) hx
theorem SimO.cb {r : List V → Hp → VK → Prop} {f : List D → (List D → Prop) → Prop} (hr : CallSimO K W r f) (h : SimA K W Wx tr dr) : SimO K W Wx (tCB r tr) (tdCBO f dr) := fun I H σ τ Q R G ok rp t hq hx =>
  h I H σ τ _ R _ ok rp t (fun vs ds I1 H1 q1 i1 l1 => hr I1 H1 vs ds Q G l1.ok i1 q1 fun p ws es I2 H2 q2 n2 h2 f2 i2 l2 => hq p ws es I2 H2 q2 (Later.back' l1 n2) h2 f2 i2 (l1.trans l2)) hx
theorem de_cb {r : List V → Hp → VK → Prop} {f : FD} {id : String} (hc : CallR X (.builtin id) r) (hr : CallSim K W r f) (hg : Gl X x) (hm : X.mg x = none) (hv : bootBuiltins x = some (.builtin id)) (ha : DA X K W Wx (e :: es) tr dr) (hn : x ≠ "__name__" := by decide) (hdb : (x == ("__debug__" : Str)) = false := by decide)
    (he : starEach (e :: es) X.env = (false, eval e X.env) :: starEach es X.env := by rfl) (hpl : (backTo pos (starEach es X.env)).any (·.1) = false := by rfl) : DE X K W Wx (.Call (.Name x p) (e :: es) [] pos) (tCB r tr) (tdCB f dr) := by
  have hk := ha.k; subst hk
  exact ⟨rfl, pe_callB hc hg hm hv ha.pa hn hdb he hpl, .cb hr ha.sim⟩
theorem de_cty {r : List V → Hp → VK → Prop} {f : FD} {T : String} (hc : CallR X (.type T) r) (hr : CallSim K W r f) (hg : Gl X x) (hm : X.mg x = none) (hv : bootBuiltins x = some (.type T)) (ha : DA X K W Wx (e :: es) tr dr) (hn : x ≠ "__name__" := by decide) (hdb : (x == ("__debug__" : Str)) = false := by decide)
    (he : starEach (e :: es) X.env = (false, eval e X.env) :: starEach es X.env := by rfl) (hpl : (backTo pos (starEach es X.env)).any (·.1) = false := by rfl) : DE X K W Wx (.Call (.Name x p) (e :: es) [] pos) (tCB r tr) (tdCB f dr) := by
  have hk := ha.k; subst hk
  exact ⟨rfl, pe_callTy hc hg hm hv ha.pa hn hdb he hpl, .cb hr ha.sim⟩
theorem do_cty {r : List V → Hp → VK → Prop} {f : List D → (List D → Prop) → Prop} {T : String} (hc : CallR X (.type T) r) (hr : CallSimO K W r f) (hg : Gl X x) (hm : X.mg x = none) (hv : bootBuiltins x = some (.type T)) (ha : DA X K W Wx (e :: es) tr dr) (hn : x ≠ "__name__" := by decide) (hdb : (x == ("__debug__" : Str)) = false := by decide)
    (he : starEach (e :: es) X.env = (false, eval e X.env) :: starEach es X.env := by rfl) (hpl : (backTo pos (starEach es X.env)).any (·.1) = false := by rfl) : DO X K W Wx (.Call (.Name x p) (e :: es) [] pos) (tCB r tr) (tdCBO f dr) := by
  have hk := ha.k; subst hk
  exact ⟨rfl, pe_callTy hc hg hm hv ha.pa hn hdb he hpl, .cb hr ha.sim⟩
/-- len -/
def fLen : FD := fun ds Q => match ds with
  | [.lst xs] => Q (.int xs.length)
  | [.tup xs] => Q (.int xs.length)
  | [.v (.str z)] => z.length ≤ sizeLine ∧ Q (.int z.length)
  | _ => False
@[simp] theorem fLen_lst {xs : List D} {Q : D → Prop} : fLen [.lst xs] Q = Q (.int xs.length) := rfl
@[simp] theorem fLen_tup {xs : List D} {Q : D → Prop} : fLen [.tup xs] Q = Q (.int xs.length) := rfl
@[simp] theorem fLen_str {z : Str} {Q : D → Prop} : fLen [.v (.str z)] Q = (z.length ≤ sizeLine ∧ Q (.int z.length)) := rfl
theorem CallSim.len : CallSim K W (fun xs H Q => ∃ x n, xs = [x] ∧ LenV K x H n ∧ Q (.int n) H) fLen := fun I H vs ds Q G ok al q hq => by
  unfold fLen at q
  split at q
  · obtain ⟨v, rfl, h⟩ := isAll1 al
    obtain ⟨p, ys, rfl, sq, al2⟩ := is_lst h
    exact ⟨_, _, rfl, .inl ⟨ys, (W.ex ok).seq sq, al2.length.symm⟩, hq _ _ I H q (.v _) (Later.refl ok)⟩
  · obtain ⟨v, rfl, h⟩ := isAll1 al
    obtain ⟨p, ys, rfl, sq, al2⟩ := is_tup h
    exact ⟨_, _, rfl, .inr ⟨ys, Same.seqT (W.ex ok) sq, al2.length.symm⟩, hq _ _ I H q (.v _) (Later.refl ok)⟩
  · obtain ⟨v, rfl, h⟩ := isAll1 al
    cases h
    exact ⟨_, _, rfl, ⟨q.1, rfl⟩, hq _ _ I H q.2 (.v _) (Later.refl ok)⟩
  · exact q.elim
theorem de_len (hm : X.mg "len" = none) (ha : DA X K W Wx [a] tr dr) (hg : Gl X "len" := by rfl) (he : starEach [a] X.env = (false, eval a X.env) :: starEach [] X.env := by rfl) : DE X K W Wx (.Call (.Name "len" p) [a] [] pos) (tCB (fun xs H Q => ∃ x n, xs = [x] ∧ LenV K x H n ∧ Q (.int n) H) tr) (tdCB fLen dr) := by
  have hk := ha.k; subst hk
  exact de_cb call_len .len hg hm PySem.boot_len ha (by decide) (by decide) he rfl
/-- all, any of a list of bools -/
def fAll : FD := fun ds Q => match ds with
  | [.lst xs] => ∃ bs : List Bool, xs = bs.map D.bl ∧ Q (.bl (bs.all id))
  | _ => False
def fAny : FD := fun ds Q => match ds with
  | [.lst xs] => ∃ bs : List Bool, xs = bs.map D.bl ∧ Q (.bl (bs.any id))
  | _ => False
@[simp] theorem fAll_lst {xs : List D} {Q : D → Prop} : fAll [.lst xs] Q = ∃ bs : List Bool, xs = bs.map D.bl ∧ Q (.bl (bs.all id)) := rfl
@[simp] theorem fAny_lst {xs : List D} {Q : D → Prop} : fAny [.lst xs] Q = ∃ bs : List Bool, xs = bs.map D.bl ∧ Q (.bl (bs.any id)) := rfl
theorem isAll_bl {I : Hp} : ∀ {bs : List Bool} {vs : List V}, IsAll K I vs (bs.map D.bl) → vs = bs.map V.bl
  | [], _, h => by cases h; rfl
  | b :: bs, _, h => by
    cases h with
    | cons h r =>
      cases h
      rw [isAll_bl r]
      rfl
theorem isAll_str {I : Hp} : ∀ {bs : List Str} {vs : List V}, IsAll K I vs (bs.map D.str) → vs = bs.map V.str
  | [], _, h => by cases h; rfl
  | b :: bs, _, h => by
    cases h with
    | cons h r =>
      cases h
      rw [isAll_str r]
      rfl
theorem isAll_int {I : Hp} : ∀ {bs : List Int} {vs : List V}, IsAll K I vs (bs.map D.int) → vs = bs.map V.int
  | [], _, h => by cases h; rfl
  | b :: bs, _, h => by
    cases h with
    | cons h r =>
      cases h
      rw [isAll_int r]
      rfl
theorem CallSim.all : CallSim K W (rAll K) fAll := fun I H vs ds Q G ok al q hq => by
  unfold fAll at q
  split at q
  · obtain ⟨v, rfl, h⟩ := isAll1 al
    obtain ⟨p, ys, rfl, sq, al2⟩ := is_lst h
    obtain ⟨bs, rfl, q⟩ := q
    cases isAll_bl al2
    exact ⟨p, bs, rfl, (W.ex ok).seq sq, hq _ _ I H q (.v _) (Later.refl ok)⟩
  · exact q.elim
theorem CallSim.any : CallSim K W (rAny K) fAny := fun I H vs ds Q G ok al q hq => by
  unfold fAny at q
  split at q
  · obtain ⟨v, rfl, h⟩ := isAll1 al
    obtain ⟨p, ys, rfl, sq, al2⟩ := is_lst h
    obtain ⟨bs, rfl, q⟩ := q
    cases isAll_bl al2
    exact ⟨p, bs, rfl, (W.ex ok).seq sq, hq _ _ I H q (.v _) (Later.refl ok)⟩
  · exact q.elim
theorem de_all (hm : X.mg "all" = none) (ha : DA X K W Wx [a] tr dr) (hc : X.calm = true := by rfl) (hg : Gl X "all" := by rfl) (he : starEach [a] X.env = (false, eval a X.env) :: starEach [] X.env := by rfl) : DE X K W Wx (.Call (.Name "all" p) [a] [] pos) (tCB (rAll K) tr) (tdCB fAll dr) := by
  have hk := ha.k; subst hk
  exact de_cb (cr_all hc) .all hg hm (by decide +kernel) ha (by decide) (by decide) he rfl
/-- list(..) of a list or a tuple -/
def fList : List D → (List D → Prop) → Prop := fun ds Q => match ds with
  | [.lst xs] => Q xs
  | [.tup xs] => Q xs
  | _ => False
@[simp] theorem fList_lst {xs : List D} {Q : List D → Prop} : fList [.lst xs] Q = Q xs := rfl
@[simp] theorem fList_tup {xs : List D} {Q : List D → Prop} : fList [.tup xs] Q = Q xs := rfl
theorem CallSimO.list : CallSimO K W (fun xs H Q => ∃ p ys, xs = [.ref p] ∧ (SqL K H p ys ∨ SqT K H p ys) ∧ ∀ l, H l = none → Q (.ref l) (upd H l (.lst ys))) fList := fun I H vs ds Q G ok al q hq => by
  unfold fList at q
  split at q
  · obtain ⟨v, rfl, h⟩ := isAll1 al
    obtain ⟨p, ys, rfl, sq, al2⟩ := is_lst h
    exact ⟨p, ys, rfl, .inl ((W.ex ok).seq sq), fun l hl => hq l _ _ I _ q hl upd_same (Same.non (W.ex ok) hl) al2 (Later.allocO ok hl)⟩
  · obtain ⟨v, rfl, h⟩ := isAll1 al
    obtain ⟨p, ys, rfl, sq, al2⟩ := is_tup h
    exact ⟨p, ys, rfl, .inr (Same.seqT (W.ex ok) sq), fun l hl => hq l _ _ I _ q hl upd_same (Same.non (W.ex ok) hl) al2 (Later.allocO ok hl)⟩
  · exact q.elim
theorem do_list (hm : X.mg "list" = none) (ha : DA X K W Wx [a] tr dr) (hg : Gl X "list" := by rfl) (he : starEach [a] X.env = (false, eval a X.env) :: starEach [] X.env := by rfl) :
    DO X K W Wx (.Call (.Name "list" p) [a] [] pos) (tCB (fun xs H Q => ∃ p ys, xs = [.ref p] ∧ (SqL K H p ys ∨ SqT K H p ys) ∧ ∀ l, H l = none → Q (.ref l) (upd H l (.lst ys))) tr) (tdCBO fList dr) := by
  have hk := ha.k; subst hk
  exact do_cty call_list_of .list hg hm (by decide +kernel) ha (by decide) (by decide) he rfl
/-- tuple(..) -/
def fTuple : FD := fun ds Q => match ds with
  | [.lst xs] => Q (.tup xs)
  | [.tup xs] => Q (.tup xs)
  | _ => False
@[simp] theorem fTuple_lst {xs : List D} {Q : D → Prop} : fTuple [.lst xs] Q = Q (.tup xs) := rfl
@[simp] theorem fTuple_tup {xs : List D} {Q : D → Prop} : fTuple [.tup xs] Q = Q (.tup xs) := rfl
theorem CallSim.tuple : CallSim K W (rTupleN K) fTuple := fun I H vs ds Q G ok al q hq => by
  unfold fTuple at q
  split at q
  · obtain ⟨v, rfl, h⟩ := isAll1 al
    obtain ⟨p, ys, rfl, sq, al2⟩ := is_lst h
    exact ⟨p, ys, rfl, .inl ⟨(W.ex ok).seq sq, fun l o hl hd => hq _ _ (upd I l (.frz o (.tup ys))) _ q (.tup (SqN.of upd_same hd) (al2.mono (Same.new (Same.non (W.ex ok) hl)))) (Later.alloc ok hl)⟩⟩
  · obtain ⟨v, rfl, h⟩ := isAll1 al
    obtain ⟨p, ys, rfl, sq, al2⟩ := is_tup h
    exact ⟨p, ys, rfl, .inr ⟨Same.seqT (W.ex ok) sq, hq _ _ I H q h (Later.refl ok)⟩⟩
  · exact q.elim
/-- isinstance(x, T), T a built-in class -/
def tyD : D → Option String
  | .v .non => some "NoneType"
  | .v (.bl _) => some "bool"
  | .v (.int _) => some "int"
  | .v (.str _) => some "str"
  | .lst _ => some "list"
  | .tup _ => some "tuple"
  | .dic _ => some "dict"
  | .dt _ _ => some "dict"
  | _ => none
@[simp] theorem tyD_dic {gs : List (Key × D)} : tyD (.dic gs) = some "dict" := rfl
@[simp] theorem tyD_dt {g : PGw} {gs : List (List Key × D)} : tyD (.dt g gs) = some "dict" := rfl
@[simp] theorem tyD_non : tyD (.v .non) = some "NoneType" := rfl
@[simp] theorem tyD_bl {b : Bool} : tyD (.v (.bl b)) = some "bool" := rfl
@[simp] theorem tyD_int {i : Int} : tyD (.v (.int i)) = some "int" := rfl
@[simp] theorem tyD_str {s : Str} : tyD (.v (.str s)) = some "str" := rfl
@[simp] theorem tyD_lst {ds : List D} : tyD (.lst ds) = some "list" := rfl
@[simp] theorem tyD_tup {ds : List D} : tyD (.tup ds) = some "tuple" := rfl
def tyL : List String := ["NoneType", "bool", "int", "str", "list", "tuple", "dict"]
def isTy (t n : String) : Bool := t == n || (t == "bool" && n == "int")
theorem kit_tys : ∀ t ∈ tyL, ∀ n ∈ tyL, kitB t n = some (isTy t n) := by decide +kernel
def fIsi : FD := fun ds Q => match ds with
  | [x, .v (.ty n)] => n ∈ tyL ∧ ∃ t, tyD x = some t ∧ Q (.bl (isTy t n))
  | _ => False
@[simp] theorem fIsi_ty {x : D} {n : String} {Q : D → Prop} : fIsi [x, .v (.ty n)] Q = (n ∈ tyL ∧ ∃ t, tyD x = some t ∧ Q (.bl (isTy t n))) := rfl
/-- .. of a dict that is pinned, too -/
def rIsiP (K : PySem.W.Frag) : List V → Hp → VK → Prop := fun xs H Q => rIsi K xs H Q ∨ ∃ (a : Addr) (o : Obj) (c : V) (u : Value) (b : Bool), xs = [.ref a, c] ∧ ClsV c u ∧ H a = some (pinO a o) ∧ o.cls = .type "dict" ∧ PySem.W.kitOne K (.type "dict") u = some b ∧ Q (.bl b) H
theorem call_isiP {X : Cx} : CallR X (.builtin "isinstance") (rIsiP X.K) := by
  intro pins s σ H xs us Q I r h
  rcases h with h | ⟨a, o, c, u, b, rfl, k, e, ec, ek, q⟩
  · exact call_isi pins s σ H xs us Q I r h
  obtain ⟨u1, u2, rfl, r1, r2⟩ := vals2 r
  have e2 := k.eq r2
  subst e2
  cases (show u1 = Value.ref a from r1)
  exact PySem.W.kia_one PySem.W.kitx_dict I.kIn ⟨o, (I.hok a _ e).1, ec⟩ ek (fun z => nomatch z) fun tk => ⟨.bl b, H, I.tok tk, rfl, q⟩
theorem Is.ty {I H : Hp} (e : Same I H) {v : V} {d : D} {t : String} (h : Is K I v d) (ht : tyD d = some t) : (TyX K H v (.type t) ∨ ∃ a o, v = .ref a ∧ H a = some (pinO a o) ∧ o.cls = .type "dict" ∧ t = "dict") ∧ t ∈ tyL := by
  have sL : ∀ {a : Addr} {xs : List V}, SqL K H a xs → TyX K H (.ref a) (.type "list") := fun {a xs} s => by
    rcases s with (s | ⟨o, s⟩) | ⟨o, its, n, k, c, _⟩
    · exact .base (.lst s)
    · exact .base (.frz s)
    · exact .kList k c
  have sT : ∀ {a : Addr} {xs : List V}, SqT K H a xs → TyX K H (.ref a) (.type "tuple") := fun {a xs} s => by
    rcases s with (s | ⟨o, s⟩) | ⟨o, its, n, k, c, _⟩
    · exact .base (.tup s)
    · exact .fTuple s
    · exact .kTuple k c
  cases h with
  | v =>
    cases v with
    | non => cases ht; exact ⟨.inl (.base .non), by decide⟩
    | bl b => cases ht; exact ⟨.inl (.base (.bl b)), by decide⟩
    | int b => cases ht; exact ⟨.inl (.base (.int b)), by decide⟩
    | str b => cases ht; exact ⟨.inl (.base (.str b)), by decide⟩
    | byt b => cases ht
    | flt b => cases ht
    | ref b => cases ht
    | ty b => cases ht
  | dic s _ => cases ht; exact ⟨.inl (.base (.dK (e _ _ s))), by decide⟩
  | lst s _ => cases ht; exact ⟨.inl (sL (SqL.of (e _ _ s))), by decide⟩
  | tup s _ => cases ht; exact ⟨.inl (sT (Same.seqT e s.t)), by decide⟩
  | ins _ _ => cases ht
  | exc0 => cases ht
  | exc1 _ _ => cases ht
  | lent _ => cases ht
  | dt s _ ob _ => cases ht; exact ⟨.inr ⟨_, _, rfl, e _ _ s, ob.ex.1, rfl⟩, by decide⟩
theorem CallSim.isi : CallSim K W (rIsiP K) fIsi := fun I H vs ds Q G ok al q hq => by
  unfold fIsi at q
  split at q
  · obtain ⟨v, v', rfl, h, h'⟩ := isAll2 al
    cases h'
    obtain ⟨hn, t, ht, q⟩ := q
    obtain ⟨ty, hm⟩ := h.ty (W.ex ok) ht
    rcases ty with ty | ⟨a, o, rfl, ea, eo, rfl⟩
    · exact .inl ⟨v, _, _, _, _, rfl, .ty _, ty, kit_ty (kit_tys t hm _ hn), hq _ _ I H q (.v _) (Later.refl ok)⟩
    · exact .inr ⟨a, o, _, _, _, rfl, .ty _, ea, eo, kit_ty (kit_tys _ hm _ hn), hq _ _ I H q (.v _) (Later.refl ok)⟩
  · exact q.elim
theorem de_isi (hm : X.mg "isinstance" = none) (ha : DA X K W Wx [a, b] tr dr) (hg : Gl X "isinstance" := by rfl) (he : starEach [a, b] X.env = (false, eval a X.env) :: starEach [b] X.env := by rfl) (hpl : (backTo pos (starEach [b] X.env)).any (·.1) = false := by rfl) :
    DE X K W Wx (.Call (.Name "isinstance" p) [a, b] [] pos) (tCB (rIsiP K) tr) (tdCB fIsi dr) := by
  have hk := ha.k; subst hk
  exact de_cb call_isiP .isi hg hm (by decide +kernel) ha (by decide) (by decide) he hpl
theorem de_ty (n : String) {pos : Pos} {x : Str} (hm : X.mg x = none) (hg : Gl X x := by rfl) (hv : bootBuiltins x = some (.type n) := by decide +kernel) (hn : x ≠ "__name__" := by decide) (hd : (x == ("__debug__" : Str)) = false := by decide) (hk : X.K = K := by rfl) : DE X K W Wx (.Name x pos) (tC (.ty n)) (tdC (.v (.ty n))) := by
  subst hk
  exact de_bltn hg hm hv rfl hn hd
def fJoin (x : D) (y : D) (Q : D → Prop) : Prop := match x, y with
  | .v (.str s), .lst ds => ∃ ys : List Str, ds = ys.map D.str ∧ (ys.map (·.length)).sum + ys.length * s.length ≤ 16777216 ∧ Q (.str (Txt.join s ys))
  | .v (.str s), .tup ds => ∃ ys : List Str, ds = ys.map D.str ∧ (ys.map (·.length)).sum + ys.length * s.length ≤ 16777216 ∧ Q (.str (Txt.join s ys))
  | _, _ => False
@[simp] theorem fJoin_lst {s : Str} {ds : List D} {Q : D → Prop} : fJoin (.v (.str s)) (.lst ds) Q = ∃ ys : List Str, ds = ys.map D.str ∧ (ys.map (·.length)).sum + ys.length * s.length ≤ 16777216 ∧ Q (.str (Txt.join s ys)) := rfl
@[simp] theorem fJoin_tup {s : Str} {ds : List D} {Q : D → Prop} : fJoin (.v (.str s)) (.tup ds) Q = ∃ ys : List Str, ds = ys.map D.str ∧ (ys.map (·.length)).sum + ys.length * s.length ≤ 16777216 ∧ Q (.str (Txt.join s ys)) := rfl
def rJoin (K : PySem.W.Frag) : V → List V → Hp → VK → Prop := fun x xs H Q => ∃ a p, ∃ ys : List Str, x = .str a ∧ xs = [.ref p] ∧ (SqL K H p (ys.map V.str) ∨ SqT K H p (ys.map V.str)) ∧
    (ys.map (·.length)).sum + ys.length * a.length ≤ 16777216 ∧ Q (.str (Txt.join a ys)) H
@[simp] def tdJoin (t u : TDE) : TDE := fun τ Q R => t τ (fun x => onStr x fun _ => u τ (fun y => fJoin x y Q) R) R
theorem de_join {o : Expr} {to : TE} {dO : TDE} {apos : Pos} (ho : DE X K W Wx o to dO) (he : DE X K W Wx e te de) (hs : starEach [e] X.env = [(false, eval e X.env)] := by rfl) (hbase : attributeBase o "join" X.env (eval o X.env) = eval o X.env := by rfl) (hline : (apos.endLine == pos.line) = true := by rfl) :
    DE X K W Wx (.Call (.Attribute o "join" apos) [e] [] pos) (tM1 (rJoin K) to te) (tdJoin dO de) := by
  have hk := ho.k; subst hk
  exact ⟨rfl, pe_join ho.pe he.pe hs hbase hline, fun I H σ τ Q R G ok rp t hq hx => ho.sim I H σ τ _ R _ ok rp t (fun v d I1 H1 q1 i1 l1 => by
    have q0 := q1
    obtain ⟨z, rfl, q1⟩ := str_of1 i1 q1
    cases i1
    · refine ⟨⟨_, rfl⟩, he.sim I1 H1 σ τ _ R _ l1.ok (rp.later l1) q1 (fun v2 d2 I2 H2 q2 i2 l2 => ?_) (hx.later l1)⟩
      unfold fJoin at q2
      split at q2
      · rename_i e1
        cases e1
        obtain ⟨ys, rfl, hz, q2⟩ := q2
        obtain ⟨p, xs, rfl, sq, al⟩ := is_lst i2
        cases isAll_str al
        exact ⟨_, p, ys, rfl, rfl, .inl ((W.ex l2.ok).seq sq), hz, hq _ _ I2 H2 q2 (.v _) (l1.trans l2)⟩
      · rename_i e1
        cases e1
        obtain ⟨ys, rfl, hz, q2⟩ := q2
        obtain ⟨p, xs, rfl, sq, al⟩ := is_tup i2
        cases isAll_str al
        exact ⟨_, p, ys, rfl, rfl, .inr (Same.seqT (W.ex l2.ok) sq), hz, hq _ _ I2 H2 q2 (.v _) (l1.trans l2)⟩
      · exact q2.elim) hx⟩
abbrev TF := Wd → List D → (D → Prop) → (Exc → Prop) → Prop
abbrev TFO := Wd → List D → (List D → Prop) → (Exc → Prop) → Prop
/-- a def that hands back data -/
def spD (K : PySem.W.Frag) (n : Nat) (t : TF) : Sp := fun vs H Q E => ∃ (W : Wd) (I : Hp) (ds : List D) (Qd : D → Prop) (R : Exc → Prop), W.ok I H ∧ IsAll K I vs ds ∧ ds.length = n ∧ t W ds Qd R ∧
  (∀ v d I' H', Qd d → Is K I' v d → Later W I H I' H' → Q v H') ∧ ∀ cls da x I' H', R x → IsX K I' cls da x → Later W I H I' H' → E cls da H'
/-- a def that hands back a new list -/
def spO (K : PySem.W.Frag) (n : Nat) (t : TFO) : Sp := fun vs H Q E => ∃ (W : Wd) (I : Hp) (ds : List D) (Qd : List D → Prop) (R : Exc → Prop), W.ok I H ∧ IsAll K I vs ds ∧ ds.length = n ∧ t W ds Qd R ∧
  (∀ p ws es I' H', Qd es → H p = none → H' p = some (.lst ws) → I' p = none → IsAll K I' ws es → Later W I H I' H' → Q (.ref p) H') ∧ ∀ cls da x I' H', R x → IsX K I' cls da x → Later W I H I' H' → E cls da H'
/-- a def that hands back a thing of the caller's own -/
abbrev TFX := Wd → List D → (SD → Prop) → (Exc → Prop) → Prop
def spX (K : PySem.W.Frag) (n : Nat) (t : TFX) : Sp := fun vs H Q E => ∃ (W : Wd) (I : Hp) (ds : List D) (Qd : SD → Prop) (R : Exc → Prop), W.ok I H ∧ IsAll K I vs ds ∧ ds.length = n ∧ t W ds Qd R ∧
  (∀ v s I' H', Qd s → At K W I' H' v s → (∀ a, OwnV v s a → H a = none) → Later W I H I' H' → Q v H') ∧ ∀ cls da x I' H', R x → IsX K I' cls da x → Later W I H I' H' → E cls da H'
theorem spD_len {n : Nat} {t : TF} {vs : List V} {H : Hp} {Q : VK} {E : XK} (h : spD K n t vs H Q E) : vs.length = n := by
  obtain ⟨_, _, _, _, _, _, al, hl, _⟩ := h
  rw [al.length, hl]
theorem spO_len {n : Nat} {t : TFO} {vs : List V} {H : Hp} {Q : VK} {E : XK} (h : spO K n t vs H Q E) : vs.length = n := by
  obtain ⟨_, _, _, _, _, _, al, hl, _⟩ := h
  rw [al.length, hl]
@[simp] def tdCall (n : Nat) (t : TF) (W : Wd) (u : TDA) : TDE := fun τ Q R => u τ (fun ds => ds.length = n ∧ t W ds Q fun _ => False) R
@[simp] def tdCallO (n : Nat) (t : TFO) (W : Wd) (u : TDA) : TDO := fun τ Q R => u τ (fun ds => ds.length = n ∧ t W ds Q fun _ => False) R
@[simp] def tdCallN (n : Nat) (t : TFX) (W : Wd) (u : TDA) : TDX := fun τ Q R => u τ (fun ds => ds.length = n ∧ t W ds Q fun _ => False) R
@[simp] def tdCallNX (n : Nat) (t : TFX) (W : Wd) (u : TDA) : TDX := fun τ Q R => u τ (fun ds => ds.length = n ∧ t W ds Q R) R
/-- .. what is raised is let through -/
@[simp] def tdCallX (n : Nat) (t : TF) (W : Wd) (u : TDA) : TDE := fun τ Q R => u τ (fun ds => ds.length = n ∧ t W ds Q R) R
@[simp] def tdCallOX (n : Nat) (t : TFO) (W : Wd) (u : TDA) : TDO := fun τ Q R => u τ (fun ds => ds.length = n ∧ t W ds Q R) R
section
variable {n k : Nat} {t : TF} {tO : TFO} {f : Addr} {fd : FuncData} {ps : List Str} {CX : CXT}
theorem SimE.call (h : SimA K W Wx tr dr) : SimE K W Wx (tCallS (spD K n t) (fun _ => E0) tr) (tdCall n t W dr) := fun I H σ τ Q R G ok rp q hq hx =>
  h I H σ τ _ R _ ok rp q (fun vs ds I1 H1 q1 i1 l1 => by
    exact ⟨W, I1, ds, Q, _, l1.ok, i1, q1.1, q1.2, fun v d I2 H2 q2 i2 l2 => hq v d I2 H2 q2 i2 (l1.trans l2), fun _ _ _ _ _ z _ _ => z.elim⟩) hx
theorem SimO.call (h : SimA K W Wx tr dr) : SimO K W Wx (tCallS (spO K n tO) (fun _ => E0) tr) (tdCallO n tO W dr) := fun I H σ τ Q R G ok rp q hq hx =>
  h I H σ τ _ R _ ok rp q (fun vs ds I1 H1 q1 i1 l1 => by
    exact ⟨W, I1, ds, Q, _, l1.ok, i1, q1.1, q1.2, fun p ws es I2 H2 q2 n2 h2 f2 i2 l2 => hq p ws es I2 H2 q2 (Later.back' l1 n2) h2 f2 i2 (l1.trans l2), fun _ _ _ _ _ z _ _ => z.elim⟩) hx
theorem de_call (F : FnG X.prog X.w X.K X.mg X.base CX k f fd ps (spD K n t)) (hr : RoomG k X.A) (hm : X.mg x = some (.ref f)) (hk : PySem.W.keepIn X.K (.ref f) = true) (hb : Binds K fd ps []) (hx : Passes CX X E0) (ha : DA X K W Wx (e :: es) tr dr)
    (hg : Gl X x := by rfl) (hdb : (x == ("__debug__" : Str)) = false := by decide) (he : starEach (e :: es) X.env = (false, eval e X.env) :: starEach es X.env := by rfl) (hpl : (backTo pos (starEach es X.env)).any (·.1) = false := by rfl) :
    DE X K W Wx (.Call (.Name x p) (e :: es) [] pos) (tCallS (spD K n t) (fun _ => E0) tr) (tdCall n t W dr) := by
  have hk := ha.k; subst hk
  exact ⟨rfl, pe_callG F hr hg hm hk hb (fun σ pins H s e s' I => hx pins σ H s e s' I) ha.pa hdb he hpl, .call ha.sim⟩
theorem do_call (F : FnG X.prog X.w X.K X.mg X.base CX k f fd ps (spO K n tO)) (hr : RoomG k X.A) (hm : X.mg x = some (.ref f)) (hk : PySem.W.keepIn X.K (.ref f) = true) (hb : Binds K fd ps []) (hx : Passes CX X E0) (ha : DA X K W Wx (e :: es) tr dr)
    (hg : Gl X x := by rfl) (hdb : (x == ("__debug__" : Str)) = false := by decide) (he : starEach (e :: es) X.env = (false, eval e X.env) :: starEach es X.env := by rfl) (hpl : (backTo pos (starEach es X.env)).any (·.1) = false := by rfl) :
    DO X K W Wx (.Call (.Name x p) (e :: es) [] pos) (tCallS (spO K n tO) (fun _ => E0) tr) (tdCallO n tO W dr) := by
  have hk := ha.k; subst hk
  exact ⟨rfl, pe_callG F hr hg hm hk hb (fun σ pins H s e s' I => hx pins σ H s e s' I) ha.pa hdb he hpl, .call ha.sim⟩
variable {tX : TFX}
theorem SimX.call (h : SimA K W Wx tr dr) : SimX K W Wx (tCallS (spX K n tX) (fun _ => E0) tr) (tdCallN n tX W dr) := fun I H σ τ Q R G ok rp q hq hx =>
  h I H σ τ _ R _ ok rp q (fun vs ds I1 H1 q1 i1 l1 => by
    exact ⟨W, I1, ds, Q, _, l1.ok, i1, q1.1, q1.2, fun v s I2 H2 q2 a2 n2 l2 => hq v s I2 H2 q2 a2 (fun a o => Later.back' l1 (n2 a o)) (l1.trans l2), fun _ _ _ _ _ z _ _ => z.elim⟩) hx
end
end
end D3
set_option Elab.async false
set_option linter.all false
set_option maxRecDepth 100000
set_option maxHeartbeats 2000000
namespace D3
open PySem L2
/-- the things that slots own, as data that stands still -/
@[simp] def frz (τ : Tau) : Tau := τ.map fun s => match s with
  | some (.own ds) => some (.dat (.lst ds))
  | some (.obj _ C fs) => some (.dat (.ins C fs))
  | some (.tupo _ pre ds post) => some (.dat (.tup (pre ++ .lst ds :: post)))
  | some (.dk gs) => some (.dat (.dic gs))
  | some (.dt g gs) => some (.dat (.dt g gs))
  | some (.wd _ pre k post g gs) => some (.dat (.dic (pre ++ (k, .dt g gs) :: post)))
  | some (.kl gs) => some (.dat (.dic (klD gs)))
  | s => s
section
variable {K : PySem.W.Frag} {W : Wd} {Wx : WX} {X : Cx}
theorem isKv_kl {I : Hp} : ∀ {gs : List (Key × Addr × List D)}, (∀ g ∈ gs, Is K I (.ref g.2.1) (.lst g.2.2)) → IsKv K I (klV gs) (klD gs)
  | [], _ => .nil
  | g :: gs, h => .cons (h g List.mem_cons_self) (isKv_kl fun x hx => h x (List.mem_cons_of_mem _ hx))
/-- what a thing of one's own is as data, by any heap that keeps it -/
theorem At.frz {I I' H : Hp} {v : V} {s : SD} (h : At K W I H v s) (e : Same I I') (k : ∀ a, OwnV v s a → I' a = H a) : ∃ d, Is K I' v d ∧ (match some s with
  | some (.own ds) => some (.dat (.lst ds))
  | some (.obj _ C fs) => some (.dat (.ins C fs))
  | some (.tupo _ pre ds post) => some (.dat (.tup (pre ++ .lst ds :: post)))
  | some (.dk gs) => some (.dat (.dic gs))
  | some (.dt g gs) => some (.dat (.dt g gs))
  | some (.wd _ pre k post g gs) => some (.dat (.dic (pre ++ (k, .dt g gs) :: post)))
  | some (.kl gs) => some (.dat (.dic (klD gs)))
  | s => s) = some (SD.dat d) := by
  cases s with
  | dat d => exact ⟨d, Is.mono e h, rfl⟩
  | own ds =>
    obtain ⟨p, vs, rfl, hp, hi, hf, al⟩ := h
    exact ⟨.lst ds, .lst ((k p rfl).trans hp) (al.mono e), rfl⟩
  | obj p C fs =>
    obtain ⟨dx, vs, rfl, hp, hi, hf, al⟩ := h
    exact ⟨.ins C fs, .ins ((k p rfl).trans hp) (al.mono e), rfl⟩
  | tupo p pre ds post =>
    obtain ⟨t, us, ws, vs, rfl, st, h1, h2, hp, hi, hf, al⟩ := h
    exact ⟨.tup (pre ++ .lst ds :: post), .tup (Same.seqN e st) ((h1.mono e).append (.cons (.lst ((k p rfl).trans hp) (al.mono e)) (h2.mono e))), rfl⟩
  | dk gs =>
    obtain ⟨p, vs, rfl, hp, hi, hf, al⟩ := h
    exact ⟨.dic gs, .dic ((k p rfl).trans hp) (IsKv.mono e al), rfl⟩
  | dt g gs =>
    obtain ⟨p, ob, us, rfl, hp, hi, hf, y, o, al⟩ := h
    exact ⟨.dt g gs, .dt ((k p rfl).trans hp) y o (IsT.mono e al), rfl⟩
  | wd q pre kk post g gs =>
    obtain ⟨p, ob, us, as, bs, rfl, hp, hi, hf, r1, r2, hq, hiq, hfq, y, o, al⟩ := h
    exact ⟨.dic (pre ++ (kk, .dt g gs) :: post), .dic ((k p (.inl rfl)).trans hp) ((IsKv.mono e r1).app (.cons (.dt ((k q (.inr rfl)).trans hq) y o (IsT.mono e al)) (IsKv.mono e r2))), rfl⟩
  | kl gs =>
    obtain ⟨p, rfl, hp, hi, hf, nd, al⟩ := h
    exact ⟨.dic (klD gs), .dic ((k p (.inl rfl)).trans hp) (isKv_kl fun g hg => by
      obtain ⟨vs, h1, h2, h3, h4⟩ := al g hg
      exact .lst ((k _ (.inr ⟨g, hg, rfl⟩)).trans h1) (h4.mono e)), rfl⟩
theorem frz_get {τ : Tau} {i : Nat} {s : SD} (h : (frz τ)[i]? = some (some s)) : ∃ t d, τ[i]? = some (some t) ∧ s = .dat d ∧ (match some t with
  | some (.own ds) => some (.dat (.lst ds))
  | some (.obj _ C fs) => some (.dat (.ins C fs))
  | some (.tupo _ pre ds post) => some (.dat (.tup (pre ++ .lst ds :: post)))
  | some (.dk gs) => some (.dat (.dic gs))
  | some (.dt g gs) => some (.dat (.dt g gs))
  | some (.wd _ pre k post g gs) => some (.dat (.dic (pre ++ (k, .dt g gs) :: post)))
  | some (.kl gs) => some (.dat (.dic (klD gs)))
  | s => s) = some (SD.dat d) := by
  unfold frz at h
  rw [List.getElem?_map] at h
  cases q : τ[i]? with
  | none => rw [q] at h; cases h
  | some so =>
    rw [q] at h
    cases so with
    | none => cases h
    | some sd => cases sd <;> cases h <;> exact ⟨_, _, rfl, rfl, rfl⟩
theorem own_frz {σ : St} {τ : Tau} {a : Addr} (h : Own σ (D3.frz τ) a) : False := by
  obtain ⟨i, s, v, e1, _, o⟩ := h
  obtain ⟨_, d, _, rfl, _⟩ := frz_get e1
  exact o
open Classical in
theorem Rep.frz {I H : Hp} {σ : St} {τ : Tau} (r : Rep K W I H σ τ) (ok : W.ok I H) : ∃ I', Same I I' ∧ W.ok I' H ∧ Rep K W I' H σ (D3.frz τ) ∧ (∀ a, I a = none → I' a ≠ none → Own σ τ a) := by
  have up : Same I (fun a => if Own σ τ a then H a else I a) := by
    intro a o e
    have : ¬ Own σ τ a := fun z => by
      rw [(r.owned z).1] at e; cases e
    show (if Own σ τ a then H a else I a) = some o
    rw [if_neg this]; exact e
  refine ⟨fun a => if Own σ τ a then H a else I a, up, ?_, ?_, ?_⟩
  · refine W.fzs ok fun a => ?_
    by_cases h : Own σ τ a
    · exact .inr ⟨(r.owned h).1, r.free a h, if_pos h⟩
    · exact .inl (if_neg h)
  · refine ⟨by unfold D3.frz; rw [List.length_map]; exact r.len, fun i s e => ?_, fun i j s t v w a e1 e2 e3 e4 o1 o2 => ?_⟩
    · obtain ⟨t, d, q, rfl, ed⟩ := frz_get e
      obtain ⟨v, h1, h2⟩ := r.at_ i t q
      obtain ⟨d', h3, e3⟩ := h2.frz up fun a o => if_pos ⟨i, t, v, q, h1, o⟩
      have : d' = d := by
        have := e3.symm.trans ed
        cases this; rfl
      subst this
      exact ⟨v, h1, h3⟩
    · exact (own_frz ⟨i, s, v, e1, e3, o1⟩).elim
  · intro a n h
    have h : (if Own σ τ a then H a else I a) ≠ none := h
    by_cases z : Own σ τ a
    · exact z
    · rw [if_neg z] at h; exact absurd n h
def Ret (K : PySem.W.Frag) (W : Wd) (O0 : Addr → Prop) (H0 I H : Hp) (v : V) (s : SD) : Prop := At K W I H v s ∧ ∀ a, OwnV v s a → H0 a = none ∨ O0 a
structure Rel (K : PySem.W.Frag) (W : Wd) (Wx : WX) (O0 : Addr → Prop) (I0 H0 : Hp) (E : DEnds) (D : Ends) : Prop where
  nx : ∀ σ τ I H, E.nx τ → Rep K W I H σ τ → Lat W O0 I0 H0 (Own σ τ) I H → D.nx σ H
  bk : ∀ σ τ I H, E.bk τ → Rep K W I H σ τ → Lat W O0 I0 H0 (Own σ τ) I H → D.bk σ H
  ct : ∀ σ τ I H, E.ct τ → Rep K W I H σ τ → Lat W O0 I0 H0 (Own σ τ) I H → D.ct σ H
  rt : ∀ v s I H, E.rt s → Ret K W O0 H0 I H v s → Lat W O0 I0 H0 N0 I H → D.rt v H
  ex : ∀ (cls : Value) (da : Option Addr) (x : Exc) (σ : St) (τ : Tau) (I H : Hp), E.ex x τ → IsX K I cls da x → Rep K W I H σ τ → Lat W O0 I0 H0 (Own σ τ) I H → Wx cls da σ H
section
variable {O0 O1 O2 : Addr → Prop} {I0 H0 I1 H1 I2 H2 : Hp} {E : DEnds} {D : Ends}
/-- what an owner gives up -/
theorem Lat.drop (a : Lat W O0 I0 H0 O1 I1 H1) (h : ∀ p, O2 p → O1 p) : Lat W O0 I0 H0 O2 I1 H1 := ⟨a.ex, a.ok, a.fr, a.nw, fun p o => a.ow p (h p o)⟩
theorem Rel.later (r : Rel K W Wx O0 I0 H0 E D) (l : Lat W O0 I0 H0 O1 I1 H1) : Rel K W Wx O1 I1 H1 E D where
  nx := fun σ τ I H q rp l2 => r.nx σ τ I H q rp (l.trans l2)
  bk := fun σ τ I H q rp l2 => r.bk σ τ I H q rp (l.trans l2)
  ct := fun σ τ I H q rp l2 => r.ct σ τ I H q rp (l.trans l2)
  rt := fun v s I H q rv l2 => r.rt v s I H q ⟨rv.1, fun p o => by
    obtain ⟨_, hf, _⟩ := rv.1.owned o
    rcases rv.2 p o with hn | hn
    · cases hc : H0 p with
      | none => exact .inl rfl
      | some u =>
        by_cases ho : O0 p
        · exact .inr ho
        · rw [l.fr p u hf ho hc] at hn; cases hn
    · exact (l.ow p hn).2⟩ (l.trans l2)
  ex := fun cls da x σ τ I H q ix rp l2 => r.ex cls da x σ τ I H q ix rp (l.trans l2)
theorem Rel.xok {σ : St} {τ : Tau} (r : Rel K W Wx (Own σ τ) I0 H0 E D) (rp : Rep K W I0 H0 σ τ) : XOk K W Wx (fun x => E.ex x τ) I0 H0 σ := fun cls da x I' H' q ix l => r.ex cls da x σ τ I' H' q ix (rp.later l) (rp.own l)
end
def SimS (K : PySem.W.Frag) (W : Wd) (Wx : WX) (ts : TS) (t : TDS) : Prop := ∀ (I H : Hp) (σ : St) (τ : Tau) (E : DEnds) (D : Ends), W.ok I H → Rep K W I H σ τ → t τ E → Rel K W Wx (Own σ τ) I H E D → ts D σ H
structure DS (X : Cx) (K : PySem.W.Frag) (W : Wd) (Wx : WX) (s : Stmt) (ts : TS) (t : TDS) : Prop where
  k : X.K = K
  ps : PS X s ts
  sim : SimS K W Wx ts t
structure DSs (X : Cx) (K : PySem.W.Frag) (W : Wd) (Wx : WX) (s : List Stmt) (ts : TS) (t : TDS) : Prop where
  k : X.K = K
  ps : PSs X s ts
  sim : SimS K W Wx ts t
variable {s : Stmt} {rest : List Stmt} {t1 t2 : TS} {d1 d2 : TDS} {e a b : Expr} {te ta tb : TE} {de da db : TDE} {pos : Pos}
@[simp] def tdNext : TDS := fun τ E => E.nx τ
@[simp] def tdSeq (t u : TDS) : TDS := fun τ E => t τ { E with nx := fun τ' => u τ' E }
theorem SimS.seq (h1 : SimS K W Wx t1 d1) (h2 : SimS K W Wx t2 d2) : SimS K W Wx (tSeq t1 t2) (tdSeq d1 d2) := fun I H σ τ E D ok rp t r =>
  h1 I H σ τ _ _ ok rp t ⟨fun σ' τ' I' H' q rp' l => h2 I' H' σ' τ' E D l.ok rp' q (r.later l), r.bk, r.ct, r.rt, r.ex⟩
theorem SimS.next : SimS K W Wx tNext tdNext := fun I H σ τ E D ok rp t r => r.nx σ τ I H t rp (rp.refl ok)
theorem dss_nil (hk : X.K = K := by rfl) : DSs X K W Wx [] tNext tdNext := by
  subst hk
  exact ⟨rfl, pss_nil, .next⟩
theorem dss_cons (h1 : DS X K W Wx s t1 d1) (h2 : DSs X K W Wx rest t2 d2) : DSs X K W Wx (s :: rest) (tSeq t1 t2) (tdSeq d1 d2) := by
  have hk := h1.k; subst hk
  exact ⟨rfl, pss_cons h1.ps h2.ps, .seq h1.sim h2.sim⟩
theorem dss_one (h1 : DS X K W Wx s t1 d1) : DSs X K W Wx [s] t1 d1 := by
  have hk := h1.k; subst hk
  exact ⟨rfl, pss_one h1.ps, h1.sim⟩
@[simp] def tdBreak : TDS := fun τ E => E.bk τ
@[simp] def tdCont : TDS := fun τ E => E.ct τ
theorem ds_never (hk : X.K = K := by rfl) : DS X K W Wx s tNever (fun _ _ => False) := by
  subst hk
  exact ⟨rfl, ps_never, fun _ _ _ _ _ _ _ _ h _ => h.elim⟩
/-- one's own lists stand still from here on -/
theorem SimS.freeze (h : SimS K W Wx t1 d1) : SimS K W Wx t1 (fun τ E => d1 (frz τ) E) := fun I H σ τ E D ok rp t r => by
  obtain ⟨I', e, ok', rp', nw⟩ := rp.frz ok
  refine h I' H σ (frz τ) E D ok' rp' t (r.later ⟨e, ok', fun _ _ _ _ q => q, fun p n q => .inr (nw p n q), fun p o => (own_frz o).elim⟩)
theorem DS.freeze (h : DS X K W Wx s t1 d1) : DS X K W Wx s t1 (fun τ E => d1 (frz τ) E) := by
  have hk := h.k; subst hk
  exact ⟨rfl, h.ps, h.sim.freeze⟩
theorem DSs.freeze (h : DSs X K W Wx rest t1 d1) : DSs X K W Wx rest t1 (fun τ E => d1 (frz τ) E) := by
  have hk := h.k; subst hk
  exact ⟨rfl, h.ps, h.sim.freeze⟩
/-- behind an expression that was read with one's own lists standing still: only what is flat is kept -/
theorem Lat.revert {I I1 H I2 H2 : Hp} {σ : St} {τ : Tau} (rp : Rep K W I H σ τ) (e : Same I I1) (nw : ∀ a, I a = none → I1 a ≠ none → Own σ τ a) (l : Later W I1 H I2 H2) :
    Lat W (Own σ τ) I H (Own σ τ) I H2 ∧ Rep K W I H2 σ τ := by
  refine ⟨⟨Same.refl I, W.anti l.ok (e.trans l.ex), fun a o f _ q => l.fr a o f (fun z => z) q, fun a n q => absurd n q, fun a o => ⟨rp.free a o, .inr o⟩⟩, rp.len, fun i s q => ?_, rp.inj⟩
  obtain ⟨v, h1, h2⟩ := rp.at_ i s q
  refine ⟨v, h1, h2.keep (Same.refl I) (fun a o => (h2.owned o).1) fun a o => ?_⟩
  obtain ⟨_, hf, u, hp⟩ := h2.owned o
  rw [hp]
  exact l.fr a _ hf (fun z => z) hp
/-- exceptions raised there -/
theorem Rel.xokF {I I1 H : Hp} {σ : St} {τ : Tau} {E : DEnds} {D : Ends} (r : Rel K W Wx (Own σ τ) I H E D) (rpf : Rep K W I1 H σ (frz τ)) (e : Same I I1) (ok : W.ok I1 H) (nw : ∀ a, I a = none → I1 a ≠ none → Own σ τ a) : XOk K W Wx (fun x => E.ex x (frz τ)) I1 H σ :=
  fun cls da x I' H' q ix l => r.ex cls da x σ (frz τ) I' H' q ix (rpf.later l) ⟨e.trans l.ex, l.ok, fun a o f _ q => l.fr a o f (fun z => z) q, fun a n q => by
    by_cases h : I1 a = none
    · exact (l.nw a h q).elim .inl fun z => z.elim
    · exact .inr (nw a n h), fun _ z => (own_frz z).elim⟩
@[simp] def tdAsg (t : TDE) (g : TDG) : TDS := fun τ E => t τ (fun d => g d τ E.nx) (fun x => E.ex x τ)
theorem SimS.asg {g : TG} {gd : TDG} {idx : List Nat} (h : SimE K W Wx te de) (hg : SimG K W g gd idx) : SimS K W Wx (tAsg te g) (tdAsg de gd) := fun I H σ τ E D ok rp t r =>
  h I H σ τ _ _ _ ok rp t (fun v d I1 H1 q1 i1 l1 => hg I1 H1 σ τ v d _ _ l1.ok (rp.later l1) i1 q1 fun σ' τ' q2 rp2 o2 _ => r.nx σ' τ' I1 H1 q2 rp2 ((rp.own l1).drop o2)) (r.xok rp)
theorem ds_asg {tg : Expr} {g : TG} {gd : TDG} {idx : List Nat} (h : DE X K W Wx e te de) (hg : DG X K W tg g gd idx) (hs : swapsWithSole [tg] e pos.line X.env = pure false := by rfl) (hw : swappedStores [tg] e X.env = pure none := by rfl)
    (h1 : (assignEach [tg] X.env).map (·.2) = [assign tg X.env] := by rfl) : DS X K W Wx (.Assign [tg] e pos) (tAsg te g) (tdAsg de gd) := by
  have hk := h.k; subst hk
  exact ⟨rfl, ps_asg h.pe hg.pg hs hw h1, .asg h.sim hg.sim⟩
theorem ds_set {i : Nat} {x : Str} {pos' : Pos} (hN : X.N.Nodup) (h : DE X K W Wx e te de) (hi : X.N[i]? = some x := by rfl) (hx : Loc X.env.scope x := by first | exact Or.inl rfl | exact Or.inr rfl) (hs : swapsWith e (some (.Name x pos')) pos.line X.env = pure false := by rfl)
    (hf : X.fn x = true ∨ X.env.scope.names.lookup x = some .local := by first | exact .inl rfl | exact .inr rfl | assumption) : DS X K W Wx (.Assign [.Name x pos'] e pos) (tAsg te (gName i)) (tdAsg de (gdName i)) := by
  have hk := h.k; subst hk
  exact ⟨rfl, ps_set hN hi hx h.pe hs hf, .asg h.sim .name⟩
def flatD (d : D) : Prop := match d with | .v _ => True | _ => False
@[simp] theorem flatD_v {x : V} : flatD (.v x) = True := rfl
/-- a flat value, while one's own lists are read -/
@[simp] def tdSetF (t : TDE) (i : Nat) : TDS := fun τ E => t (frz τ) (fun d => flatD d ∧ E.nx (τ.set i (some (.dat d)))) (fun x => E.ex x (frz τ))
variable {dO : TDO}
/-- a new list of one's own -/
@[simp] def tdSetO (t : TDO) (i : Nat) : TDS := fun τ E => t τ (fun ds => E.nx (τ.set i (some (.own ds)))) (fun x => E.ex x τ)
theorem not_own_new {I H : Hp} {σ : St} {τ : Tau} {p : Addr} (rp : Rep K W I H σ τ) (hp : H p = none) : ¬ Own σ τ p := fun o => by
  obtain ⟨_, _, u, h⟩ := rp.owned o
  rw [hp] at h; cases h
/-- .. a thing of one's own -/
@[simp] def tdSetX (t : TDX) (i : Nat) : TDS := fun τ E => t τ (fun s => E.nx (τ.set i (some s))) (fun x => E.ex x τ)
theorem SimS.setX {i : Nat} {dX : TDX} (h : SimX K W Wx te dX) : SimS K W Wx (tAsg te (gName i)) (tdSetX dX i) := fun I H σ τ E D ok rp t r =>
  h I H σ τ _ _ _ ok rp t (fun v s I1 H1 q1 hs hn l1 => by
    refine r.nx _ _ I1 H1 q1 ((rp.later l1).set_new hs fun a o => not_own_new rp (hn a o)) ⟨l1.ex, l1.ok, fun a o f _ q => l1.fr a o f (fun z => z) q, fun a n q => (l1.nw a n q).elim .inl fun z => z.elim, fun a o => ?_⟩
    rcases o.set with o | o
    · exact ⟨(hs.owned o).2.1, .inl (hn a o)⟩
    · exact ⟨rp.free a o, .inr o⟩) (r.xok rp)
theorem ds_setX {dX : TDX} {i : Nat} {x : Str} {pos' : Pos} (hN : X.N.Nodup) (h : DX X K W Wx e te dX) (hi : X.N[i]? = some x := by rfl) (hx : Loc X.env.scope x := by first | exact Or.inl rfl | exact Or.inr rfl) (hs : swapsWith e (some (.Name x pos')) pos.line X.env = pure false := by rfl)
    (hf : X.fn x = true ∨ X.env.scope.names.lookup x = some .local := by first | exact .inl rfl | exact .inr rfl | assumption) : DS X K W Wx (.Assign [.Name x pos'] e pos) (tAsg te (gName i)) (tdSetX dX i) := by
  have hk := h.k; subst hk
  exact ⟨rfl, ps_set hN hi hx h.pe hs hf, .setX h.sim⟩
theorem SimS.setO {i : Nat} (h : SimO K W Wx te dO) : SimS K W Wx (tAsg te (gName i)) (tdSetO dO i) := fun I H σ τ E D ok rp t r =>
  h I H σ τ _ _ _ ok rp t (fun p vs ds I1 H1 q1 hp hp1 hi al l1 => by
    have hn : ¬ Own σ τ p := not_own_new rp hp
    have hf : W.free p := W.fr ok hp
    refine r.nx _ _ I1 H1 q1 ((rp.later l1).set_own hn hp1 hi hf al) ⟨l1.ex, l1.ok, fun a o f _ q => l1.fr a o f (fun z => z) q, fun a n q => (l1.nw a n q).elim .inl fun z => z.elim, fun a o => ?_⟩
    rcases o.set_own with rfl | o
    · exact ⟨hf, .inl hp⟩
    · exact ⟨rp.free a o, .inr o⟩) (r.xok rp)
theorem ds_setO {i : Nat} {x : Str} {pos' : Pos} (hN : X.N.Nodup) (h : DO X K W Wx e te dO) (hi : X.N[i]? = some x := by rfl) (hx : Loc X.env.scope x := by first | exact Or.inl rfl | exact Or.inr rfl) (hs : swapsWith e (some (.Name x pos')) pos.line X.env = pure false := by rfl)
    (hf : X.fn x = true ∨ X.env.scope.names.lookup x = some .local := by first | exact .inl rfl | exact .inr rfl | assumption) : DS X K W Wx (.Assign [.Name x pos'] e pos) (tAsg te (gName i)) (tdSetO dO i) := by
  have hk := h.k; subst hk
  exact ⟨rfl, ps_set hN hi hx h.pe hs hf, .setO h.sim⟩
/-- .. that stands for data -/
theorem ds_setLcD {i : Nat} {y : Str} {py : Pos} {elt tg iter : Expr} {ifs : List Expr} {scope : Scope} {own : List (Str × Nat)} {pos spos : Pos} {wi : TI} {ti : TDI} {g : TG} {gd : TDG} {idx : List Nat} {tt : TT} {td : TDT} {te : TE} {de : TDE} (hc : X.calm = true) (hN : X.N.Nodup)
    (hi : DI X K W Wx tg iter wi ti) (ok : BlkOk X.N X.env.scope scope own)
    (hg : ∀ (s : Shared) (H : Hp) (C : Addr) (cl : List (Str × Addr)) (fp : List Addr), DG (X.blk s H scope (compEnvC scope cl C X.env) fp) K W tg g gd idx) (ht : ∀ (s : Shared) (H : Hp) (C : Addr) (cl : List (Str × Addr)) (fp : List Addr), DTs (X.blk s H scope (compEnvC scope cl C X.env) fp) K W ifs tt td)
    (he : ∀ (s : Shared) (H : Hp) (C : Addr) (cl : List (Str × Addr)) (fp : List Addr), DE (X.blk s H scope (compEnvC scope cl C X.env) fp) K W (fun _ _ _ _ => False) elt te de)
    (hy : X.N[i]? = some y := by rfl) (hyl : X.env.scope.names.lookup y = some .local := by rfl) (hsw : swapsWith (.ListComp elt [⟨tg, iter, ifs, 0⟩] scope pos) (some (.Name y py)) spos.line X.env = pure true := by exact sw_true rfl rfl rfl (by decide +kernel))
    (hv : ∀ i ∈ idx, i ∈ own.map (·.2) := by decide) (hs : ∀ x, foldedSetIterable iter X.env x = pure x := by intro _; rfl) :
    DS X K W Wx (.Assign [.Name y py] (.ListComp elt [⟨tg, iter, ifs, 0⟩] scope pos) spos) (tAsg (tLc wi g tt te (own.map (·.2))) (gName i)) (tdAsg (fun τ Q R => tdLc ti gd td de (own.map (·.2)) τ (fun ds => Q (.lst ds)) R) (gdName i)) := by
  have hk := hi.k; subst hk
  exact ⟨rfl, ps_setLc hc hN hy hyl hsw hi.pi ok (fun s H C cl fp => (hg s H C cl fp).pg) (fun s H C cl fp => (ht s H C cl fp).pt) (fun s H C cl fp => (he s H C cl fp).pe) hs,
    .asg (SimO.e (.lc hi.sim (hg { heap := { objs := #[] } } (fun _ => none) 0 [] []).sim (ht { heap := { objs := #[] } } (fun _ => none) 0 [] []).sim (he { heap := { objs := #[] } } (fun _ => none) 0 [] []).sim hv)) .name⟩
def two (ds : List D) (P : D → D → Prop) : Prop := match ds with
  | [x, y] => P x y
  | _ => False
@[simp] theorem two_two {x y : D} {P : D → D → Prop} : two [x, y] P = P x y := rfl
/-- a, b = x, y -/
@[simp] def tdPar (i j : Nat) (u : TDA) : TDS := fun τ E => u τ (fun ds => two ds fun x y => E.nx ((τ.set i (some (.dat x))).set j (some (.dat y)))) (fun x => E.ex x τ)
theorem ds_par {i j : Nat} {x y : Str} {tr : TA} {dr : TDA} {px py pt : Pos} {kt k2 pt2} (hc : X.calm = true) (hN : X.N.Nodup) (ha : DA X K W Wx [a, b] tr dr) (hi : X.N[i]? = some x := by rfl) (hj : X.N[j]? = some y := by rfl) (hij : i ≠ j := by decide)
    (hx : X.env.scope.names.lookup x = some .local := by rfl) (hy : X.env.scope.names.lookup y = some .local := by rfl)
    (hw : swappedStores [.Tuple [.Name x px, .Name y py] kt pt] (.Tuple [a, b] k2 pt2) X.env = pure (some [x, y]) := by rfl)
    (hs : swapsWithSole [.Tuple [.Name x px, .Name y py] kt pt] (.Tuple [a, b] k2 pt2) pos.line X.env = pure false := by rfl) :
    DS X K W Wx (.Assign [.Tuple [.Name x px, .Name y py] kt pt] (.Tuple [a, b] k2 pt2) pos) (tPar i j tr) (tdPar i j dr) := by
  have hk := ha.k; subst hk
  exact ⟨rfl, ps_par hc hN hi hj hij hx hy ha.pa hw hs, fun I H σ τ E D ok rp t r => ha.sim I H σ τ _ _ _ ok rp t (fun vs ds I1 H1 q1 al l1 => by
    unfold two at q1
    split at q1
    · obtain ⟨v, v', rfl, h1, h2⟩ := isAll2 al
      refine ⟨v, v', rfl, r.nx _ _ I1 H1 q1 (((rp.later l1).set_dat h1).set_dat h2) ((rp.own l1).drop fun p o => (o.set_dat (by simpa using rp.len)).set_dat rp.len)⟩
    · exact q1.elim) (r.xok rp)⟩
/-- x op= e, ints -/
@[simp] def tdAug (i : Nat) (t : TDE) (f : TD2) : TDS := fun τ E => ∃ d, τ[i]? = some (some (.dat d)) ∧ t τ (fun y => f d y fun z => E.nx (τ.set i (some (.dat z)))) (fun x => E.ex x τ)
theorem SimS.aug {i : Nat} {ti : TIp} {f : TD2} (hr : R2Sim K W ti f) (h : SimE K W Wx te de) : SimS K W Wx (tAug i te ti) (tdAug i de f) := fun I H σ τ E D ok rp t r => by
  obtain ⟨d, e, t⟩ := t
  obtain ⟨v, h1, h2⟩ := rp.at_ i _ e
  refine ⟨v, h1, h I H σ τ _ _ _ ok rp t (fun w y I1 H1 q1 i1 l1 => hr I1 H1 v w d y _ _ l1.ok (Is.mono l1.ex h2) i1 q1 fun u z I2 H2 q2 i2 l2 => ?_) (r.xok rp)⟩
  have l := l1.trans l2
  exact r.nx _ _ I2 H2 q2 ((rp.later l).set_dat i2) ((rp.own l).drop fun p o => o.set_dat rp.len)
theorem ds_augI {i : Nat} {x : Str} {op : Operator} {g : Int → Int → Int} {pos' : Pos} (ho : PIp X op (ipI g)) (hN : X.N.Nodup) (h : DE X K W Wx e te de) (hi : X.N[i]? = some x := by rfl) (hx : Loc X.env.scope x := by first | exact Or.inl rfl | exact Or.inr rfl)
    (hf : X.fn x = true ∨ X.env.scope.names.lookup x = some .local := by first | exact .inl rfl | exact .inr rfl | assumption) : DS X K W Wx (.AugAssign (.Name x pos') op e pos) (tAug i te (ipI g)) (tdAug i de (fI fun i j => .int (g i j))) := by
  have hk := h.k; subst hk
  exact ⟨rfl, ps_aug hN hi hx h.pe ho hf, .aug (fun I H x y dx dy Q G ok hx hy q hq => by
    obtain ⟨i, j, rfl, rfl, q⟩ := int_of hx hy q
    exact ⟨i, j, rfl, rfl, hq _ _ I H q (.v _) (Later.refl ok)⟩) h.sim⟩
variable {c : Expr} {tc : TT} {dc : TDT} {A B : List Stmt}
@[simp] def tdIfS (c : TDT) (t u : TDS) : TDS := fun τ E => c (frz τ) (fun b => if b = true then t τ E else u τ E) (fun x => E.ex x (frz τ))
theorem SimS.ite (hc : SimT K W Wx tc dc) (h1 : SimS K W Wx t1 d1) (h2 : SimS K W Wx t2 d2) : SimS K W Wx (tIfS tc t1 t2) (tdIfS dc d1 d2) := fun I H σ τ E D ok rp t r => by
  obtain ⟨I1, e, ok1, rp1, nw⟩ := rp.frz ok
  refine hc I1 H σ (frz τ) _ _ _ ok1 rp1 t (fun b I2 H2 q2 l2 => ?_) (r.xokF rp1 e ok1 nw)
  obtain ⟨la, rp2⟩ := Lat.revert rp e nw l2
  cases b with
  | true =>
    rw [if_pos rfl] at q2 ⊢
    exact h1 I H2 σ τ E D la.ok rp2 q2 (r.later la)
  | false =>
    rw [if_neg Bool.false_ne_true] at q2 ⊢
    exact h2 I H2 σ τ E D la.ok rp2 q2 (r.later la)
theorem ds_if (hc : DT X K W Wx c tc dc) (h1 : DSs X K W Wx A t1 d1) (h2 : DSs X K W Wx B t2 d2) : DS X K W Wx (.If c A B pos) (tIfS tc t1 t2) (tdIfS dc d1 d2) := by
  have hk := hc.k; subst hk
  exact ⟨rfl, ps_if hc.pt h1.ps h2.ps, .ite hc.sim h1.sim h2.sim⟩
@[simp] def tdRet (t : TDE) : TDS := fun τ E => t (frz τ) (fun d => E.rt (.dat d)) (fun x => E.ex x (frz τ))
theorem SimS.ret (h : SimE K W Wx te de) : SimS K W Wx (tRet te) (tdRet de) := fun I H σ τ E D ok rp t r => by
  obtain ⟨I1, e, ok1, rp1, nw⟩ := rp.frz ok
  refine h I1 H σ (frz τ) _ _ _ ok1 rp1 t (fun v d I2 H2 q2 i2 l2 => ?_) (r.xokF rp1 e ok1 nw)
  exact r.rt v (.dat d) I2 H2 q2 ⟨i2, fun _ z => z.elim⟩ ⟨e.trans l2.ex, l2.ok, fun a o f _ q => l2.fr a o f (fun z => z) q, fun a n q => by
    by_cases h : I1 a = none
    · exact (l2.nw a h q).elim .inl fun z => z.elim
    · exact .inr (nw a n h), fun _ z => z.elim⟩
theorem ds_ret (h : DE X K W Wx e te de) : DS X K W Wx (.Return (some e) pos) (tRet te) (tdRet de) := by
  have hk := h.k; subst hk
  exact ⟨rfl, ps_ret h.pe, .ret h.sim⟩
@[simp] def tdRetO (t : TDO) : TDS := fun τ E => t (frz τ) (fun ds => E.rt (.own ds)) (fun x => E.ex x (frz τ))
theorem SimS.retO (h : SimO K W Wx te dO) : SimS K W Wx (tRet te) (tdRetO dO) := fun I H σ τ E D ok rp t r => by
  obtain ⟨I1, e, ok1, rp1, nw⟩ := rp.frz ok
  refine h I1 H σ (frz τ) _ _ _ ok1 rp1 t (fun p vs ds I2 H2 q2 hp hp2 hi al l2 => ?_) (r.xokF rp1 e ok1 nw)
  exact r.rt (.ref p) (.own ds) I2 H2 q2 ⟨⟨p, vs, rfl, hp2, hi, W.fr ok hp, al⟩, fun a o => by cases o; exact .inl hp⟩ ⟨e.trans l2.ex, l2.ok, fun a o f _ q => l2.fr a o f (fun z => z) q, fun a n q => by
    by_cases h : I1 a = none
    · exact (l2.nw a h q).elim .inl fun z => z.elim
    · exact .inr (nw a n h), fun _ z => z.elim⟩
theorem ds_retO (h : DO X K W Wx e te dO) : DS X K W Wx (.Return (some e) pos) (tRet te) (tdRetO dO) := by
  have hk := h.k; subst hk
  exact ⟨rfl, ps_ret h.pe, .retO h.sim⟩
/-- return x, x a list of one's own -/
@[simp] def tdRetV (i : Nat) : TDS := fun τ E => ∃ ds, τ[i]? = some (some (.own ds)) ∧ E.rt (.own ds)
@[simp] def tdRetX (t : TDX) : TDS := fun τ E => t (frz τ) (fun s => E.rt s) (fun x => E.ex x (frz τ))
/-- an expression whose value is dropped -/
@[simp] def tdDrop (t : TDE) : TDS := fun τ E => t (frz τ) (fun _ => E.nx τ) (fun x => E.ex x (frz τ))
theorem SimS.drop (h : SimE K W Wx te de) : SimS K W Wx (tDrop te) (tdDrop de) := fun I H σ τ E D ok rp t r => by
  obtain ⟨I1, e, ok1, rp1, nw⟩ := rp.frz ok
  refine h I1 H σ (frz τ) _ _ _ ok1 rp1 t (fun v d I2 H2 q2 i2 l2 => ?_) (r.xokF rp1 e ok1 nw)
  obtain ⟨la, rp2⟩ := Lat.revert rp e nw l2
  exact r.nx σ τ I H2 q2 rp2 la
theorem ds_drop (h : DE X K W Wx e te de) (hs : swapsWith e none pos.line X.env = pure false := by rfl) : DS X K W Wx (.Expr e pos) (tDrop te) (tdDrop de) := by
  have hk := h.k; subst hk
  exact ⟨rfl, ps_expr h.pe hs, .drop h.sim⟩
/-- what slot i owns at p is changed, while nothing else is read -/
theorem Rep.changed {I H : Hp} {σ : St} {τ : Tau} {i : Nat} {s s' : SD} {v : V} {p : Addr} {u : HO} (rp : Rep K W I H σ τ) (ok : W.ok I H) (e : τ[i]? = some (some s)) (hv : σ[i]? = some (some v)) (o : OwnV v s p) (h : At K W I (upd H p u) v s') (k : ∀ a, OwnV v s' a → OwnV v s a) :
    Rep K W I (upd H p u) σ (τ.set i (some s')) ∧ Lat W (Own σ τ) I H (Own σ (τ.set i (some s'))) I (upd H p u) := by
  have hiτ : i < τ.length := (List.getElem?_eq_some_iff.mp e).1
  have own_same : ∀ {j : Nat} {t : SD} {w : V} {a : Addr}, (τ.set i (some s'))[j]? = some (some t) → σ[j]? = some (some w) → OwnV w t a → ∃ t', τ[j]? = some (some t') ∧ OwnV w t' a := fun {j t w a} e1 e2 o1 => by
    rcases getSet e1 with ⟨rfl, _, rfl⟩ | ⟨hj, e1⟩
    · rw [hv] at e2
      cases e2
      exact ⟨s, e, k a o1⟩
    · exact ⟨t, e1, o1⟩
  have os : ∀ a, Own σ (τ.set i (some s')) a → Own σ τ a := fun a ⟨j, t, w, e1, e2, o1⟩ => by
    obtain ⟨t', e1, o1⟩ := own_same e1 e2 o1
    exact ⟨j, t', w, e1, e2, o1⟩
  have ip : Own σ τ p := ⟨i, s, v, e, hv, o⟩
  obtain ⟨hi, hf, _, hp⟩ := rp.owned ip
  refine ⟨⟨by rw [List.length_set]; exact rp.len, fun j t q => ?_, fun j l t t' w w' a e1 e2 e3 e4 o1 o2 => ?_⟩, ⟨Same.refl I, W.mu ok hi hf, fun a o f n q => ?_, fun a n q => absurd n q, fun a o => ⟨rp.free a (os a o), .inr (os a o)⟩⟩⟩
  · rcases getSet q with ⟨rfl, _, rfl⟩ | ⟨hj, q⟩
    · exact ⟨v, hv, h⟩
    · obtain ⟨w, h1, h2⟩ := rp.at_ j t q
      refine ⟨w, h1, h2.keep (Same.refl I) (fun a o => (h2.owned o).1) fun a o1 => upd_ne fun z => ?_⟩
      subst z
      exact hj (rp.inj i j s t v w a e q hv h1 o o1)
  · obtain ⟨u1, e1, o1⟩ := own_same e1 e3 o1
    obtain ⟨u2, e2, o2⟩ := own_same e2 e4 o2
    exact rp.inj j l u1 u2 w w' a e1 e2 e3 e4 o1 o2
  · have ne : a ≠ p := fun z => by
      subst z
      exact n ip
    rw [upd_ne ne]; exact q
/-- slot i's list becomes what f tells of it, while nothing else is read -/
theorem Rep.change {I H : Hp} {σ : St} {τ : Tau} {i : Nat} {ds es : List D} (rp : Rep K W I H σ τ) (ok : W.ok I H) (e : τ[i]? = some (some (.own ds))) :
    ∃ p vs, σ[i]? = some (some (.ref p)) ∧ H p = some (.lst vs) ∧ IsAll K I vs ds ∧ ∀ ws, IsAll K I ws es → Rep K W I (upd H p (.lst ws)) σ (τ.set i (some (.own es))) ∧ Lat W (Own σ τ) I H (Own σ (τ.set i (some (.own es)))) I (upd H p (.lst ws)) := by
  obtain ⟨v, h1, p, vs, rfl, hp, hi, hf, al⟩ := rp.at_ i _ e
  exact ⟨p, vs, h1, hp, al, fun ws aw => rp.changed ok e h1 rfl ⟨p, ws, rfl, upd_same, hi, hf, aw⟩ fun a o => o⟩
/-- x.append(e) -/
@[simp] def tdApp (i : Nat) (t : TDE) : TDS := fun τ E => ∃ ds, τ[i]? = some (some (.own ds)) ∧ ds.length < sizeLine ∧ t τ (fun d => E.nx (τ.set i (some (.own (ds ++ [d]))))) (fun x => E.ex x τ)
theorem tyV_lst {H : Hp} {p : Addr} {vs : List V} (h : H p = some (.lst vs)) : tyV K "list" (.ref p) H := .inl ⟨rfl, vs, SqL.of h⟩
theorem SimS.app {i : Nat} (h : SimE K W Wx te de) : SimS K W Wx (tDrop (tBM K "list" rAppend (tVar i) (tCons te tNil))) (tdApp i de) := fun I H σ τ E D ok rp t r => by
  obtain ⟨ds, e, hz, t⟩ := t
  obtain ⟨v0, h0, p0, vs0, rfl, hp0, hi0, hf0, al0⟩ := rp.at_ i _ e
  refine ⟨_, h0, tyV_lst hp0, h I H σ τ _ _ _ ok rp t (fun v d I1 H1 q1 i1 l1 => ?_) (r.xok rp)⟩
  have rp1 := rp.later l1
  obtain ⟨p, vs, h1, h2, al, k⟩ := rp1.change (es := ds ++ [d]) l1.ok e
  rw [h0] at h1
  cases h1
  obtain ⟨rp2, la⟩ := k (vs ++ [v]) (al.append (.cons i1 .nil))
  exact ⟨_, vs, v, rfl, rfl, h2, by rw [al.length]; exact hz, r.nx _ _ I1 _ q1 rp2 ((rp.own l1).trans la)⟩
theorem ds_app (i : Nat) {x : Str} {p p2 apos : Pos} (he : DE X K W Wx e te de) (hN : X.N[i]? = some x := by rfl) (hv : Vis X.env.scope x := by first | exact Or.inl rfl | exact Or.inr (Or.inl rfl) | exact Or.inr (Or.inr rfl)) (hd : (x == ("__debug__" : Str)) = false := by decide)
    (hcd : (x == ("__classdict__" : Str)) = false := by decide) (hbase : attributeBase (.Name x p) "append" X.env (eval (.Name x p) X.env) = eval (.Name x p) X.env := by rfl)
    (hfew : ((backTo p2 (starEach [e] X.env)).all (fun x => !x.1) && (backToKw p2 (keywordEach [] X.env)).all (fun x => x.1.isSome) && decide ([e].length + ([] : List Keyword).length + (if ([] : List Keyword).isEmpty then 0 else 1) < 30)) = true := by rfl)
    (hline : (apos.endLine == p2.line) = true := by rfl) (hs : starEach [e] X.env = (false, eval e X.env) :: starEach [] X.env := by rfl) (hpl : (backTo p2 (starEach [] X.env)).any (·.1) = false := by rfl) (hsw : swapsWith (.Call (.Attribute (.Name x p) "append" apos) [e] [] p2) none pos.line X.env = pure false := by rfl) :
    DS X K W Wx (.Expr (.Call (.Attribute (.Name x p) "append" apos) [e] [] p2) pos) (tDrop (tBM K "list" rAppend (tVar i) (tCons te tNil))) (tdApp i de) := by
  have hk := he.k; subst hk
  exact ⟨rfl, ps_expr (pe_bm PySem.F.plainAttrs_list PySem.F.slot_list_append PySem.F.type_list_append mt_append (pe_var hN hv hd hcd) (pa_cons he.pe pa_nil hs) hbase hfew hline hs hpl) hsw, .app he.sim⟩
/-- x.reverse(), x.clear() -/
@[simp] def tdUpd (i : Nat) (f : List D → List D) : TDS := fun τ E => ∃ ds, τ[i]? = some (some (.own ds)) ∧ E.nx (τ.set i (some (.own (f ds))))
/-- x.extend(a new list) -/
@[simp] def tdExt (i : Nat) (t : TDO) : TDS := fun τ E => ∃ ds, τ[i]? = some (some (.own ds)) ∧ t τ (fun es => ds.length + es.length ≤ sizeLine ∧ E.nx (τ.set i (some (.own (ds ++ es))))) (fun x => E.ex x τ)
theorem SimS.ext {i : Nat} (h : SimO K W Wx te dO) : SimS K W Wx (tDrop (tBM K "list" rExtend (tVar i) (tCons te tNil))) (tdExt i dO) := fun I H σ τ E D ok rp t r => by
  obtain ⟨ds, e, t⟩ := t
  obtain ⟨v0, h0, p0, vs0, rfl, hp0, hi0, hf0, al0⟩ := rp.at_ i _ e
  refine ⟨_, h0, tyV_lst hp0, h I H σ τ _ _ _ ok rp t (fun b ws es I1 H1 q1 hb hb1 hbi alb l1 => ?_) (r.xok rp)⟩
  have rp1 := rp.later l1
  obtain ⟨p, vs, h1, h2, al, k⟩ := rp1.change (es := ds ++ es) l1.ok e
  rw [h0] at h1
  cases h1
  obtain ⟨rp2, la⟩ := k (vs ++ ws) (al.append alb)
  exact ⟨_, b, vs, ws, rfl, rfl, h2, hb1, by rw [al.length, alb.length]; exact q1.1, r.nx _ _ I1 _ q1.2 rp2 ((rp.own l1).trans la)⟩
theorem ds_ext (i : Nat) {x : Str} {p p2 apos : Pos} (he : DO X K W Wx e te dO) (hN : X.N[i]? = some x := by rfl) (hv : Vis X.env.scope x := by first | exact Or.inl rfl | exact Or.inr (Or.inl rfl) | exact Or.inr (Or.inr rfl)) (hd : (x == ("__debug__" : Str)) = false := by decide)
    (hcd : (x == ("__classdict__" : Str)) = false := by decide) (hbase : attributeBase (.Name x p) "extend" X.env (eval (.Name x p) X.env) = eval (.Name x p) X.env := by rfl)
    (hfew : ((backTo p2 (starEach [e] X.env)).all (fun x => !x.1) && (backToKw p2 (keywordEach [] X.env)).all (fun x => x.1.isSome) && decide ([e].length + ([] : List Keyword).length + (if ([] : List Keyword).isEmpty then 0 else 1) < 30)) = true := by rfl)
    (hline : (apos.endLine == p2.line) = true := by rfl) (hs : starEach [e] X.env = (false, eval e X.env) :: starEach [] X.env := by rfl) (hpl : (backTo p2 (starEach [] X.env)).any (·.1) = false := by rfl) (hsw : swapsWith (.Call (.Attribute (.Name x p) "extend" apos) [e] [] p2) none pos.line X.env = pure false := by rfl) :
    DS X K W Wx (.Expr (.Call (.Attribute (.Name x p) "extend" apos) [e] [] p2) pos) (tDrop (tBM K "list" rExtend (tVar i) (tCons te tNil))) (tdExt i dO) := by
  have hk := he.k; subst hk
  exact ⟨rfl, ps_expr (pe_bm PySem.F.plainAttrs_list PySem.F.slot_list_extend PySem.F.type_list_extend mt_extend (pe_var hN hv hd hcd) (pa_cons he.pe pa_nil hs) hbase hfew hline hs hpl) hsw, .ext he.sim⟩
/-- x[j] = e, x a list of one's own -/
@[simp] def tdSetI (i : Nat) (t u : TDE) : TDS := fun τ E => ∃ ds, τ[i]? = some (some (.own ds)) ∧ t τ (fun d => u τ (fun k => onI k fun k => ∃ j, ixN ds.length k = some j ∧ E.nx (τ.set i (some (.own (ds.set j d))))) (fun x => E.ex x τ)) (fun x => E.ex x τ)
/-- the turns of a loop -/
def forD (g : TDG) (tb : TDS) : List D → Tau → DEnds → Prop
  | [], τ, E => E.nx τ
  | d :: ds, τ, E => g d τ fun τ1 => tb τ1 { E with nx := fun τ2 => forD g tb ds τ2 E, ct := fun τ2 => forD g tb ds τ2 E, bk := E.nx }
@[simp] def tdFor (ti : TDI) (g : TDG) (tb : TDS) : TDS := fun τ E => ti τ (fun ds => forD g tb ds τ E) (fun x => E.ex x τ)
theorem SimS.for_ {wi : TI} {ti : TDI} {g : TG} {gd : TDG} {idx : List Nat} {tb : TS} {db : TDS} (hi : SimI K W Wx wi ti) (hg : SimG K W g gd idx) (hb : SimS K W Wx tb db) : SimS K W Wx (tFor wi g tb) (tdFor ti gd db) := fun I H σ τ E D ok rp t r =>
  hi I H σ τ _ _ _ ok rp t (fun J ds I1 H1 q1 wk l1 => by
    refine ⟨fun i m σ' H' => ∃ (I' : Hp) (τ' : Tau), m = ds.length - i ∧ i ≤ ds.length ∧ Same I1 I' ∧ Rep K W I' H' σ' τ' ∧ Lat W (Own σ τ) I H (Own σ' τ') I' H' ∧ forD gd db (ds.drop i) τ' E, ⟨ds.length, I1, τ, by simp, Nat.zero_le _, Same.refl _, rp.later l1, rp.own l1, q1⟩, ?_⟩
    rintro i m σ2 H2 ⟨I2, τ2, rfl, hil, e2, rp2, la2, c⟩
    obtain ⟨w1, w2⟩ := wk i I2 H2 e2 la2.ok
    by_cases hlt : i < ds.length
    · obtain ⟨go, yl⟩ := w1 hlt
      refine .inr ⟨go, fun σ' H' => ∃ (I' : Hp) (τ' : Tau), Same I1 I' ∧ Rep K W I' H' σ' τ' ∧ Lat W (Own σ τ) I H (Own σ' τ') I' H' ∧ forD gd db (ds.drop (i + 1)) τ' E, ?_, ?_⟩
      · rintro σ' H' ⟨I', τ', h1, h2, h3, h4⟩
        exact ⟨ds.length - (i + 1), by omega, I', τ', rfl, hlt, h1, h2, h3, h4⟩
      · intro x H3 y
        obtain ⟨I3, d, hd, l3, ix⟩ := yl x H3 y
        have hdrop : ds.drop i = d :: ds.drop (i + 1) := by
          obtain ⟨h1, h2⟩ := List.getElem?_eq_some_iff.mp hd
          rw [← h2]; exact List.drop_eq_getElem_cons h1
        rw [hdrop] at c
        have la3 := la2.trans (rp2.own l3)
        refine hg I3 H3 σ2 τ2 x d _ _ l3.ok (rp2.later l3) ix c fun σ4 τ4 q4 rp4 o4 _ => ?_
        have la4 := la3.drop o4
        refine hb I3 H3 σ4 τ4 _ _ l3.ok rp4 q4 ?_
        have r4 := r.later la4
        have nx : ∀ σ5 τ5 I5 H5, forD gd db (ds.drop (i + 1)) τ5 E → Rep K W I5 H5 σ5 τ5 → Lat W (Own σ4 τ4) I3 H3 (Own σ5 τ5) I5 H5 → ∃ (I' : Hp) (τ' : Tau), Same I1 I' ∧ Rep K W I' H5 σ5 τ' ∧ Lat W (Own σ τ) I H (Own σ5 τ') I' H5 ∧ forD gd db (ds.drop (i + 1)) τ' E :=
          fun σ5 τ5 I5 H5 q5 rp5 l5 => ⟨I5, τ5, (e2.trans l3.ex).trans l5.ex, rp5, la4.trans l5, q5⟩
        exact ⟨nx, r4.nx, nx, r4.rt, r4.ex⟩
    · have e : i = ds.length := by omega
      subst e
      refine .inl ⟨w2 (Nat.le_refl _), ?_⟩
      rw [List.drop_length] at c
      exact r.nx σ2 τ2 I2 H2 c rp2 la2) (r.xok rp)
theorem ds_for {iter tg : Expr} {body : List Stmt} {wi : TI} {ti : TDI} {g : TG} {gd : TDG} {idx : List Nat} {tb : TS} {db : TDS} (hp : PassesOwn (model X.prog X.w) X.A X.env X.xe) (hc : X.calm = true) (hi : DI X K W Wx tg iter wi ti) (hg : DG X K W tg g gd idx) (hb : DSs X K W Wx body tb db)
    (hs : ∀ x, foldedSetIterable iter X.env x = pure x := by intro _; rfl) : DS X K W Wx (.For tg iter body [] pos) (tFor wi g tb) (tdFor ti gd db) := by
  have hk := hi.k; subst hk
  exact ⟨rfl, ps_for hp hc hi.pi hg.pg hb.ps hs, .for_ hi.sim hg.sim hb.sim⟩
end
/-- the slots at a def's entry -/
@[simp] def startT (n : Nat) (ds : List D) : Tau := ds.map (fun d => some (.dat d)) ++ List.replicate (n - ds.length) none
section
variable {K : PySem.W.Frag} {W : Wd} {Wx : WX}
theorem start_rep {I H : Hp} {N : List Str} {vs : List V} {ds : List D} (al : IsAll K I vs ds) : Rep K W I H (start N vs) (startT N.length ds) := by
  have hl := al.length
  refine ⟨by unfold L2.start startT; simp [hl], fun i s e => ?_, fun i j s t v w a e1 _ _ _ o1 => ?_⟩
  · unfold startT at e
    unfold L2.start
    by_cases hi : i < ds.length
    · rw [List.getElem?_append_left (by simpa using hi)] at e
      rw [List.getElem?_append_left (by simpa [hl] using hi)]
      rw [List.getElem?_map] at e ⊢
      rw [List.getElem?_eq_getElem hi] at e
      cases e
      obtain ⟨v, h1, h2⟩ := al.get (List.getElem?_eq_getElem hi)
      exact ⟨v, by rw [h1]; rfl, h2⟩
    · rw [List.getElem?_append_right (by simpa using Nat.le_of_not_lt hi), List.getElem?_replicate] at e
      split at e <;> cases e
  · exfalso
    unfold startT at e1
    by_cases hi : i < ds.length
    · rw [List.getElem?_append_left (by simpa using hi), List.getElem?_map, List.getElem?_eq_getElem hi] at e1
      cases e1
      exact o1
    · rw [List.getElem?_append_right (by simpa using Nat.le_of_not_lt hi), List.getElem?_replicate] at e1
      split at e1 <;> cases e1
theorem own_start {N : List Str} {vs : List V} {ds : List D} {n : Nat} {a : Addr} (h : Own (start N vs) (startT n ds) a) : False := by
  obtain ⟨i, s, v, e1, _, o⟩ := h
  unfold startT at e1
  by_cases hi : i < ds.length
  · rw [List.getElem?_append_left (by simpa using hi), List.getElem?_map, List.getElem?_eq_getElem hi] at e1
    cases e1
    exact o
  · rw [List.getElem?_append_right (by simpa using Nat.le_of_not_lt hi), List.getElem?_replicate] at e1
    split at e1 <;> cases e1
/-- what a def's caller wants, at the def's entry -/
@[simp] def endsD (Q : D → Prop) (R : Exc → Prop) : DEnds := { nx := fun _ => Q .non, rt := fun s => match s with | .dat d => Q d | .own ds => Q (.lst ds) | .obj _ C fs => Q (.ins C fs) | .tupo _ pre ds post => Q (.tup (pre ++ .lst ds :: post)) | .dk gs => Q (.dic gs) | .dt g gs => Q (.dt g gs) | .wd _ pre k post g gs => Q (.dic (pre ++ (k, .dt g gs) :: post)) | .kl gs => Q (.dic (klD gs)), ex := fun x _ => R x }
@[simp] def endsO (Q : List D → Prop) (R : Exc → Prop) : DEnds := { nx := fun _ => False, rt := fun s => match s with | .own ds => Q ds | _ => False, ex := fun x _ => R x }
@[simp] def endsX (Q : SD → Prop) (R : Exc → Prop) : DEnds := { nx := fun _ => Q (.dat .non), rt := Q, ex := fun x _ => R x }
/-- a dict with a dict in it is data from now on -/
theorem At.wdFrz {I H I' H' : Hp} {v : V} {q : Addr} {pre post : List (Key × D)} {k : Key} {g : PGw} {gs : List (List Key × D)} (ok : W.ok I H) (h : At K W I' H' v (.wd q pre k post g gs)) (hn : ∀ a, OwnV v (.wd q pre k post g gs) a → H a = none) (l : Later W I H I' H') :
    ∃ I2, Is K I2 v (.dic (pre ++ (k, .dt g gs) :: post)) ∧ Later W I H I2 H' := by
  obtain ⟨p, ob, us, as, bs, rfl, hp, hi, hf, r1, r2, hq, hiq, hfq, y, o, al⟩ := h
  have hpq : p ≠ q := ne_of hp hq (by intro z; cases z)
  have s1 : Same I' (upd I' q (pinO q ob)) := Same.new hiq
  have i2 : (upd I' q (pinO q ob)) p = none := by rw [upd_ne hpq]; exact hi
  have s2 : Same (upd I' q (pinO q ob)) (upd (upd I' q (pinO q ob)) p (.dK (as ++ (k, .ref q) :: bs))) := Same.new i2
  have s12 := s1.trans s2
  refine ⟨_, .dic upd_same ((IsKv.mono s12 r1).app (.cons (.dt (s2 _ _ upd_same) y o (IsT.mono s12 al)) (IsKv.mono s12 r2))), ?_⟩
  exact Later.freeze ok (Later.freeze ok l hiq (hn q (.inr rfl)) hq) i2 (hn p (.inl rfl)) hp
open Classical in
/-- a dict with lists of its own is data from now on -/
theorem At.klFrz {I H I' H' : Hp} {v : V} {gs : List (Key × Addr × List D)} (ok : W.ok I H) (h : At K W I' H' v (.kl gs)) (hn : ∀ a, OwnV v (.kl gs) a → H a = none) (l : Later W I H I' H') :
    ∃ I2, Is K I2 v (.dic (klD gs)) ∧ Later W I H I2 H' := by
  have up : Same I' (fun a => if OwnV v (.kl gs) a then H' a else I' a) := by
    intro a o e
    have : ¬ OwnV v (.kl gs) a := fun z => by
      rw [(h.owned z).1] at e; cases e
    show (if OwnV v (.kl gs) a then H' a else I' a) = some o
    rw [if_neg this]; exact e
  have ok2 : W.ok (fun a => if OwnV v (.kl gs) a then H' a else I' a) H' := W.fzs l.ok fun a => by
    by_cases z : OwnV v (.kl gs) a
    · exact .inr ⟨(h.owned z).1, (h.owned z).2.1, if_pos z⟩
    · exact .inl (if_neg z)
  obtain ⟨d, hd, e⟩ := h.frz up fun a o => if_pos o
  have e : some (SD.dat (.dic (klD gs))) = some (SD.dat d) := e
  cases e
  refine ⟨_, hd, l.ex.trans up, ok2, l.fr, fun a n z => ?_, fun _ z => z.elim⟩
  have z : (if OwnV v (.kl gs) a then H' a else I' a) ≠ none := z
  by_cases q : OwnV v (.kl gs) a
  · exact .inl (hn a q)
  · rw [if_neg q] at z
    exact l.nw a n z
theorem relD {I H : Hp} {N : List Str} {vs : List V} {ds : List D} {Q : D → Prop} {R : Exc → Prop} {G : VK} {E : XK} (ok : W.ok I H) (hq : ∀ v d I' H', Q d → Is K I' v d → Later W I H I' H' → G v H')
    (hx : ∀ cls da x I' H', R x → IsX K I' cls da x → Later W I H I' H' → E cls da H') : Rel K W (fun cls d _ H => E cls d H) (Own (start N vs) (startT N.length ds)) I H (endsD Q R) { nx := fun _ H' => G .non H', rt := G } := by
  have lt : ∀ {O I' H'}, Lat W (Own (start N vs) (startT N.length ds)) I H O I' H' → Later W I H I' H' := fun l =>
    ⟨l.ex, l.ok, fun a o f _ e => l.fr a o f (fun z => own_start z) e, fun a n e => (l.nw a n e).elim .inl fun z => (own_start z).elim, fun _ z => z.elim⟩
  refine ⟨fun σ τ I' H' q _ l => hq .non _ I' H' q (.v _) (lt l), fun _ _ _ _ z _ _ => z, fun _ _ _ _ z _ _ => z, fun v s I' H' q rv l => ?_, fun cls da x σ τ I' H' q ix _ l => hx cls da x I' H' q ix (lt l)⟩
  obtain ⟨ha, hn⟩ := rv
  have hn : ∀ a, OwnV v s a → H a = none := fun a o => (hn a o).elim id fun z => (own_start z).elim
  cases s with
  | dat d => exact hq v d I' H' q ha (lt l)
  | own es =>
    obtain ⟨p, ws, rfl, hp, hi, hf, al⟩ := ha
    exact hq _ _ (upd I' p (.lst ws)) H' q (.lst upd_same (al.mono (Same.new hi))) (Later.freeze ok (lt l) hi (hn p rfl) hp)
  | obj p C fs =>
    obtain ⟨dx, ws, rfl, hp, hi, hf, al⟩ := ha
    exact hq _ _ (upd I' p (.ins C dx ws)) H' q (.ins upd_same (al.mono (Same.new hi))) (Later.freeze ok (lt l) hi (hn p rfl) hp)
  | tupo p pre es post =>
    obtain ⟨t, us, zs, ws, rfl, st, h1, h2, hp, hi, hf, al⟩ := ha
    have sm := Same.new (o := .lst ws) hi
    exact hq _ _ (upd I' p (.lst ws)) H' q (.tup (Same.seqN sm st) ((h1.mono sm).append (.cons (.lst upd_same (al.mono sm)) (h2.mono sm)))) (Later.freeze ok (lt l) hi (hn p rfl) hp)
  | dk gs =>
    obtain ⟨p, ws, rfl, hp, hi, hf, al⟩ := ha
    exact hq _ _ (upd I' p (.dK ws)) H' q (.dic upd_same (IsKv.mono (Same.new hi) al)) (Later.freeze ok (lt l) hi (hn p rfl) hp)
  | dt g gs =>
    obtain ⟨p, ob, us, rfl, hp, hi, hf, y, o, al⟩ := ha
    exact hq _ _ (upd I' p (pinO p ob)) H' q (.dt upd_same y o (IsT.mono (Same.new hi) al)) (Later.freeze ok (lt l) hi (hn p rfl) hp)
  | wd qq pre k post g gs =>
    obtain ⟨_, i, l2⟩ := At.wdFrz ok ha hn (lt l)
    exact hq _ _ _ H' q i l2
  | kl gs =>
    obtain ⟨_, i, l2⟩ := At.klFrz ok ha hn (lt l)
    exact hq _ _ _ H' q i l2
theorem relO {I H : Hp} {N : List Str} {vs : List V} {ds : List D} {Q : List D → Prop} {R : Exc → Prop} {G : VK} {E : XK} (ok : W.ok I H) (hq : ∀ p ws es I' H', Q es → H p = none → H' p = some (.lst ws) → I' p = none → IsAll K I' ws es → Later W I H I' H' → G (.ref p) H')
    (hx : ∀ cls da x I' H', R x → IsX K I' cls da x → Later W I H I' H' → E cls da H') : Rel K W (fun cls d _ H => E cls d H) (Own (start N vs) (startT N.length ds)) I H (endsO Q R) { nx := fun _ H' => G .non H', rt := G } := by
  have lt : ∀ {O I' H'}, Lat W (Own (start N vs) (startT N.length ds)) I H O I' H' → Later W I H I' H' := fun l =>
    ⟨l.ex, l.ok, fun a o f _ e => l.fr a o f (fun z => own_start z) e, fun a n e => (l.nw a n e).elim .inl fun z => (own_start z).elim, fun _ z => z.elim⟩
  refine ⟨fun _ _ _ _ z _ _ => z.elim, fun _ _ _ _ z _ _ => z, fun _ _ _ _ z _ _ => z, fun v s I' H' q rv l => ?_, fun cls da x σ τ I' H' q ix _ l => hx cls da x I' H' q ix (lt l)⟩
  obtain ⟨ha, hn⟩ := rv
  have hn : ∀ a, OwnV v s a → H a = none := fun a o => (hn a o).elim id fun z => (own_start z).elim
  cases s with
  | dat d => exact q.elim
  | own es =>
    obtain ⟨p, ws, rfl, hp, hi, hf, al⟩ := ha
    exact hq p ws es I' H' q (hn p rfl) hp hi al (lt l)
  | obj p C fs => exact q.elim
  | tupo p pre es post => exact q.elim
  | dk gs => exact q.elim
  | dt g gs => exact q.elim
  | wd _ _ _ _ _ _ => exact q.elim
  | kl _ => exact q.elim
end
section
variable {P : Program} {w : World} {K : PySem.W.Frag} {mg : Str → Option Value} {base : Heap}
/-- THE RULE for a def that raises nothing, handing back data -/
theorem okD {x qual : Str} {st : Stmt} {f : Addr} {fd : FuncData} {N ps : List Str} {k : Nat} {t : TF} (F : Fun K x qual st f fd) (S : FnScope N ps (defScope st))
    (hbody : ∀ (cdv : Value) (A : Around) (outer : List Env) (s : Shared) (H : Hp) (E : XK), RoomG k (A.deeper (PyProof.Rows.envOfC qual (defScope st) s.heap.objs.size f cdv)) →
      ∃ (ts : TS) (td : Wd → TDS), (∀ W, DSs (cxOf CX0 P w K mg base N qual (defScope st) f cdv A outer s H E).nox K W (fun _ _ _ _ => False) (defBody st) ts (td W)) ∧
        ∀ (W : Wd) (ds : List D) (Q : D → Prop), ds.length = ps.length → t W ds Q (fun _ => False) → td W (startT N.length ds) (endsD Q fun _ => False))
    (hR : ∀ W ds Q R, t W ds Q R → t W ds Q fun _ => False) : FnG P w K mg base CX0 (k + 1) f fd ps (spD K ps.length t) := by
  refine fnG0 F S (fun vs H Q E h => spD_len h) fun cdv A outer s H vs Q E hr h => ?_
  obtain ⟨W, I, ds, Qd, R, ok, al, hl, ht, hq, hx⟩ := h
  obtain ⟨ts, td, hd, hm⟩ := hbody cdv A outer s H E hr
  refine ⟨ts, (hd W).ps, (hd W).sim I H _ _ _ _ ok (start_rep al) (hm W ds Qd hl (hR _ _ _ _ ht)) ?_⟩
  have r := relD (N := N) (vs := vs) (ds := ds) (Q := Qd) (R := fun _ => False) (G := Q) (E := fun _ _ _ => False) ok hq (fun _ _ _ _ _ z _ _ => z)
  exact r
theorem okO {x qual : Str} {st : Stmt} {f : Addr} {fd : FuncData} {N ps : List Str} {k : Nat} {t : TFO} (F : Fun K x qual st f fd) (S : FnScope N ps (defScope st))
    (hbody : ∀ (cdv : Value) (A : Around) (outer : List Env) (s : Shared) (H : Hp) (E : XK), RoomG k (A.deeper (PyProof.Rows.envOfC qual (defScope st) s.heap.objs.size f cdv)) →
      ∃ (ts : TS) (td : Wd → TDS), (∀ W, DSs (cxOf CX0 P w K mg base N qual (defScope st) f cdv A outer s H E).nox K W (fun _ _ _ _ => False) (defBody st) ts (td W)) ∧
        ∀ (W : Wd) (ds : List D) (Q : List D → Prop), ds.length = ps.length → t W ds Q (fun _ => False) → td W (startT N.length ds) (endsO Q fun _ => False))
    (hR : ∀ W ds Q R, t W ds Q R → t W ds Q fun _ => False) : FnG P w K mg base CX0 (k + 1) f fd ps (spO K ps.length t) := by
  refine fnG0 F S (fun vs H Q E h => spO_len h) fun cdv A outer s H vs Q E hr h => ?_
  obtain ⟨W, I, ds, Qd, R, ok, al, hl, ht, hq, hx⟩ := h
  obtain ⟨ts, td, hd, hm⟩ := hbody cdv A outer s H E hr
  refine ⟨ts, (hd W).ps, (hd W).sim I H _ _ _ _ ok (start_rep al) (hm W ds Qd hl (hR _ _ _ _ ht)) ?_⟩
  exact relO (N := N) (vs := vs) (ds := ds) (Q := Qd) (R := fun _ => False) (G := Q) (E := fun _ _ _ => False) ok hq (fun _ _ _ _ _ z _ _ => z)
end
end D3
set_option Elab.async false
set_option linter.all false
set_option maxRecDepth 100000
set_option maxHeartbeats 2000000
namespace D3
open PySem L2
/-- the bag stands at b, its cells at c -/
def bagW (b c : Addr) (cells : List Int) : Wd where
  ok := fun I H => Same I H ∧ I b = none ∧ I c = none ∧ b ≠ c ∧ (∀ x ∈ cells, 0 ≤ x) ∧ cells.length ≤ 63 ∧ H c = some (.lst (cells.map V.int)) ∧ ∃ n m k : Int, 0 ≤ n ∧ 0 ≤ k ∧ H b = some (.lst [.int n, .int m, .int k, .ref c])
  free := fun a => a ≠ b ∧ a ≠ c
  ex := fun h => h.1
  alo := fun {I H p o} ⟨h1, h2, h3, h4, h5, h6, h7, n, m, k, h8, h9, h10⟩ hp => ⟨Same.up h1 (Same.non h1 hp), h2, h3, h4, h5, h6, by rw [upd_ne (ne_of_none h7 hp)]; exact h7, n, m, k, h8, h9, by rw [upd_ne (ne_of_none h10 hp)]; exact h10⟩
  fr := fun {I H p} ⟨h1, h2, h3, h4, h5, h6, h7, n, m, k, h8, h9, h10⟩ hp => ⟨(ne_of_none h10 hp).symm, (ne_of_none h7 hp).symm⟩
  mu := fun {I H p o} ⟨h1, h2, h3, h4, h5, h6, h7, n, m, k, h8, h9, h10⟩ hi ⟨f1, f2⟩ => ⟨Same.up h1 hi, h2, h3, h4, h5, h6, by rw [upd_ne (Ne.symm f2)]; exact h7, n, m, k, h8, h9, by rw [upd_ne (Ne.symm f1)]; exact h10⟩
  fzs := fun {I I' H} ⟨h1, h2, h3, h4, h5, h6, h7⟩ hk => ⟨fun a o e => by
    rcases hk a with q | ⟨_, _, q⟩
    · rw [q] at e; exact h1 a o e
    · rw [q] at e; exact e, by
    rcases hk b with q | ⟨_, f, _⟩
    · rw [q]; exact h2
    · exact absurd rfl f.1, by
    rcases hk c with q | ⟨_, f, _⟩
    · rw [q]; exact h3
    · exact absurd rfl f.2, h4, h5, h6, h7⟩
  nb := fun {I H a} ⟨h1, h2, h3, _⟩ f => by
    by_cases e : a = b
    · rw [e]; exact h2
    · by_cases e2 : a = c
      · rw [e2]; exact h3
      · exact absurd ⟨e, e2⟩ f
  anti := fun {I I' H} ⟨h1, h2, h3, h4⟩ e => ⟨e.trans h1, Same.non e h2, Same.non e h3, h4⟩
/-- a[i] of a list, for op= -/
def rGetL (K : PySem.W.Frag) : V → V → Hp → VK → Prop := fun x y H Q => ∃ p xs i v, x = .ref p ∧ y = .int i ∧ SqL K H p xs ∧ 0 ≤ i ∧ i < 2 ^ 63 ∧ xs[i.toNat]? = some v ∧ Q v H
theorem get_list {X : Cx} : PGet X (rGetL X.K) := by
  intro pins s σ H o i ov iv Q I ro ri h
  obtain ⟨p, xs, j, v, rfl, rfl, hq, h0, h1, he, q⟩ := h
  cases ro
  obtain ⟨t, rfl⟩ := ri
  obtain ⟨its, r, pl, hz⟩ := I.list hq
  obtain ⟨w, ew, rw'⟩ := r.get he
  exact PySem.wpAny_getItem_list pl.isList h0 h1 (by simpa using ew) ⟨v, H, I, rw', q⟩
theorem atI_some {α : Type} {xs : List α} {k : Int} (h0 : 0 ≤ k) (h1 : k < xs.length) : ∃ v, atI xs k = some v ∧ v ∈ xs := by
  have h2 : k.toNat < xs.length := by omega
  refine ⟨xs[k.toNat], ?_, List.getElem_mem h2⟩
  have e : (k.toNat : Int) = k := by omega
  have q : atI xs (k.toNat : Int) = some xs[k.toNat] := atI_nat (List.getElem?_eq_getElem h2)
  rw [e] at q
  exact q
/-- what the law's draw tells: a number below so many; the bag goes on -/
def tTake : TF := fun W ds Q _ => ∃ (b c : Addr) (cells : List Int) (n : Int), W = bagW b c cells ∧ ds = [.v (.ref b), .int n] ∧ 0 < n ∧ n ≤ 10000000000000000000000000000000000000000 ∧ ∀ v : Int, 0 ≤ v → v < n → Q (.int v)
theorem take_i {b c : Addr} {cells : List Int} {n : Int} {Q : D → Prop} {R : Exc → Prop} (h0 : 0 < n) (h1 : n ≤ 10000000000000000000000000000000000000000) (h : ∀ v : Int, 0 ≤ v → v < n → Q (.int v)) : tTake (bagW b c cells) [.v (.ref b), .int n] Q R := ⟨b, c, cells, n, rfl, rfl, h0, h1, h⟩
/-- the bag as it stands -/
def BagAt (b c : Addr) (cells : List Int) (I H0 H : Hp) (n m k : Int) : Prop := Later (bagW b c cells) I H0 I H ∧ 0 ≤ n ∧ 0 ≤ k ∧ H b = some (.lst [.int n, .int m, .int k, .ref c])
theorem BagAt.cells {b c : Addr} {cells : List Int} {I H0 H : Hp} {n m k : Int} (h : BagAt b c cells I H0 H n m k) : H c = some (.lst (cells.map V.int)) ∧ (∀ x ∈ cells, 0 ≤ x) ∧ cells.length ≤ 63 := ⟨h.1.ok.2.2.2.2.2.2.1, h.1.ok.2.2.2.2.1, h.1.ok.2.2.2.2.2.1⟩
theorem BagAt.set {b c : Addr} {cells : List Int} {I H0 H : Hp} {n m k n' m' k' : Int} (h : BagAt b c cells I H0 H n m k) (hn : 0 ≤ n') (hk : 0 ≤ k') : BagAt b c cells I H0 (upd H b (.lst [.int n', .int m', .int k', .ref c])) n' m' k' := by
  obtain ⟨l, h1, h2, h3⟩ := h
  obtain ⟨o1, o2, o3, o4, o5, o6, o7, _⟩ := l.ok
  refine ⟨⟨l.ex, ⟨Same.up o1 o2, o2, o3, o4, o5, o6, by rw [upd_ne (Ne.symm o4)]; exact o7, n', m', k', hn, hk, upd_same⟩, fun a o f z e => ?_, l.nw, l.ow⟩, hn, hk, upd_same⟩
  rw [upd_ne f.1]
  exact l.fr a o f z e
/-- draws, for all places where the text is such -/
theorem read_take {K : PySem.W.Frag} {t : TS} {W : Wd} {I H : Hp} {vs : List V} {ds : List D} {Q : D → Prop} {R : Exc → Prop} {G : VK} (ok : W.ok I H) (al : IsAll K I vs ds) (ht : tTake W ds Q R) (hq : ∀ v d I' H', Q d → Is K I' v d → Later W I H I' H' → G v H')
    (h : ∀ (b c : Addr) (cells : List Int) (n0 m0 k0 many : Int), BagAt b c cells I H H n0 m0 k0 → 0 < many → many ≤ 10000000000000000000000000000000000000000 → (∀ (v : Int) (n m k : Int) (H' : Hp), 0 ≤ v → v < many → BagAt b c cells I H H' n m k → G (.int v) H') → vs = [.ref b, .int many] → t { nx := fun _ H' => G .non H', rt := G } (L2.start ["a", "b", "c", "d", "e", "f"] vs) H) :
    t { nx := fun _ H' => G .non H', rt := G } (L2.start ["a", "b", "c", "d", "e", "f"] vs) H := by
  obtain ⟨b, c, cells, n, rfl, rfl, h0, h1, kk⟩ := ht
  obtain ⟨v1, v2, rfl, i1, i2⟩ := isAll2 al
  cases i1; cases i2
  obtain ⟨o1, o2, o3, o4, o5, o6, o7, n0, m0, k0, p1, p2, p3⟩ := id ok
  exact h b c cells n0 m0 k0 n ⟨Later.refl ok, p1, p2, p3⟩ h0 h1 (fun v n m k H' q1 q2 B => hq _ _ I H' (kk v q1 q2) (.v _) B.1) rfl
theorem of_seq {t u : TS} {D : Ends} {σ : St} {H : Hp} (P : St → Hp → Prop) (h2 : ∀ σ H, P σ H → u D σ H) (h1 : (∀ σ H, P σ H → u D σ H) → t { D with nx := u D } σ H) : tSeq t u D σ H := h1 h2
theorem seq_c {u : TS} {D : Ends} {σ : St} {H : Hp} {i : Nat} {v : V} (h : u D (σ.set i (some v)) H) : tSeq (tAsg (tC v) (gName i)) u D σ H := h
end D3
set_option Elab.async false
set_option linter.all false
set_option maxRecDepth 100000
set_option maxHeartbeats 2000000
namespace D3
open PySem L2
/-- a text the other way about -/
def revS (z : Str) : Str := ⟨z.cps.toList.reverse.toArray⟩
def rRev (K : PySem.W.Frag) : V → Option Int → Hp → VK → Prop := fun x o H Q => o = some (-1) ∧ ((∃ a xs, x = .ref a ∧ SqL K H a xs ∧ ∀ p, H p = none → Q (.ref p) (upd H p (.lst xs.reverse))) ∨ ∃ z, x = .str z ∧ z.length ≤ sizeLine ∧ Q (.str (revS z)) H)
def tRev (K : PySem.W.Frag) (te : TE) (ts : TO) : TE := fun σ H Q => te σ H fun x H1 => ts σ H1 fun o H2 => rRev K x o H2 Q
theorem pick_rev (items : Array Value) : slicePick items none none (some (-1)) = items.toList.reverse.toArray := PySem.W.krv_pick items
theorem indices_rev (n : Nat) : Builtin.Str.strSliceIndices none none (-1) n = (List.range n).reverse := by
  unfold Builtin.Str.strSliceIndices
  show sliceRange ((n : Int) - 1) (-1) (-1) = _
  rw [PySem.W.krv_sliceRange, PySem.W.krv_range]
theorem filter_all {α : Type} (xs : Array α) : ((List.range xs.size).reverse).filterMap (xs[·]?) = xs.toList.reverse := by
  rw [List.filterMap_reverse, PySem.W.krv_all]
theorem vals_rev : ∀ {xs : List V} {us : List Value}, Vals xs us → Vals xs.reverse us.reverse
  | _, _, .nil => .nil
  | _, _, .cons h t => by
    rw [List.reverse_cons, List.reverse_cons]
    exact L2.Vals.append (vals_rev t) (.cons h .nil)
section
variable {X : Cx} {e st : Expr} {te ts : TE} {to : TO} {p2 pos : Pos}
theorem pe_rev (he : PE X e te) (hs : PO X (some st) to) : PE X (.Subscript e (.Slice none none (some st) p2) pos) (tRev X.K te to) := by
  refine ⟨fun pins s σ H Q I h => PyProof.Rows.Subscript_ (thn (he.run pins s σ H _ I h) fun v s1 ⟨x, H1, I1, r1, q1⟩ => ?_)⟩
  refine PySem.wpAny_Slice (thn (po_none.run pins s1 σ H1 (fun o H2 => o = none ∧ H2 = H1) I1 ⟨rfl, rfl⟩) fun vl s2 ⟨l, H2, I2, pl, el, eH⟩ => thn (po_none.run pins s2 σ H2 (fun o H3 => o = none ∧ H3 = H2) I2 ⟨rfl, rfl⟩) fun vu s3 ⟨u, H3, I3, pu, eu, eH3⟩ => ?_)
  subst el eu eH3 eH
  refine thn (hs.run pins s3 σ H3 _ I3 q1) fun vs s4 ⟨o, H4, I4, ps, q4⟩ => ?_
  obtain ⟨rfl, q4⟩ := q4
  have I5 : Inv X pins σ H4 { s4 with heap := s4.heap.push { cls := .type "slice", data := .fields #[vl, vu, vs] }, toks := s4.toks } := I4.kept fun b ob q => Heap.get?_push_of_some _ q
  have hsl : ({ s4 with heap := s4.heap.push { cls := .type "slice", data := .fields #[vl, vu, vs] } } : Shared).heap.IsSliceOf s4.heap.objs.size vl vu vs := Heap.IsSliceOf.new ..
  rcases q4 with ⟨a, xs, rfl, hx, q⟩ | ⟨z, rfl, hz, q⟩
  · cases r1
    obtain ⟨its, r, ht, hz⟩ := I5.list hx
    have hlen := r.length
    refine PyProof.Rows.tail_any ht.isList.typeIs slot_list_getitem.lookup (PySem.wpAny_getItem_list_slice ht.isList hsl pl pu ps (by decide) ?_ (by rw [List.size_toArray]; omega)) (by with_unfolding_all rfl)
    rw [pick_rev]
    have I6 := I5.laid (t' := s4.toks) (o := .lst xs.reverse) (fun b ob q => Heap.get?_push_of_some _ q) (Nat.le_refl _) (h' := (s4.heap.push { cls := .type "slice", data := .fields #[vl, vu, vs] }).push { cls := .type "list", data := .seq its.reverse.toArray })
      ⟨by rw [List.length_reverse]; exact hz, its.reverse, 0, ?_, Heap.get?_push_size _ rfl⟩
    · exact ⟨.ref _, _, I6, rfl, q _ (I5.hok.fresh (Nat.le_refl _))⟩
    · exact vals_rev r
  · obtain ⟨t, rfl⟩ := r1
    obtain ⟨os, hos, hcs, hds⟩ := hsl
    obtain ⟨l, e1, e1'⟩ := IsPart.raw pl
    obtain ⟨u, e2, e2'⟩ := IsPart.raw pu
    obtain ⟨st, e3, e3'⟩ := IsPart.raw ps
    refine PyProof.Rows.tail_any (typeIs_str _ _ _) F.slot_str_getitem.lookup (PySem.wpAny_getItem_str_slice (l := l) (u := u) (st := st) ⟨os, hos, hcs, by rw [← e1, ← e2, ← e3]; exact hds⟩ (by rw [e3']; rfl) ?_) (by with_unfolding_all rfl)
    have hp : slicePicked z l u st = (List.range z.length).reverse := by
      unfold slicePicked
      rw [e1', e2', e3']
      exact indices_rev z.length
    unfold sliceMade
    rw [hp, e3']
    have hc : ((((some (-1) : Option Int).getD 1) == 1 && (List.range z.length).reverse.length == z.length) = true) = False := by simp
    rw [if_neg (by rw [hc]; exact fun h => h)]
    have hr : (⟨((List.range z.length).reverse.filterMap (z.cps[·]?)).toArray⟩ : Str) = revS z := by
      unfold revS
      rw [show z.length = z.cps.size from rfl, filter_all]
    rw [hr]
    have hl : (revS z).length ≤ sizeLine := by
      show (revS z).cps.size ≤ sizeLine
      unfold revS
      rw [List.size_toArray, List.length_reverse, Array.length_toList]
      exact hz
    exact ⟨hl, .str _, H4, I5.tok _, ⟨_, rfl⟩, q⟩
variable {W : Wd} {Wx : WX} {de : TDE} {dp : TDO2}
/-- of a list -/
@[simp] def tdRevL (t : TDE) (u : TDO2) : TDO := fun τ Q R => t τ (fun x => u τ (fun o => o = some (-1) ∧ onLst x fun ds => Q ds.reverse) R) R
theorem do_rev (he : DE X K W Wx e te de) (hs : DP X K W Wx (some st) to dp) : DO X K W Wx (.Subscript e (.Slice none none (some st) p2) pos) (tRev K te to) (tdRevL de dp) := by
  have hk := he.k; subst hk
  exact ⟨rfl, pe_rev he.pe hs.po, fun I H σ τ Q R G ok rp t hq hx => he.sim I H σ τ _ R _ ok rp t (fun v d I1 H1 q1 i1 l1 => hs.sim I1 H1 σ τ _ R _ l1.ok (rp.later l1) q1 (fun o I2 H2 q2 l2 => by
    obtain ⟨rfl, q2⟩ := q2
    refine ⟨rfl, ?_⟩
    obtain ⟨p, xs, ds, rfl, sq, al, q2⟩ := lst_of i1 q2
    · have l := l1.trans l2
      exact .inl ⟨p, xs, rfl, (W.ex l2.ok).seq (l2.ex.seq sq), fun n hn => hq n _ _ I2 _ q2 (Later.back l hn) upd_same (Same.non (W.ex l2.ok) hn) (al.mono l2.ex).reverse (l.trans (Later.allocO l2.ok hn))⟩) (hx.later l1)) hx⟩
/-- of a text -/
@[simp] def tdRevS (t : TDE) (u : TDO2) : TDE := fun τ Q R => t τ (fun x => u τ (fun o => o = some (-1) ∧ onStr x fun z => z.length ≤ sizeLine ∧ Q (.str (revS z))) R) R
/-- -a -/
@[simp] def tdNeg (t : TDE) : TDE := fun τ Q R => t τ (fun x => onI x fun i => Q (.int (-i))) R
theorem de_neg (he : DE X K W Wx e te de) : DE X K W Wx (.UnaryOp .USub e pos) (tUn (rU fun i => .int (-i)) te) (tdNeg de) := by
  have hk := he.k; subst hk
  exact ⟨rfl, pe_un un_neg he.pe, fun I H σ τ Q R G ok rp t hq hx => he.sim I H σ τ _ R _ ok rp t (fun v d I1 H1 q1 i1 l1 => by
    obtain ⟨i, rfl, q⟩ := i_of i1 q1
    exact ⟨i, rfl, hq _ _ I1 H1 q (.v _) l1⟩) hx⟩
end
end D3
set_option Elab.async false
set_option linter.all false
set_option maxRecDepth 100000
set_option maxHeartbeats 2000000
namespace D3
open PySem L2
/-- a def of the top -/
structure HasFn (K : PySem.W.Frag) (mg : Str → Option Value) (x : Str) (st : Stmt) (ps : List Str) (f : Addr) (fd : FuncData) : Prop where
  F : Fun K x x st f fd
  g : mg x = some (.ref f)
  b : Binds K fd ps []
theorem HasFn.k {K : PySem.W.Frag} {mg : Str → Option Value} {x : Str} {st : Stmt} {ps : List Str} {f : Addr} {fd : FuncData} (h : HasFn K mg x st ps f fd) : PySem.W.keepIn K (.ref f) = true := h.F.kp
/-- a flat constant of the top -/
def HasC (mg : Str → Option Value) (x : Str) (v : V) : Prop := ∃ u, mg x = some u ∧ RelV v u
theorem hasFn_mk {K : PySem.W.Frag} {h : Heap} {mg : Str → Option Value} {x : Str} {st : Stmt} {ps : List Str} {f : Addr} {oc : Value} {od an : Option Addr} {osl : Array (Option Value)} {kV doc pm cdv ct : Value} (X : K.In h) (G : h.Ns mainGlobals mg)
    (a : PySem.W.nsIn K mainGlobals x = some (some (.ref f))) (l : K.lookup f = some ⟨oc, od, .func (PySem.W.fnOf x x (defArgs st) (defBody st) (defScope st) .none kV doc pm an cdv ct), osl⟩) (c : PySem.W.codeIn K cdv x = true) (k : PySem.W.keepIn K (.ref f) = true)
    (hb : ∀ us : List Value, us.length = ps.length → bindArgs (PySem.W.fnOf x x (defArgs st) (defBody st) (defScope st) .none kV doc pm an cdv ct) ⟨us, []⟩ = pure (ps.zip us)) :
    HasFn K mg x st ps f (PySem.W.fnOf x x (defArgs st) (defBody st) (defScope st) .none kV doc pm an cdv ct) := ⟨fun_mk l c k, PySem.W.mg_of X G a, Binds.all hb⟩
theorem hasC_str {K : PySem.W.Frag} {h : Heap} {mg : Str → Option Value} {x s : Str} {t : Tok} (X : K.In h) (G : h.Ns mainGlobals mg) (a : PySem.W.nsIn K mainGlobals x = some (some (.str s t))) : HasC mg x (.str s) := ⟨_, PySem.W.mg_of X G a, t, rfl⟩
theorem hasC_int {K : PySem.W.Frag} {h : Heap} {mg : Str → Option Value} {x : Str} {s : Int} {t : Tok} (X : K.In h) (G : h.Ns mainGlobals mg) (a : PySem.W.nsIn K mainGlobals x = some (some (.int s t))) : HasC mg x (.int s) := ⟨_, PySem.W.mg_of X G a, t, rfl⟩
def absI (x : Int) : Int := if x < 0 then -x else x
def spBag (K : PySem.W.Frag) : Sp := fun vs H Q _ => ∃ (a : Addr) (ns : List Int), vs = [.ref a] ∧ SqL K H a (ns.map V.int) ∧ ns.length ≤ 63 ∧
  ∀ p c H', Same H H' → H p = none → H c = none → p ≠ c → H' p = some (.lst [.int 0, .int 1234567891, .int 0, .ref c]) → H' c = some (.lst ((ns.map absI).map V.int)) → Q (.ref p) H'
theorem cut63 {xs : List V} (h : xs.length ≤ 63) : cutV xs none (some 63) = xs := by
  unfold cutV
  have e1 : HT.sIx xs.length 0 none = 0 := rfl
  have e2 : HT.sIx xs.length xs.length (some 63) = xs.length := by
    have := HT.sIx_nat xs.length xs.length 63
    rw [show ((63 : Nat) : Int) = 63 from rfl] at this
    rw [this]; omega
  rw [e1, e2, List.drop_zero, Nat.sub_zero, List.take_length]
/-- the reading of its one row -/
theorem read_bag {K : PySem.W.Frag} {σ : St} {a : Addr} {ns : List Int} {H : Hp} {D : Ends} (hσ : σ[0]? = some (some (.ref a))) (h1 : ∀ (v : Option V), (σ.set 1 v)[1]? = some v) (hq : SqL K H a (ns.map V.int)) (hl : ns.length ≤ 63)
    (hk : ∀ p c H', Same H H' → H p = none → H c = none → p ≠ c → H' p = some (.lst [.int 0, .int 1234567891, .int 0, .ref c]) → H' c = some (.lst ((ns.map absI).map V.int)) → D.rt (.ref p) H') :
    tRet (tLst (tCons (tC (.int 0)) (tCons (tC (.int 1234567891)) (tCons (tC (.int 0)) (tCons (tLc (iList K (tSl (rSlL K) (tVar 0) tNoPart (tPart (tC (.int 63))))) (gName 1) tYes
      (tCB (fun xs H Q => ∃ i, xs = [.int i] ∧ Q (.int (if i < 0 then -i else i)) H) (tCons (tVar 1) tNil)) [1]) tNil))))) D σ H := by
  have hl' : (ns.map V.int).length ≤ 63 := by rw [List.length_map]; exact hl
  refine ⟨_, hσ, 63, rfl, a, _, rfl, hq, fun q hq0 => ?_⟩
  rw [cut63 hl']
  refine ⟨q, rfl, ⟨_, SqL.of upd_same⟩, fun c hc => ?_⟩
  have qc : q ≠ c := fun z => by subst z; rw [upd_same] at hc; cases hc
  have hc0 : H c = none := by rw [upd_ne (Ne.symm qc)] at hc; exact hc
  refine lc_list (K := K) (a := q) (xs := ns.map V.int) (fun i H' => Same H H' ∧ H' q = some (.lst (ns.map V.int)) ∧ H' c = some (.lst (((ns.take i).map absI).map V.int))) ⟨fun b o e => ?_, ?_, upd_same⟩ (fun i H' _ h => SqL.of h.2.1) (fun i x H' hx h => ?_) (fun H' h => ?_)
  · rw [upd_ne (ne_of_none e hc0), upd_ne (ne_of_none e hq0)]; exact e
  · rw [upd_ne qc]; exact upd_same
  · obtain ⟨s, hq', hc'⟩ := h
    rw [List.getElem?_map] at hx
    cases hz : ns[i]? with
    | none => rw [hz] at hx; cases hx
    | some z =>
      rw [hz] at hx
      cases hx
      refine ⟨?_, _, ?_, z, rfl, _, hc', ?_, fun b o e => ?_, ?_, ?_⟩
      · show wipe ((wipe σ [1]).set 1 (some (V.int z))) [1] = wipe σ [1]
        show ((σ.set 1 none).set 1 (some (V.int z))).set 1 none = σ.set 1 none
        rw [List.set_set, List.set_set]
      · show ((σ.set 1 none).set 1 (some (V.int z)))[1]? = some (some (V.int z))
        rw [List.set_set]; exact h1 _
      · rw [List.length_map, List.length_map, List.length_take]
        exact Nat.lt_of_le_of_lt (Nat.le_trans (Nat.min_le_right _ _) hl) (by decide)
      · have : b ≠ c := fun q => by subst q; rw [hc0] at e; cases e
        rw [upd_ne this]; exact s b o e
      · rw [upd_ne qc]; exact hq'
      · rw [upd_same]
        have e2 : ns.take (i + 1) = ns.take i ++ [z] := by
          rw [List.take_add_one, hz]; rfl
        rw [e2, List.map_append, List.map_append]
        rfl
  · obtain ⟨s, _, hc'⟩ := h
    rw [List.length_map, List.take_length] at hc'
    refine ⟨by show 4 ≤ sizeLine; decide, fun p hp => ?_⟩
    have pc : p ≠ c := fun z => by subst z; rw [hc'] at hp; cases hp
    refine hk p c _ (fun b o e => ?_) (s.free hp) hc0 pc upd_same ?_
    · rw [upd_ne (ne_of_none (s b o e) hp)]; exact s b o e
    · rw [upd_ne (Ne.symm pc)]; exact hc'
/-- what a law promises -/
def spLaw (K : PySem.W.Frag) : Sp := fun vs H Q _ => ∃ (a : Addr) (ns : List Int), vs = [.ref a] ∧ SqL K H a (ns.map V.int) ∧ ns.length ≤ 63 ∧ ∀ H', Q (.bl true) H'
def endsL : DEnds := { nx := fun _ => False, rt := fun s => s = .dat (.bl true) }
/-- a law: the bag is made, then the rest, by data -/
theorem read_law {K : PySem.W.Frag} {N : List Str} {vs : List V} {H : Hp} {Q : VK} {E : XK} {trest : TS} {td : Wd → TDS} (h : spLaw K vs H Q E) (hn : 2 ≤ N.length) (hs : ∀ W, SimS K W (fun _ _ _ _ => False) trest (td W))
    (hm : ∀ (b c : Addr) (cells : List Int), td (bagW b c cells) (none :: some (.dat (.v (.ref b))) :: List.replicate (N.length - 2) none) endsL) :
    tSeq (tAsg (tCallS (spBag K) (fun _ => E0) (tCons (tVar 0) tNil)) (gName 1)) trest { nx := fun _ H' => Q .non H', rt := Q } (L2.start N vs) H := by
  obtain ⟨a, ns, rfl, sq, hl, k⟩ := h
  have hσ : (L2.start N [V.ref a])[0]? = some (some (.ref a)) := rfl
  have hlen : (L2.start N [V.ref a]).length = N.length := by unfold L2.start; simp; omega
  refine ⟨_, hσ, a, ns, rfl, sq, hl, fun p c H' s hp hc pc e1 e2 => ?_⟩
  have cN : ∀ x ∈ ns.map absI, 0 ≤ x := fun x hx => by
    obtain ⟨y, _, rfl⟩ := List.mem_map.mp hx
    unfold absI
    split <;> omega
  have ok : (bagW p c (ns.map absI)).ok (fun _ => none) H' := ⟨(fun _ _ e => by cases e), rfl, rfl, pc, cN, by rw [List.length_map]; exact hl, e2, 0, 1234567891, 0, Int.le_refl _, Int.le_refl _, e1⟩
  have rp : Rep K (bagW p c (ns.map absI)) (fun _ => none) H' ((L2.start N [V.ref a]).set 1 (some (.ref p))) (none :: some (.dat (.v (.ref p))) :: List.replicate (N.length - 2) none) := by
    refine ⟨by rw [List.length_set, hlen]; simp; omega, fun i s e => ?_, fun i j s t v w q e1 _ _ _ o1 => ?_⟩
    · match i, e with
      | 0, e => cases e
      | 1, e =>
        cases e
        exact ⟨_, List.getElem?_set_self (by rw [hlen]; omega), .v _⟩
      | i + 2, e =>
        have e : (List.replicate (N.length - 2) (none : Option SD))[i]? = some (some s) := e
        rw [List.getElem?_replicate] at e
        split at e <;> cases e
    · exfalso
      match i, e1 with
      | 0, e => cases e
      | 1, e => cases e; exact o1
      | i + 2, e =>
        have e : (List.replicate (N.length - 2) (none : Option SD))[i]? = some (some s) := e
        rw [List.getElem?_replicate] at e
        split at e <;> cases e
  refine hs _ _ H' _ _ endsL _ ok rp (hm p c _) ⟨fun _ _ _ _ z _ _ => z.elim, fun _ _ _ _ z _ _ => z, fun _ _ _ _ z _ _ => z, fun v s I H2 e rv _ => ?_, fun _ _ _ _ _ _ _ z _ _ _ => z⟩
  cases e
  cases (show Is K I v (.bl true) from rv.1)
  exact k H2
theorem spLaw_len {K : PySem.W.Frag} {vs : List V} {H : Hp} {Q : VK} {E : XK} (h : spLaw K vs H Q E) : vs.length = 1 := by
  obtain ⟨a, ns, rfl, _⟩ := h
  rfl
end D3
set_option Elab.async false
set_option linter.all false
set_option maxRecDepth 100000
set_option maxHeartbeats 2000000
namespace D3
open PySem L2
/-- a text by its signs' numbers -/
def mk (l : List Nat) : Str := ⟨l.toArray⟩
abbrev sD (l : List Nat) : D := .str (mk l)
@[simp] theorem mk_length (l : List Nat) : (mk l).length = l.length := by show (mk l).cps.size = _; simp [mk]
@[simp] theorem mk_cps' (l : List Nat) : (mk l).cps = l.toArray := rfl
@[simp] theorem mk_cps (l : List Nat) : (mk l).cps.toList = l := by simp [mk]
theorem mk_inj {a b : List Nat} (h : mk a = mk b) : a = b := by
  have := congrArg (fun z : Str => z.cps.toList) h
  simpa using this
@[simp] theorem mk_eq {a b : List Nat} : (mk a = mk b) = (a = b) := propext ⟨mk_inj, fun h => by rw [h]⟩
theorem one_mk (c : Nat) : (⟨#[c]⟩ : Str) = mk [c] := rfl
@[simp] theorem signs_mk (l : List Nat) : signs (mk l) = l.map fun c => sD [c] := by unfold signs; simp; intro c _; rfl
theorem mk_of (s : Str) : s = mk s.cps.toList := by cases s; simp [mk]
@[simp] theorem revS_mk (l : List Nat) : revS (mk l) = mk l.reverse := by unfold revS; simp [mk]
theorem app_mk (a b : List Nat) : mk a ++ mk b = mk (a ++ b) := by
  show (⟨(mk a).cps ++ (mk b).cps⟩ : Str) = _
  simp [mk]
theorem join_mk (ys : List (List Nat)) : Txt.join (mk []) (ys.map mk) = mk ys.flatten := by
  rw [TL.join_eq]
  have h := TL.tl_join (mk []) (ys.map mk)
  have e : ∀ parts : List (List Nat), TL.joinL [] parts = parts.flatten := by
    intro parts
    induction parts with
    | nil => rfl
    | cons p r ih =>
      cases r with
      | nil => simp [TL.joinL]
      | cons q r => simp only [TL.joinL, List.nil_append] at ih ⊢; rw [ih]; rfl
  have t1 : ∀ l, TL.tl (mk l) = l := fun l => mk_cps l
  rw [t1, e, List.map_map] at h
  have h2 : (List.map (TL.tl ∘ mk) ys) = ys := by
    conv => rhs; rw [← List.map_id ys]
    apply List.map_congr_left
    intro a _
    exact t1 a
  rw [h2] at h
  rw [mk_of (Str.join (mk []) (List.map mk ys))]
  congr 1
@[simp] theorem inS_one (c : Nat) (z : List Nat) : inS (mk [c]) (mk z) = decide (c ∈ z) := by
  have h := PySem.StrLaws.found_one (mk z) c
  unfold inS
  rw [← one_mk]
  rw [h]
  exact decide_eq_decide.mpr (by rw [mk_cps])
theorem atI_zero {α : Type} (x : α) (xs : List α) : atI (x :: xs) 0 = some x := by
  have := atI_nat (xs := x :: xs) (j := 0) (v := x) rfl
  simpa using this
@[simp] theorem atI_0 {α : Type} (x : α) (xs : List α) : atI (x :: xs) 0 = some x := atI_zero x xs
@[simp] theorem atI_1 {α : Type} (x y : α) (xs : List α) : atI (x :: y :: xs) 1 = some y := atI_nat (j := 1) rfl
@[simp] theorem atI_2 {α : Type} (x y z : α) (xs : List α) : atI (x :: y :: z :: xs) 2 = some z := atI_nat (j := 2) rfl
@[simp] theorem atI_3 {α : Type} (x y z a : α) (xs : List α) : atI (x :: y :: z :: a :: xs) 3 = some a := atI_nat (j := 3) rfl
theorem atI_of {α : Type} {xs : List α} {k : Nat} {v : α} (h : xs[k]? = some v) : atI xs (k : Int) = some v := atI_nat h
theorem join_ones {α : Type} (l : List α) (f : α → Nat) : Txt.join (mk []) (l.map fun a => mk [f a]) = mk (l.map f) := by
  have h := join_mk (l.map fun a => [f a])
  rw [List.map_map] at h
  have e : (l.map fun a => [f a]).flatten = l.map f := by
    induction l with
    | nil => rfl
    | cons a l ih =>
      rw [List.map_cons, List.flatten_cons, List.map_cons]
      rw [ih (by
        have := join_mk (l.map fun a => [f a])
        rw [List.map_map] at this
        exact this)]
      rfl
  rw [e] at h
  exact h
theorem sum_ones {α : Type} (l : List α) (f : α → Nat) : ((l.map fun a => mk [f a]).map (·.length)).sum = l.length := by
  induction l with
  | nil => rfl
  | cons a l ih => rw [List.map_cons, List.map_cons, List.sum_cons, ih]; simp; omega
/-- .. whose items are such -/
theorem compD_rel {i : Nat} {te : TDE} {vs : List Nat} {τ : Tau} (P : D → D → Prop) : ∀ {ds : List D} {Q : List D → Prop}, (∀ d ∈ ds, ∀ K : D → Prop, (∀ e, P d e → K e) → te ((wipeT τ vs).set i (some (.dat d))) K (fun _ => False)) →
    (∀ es : List D, es.length = ds.length → (∀ (k : Nat) (d e : D), ds[k]? = some d → es[k]? = some e → P d e) → Q es) → compD (gdName i) tdYes te vs τ ds Q
  | [], Q, _, q => q [] rfl fun k d e h => by cases h
  | d :: ds, Q, h, q => by
    show (if true = true then te ((wipeT τ vs).set i (some (.dat d))) (fun y => compD (gdName i) tdYes te vs τ ds fun ys => Q (y :: ys)) (fun _ => False) else compD (gdName i) tdYes te vs τ ds Q)
    rw [if_pos rfl]
    refine h d List.mem_cons_self _ fun y hy => ?_
    refine compD_rel P (Q := fun ys => Q (y :: ys)) (fun e he => h e (List.mem_cons_of_mem _ he)) fun es hl hp => q (y :: es) (by simp [hl]) fun k => ?_
    cases k with
    | zero => intro d' e' h1 h2; cases h1; cases h2; exact hy
    | succ k => intro d' e' h1 h2; exact hp k d' e' (by simpa using h1) (by simpa using h2)
theorem compD_all {i : Nat} {te : TDE} {vs : List Nat} {τ : Tau} (P : D → Prop) {ds : List D} {Q : List D → Prop} (h : ∀ d ∈ ds, ∀ K : D → Prop, (∀ e, P e → K e) → te ((wipeT τ vs).set i (some (.dat d))) K (fun _ => False))
    (q : ∀ es : List D, es.length = ds.length → (∀ e ∈ es, P e) → Q es) : compD (gdName i) tdYes te vs τ ds Q :=
  compD_rel (fun _ => P) h fun es hl hp => q es hl fun e he => by
    obtain ⟨k, hk, rfl⟩ := List.getElem_of_mem he
    exact hp k (ds[k]'(by omega)) _ (List.getElem?_eq_getElem _) (List.getElem?_eq_getElem hk)
/-- such items, as what they are made of -/
theorem all_map {α : Type} (mkD : α → D) (P : α → Prop) : ∀ {es : List D}, (∀ e ∈ es, ∃ a, e = mkD a ∧ P a) → ∃ l : List α, es = l.map mkD ∧ ∀ a ∈ l, P a
  | [], _ => ⟨[], rfl, fun _ h => by cases h⟩
  | e :: es, h => by
    obtain ⟨a, rfl, pa⟩ := h e List.mem_cons_self
    obtain ⟨l, rfl, pl⟩ := all_map mkD P (es := es) fun x hx => h x (List.mem_cons_of_mem _ hx)
    refine ⟨a :: l, rfl, fun x hx => ?_⟩
    rcases List.mem_cons.mp hx with rfl | hx
    · exact pa
    · exact pl x hx
/-- a block cut in two by a word -/
theorem tdSeq_cut {t u : TDS} {τ : Tau} {E : DEnds} (P : Tau → Prop) (h1 : ∀ nx : Tau → Prop, (∀ τ, P τ → nx τ) → t τ { E with nx := nx }) (h2 : ∀ τ, P τ → u τ E) : tdSeq t u τ E := h1 _ h2
/-- a loop by a word over the turns: the body is read for whatever comes behind -/
theorem forD_word {g : TDG} {tb : TDS} {E : DEnds} (P : List D → Tau → Prop) (ds : List D) (hg : ∀ d τ (Q Q' : Tau → Prop), (∀ τ', Q τ' → Q' τ') → g d τ Q → g d τ Q')
    (hs : ∀ (pre : List D) (d : D) (post : List D) (τ : Tau), ds = pre ++ d :: post → P pre τ → g d τ fun τ1 => ∀ nx : Tau → Prop, (∀ τ', P (pre ++ [d]) τ' → nx τ') → tb τ1 { E with nx := nx, ct := nx, bk := E.nx })
    (hd : ∀ τ, P ds τ → E.nx τ) : ∀ (pre post : List D) (τ : Tau), ds = pre ++ post → P pre τ → forD g tb post τ E
  | pre, [], τ, e, p => hd τ (by rw [e, List.append_nil]; exact p)
  | pre, d :: post, τ, e, p => by
    refine hg d τ _ _ (fun τ1 q => ?_) (hs pre d post τ e p)
    exact q _ fun τ2 q2 => forD_word P ds hg hs hd (pre ++ [d]) post τ2 (by rw [e, List.append_assoc]; rfl) q2
theorem gdName_mono {i : Nat} : ∀ d τ (Q Q' : Tau → Prop), (∀ τ', Q τ' → Q' τ') → gdName i d τ Q → gdName i d τ Q' := fun _ _ _ _ h q => h _ q
@[simp] theorem numsD_length (lo : Int) (n : Nat) : (numsD lo n).length = n := by simp [numsD]
theorem sz {n : Nat} (h : n ≤ 16777216) : n ≤ sizeLine := h
@[simp] theorem sizeLine_le {n : Nat} : (n ≤ sizeLine) = (n ≤ 16777216) := rfl
theorem mem_numsD {lo : Int} {n : Nat} {d : D} (h : d ∈ numsD lo n) : ∃ i : Nat, i < n ∧ d = .int (lo + i) := by
  unfold numsD at h
  obtain ⟨i, hi, rfl⟩ := List.mem_map.mp h
  exact ⟨i, List.mem_range.mp hi, rfl⟩
def SIG : List Nat := [46, 97, 98, 99, 100, 101, 102, 103, 104, 105, 106, 107, 108, 109, 110, 111, 112, 113, 114, 115, 116, 117, 118, 119, 120, 121, 122]
theorem sig_eq : (".abcdefghijklmnopqrstuvwxyz" : Str) = mk SIG := by decide +kernel
theorem empty_eq : ("" : Str) = mk [] := by decide +kernel
abbrev Rows := List (List Nat)
abbrev rowsD (rows : Rows) : D := .lst (rows.map sD)
/-- a picture by its entries -/
def pic (w h : Nat) (f : Nat → Nat → Nat) : Rows := (List.range h).map fun y => (List.range w).map fun x => f x y
def dOk (n : Nat) (d : D) : Prop := pyOk d = true ∧ (toPy d).canLay0 = true ∧ (toPy d).depth ≤ n
theorem dOk.cmp {n : Nat} {d : D} (h : dOk n d) (hn : n ≤ 64 := by decide) : cmpOk d := ⟨h.1, by unfold SeqAt.shaped; rw [h.2.1, decide_eq_true (Nat.le_trans h.2.2 hn)]; rfl⟩
theorem dOks {n : Nat} : ∀ {ds : List D}, (∀ d ∈ ds, dOk n d) → pyOks ds = true ∧ PyData.canLayAll0 (toPys ds) = true ∧ PyData.depthAll (toPys ds) ≤ n
  | [], _ => ⟨by simp [pyOks], by simp [toPys, PyData.canLayAll0], by simp [toPys, PyData.depthAll]⟩
  | d :: ds, h => by
    obtain ⟨a, b, c⟩ := h d List.mem_cons_self
    obtain ⟨a', b', c'⟩ := dOks (ds := ds) fun x hx => h x (List.mem_cons_of_mem _ hx)
    refine ⟨by simp [pyOks, a, a'], by simp [toPys, PyData.canLayAll0, b, b'], ?_⟩
    simp only [toPys, PyData.depthAll]
    exact Nat.max_le.mpr ⟨c, c'⟩
theorem dOk.lst {n : Nat} {ds : List D} (h : ∀ d ∈ ds, dOk n d) : dOk (n + 1) (.lst ds) := by
  obtain ⟨a, b, c⟩ := dOks h
  exact ⟨by simp [pyOk, a], by simp [toPy, PyData.canLay0, b], by simp only [toPy, PyData.depth]; omega⟩
theorem dOk.tup {n : Nat} {ds : List D} (h : ∀ d ∈ ds, dOk n d) : dOk (n + 1) (.tup ds) := by
  obtain ⟨a, b, c⟩ := dOks h
  exact ⟨by simp [pyOk, a], by simp [toPy, PyData.canLay0, b], by simp only [toPy, PyData.depth]; omega⟩
theorem dOk.int {i : Int} : dOk 1 (.int i) := ⟨by simp [pyOk], by simp [toPy, PyData.canLay0], by simp [toPy, PyData.depth]⟩
theorem dOk.bl {b : Bool} : dOk 1 (.bl b) := ⟨by simp [pyOk], by simp [toPy, PyData.canLay0], by simp [toPy, PyData.depth]⟩
theorem dOk.non : dOk 1 (.v .non) := ⟨by simp [pyOk], by simp [toPy, PyData.canLay0], by simp [toPy, PyData.depth]⟩
theorem dOk.str {l : List Nat} (h : ∀ c ∈ l, c < 0x110000) : dOk 1 (sD l) := ⟨by simp [pyOk], by
  simp only [toPy, PyData.canLay0, PyData.strOk]
  rw [← Array.all_toList, List.all_eq_true]
  exact fun c hc => decide_eq_true (h c (by simpa using hc)), by simp [toPy, PyData.depth]⟩
theorem dOk.rows {rows : Rows} (h : ∀ r ∈ rows, ∀ c ∈ r, c < 0x110000) : dOk 2 (rowsD rows) := .lst fun d hd => by
  obtain ⟨r, hr, rfl⟩ := List.mem_map.mp hd
  exact .str (h r hr)
@[simp] theorem eqD_str {a b : List Nat} : eqD (sD a) (sD b) = decide (a = b) := by
  simp only [eqD, toPy, PyData.eqv]
  by_cases h : a = b
  · subst h; simp
  · have : mk a ≠ mk b := fun z => h (mk_inj z)
    rw [decide_eq_false h]
    exact beq_eq_false_iff_ne.mpr this
@[simp] theorem eqD_int {a b : Int} : eqD (.int a) (.int b) = decide (a = b) := by
  simp only [eqD, toPy, PyData.eqv]
  by_cases h : a = b <;> simp [h]
theorem eqvAll_map {α : Type} [DecidableEq α] (f : α → D) (h : ∀ a b, eqD (f a) (f b) = decide (a = b)) : ∀ as bs : List α, PyData.eqvAll (toPys (as.map f)) (toPys (bs.map f)) = decide (as = bs)
  | [], [] => by simp [toPys, PyData.eqvAll]
  | [], _ :: _ => by simp [toPys, PyData.eqvAll]
  | _ :: _, [] => by simp [toPys, PyData.eqvAll]
  | a :: as, b :: bs => by
    simp only [List.map_cons, toPys, PyData.eqvAll]
    rw [eqvAll_map f h as bs]
    have := h a b
    unfold eqD at this
    rw [this]
    by_cases h1 : a = b <;> by_cases h2 : as = bs <;> simp [h1, h2]
theorem eqD_map {α : Type} [DecidableEq α] {f : α → D} (h : ∀ a b, eqD (f a) (f b) = decide (a = b)) {as bs : List α} : eqD (.lst (as.map f)) (.lst (bs.map f)) = decide (as = bs) := by
  unfold eqD; simp only [toPy, PyData.eqv]; exact eqvAll_map f h as bs
@[simp] theorem eqD_rows {a b : Rows} : eqD (rowsD a) (rowsD b) = decide (a = b) := eqD_map fun _ _ => eqD_str
end D3
set_option Elab.async false
set_option linter.all false
set_option maxRecDepth 100000
set_option maxHeartbeats 4000000
namespace D3S
open PySem PySem.Spec
/-- the first i texts, asked for k -/
def seen (xs : List Str) (i : Nat) (k : Str) : Bool := (xs.take i).any (· == k)
/-- how many of the first i are unlike -/
def unlike (xs : List Str) : Nat → Nat
  | 0 => 0
  | i + 1 => if seen xs i (xs.getD i Str.empty) = true then unlike xs i else unlike xs i + 1
theorem unlike_le (xs : List Str) : ∀ i, unlike xs i ≤ i
  | 0 => Nat.le_refl _
  | i + 1 => by
    have := unlike_le xs i
    unfold unlike
    split <;> omega
theorem seen_succ {xs : List Str} {i : Nat} (h : i < xs.length) (k : Str) : (seen xs i k || decide (k = xs.getD i Str.empty)) = seen xs (i + 1) k := by
  unfold seen
  rw [List.take_add_one, List.getElem?_eq_getElem h, List.any_append]
  have e : xs.getD i Str.empty = xs[i] := by simp [List.getD_eq_getElem?_getD, h]
  rw [e]
  congr 1
  show _ = ((xs[i] == k) || false)
  rw [Bool.or_false]
  by_cases z : k = xs[i]
  · subst z; simp
  · rw [decide_eq_false z]
    exact (beq_eq_false_iff_ne.mpr fun q => z q.symm).symm
section
variable {P : Program} {w : World} {A : Around} {R : Result → Shared → Prop} {it st : Addr} {pr wr : List Addr} {G : Array GenState → Array GenState → Prop} {n : Nat} {at_ : Nat → Value → Prop} {Z : Nat → Shared → Prop}
/-- the set, moved along -/
theorem along {s s' : Shared} {S : Str → Bool} {m : Nat} (h : s.heap.SetOf (strKind P w) st S m) (mv : Moved wr G s s') (no : st ∉ wr) : s'.heap.SetOf (strKind P w) st S m :=
  let ⟨o, es, ep, t, ho, rest⟩ := h
  ⟨o, es, ep, t, mv.heap st _ no ho, rest⟩
theorem fill (W : WalksS P w A.in1 it pr wr G n at_ Z) (apart : st ∉ pr) (xs : List Str) (len : xs.length = n) (texts : ∀ i v, at_ i v → ∃ t, v = .str (xs.getD i Str.empty) t) (few : n + 1 < scanBound) :
    ∀ (left i : Nat) (s : Shared), i + left = n → Z i s → s.heap.SetOf (strKind P w) st (seen xs i) (unlike xs i) →
      (∀ s', Moved (st :: wr) G s s' → s'.heap.SetOf (strKind P w) st (seen xs n) (unlike xs n) → R (.ok (.ret .none)) s') →
      codeAny (model P w) A (.builtin "set.update.loop" ⟨[.ref st, .ref it], []⟩) R s := by
  have no : st ∉ wr := fun q => apart (W.sub _ q)
  have sub : ∀ x ∈ wr, x ∈ st :: wr := fun x q => List.mem_cons_of_mem _ q
  intro left
  induction left with
  | zero =>
    intro i s e z S0 fin
    cases (show i = n by omega)
    refine codeAny_builtin PyProof.Rows.F.entry_set_update_loop (by
      rw [Around.under_plainId PyProof.Rows.F.plain_set_update_loop _]
      show wpAny _ A.in1 (pyNext (.ref it) >>= _) _ _ s
      refine wpAny_bind (W.done s _ _ z fun s' mv => ?_)
      show wpAny _ A.in1 (ret Value.none) _ _ s'
      exact wpAny_pure (fin s' (mv.mono sub) (along S0 mv no)))
  | succ left ih =>
    intro i s e z S0 fin
    have lt : i < n := by omega
    refine codeAny_builtin PyProof.Rows.F.entry_set_update_loop (by
      rw [Around.under_plainId PyProof.Rows.F.plain_set_update_loop _]
      show wpAny _ A.in1 (pyNext (.ref it) >>= _) _ _ s
      refine wpAny_bind (W.item i s _ _ lt z fun v s' av z' mv => ?_)
      obtain ⟨t, rfl⟩ := texts i v av
      have S1 := along S0 mv no
      show wpAny _ A.in1 (holding [Value.str (xs.getD i Str.empty) t] (setAdd st (.str (xs.getD i Str.empty) t)) >>= _) _ _ s'
      refine wpAny_bind (wpAny_holding (by
        unfold setAdd
        refine wpAny_holding (wpAny_bind ((strKind P w).pyHash (k := xs.getD i Str.empty) (strKind_is _ _ _ _) ?_))
        have le := unlike_le xs i
        refine wpAny_setAddHashed_of (knd := strKind P w) (s := { s' with toks := s'.toks + 1 }) (strKind_is _ _ _ _) rfl S1 (by omega) fun h' sb S1 => ?_
        have S2 : h'.SetOf (strKind P w) st (seen xs (i + 1)) (unlike xs (i + 1)) := PyProof.Rows.SetOf_congr S1 (fun k => seen_succ (by omega) k) rfl
        refine wpAny_pure ⟨plainId_quiet PyProof.Rows.F.plain_set_update_loop _, ih (i + 1) _ (by omega) (W.frame _ s' _ _ z' (Nat.le_succ _) fun x q o g => ?_) S2 fun s2 mv2 S3 => ?_⟩
        · rw [sb.2 x fun y => apart (y ▸ q)]; exact g
        · refine fin s2 (Moved.trans W.gtrans ((mv.mono sub).then_heap (Nat.le_succ _) fun x o q g => ?_) mv2) S3
          rw [sb.2 x fun y => q (y ▸ List.mem_cons_self)]; exact g)))
end
section
variable {P : Program} {w : World} {A : Around} {E : Value → Shared → Prop} {s : Shared}
/-- a set just laid -/
abbrev bare (led : Bool) : Obj := { cls := .type "set", dict := none, data := .set #[] 0 (.fresh 0 0 led) }
/-- set.__init__ on a list or tuple of texts -/
def Filled (s : Shared) (P : Program) (w : World) (xs : List Str) (z : Shared) : Prop :=
  ∃ h' tk, z = { s with heap := h', toks := tk } ∧ h'.SetOf (strKind P w) s.heap.objs.size (seen xs xs.length) (unlike xs xs.length) ∧ ∀ b o, b < s.heap.objs.size → s.heap.get? b = some o → h'.get? b = some o
/-- .. and what comes of it -/
def Behind {P : Program} {w : World} (A : Around) (E : Value → Shared → Prop) (F : Shared → Prop) : Fin → Shared → Prop := fun f z => match f with
  | .done f => wants (fun v z => v = .none ∧ F z) E (.ok f) z
  | .again c => c.quiet = true ∧ codeAny (model P w) A.in1 c (wants (fun v z => v = .none ∧ F z) E) z
/-- set(l), from its filling -/
theorem set_of {l : Addr} {xs : List Str} {Q : Value → Shared → Prop}
    (hi : ∀ led : Bool, wpAny (model P w) A.in1.in1 (Builtin.«set.__init__» ⟨[.ref s.heap.objs.size, .ref l], []⟩) (Behind (P := P) (w := w) A E (Filled s P w xs)) (fun e => E e) { s with heap := s.heap.push (bare led) })
    (h : ∀ z, Filled s P w xs z → Q (.ref s.heap.objs.size) z) : wpAny (model P w) A (call (.type "set") [.ref l]) Q E s := by
  obtain ⟨c, tl, hmro⟩ := F.called_set.mro
  have h3 := F.called_set.made
  have h4 := F.called_set.sub
  have h1 := F.called_set.notType
  have h2 := F.called_set.canCreate
  have h5 := F.typeCall_set_1 (.ref l)
  refine wpAny_call (codeAny_of_tree (by
    show wpAny _ _ (callAny (.type "set") _) _ _ _
    refine wpAny_pure ⟨Code.quiet_builtin _ (by decide +kernel), codeAny_builtin F.entry_type_call (by
      rw [Around.under_plain (weight_type_call_type "set" [.ref l] []) rfl]
      repeat (any_goals (first | assumption | wp_step))
      refine codeAny_mono (code_set_new_1 (.ref l) (E := E) (Q₁ := fun v z => ∃ led : Bool, v = .ref s.heap.objs.size ∧ z = { s with heap := s.heap.push (bare led) }) fun led => ⟨led, rfl, rfl⟩) fun r z hr => ?_
      match r, hr with
      | .error e, hr => exact hr
      | .ok (.ret v), hr =>
        obtain ⟨led, rfl, rfl⟩ := hr
        have g0 : (s.heap.push (bare led)).get? s.heap.objs.size = some (bare led) := Heap.get?_push_size _ rfl
        have g1 : Shared.TypeIs { s with heap := s.heap.push (bare led) } (.ref s.heap.objs.size) "set" := ⟨_, g0, rfl⟩
        have g2 := F.called_set.init.lookup
        have g3 := F.called_set.init.bind (.ref s.heap.objs.size)
        repeat (any_goals (first | assumption | wp_step))
        refine codeAny_mono (codeAny_call_builtin (R := wants (fun v z => v = .none ∧ Filled s P w xs z) E) F.called_set.init.plain F.entry_set_init (check_set_init_1 g1 ?_)) fun r z hr => ?_
        · exact hi led
        · match r, hr with
          | .error e, hr => exact hr
          | .ok (.ret v), hr =>
            obtain ⟨rfl, hr⟩ := hr
            repeat (any_goals (first | assumption | wp_step))
            exact h _ hr)⟩))
theorem strs_at {us : List Value} {xs : List Str} (h : PyProof.Rows.StrsAre us xs) {i : Nat} {v : Value} (e : us[i]? = some v) : ∃ t, v = .str (xs.getD i Str.empty) t := SS.strs_at h i v e
theorem far {h : Heap} {o : Obj} {l : Addr} (hl : l < h.objs.size) : l ≠ (h.push o).objs.size ∧ h.objs.size ∉ [(h.push o).objs.size, l] := by
  rw [Heap.size_push]
  refine ⟨Nat.ne_of_lt (Nat.lt_succ_of_lt hl), fun z => ?_⟩
  rcases List.mem_cons.mp z with z | z
  · exact Nat.ne_of_lt (Nat.lt_succ_self _) z
  · exact Nat.ne_of_gt hl (List.mem_singleton.mp z)
/-- behind the loop -/
theorem filled {s s' : Shared} {led : Bool} {o : Obj} {xs : List Str} {I : Addr} {wr : List Addr} (e : I = (s.heap.push (bare led)).objs.size) (mv : Moved (s.heap.objs.size :: wr) (fun a b => b = a) { s with heap := (s.heap.push (bare led)).push o } s') (hw : ∀ x ∈ wr, x = I)
    (hS : s'.heap.SetOf (strKind P w) s.heap.objs.size (seen xs xs.length) (unlike xs xs.length)) : Filled s P w xs s' := by
  obtain ⟨g, gg, d, tk, os⟩ := s'
  have e1 : gg = s.gens := mv.gens
  have e2 : d = s.drawn := mv.drawn
  have e3 : os = s.os := mv.os
  subst e1 e2 e3
  refine ⟨g, tk, rfl, hS, fun b ob hb eb => mv.heap b ob (fun z => ?_) (Heap.get?_push_of_some _ (Heap.get?_push_of_some _ eb))⟩
  rcases List.mem_cons.mp z with z | z
  · exact Nat.ne_of_lt hb z
  · have := hw _ z
    rw [e, Heap.size_push] at this
    exact Nat.ne_of_lt (Nat.lt_succ_of_lt hb) this
theorem set_list {l : Addr} {items : Array Value} {xs : List Str} {Q : Value → Shared → Prop} (hh : A.handled = none) (hl : s.heap.IsList l items) (ht : PyProof.Rows.StrsAre items.toList xs) (few : xs.length + 1 < scanBound)
    (h : ∀ z, Filled s P w xs z → Q (.ref s.heap.objs.size) z) : wpAny (model P w) A (call (.type "set") [.ref l]) Q E s := by
  refine set_of (fun led => ?_) h
  have size : xs.length = items.size := by rw [← PyProof.Rows.StrsAre.len_eq ht, Array.length_toList]
  have hl1 : (s.heap.push (bare led)).IsList l items := hl.push _
  have below : l < s.heap.objs.size := by obtain ⟨_, q, _⟩ := hl; exact Heap.lt_size q
  obtain ⟨f1, f2⟩ := far (o := bare led) below
  have k1 := F.sub_list_set
  have k2 := F.sub_list_frozenset
  have k3 : (Value.type "list" == Value.type "dict") = false := by decide
  obtain ⟨ol, ho, hc, nl, hd⟩ := id hl1
  obtain ⟨c1, c2, c3, c4⟩ := ol
  simp only at hc hd
  subst hc hd
  unfold Behind Builtin.«set.__init__» noKeywords Builtin.Frozenset.updateFrom
  generalize hPI : pyIter = PI
  wp_walk
  subst hPI
  refine wpAny_pyIter_list hl1 (wpAny_bind (wpAny_runValue ?_))
  have h3 : A.in1.in1.in1.handled = none := by simp [hh]
  refine fill (P := P) (w := w) (st := s.heap.objs.size) ((PySem.Walks.list (prog := P) (w := w) h3 (s.heap.push (bare led)).objs.size l f1 items).toS) f2 xs size
    (fun i v hv => strs_at ht (by rw [Array.getElem?_toList]; exact hv)) (by omega) items.size 0 _ (by omega) ⟨⟨_, Heap.get?_push_size _ rfl, rfl, rfl⟩, hl1.push _⟩ ?_ fun z mv hS => ?_
  · have g0 : (s.heap.push (bare led)).get? s.heap.objs.size = some (bare led) := Heap.get?_push_size _ rfl
    exact PyProof.Rows.SetOf_congr ((PyProof.Rows.setObjOf_fresh (knd := strKind P w) led).setOf (Heap.get?_push_of_some _ g0) (by unfold scanBound; omega)) (fun _ => rfl) rfl
  · rw [← size] at hS
    exact wpAny_pure (wpAny_pure ⟨rfl, filled rfl mv (fun x hx => List.mem_singleton.mp hx) hS⟩)
theorem set_tup {l : Addr} {items : Array Value} {xs : List Str} {Q : Value → Shared → Prop} (hh : A.handled = none) (hl : s.heap.IsTuple l items) (ht : PyProof.Rows.StrsAre items.toList xs) (few : xs.length + 1 < scanBound)
    (h : ∀ z, Filled s P w xs z → Q (.ref s.heap.objs.size) z) : wpAny (model P w) A (call (.type "set") [.ref l]) Q E s := by
  refine set_of (fun led => ?_) h
  have size : xs.length = items.size := by rw [← PyProof.Rows.StrsAre.len_eq ht, Array.length_toList]
  have hl1 : (s.heap.push (bare led)).IsTuple l items := hl.push _
  have below : l < s.heap.objs.size := by obtain ⟨_, q, _⟩ := hl; exact Heap.lt_size q
  obtain ⟨f1, f2⟩ := far (o := bare led) below
  have k1 := F.sub_tuple_set
  have k2 := F.sub_tuple_frozenset
  have k3 : (Value.type "tuple" == Value.type "dict") = false := by decide
  obtain ⟨ol, ho, hc, nl, hd⟩ := id hl1
  obtain ⟨c1, c2, c3, c4⟩ := ol
  simp only at hc hd
  subst hc hd
  unfold Behind Builtin.«set.__init__» noKeywords Builtin.Frozenset.updateFrom
  generalize hPI : pyIter = PI
  wp_walk
  subst hPI
  refine wpAny_pyIter_tuple hl1 (wpAny_bind (wpAny_runValue ?_))
  have h3 : A.in1.in1.in1.handled = none := by simp [hh]
  refine fill (P := P) (w := w) (st := s.heap.objs.size) ((PySem.Walks.tuple (prog := P) (w := w) h3 (s.heap.push (bare led)).objs.size l f1 items).toS) f2 xs size
    (fun i v hv => strs_at ht (by rw [Array.getElem?_toList]; exact hv)) (by omega) items.size 0 _ (by omega) ⟨⟨_, Heap.get?_push_size _ rfl, rfl, rfl⟩, hl1.push _⟩ ?_ fun z mv hS => ?_
  · have g0 : (s.heap.push (bare led)).get? s.heap.objs.size = some (bare led) := Heap.get?_push_size _ rfl
    exact PyProof.Rows.SetOf_congr ((PyProof.Rows.setObjOf_fresh (knd := strKind P w) led).setOf (Heap.get?_push_of_some _ g0) (by unfold scanBound; omega)) (fun _ => rfl) rfl
  · rw [← size] at hS
    exact wpAny_pure (wpAny_pure ⟨rfl, filled rfl mv (fun x hx => List.mem_singleton.mp hx) hS⟩)
end
end D3S
namespace D3
open PySem PySem.Spec PyProof.Rows L2
/-- the texts among data -/
def txts : List D → Option (List Str)
  | [] => some []
  | .v (.str z) :: ds => (txts ds).map (z :: ·)
  | _ => none
theorem txts_map {α : Type} (f : α → Str) (l : List α) : txts (l.map fun a => D.str (f a)) = some (l.map f) := by
  induction l with
  | nil => rfl
  | cons a l ih => simp only [List.map_cons, txts, ih, Option.map_some]
theorem txts_cons {d : D} {ds : List D} {xs : List Str} (h : txts (d :: ds) = some xs) : ∃ z ys, d = .str z ∧ txts ds = some ys ∧ xs = z :: ys := by
  rcases d with (_ | _ | _ | z | _ | _ | _ | _) | _ | _ | _ | _ | _
  case v.str =>
    simp only [txts] at h
    cases q : txts ds with
    | none => rw [q] at h; cases h
    | some ys =>
      rw [q] at h
      cases h
      exact ⟨_, ys, rfl, rfl, rfl⟩
  all_goals exact nomatch h
theorem isAll_txts {K : PySem.W.Frag} {I : Hp} {ds : List D} : ∀ {xs : List Str} {vs : List V}, txts ds = some xs → IsAll K I vs ds → vs = xs.map V.str := by
  induction ds with
  | nil => intro xs vs h al; cases al; cases h; rfl
  | cons d ds ih =>
    intro xs vs h al
    obtain ⟨z, ys, rfl, h2, rfl⟩ := txts_cons h
    cases al with
    | cons a r =>
      cases a
      rw [ih h2 r]
      rfl
def tLenSetG (K : PySem.W.Frag) (ta : TE) : TE := fun σ H Q => ta σ H fun x H1 => ∃ l, ∃ xs : List Str, x = .ref l ∧ (SqL K H1 l (xs.map V.str) ∨ SqT K H1 l (xs.map V.str)) ∧ xs.length + 1 < PySem.scanBound ∧ Q (.int (D3S.unlike xs xs.length)) H1
theorem pe_lenSetG {X : Cx} {a : Expr} {ta : TE} {p p2 q pos : Pos} (hc : X.calm = true) (hg : Gl X "len") (hm : X.mg "len" = none) (hg2 : Gl X "set") (hm2 : X.mg "set" = none) (ha : PE X a ta)
    (na : starEach [a] X.env = (false, eval a X.env) :: starEach [] X.env := by rfl) : PE X (.Call (.Name "len" p) [.Call (.Name "set" p2) [a] [] q] [] pos) (tLenSetG X.K ta) := by
  refine ⟨fun pins s σ H Q I h => Call_ (ld_blt I hg hm boot_len (PyProof.Rows.callWith_builtin1 (PyProof.Rows.args_cons ?_ rfl) rfl rfl))⟩
  refine Call_ (ld_blt I hg2 hm2 boot_set (PyProof.Rows.callWith_type1 (PyProof.Rows.args_cons (thn (ha.run pins s σ H _ I h) fun v s1 ⟨x, H1, I1, r1, q1⟩ => PyProof.Rows.args_nil ?_) na) na rfl))
  obtain ⟨l, xs, rfl, hq, few, q1⟩ := q1
  cases r1
  have fin : ∀ z, D3S.Filled s1 X.prog X.w xs z → wpAny (model X.prog X.w) X.A (spliced (backTo pos (starEach [] X.env))) (fun vs s₂ => wpAny (model X.prog X.w) X.A (call (.builtin "len") (Value.ref s1.heap.objs.size :: vs)) (EP X pins σ Q) X.xe s₂) X.xe z := fun z ⟨h', tk, e, hS, hk⟩ => by
    subst e
    obtain ⟨o, es, ep, t, ho, hex, hd, _, _, _, hf, hn⟩ := hS
    have I2 : Inv X pins σ H1 { s1 with heap := h', toks := tk } := I1.kept fun b o e => hk b o (Heap.lt_size e) e
    have le := D3S.unlike_le xs xs.length
    have le2 : scanBound < 2 ^ 60 := by unfold scanBound; decide
    exact PyProof.Rows.args_nil (call_len_set ho hex hd hf (by rw [hn]; omega) ⟨.int (D3S.unlike xs xs.length), H1, I2.tok _, ⟨_, by rw [hn]⟩, q1⟩)
  rcases hq with hq | hq
  · obtain ⟨its, r, pl, hz⟩ := I1.list hq
    exact D3S.set_list (I1.ok.hd hc) pl.isList (by simpa using strsAre_of r) few fin
  · obtain ⟨its, r, pl, hz⟩ := I1.tuple hq
    exact D3S.set_tup (I1.ok.hd hc) pl (by simpa using strsAre_of r) few fin
/-- len(set(d)) -/
def fLenSet (d : D) (Q : D → Prop) : Prop := match d with
  | .lst ds => ∃ xs, txts ds = some xs ∧ xs.length + 1 < PySem.scanBound ∧ Q (.int (D3S.unlike xs xs.length))
  | .tup ds => ∃ xs, txts ds = some xs ∧ xs.length + 1 < PySem.scanBound ∧ Q (.int (D3S.unlike xs xs.length))
  | _ => False
@[simp] theorem fLenSet_lst {ds : List D} {Q : D → Prop} : fLenSet (.lst ds) Q = ∃ xs, txts ds = some xs ∧ xs.length + 1 < PySem.scanBound ∧ Q (.int (D3S.unlike xs xs.length)) := rfl
@[simp] theorem fLenSet_tup {ds : List D} {Q : D → Prop} : fLenSet (.tup ds) Q = ∃ xs, txts ds = some xs ∧ xs.length + 1 < PySem.scanBound ∧ Q (.int (D3S.unlike xs xs.length)) := rfl
@[simp] def tdLenSet (t : TDE) : TDE := fun τ Q R => t τ (fun d => fLenSet d Q) R
section
variable {K : PySem.W.Frag} {W : Wd} {Wx : WX} {X : Cx} {e : Expr} {te : TE} {de : TDE} {p p2 q pos : Pos}
theorem de_lenset (hc : X.calm = true) (hm : X.mg "len" = none) (hm2 : X.mg "set" = none) (h : DE X K W Wx e te de) (hg : Gl X "len" := by rfl) (hg2 : Gl X "set" := by rfl) (na : starEach [e] X.env = (false, eval e X.env) :: starEach [] X.env := by rfl) :
    DE X K W Wx (.Call (.Name "len" p) [.Call (.Name "set" p2) [e] [] q] [] pos) (tLenSetG K te) (tdLenSet de) := by
  have hk := h.k; subst hk
  refine ⟨rfl, pe_lenSetG hc hg hm hg2 hm2 h.pe na, fun I H σ τ Q R G ok rp t hq hx => h.sim I H σ τ _ R _ ok rp t (fun v d I1 H1 q1 i1 l1 => ?_) hx⟩
  unfold fLenSet at q1
  split at q1
  · obtain ⟨xs, h1, h2, q2⟩ := q1
    obtain ⟨a, vs, rfl, sq, al⟩ := is_lst i1
    cases isAll_txts h1 al
    exact ⟨a, xs, rfl, .inl ((W.ex l1.ok).seq sq), h2, hq _ _ I1 H1 q2 (.v _) l1⟩
  · obtain ⟨xs, h1, h2, q2⟩ := q1
    obtain ⟨a, vs, rfl, sq, al⟩ := is_tup i1
    cases isAll_txts h1 al
    exact ⟨a, xs, rfl, .inr (Same.seqT (W.ex l1.ok) sq), h2, hq _ _ I1 H1 q2 (.v _) l1⟩
  · exact q1.elim
end
end D3
set_option Elab.async false
set_option linter.all false
set_option maxRecDepth 100000
set_option maxHeartbeats 4000000
namespace D3
open PySem PySem.Spec PyProof.Rows L2
section
variable {K : PySem.W.Frag} {W : Wd} {Wx : WX} {X : Cx} {a b e : Expr} {te : TE} {de : TDE} {p pos tpos : Pos} {tr : TA} {dr : TDA} {es : List Expr}
/-- divmod(a, b) -/
def fDivmod : FD := fun ds Q => match ds with
  | [.v (.int i), .v (.int j)] => CDiv i j ∧ Q (.tup [.int (i / j), .int (i % j)])
  | _ => False
@[simp] theorem fDivmod_int {i j : Int} {Q : D → Prop} : fDivmod [.v (.int i), .v (.int j)] Q = (CDiv i j ∧ Q (.tup [.int (i / j), .int (i % j)])) := rfl
/-- numbered -/
def nums (i : Nat) : List D → List D
  | [] => []
  | d :: ds => .tup [.int (i : Nat), d] :: nums (i + 1) ds
theorem nums_at : ∀ {ds : List D} {k i : Nat} {d : D}, ds[i]? = some d → (nums k ds)[i]? = some (.tup [.int ((k + i : Nat) : Int), d])
  | d :: ds, k, 0, _, h => by cases h; rfl
  | d :: ds, k, i + 1, _, h => by
    have := nums_at (ds := ds) (k := k + 1) (i := i) (by simpa using h)
    have e : k + 1 + i = k + (i + 1) := by omega
    rw [e] at this
    simpa [nums] using this
@[simp] theorem nums_len : ∀ {ds : List D} {k : Nat}, (nums k ds).length = ds.length
  | [], _ => rfl
  | d :: ds, k => by simp [nums, nums_len]
theorem mem_nums {ds : List D} {k : Nat} {x : D} (h : x ∈ nums k ds) : ∃ i d, ds[i]? = some d ∧ x = .tup [.int ((k + i : Nat) : Int), d] := by
  obtain ⟨i, hi, rfl⟩ := List.getElem_of_mem h
  have hi' : i < ds.length := by simpa using hi
  refine ⟨i, ds[i], List.getElem?_eq_getElem hi', ?_⟩
  have := nums_at (k := k) (List.getElem?_eq_getElem hi')
  rw [List.getElem?_eq_getElem hi] at this
  exact Option.some.inj this
end
end D3
set_option Elab.async false
set_option linter.all false
set_option maxRecDepth 100000
set_option maxHeartbeats 4000000
namespace D3
open PySem L2
end D3
set_option Elab.async false
set_option linter.all false
set_option maxRecDepth 100000
set_option maxHeartbeats 4000000
namespace D3
open PySem PySem.Spec PyProof.Rows L2
def keySh : Key → Bool
  | .inl i => decide (i.natAbs.log2 < 1920)
  | .inr _ => true
mutual
/-- data that may be shown -/
def shOk : D → Bool
  | .v .non => true
  | .v (.bl _) => true
  | .v (.int i) => decide (i.natAbs.log2 < 1920)
  | .v (.str _) => true
  | .lst ds => shOks ds
  | .tup ds => shOks ds
  | .dt _ gs => shTv gs
  | .dic gs => shKv gs
  | _ => false
def shOks : List D → Bool
  | [] => true
  | d :: ds => shOk d && shOks ds
def shKv : List (Key × D) → Bool
  | [] => true
  | (.inl i, d) :: ds => decide (i.natAbs.log2 < 1920) && (shOk d && shKv ds)
  | (.inr _, d) :: ds => shOk d && shKv ds
def shTv : List (List Key × D) → Bool
  | [] => true
  | (k, d) :: ds => k.all keySh && (shOk d && shTv ds)
end
section
variable {X : Cx} {pins : List (Addr × Obj)} {σ : L2.St} {H J : Hp} {s : Shared}
abbrev Sh (X : Cx) (s : Shared) (u : Value) (d : PyData) : Prop := ∃ as bs, Reads s.heap u d as ∧ ReadAtMost s.heap d.depth bs ∧ ReprK X.prog X.w bs s.heap d.depth u d.shown
abbrev Shs (X : Cx) (s : Shared) (us : List Value) (ds : List PyData) : Prop := ∃ as bs, ReadsAll s.heap us ds as ∧ ReadAtMost s.heap (PyData.depthAll ds) bs ∧ ReprAllK X.prog X.w bs s.heap (PyData.depthAll ds) us (PyData.shownAll ds)
theorem Shs.cons {u : Value} {us : List Value} {d : PyData} {ds : List PyData} (h : Sh X s u d) (hs : Shs X s us ds) : Shs X s (u :: us) (d :: ds) := by
  obtain ⟨as, bs, r, b, k⟩ := h
  obtain ⟨as2, bs2, r2, b2, k2⟩ := hs
  refine ⟨_, bs ++ bs2, .cons r r2, ReadAtMost.append (b.mono ?_) (b2.mono ?_), ?_⟩
  · simp only [PyData.depthAll]; exact Nat.le_max_left _ _
  · simp only [PyData.depthAll]; exact Nat.le_max_right _ _
  · simp only [PyData.depthAll, PyData.shownAll]
    exact .cons ((k.more fun x hx => List.mem_append_left _ hx).level_le (Nat.le_max_left _ _)) (k2.more_le (fun x hx => List.mem_append_right _ hx) (Nat.le_max_right _ _))
/-- a list, from its items -/
theorem Sh.list {a : Addr} {o : Obj} {its : List Value} {n : Nat} {ds : List PyData} (h1 : s.heap.get? a = some o) (h2 : o.cls = .type "list") (h3 : o.data = .seq its.toArray n) (h : Shs X s its ds) : Sh X s (.ref a) (.list ds) := by
  obtain ⟨as, bs, r, b, k⟩ := h
  have R : Reads s.heap (.ref a) (.list ds) _ := .list h1 h2 h3 (by simpa using r)
  have na : a ∉ bs := not_mem_of_deeper R (by simp only [PyData.depth]; omega) b
  refine ⟨_, a :: bs, R, ReadAtMost.cons R (by simp only [PyData.depth]; omega) b, ?_⟩
  simp only [PyData.depth, PyData.shown]
  cases its with
  | nil =>
    cases r
    simp only [PyData.shownAll, listText_nil]
    exact ReprK.listEmpty h1 h2 h3
  | cons x l => exact ReprK.list h1 h2 h3 na (by simpa using k.length_eq) fun i y e => k.item i y (by simpa using e)
theorem Sh.tuple {a : Addr} {o : Obj} {its : List Value} {n : Nat} {ds : List PyData} (h1 : s.heap.get? a = some o) (h2 : o.cls = .type "tuple") (h3 : o.data = .seq its.toArray n) (h : Shs X s its ds) : Sh X s (.ref a) (.tuple ds) := by
  obtain ⟨as, bs, r, b, k⟩ := h
  have R : Reads s.heap (.ref a) (.tuple ds) _ := .tuple h1 h2 h3 (by simpa using r)
  have na : a ∉ bs := not_mem_of_deeper R (by simp only [PyData.depth]; omega) b
  refine ⟨_, a :: bs, R, ReadAtMost.cons R (by simp only [PyData.depth]; omega) b, ?_⟩
  simp only [PyData.depth, PyData.shown]
  exact ReprK.tuple h1 h2 h3 na (by simpa using k)
theorem Sh.dict {a : Addr} {o : Obj} {es : Array DictEntry} {n : Nat} {kvs : List (PyData × PyData)} (h1 : s.heap.get? a = some o) (h2 : o.cls = .type "dict") (h3 : o.data = .dict es n) (hm : (a == sysModules) = false)
    (hk : Shs X s (es.toList.map (·.key)) (kvs.map (·.1))) (hv : Shs X s (es.toList.map (·.val)) (kvs.map (·.2))) : Sh X s (.ref a) (.dict kvs) := by
  obtain ⟨as, bs, r, b, k⟩ := hk
  obtain ⟨as2, bs2, r2, b2, k2⟩ := hv
  have R : Reads s.heap (.ref a) (.dict kvs) _ := .dict h1 h2 h3 r r2
  have B : ReadAtMost s.heap (PyData.depthKv kvs) (bs ++ bs2) := (b.mono (PyData.depthAll_keys_le kvs)).append (b2.mono (PyData.depthAll_vals_le kvs))
  have na : a ∉ bs ++ bs2 := not_mem_of_deeper R (by simp only [PyData.depth]; omega) B
  refine ⟨_, a :: (bs ++ bs2), R, ReadAtMost.cons R (by simp only [PyData.depth]; omega) B, ?_⟩
  simp only [PyData.depth, PyData.shown, PyData.shownKv_eq]
  exact ReprK.dict h1 h2 h3 hm na (ReprEntriesK.of_two es.toList _ _ (k.more_le (fun x hx => List.mem_append_left _ hx) (PyData.depthAll_keys_le kvs)) (k2.more_le (fun x hx => List.mem_append_right _ hx) (PyData.depthAll_vals_le kvs)))
end
/-- such as may be shown -/
def reprOk (d : D) : Prop := shOk d = true ∧ (toPy d).depth ≤ 150 ∧ (toPy d).shown.length ≤ sizeLine
def reprD (d : D) : Str := (toPy d).shown
@[simp] def tdRepr (t : TDE) : TDE := fun τ Q R => t τ (fun d => reprOk d ∧ Q (.str (reprD d))) R
end D3
set_option Elab.async false
set_option linter.all false
set_option maxRecDepth 100000
set_option maxHeartbeats 4000000
namespace D3
open PySem PySem.Spec PyProof.Rows L2
section
variable {K : PySem.W.Frag} {W : Wd} {Wx : WX} {X : Cx} {a b e : Expr} {ta tb te : TE} {da db de : TDE} {p pos : Pos} {tr : TA} {dr : TDA} {es : List Expr}
@[simp] def tdCat (t u : TDE) : TDO := fun τ Q R => t τ (fun x => u τ (fun y => match x, y with | .lst ds, .lst es => ds.length + es.length ≤ sizeLine ∧ Q (ds ++ es) | _, _ => False) R) R
theorem do_cat (ha : DE X K W Wx a ta da) (hb : DE X K W Wx b tb db) : DO X K W Wx (.BinOp a .Add b pos) (tOp rCat ta tb) (tdCat da db) := by
  have hk := ha.k; subst hk
  refine ⟨rfl, pe_op op_cat ha.pe hb.pe, fun I H σ τ Q R G ok rp t hq hx => ha.sim I H σ τ _ R _ ok rp t (fun x dx I1 H1 q1 i1 l1 => hb.sim I1 H1 σ τ _ R _ l1.ok (rp.later l1) q1 (fun y dy I2 H2 q2 i2 l2 => ?_) (hx.later l1)) hx⟩
  split at q2
  · obtain ⟨l, xs, rfl, h1, r1⟩ := is_lstM i1
    obtain ⟨m, ys, rfl, h2, r2⟩ := is_lstM i2
    refine ⟨l, m, xs, ys, rfl, rfl, W.ex l2.ok _ _ (l2.ex _ _ h1), W.ex l2.ok _ _ h2, by rw [r1.length, r2.length]; exact q2.1, fun p hp => ?_⟩
    exact hq p (xs ++ ys) _ I2 _ q2.2 (Later.back' (l1.trans l2) hp) upd_same (Same.non (W.ex l2.ok) hp) ((r1.mono l2.ex).append r2) ((l1.trans l2).trans (Later.allocO l2.ok hp))
  · exact q2.elim
@[simp] def tdLmul (t u : TDE) : TDO := fun τ Q R => t τ (fun x => u τ (fun y => match x, y with | .lst ds, .v (.int k) => (-(2 ^ 63) ≤ k ∧ k < 2 ^ 63) ∧ ds.length * k.toNat ≤ sizeLine ∧ Q (List.replicate k.toNat ds).flatten | _, _ => False) R) R
def fInt : FD := fun ds Q => match ds with
  | [.v (.int i)] => Q (.int i)
  | [.v (.bl b)] => Q (.int (if b then 1 else 0))
  | _ => False
@[simp] theorem fInt_int {i : Int} {Q : D → Prop} : fInt [.v (.int i)] Q = Q (.int i) := rfl
@[simp] theorem fInt_bl {b : Bool} {Q : D → Prop} : fInt [.v (.bl b)] Q = Q (.int (if b then 1 else 0)) := rfl
theorem CallSim.int : CallSim K W (fun xs H Q => (∃ i, xs = [.int i] ∧ Q (.int i) H) ∨ ∃ k, xs = [.bl k] ∧ Q (.int (if k then 1 else 0)) H) fInt := fun I H vs ds Q G ok al q hq => by
  unfold fInt at q
  split at q
  · obtain ⟨v, rfl, h⟩ := isAll1 al
    cases h
    exact .inl ⟨_, rfl, hq _ _ I H q (.v _) (Later.refl ok)⟩
  · obtain ⟨v, rfl, h⟩ := isAll1 al
    cases h
    exact .inr ⟨_, rfl, hq _ _ I H q (.v _) (Later.refl ok)⟩
  · exact q.elim
theorem de_toint (hm : X.mg "int" = none) (ha : DA X K W Wx [a] tr dr) (hg : Gl X "int" := by rfl) (he : starEach [a] X.env = (false, eval a X.env) :: starEach [] X.env := by rfl) :
    DE X K W Wx (.Call (.Name "int" p) [a] [] pos) (tCB (fun xs H Q => (∃ i, xs = [.int i] ∧ Q (.int i) H) ∨ ∃ k, xs = [.bl k] ∧ Q (.int (if k then 1 else 0)) H) tr) (tdCB fInt dr) :=
  de_cty call_int1 .int hg hm (by rfl) ha (by decide) (by decide) he rfl
theorem de_tuple (hm : X.mg "tuple" = none) (ha : DA X K W Wx [a] tr dr) (hg : Gl X "tuple" := by rfl) (he : starEach [a] X.env = (false, eval a X.env) :: starEach [] X.env := by rfl) :
    DE X K W Wx (.Call (.Name "tuple" p) [a] [] pos) (tCB (rTupleN K) tr) (tdCB fTuple dr) := by
  have hk := ha.k; subst hk
  exact de_cty call_tuple_ofN .tuple hg hm (by rfl) ha (by decide) (by decide) he rfl
@[simp] def tdDict1 (t u : TDE) : TDE := fun τ Q R => t τ (fun x => u τ (fun y => match x with | .v (.str z) => Q (.dic [(.inr z, y)]) | _ => False) R) R
def repS (z : Str) (n : Nat) : Str := ⟨((List.replicate n z.cps.toList).flatten).toArray⟩
@[simp] theorem repS_mk (l : List Nat) (n : Nat) : repS (mk l) n = mk (List.replicate n l).flatten := by unfold repS; simp [mk]
def fSmul : TD2 := fun x y Q => match x, y with
  | .v (.str z), .v (.int n) => (-(2 ^ 62) ≤ n ∧ n < 2 ^ 62) ∧ z.length * n.toNat ≤ 16777216 ∧ Q (.str (repS z n.toNat))
  | _, _ => False
@[simp] theorem fSmul_str {z : Str} {n : Int} {Q : D → Prop} : fSmul (.v (.str z)) (.v (.int n)) Q = ((-(2 ^ 62) ≤ n ∧ n < 2 ^ 62) ∧ z.length * n.toNat ≤ 16777216 ∧ Q (.str (repS z n.toNat))) := rfl
end
end D3
set_option Elab.async false
set_option linter.all false
set_option maxRecDepth 100000
set_option maxHeartbeats 4000000
namespace D3
open PySem PySem.Spec PyProof.Rows L2
section
variable {K : PySem.W.Frag} {W : Wd} {Wx : WX} {X : Cx} {a b e : Expr} {ta tb te : TE} {da db de : TDE} {p pos : Pos}
/-- x[j] = e, e flat, one's own lists are read in it -/
@[simp] def tdSetIF (i : Nat) (t u : TDE) : TDS := fun τ E => ∃ ds, τ[i]? = some (some (.own ds)) ∧ t (frz τ) (fun d => flatD d ∧ u τ (fun k => onI k fun k => ∃ j, ixN ds.length k = some j ∧ E.nx (τ.set i (some (.own (ds.set j d))))) (fun x => E.ex x τ)) (fun x => E.ex x (frz τ))
def fListS : List D → (List D → Prop) → Prop := fun ds Q => match ds with
  | [.v (.str z)] => z.length ≤ sizeLine ∧ Q (signs z)
  | _ => False
@[simp] theorem fListS_str {z : Str} {Q : List D → Prop} : fListS [.v (.str z)] Q = (z.length ≤ sizeLine ∧ Q (signs z)) := rfl
theorem isAll_signs {I : Hp} : ∀ l : List Nat, IsAll K I (l.map fun c => V.str ⟨#[c]⟩) (l.map fun c => D.str ⟨#[c]⟩)
  | [] => .nil
  | _ :: l => .cons (.v _) (isAll_signs l)
end
end D3
set_option Elab.async false
set_option linter.all false
set_option maxRecDepth 100000
set_option maxHeartbeats 4000000
namespace D3
open PySem PySem.Spec PyProof.Rows L2
section
variable {K : PySem.W.Frag} {W : Wd} {Wx : WX} {X : Cx} {a b e : Expr} {es : List Expr} {ta tb te : TE} {da db de : TDE} {dO : TDO} {tr : TA} {dr : TDA} {p pos : Pos}
theorem SimO.x (h : SimO K W Wx te dO) : SimX K W Wx te (fun τ Q R => dO τ (fun ds => Q (.own ds)) R) := fun I H σ τ Q R G ok rp t hq hx =>
  h I H σ τ _ R G ok rp t (fun p vs ds I1 H1 q1 hp hp1 hi al l1 => hq _ (.own ds) I1 H1 q1 ⟨p, vs, rfl, hp1, hi, W.fr ok hp, al⟩ (fun a o => by cases o; exact hp) l1) hx
theorem SimE.x (h : SimE K W Wx te de) : SimX K W Wx te (fun τ Q R => de τ (fun d => Q (.dat d)) R) := fun I H σ τ Q R G ok rp t hq hx =>
  h I H σ τ _ R G ok rp t (fun v d I1 H1 q1 i1 l1 => hq _ (.dat d) I1 H1 q1 i1 (fun a o => o.elim) l1) hx
/-- as data -/
def sdD : SD → D
  | .dat d => d
  | .own ds => .lst ds
  | .obj _ C fs => .ins C fs
  | .tupo _ pre ds post => .tup (pre ++ .lst ds :: post)
  | .dk gs => .dic gs
  | .dt g gs => .dt g gs
  | .wd _ pre k post g gs => .dic (pre ++ (k, .dt g gs) :: post)
  | .kl gs => .dic (klD gs)
@[simp] theorem sdD_dt {g : PGw} {gs : List (List Key × D)} : sdD (.dt g gs) = .dt g gs := rfl
@[simp] theorem sdD_wd {q : Addr} {pre post : List (Key × D)} {k : Key} {g : PGw} {gs : List (List Key × D)} : sdD (.wd q pre k post g gs) = .dic (pre ++ (k, .dt g gs) :: post) := rfl
@[simp] theorem sdD_dk {gs : List (Key × D)} : sdD (.dk gs) = .dic gs := rfl
@[simp] theorem sdD_dat {d : D} : sdD (.dat d) = d := rfl
@[simp] theorem sdD_own {ds : List D} : sdD (.own ds) = .lst ds := rfl
@[simp] theorem sdD_tupo {p : Addr} {pre ds post : List D} : sdD (.tupo p pre ds post) = .tup (pre ++ .lst ds :: post) := rfl
@[simp] theorem sdD_obj {p C : Addr} {fs : List (Str × D)} : sdD (.obj p C fs) = .ins C fs := rfl
theorem SimX.dat {dX : TDX} (h : SimX K W Wx te dX) : SimE K W Wx te (fun τ Q R => dX τ (fun s => Q (sdD s)) R) := fun I H σ τ Q R G ok rp t hq hx =>
  h I H σ τ _ R G ok rp t (fun v s I' H' q ha hn l => by
    cases s with
    | dat d => exact hq v d I' H' q ha l
    | own es =>
      obtain ⟨p, ws, rfl, hp, hi, hf, al⟩ := ha
      exact hq _ _ (upd I' p (.lst ws)) H' q (.lst upd_same (al.mono (Same.new hi))) (Later.freeze ok l hi (hn p rfl) hp)
    | obj p C fs =>
      obtain ⟨dx, ws, rfl, hp, hi, hf, al⟩ := ha
      exact hq _ _ (upd I' p (.ins C dx ws)) H' q (.ins upd_same (al.mono (Same.new hi))) (Later.freeze ok l hi (hn p rfl) hp)
    | tupo p pre es post =>
      obtain ⟨t, us, zs, ws, rfl, st, h1, h2, hp, hi, hf, al⟩ := ha
      have sm := Same.new (o := .lst ws) hi
      exact hq _ _ (upd I' p (.lst ws)) H' q (.tup (Same.seqN sm st) ((h1.mono sm).append (.cons (.lst upd_same (al.mono sm)) (h2.mono sm)))) (Later.freeze ok l hi (hn p rfl) hp)
    | dk gs =>
      obtain ⟨p, ws, rfl, hp, hi, hf, al⟩ := ha
      exact hq _ _ (upd I' p (.dK ws)) H' q (.dic upd_same (IsKv.mono (Same.new hi) al)) (Later.freeze ok l hi (hn p rfl) hp)
    | dt g gs =>
      obtain ⟨p, ob, us, rfl, hp, hi, hf, y, o, al⟩ := ha
      exact hq _ _ (upd I' p (pinO p ob)) H' q (.dt upd_same y o (IsT.mono (Same.new hi) al)) (Later.freeze ok l hi (hn p rfl) hp)
    | kl gs =>
      obtain ⟨_, i, l2⟩ := At.klFrz ok ha hn l
      exact hq _ _ _ H' q i l2
    | wd qq pre k post g gs =>
      obtain ⟨_, i, l2⟩ := At.wdFrz ok ha hn l
      exact hq _ _ _ H' q i l2) hx
theorem DX.dat {dX : TDX} (h : DX X K W Wx e te dX) : DE X K W Wx e te (fun τ Q R => dX τ (fun s => Q (sdD s)) R) := by
  have hk := h.k; subst hk
  exact ⟨rfl, h.pe, h.sim.dat⟩
/-- arguments of which one is a new list -/
abbrev TDAX := Tau → (List D → List D → List D → Prop) → (Exc → Prop) → Prop
def SimAX (K : PySem.W.Frag) (W : Wd) (Wx : WX) (tr : TA) (t : TDAX) : Prop := ∀ (I H : Hp) (σ : L2.St) (τ : Tau) (Q : List D → List D → List D → Prop) (R : Exc → Prop) (G : List V → Hp → Prop), W.ok I H → Rep K W I H σ τ → t τ Q R →
  (∀ us ws p vs pre ds post I' H', Q pre ds post → H p = none → H' p = some (.lst vs) → I' p = none → IsAll K I' us pre → IsAll K I' vs ds → IsAll K I' ws post → Later W I H I' H' → G (us ++ .ref p :: ws) H') → XOk K W Wx R I H σ → tr σ H G
@[simp] def tdaOwn (t : TDO) (u : TDA) : TDAX := fun τ Q R => t τ (fun ds => u τ (fun post => Q [] ds post) R) R
@[simp] def tdaCons (t : TDE) (u : TDAX) : TDAX := fun τ Q R => t τ (fun d => u τ (fun pre ds post => Q (d :: pre) ds post) R) R
theorem Later.keepN {I H I' H' : Hp} {p : Addr} {u : HO} (l : Later W I H I' H') (hp : H p = some u) (hf : W.free p) (hi : I p = none) : H' p = some u ∧ I' p = none := by
  refine ⟨l.fr p u hf (fun z => z) hp, ?_⟩
  cases q : I' p with
  | none => rfl
  | some o =>
    rcases l.nw p hi (by rw [q]; intro z; cases z) with z | z
    · rw [hp] at z; cases z
    · exact z.elim
theorem SimAX.own (h : SimO K W Wx te dO) (hr : SimA K W Wx tr dr) : SimAX K W Wx (tCons te tr) (tdaOwn dO dr) := fun I H σ τ Q R G ok rp t hq hx =>
  h I H σ τ _ R _ ok rp t (fun p vs ds I1 H1 q1 hp hp1 hi al l1 => hr I1 H1 σ τ _ R _ l1.ok (rp.later l1) q1 (fun ws post I2 H2 q2 i2 l2 => by
    obtain ⟨h2, n2⟩ := l2.keepN hp1 (W.fr ok hp) hi
    exact hq [] ws p vs [] ds post I2 H2 q2 hp h2 n2 .nil (al.mono l2.ex) i2 (l1.trans l2)) (hx.later l1)) hx
theorem SimAX.cons {dX : TDAX} (h : SimE K W Wx te de) (hr : SimAX K W Wx tr dX) : SimAX K W Wx (tCons te tr) (tdaCons de dX) := fun I H σ τ Q R G ok rp t hq hx =>
  h I H σ τ _ R _ ok rp t (fun v d I1 H1 q1 i1 l1 => hr I1 H1 σ τ _ R _ l1.ok (rp.later l1) q1 (fun us ws p vs pre ds post I2 H2 q2 hp hp2 n2 a1 a2 a3 l2 =>
    hq (v :: us) ws p vs (d :: pre) ds post I2 H2 q2 (Later.back' l1 hp) hp2 n2 (.cons (i1.mono l2.ex) a1) a2 a3 (l1.trans l2)) (hx.later l1)) hx
@[simp] def tdTupX (u : TDAX) : TDX := fun τ Q R => u τ (fun pre ds post => pre.length + post.length + 1 ≤ sizeLine ∧ ∀ p, Q (.tupo p pre ds post)) R
theorem SimX.tup {dX : TDAX} (h : SimAX K W Wx tr dX) : SimX K W Wx (tTupN tr) (tdTupX dX) := fun I H σ τ Q R G ok rp t hq hx =>
  h I H σ τ _ R _ ok rp t (fun us ws p vs pre ds post I1 H1 q1 hp hp1 n1 a1 a2 a3 l1 => ⟨by
      have h1 := a1.length
      have h2 := a3.length
      have := q1.1
      rw [List.length_append, List.length_cons]; omega, fun t o ht hd => by
    have sm := Same.new (o := .frz o (.tup (us ++ .ref p :: ws))) (Same.non (W.ex l1.ok) ht)
    have pt : p ≠ t := ne_of_none hp1 ht
    exact hq _ _ (upd I1 t (.frz o (.tup (us ++ .ref p :: ws)))) _ (q1.2 p) ⟨t, us, ws, vs, rfl, SqN.of upd_same hd, a1.mono sm, a3.mono sm, (upd_ne pt).trans hp1, (upd_ne pt).trans n1, W.fr ok hp, a2.mono sm⟩ (fun a o => by cases o; exact hp) (l1.trans (Later.alloc l1.ok ht))⟩) hx
def SimAV (K : PySem.W.Frag) (W : Wd) (Wx : WX) (i : Nat) (tr : TA) (t : TDA) : Prop := ∀ (I H : Hp) (σ : L2.St) (τ : Tau) (Q : List D → Prop) (R : Exc → Prop) (G : List V → Hp → Prop), W.ok I H → Rep K W I H σ τ → t τ Q R →
  (∀ us ds v I' H', Q ds → IsAll K I' us ds → σ[i]? = some (some v) → Later W I H I' H' → G (us ++ [v]) H') → XOk K W Wx R I H σ → tr σ H G
@[simp] def tdvNil (i : Nat) : TDA := fun τ Q _ => (∃ s, τ[i]? = some (some s)) ∧ Q []
theorem SimAV.cons {i : Nat} (h : SimE K W Wx te de) (hr : SimAV K W Wx i tr dr) : SimAV K W Wx i (tCons te tr) (tdCons de dr) := fun I H σ τ Q R G ok rp t hq hx =>
  h I H σ τ _ R _ ok rp t (fun v d I1 H1 q1 i1 l1 => hr I1 H1 σ τ _ R _ l1.ok (rp.later l1) q1 (fun us ds w I2 H2 q2 a2 h2 l2 =>
    hq (v :: us) (d :: ds) w I2 H2 q2 (.cons (i1.mono l2.ex) a2) h2 (l1.trans l2)) (hx.later l1)) hx
@[simp] def tdRetTV (i : Nat) (u : TDA) : TDS := fun τ E => ∃ es, τ[i]? = some (some (.own es)) ∧ u (frz τ) (fun ds => (∀ d ∈ ds, flatD d) ∧ ds.length + 1 ≤ sizeLine ∧ ∀ p, E.rt (.tupo p ds es [])) (fun x => E.ex x (frz τ))
@[simp] def tdAppT (i : Nat) (k : Int) (t : TDE) : TDS := fun τ E => ∃ p pre ds post, τ[i]? = some (some (.tupo p pre ds post)) ∧ k = pre.length ∧ ds.length < sizeLine ∧ t τ (fun d => E.nx (τ.set i (some (.tupo p pre (ds ++ [d]) post)))) (fun x => E.ex x τ)
end
end D3
set_option Elab.async false
set_option linter.all false
set_option maxRecDepth 100000
set_option maxHeartbeats 4000000
namespace D3
open PySem L2
def Sz (n k : Nat) (d : D) : Prop := shOk d = true ∧ (toPy d).depth ≤ k ∧ (toPy d).shown.length ≤ n
theorem Sz.mono {n k n' k' : Nat} {d : D} (h : Sz n k d) (hn : n ≤ n') (hk : k ≤ k') : Sz n' k' d := ⟨h.1, Nat.le_trans h.2.1 hk, Nat.le_trans h.2.2 hn⟩
theorem szs {n k : Nat} : ∀ {ds : List D}, (∀ d ∈ ds, Sz n k d) → shOks ds = true ∧ PyData.depthAll (toPys ds) ≤ k ∧ (∀ t ∈ PyData.shownAll (toPys ds), t.length ≤ n) ∧ (PyData.shownAll (toPys ds)).length = ds.length
  | [], _ => ⟨by simp [shOks], by simp [toPys, PyData.depthAll], by simp [toPys, PyData.shownAll], by simp [toPys, PyData.shownAll]⟩
  | d :: ds, h => by
    obtain ⟨a, b, c⟩ := h d List.mem_cons_self
    obtain ⟨a', b', c', l⟩ := szs (ds := ds) fun x hx => h x (List.mem_cons_of_mem _ hx)
    refine ⟨by simp [shOks, a, a'], ?_, ?_, by simp [toPys, PyData.shownAll, l]⟩
    · simp only [toPys, PyData.depthAll]
      exact Nat.max_le.mpr ⟨b, b'⟩
    · simp only [toPys, PyData.shownAll, List.mem_cons, forall_eq_or_imp]
      exact ⟨c, c'⟩
theorem piled_le {n : Nat} : ∀ {ts : List Str}, (∀ t ∈ ts, t.length ≤ n) → piled ts ≤ ts.length * (n + 2)
  | [], _ => by simp [piled]
  | t :: ts, h => by
    have h1 := h t List.mem_cons_self
    have h2 := piled_le (ts := ts) fun x hx => h x (List.mem_cons_of_mem _ hx)
    have e : piled (t :: ts) = t.length + 2 + piled ts := by simp [piled]
    rw [e, List.length_cons, Nat.succ_mul]
    omega
theorem listText_le {n : Nat} {ts : List Str} (h : ∀ t ∈ ts, t.length ≤ n) : (listText ts).length ≤ ts.length * (n + 2) + 2 := by
  have e : (listText ts).length = (textFrom 0 "[" ts).length + 1 := by
    show (textFrom 0 "[" ts ++ "]").length = _
    rw [strLen_append]; rfl
  rw [e]
  cases ts with
  | nil => show (1 : Nat) + 1 ≤ _; omega
  | cons t ts =>
    show (textFrom 1 (("[" : Str) ++ ("" : String) ++ t) ts).length + 1 ≤ _
    rw [textFrom_length_pos _ _ _ (by decide), strLen_append, strLen_append]
    have h1 := h t List.mem_cons_self
    have h2 := piled_le (ts := ts) fun x hx => h x (List.mem_cons_of_mem _ hx)
    have e1 : ("[" : Str).length = 1 := rfl
    have e2 : (("" : String) : Str).length = 0 := rfl
    rw [List.length_cons, Nat.succ_mul]
    omega
theorem join_le {n : Nat} {ts : List Str} (h : ∀ t ∈ ts, t.length ≤ n) : (Str.join ", " ts).length ≤ ts.length * (n + 2) := by
  cases ts with
  | nil => exact Nat.zero_le _
  | cons t ts =>
    have := join_length_add (t :: ts) (by simp)
    have h2 := piled_le h
    omega
theorem tupleText_le {n : Nat} {ts : List Str} (h : ∀ t ∈ ts, t.length ≤ n) : (tupleText ts).length ≤ ts.length * (n + 2) + 3 := by
  unfold tupleText
  rw [strLen_append, strLen_append]
  have := join_le h
  have e1 : ("(" : Str).length = 1 := rfl
  split
  · have e2 : ((",)" : String) : Str).length = 2 := rfl
    omega
  · have e2 : ((")" : String) : Str).length = 1 := rfl
    omega
theorem Sz.lst {n k m : Nat} {ds : List D} (h : ∀ d ∈ ds, Sz n k d) (hm : ds.length ≤ m) : Sz (m * (n + 2) + 2) (k + 1) (.lst ds) := by
  obtain ⟨a, b, c, l⟩ := szs h
  refine ⟨by simp [shOk, a], by simp only [toPy, PyData.depth]; omega, ?_⟩
  simp only [toPy, PyData.shown]
  have := listText_le c
  rw [l] at this
  have := Nat.mul_le_mul_right (n + 2) hm
  omega
theorem Sz.tup {n k m : Nat} {ds : List D} (h : ∀ d ∈ ds, Sz n k d) (hm : ds.length ≤ m) : Sz (m * (n + 2) + 3) (k + 1) (.tup ds) := by
  obtain ⟨a, b, c, l⟩ := szs h
  refine ⟨by simp [shOk, a], by simp only [toPy, PyData.depth]; omega, ?_⟩
  simp only [toPy, PyData.shown]
  have := tupleText_le c
  rw [l] at this
  have := Nat.mul_le_mul_right (n + 2) hm
  omega
theorem Sz.str {l : List Nat} (h : ∀ c ∈ l, c < 0x110000) : Sz (10 * l.length + 2) 1 (sD l) := by
  refine ⟨by simp [shOk], by simp [toPy, PyData.depth], ?_⟩
  simp only [toPy, PyData.shown]
  have := StrLaws.reprText_len (mk l) fun c hc => Nat.lt_trans (h c (by simpa using hc)) (by decide)
  simpa using this
theorem Sz.non : Sz 4 1 (.v .non) := ⟨by simp [shOk], by simp [toPy, PyData.depth], by simp only [toPy, PyData.shown]; decide +kernel⟩
theorem Sz.bl {b : Bool} : Sz 5 1 (.bl b) := ⟨by simp [shOk], by simp [toPy, PyData.depth], by simp only [toPy, PyData.shown]; cases b <;> decide +kernel⟩
end D3
set_option Elab.async false
set_option linter.all false
set_option maxRecDepth 100000
set_option maxHeartbeats 4000000
namespace D3
open PySem PySem.Spec PyProof.Rows L2
inductive Kd where
  | s | l | t
def signsV (z : Str) : List V := z.cps.toList.map fun c => V.str ⟨#[c]⟩
def Src (K : PySem.W.Frag) (v : V) (xs : List V) (H : Hp) : Kd → Prop
  | .s => ∃ z, v = .str z ∧ xs = signsV z
  | .l => ∃ a, v = .ref a ∧ SqL K H a xs
  | .t => ∃ a, v = .ref a ∧ SqT K H a xs
def ISt (u : Value) (it : Addr) (h : Heap) (i : Nat) : Kd → Prop
  | .s => ∃ x t, u = .str x t ∧ h.IsStrIter it (strIterType x) x t i
  | .l => ∃ a, u = .ref a ∧ a ≠ it ∧ h.IsListIter it a i
  | .t => ∃ a, u = .ref a ∧ a ≠ it ∧ h.IsTupleIter it a i
def fpOf (u : Value) : List Addr := match u with
  | .ref a => [a]
  | _ => []
theorem drawsOf {X : Cx} {pins : List (Addr × Obj)} {s : Shared} {σ : L2.St} {H : Hp} {A : Around} (I : L2.Inv X pins σ H s) (hh : A.handled = none) {k : Kd} {v : V} {u : Value} {xs : List V} {it : Addr} {i : Nat} (hs : Src X.K v xs H k) (r : L2.RelV v u) (st : ISt u it s.heap i k) :
    ∃ (P : Nat → Value → Prop) (St : Nat → Heap → Prop), Draws X.prog X.w A it (it :: fpOf u) xs.length P St ∧ St i s.heap ∧ (∀ j x, P j x → ∃ y, xs[j]? = some y ∧ L2.RelV y x) ∧ (∀ j h, St j h → ISt u it h j k) := by
  cases k with
  | s =>
    obtain ⟨z, rfl, rfl⟩ := hs
    obtain ⟨x, t, rfl, st⟩ := st
    obtain ⟨t', e⟩ := r
    cases e
    refine ⟨_, _, by unfold signsV; rw [List.length_map, Array.length_toList]; exact Draws.text hh it z t, st, fun j y h => ?_, fun j h q => ⟨z, t, rfl, q⟩⟩
    obtain ⟨c, w, e1, e2⟩ := h
    exact ⟨.str ⟨#[c]⟩, by unfold signsV; rw [List.getElem?_map, Array.getElem?_toList, e1]; rfl, w, e2⟩
  | l =>
    obtain ⟨a, rfl, sq⟩ := hs
    cases r
    obtain ⟨b, e, ne, st⟩ := st
    cases e
    obtain ⟨its, rv, p, _⟩ := I.list sq
    have D := Draws.list (prog := X.prog) (w := X.w) hh it a ne its.toArray
    have hl : its.toArray.size = xs.length := by rw [List.size_toArray, ← rv.length]
    rw [hl] at D
    refine ⟨_, _, D, ⟨st, p.isList⟩, fun j y h => ?_, fun j h q => ⟨a, rfl, ne, q.1⟩⟩
    have hj : j < xs.length := by rw [← hl]; exact (Array.getElem?_eq_some_iff.mp h).1
    obtain ⟨w, hw, rw'⟩ := rv.get (List.getElem?_eq_getElem hj)
    have : its.toArray[j]? = some w := by simpa using hw
    rw [this] at h
    cases h
    exact ⟨_, List.getElem?_eq_getElem hj, rw'⟩
  | t =>
    obtain ⟨a, rfl, sq⟩ := hs
    cases r
    obtain ⟨b, e, ne, st⟩ := st
    cases e
    obtain ⟨its, rv, p, _⟩ := I.tuple sq
    have D := Draws.tuple (prog := X.prog) (w := X.w) hh it a ne its.toArray
    have hl : its.toArray.size = xs.length := by rw [List.size_toArray, ← rv.length]
    rw [hl] at D
    refine ⟨_, _, D, ⟨st, p⟩, fun j y h => ?_, fun j h q => ⟨a, rfl, ne, q.1⟩⟩
    have hj : j < xs.length := by rw [← hl]; exact (Array.getElem?_eq_some_iff.mp h).1
    obtain ⟨w, hw, rw'⟩ := rv.get (List.getElem?_eq_getElem hj)
    have : its.toArray[j]? = some w := by simpa using hw
    rw [this] at h
    cases h
    exact ⟨_, List.getElem?_eq_getElem hj, rw'⟩
theorem src_inj {X : Cx} {pins : List (Addr × Obj)} {s : Shared} {σ : L2.St} {H : Hp} (I : L2.Inv X pins σ H s) {k : Kd} {v : V} {xs ys : List V} (h1 : Src X.K v xs H k) (h2 : Src X.K v ys H k) : xs = ys := by
  cases k with
  | s =>
    obtain ⟨z, rfl, rfl⟩ := h1
    obtain ⟨w, e, rfl⟩ := h2
    cases e; rfl
  | l =>
    obtain ⟨a, rfl, q1⟩ := h1
    obtain ⟨b, e, q2⟩ := h2
    cases e
    exact I.list_inj q1 q2
  | t =>
    obtain ⟨a, rfl, q1⟩ := h1
    obtain ⟨b, e, q2⟩ := h2
    cases e
    exact I.tuple_inj q1 q2
def ItzG (K : PySem.W.Frag) (k1 k2 : Kd) (v1 v2 : V) (n1 n2 : Nat) : It :=
  ⟨fun i H => ∃ xs ys, Src K v1 xs H k1 ∧ Src K v2 ys H k2 ∧ xs.length = n1 ∧ ys.length = n2 ∧ i < n1 ∧ i < n2,
    fun i H v H' => ∃ T x y, ∃ o : Obj, v = .ref T ∧ H T = none ∧ o.dict = none ∧ H' = upd H T (.frz o (.tup [x, y])) ∧ (∀ xs, Src K v1 xs H k1 → xs[i]? = some x) ∧ ∀ ys, Src K v2 ys H k2 → ys[i]? = some y,
    fun i H => ∃ xs ys, Src K v1 xs H k1 ∧ Src K v2 ys H k2 ∧ xs.length = n1 ∧ ys.length = n2 ∧ (n1 ≤ i ∨ n2 ≤ i)⟩
theorem ISt.obj {k : Kd} {u : Value} {it : Addr} {h : Heap} {i : Nat} (st : ISt u it h i k) : ∃ o, h.get? it = some o ∧ ∀ v, o.data ≠ .cell v := by
  cases k with
  | s => obtain ⟨x, t, _, o, e, _, d⟩ := st; exact ⟨o, e, fun v q => by rw [d] at q; cases q⟩
  | l => obtain ⟨a, _, _, o, e, _, d⟩ := st; exact ⟨o, e, fun v q => by rw [d] at q; cases q⟩
  | t => obtain ⟨a, _, _, o, e, _, d⟩ := st; exact ⟨o, e, fun v q => by rw [d] at q; cases q⟩
theorem ISt.keep {k : Kd} {u : Value} {it : Addr} {h h' : Heap} {i : Nat} (st : ISt u it h i k) (e : ∀ o, h.get? it = some o → h'.get? it = some o) : ISt u it h' i k := by
  cases k with
  | s => obtain ⟨x, t, q, o, a, r⟩ := st; exact ⟨x, t, q, o, e o a, r⟩
  | l => obtain ⟨a, q, n, o, b, r⟩ := st; exact ⟨a, q, n, o, e o b, r⟩
  | t => obtain ⟨a, q, n, o, b, r⟩ := st; exact ⟨a, q, n, o, e o b, r⟩
theorem turn_zipG {P : Program} {w : World} {K : PySem.W.Frag} {elts : List Expr} {kk : Nat} {tpos : Pos} {k1 k2 : Kd} {v1 v2 : V} {u1 u2 : Value} {n1 n2 : Nat} {z TI TO i1 i2 : Addr} (S : ZipSep2 z TI TO i1 i2 (i1 :: fpOf u1) (i2 :: fpOf u2)) (r1 : L2.RelV v1 u1) (r2 : L2.RelV v2 u2) :
    Turn P w K (.Tuple elts kk tpos) (ItzG K k1 k2 v1 v2 n1 n2) [z, TI, TO, i1, i2] z (fun i h => (i ≤ n1 ∧ i ≤ n2) ∧ IsZip h z TI TO .none ∧ IsTupOf2 h TI (.ref i1) (.ref i2) ∧ (∃ a b, IsTupOf2 h TO a b) ∧ ISt u1 i1 h i k1 ∧ ISt u2 i2 h i k2) where
  mem := by simp
  obj := fun i h st c hc => by
    obtain ⟨_, hz, hTI, ⟨a, b, hTO⟩, s1, s2⟩ := st
    rcases (by simpa using hc : c = z ∨ c = TI ∨ c = TO ∨ c = i1 ∨ c = i2) with rfl | rfl | rfl | rfl | rfl
    · exact ⟨_, hz, fun v q => nomatch q⟩
    · exact ⟨_, hTI, fun v q => nomatch q⟩
    · exact ⟨_, hTO, fun v q => nomatch q⟩
    · exact s1.obj
    · exact s2.obj
  keep := fun i h h' st k => by
    obtain ⟨b, hz, hTI, ⟨a, c, hTO⟩, s1, s2⟩ := st
    exact ⟨b, k z (by simp) _ hz, k TI (by simp) _ hTI, ⟨a, c, k TO (by simp) _ hTO⟩, s1.keep (k i1 (by simp)), s2.keep (k i2 (by simp))⟩
  item := by
    intro X hP hw hK hc i pins s σ H E I hf st hg
    subst hP hw hK
    obtain ⟨_, hz, hTI, ⟨a, b, hTO⟩, s1, s2⟩ := st
    obtain ⟨xs, ys, g1, g2, rfl, rfl, l1, l2⟩ := hg
    have hh : X.A.in1.handled = none := I.ok.hd hc
    obtain ⟨P1, St1, D1, a1, b1, c1⟩ := drawsOf I hh g1 r1 s1
    obtain ⟨P2, St2, D2, a2, b2, c2⟩ := drawsOf I hh g2 r2 s2
    refine wpAny_pyNext_zipD2_item S D1 D2 hz hTI hTO a1 a2 l1 l2 fun x1 x2 h' tk p1 p2 hz' hTO' h1' h2' hT hsz hk => ?_
    obtain ⟨y1, e1, q1⟩ := b1 i x1 p1
    obtain ⟨y2, e2, q2⟩ := b2 i x2 p2
    have t1 := c1 _ _ h1'
    have t2 := c2 _ _ h2'
    have zlt : z < s.heap.objs.size := Heap.lt_size hz
    have five : ∀ {b : Addr}, b ∉ [z, TI, TO, i1, i2] → b ≠ z ∧ b ≠ TO ∧ b ≠ i1 ∧ b ≠ i2 := fun h => ⟨fun q => h (by simp [q]), fun q => h (by simp [q]), fun q => h (by simp [q]), fun q => h (by simp [q])⟩
    refine ⟨_, rfl, wpAny_letOwnedTupleGo_zip (s := { s with heap := h', toks := tk }) hz' fun k zk sb => ?_⟩
    have keepT : IsTupOf2 k s.heap.objs.size x1 x2 := (sb.2 _ (Nat.ne_of_gt zlt)).trans hT
    have J : L2.Inv X pins σ (upd H s.heap.objs.size (.frz _ (.tup [y1, y2]))) { s with heap := k, toks := tk } :=
      I.turnedNew (t' := tk) (ch := [z, TI, TO, i1, i2]) (fun b o nb q => (sb.2 b (five nb).1).trans (hk b o (five nb).1 (five nb).2.1 (five nb).2.2.1 (five nb).2.2.2 q)) hf (Nat.le_refl _) (ObjOk.tupN (us := [x1, x2]) keepT rfl rfl (by show 2 ≤ sizeLine; decide) (.cons q1 (.cons q2 .nil)))
    have m1 : i1 ≠ z := fun q => S.zf1 (by simp [q])
    have m2 : i2 ≠ z := fun q => S.zf2 (by simp [q])
    have mv : ∀ {b : Addr} {o : Obj}, b ≠ z → h'.get? b = some o → k.get? b = some o := fun nb q => (sb.2 _ nb).trans q
    refine ⟨.ref s.heap.objs.size, _, J, rfl, ⟨_, y1, y2, _, rfl, I.hok.fresh (Nat.le_refl _), rfl, rfl, fun l hl => by rw [src_inj I hl g1]; exact e1, fun l hl => by rw [src_inj I hl g2]; exact e2⟩,
      ⟨⟨l1, l2⟩, zk, mv S.TIz (hk _ _ S.TIz S.TITO S.TIi1 S.TIi2 hTI), ⟨_, _, mv S.TOz hTO'⟩, t1.keep fun o => mv m1, t2.keep fun o => mv m2⟩, fun b hb => ?_⟩
    have lt : b < s.heap.objs.size := by
      obtain ⟨_, j1, _⟩ := s1.obj
      obtain ⟨_, j2, _⟩ := s2.obj
      rcases (by simpa using hb : b = z ∨ b = TI ∨ b = TO ∨ b = i1 ∨ b = i2) with q | q | q | q | q <;> rw [q]
      · exact zlt
      · exact Heap.lt_size hTI
      · exact Heap.lt_size hTO
      · exact Heap.lt_size j1
      · exact Heap.lt_size j2
    rw [upd_ne (Nat.ne_of_lt lt)]
    exact (hf b hb).1
  done := by
    intro X hP hw hK hc i pins s σ H E I hf st hg
    subst hP hw hK
    obtain ⟨⟨j1, j2⟩, hz, hTI, ⟨a, b, hTO⟩, s1, s2⟩ := st
    obtain ⟨xs, ys, g1, g2, rfl, rfl, ends⟩ := hg
    have hh : X.A.in1.handled = none := I.ok.hd hc
    obtain ⟨P1, St1, D1, a1, b1, c1⟩ := drawsOf I hh g1 r1 s1
    obtain ⟨P2, St2, D2, a2, b2, c2⟩ := drawsOf I hh g2 r2 s2
    refine wpAny_pyNext_zipD2_end S D1 D2 hz hTI hTO a1 a2 j1 j2 (ends.elim (fun q => .inl (Nat.le_antisymm j1 q)) fun q => .inr (Nat.le_antisymm j2 q)) fun h' tk hk => ?_
    exact ⟨rfl, I.turnedL (t' := tk) (ch := [z, TI, TO, i1, i2]) (fun b o nb q => hk b o (fun e => nb (by simp [e])) (fun e => nb (by simp [e])) (fun e => nb (by simp [e])) (fun e => nb (by simp [e])) q) hf⟩
  self := fun A i s Q E st h => wpAny_pyIter_zip st.2.1 h
theorem beginsOf {X : Cx} {pins : List (Addr × Obj)} {s : Shared} {σ : L2.St} {H : Hp} (I : L2.Inv X pins σ H s) {k : Kd} {v : V} {u : Value} {xs : List V} (hs : Src X.K v xs H k) (r : L2.RelV v u) :
    ∃ (o : Obj) (B : Heap → Prop), Begins u o B ∧ B s.heap ∧ (∀ it h, s.heap.objs.size ≤ it → h.get? it = some o → ISt u it h 0 k) ∧ ∀ b ∈ fpOf u, b < s.heap.objs.size := by
  cases k with
  | s =>
    obtain ⟨z, rfl, rfl⟩ := hs
    obtain ⟨t, rfl⟩ := r
    exact ⟨_, _, begins_text z t, trivial, fun it h _ e => ⟨z, t, rfl, _, e, rfl, rfl⟩, fun b hb => nomatch hb⟩
  | l =>
    obtain ⟨a, rfl, sq⟩ := hs
    cases r
    obtain ⟨its, rv, p, _⟩ := I.list sq
    exact ⟨_, _, begins_list a its.toArray, p.isList, fun it h le e => ⟨a, rfl, Nat.ne_of_lt (Nat.lt_of_lt_of_le p.lt le), _, e, rfl, rfl⟩, fun b hb => by cases List.mem_singleton.mp hb; exact p.lt⟩
  | t =>
    obtain ⟨a, rfl, sq⟩ := hs
    cases r
    obtain ⟨its, rv, p, _⟩ := I.tuple sq
    exact ⟨_, _, begins_tuple a its.toArray, p, fun it h le e => ⟨a, rfl, Nat.ne_of_lt (Nat.lt_of_lt_of_le p.lt le), _, e, rfl, rfl⟩, fun b hb => by cases List.mem_singleton.mp hb; exact p.lt⟩
def iZipG (K : PySem.W.Frag) (ta : TA) : TI := fun σ H R => ta σ H fun vs H1 => ∃ k1 k2 v1 v2 xs ys, vs = [v1, v2] ∧ Src K v1 xs H1 k1 ∧ Src K v2 ys H1 k2 ∧ R (ItzG K k1 k2 v1 v2 xs.length ys.length) H1
theorem pi_zipG {X : Cx} {e e2 : Expr} {ta : TA} {p pos tpos : Pos} {elts : List Expr} {kk : Nat} (hg : Gl X "zip") (hm : X.mg "zip" = none) (ha : PA X [e, e2] ta)
    (hs : starEach [e, e2] X.env = (false, eval e X.env) :: starEach [e2] X.env := by rfl) (hpl : (backTo pos (starEach [e2] X.env)).any (·.1) = false := by rfl) :
    PI X (.Tuple elts kk tpos) (.Call (.Name "zip" p) [e, e2] [] pos) (iZipG X.K ta) := by
  refine ⟨fun pins s σ H R I h => Call_ (ld_blt I hg hm PyProof.Rows.boot_zip (PyProof.Rows.callWith_type1 (thn (ha.run pos pins s σ H _ I h) fun us s1 ⟨vs, H1, I1, rv, q1⟩ => ?_) hs hpl))⟩
  obtain ⟨k1, k2, v1, v2, xs, ys, rfl, g1, g2, q⟩ := q1
  cases rv with
  | cons r1 rr =>
    cases rr with
    | cons r2 rr =>
      cases rr
      obtain ⟨o1, B1, b1, c1, d1, e1⟩ := beginsOf I1 g1 r1
      obtain ⟨o2, B2, b2, c2, d2, e2'⟩ := beginsOf I1 g2 r2
      refine zip_begins2 b1 b2 c1 c2 fun h' hz hTI hTO a1 a2 hsz hk => wpAny_pyIter_zip hz ?_
      have I2 : L2.Inv X pins σ H1 { s1 with heap := h' } := I1.kept (t' := s1.toks) hk
      refine ⟨s1.heap.objs.size + 4, [s1.heap.objs.size + 4, s1.heap.objs.size + 2, s1.heap.objs.size + 3, s1.heap.objs.size, s1.heap.objs.size + 1], _, _, H1, rfl, I2, turn_zipG (zip_sep2 e1 e2') r1 r2,
        ⟨⟨Nat.zero_le _, Nat.zero_le _⟩, hz, hTI, ⟨_, _, hTO⟩, d1 _ _ (Nat.le_refl _) a1, d2 _ _ (Nat.le_succ _) a2⟩, fun c hc => ?_, q⟩
      have le : s1.heap.objs.size ≤ c := by
        rcases (by simpa using hc : c = s1.heap.objs.size + 4 ∨ c = s1.heap.objs.size + 2 ∨ c = s1.heap.objs.size + 3 ∨ c = s1.heap.objs.size ∨ c = s1.heap.objs.size + 1) with q | q | q | q | q <;> rw [q] <;> first | exact Nat.le_refl _ | exact Nat.le_add_right _ _
      exact I1.fpOk le (I1.hok.fresh le)
def itemsOf : D → Option (List D)
  | .lst ds => some ds
  | .tup ds => some ds
  | .v (.str z) => some (signs z)
  | _ => none
def pairsD : List D → List D → List D
  | a :: as, b :: bs => .tup [a, b] :: pairsD as bs
  | _, _ => []
theorem pairsD_len : ∀ {as bs : List D}, (pairsD as bs).length = min as.length bs.length
  | [], _ => by simp [pairsD]
  | _ :: _, [] => by simp [pairsD]
  | a :: as, b :: bs => by simp [pairsD, pairsD_len (as := as) (bs := bs)]
theorem pairsD_at : ∀ {as bs : List D} {i : Nat} {a b : D}, as[i]? = some a → bs[i]? = some b → (pairsD as bs)[i]? = some (.tup [a, b])
  | _ :: _, _ :: _, 0, _, _, h1, h2 => by cases h1; cases h2; rfl
  | _ :: as, _ :: bs, i + 1, a, b, h1, h2 => by
    have := pairsD_at (as := as) (bs := bs) (i := i) (by simpa using h1) (by simpa using h2)
    simpa [pairsD] using this
section
variable {K : PySem.W.Frag} {W : Wd} {Wx : WX} {X : Cx} {a b : Expr} {p pos tpos : Pos} {tr : TA} {dr : TDA}
theorem src_of {I : Hp} {v : V} {d : D} {ds : List D} (h : Is K I v d) (e : itemsOf d = some ds) : ∃ k xs, (∀ I2 H2, Same I I2 → W.ok I2 H2 → Src K v xs H2 k) ∧ IsAll K I xs ds := by
  cases h with
  | v x =>
    cases v with
    | str z =>
      cases e
      refine ⟨.s, signsV z, fun _ _ _ _ => ⟨z, rfl, rfl⟩, ?_⟩
      unfold signsV signs
      exact isAll_signs _
    | _ => cases e
  | lst h r => cases e; exact ⟨.l, _, fun I2 H2 sm ok => ⟨_, rfl, SqL.of (W.ex ok _ _ (sm _ _ h))⟩, r⟩
  | tup h r => cases e; exact ⟨.t, _, fun I2 H2 sm ok => ⟨_, rfl, Same.seqT (W.ex ok) (Same.seqT sm h.t)⟩, r⟩
  | dic h r => cases e
  | ins h r => cases e
  | exc0 => cases e
  | exc1 h r => cases e
  | lent r => cases e
  | dt _ _ _ _ => cases e
theorem Walks.zipG {I : Hp} {k1 k2 : Kd} {v1 v2 : V} {xs ys : List V} {ds es : List D} (s1 : ∀ I2 H2, Same I I2 → W.ok I2 H2 → Src K v1 xs H2 k1) (s2 : ∀ I2 H2, Same I I2 → W.ok I2 H2 → Src K v2 ys H2 k2) (a1 : IsAll K I xs ds) (a2 : IsAll K I ys es) :
    Walks K W (ItzG K k1 k2 v1 v2 xs.length ys.length) I (pairsD ds es) := fun i I2 H2 sm ok => by
  have g1 := s1 I2 H2 sm ok
  have g2 := s2 I2 H2 sm ok
  have l1 := a1.length
  have l2 := a2.length
  refine ⟨fun hi => ?_, fun hi => ?_⟩
  · rw [pairsD_len] at hi
    have b1 : i < xs.length := by omega
    have b2 : i < ys.length := by omega
    refine ⟨⟨xs, ys, g1, g2, rfl, rfl, b1, b2⟩, fun x H3 y => ?_⟩
    obtain ⟨t, x1, x2, o, rfl, hn, hd0, rfl, q1, q2⟩ := y
    obtain ⟨d, hd, i1⟩ := a1.getV (q1 xs g1)
    obtain ⟨e, he, i2⟩ := a2.getV (q2 ys g2)
    have up : Same I2 (upd I2 t (.frz o (.tup [x1, x2]))) := Same.new (Same.non (W.ex ok) hn)
    exact ⟨upd I2 t (.frz o (.tup [x1, x2])), _, pairsD_at hd he, Later.alloc ok hn, .tup (SqN.of upd_same hd0) (.cons ((i1.mono sm).mono up) (.cons ((i2.mono sm).mono up) .nil))⟩
  · rw [pairsD_len] at hi
    exact ⟨xs, ys, g1, g2, rfl, rfl, by omega⟩
@[simp] def idZip (u : TDA) : TDI := fun τ Q R => u τ (fun ds => two ds fun x y => ∃ as bs, itemsOf x = some as ∧ itemsOf y = some bs ∧ Q (pairsD as bs)) R
@[simp] theorem itemsOf_lst {ds : List D} : itemsOf (.lst ds) = some ds := rfl
@[simp] theorem itemsOf_tup {ds : List D} : itemsOf (.tup ds) = some ds := rfl
@[simp] theorem itemsOf_str {z : Str} : itemsOf (.v (.str z)) = some (signs z) := rfl
theorem di_zip {elts : List Expr} {kk : Nat} (hm : X.mg "zip" = none) (ha : DA X K W Wx [a, b] tr dr) (hg : Gl X "zip" := by rfl) (hs : starEach [a, b] X.env = (false, eval a X.env) :: starEach [b] X.env := by rfl) (hpl : (backTo pos (starEach [b] X.env)).any (·.1) = false := by rfl) :
    DI X K W Wx (.Tuple elts kk tpos) (.Call (.Name "zip" p) [a, b] [] pos) (iZipG K tr) (idZip dr) := by
  have hk := ha.k; subst hk
  refine ⟨rfl, pi_zipG hg hm ha.pa hs hpl, fun I H σ τ Q R G ok rp t hq hx => ha.sim I H σ τ _ R _ ok rp t (fun vs ds I1 H1 q1 i1 l1 => ?_) hx⟩
  unfold two at q1
  split at q1
  · obtain ⟨as, bs, e1, e2, q2⟩ := q1
    obtain ⟨w1, w2, rfl, h1, h2⟩ := isAll2 i1
    obtain ⟨k1, xs, s1, r1⟩ := src_of (W := W) h1 e1
    obtain ⟨k2, ys, s2, r2⟩ := src_of (W := W) h2 e2
    exact ⟨k1, k2, w1, w2, xs, ys, rfl, s1 _ _ (Same.refl _) l1.ok, s2 _ _ (Same.refl _) l1.ok, hq _ _ I1 H1 q2 (Walks.zipG s1 s2 r1 r2) l1⟩
  · exact q1.elim
end
section
variable {K : PySem.W.Frag} {W : Wd} {Wx : WX} {X : Cx} {a b : Expr} {ta tb : TE} {da db : TDE} {pos : Pos}
def rLtS : R2 := fun x y H Q => ∃ i j, x = .str i ∧ y = .str j ∧ Q (.bl (decide (i.cps.toList < j.cps.toList))) H
def fLtS : TD2 := fun x y Q => match x, y with
  | .v (.str i), .v (.str j) => Q (.bl (decide (i.cps.toList < j.cps.toList)))
  | _, _ => False
def fGeS : TD2 := fun x y Q => match x, y with
  | .v (.str i), .v (.str j) => Q (.bl (!decide (i.cps.toList < j.cps.toList)))
  | _, _ => False
@[simp] theorem fLtS_str {i j : Str} {Q : D → Prop} : fLtS (.v (.str i)) (.v (.str j)) Q = Q (.bl (decide (i.cps.toList < j.cps.toList))) := rfl
@[simp] theorem fGeS_str {i j : Str} {Q : D → Prop} : fGeS (.v (.str i)) (.v (.str j)) Q = Q (.bl (!decide (i.cps.toList < j.cps.toList))) := rfl
theorem R2Sim.ltS : R2Sim K W rLtS fLtS := fun I H x y dx dy Q G ok hx hy q hq => by
  unfold fLtS at q
  split at q
  · cases hx; cases hy
    exact ⟨_, _, rfl, rfl, hq _ _ I H q (.v _) (.refl ok)⟩
  · exact q.elim
theorem de_ltS (ha : DE X K W Wx a ta da) (hb : DE X K W Wx b tb db) : DE X K W Wx (.Compare a [.Lt] [b] pos) (tOp rLtS ta tb) (tdOp fLtS da db) := by
  have hk := ha.k; subst hk
  exact de_cmp op_lt_str .ltS ha hb (nomark _)
end
end D3
set_option Elab.async false
set_option linter.all false
set_option maxRecDepth 100000
set_option maxHeartbeats 4000000
namespace D3
open PySem PySem.Spec PyProof.Rows L2
def HasT (K : PySem.W.Frag) (mg : Str → Option Value) (x : Str) (vs : List V) : Prop := ∃ a, mg x = some (.ref a) ∧ ∀ H, SqN K H a vs
theorem hasT_mk {K : PySem.W.Frag} {h : Heap} {mg : Str → Option Value} {x : Str} {p : Addr} {o : Obj} {its : Array Value} {n : Nat} {vs : List V} (X : K.In h) (G : h.Ns mainGlobals mg) (a : PySem.W.nsIn K mainGlobals x = some (some (.ref p)))
    (l : K.lookup p = some o) (hn : o.dict = none) (hc : o.cls = .type "tuple") (hd : o.data = .seq its n) (hz : its.size ≤ sizeLine) (hv : Vals vs its.toList) : HasT K mg x vs :=
  ⟨p, PySem.W.mg_of X G a, fun H => .inr ⟨o, its, n, l, hn, hc, hd, hz, hv⟩⟩
theorem isAll_flatV {K : PySem.W.Frag} {I : Hp} : ∀ vs : List V, IsAll K I vs (vs.map D.v)
  | [] => .nil
  | v :: vs => .cons (.v v) (isAll_flatV vs)
section
variable {K : PySem.W.Frag} {W : Wd} {Wx : WX} {X : Cx}
theorem de_globT {x : Str} {vs : List V} {a : Addr} {pos : Pos} (hm : X.mg x = some (.ref a)) (r : ∀ H, SqN K H a vs) (hg : Gl X x := by rfl) (hd : (x == ("__debug__" : Str)) = false := by decide) (hk : X.K = K := by rfl) : DE X K W Wx (.Name x pos) (tC (.ref a)) (tdC (.tup (vs.map D.v))) := by
  subst hk
  exact ⟨rfl, pe_glob (v := .ref a) hg hm rfl hd, fun I H σ τ Q R G ok rp q hq _ => hq _ _ I H q (.tup (r I) (isAll_flatV vs)) (.refl ok)⟩
end
def IteG (K : PySem.W.Frag) (k : Kd) (v : V) (n : Nat) : It :=
  ⟨fun i H => ∃ xs, Src K v xs H k ∧ xs.length = n ∧ i < n,
    fun i H u H' => ∃ T x, ∃ o : Obj, u = .ref T ∧ H T = none ∧ o.dict = none ∧ H' = upd H T (.frz o (.tup [.int (i : Nat), x])) ∧ ∀ xs, Src K v xs H k → xs[i]? = some x,
    fun i H => ∃ xs, Src K v xs H k ∧ xs.length = n ∧ n ≤ i⟩
theorem turn_enumG {P : Program} {w : World} {K : PySem.W.Frag} {elts : List Expr} {kk : Nat} {tpos : Pos} {k : Kd} {v : V} {u : Value} {n : Nat} {e it : Addr} (hne : e ≠ it) (hef : e ∉ it :: fpOf u) (r : L2.RelV v u) :
    Turn P w K (.Tuple elts kk tpos) (IteG K k v n) [e, it] e (fun i h => i ≤ n ∧ (∃ old, IsEnum h e it ((i : Nat) : Int) old) ∧ ISt u it h i k) where
  mem := by simp
  obj := fun i h st c hc => by
    obtain ⟨_, ⟨old, he⟩, s1⟩ := st
    rcases (by simpa using hc : c = e ∨ c = it) with rfl | rfl
    · exact ⟨_, he, fun v q => nomatch q⟩
    · exact s1.obj
  keep := fun i h h' st k => let ⟨b, ⟨old, he⟩, s1⟩ := st; ⟨b, ⟨old, k e (by simp) _ he⟩, s1.keep (k it (by simp))⟩
  item := by
    intro X hP hw hK hc i pins s σ H E I hf st hg
    subst hP hw hK
    obtain ⟨_, ⟨old, he⟩, s1⟩ := st
    obtain ⟨xs, g1, rfl, lt⟩ := hg
    have hh : X.A.in1.handled = none := I.ok.hd hc
    obtain ⟨P1, St1, D1, a1, b1, c1⟩ := drawsOf I hh g1 r s1
    have hel : e < s.heap.objs.size := Heap.lt_size he
    have hil : it < s.heap.objs.size := by obtain ⟨_, q, _⟩ := s1.obj; exact Heap.lt_size q
    refine wpAny_pyNext_enum_itemD D1 he a1 lt hne hef fun x h' tk px ho hst hT hsz hk => ?_
    obtain ⟨y, e1, q1⟩ := b1 i x px
    have t1 := c1 _ _ hst
    refine ⟨_, rfl, wpAny_letOwnedTupleGo_enum (s := { s with heap := h', toks := tk + 1 }) ho fun h'' he' sb => ?_⟩
    have hT2 : h''.get? s.heap.objs.size = some { cls := .type "tuple", data := .seq #[.int i tk, x] } := (sb.2 _ (Nat.ne_of_gt hel)).trans hT
    have I1 : L2.Inv X pins σ (upd H s.heap.objs.size (.frz _ (.tup [.int (i : Nat), y]))) { s with heap := h'', toks := tk + 1 } :=
      I.turnedNew (t' := tk + 1) (ch := [e, it]) (fun b ob hb q => (sb.2 b (fun z => hb (by simp [z]))).trans (hk b ob (fun z => hb (by simp [z])) (fun z => hb (by simp [z])) q)) hf (Nat.le_refl _) (ObjOk.tupN (xs := [V.int (i : Nat), y]) (us := [.int i tk, x]) hT2 rfl rfl (by show 2 ≤ sizeLine; decide) (.cons ⟨_, rfl⟩ (.cons q1 .nil)))
    refine ⟨.ref s.heap.objs.size, _, I1, rfl, ⟨_, y, _, rfl, I.hok.fresh (Nat.le_refl _), rfl, rfl, fun ys hy => by rw [src_inj I hy g1]; exact e1⟩, ⟨lt, ⟨x, ?_⟩, t1.keep fun o q => (sb.2 it (Ne.symm hne)).trans q⟩, fun b hb => ?_⟩
    · have e1 : ((i + 1 : Nat) : Int) = (i : Int) + 1 := by omega
      rw [e1]; exact he'
    · have hb' : b < s.heap.objs.size := by
        rcases (by simpa using hb : b = e ∨ b = it) with z | z
        · rw [z]; exact hel
        · rw [z]; exact hil
      rw [upd_ne (Nat.ne_of_lt hb')]
      exact (hf b hb).1
  done := by
    intro X hP hw hK hc i pins s σ H E I hf st hg
    subst hP hw hK
    obtain ⟨j1, ⟨old, he⟩, s1⟩ := st
    obtain ⟨xs, g1, rfl, le⟩ := hg
    have hh : X.A.in1.handled = none := I.ok.hd hc
    obtain ⟨P1, St1, D1, a1, b1, c1⟩ := drawsOf I hh g1 r s1
    have ei : i = xs.length := Nat.le_antisymm j1 le
    subst ei
    exact wpAny_pyNext_enum_endD D1 he a1 fun h' eb => ⟨rfl, I.turnedL (t' := s.toks) (ch := [e, it]) (fun b o nb q => eb b o (fun z => nb (by simp [z])) q) hf⟩
  self := fun A i s Q E st h => let ⟨_, ⟨_, he⟩, _⟩ := st; wpAny_pyIter_enum he h
def iEnumG (K : PySem.W.Frag) (ta : TA) : TI := fun σ H R => ta σ H fun vs H1 => ∃ k v xs, vs = [v] ∧ k ≠ Kd.t ∧ Src K v xs H1 k ∧ R (IteG K k v xs.length) H1
theorem pi_enumG {X : Cx} {e : Expr} {ta : TA} {p pos tpos : Pos} {elts : List Expr} {kk : Nat} (hg : Gl X "enumerate") (hm : X.mg "enumerate" = none) (ha : PA X [e] ta) (hs : starEach [e] X.env = [(false, eval e X.env)] := by rfl) :
    PI X (.Tuple elts kk tpos) (.Call (.Name "enumerate" p) [e] [] pos) (iEnumG X.K ta) := by
  refine ⟨fun pins s σ H R I h => ?_⟩
  refine Call_ (ld_blt I hg hm boot_enumerate (PyProof.Rows.callWith_type1 (thn (ha.run pos pins s σ H _ I h) fun us s1 ⟨vs, H1, I1, r1, q1⟩ => ?_) hs rfl))
  obtain ⟨k, v, xs, ex, hk, hq, q⟩ := q1
  subst ex
  cases r1 with
  | @cons _ u _ _ r rr =>
    cases rr
    have fin : ∀ (h' : Heap), IsEnum h' (s1.heap.objs.size + 1) s1.heap.objs.size 0 .none → ISt u s1.heap.objs.size h' 0 k → (∀ b ∈ fpOf u, b < s1.heap.objs.size) → (∀ b o, s1.heap.get? b = some o → h'.get? b = some o) →
        wpAny (model X.prog X.w) X.A (pyIter (.ref (s1.heap.objs.size + 1))) (PIE X pins σ (.Tuple elts kk tpos) R) X.xe { s1 with heap := h' } := fun h' he hit hb hk2 => by
      refine wpAny_pyIter_enum he ?_
      have I2 : L2.Inv X pins σ H1 { s1 with heap := h' } := I1.kept (t' := s1.toks) hk2
      refine ⟨s1.heap.objs.size + 1, [s1.heap.objs.size + 1, s1.heap.objs.size], _, _, H1, rfl, I2, turn_enumG (Nat.succ_ne_self _) (fun z => ?_) r, ⟨Nat.zero_le _, ⟨.none, he⟩, hit⟩, fun b hb => ?_, q⟩
      · rcases List.mem_cons.mp z with z | z
        · exact Nat.succ_ne_self _ z
        · exact absurd (hb _ z) (Nat.not_lt_of_le (Nat.le_succ _))
      · have hle : s1.heap.objs.size ≤ b := by
          rcases (by simpa using hb : b = s1.heap.objs.size + 1 ∨ b = s1.heap.objs.size) with z | z
          · rw [z]; exact Nat.le_add_right _ _
          · rw [z]; exact Nat.le_refl _
        exact I1.fpOk hle (I1.hok.fresh hle)
    cases k with
    | t => exact absurd rfl hk
    | s =>
      obtain ⟨z, rfl, rfl⟩ := id hq
      obtain ⟨t, rfl⟩ := r
      exact call_enumerate_str fun h' he hit hsz hk2 => fin h' he ⟨z, t, rfl, hit⟩ (fun b hb => nomatch hb) hk2
    | l =>
      obtain ⟨a, rfl, sq⟩ := id hq
      cases r
      obtain ⟨its, rv, p', hz⟩ := I1.list sq
      exact call_enumerate_list p'.isList fun h' he hit hsz hk2 => fin h' he ⟨a, rfl, Nat.ne_of_lt p'.lt, hit⟩ (fun b hb => by cases List.mem_singleton.mp hb; exact p'.lt) hk2
section
variable {K : PySem.W.Frag} {W : Wd} {Wx : WX} {X : Cx} {e : Expr} {p pos tpos : Pos} {tr : TA} {dr : TDA}
theorem Walks.enumG {I : Hp} {k : Kd} {v : V} {xs : List V} {ds : List D} (s1 : ∀ I2 H2, Same I I2 → W.ok I2 H2 → Src K v xs H2 k) (a1 : IsAll K I xs ds) : Walks K W (IteG K k v xs.length) I (nums 0 ds) := fun i I2 H2 sm ok => by
  have g1 := s1 I2 H2 sm ok
  have l1 := a1.length
  refine ⟨fun hi => ?_, fun hi => ⟨xs, g1, rfl, by rw [nums_len] at hi; omega⟩⟩
  rw [nums_len] at hi
  refine ⟨⟨xs, g1, rfl, by omega⟩, fun x H3 y => ?_⟩
  obtain ⟨t, u, o, rfl, hn, hd0, rfl, hu⟩ := y
  obtain ⟨d, hd, iv⟩ := a1.getV (hu xs g1)
  refine ⟨upd I2 t (.frz o (.tup [.int (i : Nat), u])), _, nums_at hd, Later.alloc ok hn, .tup (SqN.of upd_same hd0) (.cons ?_ (.cons ((iv.mono sm).mono (Same.new (Same.non (W.ex ok) hn))) .nil))⟩
  rw [Nat.zero_add]
  exact .v _
def enumOf : D → Option (List D)
  | .lst ds => some ds
  | .v (.str z) => some (signs z)
  | _ => none
@[simp] theorem enumOf_lst {ds : List D} : enumOf (.lst ds) = some ds := rfl
@[simp] theorem enumOf_str {z : Str} : enumOf (.v (.str z)) = some (signs z) := rfl
theorem src_ofE {I : Hp} {v : V} {d : D} {ds : List D} (h : Is K I v d) (e : enumOf d = some ds) : ∃ k xs, k ≠ Kd.t ∧ (∀ I2 H2, Same I I2 → W.ok I2 H2 → Src K v xs H2 k) ∧ IsAll K I xs ds := by
  cases h with
  | v x =>
    cases v with
    | str z =>
      cases e
      refine ⟨.s, signsV z, (fun z => nomatch z), fun _ _ _ _ => ⟨z, rfl, rfl⟩, ?_⟩
      unfold signsV signs
      exact isAll_signs _
    | _ => cases e
  | lst h r => cases e; exact ⟨.l, _, (fun z => nomatch z), fun I2 H2 sm ok => ⟨_, rfl, SqL.of (W.ex ok _ _ (sm _ _ h))⟩, r⟩
  | tup h r => cases e
  | dic h r => cases e
  | ins h r => cases e
  | exc0 => cases e
  | exc1 h r => cases e
  | lent r => cases e
  | dt _ _ _ _ => cases e
def one1 (ds : List D) (P : D → Prop) : Prop := match ds with
  | [x] => P x
  | _ => False
@[simp] theorem one1_one {x : D} {P : D → Prop} : one1 [x] P = P x := rfl
@[simp] def idEnumG (u : TDA) : TDI := fun τ Q R => u τ (fun ds => one1 ds fun x => ∃ as, enumOf x = some as ∧ Q (nums 0 as)) R
theorem di_enumG {elts : List Expr} {kk : Nat} (hm : X.mg "enumerate" = none) (ha : DA X K W Wx [e] tr dr) (hg : Gl X "enumerate" := by rfl) (hs : starEach [e] X.env = [(false, eval e X.env)] := by rfl) :
    DI X K W Wx (.Tuple elts kk tpos) (.Call (.Name "enumerate" p) [e] [] pos) (iEnumG K tr) (idEnumG dr) := by
  have hk := ha.k; subst hk
  refine ⟨rfl, pi_enumG hg hm ha.pa hs, fun I H σ τ Q R G ok rp t hq hx => ha.sim I H σ τ _ R _ ok rp t (fun vs ds I1 H1 q1 i1 l1 => ?_) hx⟩
  unfold one1 at q1
  split at q1
  · obtain ⟨as, e1, q2⟩ := q1
    obtain ⟨w1, rfl, h1⟩ := isAll1 i1
    obtain ⟨k1, xs, nk, s1, r1⟩ := src_ofE (W := W) h1 e1
    exact ⟨k1, w1, xs, rfl, nk, s1 _ _ (Same.refl _) l1.ok, hq _ _ I1 H1 q2 (Walks.enumG s1 r1) l1⟩
  · exact q1.elim
end
theorem compD_mapG {g : TDG} {te : TDE} {vs : List Nat} {τ : Tau} (f : D → D) : ∀ {ds : List D} {Q : List D → Prop}, (∀ d ∈ ds, ∀ K : D → Prop, K (f d) → g d (wipeT τ vs) fun τ2 => te τ2 K (fun _ => False)) → Q (ds.map f) → compD g tdYes te vs τ ds Q
  | [], _, _, q => q
  | d :: ds, Q, h, q => by
    have e : (fun τ2 => (tdYes τ2 (fun b => if b = true then te τ2 (fun y => compD g tdYes te vs τ ds fun ys => Q (y :: ys)) (fun _ => False) else compD g tdYes te vs τ ds Q) (fun _ => False))) = fun τ2 => te τ2 (fun y => compD g tdYes te vs τ ds fun ys => Q (y :: ys)) (fun _ => False) := by
      funext τ2; simp
    unfold compD
    rw [e]
    exact h d List.mem_cons_self _ (compD_mapG f (Q := fun ys => Q (f d :: ys)) (fun x hx => h x (List.mem_cons_of_mem _ hx)) q)
/-- with tests; g a target of any kind -/
theorem compD_filterG {g : TDG} {te : TDE} {td : TDT} {vs : List Nat} {τ : Tau} (p : D → Bool) (f : D → D) : ∀ {ds : List D} {Q : List D → Prop},
    (∀ d ∈ ds, ∀ (Kt : Prop) (K : D → Prop), (p d = true → K (f d)) → (p d = false → Kt) → g d (wipeT τ vs) fun τ2 => td τ2 (fun b => if b = true then te τ2 K (fun _ => False) else Kt) (fun _ => False)) → Q ((ds.filter p).map f) → compD g td te vs τ ds Q
  | [], _, _, q => q
  | d :: ds, Q, h, q => by
    have ih : ∀ {Q : List D → Prop}, Q ((ds.filter p).map f) → compD g td te vs τ ds Q := fun {Q} q => compD_filterG p f (fun x hx => h x (List.mem_cons_of_mem _ hx)) q
    unfold compD
    refine h d List.mem_cons_self _ _ (fun hp => ih ?_) (fun hp => ih ?_)
    · rw [List.filter_cons, if_pos hp] at q
      exact q
    · rw [List.filter_cons, if_neg (by rw [hp]; decide)] at q
      exact q
/-- .. a filter alone, over names -/
theorem compD_sel {i : Nat} {te : TDE} {td : TDT} {vs : List Nat} {τ : Tau} (p : D → Bool) (f : D → D) {ds : List D} {Q : List D → Prop} (h1 : ∀ d ∈ ds, ∀ Kt : Bool → Prop, Kt (p d) → td ((wipeT τ vs).set i (some (.dat d))) Kt (fun _ => False))
    (h2 : ∀ d ∈ ds, p d = true → ∀ K : D → Prop, K (f d) → te ((wipeT τ vs).set i (some (.dat d))) K (fun _ => False)) (q : Q ((ds.filter p).map f)) : compD (gdName i) td te vs τ ds Q := by
  refine compD_filterG p f (fun d hd Kt K k1 k2 => ?_) q
  refine h1 d hd _ ?_
  cases hp : p d with
  | true => rw [if_pos rfl]; exact h2 d hd hp K (k1 hp)
  | false => rw [if_neg Bool.false_ne_true]; exact k2 hp
/-- a filter by draws: any part of it -/
theorem compD_some {i : Nat} {te : TDE} {td : TDT} {vs : List Nat} {τ : Tau} (f : D → D) : ∀ {ds : List D} {Q : List D → Prop}, (∀ d ∈ ds, ∀ Kt : Bool → Prop, (∀ b, Kt b) → td ((wipeT τ vs).set i (some (.dat d))) Kt (fun _ => False)) →
    (∀ d ∈ ds, ∀ K : D → Prop, K (f d) → te ((wipeT τ vs).set i (some (.dat d))) K (fun _ => False)) → (∀ es : List D, es.Sublist ds → Q (es.map f)) → compD (gdName i) td te vs τ ds Q
  | [], Q, _, _, q => q [] (List.Sublist.refl _)
  | d :: ds, Q, h1, h2, q => by
    refine h1 d List.mem_cons_self _ fun b => ?_
    have h1' := fun x hx => h1 x (List.mem_cons_of_mem d hx)
    have h2' := fun x hx => h2 x (List.mem_cons_of_mem d hx)
    cases b with
    | true =>
      rw [if_pos rfl]
      refine h2 d List.mem_cons_self _ (compD_some f h1' h2' fun es he => q (d :: es) (he.cons₂ d))
    | false =>
      rw [if_neg Bool.false_ne_true]
      exact compD_some f h1' h2' fun es he => q es (he.cons d)
theorem pairsD_map {α β : Type} (f : α → D) (g : β → D) : ∀ (l : List α) (m : List β), pairsD (l.map f) (m.map g) = (l.zip m).map fun p => .tup [f p.1, g p.2]
  | [], _ => by simp [pairsD]
  | _ :: _, [] => by simp [pairsD]
  | a :: l, b :: m => by simp [pairsD, pairsD_map f g l m]
def cutN (l : List Nat) (lo hi : Option Int) : List Nat := (l.drop (HT.sIx l.length 0 lo)).take (HT.sIx l.length l.length hi - HT.sIx l.length 0 lo)
@[simp] theorem cutS_mk (l : List Nat) (lo hi : Option Int) : cutS (mk l) lo hi = mk (cutN l lo hi) := by
  unfold cutS cutN
  rw [mk_length, mk_cps]
  rfl
theorem cutN_to {l : List Nat} {a : Nat} : cutN l none (some (a : Int)) = l.take a := by
  unfold cutN
  rw [HT.sIx_nat, show HT.sIx l.length 0 none = 0 from rfl]
  simp only [List.drop_zero, Nat.sub_zero]
  by_cases h : a ≤ l.length
  · rw [Nat.min_eq_left h]
  · rw [Nat.min_eq_right (by omega), List.take_of_length_le (Nat.le_refl _), List.take_of_length_le (by omega)]
theorem cutN_from {l : List Nat} {a : Nat} : cutN l (some (a : Int)) none = l.drop a := by
  unfold cutN
  rw [HT.sIx_nat, show HT.sIx l.length l.length none = l.length from rfl]
  by_cases h : a ≤ l.length
  · rw [Nat.min_eq_left h, List.take_of_length_le (by rw [List.length_drop]; exact Nat.le_refl _)]
  · rw [Nat.min_eq_right (by omega), List.drop_of_length_le (Nat.le_refl _), List.drop_of_length_le (by omega), List.take_nil]
/-- .. of lists -/
theorem cutD_map {α : Type} (f : α → D) (l : List α) (lo hi : Option Int) : cutD (l.map f) lo hi = ((l.drop (HT.sIx l.length 0 lo)).take (HT.sIx l.length l.length hi - HT.sIx l.length 0 lo)).map f := by
  unfold cutD
  rw [List.length_map, ← List.map_drop, ← List.map_take]
theorem Sz.int {i : Int} (h : i.natAbs.log2 < 1920) : Sz 1921 1 (.int i) := by
  refine ⟨by simp [shOk, h], by simp [toPy, PyData.depth], ?_⟩
  simp only [toPy, PyData.shown_int]
  exact PyProof.Rows.int_text_len_1921 h
end D3
namespace D3
open PySem PySem.Spec PyProof.Rows L2
@[simp] theorem fIn_tup {n : Bool} {a : V} {ds : List D} {Q : D → Prop} : fIn n (.v a) (.tup ds) Q = (flatV a = true ∧ ∃ xs : List V, ds = xs.map D.v ∧ xs.all flatV = true ∧ Q (.bl (n ^^ inV a xs))) := by cases a <;> rfl
@[simp] theorem fIn_lst {n : Bool} {a : V} {ds : List D} {Q : D → Prop} : fIn n (.v a) (.lst ds) Q = (flatV a = true ∧ ∃ xs : List V, ds = xs.map D.v ∧ xs.all flatV = true ∧ Q (.bl (n ^^ inV a xs))) := by cases a <;> rfl
@[simp] theorem flatV_str {s : Str} : flatV (.str s) = true := rfl
@[simp] theorem flatV_int {i : Int} : flatV (.int i) = true := rfl
@[simp] theorem flatV_bl {i : Bool} : flatV (.bl i) = true := rfl
@[simp] theorem flatV_non : flatV .non = true := rfl
theorem inV_map (l : List Nat) : ∀ ls : List (List Nat), inV (.str (mk l)) (ls.map fun l => V.str (mk l)) = decide (l ∈ ls)
  | [] => by simp [inV]
  | a :: ls => by
    have ih := inV_map l ls
    have e : inV (.str (mk l)) ((a :: ls).map fun l => V.str (mk l)) = ((mk a == mk l) || inV (.str (mk l)) (ls.map fun l => V.str (mk l))) := rfl
    rw [e, ih]
    by_cases h : l = a
    · subst h; simp
    · have : (mk a == mk l) = false := beq_eq_false_iff_ne.mpr fun z => h (mk_inj z).symm
      rw [this]
      simp [h]
end D3
namespace D3
open PySem PySem.Spec PyProof.Rows L2
theorem false_mem {α : Type} {p : α → Bool} {l : List α} : (false ∈ l.map p) = (l.all p = false) := by
  refine propext ⟨fun h => ?_, fun h => ?_⟩
  · obtain ⟨a, ha, e⟩ := List.mem_map.mp h
    exact List.all_eq_false.mpr ⟨a, ha, by rw [e]; decide⟩
  · obtain ⟨a, ha, e⟩ := List.all_eq_false.mp h
    exact List.mem_map.mpr ⟨a, ha, by simpa using e⟩
theorem tdSeq_asg {i : Nat} {t : TDE} {u : TDS} {τ : Tau} {E : DEnds} (d : D) (h : ∀ (Q : D → Prop) (R : Exc → Prop), Q d → t τ Q R) (k : u (τ.set i (some (.dat d))) E) : tdSeq (tdAsg t (gdName i)) u τ E := h _ _ k
theorem tdSeq_asgP {i : Nat} {t : TDE} {u : TDS} {τ : Tau} {E : DEnds} (P : D → Prop) (h : ∀ (Q : D → Prop) (R : Exc → Prop), (∀ d, P d → Q d) → t τ Q R) (k : ∀ d, P d → u (τ.set i (some (.dat d))) E) : tdSeq (tdAsg t (gdName i)) u τ E := h _ _ k
theorem tdSeq_setO {i : Nat} {t : TDO} {u : TDS} {τ : Tau} {E : DEnds} (P : List D → Prop) (h : ∀ (Q : List D → Prop) (R : Exc → Prop), (∀ d, P d → Q d) → t τ Q R) (k : ∀ d, P d → u (τ.set i (some (.own d))) E) : tdSeq (tdSetO t i) u τ E := h _ _ k
theorem tdSeq_par {i j : Nat} {ta tb : TDE} {u : TDS} {τ : Tau} {E : DEnds} (P P' : D → Prop) (h1 : ∀ (Q : D → Prop) (R : Exc → Prop), (∀ d, P d → Q d) → ta τ Q R) (h2 : ∀ (Q : D → Prop) (R : Exc → Prop), (∀ d, P' d → Q d) → tb τ Q R)
    (k : ∀ x y, P x → P' y → u ((τ.set i (some (.dat x))).set j (some (.dat y))) E) : tdSeq (tdPar i j (tdCons ta (tdCons tb tdNil))) u τ E := h1 _ _ fun x hx => h2 _ _ fun y hy => k x y hx hy
/-- .. without else -/
theorem tdSeq_if1 {c : TDT} {t1 u : TDS} {τ : Tau} {E : DEnds} (b : Bool) (h : ∀ (Q : Bool → Prop) (R : Exc → Prop), Q b → c (frz τ) Q R) (k1 : b = true → t1 τ { E with nx := fun τ' => u τ' E }) (k2 : b = false → u τ E) : tdSeq (tdIfS c t1 tdNext) u τ E := by
  refine h _ _ ?_
  cases b with
  | true => rw [if_pos rfl]; exact k1 rfl
  | false => rw [if_neg Bool.false_ne_true]; exact k2 rfl
theorem tdIf_by {c : TDT} {t1 t2 : TDS} {τ : Tau} {E : DEnds} (b : Bool) (h : ∀ (Q : Bool → Prop) (R : Exc → Prop), Q b → c (frz τ) Q R) (k1 : b = true → t1 τ E) (k2 : b = false → t2 τ E) : tdIfS c t1 t2 τ E := by
  refine h _ _ ?_
  cases b with
  | true => rw [if_pos rfl]; exact k1 rfl
  | false => rw [if_neg Bool.false_ne_true]; exact k2 rfl
theorem tdRet_by {t : TDE} {τ : Tau} {E : DEnds} (d : D) (h : ∀ (Q : D → Prop) (R : Exc → Prop), Q d → t (frz τ) Q R) (k : E.rt (.dat d)) : tdRet t τ E := h _ _ k
/-- a first value, then another one if it is true -/
theorem tdAndV_by {ta tb : TDE} {τ : Tau} {Q : D → Prop} {R : Exc → Prop} (a b : Bool) (h1 : ∀ (Q : D → Prop) (R : Exc → Prop), Q (.bl a) → ta τ Q R) (h2 : a = true → ∀ (Q : D → Prop) (R : Exc → Prop), Q (.bl b) → tb τ Q R) (q : Q (.bl (a && b))) : tdAndV ta tb τ Q R := by
  refine h1 _ _ ?_
  cases a with
  | true => exact h2 rfl _ _ q
  | false => exact q
theorem tdOrV_by {ta tb : TDE} {τ : Tau} {Q : D → Prop} {R : Exc → Prop} (a b : Bool) (h1 : ∀ (Q : D → Prop) (R : Exc → Prop), Q (.bl a) → ta τ Q R) (h2 : a = false → ∀ (Q : D → Prop) (R : Exc → Prop), Q (.bl b) → tb τ Q R) (q : Q (.bl (a || b))) : tdOrV ta tb τ Q R := by
  refine h1 _ _ ?_
  cases a with
  | true => exact q
  | false => exact h2 rfl _ _ q
theorem tdAnd_by {ta tb : TDT} {τ : Tau} {Q : Bool → Prop} {R : Exc → Prop} (a b : Bool) (h1 : ∀ (Q : Bool → Prop) (R : Exc → Prop), Q a → ta τ Q R) (h2 : a = true → ∀ (Q : Bool → Prop) (R : Exc → Prop), Q b → tb τ Q R) (q : Q (a && b)) : tdAnd ta tb τ Q R := by
  refine h1 _ _ ?_
  cases a with
  | true => exact h2 rfl _ _ q
  | false => exact q
theorem tdOr_by {ta tb : TDT} {τ : Tau} {Q : Bool → Prop} {R : Exc → Prop} (a b : Bool) (h1 : ∀ (Q : Bool → Prop) (R : Exc → Prop), Q a → ta τ Q R) (h2 : a = false → ∀ (Q : Bool → Prop) (R : Exc → Prop), Q b → tb τ Q R) (q : Q (a || b)) : tdOr ta tb τ Q R := by
  refine h1 _ _ ?_
  cases a with
  | true => exact q
  | false => exact h2 rfl _ _ q
theorem tdNot_by {ta : TDT} {τ : Tau} {Q : Bool → Prop} {R : Exc → Prop} (a : Bool) (h1 : ∀ (Q : Bool → Prop) (R : Exc → Prop), Q a → ta τ Q R) (q : Q (!a)) : tdNot ta τ Q R := h1 _ _ q
theorem tdTest_by {t : TDE} {τ : Tau} {Q : Bool → Prop} {R : Exc → Prop} (a : Bool) (h : ∀ (Q : D → Prop) (R : Exc → Prop), Q (.bl a) → t τ Q R) (q : Q a) : tdTest t τ Q R := h _ _ q
end D3
set_option Elab.async false
set_option linter.all false
set_option maxRecDepth 100000
set_option maxHeartbeats 4000000
namespace D3
open PySem PySem.Spec PyProof.Rows L2
/-- its instances may be asked for their class -/
structure ExcK (K : PySem.W.Frag) (C : Addr) : Prop where
  ga : PySem.W.findIn K (.ref C) "__getattribute__" = some (some (.builtin "BaseException.__getattribute__"))
  gg : PySem.W.findIn K (.ref C) "__getattr__" = some none
  ex : PySem.W.subIn K (.ref C) (.type "BaseException") = some true
  hd : PySem.W.hasDictIn K C = true
  ca : PySem.W.findIn K (.ref C) "__class__" = some (some (.builtin "object.__class__"))
  cn : PySem.W.specialIn K (.builtin "object.__class__") "__get__" = some (some (.builtin "getset_descriptor.__get__"))
  ct : PySem.W.takesIn K (.builtin "object.__class__") = some true
  mo : PySem.W.mroIn K C (.type "object") = some true
  ty : PySem.W.typeIn K (.ref C) = some (.type "type")
  kC : PySem.W.keepIn K (.ref C) = true
abbrev TDM := Tau → (Exc → Prop) → Prop
section
variable {K : PySem.W.Frag} {W : Wd} {Wx : WX} {X : Cx} {x : Str} {C : Addr} {p pos : Pos} {e e2 : Expr} {tr : TA} {dr : TDA}
@[simp] def tdMk0 (C : Addr) : TDM := fun _ R => R (.ref C, [])
@[simp] def tdMk1 (C : Addr) (f : Str) (u : TDA) : TDM := fun τ R => u τ (fun ds => one1 ds fun d => R (.ref C, [(f, d)])) R
@[simp] def tdMk2 (C : Addr) (f g : Str) (u : TDA) : TDM := fun τ R => u τ (fun ds => two ds fun d d' => R (.ref C, [(g, d'), (f, d)])) R
@[simp] def tdTry (K : PySem.W.Frag) (c : Value) (i : Nat) (tb : TDS) (ts : Addr → Value → Option Addr → TDS) : TDS := fun τ E => tb τ { E with ex := fun x τ' => ∃ b, PySem.W.exmOne K x.1 c = some b ∧
  (b = true → ∀ a d, ts a x.1 d (τ'.set i (some (.dat (.exc a d x.2)))) { nx := fun τ2 => E.nx (τ2.set i none), rt := E.rt, bk := fun τ2 => E.bk (τ2.set i none), ct := fun τ2 => E.ct (τ2.set i none) }) ∧ (b = false → E.ex x τ') }
/-- except c: without a name -/
@[simp] def tdTryO (K : PySem.W.Frag) (c : Value) (tb : TDS) (ts : Addr → Value → Option Addr → TDS) : TDS := fun τ E => tb τ { E with ex := fun x τ' => ∃ b, PySem.W.exmOne K x.1 c = some b ∧
  (b = true → ∀ a d, ts a x.1 d τ' { E with ex := fun _ _ => False }) ∧ (b = false → E.ex x τ') }
end
def valOf : V → Option Value
  | .ref a => some (.ref a)
  | .ty n => some (.type n)
  | _ => none
def valsD : List D → Option (List Value)
  | [] => some []
  | .v v :: ds => (valOf v).bind fun x => (valsD ds).map (x :: ·)
  | _ => none
/-- whether of a class, of one of some classes -/
def clsIsD (K : PySem.W.Frag) (cls : Value) : D → Option Bool
  | .v v => (valOf v).bind (PySem.W.kitOne K cls)
  | .tup ds => (valsD ds).bind (PySem.W.kitAny K cls)
  | _ => none
@[simp] theorem clsIsD_ref {K : PySem.W.Frag} {cls : Value} {C : Addr} : clsIsD K cls (.v (.ref C)) = PySem.W.kitOne K cls (.ref C) := rfl
@[simp] theorem clsIsD_ty {K : PySem.W.Frag} {cls : Value} {n : String} : clsIsD K cls (.v (.ty n)) = PySem.W.kitOne K cls (.type n) := rfl
@[simp] theorem clsIsD_tup {K : PySem.W.Frag} {cls : Value} {ds : List D} : clsIsD K cls (.tup ds) = (valsD ds).bind (PySem.W.kitAny K cls) := rfl
@[simp] theorem valsD_nil : valsD [] = some [] := rfl
@[simp] theorem valsD_ref {C : Addr} {ds : List D} : valsD (.v (.ref C) :: ds) = (valsD ds).map (.ref C :: ·) := rfl
@[simp] theorem valsD_ty {n : String} {ds : List D} : valsD (.v (.ty n) :: ds) = (valsD ds).map (.type n :: ·) := rfl
@[simp] theorem kitAny_nil {K : PySem.W.Frag} {t : Value} : PySem.W.kitAny K t [] = some false := rfl
def fIsX (K : PySem.W.Frag) (a : Addr) (cls : Value) (d : Option Addr) : FD := fun ds Q => match ds with
  | [.exc a' d' _, c] => a' = a ∧ d' = d ∧ ∃ D b, cls = .ref D ∧ ExcK K D ∧ clsIsD K cls c = some b ∧ Q (.bl b)
  | _ => False
@[simp] theorem fIsX_exc {K : PySem.W.Frag} {a a' : Addr} {cls : Value} {d d' : Option Addr} {gs : List (Str × D)} {c : D} {Q : D → Prop} : fIsX K a cls d [.exc a' d' gs, c] Q = (a' = a ∧ d' = d ∧ ∃ D b, cls = .ref D ∧ ExcK K D ∧ clsIsD K cls c = some b ∧ Q (.bl b)) := rfl
def fXa (K : PySem.W.Frag) (a : Addr) (cls : Value) (d : Option Addr) (n : Str) (x : D) (Q : D → Prop) : Prop := match x with
  | .exc a' d' gs => a' = a ∧ d' = d ∧ ∃ C y, cls = .ref C ∧ ExcK K C ∧ PySem.W.findIn K (.ref C) n = some none ∧ gs.lookup n = some y ∧ Q y
  | _ => False
@[simp] theorem fXa_exc {K : PySem.W.Frag} {a a' : Addr} {cls : Value} {d d' : Option Addr} {n : Str} {gs : List (Str × D)} {Q : D → Prop} : fXa K a cls d n (.exc a' d' gs) Q = (a' = a ∧ d' = d ∧ ∃ C y, cls = .ref C ∧ ExcK K C ∧ PySem.W.findIn K (.ref C) n = some none ∧ gs.lookup n = some y ∧ Q y) := rfl
@[simp] def tdXa (K : PySem.W.Frag) (a : Addr) (cls : Value) (d : Option Addr) (n : Str) (t : TDE) : TDE := fun τ Q R => t τ (fun x => fXa K a cls d n x Q) R
end D3
set_option Elab.async false
set_option linter.all false
set_option maxRecDepth 100000
set_option maxHeartbeats 4000000
namespace D3
open PySem PySem.Spec PyProof.Rows L2
/-- a class's statements -/
def clsBody : Stmt → List Stmt
  | .ClassDef _ _ _ body _ _ _ _ _ _ _ => body
  | _ => []
def meth (st : Stmt) (j : Nat) : Stmt := (clsBody st).getD j (.Pass ⟨0, 0, 0, 0⟩)
end D3
set_option Elab.async false
set_option linter.all false
set_option maxRecDepth 100000
set_option maxHeartbeats 4000000
namespace D3
open PySem PySem.Spec PyProof.Rows L2
structure Hd where
  c : Value
  i : Option Nat
  ts : Addr → Value → Option Addr → TS
inductive HdsN (X : Cx) : List ExceptHandler → List Hd → Prop
  | nil : HdsN X [] []
  | cons {x : Str} {c : Value} {ts : Addr → Value → Option Addr → TS} {b₀ : Stmt} {suite : List Stmt} {np pos' : Pos} {hds : List ExceptHandler} {l : List Hd} (hc : Names X x c)
      (hsu : ∀ (a : Addr) (oe : Obj) (cls : Value) (d : Option Addr) (pn : List (Addr × Obj)), Zc cls d oe → (∃ vs, oe.data = .fields vs) → PSs (X.suite a ((a, oe) :: pn)) (b₀ :: suite) (ts a cls d)) (r : HdsN X hds l) :
      HdsN X (.ExceptHandler (some (.Name x np)) none (b₀ :: suite) pos' :: hds) (⟨c, none, ts⟩ :: l)
  | name {x n : Str} {i : Nat} {c : Value} {ts : Addr → Value → Option Addr → TS} {b₀ : Stmt} {suite : List Stmt} {np pos' : Pos} {hds : List ExceptHandler} {l : List Hd} (hi : X.N[i]? = some n) (hln : X.env.kindOf n = some .local) (hc : Names X x c)
      (hsu : ∀ (a : Addr) (oe : Obj) (cls : Value) (d : Option Addr) (pn : List (Addr × Obj)), Zc cls d oe → (∃ vs, oe.data = .fields vs) → PSs (X.suite a ((a, oe) :: pn)) (b₀ :: suite) (ts a cls d)) (r : HdsN X hds l) :
      HdsN X (.ExceptHandler (some (.Name x np)) (some n) (b₀ :: suite) pos' :: hds) (⟨c, some i, ts⟩ :: l)
structure DHd where
  c : Value
  i : Option Nat
  ts : Addr → Value → Option Addr → TDS
/-- what the clauses make of an exception -/
def exMany (K : PySem.W.Frag) (E : DEnds) : List DHd → Exc → Tau → Prop
  | [] => E.ex
  | h :: r => fun x τ' => ∃ b, PySem.W.exmOne K x.1 h.c = some b ∧ (b = true → ∀ a d, match h.i with
      | none => h.ts a x.1 d τ' { E with ex := fun _ _ => False }
      | some i => h.ts a x.1 d (τ'.set i (some (.dat (.exc a d x.2)))) { nx := fun τ2 => E.nx (τ2.set i none), rt := E.rt, bk := fun τ2 => E.bk (τ2.set i none), ct := fun τ2 => E.ct (τ2.set i none) }) ∧ (b = false → exMany K E r x τ')
@[simp] def tdTryM (K : PySem.W.Frag) (l : List DHd) (tb : TDS) : TDS := fun τ E => tb τ { E with ex := exMany K E l }
section
variable {K : PySem.W.Frag} {W : Wd} {Wx : WX} {X : Cx}
inductive DHds (X : Cx) (K : PySem.W.Frag) (W : Wd) : List ExceptHandler → List Hd → List DHd → Prop
  | nil : DHds X K W [] [] []
  | cons {x : Str} {c : Value} {ts : Addr → Value → Option Addr → TS} {tds : Addr → Value → Option Addr → TDS} {b₀ : Stmt} {suite : List Stmt} {np pos' : Pos} {hds : List ExceptHandler} {l : List Hd} {dl : List DHd} (hc : Names X x c)
      (hsu : ∀ (a : Addr) (oe : Obj) (cls : Value) (d : Option Addr) (pn : List (Addr × Obj)), Zc cls d oe → (∃ vs, oe.data = .fields vs) → DSs (X.suite a ((a, oe) :: pn)) K W (fun _ _ _ _ => False) (b₀ :: suite) (ts a cls d) (tds a cls d)) (r : DHds X K W hds l dl) :
      DHds X K W (.ExceptHandler (some (.Name x np)) none (b₀ :: suite) pos' :: hds) (⟨c, none, ts⟩ :: l) (⟨c, none, tds⟩ :: dl)
  | name {x n : Str} {i : Nat} {c : Value} {ts : Addr → Value → Option Addr → TS} {tds : Addr → Value → Option Addr → TDS} {b₀ : Stmt} {suite : List Stmt} {np pos' : Pos} {hds : List ExceptHandler} {l : List Hd} {dl : List DHd} (hc : Names X x c)
      (hsu : ∀ (a : Addr) (oe : Obj) (cls : Value) (d : Option Addr) (pn : List (Addr × Obj)), Zc cls d oe → (∃ vs, oe.data = .fields vs) → DSs (X.suite a ((a, oe) :: pn)) K W (fun _ _ _ _ => False) (b₀ :: suite) (ts a cls d) (tds a cls d)) (r : DHds X K W hds l dl)
      (hi : X.N[i]? = some n) (hln : X.env.kindOf n = some .local) :
      DHds X K W (.ExceptHandler (some (.Name x np)) (some n) (b₀ :: suite) pos' :: hds) (⟨c, some i, ts⟩ :: l) (⟨c, some i, tds⟩ :: dl)
theorem DHds.ps : ∀ {hds : List ExceptHandler} {l : List Hd} {dl : List DHd}, DHds X K W hds l dl → HdsN X hds l
  | _, _, _, .nil => .nil
  | _, _, _, .cons hc hsu r => .cons hc (fun a oe cls d pn h1 h2 => (hsu a oe cls d pn h1 h2).ps) r.ps
  | _, _, _, .name hc hsu r hi hln => .name hi hln hc (fun a oe cls d pn h1 h2 => (hsu a oe cls d pn h1 h2).ps) r.ps
@[simp] theorem exMany_nil {E : DEnds} : exMany K E [] = E.ex := rfl
end
end D3
set_option Elab.async false
set_option linter.all false
set_option maxRecDepth 100000
set_option maxHeartbeats 4000000
namespace D3
open PySem PySem.Spec PyProof.Rows L2
section
variable {K : PySem.W.Frag} {W : Wd} {Wx : WX} {X : Cx} {a b c e : Expr} {p pos : Pos} {tr : TA} {dr : TDA} {tg : Expr}
def stepsD (lo c : Int) (n : Nat) : List D := (List.range n).map fun i => D.int (lo + (i : Nat) * c)
@[simp] theorem stepsD_length {lo c : Int} {n : Nat} : (stepsD lo c n).length = n := by simp [stepsD]
/-- downwards by ones -/
def rngDn (ds : List D) (Q : List D → Prop) : Prop := match ds with
  | [.v (.int i), .v (.int j), .v (.int k)] => k = -1 ∧ (-(2 ^ 62) ≤ i ∧ i < 2 ^ 62 ∧ -(2 ^ 62) ≤ j ∧ j < 2 ^ 62) ∧ Q (stepsD i (-1) (i - j).toNat)
  | _ => False
@[simp] theorem rngDn_int {i j k : Int} {Q : List D → Prop} : rngDn [.v (.int i), .v (.int j), .v (.int k)] Q = (k = -1 ∧ (-(2 ^ 62) ≤ i ∧ i < 2 ^ 62 ∧ -(2 ^ 62) ≤ j ∧ j < 2 ^ 62) ∧ Q (stepsD i (-1) (i - j).toNat)) := rfl
@[simp] def idRDn (u : TDA) : TDI := fun τ Q R => u τ (fun ds => rngDn ds Q) R
/-- the least, the greatest of a list of whole numbers -/
def fMin : FD := fun ds Q => match ds with
  | [.lst xs] => ∃ ns : List Int, xs = ns.map D.int ∧ 0 < ns.length ∧ ∀ m, m ∈ ns → (∀ y, y ∈ ns → m ≤ y) → Q (.int m)
  | _ => False
def fMax : FD := fun ds Q => match ds with
  | [.lst xs] => ∃ ns : List Int, xs = ns.map D.int ∧ 0 < ns.length ∧ ∀ m, m ∈ ns → (∀ y, y ∈ ns → y ≤ m) → Q (.int m)
  | _ => False
@[simp] theorem fMin_lst {xs : List D} {Q : D → Prop} : fMin [.lst xs] Q = ∃ ns : List Int, xs = ns.map D.int ∧ 0 < ns.length ∧ ∀ m, m ∈ ns → (∀ y, y ∈ ns → m ≤ y) → Q (.int m) := rfl
@[simp] theorem fMax_lst {xs : List D} {Q : D → Prop} : fMax [.lst xs] Q = ∃ ns : List Int, xs = ns.map D.int ∧ 0 < ns.length ∧ ∀ m, m ∈ ns → (∀ y, y ∈ ns → y ≤ m) → Q (.int m) := rfl
end
def rowOf : D → List Nat
  | .v (.str s) => s.cps.toList
  | _ => []
def rowsOf : D → Rows
  | .lst xs => xs.map rowOf
  | _ => []
def numOf : D → Int
  | .v (.int i) => i
  | _ => 0
@[simp] theorem rowOf_sD {l : List Nat} : rowOf (sD l) = l := by simp [rowOf]
@[simp] theorem rowsOf_rows {rows : Rows} : rowsOf (rowsD rows) = rows := by
  simp [rowsOf, Function.comp_def]
@[simp] theorem numOf_int {i : Int} : numOf (.int i) = i := rfl
theorem atI_neg {α : Type} {xs : List α} (h : xs ≠ []) : atI xs (-1) = some (xs.getLast h) := by
  have h1 : 0 < xs.length := List.length_pos_iff.mpr h
  unfold atI ixN
  rw [if_neg (by omega), if_pos (by omega)]
  have e : ((-1 : Int) + (xs.length : Int)).toNat = xs.length - 1 := by omega
  simp only [e]
  rw [List.getLast_eq_getElem]
  exact List.getElem?_eq_getElem _
end D3
set_option Elab.async false
set_option linter.all false
set_option maxRecDepth 100000
set_option maxHeartbeats 4000000
namespace D3
open PySem PySem.Spec PyProof.Rows L2
theorem numsD_cut {lo : Int} {n : Nat} {pre post : List D} {d : D} (h : numsD lo n = pre ++ d :: post) : pre.length < n ∧ d = .int (lo + (pre.length : Nat)) := by
  have hl := congrArg List.length h
  rw [numsD_length, List.length_append, List.length_cons] at hl
  have h1 := congrArg (fun l : List D => l[pre.length]?) h
  have hlt : pre.length < n := by omega
  simp only [numsD, List.getElem?_map] at h1
  rw [List.getElem?_range hlt, List.getElem?_append_right (Nat.le_refl _), Nat.sub_self] at h1
  exact ⟨hlt, (Option.some.inj h1).symm⟩
theorem map_cut {α : Type} {f : α → D} {xs : List α} {pre post : List D} {d : D} (h : xs.map f = pre ++ d :: post) : ∃ x ys zs, xs = ys ++ x :: zs ∧ d = f x ∧ pre = ys.map f ∧ post = zs.map f := by
  obtain ⟨ys, xs', rfl, h1, h2⟩ := List.map_eq_append_iff.mp h
  obtain ⟨x, zs, rfl, h3, h4⟩ := List.map_eq_cons_iff.mp h2
  exact ⟨x, ys, zs, rfl, h3.symm, h1.symm, h4.symm⟩
theorem fIx_row {rows : Rows} {j : Nat} {r : List Nat} {Q : D → Prop} (h : rows[j]? = some r) (q : Q (sD r)) : fIx (rowsD rows) (.int (j : Nat)) Q := ⟨_, atI_of (by rw [List.getElem?_map, h]; rfl), q⟩
theorem fIx_sign {r : List Nat} {k c : Nat} {Q : D → Prop} (hl : r.length ≤ 16777216) (h : r[k]? = some c) (q : Q (sD [c])) : fIx (sD r) (.int (k : Nat)) Q := ⟨by simpa using hl, c, by rw [mk_cps]; exact atI_of h, q⟩
@[simp] theorem cpow {i j : Int} : CPow i j = (0 ≤ j ∧ j ≤ 1000000 ∧ i.natAbs < 2 ^ 64) := rfl
theorem atI_last {α : Type} {l : List α} {x : α} : atI (l ++ [x]) (-1) = some x := by
  rw [atI_neg (by simp)]
  simp
theorem cutD_tail {d : D} {ds : List D} : cutD (d :: ds) (some 1) none = ds := by
  unfold cutD
  rw [show HT.sIx (d :: ds).length 0 (some 1) = min 1 (d :: ds).length from HT.sIx_nat _ _ 1, show HT.sIx (d :: ds).length (d :: ds).length none = (d :: ds).length from rfl]
  rw [show min 1 (d :: ds).length = 1 from by simp]
  simp
def isNonD : D → Bool
  | .v .non => true
  | _ => false
@[simp] theorem isNonD_non : isNonD (.v .non) = true := rfl
@[simp] theorem isNonD_lst {ds : List D} : isNonD (.lst ds) = false := rfl
@[simp] theorem isNonD_tup {ds : List D} : isNonD (.tup ds) = false := rfl
@[simp] theorem isNonD_int {i : Int} : isNonD (.int i) = false := rfl
@[simp] theorem isNonD_str {i : Str} : isNonD (.str i) = false := rfl
theorem Is.non {K : PySem.W.Frag} {I : Hp} {x : V} {d : D} (h : Is K I x d) : decide (x = .non) = isNonD d := by
  cases h with
  | v => cases x <;> rfl
  | _ => rfl
def fIsN (n : Bool) : TD2 := fun x y Q => match y with
  | .v .non => Q (.bl (n ^^ isNonD x))
  | _ => False
@[simp] theorem fIsN_non {n : Bool} {x : D} {Q : D → Prop} : fIsN n x (.v .non) Q = Q (.bl (n ^^ isNonD x)) := rfl
section
variable {K : PySem.W.Frag} {W : Wd} {Wx : WX} {X : Cx} {a : Expr} {ta : TE} {da : TDE} {pos : Pos}
theorem R2Sim.isN : R2Sim K W (fun x y H Q => y = .non ∧ Q (.bl (decide (x = .non))) H) (fIsN false) := fun I H x y dx dy Q G ok hx hy q hq => by
  unfold fIsN at q
  split at q
  · cases hy
    exact ⟨rfl, hq _ _ I H q (by rw [hx.non, Bool.false_xor]; exact .v _) (Later.refl ok)⟩
  · exact q.elim
theorem de_isN {j : Nat} {p : Pos} (ha : DE X K W Wx a ta da) : DE X K W Wx (.Compare a [.Is] [.Constant .none j p] pos) (tOp (fun x y H Q => y = .non ∧ Q (.bl (decide (x = .non))) H) ta (tC .non)) (tdOp (fIsN false) da (tdC (.v .non))) := by
  have hk := ha.k; subst hk
  exact de_cmp op_isN .isN ha de_non (nomark _)
end
theorem tdSeq_setX {i : Nat} {t : TDX} {u : TDS} {τ : Tau} {E : DEnds} (P : SD → Prop) (h : ∀ (Q : SD → Prop) (R : Exc → Prop), (∀ s, P s → Q s) → t τ Q R) (k : ∀ s, P s → u (τ.set i (some s)) E) : tdSeq (tdSetX t i) u τ E := h _ _ k
end D3
set_option Elab.async false
set_option linter.all false
set_option maxRecDepth 100000
set_option maxHeartbeats 4000000
namespace D3
open PySem PySem.Spec PyProof.Rows L2
section
variable {K : PySem.W.Frag} {W : Wd} {Wx : WX} {X : Cx} {o e : Expr} {to te : TE} {dO de : TDE} {pos : Pos}
@[simp] def tdSplit (t u : TDE) : TDO := fun τ Q R => t τ (fun x => onStr x fun a => u τ (fun y => onStr y fun b => (b.length == 0) = false ∧ a.length + 2 ≤ sizeLine ∧ Q ((Txt.split a b).map D.str)) R) R
end
end D3
set_option Elab.async false
set_option linter.all false
set_option maxRecDepth 100000
set_option maxHeartbeats 4000000
namespace D3
open PySem PySem.Spec PyProof.Rows L2
section
variable {X : Cx} {CX : CXT} {k : Nat} {f C : Addr} {fd : FuncData} {ps : List Str} {sp : Sp} {E : L2.St → XK} {x m : Str} {p pos apos : Pos} {e o : Expr} {es : List Expr} {ta : TE} {t : TA}
theorem RoomG.make {A : Around} (r : RoomG (k + 1) A) (C : Addr) (us : List Value) (kw : List (Str × Value)) : RoomG k (A.under (.builtin "type.__call__" ⟨.ref C :: us, kw⟩)) := ⟨r.r.make C us kw, r.g⟩
theorem run_fnG {pins : List (Addr × Obj)} {σ : L2.St} {H : Hp} {s : Shared} {Q : VK} {us : List Value} {vs : List V} (F : FnG X.prog X.w X.K X.mg X.base CX k f fd ps sp) (hr : RoomG k X.A) (hb : Binds X.K fd ps []) (hx : ∀ σ, PassesAt CX X σ (E σ))
    (I : L2.Inv X pins σ H s) (r : Vals vs us) (h : sp vs H Q (E σ)) : wpAny (model X.prog X.w) X.A (call (.ref f) us) (EP X pins σ Q) X.xe s := by
  have hl : us.length = ps.length := r.length.symm.trans (F.len _ _ _ _ h)
  have b := hb s us I.kIn (by rw [List.append_nil]; exact hl)
  rw [List.append_nil] at b
  refine wpAny_call (codeAny_mono (F.run X.A X.stack s H ⟨us, []⟩ us vs Q (E σ) hr I.env0 b r h) fun r z hz => ?_)
  match r, hz with
  | .error e, hz => exact hx σ pins H s e z I hz
  | .ok (.ret u), hz => exact I.after hz
def tMethE (C : Addr) (m : Str) (sp : Sp) (E : L2.St → XK) (ta : TE) (t : TA) : TE := fun σ H Q => ta σ H fun x H1 => ∃ a dx fs, x = .ref a ∧ H1 a = some (.ins C dx fs) ∧ fs.lookup m = none ∧ t σ H1 fun vs H2 => sp (x :: vs) H2 Q (E σ)
theorem pe_methG {pl : Sem Bool} (he : PE X o ta) (c : Cls X.K C) (hm : Meth X.K C m f) (F : FnG X.prog X.w X.K X.mg X.base CX k f fd ps sp) (hr : RoomG k X.A) (hb : Binds X.K fd ps []) (hx : ∀ σ, PassesAt CX X σ (E σ)) (ha : PA X (e :: es) t)
    (hst : starEach (e :: es) X.env = (false, eval e X.env) :: starEach es X.env := by rfl) (hpl : (backTo pos (starEach es X.env)).any (·.1) = false := by rfl)
    (ht : eval (.Call (.Attribute o m apos) (e :: es) [] pos) X.env = (do
      let ov ← eval o X.env
      standAt apos.atName
      let (f, first) ← holding [ov] (getMethod ov m pl)
      callWith pos f first (backTo pos (starEach (e :: es) X.env)) (backToKw pos (keywordEach [] X.env))) := by rfl) :
    PE X (.Call (.Attribute o m apos) (e :: es) [] pos) (tMethE C m sp E ta t) := by
  refine ⟨fun pins s σ H Q I h => ?_⟩
  refine PySem.W.methodCall_KW (pl := pl) (thn (he.run pins s σ H _ I h) fun u s1 ⟨x, H1, I1, rx, a, dx, fs, ex, ea, l, q⟩ => ?_) ht
  subst ex
  obtain rfl : u = Value.ref a := rx
  refine getmeth_ok I1 ea c hm l ?_
  refine PySem.W.callWith_K (first := [.ref a]) (h₀ := X.base) I.ok.mod.kin hm.kp (thn (ha.run pos pins s1 σ H1 _ I1 q) fun us s2 ⟨vs, H2, I2, r, q2⟩ => ⟨I2.kIn, ?_⟩) hst hpl
  exact run_fnG (us := .ref a :: us) (vs := .ref a :: vs) F hr hb hx I2 (.cons rfl r) q2
theorem pe_methG0 {pl : Sem Bool} (he : PE X o ta) (c : Cls X.K C) (hm : Meth X.K C m f) (F : FnG X.prog X.w X.K X.mg X.base CX k f fd ps sp) (hr : RoomG k X.A) (hb : Binds X.K fd ps []) (hx : ∀ σ, PassesAt CX X σ (E σ))
    (ht : eval (.Call (.Attribute o m apos) [] [] pos) X.env = (do
      let ov ← eval o X.env
      standAt apos.atName
      let (f, first) ← holding [ov] (getMethod ov m pl)
      callWith pos f first (backTo pos (starEach [] X.env)) (backToKw pos (keywordEach [] X.env))) := by rfl) :
    PE X (.Call (.Attribute o m apos) [] [] pos) (tMethE C m sp E ta tNil) := by
  refine ⟨fun pins s σ H Q I h => ?_⟩
  refine PySem.W.methodCall_KW (pl := pl) (thn (he.run pins s σ H _ I h) fun u s1 ⟨x, H1, I1, rx, a, dx, fs, ex, ea, l, q⟩ => ?_) ht
  subst ex
  obtain rfl : u = Value.ref a := rx
  refine getmeth_ok I1 ea c hm l ?_
  exact PySem.W.callWith_K0 (first := [.ref a]) I1.kIn hm.kp (run_fnG (us := [.ref a]) (vs := [.ref a]) F hr hb hx I1 (.cons rfl .nil) q)
def tMakeE (C : Addr) (sp : Sp) (E : L2.St → XK) (t : TA) : TE := fun σ H Q => t σ H fun vs H1 => ∀ x dx, H1 x = none → H1 dx = none → dx ≠ x →
  sp (.ref x :: vs) (upd (upd H1 dx (.own x)) x (.ins C dx [])) (fun v H2 => v = .non ∧ Q (.ref x) H2) (E σ)
theorem run_makeG {pins : List (Addr × Obj)} {σ : L2.St} {H : Hp} {s : Shared} {Q : VK} {us : List Value} {vs : List V} (M : Mk X.K C f) (F : FnG X.prog X.w X.K X.mg X.base CX k f fd ps sp) (hr : RoomG (k + 1) X.A) (hb : Binds X.K fd ps [])
    (hx : ∀ σ, PassesAt CX X σ (E σ)) (I : L2.Inv X pins σ H s) (r : Vals vs us)
    (h : ∀ x dx, H x = none → H dx = none → dx ≠ x → sp (.ref x :: vs) (upd (upd H dx (.own x)) x (.ins C dx [])) (fun v H2 => v = .non ∧ Q (.ref x) H2) (E σ)) :
    wpAny (model X.prog X.w) X.A (call (.ref C) us) (EP X pins σ Q) X.xe s := by
  have hq := h (s.heap.objs.size + 1) s.heap.objs.size (I.hok.fresh (Nat.le_succ _)) (I.hok.fresh (Nat.le_refl _)) (Nat.ne_of_lt (Nat.lt_succ_self _))
  have I2 := L2.Inv.made (C := C) I
  have r2 : Vals (V.ref (s.heap.objs.size + 1) :: vs) (Value.ref (s.heap.objs.size + 1) :: us) := .cons rfl r
  have hl : (Value.ref (s.heap.objs.size + 1) :: us).length = ps.length := by
    have e := r2.length
    rw [F.len _ _ _ _ hq] at e
    exact e.symm
  have b := hb _ (Value.ref (s.heap.objs.size + 1) :: us) I2.kIn (by rw [List.append_nil]; exact hl)
  rw [List.append_nil] at b
  refine wpAny_call (make_map (f := f) I.kIn M.makes M.init (beq_iff_eq.mp M.fn) (codeAny_mono (F.run _ X.stack _ _ ⟨Value.ref (s.heap.objs.size + 1) :: us, []⟩ (Value.ref (s.heap.objs.size + 1) :: us) _ _ (E σ) (hr.make C us [])
    (I2.env0.make C us []) b r2 hq) fun r s' hq' => ?_))
  cases r with
  | error e => exact hx σ pins _ _ e s' I2 hq'
  | ok fl =>
    cases fl with
    | ret u =>
      obtain ⟨v, H', I3, rv, ev, q3⟩ := I2.after hq'
      subst ev
      exact ⟨rv, ⟨V.ref (s.heap.objs.size + 1), H', I3, rfl, q3⟩⟩
    | next => exact False.elim hq'
    | brk => exact False.elim hq'
    | cont => exact False.elim hq'
theorem pe_makeG (M : Mk X.K C f) (F : FnG X.prog X.w X.K X.mg X.base CX k f fd ps sp) (hr : RoomG (k + 1) X.A) (hg : Gl X x) (hm : X.mg x = some (.ref C)) (hb : Binds X.K fd ps []) (hx : ∀ σ, PassesAt CX X σ (E σ))
    (ha : PA X (e :: es) t) (hdb : (x == ("__debug__" : Str)) = false := by decide) (he : starEach (e :: es) X.env = (false, eval e X.env) :: starEach es X.env := by rfl) (hpl : (backTo pos (starEach es X.env)).any (·.1) = false := by rfl) :
    PE X (.Call (.Name x p) (e :: es) [] pos) (tMakeE C sp E t) := by
  refine ⟨fun pins s σ H Q I h => wpAny_Call_Name_kw (ld_glob I hg hm (PySem.W.callWith_K (h₀ := X.base) I.ok.mod.kin M.kp (thn (ha.run pos pins s σ H _ I h) fun us s1 ⟨vs, H1, J, rv, q⟩ => ⟨J.kIn, ?_⟩) he hpl) hdb)⟩
  exact run_makeG M F hr hb hx J rv q
end
def putD (f : Str) (d : D) : List (Str × D) → List (Str × D)
  | [] => [(f, d)]
  | (g, x) :: r => if g = f then (g, d) :: r else (g, x) :: putD f d r
section
variable {K : PySem.W.Frag} {W : Wd} {Wx : WX} {X : Cx} {a b e o : Expr} {es : List Expr} {ta te to : TE} {da de dO : TDE} {tr : TA} {dr : TDA} {p pos apos : Pos} {C f : Addr} {x m : Str}
theorem IsFs.put {I : Hp} {f : Str} {v : V} {d : D} (h : Is K I v d) : ∀ {vs : List (Str × V)} {ds : List (Str × D)}, IsFs K I vs ds → IsFs K I (putF f v vs) (putD f d ds)
  | [], _, .nil => .cons h .nil
  | (g, y) :: vs, _, .cons h1 r => by
    unfold putF putD
    split
    · exact .cons h r
    · exact .cons h1 (IsFs.put h r)
def onIns (C : Addr) (x : D) (P : List (Str × D) → Prop) : Prop := match x with
  | .ins C' fs => C' = C ∧ P fs
  | _ => False
@[simp] theorem onIns_ins {C : Addr} {fs : List (Str × D)} {P : List (Str × D) → Prop} : onIns C (.ins C fs) P = P fs := by simp [onIns]
theorem ins_of {I : Hp} {v : V} {d : D} {P : List (Str × D) → Prop} (h : Is K I v d) (q : onIns C d P) : ∃ a dx vs fs, v = .ref a ∧ d = .ins C fs ∧ I a = some (.ins C dx vs) ∧ IsFs K I vs fs ∧ P fs := by
  unfold onIns at q
  split at q
  · obtain ⟨rfl, q⟩ := q
    obtain ⟨a, dx, vs, rfl, h1, h2⟩ := is_ins h
    exact ⟨a, dx, vs, _, rfl, rfl, h1, h2, q⟩
  · exact q.elim
/-- o.f -/
@[simp] def tdFld (C : Addr) (f : Str) (t : TDE) : TDE := fun τ Q R => t τ (fun x => onIns C x fun fs => ∃ d, fs.lookup f = some d ∧ Q d) R
theorem de_fld {f : Str} (c : Cls K C) (n : NoAttr K C f) (ho : DE X K W Wx o to dO) (hb : attributeBase o f X.env (eval o X.env) = eval o X.env := by rfl) : DE X K W Wx (.Attribute o f pos) (tFld K to f) (tdFld C f dO) := by
  have hk := ho.k; subst hk
  exact ⟨rfl, pe_fld ho.pe hb, fun I H σ τ Q R G ok rp t hq hx => ho.sim I H σ τ _ R _ ok rp t (fun v d I1 H1 q1 i1 l1 => by
    obtain ⟨a, dx, vs, fs, rfl, rfl, h1, h2, d2, h3, q⟩ := ins_of i1 q1
    obtain ⟨w, h4, h5⟩ := h2.look h3
    exact ⟨a, C, dx, vs, w, rfl, W.ex l1.ok _ _ h1, c, n, h4, hq w d2 I1 H1 q h5 l1⟩) hx⟩
/-- self.f = e -/
@[simp] def tdSetFld (i : Nat) (C : Addr) (f : Str) (t : TDE) : TDS := fun τ E => ∃ p fs, τ[i]? = some (some (.obj p C fs)) ∧ fs.length < 1000 ∧ t τ (fun d => E.nx (τ.set i (some (.obj p C (putD f d fs))))) (fun x => E.ex x τ)
theorem ds_setFld (i : Nat) {f : Str} {pos' px : Pos} (c : Cls K C) (n : NoAttr K C f) (he : DE X K W Wx e te de) (hN : X.N[i]? = some x := by rfl) (hv : Vis X.env.scope x := by first | exact Or.inl rfl | exact Or.inr (Or.inl rfl) | exact Or.inr (Or.inr rfl)) (hd : (x == ("__debug__" : Str)) = false := by decide)
    (hcd : (x == ("__classdict__" : Str)) = false := by decide) (hs : swapsWith e (some (.Attribute (.Name x px) f pos')) pos.line X.env = pure false := by rfl) :
    DS X K W Wx (.Assign [.Attribute (.Name x px) f pos'] e pos) (sFld K (tVar i) te f) (tdSetFld i C f de) := by
  have hk := he.k; subst hk
  refine ⟨rfl, ps_fld (pe_var hN hv hd hcd) he.pe hs, fun I H σ τ E D ok rp t r => ?_⟩
  obtain ⟨p, fs, e0, hl, t⟩ := t
  refine he.sim I H σ τ _ _ _ ok rp t (fun v d I1 H1 q1 i1 l1 => ?_) (r.xok rp)
  have rp1 := rp.later l1
  obtain ⟨w, h1, dx, vs, rfl, hp, hi, hf, al⟩ := rp1.at_ i _ e0
  obtain ⟨rp2, la⟩ := rp1.changed (u := .ins C dx (putF f v vs)) (s' := .obj p C (putD f d fs)) l1.ok e0 h1 rfl ⟨dx, putF f v vs, rfl, upd_same, hi, hf, al.put i1⟩ fun a o => o
  exact ⟨_, h1, p, C, dx, vs, rfl, hp, c, n, by rw [al.len]; exact hl, r.nx _ _ I1 _ q1 rp2 ((rp.own l1).trans la)⟩
@[simp] def tdMeth (C : Addr) (m : Str) (n : Nat) (t : TF) (W : Wd) (tO : TDE) (u : TDA) : TDE := fun τ Q R => tO τ (fun x => onIns C x fun fs => fs.lookup m = none ∧ u τ (fun ds => (x :: ds).length = n ∧ t W (x :: ds) Q fun _ => False) R) R
@[simp] def tdMethX (C : Addr) (m : Str) (n : Nat) (t : TF) (W : Wd) (tO : TDE) (u : TDA) : TDE := fun τ Q R => tO τ (fun x => onIns C x fun fs => fs.lookup m = none ∧ u τ (fun ds => (x :: ds).length = n ∧ t W (x :: ds) Q R) R) R
@[simp] def tdMethO (C : Addr) (m : Str) (n : Nat) (t : TFO) (W : Wd) (tO : TDE) (u : TDA) : TDO := fun τ Q R => tO τ (fun x => onIns C x fun fs => fs.lookup m = none ∧ u τ (fun ds => (x :: ds).length = n ∧ t W (x :: ds) Q fun _ => False) R) R
@[simp] def tdMethOX (C : Addr) (m : Str) (n : Nat) (t : TFO) (W : Wd) (tO : TDE) (u : TDA) : TDO := fun τ Q R => tO τ (fun x => onIns C x fun fs => fs.lookup m = none ∧ u τ (fun ds => (x :: ds).length = n ∧ t W (x :: ds) Q R) R) R
variable {n k : Nat} {t : TF} {tO : TFO} {fd : FuncData} {ps : List Str} {CX : CXT} {pl : Sem Bool}
theorem SimE.meth (ho : SimE K W Wx to dO) (h : SimA K W Wx tr dr) : SimE K W Wx (tMethE C m (spD K n t) (fun _ => E0) to tr) (tdMeth C m n t W dO dr) := fun I H σ τ Q R G ok rp q hq hx =>
  ho I H σ τ _ R _ ok rp q (fun v d I1 H1 q1 i1 l1 => by
    obtain ⟨a, dx, vs, fs, rfl, rfl, h1, h2, h3, q⟩ := ins_of i1 q1
    exact ⟨a, dx, vs, rfl, W.ex l1.ok _ _ h1, h2.lookN h3, h I1 H1 σ τ _ R _ l1.ok (rp.later l1) q (fun vs2 ds I2 H2 q2 i2 l2 =>
      ⟨W, I2, _ :: ds, Q, _, l2.ok, .cons (i1.mono l2.ex) i2, q2.1, q2.2, fun v d I3 H3 q3 i3 l3 => hq v d I3 H3 q3 i3 ((l1.trans l2).trans l3), fun _ _ _ _ _ z _ _ => z.elim⟩) (hx.later l1)⟩) hx
theorem SimO.meth (ho : SimE K W Wx to dO) (h : SimA K W Wx tr dr) : SimO K W Wx (tMethE C m (spO K n tO) (fun _ => E0) to tr) (tdMethO C m n tO W dO dr) := fun I H σ τ Q R G ok rp q hq hx =>
  ho I H σ τ _ R _ ok rp q (fun v d I1 H1 q1 i1 l1 => by
    obtain ⟨a, dx, vs, fs, rfl, rfl, h1, h2, h3, q⟩ := ins_of i1 q1
    exact ⟨a, dx, vs, rfl, W.ex l1.ok _ _ h1, h2.lookN h3, h I1 H1 σ τ _ R _ l1.ok (rp.later l1) q (fun vs2 ds I2 H2 q2 i2 l2 =>
      ⟨W, I2, _ :: ds, Q, _, l2.ok, .cons (i1.mono l2.ex) i2, q2.1, q2.2, fun p ws es I3 H3 q3 n3 h3 f3 i3 l3 => hq p ws es I3 H3 q3 (Later.back' (l1.trans l2) n3) h3 f3 i3 ((l1.trans l2).trans l3), fun _ _ _ _ _ z _ _ => z.elim⟩) (hx.later l1)⟩) hx
/-- a def of a class -/
structure HasMt (K : PySem.W.Frag) (C : Addr) (m qual : Str) (st : Stmt) (ps : List Str) (f : Addr) (fd : FuncData) : Prop where
  F : Fun K m qual st f fd
  m : Meth K C m f
  b : Binds K fd ps []
variable {qual : Str} {st : Stmt}
theorem de_meth (c : Cls K C) (T : HasMt K C m qual st ps f fd) (F : FnG X.prog X.w X.K X.mg X.base CX k f fd ps (spD K n t)) (hr : RoomG k X.A) (hx : Passes CX X E0) (ho : DE X K W Wx o to dO) (ha : DA X K W Wx (e :: es) tr dr)
    (he : starEach (e :: es) X.env = (false, eval e X.env) :: starEach es X.env := by rfl) (hpl : (backTo pos (starEach es X.env)).any (·.1) = false := by rfl)
    (ht : eval (.Call (.Attribute o m apos) (e :: es) [] pos) X.env = (do
      let ov ← eval o X.env
      standAt apos.atName
      let (f, first) ← holding [ov] (getMethod ov m pl)
      callWith pos f first (backTo pos (starEach (e :: es) X.env)) (backToKw pos (keywordEach [] X.env))) := by rfl) :
    DE X K W Wx (.Call (.Attribute o m apos) (e :: es) [] pos) (tMethE C m (spD K n t) (fun _ => E0) to tr) (tdMeth C m n t W dO dr) := by
  have hk := ha.k; subst hk
  exact ⟨rfl, pe_methG ho.pe c T.m F hr T.b (fun σ pins H s e s' I => hx pins σ H s e s' I) ha.pa he hpl ht, .meth ho.sim ha.sim⟩
theorem de_meth0 (c : Cls K C) (T : HasMt K C m qual st ps f fd) (F : FnG X.prog X.w X.K X.mg X.base CX k f fd ps (spD K n t)) (hr : RoomG k X.A) (hx : Passes CX X E0) (ho : DE X K W Wx o to dO)
    (ht : eval (.Call (.Attribute o m apos) [] [] pos) X.env = (do
      let ov ← eval o X.env
      standAt apos.atName
      let (f, first) ← holding [ov] (getMethod ov m pl)
      callWith pos f first (backTo pos (starEach [] X.env)) (backToKw pos (keywordEach [] X.env))) := by rfl) :
    DE X K W Wx (.Call (.Attribute o m apos) [] [] pos) (tMethE C m (spD K n t) (fun _ => E0) to tNil) (tdMeth C m n t W dO tdNil) := by
  have hk := ho.k; subst hk
  exact ⟨rfl, pe_methG0 ho.pe c T.m F hr T.b (fun σ pins H s e s' I => hx pins σ H s e s' I) ht, .meth ho.sim .nil⟩
theorem do_meth (c : Cls K C) (T : HasMt K C m qual st ps f fd) (F : FnG X.prog X.w X.K X.mg X.base CX k f fd ps (spO K n tO)) (hr : RoomG k X.A) (hx : Passes CX X E0) (ho : DE X K W Wx o to dO) (ha : DA X K W Wx (e :: es) tr dr)
    (he : starEach (e :: es) X.env = (false, eval e X.env) :: starEach es X.env := by rfl) (hpl : (backTo pos (starEach es X.env)).any (·.1) = false := by rfl)
    (ht : eval (.Call (.Attribute o m apos) (e :: es) [] pos) X.env = (do
      let ov ← eval o X.env
      standAt apos.atName
      let (f, first) ← holding [ov] (getMethod ov m pl)
      callWith pos f first (backTo pos (starEach (e :: es) X.env)) (backToKw pos (keywordEach [] X.env))) := by rfl) :
    DO X K W Wx (.Call (.Attribute o m apos) (e :: es) [] pos) (tMethE C m (spO K n tO) (fun _ => E0) to tr) (tdMethO C m n tO W dO dr) := by
  have hk := ha.k; subst hk
  exact ⟨rfl, pe_methG ho.pe c T.m F hr T.b (fun σ pins H s e s' I => hx pins σ H s e s' I) ha.pa he hpl ht, .meth ho.sim ha.sim⟩
/-- an __init__: what it is given, the fields that it leaves -/
abbrev TFI := Wd → List D → (List (Str × D) → Prop) → (Exc → Prop) → Prop
def spI (K : PySem.W.Frag) (C : Addr) (n : Nat) (t : TFI) : Sp := fun vs H Q E => ∃ (W : Wd) (I : Hp) (p dx : Addr) (us : List V) (ds : List D) (Qd : List (Str × D) → Prop) (R : Exc → Prop), vs = .ref p :: us ∧ W.ok I H ∧ H p = some (.ins C dx []) ∧ I p = none ∧ W.free p ∧ IsAll K I us ds ∧ ds.length + 1 = n ∧ t W ds Qd R ∧
  (∀ fs dx' ws I' H', Qd fs → H' p = some (.ins C dx' ws) → I' p = none → IsFs K I' ws fs → Lat W (fun a => a = p) I H (fun a => a = p) I' H' → Q .non H') ∧ ∀ cls da x O' I' H', R x → IsX K I' cls da x → Lat W (fun a => a = p) I H O' I' H' → E cls da H'
theorem spI_len {n : Nat} {t : TFI} {vs : List V} {H : Hp} {Q : VK} {E : XK} (h : spI K C n t vs H Q E) : vs.length = n := by
  obtain ⟨_, _, _, _, us, ds, _, _, rfl, _, _, _, _, al, hl, _⟩ := h
  rw [List.length_cons, al.length, hl]
variable {tI : TFI}
@[simp] def tdMake (C : Addr) (n : Nat) (t : TFI) (W : Wd) (u : TDA) : TDE := fun τ Q R => u τ (fun ds => ds.length + 1 = n ∧ t W ds (fun fs => Q (.ins C fs)) fun _ => False) R
@[simp] def tdMakeX (C : Addr) (n : Nat) (t : TFI) (W : Wd) (u : TDA) : TDE := fun τ Q R => u τ (fun ds => ds.length + 1 = n ∧ t W ds (fun fs => Q (.ins C fs)) R) R
theorem later_made {I1 H1 I' H' : Hp} {O' : Addr → Prop} {x dx : Addr} {o o' : HO} (ok : W.ok I1 H1) (hx : H1 x = none) (hdx : H1 dx = none) (ne : dx ≠ x) (l : Lat W (fun a => a = x) I1 (upd (upd H1 dx o) x o') O' I' H') : Later W I1 H1 I' H' where
  ex := l.ex
  ok := l.ok
  fr := fun a u f _ e => by
    have n1 : a ≠ x := ne_of_none e hx
    have n2 : a ≠ dx := ne_of_none e hdx
    exact l.fr a u f n1 (by rw [upd_ne n1, upd_ne n2]; exact e)
  nw := fun a n e => .inl (by
    rcases l.nw a n e with z | z
    · by_cases n1 : a = x
      · rw [n1]; exact hx
      · rw [upd_ne n1] at z
        by_cases n2 : a = dx
        · rw [n2]; exact hdx
        · rw [upd_ne n2] at z; exact z
    · rw [z]; exact hx)
  ow := fun _ z => z.elim
theorem SimE.make (h : SimA K W Wx tr dr) : SimE K W Wx (tMakeE C (spI K C n tI) (fun _ => E0) tr) (tdMake C n tI W dr) := fun I H σ τ Q R G ok rp q hq hx =>
  h I H σ τ _ R _ ok rp q (fun vs ds I1 H1 q1 i1 l1 => by
    intro x dx hx0 hdx ne
    have ok2 : W.ok I1 (upd (upd H1 dx (.own x)) x (.ins C dx [])) := W.alo (W.alo l1.ok hdx) (by rw [upd_ne (Ne.symm ne)]; exact hx0)
    refine ⟨W, I1, x, dx, vs, ds, _, _, rfl, ok2, upd_same, Same.non (W.ex l1.ok) hx0, W.fr l1.ok hx0, i1, q1.1, q1.2, fun fs dx' ws I' H' qf h1 h2 h3 l => ⟨rfl, ?_⟩, fun _ _ _ _ _ _ z _ _ => z.elim⟩
    exact hq _ _ (upd I' x (.ins C dx' ws)) H' qf (.ins upd_same (h3.mono (Same.new h2))) (l1.trans (Later.freeze l1.ok (later_made l1.ok hx0 hdx ne l) h2 hx0 h1))) hx
theorem de_make (M : Mk K C f) (T : HasMt K C m qual st ps f fd) (F : FnG X.prog X.w X.K X.mg X.base CX k f fd ps (spI K C n tI)) (hr : RoomG (k + 1) X.A) (hm : X.mg x = some (.ref C)) (hx : Passes CX X E0) (ha : DA X K W Wx (e :: es) tr dr)
    (hg : Gl X x := by rfl) (hdb : (x == ("__debug__" : Str)) = false := by decide) (he : starEach (e :: es) X.env = (false, eval e X.env) :: starEach es X.env := by rfl) (hpl : (backTo pos (starEach es X.env)).any (·.1) = false := by rfl) :
    DE X K W Wx (.Call (.Name x p) (e :: es) [] pos) (tMakeE C (spI K C n tI) (fun _ => E0) tr) (tdMake C n tI W dr) := by
  have hk := ha.k; subst hk
  exact ⟨rfl, pe_makeG M F hr hg hm T.b (fun σ pins H s e s' I => hx pins σ H s e s' I) ha.pa hdb he hpl, .make ha.sim⟩
end
@[simp] def startI (p C : Addr) (n : Nat) (ds : List D) : Tau := some (.obj p C []) :: (ds.map (fun d => some (.dat d)) ++ List.replicate (n - (ds.length + 1)) none)
@[simp] def endsI (p C : Addr) (Q : List (Str × D) → Prop) (R : Exc → Prop) : DEnds := { nx := fun τ => ∃ fs, τ[0]? = some (some (.obj p C fs)) ∧ Q fs, rt := fun _ => False, ex := fun x _ => R x }
section
variable {K : PySem.W.Frag} {W : Wd} {C : Addr}
theorem getI {p : Addr} {n : Nat} {ds : List D} {i : Nat} {s : SD} (h : (startI p C n ds)[i]? = some (some s)) : (i = 0 ∧ s = .obj p C []) ∨ ∃ j d, i = j + 1 ∧ ds[j]? = some d ∧ s = .dat d := by
  unfold startI at h
  cases i with
  | zero => cases h; exact .inl ⟨rfl, rfl⟩
  | succ j =>
    rw [List.getElem?_cons_succ] at h
    by_cases hj : j < ds.length
    · rw [List.getElem?_append_left (by simpa using hj), List.getElem?_map, List.getElem?_eq_getElem hj] at h
      cases h
      exact .inr ⟨j, _, rfl, List.getElem?_eq_getElem hj, rfl⟩
    · rw [List.getElem?_append_right (by simpa using Nat.le_of_not_lt hj), List.getElem?_replicate] at h
      split at h <;> cases h
theorem startI_rep {I H : Hp} {N : List Str} {p dx : Addr} {us : List V} {ds : List D} (hl0 : ds.length + 1 ≤ N.length) (al : IsAll K I us ds) (hp : H p = some (.ins C dx [])) (hi : I p = none) (hf : W.free p) : Rep K W I H (start N (.ref p :: us)) (startI p C N.length ds) := by
  have hl := al.length
  refine ⟨by unfold L2.start startI; simp [hl], fun i s e => ?_, fun i j s t v w a e1 e2 _ _ o1 o2 => ?_⟩
  · rcases getI e with ⟨rfl, rfl⟩ | ⟨j, d, rfl, hd, rfl⟩
    · exact ⟨.ref p, rfl, dx, [], rfl, hp, hi, hf, .nil⟩
    · obtain ⟨v, h1, h2⟩ := al.get hd
      refine ⟨v, ?_, h2⟩
      unfold L2.start
      rw [List.map_cons, List.cons_append, List.getElem?_cons_succ]
      rw [List.getElem?_append_left (by rw [List.length_map]; exact (List.getElem?_eq_some_iff.mp h1).1), List.getElem?_map, h1]
      rfl
  · rcases getI e1 with ⟨rfl, rfl⟩ | ⟨_, _, _, _, rfl⟩
    · rcases getI e2 with ⟨rfl, rfl⟩ | ⟨_, _, _, _, rfl⟩
      · rfl
      · exact o2.elim
    · exact o1.elim
theorem own_startI {N : List Str} {p : Addr} {us : List V} {ds : List D} {n : Nat} {a : Addr} (h : Own (start N (.ref p :: us)) (startI p C n ds) a) : a = p := by
  obtain ⟨i, s, v, e1, e2, o⟩ := h
  rcases getI e1 with ⟨rfl, rfl⟩ | ⟨_, _, _, _, rfl⟩
  · exact o
  · exact o.elim
theorem relI {I H : Hp} {N : List Str} {p dx : Addr} {us : List V} {ds : List D} {Q : List (Str × D) → Prop} {R : Exc → Prop} {G : VK} {E : XK} (hp : H p = some (.ins C dx [])) (hf : W.free p)
    (hq : ∀ fs dx' ws I' H', Q fs → H' p = some (.ins C dx' ws) → I' p = none → IsFs K I' ws fs → Lat W (fun a => a = p) I H (fun a => a = p) I' H' → G .non H')
    (hx : ∀ cls da x O' I' H', R x → IsX K I' cls da x → Lat W (fun a => a = p) I H O' I' H' → E cls da H') :
    Rel K W (fun cls d _ H => E cls d H) (Own (start N (.ref p :: us)) (startI p C N.length ds)) I H (endsI p C Q R) { nx := fun _ H' => G .non H', rt := G } := by
  have lt : ∀ {O I' H'}, Lat W (Own (start N (.ref p :: us)) (startI p C N.length ds)) I H O I' H' → Lat W (fun a => a = p) I H O I' H' := fun l =>
    ⟨l.ex, l.ok, fun a o f n e => l.fr a o f (fun z => n (own_startI z)) e, fun a n e => (l.nw a n e).elim .inl fun z => .inr (own_startI z), fun a z => let ⟨f, q⟩ := l.ow a z; ⟨f, q.elim .inl fun z => .inr (own_startI z)⟩⟩
  refine ⟨fun σ τ I' H' q rp l => ?_, fun _ _ _ _ z _ _ => z.elim, fun _ _ _ _ z _ _ => z.elim, fun _ _ _ _ z _ _ => z.elim, fun cls da x σ τ I' H' q ix rp l => hx cls da x _ I' H' q ix (lt l)⟩
  obtain ⟨fs, e, qf⟩ := q
  obtain ⟨v, h1, dx', ws, rfl, h2, h3, h4, h5⟩ := rp.at_ 0 _ e
  exact hq fs dx' ws I' H' qf h2 h3 h5 ((lt l).drop fun a (z : a = p) => by subst z; exact ⟨0, _, _, e, h1, rfl⟩)
end
section
variable {P : Program} {w : World} {K : PySem.W.Frag} {mg : Str → Option Value} {base : Heap} {C : Addr}
/-- .. that never does -/
theorem okI {x qual : Str} {st : Stmt} {f : Addr} {fd : FuncData} {N ps : List Str} {k : Nat} {t : TFI} (F : Fun K x qual st f fd) (S : FnScope N ps (defScope st)) (hN : ps.length ≤ N.length)
    (hbody : ∀ (cdv : Value) (A : Around) (outer : List Env) (s : Shared) (H : Hp) (E : XK), RoomG k (A.deeper (PyProof.Rows.envOfC qual (defScope st) s.heap.objs.size f cdv)) →
      ∃ (ts : TS) (td : Wd → TDS), (∀ W, DSs (cxOf CX0 P w K mg base N qual (defScope st) f cdv A outer s H E).nox K W (fun _ _ _ _ => False) (defBody st) ts (td W)) ∧
        ∀ (W : Wd) (p : Addr) (ds : List D) (Q : List (Str × D) → Prop), ds.length + 1 = ps.length → t W ds Q (fun _ => False) → td W (startI p C N.length ds) (endsI p C Q fun _ => False))
    (hR : ∀ W ds Q R, t W ds Q R → t W ds Q fun _ => False) : FnG P w K mg base CX0 (k + 1) f fd ps (spI K C ps.length t) := by
  refine fnG0 F S (fun vs H Q E h => spI_len h) fun cdv A outer s H vs Q E hr h => ?_
  obtain ⟨W, I, p, dx, us, ds, Qd, R, rfl, ok, hp, hi, hf, al, hl, ht, hq, hx⟩ := h
  obtain ⟨ts, td, hd, hm⟩ := hbody cdv A outer s H E hr
  refine ⟨ts, (hd W).ps, (hd W).sim I H _ _ _ _ ok (startI_rep (by omega) al hp hi hf) (hm W p ds Qd hl (hR _ _ _ _ ht)) ?_⟩
  exact relI (N := N) (us := us) (ds := ds) (Q := Qd) (R := fun _ => False) (G := Q) (E := fun _ _ _ => False) hp hf hq (fun _ _ _ _ _ _ z _ _ => z)
end
theorem hasMt_mk {K : PySem.W.Frag} {C f : Addr} {m qual : Str} {st : Stmt} {ps : List Str} {oc : Value} {od an : Option Addr} {osl : Array (Option Value)} {kV doc pm cdv ct : Value} (a : PySem.W.findIn K (.ref C) m = some (some (.ref f))) (i : PySem.W.isFn K (.ref f) = true)
    (l : K.lookup f = some ⟨oc, od, .func (PySem.W.fnOf m qual (defArgs st) (defBody st) (defScope st) .none kV doc pm an cdv ct), osl⟩) (c : PySem.W.codeIn K cdv qual = true) (k : PySem.W.keepIn K (.ref f) = true)
    (hb : ∀ us : List Value, us.length = ps.length → bindArgs (PySem.W.fnOf m qual (defArgs st) (defBody st) (defScope st) .none kV doc pm an cdv ct) ⟨us, []⟩ = pure (ps.zip us)) :
    HasMt K C m qual st ps f (PySem.W.fnOf m qual (defArgs st) (defBody st) (defScope st) .none kV doc pm an cdv ct) := ⟨fun_mk l c k, ⟨a, i, k⟩, Binds.all hb⟩
end D3
set_option Elab.async false
set_option linter.all false
set_option maxRecDepth 100000
set_option maxHeartbeats 4000000
namespace D3
open PySem PySem.Spec PyProof.Rows L2
def truD : D → Option Bool
  | .v .non => some false
  | .v (.bl b) => some b
  | .v (.int i) => some (i != 0)
  | .v (.str s) => if s.length ≤ sizeLine then some ((s.length : Int) != 0) else none
  | .lst ds => some (!ds.isEmpty)
  | .tup ds => some (!ds.isEmpty)
  | _ => none
section
variable {K : PySem.W.Frag} {W : Wd} {Wx : WX} {X : Cx} {a b e : Expr} {ta tb te : TE} {da db de : TDE} {rest : List Expr} {pos : Pos}
theorem IsAll.empty {I : Hp} {vs : List V} {ds : List D} (h : IsAll K I vs ds) : vs.isEmpty = ds.isEmpty := by cases h <;> rfl
theorem Is.tru {I H : Hp} {v : V} {d : D} {k : Bool} (h : Is K I v d) (e : Same I H) (t : truD d = some k) : TruV K v H k := by
  cases h with
  | v =>
    cases v with
    | non => cases t; rfl
    | bl b => cases t; rfl
    | int i => cases t; rfl
    | str s =>
      have t : (if s.length ≤ sizeLine then some ((s.length : Int) != 0) else none) = some k := t
      split at t
      · rename_i hl
        cases t
        exact ⟨hl, rfl⟩
      · cases t
    | _ => cases t
  | lst h r =>
    cases t
    rw [← r.empty]
    exact .inl ⟨_, SqL.of (e _ _ h), rfl⟩
  | tup h r =>
    cases t
    rw [← r.empty]
    exact .inr (.inl ⟨_, Same.seqT e h.t, rfl⟩)
  | ins _ _ => cases t
  | dic _ _ => cases t
  | exc0 => cases t
  | exc1 _ _ => cases t
  | lent _ => cases t
  | dt _ _ _ _ => cases t
/-- x or y, by x's truth -/
@[simp] def tdOrT (t u : TDE) : TDE := fun τ Q R => t τ (fun x => ∃ k, truD x = some k ∧ if k = true then Q x else u τ Q R) R
theorem de_orT (ha : DE X K W Wx a ta da) (hb : DE X K W Wx (.BoolOp .Or (b :: rest) pos) tb db) : DE X K W Wx (.BoolOp .Or (a :: b :: rest) pos) (tOrT K ta tb) (tdOrT da db) := by
  have hk := ha.k; subst hk
  exact ⟨rfl, pe_orT ha.pe hb.pe, fun I H σ τ Q R G ok rp t hq hx => ha.sim I H σ τ _ R _ ok rp t (fun v d I1 H1 q1 i1 l1 => by
    obtain ⟨k, e1, q1⟩ := q1
    refine ⟨k, i1.tru (W.ex l1.ok) e1, ?_⟩
    cases k with
    | true =>
      rw [if_pos rfl] at q1 ⊢
      exact hq v d I1 H1 q1 i1 l1
    | false =>
      rw [if_neg Bool.false_ne_true] at q1 ⊢
      exact hb.sim I1 H1 σ τ Q R G l1.ok (rp.later l1) q1 (fun v d I2 H2 q2 i2 l2 => hq v d I2 H2 q2 i2 (l1.trans l2)) (hx.later l1)) hx⟩
end
/-- as many unlike ones as there are, where none is there twice -/
theorem unlike_all {xs : List Str} (h : xs.Nodup) : D3S.unlike xs xs.length = xs.length := by
  have : ∀ i, i ≤ xs.length → D3S.unlike xs i = i := fun i => by
    induction i with
    | zero => intro _; rfl
    | succ i ih =>
      intro hi
      unfold D3S.unlike
      rw [if_neg, ih (by omega)]
      intro z
      unfold D3S.seen at z
      obtain ⟨y, hy, e⟩ := List.any_eq_true.mp z
      have e := eq_of_beq e
      have hx : xs.getD i Str.empty = xs[i] := by simp [List.getD_eq_getElem?_getD, show i < xs.length by omega]
      rw [hx] at e
      obtain ⟨j, hj, rfl⟩ := List.getElem_of_mem hy
      rw [List.length_take] at hj
      rw [List.getElem_take] at e
      have hp := List.pairwise_iff_getElem.mp h j i (by omega) (by omega) (by omega)
      exact hp e
  exact this _ (Nat.le_refl _)
theorem gdPair_mono {i j : Nat} : ∀ d τ (Q Q' : Tau → Prop), (∀ τ', Q τ' → Q' τ') → gdTup 2 (gdCons (gdName i) (gdCons (gdName j) gdNil)) d τ Q → gdTup 2 (gdCons (gdName i) (gdCons (gdName j) gdNil)) d τ Q' := fun d τ Q Q' h q => by
  unfold gdTup at q ⊢
  split at q
  · rename_i ds
    obtain ⟨q1, q⟩ := q
    match ds, q1, q with
    | [x, y], _, q => exact ⟨rfl, q.1, h _ q.2⟩
  · exact q.elim
theorem sublist_map {α : Type} {f : α → D} : ∀ {xs : List α} {es : List D}, es.Sublist (xs.map f) → ∃ ys : List α, ys.Sublist xs ∧ es = ys.map f := fun {xs es} h => by
  obtain ⟨ys, h1, h2⟩ := List.sublist_map_iff.mp h
  exact ⟨ys, h1, h2⟩
theorem fIx_tup_row {rows : Rows} {j : Nat} {r : List Nat} {Q : D → Prop} (h : rows[j]? = some r) (q : Q (sD r)) : fIx (.tup (rows.map sD)) (.int (j : Nat)) Q := ⟨_, atI_of (by rw [List.getElem?_map, h]; rfl), q⟩
/-- tuples unpacked -/
theorem tdSeq_tup2 {i j : Nat} {t : TDE} {u : TDS} {τ : Tau} {E : DEnds} (x y : D) (h : ∀ (Q : D → Prop) (R : Exc → Prop), Q (.tup [x, y]) → t τ Q R) (k : u ((τ.set i (some (.dat x))).set j (some (.dat y))) E) : tdSeq (tdAsg t (gdTup 2 (gdCons (gdName i) (gdCons (gdName j) gdNil)))) u τ E := h _ _ ⟨rfl, rfl, k⟩
theorem tdSeq_tup3 {i j l : Nat} {t : TDE} {u : TDS} {τ : Tau} {E : DEnds} (x y z : D) (h : ∀ (Q : D → Prop) (R : Exc → Prop), Q (.tup [x, y, z]) → t τ Q R) (k : u (((τ.set i (some (.dat x))).set j (some (.dat y))).set l (some (.dat z))) E) : tdSeq (tdAsg t (gdTup 3 (gdCons (gdName i) (gdCons (gdName j) (gdCons (gdName l) gdNil))))) u τ E := h _ _ ⟨rfl, rfl, k⟩
/-- a field stored -/
theorem tdSeq_fld {i : Nat} {p C : Addr} {f : Str} {fs : List (Str × D)} {t : TDE} {u : TDS} {τ : Tau} {E : DEnds} (d : D) (e : τ[i]? = some (some (.obj p C fs))) (hl : fs.length < 1000) (h : ∀ (Q : D → Prop) (R : Exc → Prop), Q d → t τ Q R) (k : u (τ.set i (some (.obj p C (putD f d fs)))) E) : tdSeq (tdSetFld i C f t) u τ E := ⟨p, fs, e, hl, h _ _ k⟩
end D3
set_option Elab.async false
set_option linter.all false
set_option maxRecDepth 100000
set_option maxHeartbeats 4000000
namespace D3
open PySem PySem.Spec PyProof.Rows L2
section
variable {prog : Program} {w : World} {A : Around} {E : Value → Shared → Prop} {s : Shared}
/-- the first one, and a new list of the rest -/
theorem unpack_rest {l : Addr} {x : Value} {xs : List Value} {its : Array Value} {Q : List Value → Shared → Prop} (hl : IsTup s.heap l its) (hh : A.handled = none) (hx : its.toList = x :: xs) (hz : its.size ≤ 16384)
    (h : ∀ (h2 : Heap) (tk : Nat), (∀ b o, s.heap.get? b = some o → h2.get? b = some o) → Q [x, .ref h2.objs.size] { s with heap := h2.push { cls := .type "list", data := .seq xs.toArray }, toks := tk }) :
    wpAny (model prog w) A (unpackItems (.ref l) 2 (some 1)) Q E s := by
  have nl : l ≠ s.heap.objs.size := by
    obtain ⟨o, e, _⟩ := hl
    exact Nat.ne_of_lt (Heap.lt_size e)
  have hs : its.size = xs.length + 1 := by
    have := congrArg List.length hx
    simpa using this
  unfold unpackItems notIterableAtAll
  refine wpAny_bind (wpAny_bind (wpAny_specialOf hl.typeIs slot_tuple_iter.lookup (wpAny_pure ?_)))
  rw [if_neg (by decide)]
  refine wpAny_bind (wpAny_holding (iter_tuple hl ?_))
  refine wpAny_bind (wpAny_holding (draw_tuple nl 1 0 _ _ ⟨_, Heap.get?_push_size _ rfl, rfl, rfl⟩ (hl.push _) (by omega) fun h1 it1 sb1 => ?_))
  have hl1 : IsTup h1 l its := (hl.push _).extBut sb1.extBut nl
  have it1' : IsTupIter h1 s.heap.objs.size l 1 := it1
  obtain ⟨oi, ei, _⟩ := _root_.id it1'
  obtain ⟨ol, el, _⟩ := _root_.id hl1
  have e1 : (its.toList.drop 0).take 1 = [x] := by rw [hx]; rfl
  rw [e1]
  rw [if_neg (show ¬ ([x].length < 1) by simp)]
  refine wpAny_bind (wpAny_holding (PySem.W.kun_collect (s := { s with heap := h1 }) (T := "tuple_iterator") (.inr (.inr (.inr rfl))) (PySem.Walks.tuple (A := A.in1) hh s.heap.objs.size l nl its) (fun j u st => st.1.typeIs) (k := 1) (by omega) ⟨it1', hl1⟩ (Heap.lt_size ei) (Heap.lt_size el) (fun h2 tk k2 => ?_) (by rw [sizeLine_eq]; omega)))
  have e2 : its.toList.drop 1 = xs := by rw [hx]; rfl
  rw [e2]
  show wpAny _ _ (if xs.length < 0 then _ else _) _ _ _
  rw [if_neg (Nat.not_lt_zero _)]
  show wpAny _ _ (newList (xs.take xs.length) >>= fun d => pure ([x] ++ [d] ++ xs.drop xs.length)) _ _ _
  rw [List.take_length, List.drop_length]
  refine wpAny_bind (wpAny_newList (s := { s with heap := h2, toks := tk }) (wpAny_pure ?_) (by rw [sizeLine_eq]; omega))
  exact h h2 tk fun b o e => k2 b o (Nat.ne_of_lt (Heap.lt_size e)) (sb1.extBut b o (Nat.ne_of_lt (Heap.lt_size e)) (Heap.get?_push_of_some _ e))
end
def gStar (K : PySem.W.Frag) (i j : Nat) : TG := fun v σ H Q => ∃ a x xs, v = .ref a ∧ SqT K H a (x :: xs) ∧ xs.length < 16384 ∧ ∀ p, H p = none → Q ((σ.set i (some x)).set j (some (.ref p))) (upd H p (.lst xs))
/-- (x, y, ..) = a list of that length -/
def gLst (K : PySem.W.Frag) (n : Nat) (t : TGs) : TG := fun v σ H Q => ∃ a xs, v = .ref a ∧ SqL K H a xs ∧ xs.length = n ∧ t xs σ H Q
section
variable {X : Cx}
theorem pg_star {i j : Nat} {x y : Str} {k : Nat} {px py pp pos : Pos} (hc : X.calm = true) (hN : X.N.Nodup) (hi : X.N[i]? = some x) (hj : X.N[j]? = some y) (hx : Loc X.env.scope x) (hy : Loc X.env.scope y)
    (fx : X.fn x = true ∨ X.env.scope.names.lookup x = some .local) (fy : X.fn y = true ∨ X.env.scope.names.lookup y = some .local) : PG X (.Tuple [.Name x px, .Starred (.Name y py) pp] k pos) (gStar X.K i j) := by
  refine ⟨fun pins s σ H v u Q I r hw => ?_⟩
  obtain ⟨a, v1, vs, rfl, hq, hl, q⟩ := hw
  cases r
  obtain ⟨its, rv, ht, hz⟩ := I.tuple hq
  cases rv with
  | @cons _ u1 _ us r1 rr =>
    have hlen := rr.length
    rw [PyProof.Rows.assign_Tuple]
    refine wpAny_bind (wpAny_standAt ?_)
    unfold unpack
    show wpAny _ _ (holding [.ref a] (unpackItems (.ref a) 2 (some 1)) >>= fun zs => assignInOrder [fun v => assign (.Name x px) X.env v, fun v => assign (.Name y py) X.env v] zs) _ _ _
    refine wpAny_bind (wpAny_holding (unpack_rest ht (I.ok.hd hc) (x := u1) (xs := us) (by simp) (by simp; omega) fun h2 tk k2 => ?_))
    have I2 : L2.Inv X pins σ H { s with heap := h2, toks := tk } := I.kept k2
    have hn : H h2.objs.size = none := I2.hok.fresh (Nat.le_refl _)
    have I3 := I2.laid (t' := tk) (o := .lst vs) (fun b ob q => Heap.get?_push_of_some _ q) (Nat.le_refl _) (h' := h2.push { cls := .type "list", data := .seq us.toArray })
      ⟨by rw [hlen]; show us.length ≤ 16777216; omega, us, 0, rr, Heap.get?_push_size _ rfl⟩
    refine assignInOrder_cons (thn ((pg_name hN hi hx fx).run pins _ σ _ v1 u1 (fun σ' H' => σ' = σ.set i (some v1) ∧ H' = upd H h2.objs.size (.lst vs)) I3 r1 ⟨rfl, rfl⟩) fun _ s4 ⟨σ1, H1, I4, e1, e2⟩ => ?_)
    subst e1 e2
    refine assignInOrder_cons (thn ((pg_name hN hj hy fy).run pins _ _ _ (.ref h2.objs.size) (.ref h2.objs.size) _ I4 rfl (q _ hn)) fun _ s5 z => ?_)
    exact assignInOrder_nil z
theorem pg_lst {es : List Expr} {k : Nat} {t : TGs} {n : Nat} {pos : Pos} (hc : X.calm = true) (h : PGs X es t)
    (hn : (assignEach es X.env).length = n := by rfl) (hst : (assignEach es X.env).findIdx? (·.1) = none := by rfl) : PG X (.Tuple es k pos) (gLst X.K n t) := by
  refine ⟨fun pins s σ H v u Q I r hw => ?_⟩
  obtain ⟨a, xs, e1, hq, hl, hw⟩ := hw
  subst e1
  cases r
  obtain ⟨its, rv, ht, hz⟩ := I.list hq
  have hs : its.toArray.size = n := by rw [List.size_toArray, ← hl, rv.length]
  rw [PyProof.Rows.assign_Tuple]
  refine wpAny_bind (wpAny_standAt ?_)
  unfold unpack
  rw [hst, hn, ← hs]
  refine wpAny_bind (wpAny_holding (PySem.W.kun_itemsOf (I.ok.hd hc) ht.isList fun h' k' => ?_))
  have I1 : Inv X pins σ H { s with heap := h' } := I.kept (t' := s.toks) fun b o e => k' b o (Nat.ne_of_lt (Heap.lt_size e)) e
  exact h.run pins _ σ H xs _ Q I1 (by simpa using rv) hw
end
section
variable {X : Cx} {K : PySem.W.Frag} {W : Wd} {Wx : WX} {e : Expr} {te : TE} {de : TDE} {pos : Pos}
@[simp] def tdStar (i j : Nat) (t : TDE) : TDS := fun τ E => t τ (fun d => ∃ x xs, d = .tup (x :: xs) ∧ xs.length < 16384 ∧ E.nx ((τ.set i (some (.dat x))).set j (some (.dat (.lst xs))))) (fun x => E.ex x τ)
theorem SimS.star {i j : Nat} (h : SimE K W Wx te de) : SimS K W Wx (tAsg te (gStar K i j)) (tdStar i j de) := fun I H σ τ E D ok rp t r =>
  h I H σ τ _ _ _ ok rp t (fun v d I1 H1 q1 i1 l1 => by
    obtain ⟨x, xs, rfl, hl, q⟩ := q1
    obtain ⟨a, vs, rfl, sq, al⟩ := is_tup i1
    cases al with
    | @cons v1 vs1 _ _ ix ar =>
      refine ⟨a, _, _, rfl, Same.seqT (W.ex l1.ok) sq, by rw [ar.length]; exact hl, fun p hp => ?_⟩
      have hn := Same.non (W.ex l1.ok) hp
      have l := l1.trans (Later.alloc (o := .lst vs1) l1.ok hp)
      exact r.nx _ _ _ _ q (((rp.later l).set_dat (ix.mono (Same.new hn))).set_dat (.lst upd_same (ar.mono (Same.new hn)))) ((rp.own l).drop fun p o => (o.set_dat (by simpa using rp.len)).set_dat rp.len)) (r.xok rp)
theorem ds_star (i j : Nat) {x y : Str} {px py pp pt : Pos} {k : Nat} (hc : X.calm = true) (hN : X.N.Nodup) (h : DE X K W Wx e te de) (hi : X.N[i]? = some x := by rfl) (hj : X.N[j]? = some y := by rfl)
    (hx : Loc X.env.scope x := by first | exact Or.inl rfl | exact Or.inr rfl) (hy : Loc X.env.scope y := by first | exact Or.inl rfl | exact Or.inr rfl)
    (fx : X.fn x = true ∨ X.env.scope.names.lookup x = some .local := by first | exact .inl rfl | exact .inr rfl | assumption) (fy : X.fn y = true ∨ X.env.scope.names.lookup y = some .local := by first | exact .inl rfl | exact .inr rfl | assumption)
    (hs : swapsWithSole [.Tuple [.Name x px, .Starred (.Name y py) pp] k pt] e pos.line X.env = pure false := by rfl) (hw : swappedStores [.Tuple [.Name x px, .Starred (.Name y py) pp] k pt] e X.env = pure none := by rfl)
    (h1 : (assignEach [.Tuple [.Name x px, .Starred (.Name y py) pp] k pt] X.env).map (·.2) = [assign (.Tuple [.Name x px, .Starred (.Name y py) pp] k pt) X.env] := by rfl) :
    DS X K W Wx (.Assign [.Tuple [.Name x px, .Starred (.Name y py) pp] k pt] e pos) (tAsg te (gStar K i j)) (tdStar i j de) := by
  have hk := h.k; subst hk
  exact ⟨rfl, ps_asg h.pe (pg_star hc hN hi hj hx hy fx fy) hs hw h1, .star h.sim⟩
def gdLst (n : Nat) (u : TDGs) : TDG := fun d τ Q => match d with
  | .lst ds => ds.length = n ∧ u ds τ Q
  | _ => False
@[simp] theorem gdLst_lst {n : Nat} {u : TDGs} {ds : List D} {τ : Tau} {Q : Tau → Prop} : gdLst n u (.lst ds) τ Q = (ds.length = n ∧ u ds τ Q) := rfl
theorem dg_lst {es : List Expr} {k : Nat} {gs : TGs} {u : TDGs} {idx : List Nat} (hc : X.calm = true) (h : DGs X K W es gs u idx) (hn : (assignEach es X.env).length = es.length := by rfl) (hst : (assignEach es X.env).findIdx? (·.1) = none := by rfl) :
    DG X K W (.Tuple es k pos) (gLst K es.length gs) (gdLst es.length u) idx := by
  have hk := h.k; subst hk
  exact ⟨rfl, pg_lst hc h.pg hn hst, fun I H σ τ v d Q G ok rp iv q hq => by
  unfold gdLst at q
  split at q
  · obtain ⟨p, xs, rfl, sq, al⟩ := is_lst iv
    exact ⟨p, xs, rfl, (W.ex ok).seq sq, by rw [al.length]; exact q.1, h.sim I H σ τ _ _ _ _ ok rp al q.2 hq⟩
  · exact q.elim⟩
/-- t.index(text), the first place -/
def fTix : TD2 := fun x y Q => match x, y with
  | .tup ds, .v (.str z) => ∃ (ys : List Str) (j : Nat), ds = ys.map D.str ∧ ys[j]? = some z ∧ (∀ m, m < j → ys[m]? ≠ some z) ∧ Q (.int (j : Nat))
  | _, _ => False
@[simp] theorem fTix_tup {ds : List D} {z : Str} {Q : D → Prop} : fTix (.tup ds) (.v (.str z)) Q = ∃ (ys : List Str) (j : Nat), ds = ys.map D.str ∧ ys[j]? = some z ∧ (∀ m, m < j → ys[m]? ≠ some z) ∧ Q (.int (j : Nat)) := rfl
def tTix (K : PySem.W.Frag) (to : TE) (t : TA) : TE := fun σ H Q => to σ H fun x H1 => ∃ p xs, x = .ref p ∧ SqN K H1 p xs ∧ t σ H1 fun ys H2 => ∃ zs : List Str, ∃ z j, ys = [.str z] ∧ SqT K H2 p (zs.map V.str) ∧ zs[j]? = some z ∧ (∀ m, m < j → zs[m]? ≠ some z) ∧ Q (.int (j : Nat)) H2
theorem pe_tix {o e : Expr} {to : TE} {t : TA} {apos cpos : Pos} (ho : PE X o to) (ha : PA X [e] t) (hbase : attributeBase o "index" X.env (eval o X.env) = eval o X.env := by rfl)
    (hfew : ((backTo cpos (starEach [e] X.env)).all (fun x => !x.1) && (backToKw cpos (keywordEach [] X.env)).all (fun x => x.1.isSome) && decide ([e].length + ([] : List Keyword).length + (if ([] : List Keyword).isEmpty then 0 else 1) < 30)) = true := by rfl)
    (hline : (apos.endLine == cpos.line) = true := by rfl) (hs : starEach [e] X.env = (false, eval e X.env) :: starEach [] X.env := by rfl) (hpl : (backTo cpos (starEach [] X.env)).any (·.1) = false := by rfl) : PE X (.Call (.Attribute o "index" apos) [e] [] cpos) (tTix X.K to t) := by
  refine ⟨fun pn s σ H Q I h => wpAny_Call_method_late hbase hfew hline rfl (thn (ho.run pn s σ H _ I h) fun v s1 y => ?_)⟩
  obtain ⟨x, H1, I1, r1, p, xs, rfl, sq, q1⟩ := y
  obtain rfl : v = Value.ref p := r1
  obtain ⟨its, _, ⟨o1, e1, c1, _⟩, _⟩ := I1.tuple sq.t
  obtain ⟨o2, e2, d2⟩ := sq.noDict I1
  refine ⟨"tuple", "tuple.index", PySem.F.plainAttrs_tuple, PySem.F.slot_tuple_index, PySem.F.type_tuple_index, ⟨o1, e1, c1⟩, fun a e => by cases e; exact ⟨o2, e2, d2⟩, ?_⟩
  have hA := ha.run cpos pn s1 σ H1 _ I1 q1
  rw [hs] at hA ⊢
  refine Calls.callWith_builtin (by show (false || (backTo cpos (starEach [] X.env)).any (·.1)) = false; rw [hpl]; rfl) (Calls.evalArgs_plain (thn hA fun us s2 y => ?_))
  obtain ⟨vs, H2, I2, r2, zs, z, j, rfl, q2⟩ := y
  exact mt_tup_index pn s2 σ H2 (.ref p) _ _ us Q I2 rfl r2 ⟨p, zs, z, j, rfl, rfl, q2⟩
@[simp] def tdTix (t : TDE) (u : TDA) : TDE := fun τ Q R => t τ (fun x => (∃ ds, x = .tup ds) ∧ u τ (fun ys => one1 ys fun y => fTix x y Q) R) R
theorem isAll_strsV {I : Hp} : ∀ {vs : List V} {ys : List Str}, IsAll K I vs (ys.map D.str) → vs = ys.map V.str
  | [], [], _ => rfl
  | [], _ :: _, h => by cases h
  | _ :: _, [], h => by cases h
  | _ :: _, _ :: _, h => by
    cases h with
    | cons h r =>
      cases h
      rw [isAll_strsV r]
      rfl
theorem de_tix {o e : Expr} {to : TE} {dO : TDE} {tr : TA} {dr : TDA} {apos cpos : Pos} (ho : DE X K W Wx o to dO) (ha : DA X K W Wx [e] tr dr) (hbase : attributeBase o "index" X.env (eval o X.env) = eval o X.env := by rfl)
    (hfew : ((backTo cpos (starEach [e] X.env)).all (fun x => !x.1) && (backToKw cpos (keywordEach [] X.env)).all (fun x => x.1.isSome) && decide ([e].length + ([] : List Keyword).length + (if ([] : List Keyword).isEmpty then 0 else 1) < 30)) = true := by rfl)
    (hline : (apos.endLine == cpos.line) = true := by rfl) (hs : starEach [e] X.env = (false, eval e X.env) :: starEach [] X.env := by rfl) (hpl : (backTo cpos (starEach [] X.env)).any (·.1) = false := by rfl) : DE X K W Wx (.Call (.Attribute o "index" apos) [e] [] cpos) (tTix K to tr) (tdTix dO dr) := by
  have hk := ho.k; subst hk
  exact ⟨rfl, pe_tix ho.pe ha.pa hbase hfew hline hs hpl, fun I H σ τ Q R G ok rp t hq hx => ho.sim I H σ τ _ R _ ok rp t (fun v d I1 H1 q1 i1 l1 => by
    obtain ⟨⟨ds, rfl⟩, q1⟩ := q1
    obtain ⟨p, xs, rfl, sq, al⟩ := is_tupN i1
    refine ⟨p, xs, rfl, Same.seqN (W.ex l1.ok) sq, ha.sim I1 H1 σ τ _ R _ l1.ok (rp.later l1) q1 (fun vs es I2 H2 q2 a2 l2 => ?_) (hx.later l1)⟩
    unfold one1 at q2
    split at q2
    · obtain ⟨y1, rfl, i2⟩ := isAll1 a2
      unfold fTix at q2
      split at q2
      · rename_i e1
        cases e1
        cases i2
        obtain ⟨ys, j, rfl, h1, h2, q2⟩ := q2
        cases isAll_strsV al
        exact ⟨ys, _, j, rfl, Same.seqT (W.ex l2.ok) (Same.seqT l2.ex sq.t), h1, h2, hq _ _ I2 H2 q2 (.v _) (l1.trans l2)⟩
      · exact q2.elim
    · exact q2.elim) hx⟩
/-- x.insert(k, e), all flat, x itself may be read in it -/
@[simp] def tdIns (i : Nat) (u : TDA) : TDS := fun τ E => ∃ ds, τ[i]? = some (some (.own ds)) ∧ ds.length < sizeLine ∧ u (frz τ) (fun es => two es fun k d => onI k fun k => 0 ≤ k ∧ k < 2 ^ 63 ∧ flatD d ∧ E.nx (τ.set i (some (.own (ds.take k.toNat ++ [d] ++ ds.drop k.toNat))))) (fun x => E.ex x (frz τ))
def rIns : V → List V → Hp → VK → Prop := fun x vs H Q => ∃ (l : Addr) (xs : List V) (i : Int) (y : V), x = .ref l ∧ vs = [.int i, y] ∧ H l = some (.lst xs) ∧ xs.length < sizeLine ∧ 0 ≤ i ∧ i < 2 ^ 63 ∧ Q .non (upd H l (.lst (xs.take i.toNat ++ [y] ++ xs.drop i.toNat)))
theorem flat_of {d : D} (h : flatD d) : ∃ y, d = .v y := by cases d <;> first | exact ⟨_, rfl⟩ | exact h.elim
theorem SimS.ins {i : Nat} {tr : TA} {dr : TDA} (h : SimA K W Wx tr dr) : SimS K W Wx (tDrop (tBM K "list" rIns (tVar i) tr)) (tdIns i dr) := fun I H σ τ E D ok rp t r => by
  obtain ⟨ds, e, hz, t⟩ := t
  obtain ⟨v0, h0, p0, vs0, rfl, hp0, hi0, hf0, al0⟩ := rp.at_ i _ e
  obtain ⟨I1, sm, ok1, rp1, nw⟩ := rp.frz ok
  refine ⟨_, h0, tyV_lst hp0, h I1 H σ (frz τ) _ _ _ ok1 rp1 t (fun us es I2 H2 q2 i2 l2 => ?_) (r.xokF rp1 sm ok1 nw)⟩
  unfold two at q2
  split at q2
  · obtain ⟨v1, v2, rfl, a1, a2⟩ := isAll2 i2
    obtain ⟨k, rfl, k0, k1, fl, q⟩ := i_of a1 q2
    obtain ⟨la, rp2⟩ := Lat.revert rp sm nw l2
    obtain ⟨y, ey⟩ := flat_of fl
    subst ey
    · cases a2
      obtain ⟨p, vs, h1, h2, al, kk⟩ := rp2.change (es := ds.take k.toNat ++ [.v v2] ++ ds.drop k.toNat) la.ok e
      rw [h0] at h1
      cases h1
      obtain ⟨rp4, lb⟩ := kk (vs.take k.toNat ++ [v2] ++ vs.drop k.toNat) (((al.take _).append (.cons (.v _) .nil)).append (al.drop _))
      exact ⟨_, vs, k, v2, rfl, rfl, h2, by rw [al.length]; exact hz, k0, k1, r.nx _ _ I _ q rp4 (la.trans lb)⟩
  · exact q2.elim
theorem tdSeq_star {i j : Nat} {t : TDE} {u : TDS} {τ : Tau} {E : DEnds} (x : D) (xs : List D) (hl : xs.length < 16384) (h : ∀ (Q : D → Prop) (R : Exc → Prop), Q (.tup (x :: xs)) → t τ Q R) (k : u ((τ.set i (some (.dat x))).set j (some (.dat (.lst xs)))) E) : tdSeq (tdStar i j t) u τ E := h _ _ ⟨x, xs, rfl, hl, k⟩
theorem tdSeq_lst3 {i j l : Nat} {t : TDE} {u : TDS} {τ : Tau} {E : DEnds} (x y z : D) (h : ∀ (Q : D → Prop) (R : Exc → Prop), Q (.lst [x, y, z]) → t τ Q R) (k : u (((τ.set i (some (.dat x))).set j (some (.dat y))).set l (some (.dat z))) E) : tdSeq (tdAsg t (gdLst 3 (gdCons (gdName i) (gdCons (gdName j) (gdCons (gdName l) gdNil))))) u τ E := h _ _ ⟨rfl, rfl, k⟩
theorem tdSeq_tup4 {i j l m : Nat} {t : TDE} {u : TDS} {τ : Tau} {E : DEnds} (x y z v : D) (h : ∀ (Q : D → Prop) (R : Exc → Prop), Q (.tup [x, y, z, v]) → t τ Q R) (k : u ((((τ.set i (some (.dat x))).set j (some (.dat y))).set l (some (.dat z))).set m (some (.dat v))) E) :
    tdSeq (tdAsg t (gdTup 4 (gdCons (gdName i) (gdCons (gdName j) (gdCons (gdName l) (gdCons (gdName m) gdNil)))))) u τ E := h _ _ ⟨rfl, rfl, k⟩
/-- comprehensions over what is made of a list -/
theorem compD_mapL {α : Type} {g : TDG} {te : TDE} {vs : List Nat} {τ : Tau} (f h : α → D) : ∀ {l : List α} {Q : List D → Prop}, (∀ a ∈ l, ∀ K : D → Prop, K (h a) → g (f a) (wipeT τ vs) fun τ2 => te τ2 K (fun _ => False)) → Q (l.map h) → compD g tdYes te vs τ (l.map f) Q
  | [], _, _, q => q
  | a :: l, Q, k, q => by
    have e : (fun τ2 => (tdYes τ2 (fun b => if b = true then te τ2 (fun y => compD g tdYes te vs τ (l.map f) fun ys => Q (y :: ys)) (fun _ => False) else compD g tdYes te vs τ (l.map f) Q) (fun _ => False))) = fun τ2 => te τ2 (fun y => compD g tdYes te vs τ (l.map f) fun ys => Q (y :: ys)) (fun _ => False) := by
      funext τ2; simp
    rw [List.map_cons]
    unfold compD
    rw [e]
    exact k a List.mem_cons_self _ (compD_mapL f h (Q := fun ys => Q (h a :: ys)) (fun x hx => k x (List.mem_cons_of_mem _ hx)) q)
theorem all_bools {α : Type} {l : List α} {p : α → Bool} {Q : D → Prop} (q : Q (.bl (l.all p))) : ∃ bs : List Bool, (l.map fun a => D.bl (p a)) = bs.map D.bl ∧ Q (.bl (bs.all id)) :=
  ⟨l.map p, by rw [List.map_map]; rfl, by rw [List.all_map]; exact q⟩
/-- tests that may tell this or that -/
theorem tdSeq_if1P {c : TDT} {t1 u : TDS} {τ : Tau} {E : DEnds} (P : Bool → Prop) (h : ∀ (Q : Bool → Prop) (R : Exc → Prop), (∀ b, P b → Q b) → c (frz τ) Q R) (k1 : P true → t1 τ { E with nx := fun τ' => u τ' E }) (k2 : P false → u τ E) : tdSeq (tdIfS c t1 tdNext) u τ E := by
  refine h _ _ fun b p => ?_
  cases b with
  | true => rw [if_pos rfl]; exact k1 p
  | false => rw [if_neg Bool.false_ne_true]; exact k2 p
theorem tdIf_P {c : TDT} {t1 t2 : TDS} {τ : Tau} {E : DEnds} (P : Bool → Prop) (h : ∀ (Q : Bool → Prop) (R : Exc → Prop), (∀ b, P b → Q b) → c (frz τ) Q R) (k1 : P true → t1 τ E) (k2 : P false → t2 τ E) : tdIfS c t1 t2 τ E := by
  refine h _ _ fun b p => ?_
  cases b with
  | true => rw [if_pos rfl]; exact k1 p
  | false => rw [if_neg Bool.false_ne_true]; exact k2 p
theorem tdAnd_P {ta tb : TDT} {τ : Tau} {Q : Bool → Prop} {R : Exc → Prop} (a : Bool) (h1 : ∀ (Q : Bool → Prop) (R : Exc → Prop), Q a → ta τ Q R) (h2 : a = true → ∀ (Q : Bool → Prop) (R : Exc → Prop), (∀ b, Q b) → tb τ Q R) (q : ∀ b, (b = true → a = true) → Q b) : tdAnd ta tb τ Q R := by
  refine h1 _ _ ?_
  cases a with
  | true => exact h2 rfl _ _ fun b => q b fun _ => rfl
  | false => exact q false fun z => nomatch z
/-- a <= b <= c -/
theorem tdChain_le {ta tb tc : TDE} {τ : Tau} {Q : D → Prop} {R : Exc → Prop} (a b c : Int) (h1 : ∀ (Q : D → Prop) (R : Exc → Prop), Q (.int a) → ta τ Q R) (h2 : ∀ (Q : D → Prop) (R : Exc → Prop), Q (.int b) → tb τ Q R) (h3 : ∀ (Q : D → Prop) (R : Exc → Prop), Q (.int c) → tc τ Q R)
    (q : Q (.bl (decide (a ≤ b ∧ b ≤ c)))) : tdChain fLe fLe ta tb tc τ Q R := by
  refine h1 _ _ (h2 _ _ ?_)
  show (if decide (a ≤ b) = true then tc τ (fun w => fLe (.int b) w Q) R else Q (.bl false))
  by_cases h : a ≤ b
  · rw [if_pos (decide_eq_true h)]
    refine h3 _ _ ?_
    show Q (.bl (decide (b ≤ c)))
    rw [show decide (b ≤ c) = decide (a ≤ b ∧ b ≤ c) from by simp [h]]
    exact q
  · rw [if_neg (by simp [h]), show false = decide (a ≤ b ∧ b ≤ c) from by simp [h]]
    exact q
/-- the first place of what is there -/
theorem idx_first {α : Type} [BEq α] [LawfulBEq α] {l : List α} {x : α} (h : x ∈ l) : l[l.idxOf x]? = some x ∧ ∀ m, m < l.idxOf x → l[m]? ≠ some x := by
  refine ⟨by rw [List.getElem?_eq_getElem (List.idxOf_lt_length_of_mem h), List.getElem_idxOf], fun m hm z => ?_⟩
  obtain ⟨hl, e⟩ := List.getElem?_eq_some_iff.mp z
  have := List.not_of_lt_findIdx (p := fun y => y == x) (xs := l) hm
  rw [e] at this
  simp at this
theorem fTix_map {ps : Rows} {p : List Nat} {Q : D → Prop} (h : p ∈ ps) (q : Q (.int (ps.idxOf p : Nat))) : fTix (.tup (ps.map sD)) (sD p) Q := by
  obtain ⟨h1, h2⟩ := idx_first h
  refine ⟨ps.map mk, ps.idxOf p, by rw [List.map_map]; rfl, by rw [List.getElem?_map, h1]; rfl, fun m hm z => ?_, q⟩
  rw [List.getElem?_map] at z
  cases hq : ps[m]? with
  | none => rw [hq] at z; cases z
  | some y =>
    rw [hq] at z
    exact h2 m hm (by rw [hq, mk_inj (Option.some.inj z)])
end
end D3
set_option Elab.async false
set_option linter.all false
set_option maxRecDepth 100000
set_option maxHeartbeats 4000000
namespace D3
open PySem PySem.Spec PyProof.Rows L2
/-- a class's facts for these -/
structure OwnW (K : PySem.W.Frag) (C : Addr) (m : Str) (f : Addr) : Prop where
  fi : PySem.W.findIn K (.ref C) m = some (some (.ref f))
  fn : PySem.W.isFn K (.ref f) = true
structure OwnNe (K : PySem.W.Frag) (C : Addr) : Prop where
  fi : PySem.W.findIn K (.ref C) "__ne__" = some (some (.builtin "object.__ne__"))
  mro : PySem.W.mroIn K C (.type "object") = some true
theorem RoomG.in1 {k : Nat} {A : Around} (r : RoomG (k + 1) A) : RoomG k A.in1 := ⟨r.r.in1, r.g⟩
section
variable {X : Cx} {CX : CXT} {k : Nat} {f C : Addr} {fd : FuncData} {ps : List Str} {sp : Sp} {E : L2.St → XK} {pos : Pos} {a b : Expr} {ta tb : TE}
/-- an instance on either side -/
def insP (C : Addr) (x : V) (H : Hp) : Prop := ∃ a dx fs, x = .ref a ∧ H a = some (.ins C dx fs)
theorem insP.at_ {pins : List (Addr × Obj)} {σ : L2.St} {H : Hp} {s : Shared} {x : V} {u : Value} (I : L2.Inv X pins σ H s) (h : insP C x H) (r : RelV x u) : ∃ a ox od, u = .ref a ∧ x = .ref a ∧ PySem.W.InstAt s.heap a ox C od := by
  obtain ⟨a, dx, fs, rfl, e⟩ := h
  obtain rfl : u = Value.ref a := r
  obtain ⟨mA, J, _⟩ := ins_get I.hok e
  obtain ⟨od, J, _⟩ := J.look
  exact ⟨a, _, od, rfl, rfl, J⟩
end
section
variable {K : PySem.W.Frag} {W : Wd} {Wx : WX} {X : Cx} {a b e : Expr} {ta tb te : TE} {da db de : TDE} {tr : TA} {dr : TDA} {p pos : Pos} {CX : CXT} {k : Nat} {f C : Addr} {fd : FuncData} {ps : List Str} {t : TF} {m qual : Str} {st : Stmt}
theorem HasMt.own (T : HasMt K C m qual st ps f fd) : OwnW K C m f := ⟨T.m.at_, T.m.fn⟩
/-- isinstance(x, C), x an instance of C -/
structure IsC (K : PySem.W.Frag) (C : Addr) : Prop where
  ha : PySem.W.findIn K (.ref C) "__class__" = some (some (.builtin "object.__class__"))
  hn : PySem.W.specialIn K (.builtin "object.__class__") "__get__" = some (some (.builtin "getset_descriptor.__get__"))
  htk : PySem.W.takesIn K (.builtin "object.__class__") = some true
  hm : PySem.W.mroIn K C (.type "object") = some true
def fIsiC (C : Addr) : FD := fun ds Q => match ds with
  | [.ins C' _, .v (.ref c)] => C' = C ∧ c = C ∧ Q (.bl true)
  | _ => False
@[simp] theorem fIsiC_ins {C C' c : Addr} {fs : List (Str × D)} {Q : D → Prop} : fIsiC C [.ins C' fs, .v (.ref c)] Q = (C' = C ∧ c = C ∧ Q (.bl true)) := rfl
def fFmt (x : D) (Q : D → Prop) : Prop := match x with
  | .v (.str y) => y.length ≤ sizeLine ∧ Q (.str y)
  | .v (.int i) => i.natAbs.log2 < 1920 ∧ Q (.str (toString i))
  | _ => False
@[simp] theorem fFmt_str {y : Str} {Q : D → Prop} : fFmt (.v (.str y)) Q = (y.length ≤ sizeLine ∧ Q (.str y)) := rfl
@[simp] theorem fFmt_int {i : Int} {Q : D → Prop} : fFmt (.v (.int i)) Q = (i.natAbs.log2 < 1920 ∧ Q (.str (toString i))) := rfl
@[simp] def tdFmt (u : TDE) : TDE := fun τ Q R => u τ (fun x => fFmt x Q) R
@[simp] def tdJs : List TDE → Str → TDE
  | [], acc => fun _ Q _ => Q (.str acc)
  | u :: us, acc => fun τ Q R => u τ (fun d => onStr d fun y => (acc ++ y).length ≤ sizeLine ∧ tdJs us (acc ++ y) τ Q R) R
inductive DJ (X : Cx) (K : PySem.W.Frag) (W : Wd) (Wx : WX) : List Expr → List TE → List TDE → Prop where
  | nil : DJ X K W Wx [] [] []
  | cons {e : Expr} {te : TE} {de : TDE} {es : List Expr} {ts : List TE} {us : List TDE} (h : DE X K W Wx e te de) (r : DJ X K W Wx es ts us) : DJ X K W Wx (e :: es) (te :: ts) (de :: us)
theorem DJ.sim {es : List Expr} {ts : List TE} {us : List TDE} (h : DJ X K W Wx es ts us) : ∀ (acc : Str), SimE K W Wx (fun σ H Q => tJs ts acc σ H fun out H1 => Q (.str out) H1) (tdJs us acc) := by
  induction h with
  | nil => exact fun acc I H σ τ Q R G ok rp t hq hx => hq _ _ I H t (.v _) (.refl ok)
  | cons h r ih =>
    intro acc I H σ τ Q R G ok rp t hq hx
    refine h.sim I H σ τ _ R _ ok rp t (fun v d I1 H1 q1 i1 l1 => ?_) hx
    obtain ⟨y, rfl, q1⟩ := str_of1 i1 q1
    exact ⟨y, rfl, q1.1, ih (acc ++ y) I1 H1 σ τ Q R G l1.ok (rp.later l1) q1.2 (fun v d I2 H2 q2 i2 l2 => hq v d I2 H2 q2 i2 (l1.trans l2)) (hx.later l1)⟩
def fToStr : FD := fun ds Q => match ds with
  | [.v (.int i)] => i.natAbs.log2 < 1920 ∧ Q (.str (toString i))
  | _ => False
@[simp] theorem fToStr_int {i : Int} {Q : D → Prop} : fToStr [.v (.int i)] Q = (i.natAbs.log2 < 1920 ∧ Q (.str (toString i))) := rfl
def fSindex (x y : D) (Q : D → Prop) : Prop := match x, y with
  | .v (.str a), .v (.str b) => ∃ (k : Nat) (r : List Nat), Builtin.Str.occurrences a b 0 a.length 1 = k :: r ∧ Q (.int (k : Nat))
  | _, _ => False
@[simp] theorem fSindex_str {a b : Str} {Q : D → Prop} : fSindex (.v (.str a)) (.v (.str b)) Q = ∃ (k : Nat) (r : List Nat), Builtin.Str.occurrences a b 0 a.length 1 = k :: r ∧ Q (.int (k : Nat)) := rfl
@[simp] def tdSindex (u : TDE) (v : TDA) : TDE := fun τ Q R => u τ (fun x => onStr x fun _ => v τ (fun ys => one1 ys fun y => fSindex x y Q) R) R
def HasDic (K : PySem.W.Frag) (w : World) (mg : Str → Option Value) (x : Str) (l : List (Str × List V)) : Prop :=
  ∃ a, mg x = some (.ref a) ∧ ∀ z vs, l.lookup z = some vs → ∃ q, KDct K w a z (.ref q) ∧ ∀ H, SqN K H q vs
@[simp] def tdIxDic (l : List (Str × List V)) (u : TDE) : TDE := fun τ Q R => u τ (fun y => onStr y fun z => ∃ vs, l.lookup z = some vs ∧ Q (.tup (vs.map D.v))) R
theorem de_ixDic {w : World} {x : Str} {l : List (Str × List V)} {d : Addr} {px : Pos} (hm : X.mg x = some (.ref d)) (hl : ∀ z vs, l.lookup z = some vs → ∃ q, KDct K w d z (.ref q) ∧ ∀ H, SqN K H q vs) (hb : DE X K W Wx b tb db) (hw : X.w = w := by rfl) (hg : Gl X x := by rfl) (hd : (x == ("__debug__" : Str)) = false := by decide) (hs : PlainIx b := by exact fun _ _ => rfl) :
    DE X K W Wx (.Subscript (.Name x px) b pos) (tOp (rIxD K w) (tC (.ref d)) tb) (tdIxDic l db) := by
  have hk := hb.k; subst hk; subst hw
  exact ⟨rfl, pe_ix ix_kdict (pe_glob (v := .ref d) hg hm rfl hd) hb.pe hs, fun I H σ τ Q R G ok rp t hq hx => hb.sim I H σ τ _ R _ ok rp t (fun v y I1 H1 q1 i1 l1 => by
    obtain ⟨z, rfl, vs, h1, q1⟩ := str_of1 i1 q1
    obtain ⟨q, kd, sq⟩ := hl z vs h1
    exact ⟨d, z, .ref q, rfl, rfl, kd, hq _ _ I1 H1 q1 (.tup (sq I1) (isAll_flatV vs)) l1⟩) hx⟩
end
end D3
set_option Elab.async false
set_option linter.all false
set_option maxRecDepth 100000
set_option maxHeartbeats 4000000
namespace D3
open PySem PySem.Spec PyProof.Rows L2
def DicT (K : PySem.W.Frag) (w : World) (p : Addr) (l : List (Str × List V)) : Prop := ∀ z vs, l.lookup z = some vs → ∃ q, KDct K w p z (.ref q) ∧ ∀ H, SqN K H q vs
theorem hasDic_mk {K : PySem.W.Frag} {w : World} {h : Heap} {mg : Str → Option Value} {x : Str} {p : Addr} {l : List (Str × List V)} (X : K.In h) (G : h.Ns mainGlobals mg) (a : PySem.W.nsIn K mainGlobals x = some (some (.ref p))) (d : DicT K w p l) : HasDic K w mg x l :=
  ⟨p, PySem.W.mg_of X G a, d⟩
theorem dicT_nil {K : PySem.W.Frag} {w : World} {p : Addr} : DicT K w p [] := fun _ _ h => nomatch h
theorem dicT_cons {K : PySem.W.Frag} {w : World} {p q : Addr} {es : Array DictEntry} {n m : Nat} {x : Str} {o : Obj} {its : Array Value} {vs : List V} {l : List (Str × List V)} (hl : K.lookup p = some ⟨.type "dict", none, .dict es n, #[]⟩) (hk : PySem.W.KeysLit w.params es.toList)
    (hn : PySem.W.nsIn K p x = some (some (.ref q))) (lq : K.lookup q = some o) (h1 : o.dict = none) (h2 : o.cls = .type "tuple") (h3 : o.data = .seq its m) (hz : its.size ≤ sizeLine) (hv : Vals vs its.toList) (r : DicT K w p l) : DicT K w p ((x, vs) :: l) := fun z us e => by
  rw [List.lookup_cons] at e
  cases hb : z == x with
  | true =>
    rw [hb] at e
    cases e
    cases eq_of_beq hb
    exact ⟨q, ⟨es, n, _, hl, hk, hn, rfl⟩, fun H => .inr ⟨o, its, m, lq, h1, h2, h3, hz, hv⟩⟩
  | false =>
    rw [hb] at e
    exact r z us e
end D3
set_option Elab.async false
set_option linter.all false
set_option maxRecDepth 100000
set_option maxHeartbeats 4000000
namespace D3
open PySem PySem.Spec PyProof.Rows L2
section
variable {K : PySem.W.Frag} {W : Wd} {Wx : WX} {X : Cx} {a b e : Expr} {ta tb te : TE} {da db de : TDE} {p pos : Pos} {x : Str}
/-- one's own lists stand still, something flat comes of it -/
@[simp] def tdFrzE (t : TDE) : TDE := fun τ Q _ => t (frz τ) (fun d => flatD d ∧ Q d) (fun _ => False)
theorem SimE.frzE (h : SimE K W Wx te de) : SimE K W Wx te (tdFrzE de) := fun I H σ τ Q R G ok rp t hq hx => by
  obtain ⟨I1, sm, ok1, rp1, nw⟩ := rp.frz ok
  refine h I1 H σ (frz τ) _ (fun _ => False) _ ok1 rp1 t (fun v d I2 H2 q2 i2 l2 => ?_) (fun _ _ _ _ _ z _ _ => z.elim)
  obtain ⟨fl, q⟩ := q2
  obtain ⟨y, ey⟩ := flat_of fl
  subst ey
  cases i2
  exact hq _ _ I H2 q (.v _) ⟨Same.refl I, W.anti l2.ok (sm.trans l2.ex), l2.fr, fun a n e => absurd n e, fun _ z => z.elim⟩
theorem de_frzE (h : DE X K W Wx e te de) : DE X K W Wx e te (tdFrzE de) := by
  have hk := h.k; subst hk
  exact ⟨rfl, h.pe, h.sim.frzE⟩
/-- x[k], x one's own list -/
@[simp] def tdIxO (i : Nat) (t : TDE) : TDE := fun τ Q R => ∃ ds, τ[i]? = some (some (.own ds)) ∧ t τ (fun k => onI k fun k => ∃ d, atI ds k = some d ∧ Q d) R
theorem IsAll.atIO {I : Hp} {vs : List V} {ds : List D} {k : Int} {d : D} (h : IsAll K I vs ds) (e : L2.atI ds k = some d) : ∃ v, L2.atI vs k = some v ∧ Is K I v d := by
  unfold L2.atI at e ⊢
  rw [h.length]
  obtain ⟨j, e1, e2⟩ := Option.bind_eq_some_iff.mp e
  obtain ⟨v, e3, e4⟩ := h.get e2
  exact ⟨v, by rw [e1]; exact e3, e4⟩
theorem SimE.ixO {i : Nat} (hb : SimE K W Wx tb db) : SimE K W Wx (tOp (rIx K) (tVar i) tb) (tdIxO i db) := fun I H σ τ Q R G ok rp t hq hx => by
  obtain ⟨ds, e, t⟩ := t
  obtain ⟨v0, h0, p0, vs0, rfl, hp0, hi0, hf0, al0⟩ := rp.at_ i _ e
  refine ⟨_, h0, hb I H σ τ _ R _ ok rp t (fun v d I1 H1 q1 i1 l1 => ?_) hx⟩
  obtain ⟨k, rfl, d2, e2, q2⟩ := i_of i1 q1
  obtain ⟨w, e3, e4⟩ := al0.atIO e2
  exact .inl ⟨p0, vs0, k, w, rfl, rfl, SqL.of (l1.fr p0 _ hf0 (fun z => z) hp0), e3, hq w d2 I1 H1 q2 (e4.mono l1.ex) l1⟩
theorem de_ixO (i : Nat) {x : Str} {px : Pos} (hb : DE X K W Wx b tb db) (hN : X.N[i]? = some x := by rfl) (hv : Vis X.env.scope x := by first | exact Or.inl rfl | exact Or.inr (Or.inl rfl) | exact Or.inr (Or.inr rfl)) (hd : (x == ("__debug__" : Str)) = false := by decide)
    (hcd : (x == ("__classdict__" : Str)) = false := by decide) (hs : PlainIx b := by exact fun _ _ => rfl) : DE X K W Wx (.Subscript (.Name x px) b pos) (tOp (rIx K) (tVar i) tb) (tdIxO i db) := by
  have hk := hb.k; subst hk
  exact ⟨rfl, pe_ix ix_seq (pe_var hN hv hd hcd) hb.pe hs, .ixO hb.sim⟩
end
end D3
namespace D3
open PySem PySem.Spec PyProof.Rows L2
end D3
set_option Elab.async false
set_option linter.all false
set_option maxRecDepth 100000
set_option maxHeartbeats 4000000
namespace D3
open PySem PySem.Spec PyProof.Rows L2
/-- the world in which the list at p is somebody's, and stays -/
def lentW (W : Wd) (p : Addr) (ws : List V) : Wd where
  ok I H := W.ok I H ∧ I p = none ∧ H p = some (.lst ws)
  free a := W.free a ∧ a ≠ p
  ex h := W.ex h.1
  alo := fun {I H q o} h n => ⟨W.alo h.1 n, h.2.1, by
    have : p ≠ q := fun z => by rw [← z, h.2.2] at n; cases n
    rw [upd_ne this]; exact h.2.2⟩
  fr := fun {I H q} h n => ⟨W.fr h.1 n, fun z => by rw [z, h.2.2] at n; cases n⟩
  mu := fun {I H q o} h n f => ⟨W.mu h.1 n f.1, h.2.1, by rw [upd_ne (Ne.symm f.2)]; exact h.2.2⟩
  fzs := fun {I I' H} h k => ⟨W.fzs h.1 fun a => (k a).imp id fun ⟨x, y, z⟩ => ⟨x, y.1, z⟩, by
    rcases k p with q | ⟨_, f, _⟩
    · rw [q]; exact h.2.1
    · exact absurd rfl f.2, h.2.2⟩
  nb := fun {I H a} h n => by
    by_cases z : a = p
    · rw [z]; exact h.2.1
    · exact W.nb h.1 fun f => n ⟨f, z⟩
  anti := fun {I I' H} h e => ⟨W.anti h.1 e, (by
    cases q : I p with
    | none => rfl
    | some o =>
      have := e p o q
      rw [h.2.1] at this
      cases this), h.2.2⟩
section
variable {K : PySem.W.Frag} {W : Wd} {Wx : WX} {X : Cx} {a b e : Expr} {es : List Expr} {ta te : TE} {da de : TDE} {tr : TA} {dr : TDA} {p pos : Pos} {x : Str}
def flatX (x : Exc) : Prop := ∀ f ∈ x.2, flatD f.2
/-- read as a list that stands still; something flat comes of it, or something flat is raised -/
@[simp] def tdFrzL (W : Wd) (i : Nat) (t : Wd → TDE) : TDE := fun τ Q R => ∃ W0 p ws ds, W = lentW W0 p ws ∧ τ[i]? = some (some (.dat (.lent p ws ds))) ∧ W0.free p ∧ t W0 (τ.set i (some (.dat (.lst ds)))) (fun d => flatD d ∧ Q d) (fun x => flatX x ∧ R x)
/-- list(x) -/
@[simp] def tdListL (W : Wd) (i : Nat) : TDO := fun τ Q _ => ∃ W0 p ws ds, W = lentW W0 p ws ∧ τ[i]? = some (some (.dat (.lent p ws ds))) ∧ Q ds
/-- enumerate(x), x itself gone through -/
@[simp] def idEnumL (W : Wd) (i : Nat) : TDI := fun τ Q _ => ∃ W0 p ws ds, W = lentW W0 p ws ∧ τ[i]? = some (some (.dat (.lent p ws ds))) ∧ Q (nums 0 ds)
@[simp] def idAnyL (W : Wd) (i : Nat) : TDI := fun τ Q _ => ∃ W0 p ws ds, W = lentW W0 p ws ∧ τ[i]? = some (some (.dat (.lent p ws ds))) ∧ Q ds
theorem Walks.lent {W0 : Wd} {I : Hp} {p : Addr} {ws : List V} {ds : List D} (al : IsAll K I ws ds) : Walks K (lentW W0 p ws) (Itl K p) I ds := fun i I2 H2 e ok => by
  have s2 : SqL K H2 p ws := SqL.of ok.2.2
  refine ⟨fun hi => ⟨⟨ws, ws[i]'(by rw [al.length]; exact hi), s2, List.getElem?_eq_getElem _⟩, fun x H3 y => ?_⟩, fun hi => ⟨ws, s2, by rw [al.length]; exact hi⟩⟩
  obtain ⟨rfl, y⟩ := y
  obtain ⟨d, hd, iv⟩ := al.getV (y ws s2)
  exact ⟨I2, d, hd, Later.refl ok, iv.mono e⟩
abbrev TDAL := Tau → (List D → List D → List D → Prop) → (Exc → Prop) → Prop
@[simp] def tdalOwn (i : Nat) (u : TDA) : TDAL := fun τ Q R => ∃ es, τ[i]? = some (some (.own es)) ∧ u τ (fun post => Q [] es post) R
@[simp] def tdalCons (t : TDE) (u : TDAL) : TDAL := fun τ Q R => t τ (fun d => u τ (fun pre es post => Q (d :: pre) es post) R) R
variable {C f : Addr} {n k : Nat} {t : TF} {tO : TFO} {tI : TFI} {fd : FuncData} {ps : List Str} {CX : CXT} {qual : Str} {st : Stmt} {dL : TDAL}
@[simp] def tdMakeL (C : Addr) (n : Nat) (t : TFI) (W : Wd) (u : TDAL) : TDE := fun τ Q R => u τ (fun pre es post => ∀ p ws, W.free p → (pre ++ .lent p ws es :: post).length + 1 = n ∧ t (lentW W p ws) (pre ++ .lent p ws es :: post) (fun fs => Q (.ins C fs)) R) R
@[simp] def tdMakeL0 (C : Addr) (n : Nat) (t : TFI) (W : Wd) (u : TDAL) : TDE := fun τ Q R => u τ (fun pre es post => ∀ p ws, W.free p → (pre ++ .lent p ws es :: post).length + 1 = n ∧ t (lentW W p ws) (pre ++ .lent p ws es :: post) (fun fs => Q (.ins C fs)) (fun _ => False)) R
/-- f(.., x, ..) -/
@[simp] def tdCallL (n : Nat) (t : TF) (W : Wd) (u : TDAL) : TDE := fun τ Q R => u τ (fun pre es post => ∀ p ws, W.free p → (pre ++ .lent p ws es :: post).length = n ∧ t (lentW W p ws) (pre ++ .lent p ws es :: post) Q (fun _ => False)) R
@[simp] def tdCallLX (n : Nat) (t : TF) (W : Wd) (u : TDAL) : TDE := fun τ Q R => u τ (fun pre es post => ∀ p ws, W.free p → (pre ++ .lent p ws es :: post).length = n ∧ t (lentW W p ws) (pre ++ .lent p ws es :: post) Q R) R
end
end D3
set_option Elab.async false
set_option linter.all false
set_option maxRecDepth 100000
set_option maxHeartbeats 4000000
namespace D3
open PySem PySem.Spec PyProof.Rows L2
section
variable {K : PySem.W.Frag} {W : Wd} {Wx : WX} {X : Cx} {a b e : Expr} {es : List Expr} {ta tb te : TE} {da db de : TDE} {tr : TA} {dr : TDA} {p pos : Pos} {x : Str}
def LV (K : PySem.W.Frag) (W : Wd) (I H : Hp) (v : V) (ds : List D) : Prop := ∃ p vs, v = .ref p ∧ (I p = some (.lst vs) ∨ (W.free p ∧ I p = none ∧ H p = some (.lst vs))) ∧ IsAll K I vs ds
theorem LV.at_ {I H : Hp} {v : V} {ds : List D} (h : LV K W I H v ds) (ok : W.ok I H) : ∃ p vs, v = .ref p ∧ H p = some (.lst vs) ∧ IsAll K I vs ds := by
  obtain ⟨p, vs, e, h | h, al⟩ := h
  · exact ⟨p, vs, e, W.ex ok _ _ h, al⟩
  · exact ⟨p, vs, e, h.2.2, al⟩
theorem LV.later {I H I' H' : Hp} {v : V} {ds : List D} (h : LV K W I H v ds) (l : Later W I H I' H') : LV K W I' H' v ds := by
  obtain ⟨p, vs, e, h | h, al⟩ := h
  · exact ⟨p, vs, e, .inl (l.ex _ _ h), al.mono l.ex⟩
  · obtain ⟨k1, k2⟩ := l.keepN h.2.2 h.1 h.2.1
    exact ⟨p, vs, e, .inr ⟨h.1, k2, k1⟩, al.mono l.ex⟩
abbrev TDV := Tau → (List D → Prop) → (Exc → Prop) → Prop
@[simp] def tdvOwn (i : Nat) : TDV := fun τ Q _ => ∃ ds, τ[i]? = some (some (.own ds)) ∧ Q ds
@[simp] def tdvDat (t : TDE) : TDV := fun τ Q R => t τ (fun d => onLst d Q) R
@[simp] def tdCatV (t u : TDV) : TDO := fun τ Q R => t τ (fun ds => u τ (fun es => ds.length + es.length ≤ sizeLine ∧ Q (ds ++ es)) R) R
@[simp] def tdRevV (t : TDV) (u : TDO2) : TDO := fun τ Q R => t τ (fun ds => u τ (fun o => o = some (-1) ∧ Q ds.reverse) R) R
@[simp] def tdSlV (t : TDV) (l h : TDO2) : TDO := fun τ Q R => t τ (fun ds => l τ (fun lo => h τ (fun hi => Q (cutD ds lo hi)) R) R) R
@[simp] def tdListV (t : TDV) : TDO := fun τ Q R => t τ Q R
end
end D3
namespace D3
open PySem PySem.Spec PyProof.Rows L2
end D3
set_option Elab.async false
set_option linter.all false
set_option maxRecDepth 100000
set_option maxHeartbeats 4000000
namespace D3
open PySem PySem.Spec PyProof.Rows L2
section
variable {X : Cx}
def rCatN (K : PySem.W.Frag) : R2 := fun x y H Q => ∃ a b xs ys, x = .ref a ∧ y = .ref b ∧ SqT K H a xs ∧ SqT K H b ys ∧ xs.length + ys.length ≤ sizeLine ∧
  (xs = [] → Q (.ref b) H) ∧ (xs ≠ [] → ys = [] → Q (.ref a) H) ∧ (xs ≠ [] → ys ≠ [] → ∀ (p : Addr) (o : Obj), H p = none → o.dict = none → Q (.ref p) (upd H p (.frz o (.tup (xs ++ ys)))))
theorem op_catN : OpR X (binaryOp .Add) (rCatN X.K) := by
  intro pins s σ H x y v u Q I rx ry h
  obtain ⟨a, b, xs, ys, rfl, rfl, ha, hb, hz, q0, q1, q2⟩ := h
  cases rx
  cases ry
  obtain ⟨its, r1, p1, _⟩ := I.tuple ha
  obtain ⟨its2, r2, p2, _⟩ := I.tuple hb
  by_cases hx : xs = []
  · subst hx
    cases r1
    exact cat_tup0 p1 p2 ⟨.ref b, H, I, rfl, q0 rfl⟩
  · refine HT.cat_tup p1 p2 (fun z => hx (r1.nil_iff.mp z)) (fun z => ⟨.ref a, H, I, rfl, q1 hx (r2.nil_iff.mp z)⟩) (fun z => ?_) (by rw [← r1.length, ← r2.length]; exact hz)
    exact ⟨.ref s.heap.objs.size, _, I.laid (t' := s.toks) (h' := s.heap.push { cls := .type "tuple", data := .seq (its ++ its2).toArray }) (fun b ob q => Heap.get?_push_of_some _ q) (Nat.le_refl _) (ObjOk.tupN (xs := xs ++ ys) (us := its ++ its2) (Heap.get?_push_size _ rfl) rfl rfl (by rw [List.length_append]; exact hz) (r1.append r2)), rfl, q2 hx (fun w => z (r2.nil_iff.mpr w)) _ _ (I.hok.fresh (Nat.le_refl _)) rfl⟩
def rSlN (K : PySem.W.Frag) : V → Option Int → Option Int → Hp → VK → Prop := fun x lo hi H Q => ∃ a xs, x = .ref a ∧ SqT K H a xs ∧
  (HT.sIx xs.length 0 lo = 0 ∧ HT.sIx xs.length xs.length hi = xs.length → Q (.ref a) H) ∧ (¬ (HT.sIx xs.length 0 lo = 0 ∧ HT.sIx xs.length xs.length hi = xs.length) → ∀ (p : Addr) (o : Obj), H p = none → o.dict = none → Q (.ref p) (upd H p (.frz o (.tup (cutV xs lo hi)))))
theorem sl_tupN : SlR X (rSlN X.K) := by
  intro pins s σ H x v vl vu lo hi sl Q I rx hs pl pu h
  obtain ⟨a, xs, rfl, hx, q1, q2⟩ := h
  cases rx
  obtain ⟨its, r, ht, hz⟩ := I.tuple hx
  have hlen : its.toArray.size = xs.length := by rw [List.size_toArray]; exact r.length.symm
  refine ⟨"tuple", _, PyProof.Rows.slot_tuple_getitem.lookup, ht.typeIs, ?_⟩
  by_cases hw : HT.sIx xs.length 0 lo = 0 ∧ HT.sIx xs.length xs.length hi = xs.length
  · exact getItem_tuple_whole ht hs pl pu (by rw [hlen]; exact hw) ⟨.ref a, H, I, rfl, q1 hw⟩
  · refine HT.getItem_tuple_cut ht hs pl pu (by rw [hlen]; exact hw) ?_ (by rw [hlen]; exact hz)
    rw [hlen]
    exact ⟨.ref s.heap.objs.size, _, I.laid (t' := s.toks) (h' := s.heap.push { cls := .type "tuple", data := .seq ((its.drop (HT.sIx xs.length 0 lo)).take (HT.sIx xs.length xs.length hi - HT.sIx xs.length 0 lo)).toArray }) (fun b ob q => Heap.get?_push_of_some _ q) (Nat.le_refl _)
      (ObjOk.tupN (xs := cutV xs lo hi) (us := (its.drop (HT.sIx xs.length 0 lo)).take (HT.sIx xs.length xs.length hi - HT.sIx xs.length 0 lo)) (Heap.get?_push_size _ rfl) rfl rfl (Nat.le_trans (cutV_length xs lo hi) hz) ((r.drop _).take _)), rfl, q2 hw _ _ (I.hok.fresh (Nat.le_refl _)) rfl⟩
end
section
variable {K : PySem.W.Frag} {W : Wd} {Wx : WX} {X : Cx} {a b e : Expr} {es : List Expr} {ta tb te : TE} {da db de : TDE} {tr : TA} {dr : TDA} {p pos : Pos} {x : Str}
/-- t + u -/
def fCatT : TD2 := fun x y Q => match x, y with
  | .tup ds, .tup es => ds.length + es.length ≤ sizeLine ∧ Q (.tup (ds ++ es))
  | _, _ => False
@[simp] theorem fCatT_tup {ds es : List D} {Q : D → Prop} : fCatT (.tup ds) (.tup es) Q = (ds.length + es.length ≤ sizeLine ∧ Q (.tup (ds ++ es))) := rfl
theorem isAll_nil {I : Hp} {xs : List V} {ds : List D} (h : IsAll K I xs ds) : xs = [] ↔ ds = [] := by cases h <;> simp
theorem R2Sim.catT : R2Sim K W (rCatN K) fCatT := fun I H x y dx dy Q G ok hx hy q hq => by
  unfold fCatT at q
  split at q
  · obtain ⟨a, xs, rfl, s1, al1⟩ := is_tupN hx
    obtain ⟨b, ys, rfl, s2, al2⟩ := is_tupN hy
    refine ⟨a, b, xs, ys, rfl, rfl, Same.seqT (W.ex ok) s1.t, Same.seqT (W.ex ok) s2.t, by rw [al1.length, al2.length]; exact q.1, fun z => ?_, fun z1 z => ?_, fun z1 z2 p o hp ho => ?_⟩
    · have := isAll_nil al1 |>.mp z
      subst this
      exact hq _ _ I H q.2 hy (.refl ok)
    · have := isAll_nil al2 |>.mp z
      subst this
      rw [List.append_nil] at q
      exact hq _ _ I H q.2 hx (.refl ok)
    · exact hq _ _ (upd I p (.frz o (.tup (xs ++ ys)))) _ q.2 (.tup (SqN.of upd_same ho) ((al1.append al2).mono (Same.new (Same.non (W.ex ok) hp)))) (Later.alloc ok hp)
  · exact q.elim
theorem de_catT (ha : DE X K W Wx a ta da) (hb : DE X K W Wx b tb db) : DE X K W Wx (.BinOp a .Add b pos) (tOp (rCatN K) ta tb) (tdOp fCatT da db) := by
  have hk := ha.k; subst hk
  exact de_op op_catN .catT ha hb
variable {lo hi : Option Expr} {tl th : TO} {dl dh : TDO2} {p2 : Pos}
def onTup (d : D) (Q : List D → Prop) : Prop := match d with
  | .tup ds => Q ds
  | _ => False
@[simp] theorem onTup_tup {ds : List D} {Q : List D → Prop} : onTup (.tup ds) Q = Q ds := rfl
@[simp] def tdSlT (t : TDE) (l h : TDO2) : TDE := fun τ Q R => t τ (fun x => l τ (fun lo => h τ (fun hi => onTup x fun ds => Q (.tup (cutD ds lo hi))) R) R) R
theorem de_slT (he : DE X K W Wx e te de) (hl : DP X K W Wx lo tl dl) (hh : DP X K W Wx hi th dh) : DE X K W Wx (.Subscript e (.Slice lo hi none p2) pos) (tSl (rSlN K) te tl th) (tdSlT de dl dh) := by
  have hk := he.k; subst hk
  exact ⟨rfl, pe_slice sl_tupN he.pe hl.po hh.po, fun I H σ τ Q R G ok rp t hq hx => he.sim I H σ τ _ R _ ok rp t (fun v d I1 H1 q1 i1 l1 =>
    hl.sim I1 H1 σ τ _ R _ l1.ok (rp.later l1) q1 (fun lo I2 H2 q2 l2 => hh.sim I2 H2 σ τ _ R _ l2.ok ((rp.later l1).later l2) q2 (fun hi I3 H3 q3 l3 => by
      unfold onTup at q3
      split at q3
      · rename_i ds
        obtain ⟨p, xs, rfl, sq, al⟩ := is_tupN i1
        have l := (l1.trans l2).trans l3
        have sm := l2.ex.trans l3.ex
        refine ⟨p, xs, rfl, Same.seqT (W.ex l3.ok) (Same.seqT sm sq.t), fun z => ?_, fun _ n o hn ho => ?_⟩
        · have e : cutD ds lo hi = ds := by
            unfold cutD
            rw [al.length] at z
            rw [z.1, z.2, List.drop_zero, Nat.sub_zero, List.take_length]
          rw [e] at q3
          exact hq _ _ I3 H3 q3 (.tup (Same.seqN sm sq) (al.mono sm)) l
        · exact hq _ _ (upd I3 n (.frz o (.tup (cutV xs lo hi)))) _ q3 (.tup (SqN.of upd_same ho) ((al.cut lo hi).mono (sm.trans (Same.new (Same.non (W.ex l3.ok) hn))))) (l.trans (Later.alloc l3.ok hn))
      · exact q3.elim) (hx.later (l1.trans l2))) (hx.later l1)) hx⟩
/-- int(text) -/
def fIntS : FD := fun ds Q => match ds with
  | [.v (.str s)] => ∃ n, PySem.intText? s = some n ∧ s.length ≤ 640 ∧ Q (.int n)
  | _ => False
@[simp] theorem fIntS_str {s : Str} {Q : D → Prop} : fIntS [.v (.str s)] Q = ∃ n, PySem.intText? s = some n ∧ s.length ≤ 640 ∧ Q (.int n) := rfl
def putKD (gs : List (Key × D)) (k : Key) (d : D) : List (Key × D) := if (gs.any fun g => decide (g.1 = k)) = true then gs.map (fun g => if g.1 = k then (g.1, d) else g) else gs ++ [(k, d)]
theorem IsKv.any {I : Hp} {k : Key} : ∀ {vs : List (Key × V)} {gs : List (Key × D)}, IsKv K I vs gs → (vs.any fun g => decide (g.1 = k)) = gs.any fun g => decide (g.1 = k)
  | _, _, .nil => rfl
  | _, _, .cons h r => by simp only [List.any_cons]; rw [IsKv.any r]
theorem IsKv.append {I : Hp} : ∀ {vs ws : List (Key × V)} {gs hs : List (Key × D)}, IsKv K I vs gs → IsKv K I ws hs → IsKv K I (vs ++ ws) (gs ++ hs)
  | _, _, _, _, .nil, s => s
  | _, _, _, _, .cons h r, s => .cons h (IsKv.append r s)
theorem IsKv.store {I : Hp} {k : Key} {v : V} {d : D} (h : Is K I v d) : ∀ {vs : List (Key × V)} {gs : List (Key × D)}, IsKv K I vs gs → IsKv K I (vs.map fun g => if g.1 = k then (g.1, v) else g) (gs.map fun g => if g.1 = k then (g.1, d) else g)
  | _, _, .nil => .nil
  | _, _, .cons (k := k') q r => by
    simp only [List.map_cons]
    by_cases e : k' = k
    · rw [if_pos e, if_pos e]; exact .cons h (IsKv.store h r)
    · rw [if_neg e, if_neg e]; exact .cons q (IsKv.store h r)
theorem IsKv.put {I : Hp} {k : Key} {v : V} {d : D} {vs : List (Key × V)} {gs : List (Key × D)} (r : IsKv K I vs gs) (h : Is K I v d) : IsKv K I (putK vs k v) (putKD gs k d) := by
  unfold putK putKD
  rw [IsKv.any r]
  split
  · exact IsKv.store h r
  · exact r.append (.cons h .nil)
def valD (gs : List (Key × D)) (k : Key) : Option D := (gs.find? fun g => decide (g.1 = k)).map (·.2)
theorem IsKv.val {I : Hp} {k : Key} {d : D} : ∀ {vs : List (Key × V)} {gs : List (Key × D)}, IsKv K I vs gs → valD gs k = some d → ∃ v, valV vs k = some v ∧ Is K I v d
  | _, _, .nil, e => by cases e
  | _, _, .cons (k := k') (v := v') q r, e => by
    unfold valD at e
    rw [List.find?_cons] at e
    by_cases h : k' = k
    · subst h
      rw [decide_eq_true rfl] at e
      cases e
      exact ⟨_, valV_pos rfl, q⟩
    · rw [decide_eq_false h] at e
      obtain ⟨v, h1, h2⟩ := IsKv.val r e
      exact ⟨v, (valV_neg h).trans h1, h2⟩
theorem mergeK_new : ∀ {more kvs : List (Key × V)}, ((kvs ++ more).map (·.1)).Nodup → mergeK kvs more = kvs ++ more
  | [], kvs, _ => by simp [mergeK]
  | (k, v) :: r, kvs, h => by
    have hk : ∀ g ∈ kvs, g.1 ≠ k := fun g hg e => by
      rw [List.map_append, List.nodup_append] at h
      exact h.2.2 _ (List.mem_map_of_mem hg) k (by simp) e
    have e : putK kvs k v = kvs ++ [(k, v)] := by
      unfold putK
      rw [if_neg]
      simp only [List.any_eq_true, decide_eq_true_eq]
      rintro ⟨g, hg, e⟩
      exact hk g hg e
    have := mergeK_new (more := r) (kvs := kvs ++ [(k, v)]) (by simpa using h)
    unfold mergeK at this ⊢
    rw [List.foldl_cons, e, this]
    simp
def fDictP : FD := fun ds Q => match ds with
  | [.lst xs] => ∃ gs : List (Str × D), xs = gs.map (fun g => .tup [.str g.1, g.2]) ∧ (gs.map (·.1)).Nodup ∧ Q (.dic (gs.map fun g => (.inr g.1, g.2)))
  | _ => False
@[simp] theorem fDictP_lst {xs : List D} {Q : D → Prop} : fDictP [.lst xs] Q = ∃ gs : List (Str × D), xs = gs.map (fun g => .tup [.str g.1, g.2]) ∧ (gs.map (·.1)).Nodup ∧ Q (.dic (gs.map fun g => (.inr g.1, g.2))) := rfl
/-- d[text] -/
def onDic (d : D) (Q : List (Key × D) → Prop) : Prop := match d with
  | .dic gs => Q gs
  | _ => False
@[simp] theorem onDic_dic {gs : List (Key × D)} {Q : List (Key × D) → Prop} : onDic (.dic gs) Q = Q gs := rfl
@[simp] def tdDGet (t u : TDE) : TDE := fun τ Q R => t τ (fun x => u τ (fun y => onDic x fun gs => onStr y fun z => ∃ d, valD gs (.inr z) = some d ∧ Q d) R) R
/-- names.index(text), names a list of flat things -/
def fLix (x y : D) (Q : D → Prop) : Prop := match x, y with
  | .lst ds, .v (.str z) => ∃ (ys : List Str) (j : Nat), ds = ys.map D.str ∧ ys[j]? = some z ∧ (∀ m, m < j → ys[m]? ≠ some z) ∧ Q (.int (j : Nat))
  | _, _ => False
@[simp] theorem fLix_lst {ds : List D} {z : Str} {Q : D → Prop} : fLix (.lst ds) (.v (.str z)) Q = ∃ (ys : List Str) (j : Nat), ds = ys.map D.str ∧ ys[j]? = some z ∧ (∀ m, m < j → ys[m]? ≠ some z) ∧ Q (.int (j : Nat)) := rfl
@[simp] def tdLix (u : TDE) (v : TDA) : TDE := fun τ Q R => u τ (fun x => onLst x fun _ => v τ (fun ys => one1 ys fun y => fLix x y Q) R) R
end
end D3
set_option Elab.async false
set_option linter.all false
set_option maxRecDepth 100000
set_option maxHeartbeats 4000000
namespace D3
open PySem PySem.Spec PyProof.Rows PyProof.Rows.G L2
abbrev Tri := Int × Int × Str
def triK (t : Tri) : List (Int ⊕ List Nat) := [.inl t.1, .inl t.2.1, .inr t.2.2.cps.toList]
def triD (t : Tri) : D := .tup [.int t.1, .int t.2.1, .str t.2.2]
def triLe (a b : Tri) : Prop := lexLt itemOrd (triK b) (triK a) = false
variable {X : Cx} {K : PySem.W.Frag} {W : Wd} {Wx : WX}
def fSortT : List D → (List D → Prop) → Prop := fun ds Q => match ds with
  | [.lst xs] => ∃ ks : List Tri, xs = ks.map triD ∧ ∀ ls : List Tri, ls.Perm ks → ls.Pairwise triLe → Q (ls.map triD)
  | _ => False
@[simp] theorem fSortT_lst {xs : List D} {Q : List D → Prop} : fSortT [.lst xs] Q = ∃ ks : List Tri, xs = ks.map triD ∧ ∀ ls : List Tri, ls.Perm ks → ls.Pairwise triLe → Q (ls.map triD) := rfl
end D3
set_option Elab.async false
set_option linter.all false
set_option maxRecDepth 100000
set_option maxHeartbeats 4000000
namespace D3
open PySem PySem.Spec PySem.W PySem.Calls PyProof.Rows L2
section
variable {X : Cx} {K : PySem.W.Frag} {W : Wd} {Wx : WX} {e o : Expr} {te to : TE} {de dO : TDE} {pos : Pos}
@[simp] def tdStarL (n i : Nat) (u : TDGs) (t : TDE) : TDS := fun τ E => t τ (fun d => onLst d fun xs => i < n ∧ n ≤ xs.length + 1 ∧ xs.length ≤ 16384 ∧ u (xs.take i ++ [.lst ((xs.drop i).take (xs.length + 1 - n))] ++ (xs.drop i).drop (xs.length + 1 - n)) τ E.nx) (fun x => E.ex x τ)
@[simp] def tdDead : TDS := fun _ _ => False
@[simp] def tdTryC (tdb : TDS) : TDS := fun τ E => tdb τ { E with ex := fun _ _ => False }
def fPart (a b : Str) (Q : D → Prop) : Prop := (b.length == 0) = false ∧ a.length ≤ sizeLine ∧ Q (.tup [.str (Txt.partition a b).1, .str (Txt.partition a b).2.1, .str (Txt.partition a b).2.2])
@[simp] def tdPartn (t u : TDE) : TDE := fun τ Q R => t τ (fun x => onStr x fun a => u τ (fun y => onStr y fun b => fPart a b Q) R) R
end
end D3
set_option Elab.async false
set_option linter.all false
set_option maxRecDepth 100000
set_option maxHeartbeats 4000000
namespace D3
open PySem PySem.Spec PySem.W PySem.Calls PyProof.Rows L2
section
variable {X : Cx}
theorem mt_setd : MtR X "dict.setdefault" rSetd := by
  intro pins s σ H x xs v us Q I rx rv h
  obtain ⟨a, kvs, k, v0, rfl, rfl, ea, hl, w1, w2⟩ := h
  cases rx
  cases rv with
  | cons ry rv =>
    cases rv with
    | cons rd rv =>
      cases rv
      obtain ⟨z, hd, vs0, rel, dd⟩ := dk_of I.hok ea
      have dd2 := dd
      obtain ⟨o, es, ep, eo, exd, hdat, _⟩ := dd2
      have hz : vs0.length ≤ sizeLine := by rw [← rel.length]; exact z
      refine call_meetsIn PySem.F.slot_dict_setdefault dd.typeIs PySem.F.entry_dict_setdefault (PySem.F.args_dict_setdefault_3 _ _ _) (kt_meets_setdefault (mixKind X.prog X.w) _ (kV_is ry) hd _) ⟨vs0, dd, hz, fun u hu => ?_, fun hn h' dd' hs => ?_⟩
      · have rr := rel.val k
        rw [hu] at rr
        cases hv : valV kvs k with
        | none => rw [hv] at rr; exact False.elim rr
        | some x =>
          rw [hv] at rr
          exact (⟨x, H, I.tok _, rr, w1 x hv⟩ : EP X pins σ Q u _)
      · have rr := rel.val k
        rw [hn] at rr
        cases hv : valV kvs k with
        | some x => rw [hv] at rr; exact False.elim rr
        | none =>
          have hl2 : (putK kvs k v0).length ≤ sizeLine := by have := length_putK kvs k v0; omega
          exact (⟨v0, _, d_write (t' := s.toks + 1) I (by rw [ea]; exact True.intro) hs (let ⟨q, _, _, hq, _⟩ := dd'; ⟨q, hq⟩) (dk_new hl2 hd (rel.put k rd) dd'), rd, w2 hv⟩ : EP X pins σ Q _ _)
end
section
variable {X : Cx} {K : PySem.W.Frag} {W : Wd} {Wx : WX} {pos : Pos}
/-- x = {} -/
@[simp] def tdNewK (i : Nat) : TDS := fun τ E => E.nx (τ.set i (some (.dk [])))
theorem tyV_dk {H : Hp} {p : Addr} {vs : List (Key × V)} (h : H p = some (.dK vs)) : tyV K "dict" (.ref p) H := .inr (.inr (.inl ⟨rfl, .inl ⟨vs, h⟩⟩))
theorem IsKv.len {I : Hp} : ∀ {vs : List (Key × V)} {gs : List (Key × D)}, IsKv K I vs gs → vs.length = gs.length
  | _, _, .nil => rfl
  | _, _, .cons _ r => by rw [List.length_cons, List.length_cons, IsKv.len r]
/-- if x.setdefault(y, z) != z: what is never come to -/
@[simp] def tdSetd (i j m : Nat) : TDS := fun τ E => ∃ gs kz vz, τ[i]? = some (some (.dk gs)) ∧ τ[j]? = some (some (.dat (.str kz))) ∧ τ[m]? = some (some (.dat (.str vz))) ∧ gs.length < sizeLine ∧
  (∀ d, valD gs (.inr kz) = some d → d = .str vz ∧ E.nx τ) ∧ (valD gs (.inr kz) = none → E.nx (τ.set i (some (.dk (putKD gs (.inr kz) (.str vz))))))
end
end D3
set_option Elab.async false
set_option linter.all false
set_option maxRecDepth 100000
set_option maxHeartbeats 4000000
namespace D3
open PySem PySem.Spec PyProof.Rows L2
def TS : List String := ["NoneType", "int", "str", "bool", "list", "tuple"]
section
variable {X : Cx} {e st : Expr} {te ts : TE} {to : TO} {p2 pos : Pos}
variable {K : PySem.W.Frag} {W : Wd} {Wx : WX} {de : TDE} {dp : TDO2}
@[simp] def tdRevT (t : TDE) (u : TDO2) : TDE := fun τ Q R => t τ (fun x => u τ (fun o => o = some (-1) ∧ onTup x fun ds => Q (.tup ds.reverse)) R) R
end
end D3
set_option Elab.async false
set_option linter.all false
set_option maxRecDepth 100000
set_option maxHeartbeats 4000000
namespace D3
open PySem PySem.Spec PyProof.Rows L2
variable {K : PySem.W.Frag} {W : Wd} {Wx : WX} {X : Cx} {a b c : Expr} {pos : Pos} {n : Nat}
def three (ds : List D) (P : D → D → D → Prop) : Prop := match ds with
  | [x, y, z] => P x y z
  | _ => False
@[simp] theorem three_three {x y z : D} {P : D → D → D → Prop} : three [x, y, z] P = P x y z := rfl
@[simp] def tdPar3 (i j l : Nat) (u : TDA) : TDS := fun τ E => u τ (fun ds => three ds fun x y z => E.nx (((τ.set i (some (.dat x))).set j (some (.dat y))).set l (some (.dat z)))) (fun x => E.ex x τ)
end D3
set_option Elab.async false
set_option linter.all false
set_option maxRecDepth 100000
set_option maxHeartbeats 4000000
namespace D3
open PySem L2
/-- signs that a text shows as they are -/
def SH : List Nat := 46 :: (List.range 26).map (· + 97)
theorem sh_ch : ∀ c ∈ SH, Builtin.Str.reprChar 39 c = [c] := by decide +kernel
theorem sh_no : 39 ∉ SH ∧ 34 ∉ SH := by decide +kernel
theorem sh_fold : ∀ (l acc : List Nat), (∀ c ∈ l, c ∈ SH) → l.foldl (fun (out : Array Nat) c => out ++ (Builtin.Str.reprChar 39 c).toArray) acc.toArray = (acc ++ l).toArray
  | [], acc, _ => by simp
  | c :: l, acc, h => by
    rw [List.foldl_cons, sh_ch c (h c List.mem_cons_self)]
    have e : acc.toArray ++ [c].toArray = (acc ++ [c]).toArray := by simp
    rw [e, sh_fold l (acc ++ [c]) fun x hx => h x (List.mem_cons_of_mem _ hx)]
    simp
theorem repr_mk {l : List Nat} (h : ∀ c ∈ l, c ∈ SH) : reprText (mk l) = mk (39 :: (l ++ [39])) := by
  have q : reprQuote (mk l) = 39 := by
    unfold reprQuote
    have n : (mk l).cps.contains 39 = false := by
      simp only [mk_cps', List.contains_toArray]
      simp only [List.contains_eq_mem, decide_eq_false_iff_not]
      exact fun z => sh_no.1 (h _ z)
    rw [n]; rfl
  unfold reprText
  rw [q]
  simp only [mk_cps']
  have e : (#[39] : Array Nat) = [39].toArray := rfl
  rw [e]
  have f := sh_fold l [39] h
  rw [List.foldl_toArray', f] <;> simp [mk]
def jn : List (List Nat) → List Nat
  | [] => []
  | [x] => x
  | x :: r => x ++ 44 :: 32 :: jn r
theorem comma_mk : (", " : Str) = mk [44, 32] := by decide +kernel
theorem join_jn : ∀ ls : List (List Nat), Str.join ", " (ls.map mk) = mk (jn ls)
  | [] => by decide +kernel
  | [x] => rfl
  | x :: y :: r => by
    show mk x ++ (", " : Str) ++ Str.join ", " ((y :: r).map mk) = mk (x ++ 44 :: 32 :: jn (y :: r))
    rw [join_jn (y :: r), comma_mk, app_mk, app_mk]
    simp
/-- how data is shown, by its signs' numbers -/
def shL (d : D) : List Nat := (reprD d).cps.toList
theorem shL_mk (d : D) : reprD d = mk (shL d) := mk_of _
theorem shown_all : ∀ ds : List D, PyData.shownAll (toPys ds) = (ds.map shL).map mk
  | [] => by simp [toPys, PyData.shownAll]
  | d :: ds => by
    simp only [toPys, PyData.shownAll, List.map_cons, shown_all ds]
    exact congrArg (· :: _) (shL_mk d)
theorem toPys_len : ∀ ds : List D, (toPys ds).length = ds.length
  | [] => by simp [toPys]
  | d :: ds => by simp [toPys, toPys_len ds]
theorem br_mk : ("[" : Str) = mk [91] ∧ ("]" : Str) = mk [93] ∧ ("(" : Str) = mk [40] ∧ ((")" : String) : Str) = mk [41] ∧ ((",)" : String) : Str) = mk [44, 41] := by decide +kernel
theorem shL_lst (ds : List D) : shL (.lst ds) = 91 :: (jn (ds.map shL) ++ [93]) := by
  have e : reprD (.lst ds) = mk (91 :: (jn (ds.map shL) ++ [93])) := by
    show (toPy (.lst ds)).shown = _
    rw [toPy, PyData.shown_list, shown_all, join_jn, br_mk.1, br_mk.2.1, app_mk, app_mk]
    rfl
  unfold shL
  rw [e, mk_cps]
  rfl
def tEnd (n : Nat) : List Nat := if n = 1 then [44, 41] else [41]
theorem shL_tup (ds : List D) : shL (.tup ds) = 40 :: (jn (ds.map shL) ++ tEnd ds.length) := by
  have e : reprD (.tup ds) = mk (40 :: (jn (ds.map shL) ++ tEnd ds.length)) := by
    show (toPy (.tup ds)).shown = _
    rw [toPy, PyData.shown_tuple, shown_all, join_jn, br_mk.2.2.1, toPys_len]
    unfold tEnd
    by_cases h : ds.length = 1
    · rw [if_pos h, if_pos (by simpa using h), br_mk.2.2.2.2, app_mk, app_mk]; rfl
    · rw [if_neg h, if_neg (by simpa using h), br_mk.2.2.2.1, app_mk, app_mk]; rfl
  unfold shL
  rw [e, mk_cps]
  rfl
theorem shL_str {l : List Nat} (h : ∀ c ∈ l, c ∈ SH) : shL (sD l) = 39 :: (l ++ [39]) := by
  have e : reprD (sD l) = mk (39 :: (l ++ [39])) := by
    show (toPy (sD l)).shown = _
    simp only [toPy, PyData.shown_str]
    exact repr_mk h
  unfold shL
  rw [e, mk_cps]
def sdig (n : Nat) : List Nat := (Str.ofString (toString (n : Int))).cps.toList
theorem shL_int (n : Nat) : shL (.int n) = sdig n := rfl
theorem dig_ok : ∀ n ∈ List.range 100, sdig n ≠ [] ∧ (∀ c ∈ sdig n, 48 ≤ c ∧ c ≤ 57) ∧ (sdig n).foldl (fun a c => a * 10 + (c - 48)) 0 = n := by decide +kernel
inductive Nice : D → Prop
  | s {l : List Nat} (h : ∀ c ∈ l, c ∈ SH) : Nice (sD l)
  | i {n : Nat} (h : n < 100) : Nice (.int n)
  | t {ds : List D} (h : ∀ d ∈ ds, Nice d) : Nice (.tup ds)
  | l {ds : List D} (h : ∀ d ∈ ds, Nice d) : Nice (.lst ds)
theorem cut_inj {p : Nat → Bool} : ∀ {l l' r r' : List Nat}, (∀ c ∈ l, p c = true) → (∀ c ∈ l', p c = true) → (∀ c, r.head? = some c → p c = false) → (∀ c, r'.head? = some c → p c = false) → l ++ r = l' ++ r' → l = l' ∧ r = r'
  | [], [], r, r', _, _, _, _, h => ⟨rfl, by simpa using h⟩
  | [], c :: l', r, r', _, h2, h3, _, h => by
    have e : r = c :: (l' ++ r') := by simpa using h
    have := h3 c (by rw [e]; rfl)
    rw [h2 c List.mem_cons_self] at this
    exact nomatch this
  | c :: l, [], r, r', h1, _, _, h4, h => by
    have e : r' = c :: (l ++ r) := by simpa using h.symm
    have := h4 c (by rw [e]; rfl)
    rw [h1 c List.mem_cons_self] at this
    exact nomatch this
  | c :: l, c' :: l', r, r', h1, h2, h3, h4, h => by
    have h : c = c' ∧ l ++ r = l' ++ r' := by simpa using h
    obtain ⟨e1, e2⟩ := cut_inj (fun x hx => h1 x (List.mem_cons_of_mem _ hx)) (fun x hx => h2 x (List.mem_cons_of_mem _ hx)) h3 h4 h.2
    exact ⟨by rw [h.1, e1], e2⟩
def Dl (r : List Nat) : Prop := ∀ c, r.head? = some c → c = 44 ∨ c = 41 ∨ c = 93
/-- what an item begins with -/
theorem Nice.head {d : D} (h : Nice d) : ∃ c t, shL d = c :: t ∧ ((c = 39 ∧ ∃ l, d = sD l) ∨ (48 ≤ c ∧ c ≤ 57 ∧ ∃ n : Nat, d = .int n) ∨ (c = 40 ∧ ∃ ds, d = .tup ds) ∨ (c = 91 ∧ ∃ ds, d = .lst ds)) := by
  cases h with
  | s h => exact ⟨_, _, shL_str h, .inl ⟨rfl, _, rfl⟩⟩
  | @i n h =>
    obtain ⟨h1, h2, _⟩ := dig_ok n (List.mem_range.mpr h)
    rw [shL_int]
    cases e : sdig n with
    | nil => exact absurd e h1
    | cons c t =>
      have := h2 c (by rw [e]; exact List.mem_cons_self)
      exact ⟨c, t, rfl, .inr (.inl ⟨this.1, this.2, _, rfl⟩)⟩
  | t h => exact ⟨_, _, shL_tup _, .inr (.inr (.inl ⟨rfl, _, rfl⟩))⟩
  | l h => exact ⟨_, _, shL_lst _, .inr (.inr (.inr ⟨rfl, _, rfl⟩))⟩
def InjAt (d : D) : Prop := ∀ e, Nice e → ∀ r r', Dl r → Dl r' → shL d ++ r = shL e ++ r' → d = e ∧ r = r'
def Cl (x : List Nat) : Prop := ∃ t, x = 41 :: t ∨ x = 93 :: t ∨ x = 44 :: 41 :: t
theorem Cl.dl {x : List Nat} (h : Cl x) : Dl x := fun c hc => by
  obtain ⟨t, rfl | rfl | rfl⟩ := h <;> simp at hc <;> omega
theorem Dl.more {x : List Nat} : Dl (44 :: x) := fun c hc => by
  simp at hc; omega
theorem Cl.not_item {x t : List Nat} {d : D} (h : Cl x) (hd : Nice d) (e : x = shL d ++ t) : False := by
  obtain ⟨c, u, e1, k⟩ := hd.head
  rw [e1] at e
  obtain ⟨t', rfl | rfl | rfl⟩ := h <;> simp at e <;> omega
theorem Cl.not_sep {x t : List Nat} (h : Cl x) (e : x = 44 :: 32 :: t) : False := by
  obtain ⟨t', rfl | rfl | rfl⟩ := h <;> simp at e
theorem jn_inj : ∀ (ds es : List D), (∀ d ∈ ds, InjAt d) → (∀ d ∈ ds, Nice d) → (∀ e ∈ es, Nice e) → ∀ x y, Cl x → Cl y → jn (ds.map shL) ++ x = jn (es.map shL) ++ y → ds = es ∧ x = y
  | [], [], _, _, _, x, y, _, _, h => ⟨rfl, by simpa [jn] using h⟩
  | [], [e], _, _, he, x, y, hx, hy, h => (hx.not_item (he e List.mem_cons_self) (t := y) (by simpa [jn] using h)).elim
  | [], e :: e' :: es, _, _, he, x, y, hx, hy, h => (hx.not_item (he e List.mem_cons_self) (t := 44 :: 32 :: (jn ((e' :: es).map shL) ++ y)) (by simpa [jn] using h)).elim
  | [d], [], _, hd, _, x, y, hx, hy, h => (hy.not_item (hd d List.mem_cons_self) (t := x) (by simpa [jn] using h.symm)).elim
  | d :: d' :: ds, [], _, hd, _, x, y, hx, hy, h => (hy.not_item (hd d List.mem_cons_self) (t := 44 :: 32 :: (jn ((d' :: ds).map shL) ++ x)) (by simpa [jn] using h.symm)).elim
  | [d], [e], hi, _, he, x, y, hx, hy, h => by
    obtain ⟨rfl, rfl⟩ := hi d List.mem_cons_self e (he e List.mem_cons_self) x y hx.dl hy.dl (by simpa [jn] using h)
    exact ⟨rfl, rfl⟩
  | [d], e :: e' :: es, hi, _, he, x, y, hx, hy, h => by
    have k := hi d List.mem_cons_self e (he e List.mem_cons_self) x (44 :: 32 :: (jn ((e' :: es).map shL) ++ y)) hx.dl Dl.more (by simpa [jn] using h)
    exact (hx.not_sep k.2).elim
  | d :: d' :: ds, [e], hi, _, he, x, y, hx, hy, h => by
    have k := hi d List.mem_cons_self e (he e List.mem_cons_self) (44 :: 32 :: (jn ((d' :: ds).map shL) ++ x)) y Dl.more hy.dl (by simpa [jn] using h)
    exact (hy.not_sep k.2.symm).elim
  | d :: d' :: ds, e :: e' :: es, hi, hd, he, x, y, hx, hy, h => by
    have k := hi d List.mem_cons_self e (he e List.mem_cons_self) (44 :: 32 :: (jn ((d' :: ds).map shL) ++ x)) (44 :: 32 :: (jn ((e' :: es).map shL) ++ y)) Dl.more Dl.more (by simpa [jn] using h)
    have k2 : jn ((d' :: ds).map shL) ++ x = jn ((e' :: es).map shL) ++ y := by simpa using k.2
    obtain ⟨e1, e2⟩ := jn_inj (d' :: ds) (e' :: es) (fun z hz => hi z (List.mem_cons_of_mem _ hz)) (fun z hz => hd z (List.mem_cons_of_mem _ hz)) (fun z hz => he z (List.mem_cons_of_mem _ hz)) x y hx hy k2
    exact ⟨by rw [k.1, e1], e2⟩
theorem cl_end (n : Nat) (r : List Nat) : Cl (tEnd n ++ r) := by
  unfold tEnd
  split
  · exact ⟨r, .inr (.inr rfl)⟩
  · exact ⟨r, .inl rfl⟩
theorem Nice.inj {d : D} (h : Nice d) : InjAt d := by
  induction h with
  | @s l h =>
    intro e he r r' hr hr' q
    rw [shL_str h] at q
    obtain ⟨c, t, e1, k⟩ := he.head
    cases he with
    | @s l' h' =>
      rw [shL_str h'] at q
      have q : l ++ 39 :: r = l' ++ 39 :: r' := by simpa using q
      obtain ⟨rfl, e2⟩ := cut_inj (p := fun c => c != 39) (fun c hc => by simp only [bne_iff_ne]; exact fun z => sh_no.1 (by rw [← z]; exact h c hc)) (fun c hc => by simp only [bne_iff_ne]; exact fun z => sh_no.1 (by rw [← z]; exact h' c hc)) (fun c hc => by simp at hc; simp [← hc]) (fun c hc => by simp at hc; simp [← hc]) q
      exact ⟨rfl, by simpa using e2⟩
    | i h' =>
      rw [e1] at q
      rcases k with ⟨_, _, k⟩ | ⟨k1, k2, _⟩ | ⟨_, _, k⟩ | ⟨_, _, k⟩ <;> first | (cases k; done) | skip
      have q : 39 = c := by simpa using (List.cons.inj q).1
      omega
    | t h' => rw [shL_tup] at q; exact absurd (List.cons.inj q).1 (by decide)
    | l h' => rw [shL_lst] at q; exact absurd (List.cons.inj q).1 (by decide)
  | @i n h =>
    intro e he r r' hr hr' q
    obtain ⟨c, t, e1, k⟩ := (Nice.i h).head
    have k : 48 ≤ c ∧ c ≤ 57 := by rcases k with ⟨_, _, k⟩ | ⟨k1, k2, _⟩ | ⟨_, _, k⟩ | ⟨_, _, k⟩ <;> first | (cases k; done) | exact ⟨k1, k2⟩
    cases he with
    | @s l' h' => rw [e1, shL_str h'] at q; have := (List.cons.inj q).1; omega
    | @i m h' =>
      rw [shL_int, shL_int] at q
      obtain ⟨_, g2, g3⟩ := dig_ok n (List.mem_range.mpr h)
      obtain ⟨_, g2', g3'⟩ := dig_ok m (List.mem_range.mpr h')
      have nd : ∀ {r : List Nat}, Dl r → ∀ c, r.head? = some c → (decide (48 ≤ c) && decide (c ≤ 57)) = false := fun hr c hc => by
        rcases hr c hc with rfl | rfl | rfl <;> rfl
      obtain ⟨e2, e3⟩ := cut_inj (p := fun c => decide (48 ≤ c) && decide (c ≤ 57)) (fun c hc => by have := g2 c hc; simp [this]) (fun c hc => by have := g2' c hc; simp [this]) (nd hr) (nd hr') q
      rw [e2, g3'] at g3
      exact ⟨by rw [g3], e3⟩
    | t h' => rw [e1, shL_tup] at q; have := (List.cons.inj q).1; omega
    | l h' => rw [e1, shL_lst] at q; have := (List.cons.inj q).1; omega
  | @t ds h ih =>
    intro e he r r' hr hr' q
    rw [shL_tup] at q
    obtain ⟨c, t, e1, k⟩ := he.head
    cases he with
    | @s l' h' => rw [shL_str h'] at q; exact absurd (List.cons.inj q).1 (by decide)
    | i h' =>
      rw [e1] at q
      rcases k with ⟨_, _, k⟩ | ⟨k1, k2, _⟩ | ⟨_, _, k⟩ | ⟨_, _, k⟩ <;> first | (cases k; done) | skip
      have := (List.cons.inj q).1
      omega
    | @t es h' =>
      rw [shL_tup] at q
      have q : jn (ds.map shL) ++ (tEnd ds.length ++ r) = jn (es.map shL) ++ (tEnd es.length ++ r') := by simpa using q
      obtain ⟨rfl, e2⟩ := jn_inj ds es ih h h' _ _ (cl_end _ _) (cl_end _ _) q
      exact ⟨rfl, by simpa using e2⟩
    | l h' => rw [shL_lst] at q; exact absurd (List.cons.inj q).1 (by decide)
  | @l ds h ih =>
    intro e he r r' hr hr' q
    rw [shL_lst] at q
    obtain ⟨c, t, e1, k⟩ := he.head
    cases he with
    | @s l' h' => rw [shL_str h'] at q; exact absurd (List.cons.inj q).1 (by decide)
    | i h' =>
      rw [e1] at q
      rcases k with ⟨_, _, k⟩ | ⟨k1, k2, _⟩ | ⟨_, _, k⟩ | ⟨_, _, k⟩ <;> first | (cases k; done) | skip
      have := (List.cons.inj q).1
      omega
    | t h' => rw [shL_tup] at q; exact absurd (List.cons.inj q).1 (by decide)
    | @l es h' =>
      rw [shL_lst] at q
      have q : jn (ds.map shL) ++ 93 :: r = jn (es.map shL) ++ 93 :: r' := by simpa using q
      obtain ⟨rfl, e2⟩ := jn_inj ds es ih h h' _ _ ⟨r, .inr (.inl rfl)⟩ ⟨r', .inr (.inl rfl)⟩ q
      exact ⟨rfl, by simpa using e2⟩
end D3
set_option Elab.async false
set_option linter.all false
set_option maxRecDepth 100000
set_option maxHeartbeats 2000000
namespace D3
open PySem PySem.Spec PySem.W PySem.Calls PyProof.Rows L2
abbrev TK := List L2.Key
abbrev DtE := List (TK × Addr × Value)
section
variable {α : Type}
/-- what a list of pairs tells of a key -/
def valT (gs : List (TK × α)) (k : TK) : Option α := (gs.find? fun g => decide (g.1 = k)).map (·.2)
def putT (gs : List (TK × α)) (k : TK) (d : α) : List (TK × α) := if (valT gs k).isSome then gs.map (fun g => if g.1 = k then (g.1, d) else g) else gs ++ [(k, d)]
@[simp] theorem valT_nil {k : TK} : valT ([] : List (TK × α)) k = none := rfl
theorem valT_cons {k : TK} {g : TK × α} {gs : List (TK × α)} : valT (g :: gs) k = if g.1 = k then some g.2 else valT gs k := by
  unfold valT
  rw [List.find?_cons]
  by_cases e : g.1 = k
  · simp [e]
  · simp [e]
end
theorem atKey_cons {k : TK} {g : TK × Addr × Value} {gs : DtE} : atKey (g :: gs) k = if g.1 = k then some g.2 else atKey gs k := by
  unfold atKey
  rw [List.find?_cons]
  by_cases e : g.1 = k
  · simp [e]
  · simp [e]
section
variable {K : PySem.W.Frag} {I : Hp} {us : DtE} {gs : List (TK × D)} {k : TK}
theorem IsT.ks : ∀ {us : DtE} {gs : List (TK × D)}, IsT K I us gs → ∀ x ∈ us, SqN K I x.2.1 (x.1.map kV)
  | _, _, .nil, _, h => nomatch h
  | _, _, .cons s _ _ r, x, h => by
    rcases List.mem_cons.mp h with e | h
    · subst e; exact s
    · exact IsT.ks r x h
theorem IsT.len : ∀ {us : DtE} {gs : List (TK × D)}, IsT K I us gs → us.length = gs.length
  | _, _, .nil => rfl
  | _, _, .cons _ _ _ r => by rw [List.length_cons, List.length_cons, IsT.len r]
theorem IsT.some_ : ∀ {us : DtE} {gs : List (TK × D)}, IsT K I us gs → ∀ {d : D}, valT gs k = some d → ∃ p v, atKey us k = some p ∧ RelV v p.2 ∧ Is K I v d
  | _, _, .nil, _, e => nomatch e
  | _, _, .cons (k := k') _ r i t, d, e => by
    rw [valT_cons] at e
    rw [atKey_cons]
    by_cases h : k' = k
    · rw [if_pos h] at e
      cases e
      exact ⟨_, _, if_pos h, r, i⟩
    · rw [if_neg h] at e
      rw [if_neg h]
      exact IsT.some_ t e
theorem IsT.none_ : ∀ {us : DtE} {gs : List (TK × D)}, IsT K I us gs → valT gs k = none → atKey us k = none
  | _, _, .nil, _ => rfl
  | _, _, .cons (k := k') _ r i t, e => by
    rw [valT_cons] at e
    rw [atKey_cons]
    by_cases h : k' = k
    · rw [if_pos h] at e
      cases e
    · rw [if_neg h] at e
      rw [if_neg h]
      exact IsT.none_ t e
theorem IsT.isSome (h : IsT K I us gs) : (atKey us k).isSome = (valT gs k).isSome := by
  cases e : valT gs k with
  | none => rw [h.none_ e]; rfl
  | some d => obtain ⟨p, _, e1, _⟩ := h.some_ e; rw [e1]; rfl
theorem IsT.app : ∀ {us ws : DtE} {gs hs : List (TK × D)}, IsT K I us gs → IsT K I ws hs → IsT K I (us ++ ws) (gs ++ hs)
  | _, _, _, _, .nil, s => s
  | _, _, _, _, .cons a b c r, s => .cons a b c (IsT.app r s)
theorem IsT.store {v : V} {u : Value} {d : D} (r : RelV v u) (i : Is K I v d) : ∀ {us : DtE} {gs : List (TK × D)}, IsT K I us gs → IsT K I (us.map (putAt k u)) (gs.map fun g => if g.1 = k then (g.1, d) else g)
  | _, _, .nil => .nil
  | _, _, .cons (k := k') s r' i' t => by
    rw [List.map_cons, List.map_cons]
    unfold putAt
    by_cases h : k' = k
    · rw [if_pos h, if_pos h]; exact .cons s r i (IsT.store r i t)
    · rw [if_neg h, if_neg h]; exact .cons s r' i' (IsT.store r i t)
theorem IsT.put {b : Addr} {v : V} {u : Value} {d : D} (h : IsT K I us gs) (s : SqN K I b (k.map kV)) (r : RelV v u) (i : Is K I v d) : IsT K I (storedH us k b u) (putT gs k d) := by
  unfold storedH putT
  rw [h.isSome]
  split
  · exact IsT.store r i h
  · exact h.app (.cons s r i .nil)
theorem IsT.get : ∀ {us : DtE} {gs : List (TK × D)}, IsT K I us gs → ∀ {i : Nat} {g : TK × D}, gs[i]? = some g → ∃ b u v, us[i]? = some (g.1, b, u) ∧ SqN K I b (g.1.map kV) ∧ RelV v u ∧ Is K I v g.2
  | _, _, .nil, _, _, e => by simp at e
  | _, _, .cons s r i t, 0, _, e => by simp at e; subst e; exact ⟨_, _, _, rfl, s, r, i⟩
  | _, _, .cons s r i t, j + 1, _, e => by simpa using IsT.get t (i := j) (by simpa using e)
end
/-- a key's tuple -/
def keyD1 : D → Option L2.Key
  | .v (.int i) => some (.inl i)
  | .v (.str z) => some (.inr z)
  | _ => none
def keysD : List D → Option TK
  | [] => some []
  | d :: ds => (keyD1 d).bind fun a => (keysD ds).map fun b => a :: b
def keyD : D → Option TK
  | .tup ds => keysD ds
  | _ => none
def dOfK : L2.Key → D
  | .inl i => .v (.int i)
  | .inr z => .v (.str z)
def dOfT (k : TK) : D := .tup (k.map dOfK)
abbrev k2 (x y : Int) : TK := [.inl x, .inl y]
@[simp] theorem keyD_2 {x y : Int} : keyD (.tup [.v (.int x), .v (.int y)]) = some (k2 x y) := rfl
@[simp] theorem dOfT_2 {x y : Int} : dOfT (k2 x y) = .tup [.v (.int x), .v (.int y)] := rfl
theorem is_key1 {K : PySem.W.Frag} {I : Hp} {v : V} {d : D} {k : L2.Key} (h : Is K I v d) (e : keyD1 d = some k) : v = kV k := by
  unfold keyD1 at e
  split at e
  · cases h; cases e; rfl
  · cases h; cases e; rfl
  · cases e
theorem is_keys {K : PySem.W.Frag} {I : Hp} : ∀ {vs : List V} {ds : List D} {k : TK}, IsAll K I vs ds → keysD ds = some k → vs = k.map kV
  | _, _, _, .nil, e => by cases e; rfl
  | _, _, _, .cons (ds := ds) h r, e => by
    unfold keysD at e
    obtain ⟨a, h1, e⟩ := Option.bind_eq_some_iff.mp e
    obtain ⟨b, h2, rfl⟩ := Option.map_eq_some_iff.mp e
    rw [List.map_cons, is_key1 h h1, is_keys r h2]
theorem is_key {K : PySem.W.Frag} {I : Hp} {v : V} {d : D} {k : TK} (h : Is K I v d) (e : keyD d = some k) : ∃ b, v = .ref b ∧ SqN K I b (k.map kV) := by
  unfold keyD at e
  split at e
  · obtain ⟨b, xs, rfl, s, al⟩ := is_tupN h
    rw [is_keys al e] at s
    exact ⟨b, rfl, s⟩
  · cases e
theorem keyD1_of : ∀ k : L2.Key, keyD1 (dOfK k) = some k
  | .inl _ => rfl
  | .inr _ => rfl
@[simp] theorem keyD_of (k : TK) : keyD (dOfT k) = some k := by
  show keysD (k.map dOfK) = some k
  induction k with
  | nil => rfl
  | cons a r ih => rw [List.map_cons]; unfold keysD; rw [keyD1_of, ih]; rfl
/-- at a stands, pinned, a dict with these entries, the tuples of whose keys are read -/
structure DtAt (K : PySem.W.Frag) (g : PGw) (H : Hp) (a : Addr) (o : Obj) (us : DtE) : Prop where
  pin : H a = some (pinO a o)
  sm : (a == sysModules) = false
  ob : DtOb g o us
  ks : ∀ x ∈ us, SqT K H x.2.1 (x.1.map kV)
theorem is_dtAt {K : PySem.W.Frag} {I H : Hp} {v : V} {g : PGw} {gs : List (TK × D)} (e : Same I H) (h : Is K I v (.dt g gs)) : ∃ a o us, v = .ref a ∧ DtAt K g H a o us ∧ IsT K I us gs := by
  obtain ⟨a, o, us, rfl, p, y, ob, r⟩ := is_dt h
  exact ⟨a, o, us, rfl, ⟨e _ _ p, y, ob, fun x hx => Same.seqT e (r.ks x hx).t⟩, r⟩
abbrev gOf (X : Cx) : PGw := ⟨X.prog, X.w⟩
abbrev kndX (X : Cx) := tupleKind (mixKind X.prog X.w)
section
variable {X : Cx} {pins : List (Addr × Obj)} {σ : L2.St} {H : Hp} {s : Shared} {a b : Addr} {o : Obj} {us : DtE} {k : TK}
theorem key_isT (I : L2.Inv X pins σ H s) (h : SqT X.K H b (k.map kV)) : (kndX X).is s.heap k b := by
  obtain ⟨its, rv, ⟨o, ho, hc, n, hd⟩, _⟩ := I.tuple h
  exact ⟨o, its.toArray, n, ho, hc, hd, by simpa using items_are rv⟩
theorem pin_get (I : L2.Inv X pins σ H s) (h : H a = some (pinO a o)) : s.heap.get? a = some o := (I.hok a _ h).1
theorem DtAt.of (I : L2.Inv X pins σ H s) (h : DtAt X.K (gOf X) H a o us) : s.heap.DictOfH (kndX X) a us := by
  obtain ⟨es, ep, h1, h2⟩ := h.ob.dat
  exact ⟨o, es, ep, pin_get I h.pin, h.ob.ex, h1, h2, fun x hx => key_isT I (h.ks x hx), h.ob.nd⟩
theorem DtAt.ty (I : L2.Inv X pins σ H s) (h : DtAt X.K (gOf X) H a o us) : s.TypeIs (.ref a) "dict" ∧ ∀ b, Value.ref a = .ref b → ∃ ob, s.heap.get? b = some ob ∧ ob.dict = none := by
  refine ⟨(h.of I).typeIs, fun b q => ?_⟩
  cases q
  exact ⟨o, pin_get I h.pin, h.ob.ex.2.1⟩
/-- d[k] -/
def rTIx (K : PySem.W.Frag) (g : PGw) : R2 := fun x y H Q => ∃ a o us k b p v, x = .ref a ∧ y = .ref b ∧ DtAt K g H a o us ∧ SqT K H b (k.map kV) ∧ atKey us k = some p ∧ RelV v p.2 ∧ Q v H
theorem pe_tTix {x i : Expr} {pos : Pos} {td ty : TE} (hu : X.A.units + 1 < cLine) (ho : PE X x td) (hi : PE X i ty) (hs : NoSl i) : PE X (.Subscript x i pos) (tOp (rTIx X.K (gOf X)) td ty) := by
  refine ⟨fun pins s σ H Q I h => ?_⟩
  refine subD_of PySem.F.slot_dict_getitem.lookup hs (thn (ho.run pins s σ H _ I h) fun u s1 ⟨x, H1, I1, rx, q1⟩ => thn (hi.run pins s1 σ H1 _ I1 q1) fun iv s2 ⟨y, H2, I2, ry, a, o, us, k, b, p, v, ex, ey, d, sk, e, rv, q⟩ => ?_)
  subst ex ey
  obtain rfl : u = Value.ref a := rx
  obtain rfl : iv = Value.ref b := ry
  exact ⟨(d.ty I2).1, wpAny_getItem_heap (tupleKind_room_in1 hu) (key_isT I2 sk) (d.of I2) e ⟨v, H2, I2.tok _, rv, q⟩⟩
def tTGet (K : PySem.W.Frag) (g : PGw) (td ty tx : TE) : TE := fun σ H Q => td σ H fun x H1 => ∃ a o us, x = .ref a ∧ DtAt K g H1 a o us ∧ ty σ H1 fun y H2 => tx σ H2 fun z H3 => ∃ o us k b w', DtAt K g H3 a o us ∧ y = .ref b ∧ SqT K H3 b (k.map kV) ∧
  (∀ p, atKey us k = some p → RelV w' p.2) ∧ (atKey us k = none → w' = z) ∧ Q w' H3
theorem pe_tget {x e f : Expr} {apos cpos : Pos} {td ty tx : TE} (hu : X.A.units + 1 < cLine) (ho : PE X x td) (he : PE X e ty) (hf : PE X f tx) (m : M2 X x "get" apos e f cpos) : PE X (.Call (.Attribute x "get" apos) [e, f] [] cpos) (tTGet X.K (gOf X) td ty tx) := by
  refine ⟨fun pins s σ H Q I h => ?_⟩
  refine wpAny_Call_method m.base m.few m.line PySem.F.plainAttrs_dict PySem.F.slot_dict_get PySem.F.type_dict_get (thn (ho.run pins s σ H _ I h) fun u s1 ⟨x, H1, I1, rx, a, o, us, ex, d, q1⟩ => ?_)
  subst ex
  obtain rfl : u = Value.ref a := rx
  obtain ⟨t1, t2⟩ := d.ty I1
  refine ⟨t1, t2, ?_⟩
  rw [m.trees]
  refine Calls.callWith_builtin rfl (Calls.evalArgs_plain (Calls.spliced_cons (thn (he.run pins s1 σ H1 _ I1 q1) fun iv s2 ⟨y, H2, I2, ry, q2⟩ =>
    Calls.spliced_cons (thn (hf.run pins s2 σ H2 _ I2 q2) fun fv s3 ⟨z, H3, I3, rz, o, us, k, b, w', d3, ey, sk, h1, h2, q3⟩ => Calls.spliced_nil ?_))))
  subst ey
  obtain rfl : iv = Value.ref b := ry
  refine call_meetsIn PySem.F.slot_dict_get (d3.ty I3).1 PySem.F.entry_dict_get (PySem.F.args_dict_get_3 _ _ _) (meetsH_dict_get_default (kndX X) a b d3.sm fv) ⟨tupleKind_room_in1 hu, k, us, key_isT I3 sk, d3.of I3, ⟨w', H3, I3.tok _, ?_, q3⟩⟩
  cases e : atKey us k with
  | none => rw [h2 e]; exact rz
  | some p => exact h1 p e
end
end D3
set_option Elab.async false
set_option linter.all false
set_option maxRecDepth 100000
set_option maxHeartbeats 2000000
namespace D3
open PySem PySem.Spec PySem.W PySem.Calls PyProof.Rows L2
def onDt (g : PGw) (d : D) (Q : List (TK × D) → Prop) : Prop := match d with
  | .dt g' gs => g' = g ∧ Q gs
  | _ => False
@[simp] theorem onDt_dt {g g' : PGw} {gs : List (TK × D)} {Q : List (TK × D) → Prop} : onDt g (.dt g' gs) Q = (g' = g ∧ Q gs) := rfl
section
variable {K : PySem.W.Frag} {W : Wd} {Wx : WX} {X : Cx} {a b e f : Expr} {es : List Expr} {ta tb te tf : TE} {da db de df : TDE} {tr : TA} {dr : TDA} {p pos : Pos} {x : Str} {g : PGw}
/-- d[k] -/
def fTIx (g : PGw) : TD2 := fun x y Q => onDt g x fun gs => ∃ k, keyD y = some k ∧ ∃ d, valT gs k = some d ∧ Q d
@[simp] theorem fTIx_dt {g g' : PGw} {gs : List (TK × D)} {y : D} {Q : D → Prop} : fTIx g (.dt g' gs) y Q = (g' = g ∧ ∃ k, keyD y = some k ∧ ∃ d, valT gs k = some d ∧ Q d) := rfl
theorem R2Sim.tix : R2Sim K W (rTIx K g) (fTIx g) := fun I H x y dx dy Q G ok hx hy q hq => by
  unfold fTIx onDt at q
  split at q
  · obtain ⟨rfl, k, ek, d, ed, q⟩ := q
    obtain ⟨a, o, us, rfl, at_, r⟩ := is_dtAt (W.ex ok) hx
    obtain ⟨b, rfl, sk⟩ := is_key hy ek
    obtain ⟨p, v, e1, e2, e3⟩ := r.some_ ed
    exact ⟨a, o, us, k, b, p, v, rfl, rfl, at_, Same.seqT (W.ex ok) sk.t, e1, e2, hq v d I H q e3 (Later.refl ok)⟩
  · exact q.elim
theorem de_tTix (g : PGw) (hu : X.A.units + 64 < cLine) (ha : DE X K W Wx a ta da) (hb : DE X K W Wx b tb db) (hs : NoSl b := by exact fun _ _ => rfl) (hg : gOf X = g := by rfl) : DE X K W Wx (.Subscript a b pos) (tOp (rTIx K g) ta tb) (tdOp (fTIx g) da db) := by
  have hk := ha.k; subst hk hg
  exact ⟨rfl, pe_tTix (by omega) ha.pe hb.pe hs, .op .tix ha.sim hb.sim⟩
/-- k in d -/
def fTIn (g : PGw) (neg : Bool) : TD2 := fun y x Q => onDt g x fun gs => ∃ k, keyD y = some k ∧ Q (.bl (neg ^^ (valT gs k).isSome))
@[simp] theorem fTIn_dt {g g' : PGw} {neg : Bool} {gs : List (TK × D)} {y : D} {Q : D → Prop} : fTIn g neg y (.dt g' gs) Q = (g' = g ∧ ∃ k, keyD y = some k ∧ Q (.bl (neg ^^ (valT gs k).isSome))) := rfl
/-- d.get(k, x) -/
@[simp] def tdTGet (g : PGw) (t u v : TDE) : TDE := fun τ Q R => t τ (fun x => onDt g x fun gs => u τ (fun y => v τ (fun z => ∃ k, keyD y = some k ∧ Q ((valT gs k).getD z)) R) R) R
theorem SimE.tget (ha : SimE K W Wx ta da) (hb : SimE K W Wx tb db) (hf : SimE K W Wx tf df) : SimE K W Wx (tTGet K g ta tb tf) (tdTGet g da db df) := fun I H σ τ Q R G ok rp t hq hx =>
  ha I H σ τ _ R _ ok rp t (fun v d I1 H1 q1 i1 l1 => by
    unfold onDt at q1
    split at q1
    · obtain ⟨rfl, q1⟩ := q1
      rename_i gs
      obtain ⟨a, o, us, rfl, at_, r⟩ := is_dtAt (W.ex l1.ok) i1
      refine ⟨a, o, us, rfl, at_, hb I1 H1 σ τ _ R _ l1.ok (rp.later l1) q1 (fun v2 d2 I2 H2 q2 i2 l2 => hf I2 H2 σ τ _ R _ l2.ok ((rp.later l1).later l2) q2 (fun v3 d3 I3 H3 q3 i3 l3 => ?_) (hx.later (l1.trans l2))) (hx.later l1)⟩
      obtain ⟨k, ek, q3⟩ := q3
      obtain ⟨b, rfl, sk⟩ := is_key (i2.mono l3.ex) ek
      have l := (l1.trans l2).trans l3
      obtain ⟨a', o', us', ea, at3, r3⟩ := is_dtAt (W.ex l3.ok) ((i1.mono l2.ex).mono l3.ex)
      cases ea
      cases ev : valT gs k with
      | none =>
        rw [ev] at q3
        exact ⟨o', us', k, b, v3, at3, rfl, Same.seqT (W.ex l3.ok) sk.t, fun p ep => (by rw [r3.none_ ev] at ep; cases ep), fun _ => rfl, hq v3 d3 I3 H3 q3 i3 l⟩
      | some d =>
        rw [ev] at q3
        obtain ⟨p, v, e1, e2, e3⟩ := r3.some_ ev
        exact ⟨o', us', k, b, v, at3, rfl, Same.seqT (W.ex l3.ok) sk.t, fun p' ep => (by rw [e1] at ep; cases ep; exact e2), fun z => (by rw [e1] at z; cases z), hq v d I3 H3 q3 e3 l⟩
    · exact q1.elim) hx
theorem de_tget (g : PGw) {o : Expr} {to : TE} {dO : TDE} {apos cpos : Pos} (hu : X.A.units + 64 < cLine) (ho : DE X K W Wx o to dO) (ha : DE X K W Wx a ta da) (hb : DE X K W Wx b tb db) (m : M2 X o "get" apos a b cpos := by exact ⟨rfl, rfl, rfl, rfl⟩) (hg : gOf X = g := by rfl) :
    DE X K W Wx (.Call (.Attribute o "get" apos) [a, b] [] cpos) (tTGet K g to ta tb) (tdTGet g dO da db) := by
  have hk := ha.k; subst hk hg
  exact ⟨rfl, pe_tget (by omega) ho.pe ha.pe hb.pe m, .tget ho.sim ha.sim hb.sim⟩
/-- len(d) -/
def fLenT (g : PGw) : FD := fun ds Q => match ds with
  | [d] => onDt g d fun gs => Q (.int (gs.length : Nat))
  | _ => False
@[simp] theorem fLenT_dt {g g' : PGw} {gs : List (TK × D)} {Q : D → Prop} : fLenT g [.dt g' gs] Q = (g' = g ∧ Q (.int (gs.length : Nat))) := rfl
/-- the pinned dict's entries -/
structure Ents (g : PGw) (o : Obj) (us : DtE) (es : Array DictEntry) (ep : Nat) : Prop where
  dat : o.data = .dict es ep
  sz : es.size = us.length
  at_ : ∀ (i : Nat) (k : TK) (b : Addr) (u : Value), us[i]? = some (k, b, u) → ∃ en, es[i]? = some en ∧ en.key = .ref b ∧ en.val = u
theorem DtOb.ents {o : Obj} {us : DtE} (h : DtOb g o us) : ∃ es ep, Ents g o us es ep := by
  obtain ⟨es, ep, h1, h2⟩ := h.dat
  refine ⟨es, ep, h1, size_of_entries h2, fun i k b u e => ?_⟩
  have q := entry_at h2 i
  rw [e] at q
  exact ⟨_, q, rfl, rfl⟩
def pairsT (gs : List (TK × D)) : List D := gs.map fun g => .tup [dOfT g.1, g.2]
def keysT (gs : List (TK × D)) : List D := gs.map fun g => dOfT g.1
@[simp] theorem pairsT_len {gs : List (TK × D)} : (pairsT gs).length = gs.length := by simp [pairsT]
@[simp] theorem keysT_len {gs : List (TK × D)} : (keysT gs).length = gs.length := by simp [keysT]
@[simp] def idTk (g : PGw) (t : TDE) : TDI := fun τ Q R => t τ (fun d => onDt g d fun gs => Q (keysT gs)) R
@[simp] def idTi (g : PGw) (t : TDE) : TDI := fun τ Q R => t τ (fun d => onDt g d fun gs => Q (pairsT gs)) R
end
end D3
set_option Elab.async false
set_option linter.all false
set_option maxRecDepth 100000
set_option maxHeartbeats 4000000
namespace D3
open PySem PySem.Spec PySem.W PySem.Calls PyProof.Rows L2
abbrev dict0 : Obj := { cls := .type "dict", data := .dict #[] }
theorem dtOb_nil {g : PGw} : DtOb g dict0 [] := ⟨⟨rfl, rfl, rfl⟩, ⟨#[], 0, rfl, rfl⟩, List.nodup_nil, Nat.zero_le _⟩
theorem pinOk {P : Program} {w : World} {H : Hp} {h : Heap} {a : Addr} {o : Obj} (e : h.get? a = some o) : ObjOk P w H h a (pinO a o) := ⟨e, ⟨o, e⟩, fun _ _ q k => k _ q⟩
section
variable {X : Cx} {pins : List (Addr × Obj)} {σ : L2.St} {H : Hp} {s : Shared} {a b D : Addr} {o : Obj} {us : DtE} {k : TK} {z : V} {r : Value}
/-- what stands behind a store -/
theorem store_pin {h' : Heap} {t' : Nat} (I : L2.Inv X pins σ H s) (d : DtAt X.K (gOf X) H D o us) (hl : us.length < sizeLine) (dd : h'.DictOfH (kndX X) D (storedH us k b r)) (hs : Heap.SameBut D s.heap h') : ∃ o', DtOb (gOf X) o' (storedH us k b r) ∧ L2.Inv X pins σ (upd H D (pinO D o')) { s with heap := h', toks := t' } := by
  obtain ⟨q, es, ep, hq, h2, h3, h4, _, h5⟩ := dd
  have len : (storedH us k b r).length ≤ sizeLine := by
    unfold storedH
    split
    · rw [List.length_map]; exact d.ob.sz
    · rw [List.length_append]; exact hl
  exact ⟨q, ⟨h2, ⟨es, ep, h3, h4⟩, h5, len⟩, d_write I (by rw [d.pin]; exact True.intro) hs ⟨q, hq⟩ (pinOk hq)⟩
/-- the entry by a comprehension -/
theorem t_dictSet {E : Value → Shared → Prop} {Q : Unit → Shared → Prop} (hu : X.A.units + 1 < cLine) (I : L2.Inv X pins σ H s) (d : DtAt X.K (gOf X) H D o us) (hl : us.length < sizeLine) (sk : SqT X.K H b (k.map kV))
    (h : ∀ o' s', DtOb (gOf X) o' (storedH us k b r) → L2.Inv X pins σ (upd H D (pinO D o')) s' → Q () s') : wpAny (model X.prog X.w) X.A (dictSet D (.ref b) r) Q E s := by
  refine wpAny_dictSet_heap (hsz := Nat.le_of_lt hl) (show (kndX X).room X.A from (by show X.A.units < cLine; omega)) (key_isT I sk) (d.of I) fun h' dd' hs => ?_
  obtain ⟨o', ob, J⟩ := store_pin (t' := s.toks + (kndX X).draws k) I d hl dd' hs
  exact h o' _ ob J
/-- .. by a statement -/
theorem t_setItem {E : Value → Shared → Prop} {Q : Unit → Shared → Prop} (hu : X.A.units + 1 < cLine) (I : L2.Inv X pins σ H s) (d : DtAt X.K (gOf X) H D o us) (hl : us.length < sizeLine) (sk : SqT X.K H b (k.map kV))
    (h : ∀ o' s', DtOb (gOf X) o' (storedH us k b r) → L2.Inv X pins σ (upd H D (pinO D o')) s' → Q () s') : wpAny (model X.prog X.w) X.A (setItem (.ref D) (.ref b) r) Q E s := by
  refine wpAny_setItem_heap (hsz := Nat.le_of_lt hl) (tupleKind_room_in1 hu) (key_isT I sk) (d.of I) fun h' dd' hs => ?_
  obtain ⟨o', ob, J⟩ := store_pin (t' := s.toks + (kndX X).draws k) I d hl dd' hs
  exact h o' _ ob J
/-- {k: v for target in iter if ..}: D the new dict -/
def tTc (K : PySem.W.Frag) (g : PGw) (wi : TI) (G : TG) (tt : TT) (tk tv : TE) (vs : List Nat) : TE := fun σ H Q => wi σ H fun J H1 => ∀ D, H1 D = none → (D == sysModules) = false → ∃ W : Nat → Nat → Hp → Prop, (∃ m, W 0 m (upd H1 D (pinO D dict0))) ∧ ∀ i m H, W i m H →
  (J.stop i H ∧ Q (.ref D) H) ∨ (J.go i H ∧ ∃ Nx : Hp → Prop, (∀ H', Nx H' → ∃ m', m' < m ∧ W (i + 1) m' H') ∧ ∀ x H', J.yld i H x H' → G x (wipe σ vs) H' fun σ2 H2 => wipe σ2 vs = wipe σ vs ∧ tt σ2 H2 fun b H3 =>
    if b = true then tk σ2 H3 fun y H4 => tv σ2 H4 fun z H5 => ∃ o us k b, y = .ref b ∧ DtAt K g H5 D o us ∧ SqT K H5 b (k.map kV) ∧ us.length < sizeLine ∧ ∀ o' u, RelV z u → DtOb g o' (storedH us k b u) → Nx (upd H5 D (pinO D o')) else Nx H3)
theorem tc_core {pins : List (Addr × Obj)} {s : Shared} {σ : L2.St} {H : Hp} {Q : VK} {use : Option (Value → Sem Unit)} {Qf : Value → Shared → Prop} {pos' : Pos} {kx vx tg iter : Expr} {ifs : List Expr} {scope : Scope} {own : List (Str × Nat)} {pos : Pos} {wi : TI} {G : TG} {tt : TT} {tk tv : TE} (hu : X.A.units + 1 < cLine) (hc : X.calm = true) (hN : X.N.Nodup) (I : L2.Inv X pins σ H s) (hi : PI X tg iter wi) (ok : BlkOk X.N X.env.scope scope own)
    (hg : ∀ (s : Shared) (H : Hp) (C : Addr) (cl : List (Str × Addr)) (fp : List Addr), PG (X.blk s H scope (compEnvC scope cl C X.env) fp) tg G)
    (ht : ∀ (s : Shared) (H : Hp) (C : Addr) (cl : List (Str × Addr)) (fp : List Addr), PTs (X.blk s H scope (compEnvC scope cl C X.env) fp) ifs tt)
    (hk : ∀ (s : Shared) (H : Hp) (C : Addr) (cl : List (Str × Addr)) (fp : List Addr), PE (X.blk s H scope (compEnvC scope cl C X.env) fp) kx tk)
    (he : ∀ (s : Shared) (H : Hp) (C : Addr) (cl : List (Str × Addr)) (fp : List Addr), PE (X.blk s H scope (compEnvC scope cl C X.env) fp) vx tv) (hs : ∀ x, foldedSetIterable iter X.env x = pure x)
    (h : tTc X.K (gOf X) wi G tt tk tv (own.map (·.2)) σ H Q)
    (hRR : ∀ D C s' m H', L2.Inv X pins σ H' s' → Q (.ref D) H' → s'.heap.Ns C m → FpOk X pins H' C → compPost (model X.prog X.w) X.A X.xe use Qf (.ref D) C (.ok .next) s') :
    wpAny (model X.prog X.w) X.A (comprehension (.DictComp kx vx [⟨tg, iter, ifs, 0⟩] scope pos) scope X.env pos' newDict false (eval iter X.env) use) Qf X.xe s := by
  have hfree : ∀ y ∈ scope.names, y.2 = .free → ∃ c, X.env.cells.lookup y.1 = some c := fun y hy e => (ok.free y hy e).elim (fun k => I.ok.has _ (.inl k)) fun k => I.ok.has _ (.inr k)
  refine wpAny_comprehension_free (use := use) rfl hs (closure_ok hfree) ok.kind (fun y hy e => by rw [ok.uniq y hy, e]) (thn (hi.run pins s σ H _ I h) fun xv s1 hx => thn hx fun itv s2 h2 => ?_)
  obtain ⟨it, fp, tn, J, H2, e, I2, T, st2, f2, q⟩ := h2
  subst e
  refine wpAny_newObj_type (newEnv_comp ?_)
  generalize hD : s2.heap.objs.size = D
  have hDn : H2 D = none := I2.hok.fresh (Nat.le_of_eq hD)
  have hsys : (D == sysModules) = false := by
    rw [← hD]
    exact beq_eq_false_iff_ne.mpr (Ne.symm (Nat.ne_of_lt I2.big))
  obtain ⟨W, ⟨m0, w0⟩, turn⟩ := q D hDn hsys
  generalize hs3 : ({ s2 with heap := s2.heap.push dict0 } : Shared) = s3
  have h3 : s3.heap = s2.heap.push dict0 := by rw [← hs3]
  have I3 : L2.Inv X pins σ (upd H2 D (pinO D dict0)) s3 := by
    rw [← hs3, ← hD]
    exact I2.laid (t' := s2.toks) (fun b o e => Heap.get?_push_of_some _ e) (Nat.le_refl _) (pinOk (Heap.get?_push_size _ rfl))
  have sz : ∀ b ∈ fp, b < s2.heap.objs.size := fun b hb => let ⟨o, e, _⟩ := T.obj _ _ st2 b hb; Heap.lt_size e
  have f3 : ∀ b ∈ fp, FpOk X pins (upd H2 D (pinO D dict0)) b ∧ b < s3.heap.objs.size := fun b hb => by
    have hlt := sz b hb
    refine ⟨⟨?_, (f2 b hb).2⟩, by rw [h3, Heap.size_push]; exact Nat.lt_succ_of_lt hlt⟩
    rw [upd_ne (by rw [← hD]; exact Nat.ne_of_lt hlt)]
    exact (f2 b hb).1
  have st3 : tn 0 s3.heap := T.keep _ _ _ st2 fun b _ o e => by rw [h3]; exact Heap.get?_push_of_some _ e
  have I4 := block_start I3 ok hN f3
  generalize hcl : cellsFrom (s3.heap.objs.size + 1) scope.names (cloFrom X.env.cells scope.names []) = cl at I4 ⊢
  have pg := hg s3 (upd H2 D (pinO D dict0)) s3.heap.objs.size cl fp
  have pt := ht s3 (upd H2 D (pinO D dict0)) s3.heap.objs.size cl fp
  have pk := hk s3 (upd H2 D (pinO D dict0)) s3.heap.objs.size cl fp
  have pe := he s3 (upd H2 D (pinO D dict0)) s3.heap.objs.size cl fp
  show codeAny _ _ (.compStart (.DictComp kx vx [⟨tg, iter, ifs, 0⟩] scope pos) 0 (.ref it) (.ref D) (compEnvC scope cl s3.heap.objs.size X.env)) (compPost (model X.prog X.w) X.A X.xe use Qf (.ref D) s3.heap.objs.size) { s3 with heap := pushCells (s3.heap.push dict0) scope.names }
  have nfp : ∀ b ∈ fp, (upd H2 D (pinO D dict0)) b = none := fun b hb => (f3 b hb).1.1
  generalize hce : compEnvC scope cl s3.heap.objs.size X.env = ce at I4 pg pt pk pe ⊢
  have cL : ce.locals = s3.heap.objs.size := by subst hce; rfl
  generalize hH3 : upd H2 D (pinO D dict0) = H3 at I3 I4 pg pt pk pe w0 nfp f3
  generalize hs4 : ({ s3 with heap := pushCells (s3.heap.push dict0) scope.names } : Shared) = s4 at I4 ⊢
  have st4 : tn 0 s4.heap := T.keep _ _ _ st3 fun b _ o e => by rw [← hs4]; exact pushCells_keeps _ _ _ _ (Heap.get?_push_of_some _ e)
  have stat : ∀ {σ' : L2.St} {H' : Hp} {s' : Shared}, L2.Inv (X.blk s3 H3 scope ce fp) [] σ' H' s' → (∀ b ∈ fp, H' b = none) → ∀ b ∈ fp, FpOk (X.blk s3 H3 scope ce fp) [] H' b := fun {σ' H' s'} I' hn b hb =>
    ⟨hn b hb, (I'.ok.exf b hb).1, I'.ok.exfs b hb, .inl hb, fun x c e => (I'.ok.exf b hb).2 x c e, fun p hp => absurd (show p ∈ ([] : List (Addr × Obj)) ++ [] from hp) (by simp)⟩
  have loop : codeAny (model X.prog X.w) X.A (.compLoop (.DictComp kx vx [⟨tg, iter, ifs, 0⟩] scope pos) 0 (.ref it) (.ref D) ce) (compPost (model X.prog X.w) X.A X.xe use Qf (.ref D) s3.heap.objs.size) s4 := by
    refine compLoop_anyD (fun n s' => ∃ i H', L2.Inv (X.blk s3 H3 scope ce fp) [] (wipe σ (own.map (·.2))) H' s' ∧ tn i s'.heap ∧ (∀ b ∈ fp, H' b = none) ∧ W i n H') ?_ m0 ⟨0, H3, I4, st4, nfp, w0⟩
    rintro n s5 ⟨i, H5, I5, st5, n5, w5⟩
    rcases turn i n H5 w5 with ⟨stop, qq⟩ | ⟨go, Nx, hNx, step⟩
    · refine thnF (T.done (X.blk s3 H3 scope ce fp) rfl rfl rfl hc i [] s5 _ H5 (fun _ _ => False) I5 (stat I5 n5) st5 stop) fun r s6 ⟨hr, I6⟩ => ?_
      subst hr
      have I7 : L2.Inv X pins σ H5 s6 := I3.call' (ch := fp) I6.os I6.base I6.hok I6.bare fun b hb => ⟨(f3 b hb).1.2.2.2.1, (f3 b hb).1.2.1, (f3 b hb).1.2.2.2.2.1, (f3 b hb).1.2.2.2.2.2⟩
      have nC : H5 s3.heap.objs.size = none := by
        have z : H5 ce.locals = none := I6.free
        rwa [cL] at z
      obtain ⟨m, hn, _⟩ := I6.loc
      have hn : s6.heap.Ns ce.locals m := hn
      rw [cL] at hn
      exact hRR D _ s6 m H5 I7 qq hn (I3.fpOk (Nat.le_refl _) nC)
    · refine thnF (T.item (X.blk s3 H3 scope ce fp) rfl rfl rfl hc i [] s5 _ H5 (fun _ _ => False) I5 (stat I5 n5) st5 go) fun r s6 ⟨u, hr, h6⟩ => ?_
      subst hr
      refine thnF h6 fun _ s7 ⟨x, H7, I7, r7, y7, st7, n7⟩ => ?_
      refine thnF (pg.run _ s7 _ H7 x u _ (I7.pinned (stat I7 n7) (T.obj _ _ st7)) r7 (step x H7 y7)) fun _ s8 ⟨σ8, H8, I8, hw8, q8⟩ => ?_
      refine thnF (pt.run _ s8 σ8 H8 _ I8 q8) fun b s9 ⟨H9, I9, q9⟩ => ?_
      have fin : ∀ {s' : Shared} {H' : Hp}, L2.Inv (X.blk s3 H3 scope ce fp) ([] ++ pinsAt fp s7.heap) σ8 H' s' → Nx H' → ∃ m, m < n ∧ ∃ i H', L2.Inv (X.blk s3 H3 scope ce fp) [] (wipe σ (own.map (·.2))) H' s' ∧ tn i s'.heap ∧ (∀ b ∈ fp, H' b = none) ∧ W i m H' := fun {s' H'} I' nx => by
        obtain ⟨m', hm, w'⟩ := hNx H' nx
        have pin' : ∀ b ∈ fp, ∀ o, s7.heap.get? b = some o → s'.heap.get? b = some o ∧ H' b = none := fun b hb o e =>
          let z := I'.pin (b, o) (List.mem_append_right _ (List.mem_append_right _ (mem_pinsAt hb e)))
          ⟨z.1, z.2.1⟩
        have hl : (wipe σ (own.map (·.2))).length = σ8.length := by rw [← hw8, wipe_length]
        refine ⟨m', hm, i + 1, H', (I'.unpinned (pins := [])).weak hl (fun j v e => ?_), T.keep _ _ _ st7 fun b hb o e => (pin' b hb o e).1, fun b hb => ?_, w'⟩
        · rw [← hw8] at e
          exact (wipe_some e).1
        · obtain ⟨o, e, _⟩ := T.obj _ _ st7 b hb
          exact (pin' b hb o e).2
      cases b with
      | false =>
        simp only [Bool.false_eq_true, if_false] at q9 ⊢
        exact fin I9 q9
      | true =>
        simp only [if_true] at q9 ⊢
        refine thnF (pk.run _ s9 σ8 H9 _ I9 q9) fun z s10 ⟨yk, H10, I10, r10, q10⟩ => ?_
        refine thnF (pe.run _ s10 σ8 H10 _ I10 q10) fun z2 s11 ⟨yv, H11, I11, r11, o, us, k, b, ek, d11, sk, hz11, nx⟩ => ?_
        subst ek
        obtain rfl : z = Value.ref b := r10
        exact t_dictSet (X := X.blk s3 H3 scope ce fp) hu I11 d11 hz11 sk fun o' s12 ob I12 => fin I12 (nx o' z2 r11 ob)
  exact codeAny_compStart_dict loop (T.self X.A 0 _ _ _ st4 loop)
theorem pe_tc {kx vx tg iter : Expr} {ifs : List Expr} {scope : Scope} {own : List (Str × Nat)} {pos : Pos} {wi : TI} {G : TG} {tt : TT} {tk tv : TE} (hu : X.A.units + 1 < cLine) (hc : X.calm = true) (hN : X.N.Nodup) (hi : PI X tg iter wi) (ok : BlkOk X.N X.env.scope scope own)
    (hg : ∀ (s : Shared) (H : Hp) (C : Addr) (cl : List (Str × Addr)) (fp : List Addr), PG (X.blk s H scope (compEnvC scope cl C X.env) fp) tg G)
    (ht : ∀ (s : Shared) (H : Hp) (C : Addr) (cl : List (Str × Addr)) (fp : List Addr), PTs (X.blk s H scope (compEnvC scope cl C X.env) fp) ifs tt)
    (hk : ∀ (s : Shared) (H : Hp) (C : Addr) (cl : List (Str × Addr)) (fp : List Addr), PE (X.blk s H scope (compEnvC scope cl C X.env) fp) kx tk)
    (he : ∀ (s : Shared) (H : Hp) (C : Addr) (cl : List (Str × Addr)) (fp : List Addr), PE (X.blk s H scope (compEnvC scope cl C X.env) fp) vx tv) (hs : ∀ x, foldedSetIterable iter X.env x = pure x := by intro _; rfl) :
    PE X (.DictComp kx vx [⟨tg, iter, ifs, 0⟩] scope pos) (tTc X.K (gOf X) wi G tt tk tv (own.map (·.2))) := by
  refine ⟨fun pins s σ H Q I h => ?_⟩
  rw [arm_eval_DictComp]
  refine tc_core hu hc hN I hi ok hg ht hk he hs h fun D C s' m H' I' q hn f => ⟨m, hn, fun h'' sb => ?_⟩
  obtain ⟨g0, g1, g2, g3, g4, g5⟩ := f
  exact ⟨.ref D, H', I'.turned (t' := s'.toks) (fun b o hb e => (sb.2 b hb).trans e) g0 g1 g3 g4 g5, rfl, q⟩
end
end D3
set_option Elab.async false
set_option linter.all false
set_option maxRecDepth 100000
set_option maxHeartbeats 4000000
namespace D3
open PySem PySem.Spec PySem.W PySem.Calls PyProof.Rows L2
/-- the entries that a comprehension makes -/
def compT (g : TDG) (tt : TDT) (tk tv : TDE) (vs : List Nat) (τ : Tau) : List D → List (TK × D) → (List (TK × D) → Prop) → Prop
  | [], acc, Q => Q acc
  | d :: ds, acc, Q => g d (wipeT τ vs) fun τ2 => tt τ2 (fun b => if b = true then tk τ2 (fun y => tv τ2 (fun z => ∃ k, keyD y = some k ∧ compT g tt tk tv vs τ ds (putT acc k z) Q) (fun _ => False)) (fun _ => False) else compT g tt tk tv vs τ ds acc Q) (fun _ => False)
@[simp] def tdTc (g : PGw) (ti : TDI) (G : TDG) (tt : TDT) (tk tv : TDE) (vs : List Nat) : TDX := fun τ Q R => ti τ (fun ds => ds.length ≤ sizeLine ∧ compT G tt tk tv vs τ ds [] fun gs => Q (.dt g gs)) R
theorem putT_len {α : Type} (gs : List (TK × α)) (k : TK) (d : α) : (putT gs k d).length ≤ gs.length + 1 := by
  unfold putT
  split
  · rw [List.length_map]; omega
  · rw [List.length_append]; simp
section
variable {K : PySem.W.Frag} {W : Wd} {Wx : WX} {X : Cx} {g : PGw}
theorem SimX.tc {wi : TI} {ti : TDI} {G : TG} {gd : TDG} {idx : List Nat} {tt : TT} {td : TDT} {tk tv : TE} {dk dv : TDE} {vs : List Nat} (hi : SimI K W Wx wi ti) (hg : SimG K W G gd idx) (ht : SimT K W (fun _ _ _ _ => False) tt td) (hk : SimE K W (fun _ _ _ _ => False) tk dk) (he : SimE K W (fun _ _ _ _ => False) tv dv)
    (hv : ∀ i ∈ idx, i ∈ vs) : SimX K W Wx (tTc K g wi G tt tk tv vs) (tdTc g ti gd td dk dv vs) := fun I H σ τ Q R GG ok rp t hq hx =>
  hi I H σ τ _ R _ ok rp t (fun J ds I1 H1 q1 wk l1 LL hD hsys => by
    have hD0 : H LL = none := Later.back l1 hD
    have fD : W.free LL := W.fr l1.ok hD
    have put : ∀ {I3 H3 : Hp} {o : HO}, Later W I H I3 H3 → I3 LL = none → Later W I H I3 (upd H3 LL o) := fun {I3 H3 o} l n =>
      ⟨l.ex, W.mu l.ok n fD, fun a o f m e => by
        have : a ≠ LL := fun z => by rw [z, hD0] at e; cases e
        rw [upd_ne this]; exact l.fr a o f m e, l.nw, l.ow⟩
    refine ⟨fun i m H2 => ∃ (I2 : Hp) (ob : Obj) (us : DtE) (acc : List (TK × D)), m = ds.length - i ∧ i ≤ ds.length ∧ Later W I H I2 H2 ∧ Same I1 I2 ∧ H2 LL = some (pinO LL ob) ∧ I2 LL = none ∧ DtOb g ob us ∧ IsT K I2 us acc ∧ acc.length ≤ i ∧
      compT gd td dk dv vs τ (ds.drop i) acc (fun gs => Q (.dt g gs)), ⟨ds.length, I1, dict0, [], [], by simp, Nat.zero_le _, put l1 (Same.non (W.ex l1.ok) hD), Same.refl _, upd_same, Same.non (W.ex l1.ok) hD, dtOb_nil, .nil, Nat.le_refl _, q1.2⟩, ?_⟩
    rintro i m H2 ⟨I2, ob, us, acc, rfl, hil, l2, e2, hacc, hI, hob, al, hy, c⟩
    obtain ⟨w1, w2⟩ := wk i I2 H2 e2 l2.ok
    by_cases hlt : i < ds.length
    · obtain ⟨go, yl⟩ := w1 hlt
      refine .inr ⟨go, fun H3 => ∃ (I3 : Hp) (ob : Obj) (us : DtE) (acc : List (TK × D)), Later W I H I3 H3 ∧ Same I1 I3 ∧ H3 LL = some (pinO LL ob) ∧ I3 LL = none ∧ DtOb g ob us ∧ IsT K I3 us acc ∧ acc.length ≤ i + 1 ∧ compT gd td dk dv vs τ (ds.drop (i + 1)) acc (fun gs => Q (.dt g gs)), ?_, ?_⟩
      · rintro H3 ⟨I3, ob, us, acc, h1, h2, h3, h4, h5, h6, h7, h8⟩
        exact ⟨ds.length - (i + 1), by omega, I3, ob, us, acc, rfl, hlt, h1, h2, h3, h4, h5, h6, h7, h8⟩
      · intro x H3 y
        obtain ⟨I3, d, hd, l3, ix⟩ := yl x H3 y
        have hdrop : ds.drop i = d :: ds.drop (i + 1) := by
          obtain ⟨h1, h2⟩ := List.getElem?_eq_some_iff.mp hd
          rw [← h2]; exact List.drop_eq_getElem_cons h1
        rw [hdrop] at c
        have keepD : ∀ {I4 H4 : Hp}, Later W I2 H2 I4 H4 → H4 LL = some (pinO LL ob) ∧ I4 LL = none := fun {I4 H4} l => l.keepN hacc fD hI
        refine hg I3 H3 (wipe σ vs) (wipeT τ vs) x d _ _ l3.ok ((rp.later (l2.trans l3)).wipe vs) ix c fun σ2 τ2 q2 rp2 _ wz => ⟨(wz vs hv).trans (wipe_wipe σ vs), ?_⟩
        refine ht I3 H3 σ2 τ2 _ _ _ l3.ok rp2 q2 (fun b I4 H4 q4 l4 => ?_) xok_false
        cases b with
        | true =>
          rw [if_pos rfl] at q4 ⊢
          refine hk I4 H4 σ2 τ2 _ _ _ l4.ok (rp2.later l4) q4 (fun vk dy I5 H5 q5 i5 l5 => ?_) xok_false
          refine he I5 H5 σ2 τ2 _ _ _ l5.ok ((rp2.later l4).later l5) q5 (fun vv dz I6 H6 q6 i6 l6 => ?_) xok_false
          obtain ⟨k, ek, q6⟩ := q6
          have l26 := ((l3.trans l4).trans l5).trans l6
          obtain ⟨k1, k2⟩ := keepD l26
          obtain ⟨b, rfl, sk⟩ := is_key (i5.mono l6.ex) ek
          have sm6 := W.ex l26.ok
          have al6 := IsT.mono l26.ex al
          have hlen : us.length < sizeLine := by
            have := al.len
            have := q1.1
            omega
          refine ⟨ob, us, k, b, rfl, ⟨k1, hsys, hob, fun x hx => Same.seqT sm6 (al6.ks x hx).t⟩, Same.seqT sm6 sk.t, hlen, fun o' u ru ob' => ⟨I6, o', _, putT acc k dz, put (l2.trans l26) k2, e2.trans l26.ex, upd_same, k2, ob', al6.put sk ru i6, ?_, q6⟩⟩
          have := putT_len acc k dz
          omega
        | false =>
          rw [if_neg Bool.false_ne_true] at q4 ⊢
          have l24 := l3.trans l4
          obtain ⟨k1, k2⟩ := keepD l24
          exact ⟨I4, ob, us, acc, l2.trans l24, e2.trans l24.ex, k1, k2, hob, IsT.mono l24.ex al, by omega, q4⟩
    · have e : i = ds.length := by omega
      subst e
      refine .inl ⟨w2 (Nat.le_refl _), ?_⟩
      rw [List.drop_length] at c
      exact hq (.ref LL) (.dt g acc) I2 H2 c ⟨LL, ob, us, rfl, hacc, hI, fD, hsys, hob, al⟩ (fun a o => by cases o; exact hD0) l2) hx
theorem dx_tc (g : PGw) {kx vx tg iter : Expr} {ifs : List Expr} {scope : Scope} {own : List (Str × Nat)} {pos : Pos} {wi : TI} {ti : TDI} {G : TG} {gd : TDG} {idx : List Nat} {tt : TT} {td : TDT} {tk tv : TE} {dk dv : TDE} (hu : X.A.units + 64 < cLine) (hc : X.calm = true) (hN : X.N.Nodup) (hi : DI X K W Wx tg iter wi ti) (ok : BlkOk X.N X.env.scope scope own)
    (hg : ∀ (s : Shared) (H : Hp) (C : Addr) (cl : List (Str × Addr)) (fp : List Addr), DG (X.blk s H scope (compEnvC scope cl C X.env) fp) K W tg G gd idx) (ht : ∀ (s : Shared) (H : Hp) (C : Addr) (cl : List (Str × Addr)) (fp : List Addr), DTs (X.blk s H scope (compEnvC scope cl C X.env) fp) K W ifs tt td)
    (hk : ∀ (s : Shared) (H : Hp) (C : Addr) (cl : List (Str × Addr)) (fp : List Addr), DE (X.blk s H scope (compEnvC scope cl C X.env) fp) K W (fun _ _ _ _ => False) kx tk dk)
    (he : ∀ (s : Shared) (H : Hp) (C : Addr) (cl : List (Str × Addr)) (fp : List Addr), DE (X.blk s H scope (compEnvC scope cl C X.env) fp) K W (fun _ _ _ _ => False) vx tv dv) (hv : ∀ i ∈ idx, i ∈ own.map (·.2) := by decide) (hs : ∀ x, foldedSetIterable iter X.env x = pure x := by intro _; rfl) (hgg : gOf X = g := by rfl) :
    DX X K W Wx (.DictComp kx vx [⟨tg, iter, ifs, 0⟩] scope pos) (tTc K g wi G tt tk tv (own.map (·.2))) (tdTc g ti gd td dk dv (own.map (·.2))) := by
  have hkk := hi.k; subst hkk hgg
  exact ⟨rfl, pe_tc (by omega) hc hN hi.pi ok (fun s H C cl fp => (hg s H C cl fp).pg) (fun s H C cl fp => (ht s H C cl fp).pt) (fun s H C cl fp => (hk s H C cl fp).pe) (fun s H C cl fp => (he s H C cl fp).pe) hs,
    .tc hi.sim (hg { heap := { objs := #[] } } (fun _ => none) 0 [] []).sim (ht { heap := { objs := #[] } } (fun _ => none) 0 [] []).sim (hk { heap := { objs := #[] } } (fun _ => none) 0 [] []).sim (he { heap := { objs := #[] } } (fun _ => none) 0 [] []).sim hv⟩
/-- {} -/
def tNewT : TE := fun _ H Q => ∀ p, H p = none → (p == sysModules) = false → Q (.ref p) (upd H p (pinO p dict0))
theorem pe_newT {pos : Pos} : PE X (.Dict [] [] pos) tNewT := ⟨fun pins s σ H Q I h =>
  wpAny_Dict_empty ⟨.ref s.heap.objs.size, _, I.laid (t' := s.toks) (fun _ _ q => Heap.get?_push_of_some _ q) (Nat.le_refl _) (pinOk (Heap.get?_push_size _ rfl)), rfl, h _ (I.hok.fresh (Nat.le_refl _)) (beq_eq_false_iff_ne.mpr (Ne.symm (Nat.ne_of_lt I.big)))⟩⟩
theorem dx_newT (g : PGw) {pos : Pos} (hk : X.K = K := by rfl) : DX X K W Wx (.Dict [] [] pos) tNewT (fun _ Q _ => Q (.dt g [])) := by
  subst hk
  exact ⟨rfl, pe_newT, fun I H σ τ Q R G ok rp t hq hx p hp hs => hq _ _ I _ t ⟨p, dict0, [], rfl, upd_same, Same.non (W.ex ok) hp, W.fr ok hp, hs, dtOb_nil, .nil⟩ (fun a o => by cases o; exact hp) (Later.allocO ok hp)⟩
/-- x[k] = v, x a dict by tuples of one's own -/
def sTPut (K : PySem.W.Frag) (g : PGw) (td ty tv : TE) : L2.TS := fun D σ H => tv σ H fun v H1 => td σ H1 fun x H2 => ty σ H2 fun y H3 => ∃ a o us k b, x = .ref a ∧ y = .ref b ∧ DtAt K g H3 a o us ∧ SqT K H3 b (k.map kV) ∧ us.length < sizeLine ∧
  ∀ o' u, RelV v u → DtOb g o' (storedH us k b u) → D.nx σ (upd H3 a (pinO a o'))
theorem ps_tput {o i value : Expr} {pos pos' : Pos} {td ty tv : TE} (hu : X.A.units + 1 < cLine) (ho : PE X o td) (hi : PE X i ty) (hv : PE X value tv) (hs : swapsWith value (some (.Subscript o i pos')) pos.line X.env = pure false) :
    PS X (.Assign [.Subscript o i pos'] value pos) (sTPut X.K (gOf X) td ty tv) := by
  refine ⟨fun pins s σ H D I h => ?_⟩
  refine wpAny_Assign_Subscript (thn (hv.run pins s σ H _ I h) fun r s1 ⟨v, H1, I1, rv, q1⟩ => thn (ho.run pins s1 σ H1 _ I1 q1) fun u s2 ⟨x, H2, I2, rx, q2⟩ => thn (hi.run pins s2 σ H2 _ I2 q2) fun iv s3 ⟨y, H3, I3, ry, a, ob, us, k, b, ex, ey, d, sk, hl, q3⟩ => ?_) hs
  subst ex ey
  obtain rfl : u = Value.ref a := rx
  obtain rfl : iv = Value.ref b := ry
  exact t_setItem hu I3 d hl sk fun o' s4 ob' I4 => ⟨σ, _, I4, q3 o' r rv ob'⟩
/-- .. in a slot -/
@[simp] def tdTput (g : PGw) (i : Nat) (u v : TDE) : TDS := fun τ E => ∃ gs, τ[i]? = some (some (.dt g gs)) ∧ v τ (fun z => u τ (fun y => ∃ k, keyD y = some k ∧ gs.length < sizeLine ∧ E.nx (τ.set i (some (.dt g (putT gs k z))))) (fun x => E.ex x τ)) (fun x => E.ex x τ)
theorem SimS.tput {i : Nat} {ty tv : TE} {dy dv : TDE} (hy : SimE K W Wx ty dy) (hv : SimE K W Wx tv dv) : SimS K W Wx (sTPut K g (tVar i) ty tv) (tdTput g i dy dv) := fun I H σ τ E D ok rp t r => by
  obtain ⟨gs, e, t⟩ := t
  refine hv I H σ τ _ _ _ ok rp t (fun v dz I1 H1 q1 i1 l1 => ?_) (r.xok rp)
  have rp1 := rp.later l1
  obtain ⟨w0, h1, h2⟩ := rp1.at_ i _ e
  refine ⟨w0, h1, hy I1 H1 σ τ _ _ _ l1.ok rp1 q1 (fun y dy I2 H2 q2 i2 l2 => ?_) ((r.later (rp.own l1)).xok rp1)⟩
  have l := l1.trans l2
  have rp2 := rp.later l
  obtain ⟨w, h3, h4⟩ := rp2.at_ i _ e
  rw [h1] at h3
  cases h3
  obtain ⟨p, ob, us, rfl, hp, hi, hf, hs, hob, al⟩ := h4
  obtain ⟨k, ek, hl, q2⟩ := q2
  obtain ⟨b, rfl, sk⟩ := is_key i2 ek
  have sm := W.ex l2.ok
  refine ⟨p, ob, us, k, b, rfl, rfl, ⟨hp, hs, hob, fun x hx => Same.seqT sm (al.ks x hx).t⟩, Same.seqT sm sk.t, by rw [al.len]; exact hl, fun o' u ru ob' => ?_⟩
  obtain ⟨rp3, la⟩ := rp2.changed (u := pinO p o') (s' := .dt g (putT gs k dz)) l2.ok e h1 rfl ⟨p, o', _, rfl, upd_same, hi, hf, hs, ob', al.put sk ru (i1.mono l2.ex)⟩ fun a o => o
  exact r.nx _ _ _ _ q2 rp3 ((rp.own l).trans la)
theorem ds_tput (g : PGw) (i : Nat) {x : Str} {xp pos pos' : Pos} {k v : Expr} {ty tv : TE} {dy dv : TDE} (hu : X.A.units + 64 < cLine) (hy : DE X K W Wx k ty dy) (hv : DE X K W Wx v tv dv) (hN : X.N[i]? = some x := by rfl) (hvis : Vis X.env.scope x := by first | exact Or.inl rfl | exact Or.inr (Or.inl rfl) | exact Or.inr (Or.inr rfl))
    (hd : (x == ("__debug__" : Str)) = false := by decide) (hcd : (x == ("__classdict__" : Str)) = false := by decide) (hs : swapsWith v (some (.Subscript (.Name x xp) k pos')) pos.line X.env = pure false := by rfl) (hg : gOf X = g := by rfl) :
    DS X K W Wx (.Assign [.Subscript (.Name x xp) k pos'] v pos) (sTPut K g (tVar i) ty tv) (tdTput g i dy dv) := by
  have hk := hy.k; subst hk hg
  exact ⟨rfl, ps_tput (by omega) (pe_var hN hvis hd hcd) hy.pe hv.pe hs, .tput hy.sim hv.sim⟩
end
end D3
set_option Elab.async false
set_option linter.all false
set_option maxRecDepth 100000
set_option maxHeartbeats 4000000
namespace D3
open PySem PySem.Spec PySem.W PySem.Calls PyProof.Rows L2
/-- texts and data as pairs -/
def kvD (ks : List Str) (ds : List D) : List (L2.Key × D) := List.zipWith (fun k d => (.inr k, d)) ks ds
def kvV (ks : List Str) (vs : List V) : List (L2.Key × V) := List.zipWith (fun k d => (.inr k, d)) ks vs
@[simp] theorem kvD_nil {ds : List D} : kvD [] ds = [] := rfl
@[simp] theorem kvD_nil' {ks : List Str} : kvD ks [] = [] := by cases ks <;> rfl
@[simp] theorem kvD_cons {k : Str} {ks : List Str} {d : D} {ds : List D} : kvD (k :: ks) (d :: ds) = (.inr k, d) :: kvD ks ds := rfl
def mergeD (gs more : List (L2.Key × D)) : List (L2.Key × D) := more.foldl (fun acc kv => putKD acc kv.1 kv.2) gs
@[simp] theorem mergeD_nil {gs : List (L2.Key × D)} : mergeD gs [] = gs := rfl
@[simp] theorem mergeD_cons {gs more : List (L2.Key × D)} {k : L2.Key} {d : D} : mergeD gs ((k, d) :: more) = mergeD (putKD gs k d) more := rfl
section
variable {K : PySem.W.Frag} {W : Wd} {Wx : WX} {X : Cx} {g : PGw} {pos : Pos}
theorem IsKv.merge {I : Hp} : ∀ {more : List (L2.Key × V)} {hs : List (L2.Key × D)} {vs : List (L2.Key × V)} {gs : List (L2.Key × D)}, IsKv K I more hs → IsKv K I vs gs → IsKv K I (mergeK vs more) (mergeD gs hs)
  | [], _, _, _, h, s => by cases h; exact s
  | (k, _) :: _, _, _, _, h, s => by cases h with | cons h r => have q := IsKv.merge r (s.put (k := k) h); exact q
theorem isKv_kv {I : Hp} : ∀ {ks : List Str} {vs : List V} {ds : List D}, IsAll K I vs ds → IsKv K I (kvV ks vs) (kvD ks ds)
  | [], _, _, _ => .nil
  | _ :: _, _, _, .nil => .nil
  | _ :: _, _, _, .cons h r => .cons h (isKv_kv r)
theorem kvV_keys : ∀ {ks : List Str} {vs : List V}, vs.length = ks.length → (kvV ks vs).map (·.1) = ks.map Sum.inr
  | [], _, _ => rfl
  | k :: ks, [], h => by cases h
  | k :: ks, v :: vs, h => by
    show Sum.inr k :: (kvV ks vs).map (·.1) = _
    rw [kvV_keys (by simpa using h)]
    rfl
/-- the pairs of a display: texts that are written, values that are data -/
def SimPs (K : PySem.W.Frag) (W : Wd) (Wx : WX) (trs : List (TE × TE)) (ks : List Str) (t : TDA) : Prop := ∀ (I H : Hp) (σ : L2.St) (τ : Tau) (Q : List D → Prop) (R : Exc → Prop) (G : List (V × V) → Hp → Prop), W.ok I H → Rep K W I H σ τ → t τ Q R →
  (∀ vs ds I' H', Q ds → IsAll K I' vs ds → vs.length = ks.length → Later W I H I' H' → G ((kvV ks vs).map fun kv => (kV kv.1, kv.2)) H') → XOk K W Wx R I H σ → tPairs trs σ H G
structure DPs (X : Cx) (K : PySem.W.Frag) (W : Wd) (Wx : WX) (pos : Pos) (keys : List (Option Expr)) (values : List Expr) (trs : List (TE × TE)) (ks : List Str) (t : TDA) : Prop where
  k : X.K = K
  pps : PPs X pos keys values trs
  sim : SimPs K W Wx trs ks t
@[simp] def tdPn : TDA := fun _ Q _ => Q []
@[simp] def tdPc (t : TDE) (u : TDA) : TDA := fun τ Q R => t τ (fun d => u τ (fun ds => Q (d :: ds)) R) R
theorem dps_nil (hk : X.K = K := by rfl) : DPs X K W Wx pos [] [] [] [] tdPn := by
  subst hk
  exact ⟨rfl, pps_nil, fun I H σ τ Q R G ok rp t hq hx => hq [] [] I H t .nil rfl (Later.refl ok)⟩
theorem dps_cons {k : Str} {j : Nat} {kp : Pos} {v : Expr} {keys : List (Option Expr)} {values : List Expr} {trs : List (TE × TE)} {ks : List Str} {tv : TE} {dv : TDE} {t : TDA} (hv : DE X K W Wx v tv dv) (hr : DPs X K W Wx pos keys values trs ks t) :
    DPs X K W Wx pos (some (.Constant (.str k) j kp) :: keys) (v :: values) ((tC (.str k), tv) :: trs) (k :: ks) (tdPc dv t) := by
  have hk := hv.k; subst hk
  exact ⟨rfl, pps_cons pe_str hv.pe hr.pps, fun I H σ τ Q R G ok rp t hq hx => hv.sim I H σ τ _ R _ ok rp t (fun v d I1 H1 q1 i1 l1 => hr.sim I1 H1 σ τ _ R _ l1.ok (rp.later l1) q1 (fun vs ds I2 H2 q2 al hl l2 =>
    hq (v :: vs) (d :: ds) I2 H2 q2 (.cons (i1.mono l2.ex) al) (by simp [hl]) (l1.trans l2)) (hx.later l1)) hx⟩
theorem mergeK_nodup {kvs : List (L2.Key × V)} (h : (kvs.map (·.1)).Nodup) : mergeK [] kvs = kvs := mergeK_new (kvs := []) (by simpa using h)
theorem nodup_inr {ks : List Str} (h : ks.Nodup) : (ks.map (Sum.inr : Str → L2.Key)).Nodup := List.Pairwise.map _ (fun a b n e => n (by cases e; rfl)) h
/-- {k: v, ..} -/
@[simp] def tdDisp (ks : List Str) (t : TDA) : TDX := fun τ Q R => t τ (fun ds => ks.Nodup ∧ ks.length ≤ 15 ∧ Q (.dk (kvD ks ds))) R
theorem SimX.disp {trs : List (TE × TE)} {ks : List Str} {t : TDA} (h : SimPs K W Wx trs ks t) : SimX K W Wx (tDisp trs) (tdDisp ks t) := fun I H σ τ Q R G ok rp t hq hx p hp => by
  have ip : I p = none := Same.non (W.ex ok) hp
  have fp : W.free p := W.fr ok hp
  have l0 : Later W I H I (upd H p (.dK [])) := Later.allocO ok hp
  refine h I _ σ τ _ R _ l0.ok (rp.later l0) t (fun vs ds I1 H1 q1 al hl l1 => ?_) (hx.later l0)
  obtain ⟨k1, k2⟩ := l1.keepN upd_same fp ip
  have nd := nodup_inr q1.1
  rw [← kvV_keys hl] at nd
  refine ⟨k1, _, rfl, ?_, ?_⟩
  · have : (kvV ks vs).length = ks.length := by have := congrArg List.length (kvV_keys hl); simpa using this
    rw [this]; exact q1.2.1
  · rw [mergeK_nodup nd]
    have l2 := l0.trans l1
    refine hq _ (.dk (kvD ks ds)) I1 _ q1.2.2 ⟨p, _, rfl, upd_same, k2, fp, isKv_kv al⟩ (fun a o => by cases o; exact hp) ⟨l2.ex, W.mu l2.ok k2 fp, fun a o f n e => ?_, l2.nw, l2.ow⟩
    have : a ≠ p := fun z => by rw [z, hp] at e; cases e
    rw [upd_ne this]
    exact l2.fr a o f n e
theorem dx_disp {keys : List (Option Expr)} {values : List Expr} {trs : List (TE × TE)} {ks : List Str} {t : TDA} (h : DPs X K W Wx pos keys values trs ks t) (hall : keys.all (·.isSome) = true := by rfl) (hl : keys.length = values.length := by rfl) (h0 : keys ≠ [] := by intro z; cases z)
    (h15 : keys.length ≤ 15 := by decide) : DX X K W Wx (.Dict keys values pos) (tDisp trs) (tdDisp ks t) := by
  have hk := h.k; subst hk
  exact ⟨rfl, pe_disp h.pps hall hl h0 h15, .disp h.sim⟩
/-- x = {.., k: {}} -/
@[simp] def tdDispW (g : PGw) (ks : List Str) (kc : Str) (t : TDA) : TDX := fun τ Q R => t τ (fun ds => (ks ++ [kc]).Nodup ∧ ks.length < 15 ∧ ∀ q, Q (.wd q (kvD ks ds) (.inr kc) [] g [])) R
theorem IsKv.none_ {I : Hp} {k : L2.Key} : ∀ {vs : List (L2.Key × V)} {gs : List (L2.Key × D)}, IsKv K I vs gs → valD gs k = none → valV vs k = none
  | _, _, .nil, _ => rfl
  | _, _, .cons (k := k') q r, e => by
    unfold valD at e
    rw [List.find?_cons] at e
    by_cases h : k' = k
    · subst h
      rw [decide_eq_true rfl] at e
      cases e
    · rw [decide_eq_false h] at e
      exact (valV_neg h).trans (IsKv.none_ r e)
/-- x["cells"][k] = v -/
@[simp] def tdWput (g : PGw) (i : Nat) (kc : Str) (u v : TDE) : TDS := fun τ E => ∃ q pre post gs, τ[i]? = some (some (.wd q pre (.inr kc) post g gs)) ∧ valD pre (.inr kc) = none ∧ v τ (fun z => u τ (fun y => ∃ k, keyD y = some k ∧ gs.length < sizeLine ∧ E.nx (τ.set i (some (.wd q pre (.inr kc) post g (putT gs k z))))) (fun x => E.ex x τ)) (fun x => E.ex x τ)
/-- the dict within is data from now on -/
def meltS : SD → SD
  | .wd _ pre k post g gs => .dk (pre ++ (k, .dt g gs) :: post)
  | s => s
@[simp] theorem meltS_wd {q : Addr} {pre post : List (L2.Key × D)} {k : L2.Key} {gs : List (TK × D)} : meltS (.wd q pre k post g gs) = .dk (pre ++ (k, .dt g gs) :: post) := rfl
@[simp] theorem meltS_dk {gs : List (L2.Key × D)} : meltS (.dk gs) = .dk gs := rfl
@[simp] def tdMelt (i : Nat) (t : TDS) : TDS := fun τ E => ∃ s, τ[i]? = some (some s) ∧ t (τ.set i (some (meltS s))) E
/-- x[k] = v, by texts -/
@[simp] def tdKput (i : Nat) (u v : TDE) : TDS := fun τ E => ∃ gs, τ[i]? = some (some (.dk gs)) ∧ v τ (fun z => u τ (fun y => onStr y fun kz => gs.length < sizeLine ∧ E.nx (τ.set i (some (.dk (putKD gs (.inr kz) z))))) (fun x => E.ex x τ)) (fun x => E.ex x τ)
/-- x.update(d), by texts -/
def rKupd : V → List V → Hp → VK → Prop := fun x xs H Q => ∃ a b ks hs, x = .ref a ∧ xs = [.ref b] ∧ H a = some (.dK ks) ∧ H b = some (.dK hs) ∧ a ≠ b ∧ ks.length + hs.length ≤ sizeLine ∧ Q .non (upd H a (.dK (mergeK ks hs)))
theorem mt_kupd : MtR X "dict.update" rKupd := by
  intro pins s σ H x xs v us Q I rx rv h
  obtain ⟨a, b, ks, hs, rfl, rfl, ea, eb, ne, hl, q⟩ := h
  cases rx
  rw [Vals.ref1 rv]
  obtain ⟨_, ya, va, ra, da⟩ := dk_of I.hok ea
  obtain ⟨_, yb, vb, rb, db⟩ := dk_of I.hok eb
  refine call_meetsIn PySem.F.slot_dict_update da.typeIs PySem.F.entry_dict_update (PySem.F.args_dict_update_2 _ _) (meets_dict_update (mixKind X.prog X.w) a b ne yb) ⟨va, vb, da, db, by rw [← ra.length, ← rb.length]; exact hl, fun h' d1 d2 hs' => ?_⟩
  have hz : (mergeK ks hs).length ≤ sizeLine := Nat.le_trans (length_mergeK hs ks) hl
  exact ⟨.non, _, d_write (t' := s.toks) I (by rw [ea]; exact True.intro) hs' (let ⟨q, _, _, hq, _⟩ := d1; ⟨q, hq⟩) (dk_new hz ya (rb.merge ra) d1), rfl, q⟩
@[simp] def tdKupd (i : Nat) (u : TDX) : TDS := fun τ E => ∃ gs, τ[i]? = some (some (.dk gs)) ∧ u τ (fun s => ∃ hs, s = .dk hs ∧ gs.length + hs.length ≤ sizeLine ∧ E.nx (τ.set i (some (.dk (mergeD gs hs))))) (fun x => E.ex x τ)
theorem SimS.kupd {i : Nat} {ty : TE} {dy : TDX} (hy : SimX K W Wx ty dy) : SimS K W Wx (tDrop (tBM K "dict" rKupd (tVar i) (tCons ty tNil))) (tdKupd i dy) := fun I H σ τ E D ok rp t r => by
  obtain ⟨gs, e, t⟩ := t
  obtain ⟨w0, h1, h2⟩ := rp.at_ i _ e
  have h2' := h2
  obtain ⟨p, vs, rfl, hp, hi, hf, al⟩ := h2
  refine ⟨_, h1, tyV_dk hp, hy I H σ τ _ _ _ ok rp t (fun y s I1 H1 q1 i1 n1 l1 => ?_) (r.xok rp)⟩
  obtain ⟨hs, rfl, hl, q1⟩ := q1
  have rp1 := rp.later l1
  obtain ⟨b, ws, rfl, hb, hib, hfb, bl⟩ := i1
  obtain ⟨p2, vs2, e2, hp2, hi2, hf2, al2⟩ := h2'.later l1
  cases e2
  have npb : p ≠ b := fun z => by
    subst z
    have := n1 p rfl
    rw [hp] at this
    cases this
  obtain ⟨rp3, la⟩ := rp1.changed (u := .dK (mergeK vs2 ws)) (s' := .dk (mergeD gs hs)) l1.ok e h1 rfl ⟨p, _, rfl, upd_same, hi2, hf2, bl.merge al2⟩ fun a o => o
  exact ⟨p, b, vs2, ws, rfl, rfl, hp2, hb, npb, by rw [al2.len, bl.len]; exact hl, r.nx _ _ _ _ q1 rp3 ((rp.own l1).trans la)⟩
theorem ds_kupd (i : Nat) {x : Str} {p p2 apos pos : Pos} {e : Expr} {te : TE} {de : TDX} (he : DX X K W Wx e te de) (hN : X.N[i]? = some x := by rfl) (hv : Vis X.env.scope x := by first | exact Or.inl rfl | exact Or.inr (Or.inl rfl) | exact Or.inr (Or.inr rfl)) (hd : (x == ("__debug__" : Str)) = false := by decide)
    (hcd : (x == ("__classdict__" : Str)) = false := by decide) (hbase : attributeBase (.Name x p) "update" X.env (eval (.Name x p) X.env) = eval (.Name x p) X.env := by rfl)
    (hfew : ((backTo p2 (starEach [e] X.env)).all (fun x => !x.1) && (backToKw p2 (keywordEach [] X.env)).all (fun x => x.1.isSome) && decide ([e].length + ([] : List Keyword).length + (if ([] : List Keyword).isEmpty then 0 else 1) < 30)) = true := by rfl)
    (hline : (apos.endLine == p2.line) = true := by rfl) (hs : starEach [e] X.env = (false, eval e X.env) :: starEach [] X.env := by rfl) (hpl : (backTo p2 (starEach [] X.env)).any (·.1) = false := by rfl) (hsw : swapsWith (.Call (.Attribute (.Name x p) "update" apos) [e] [] p2) none pos.line X.env = pure false := by rfl) :
    DS X K W Wx (.Expr (.Call (.Attribute (.Name x p) "update" apos) [e] [] p2) pos) (tDrop (tBM K "dict" rKupd (tVar i) (tCons te tNil))) (tdKupd i de) := by
  have hk := he.k; subst hk
  exact ⟨rfl, ps_expr (pe_bm PySem.F.plainAttrs_dict PySem.F.slot_dict_update PySem.F.type_dict_update mt_kupd (pe_var hN hv hd hcd) (pa_cons he.pe pa_nil hs) hbase hfew hline hs hpl) hsw, .kupd he.sim⟩
end
end D3
set_option Elab.async false
set_option linter.all false
set_option maxRecDepth 100000
set_option maxHeartbeats 4000000
namespace D3
open PySem PySem.Spec PySem.W PySem.Calls PyProof.Rows L2
section
variable {K : PySem.W.Frag} {W : Wd} {Wx : WX} {X : Cx} {g : PGw} {pos : Pos} {a b e : Expr} {ta tb te : TE} {da db de : TDE}
/-- the same keys with the same texts -/
def eqT (as bs : List (TK × Str)) : Bool := as.length == bs.length && as.all fun p => decide (valT bs p.1 = some p.2)
/-- texts by tuples, as data -/
def laidD (as : List (TK × Str)) : List (TK × D) := as.map fun p => (p.1, .str p.2)
/-- d == d2, of texts -/
def fTEq (g : PGw) : TD2 := fun x y Q => onDt g x fun gs => onDt g y fun hs => ∃ as bs, gs = laidD as ∧ hs = laidD bs ∧ Q (.bl (eqT as bs))
@[simp] theorem fTEq_dt {g g' g'' : PGw} {gs hs : List (TK × D)} {Q : D → Prop} : fTEq g (.dt g' gs) (.dt g'' hs) Q = (g' = g ∧ g'' = g ∧ ∃ as bs, gs = laidD as ∧ hs = laidD bs ∧ Q (.bl (eqT as bs))) := rfl
end
end D3
set_option Elab.async false
set_option linter.all false
set_option maxRecDepth 100000
set_option maxHeartbeats 2000000
namespace D3
open PySem L2
mutual
def noLst : D → Bool
  | .v _ => true
  | .tup ds => noLsts ds
  | .ins _ fs => noLstF fs
  | .dic gs => noLstK gs
  | .dt _ gs => noLstT gs
  | .lst _ => false
  | .exc _ _ _ => false
  | .lent _ _ _ => false
def noLsts : List D → Bool
  | [] => true
  | d :: ds => noLst d && noLsts ds
def noLstF : List (Str × D) → Bool
  | [] => true
  | (_, d) :: ds => noLst d && noLstF ds
def noLstK : List (L2.Key × D) → Bool
  | [] => true
  | (_, d) :: ds => noLst d && noLstK ds
def noLstT : List (List L2.Key × D) → Bool
  | [] => true
  | (_, d) :: ds => noLst d && noLstT ds
end
@[simp] theorem noLst_v {x : V} : noLst (.v x) = true := by simp [noLst]
@[simp] theorem noLst_tup {ds : List D} : noLst (.tup ds) = noLsts ds := by simp [noLst]
@[simp] theorem noLst_ins {C : Addr} {fs : List (Str × D)} : noLst (.ins C fs) = noLstF fs := by simp [noLst]
@[simp] theorem noLst_dt {g : PGw} {fs : List (List L2.Key × D)} : noLst (.dt g fs) = noLstT fs := by simp [noLst]
@[simp] theorem noLsts_nil : noLsts [] = true := by simp [noLsts]
@[simp] theorem noLsts_cons {d : D} {ds : List D} : noLsts (d :: ds) = (noLst d && noLsts ds) := by simp [noLsts]
@[simp] theorem noLstF_nil : noLstF [] = true := by simp [noLstF]
@[simp] theorem noLstF_cons {k : Str} {d : D} {ds : List (Str × D)} : noLstF ((k, d) :: ds) = (noLst d && noLstF ds) := by simp [noLstF]
/-- no other things of one's own than lists -/
def onlyL1 : Option SD → Bool
  | none => true
  | some (.dat _) => true
  | some (.own _) => true
  | _ => false
@[simp] theorem onlyL1_none : onlyL1 none = true := rfl
@[simp] theorem onlyL1_dat {d : D} : onlyL1 (some (.dat d)) = true := rfl
@[simp] theorem onlyL1_own {d : List D} : onlyL1 (some (.own d)) = true := rfl
section
variable {K : PySem.W.Frag} {W : Wd} {Wx : WX} {X : Cx} {e : Expr} {te : TE} {de : TDE} {pos : Pos}
@[simp] def tdSetN (t : TDE) (i : Nat) : TDS := fun τ E => τ.all onlyL1 = true ∧ t (frz τ) (fun d => noLst d = true ∧ E.nx (τ.set i (some (.dat d)))) (fun x => E.ex x (frz τ))
/-- .. a new list of one's own, made while the others stand still -/
@[simp] def tdSetON (t : TDO) (i : Nat) : TDS := fun τ E => τ.all onlyL1 = true ∧ t (frz τ) (fun ds => noLsts ds = true ∧ E.nx (τ.set i (some (.own ds)))) (fun x => E.ex x (frz τ))
end
end D3
set_option Elab.async false
set_option linter.all false
set_option maxRecDepth 100000
set_option maxHeartbeats 2000000
namespace D3
open PySem PySem.Spec PyProof.Rows L2
structure HasKw (K : PySem.W.Frag) (mg : Str → Option Value) (x : Str) (st : Stmt) (ps : List Str) (n : Nat) (kw : Str) (dv : V) (f : Addr) (fd : FuncData) : Prop where
  F : Fun K x x st f fd
  g : mg x = some (.ref f)
  b1 : ∀ (s : Shared) (us : List Value) (w : Value), K.In s.heap → us.length = n → BindsTo s fd ⟨us, [(kw, w)]⟩ (ps.zip (us ++ [w]))
  b0 : ∃ u, RelV dv u ∧ ∀ (s : Shared) (us : List Value), K.In s.heap → us.length = n → BindsTo s fd ⟨us, []⟩ (ps.zip (us ++ [u]))
theorem HasKw.k {K : PySem.W.Frag} {mg : Str → Option Value} {x : Str} {st : Stmt} {ps : List Str} {n : Nat} {kw : Str} {dv : V} {f : Addr} {fd : FuncData} (h : HasKw K mg x st ps n kw dv f fd) : PySem.W.keepIn K (.ref f) = true := h.F.kp
section
variable {K : PySem.W.Frag} {W : Wd} {Wx : WX} {X : Cx} {e v : Expr} {es : List Expr} {tv : TE} {de : TDE} {tr : TA} {dr : TDA} {p pos kp : Pos} {x kw : Str} {C : CXT} {k n m : Nat} {f : Addr} {fd : FuncData} {ps : List Str} {st : Stmt} {t : TF} {dv : V}
@[simp] def tdCallKw (n m : Nat) (t : TF) (W : Wd) (u : TDA) (v : TDE) : TDE := fun τ Q R => u τ (fun ds => v τ (fun d => ds.length = n ∧ ds.length + 1 = m ∧ t W (ds ++ [d]) Q fun _ => False) R) R
@[simp] def tdCallDf (n m : Nat) (dv : V) (t : TF) (W : Wd) (u : TDA) : TDE := fun τ Q R => u τ (fun ds => ds.length = n ∧ ds.length + 1 = m ∧ t W (ds ++ [.v dv]) Q fun _ => False) R
end
end D3
set_option Elab.async false
set_option linter.all false
set_option maxRecDepth 100000
set_option maxHeartbeats 4000000
namespace D3
open PySem PySem.Spec PySem.W PySem.Calls PyProof.Rows L2
section
variable {K : PySem.W.Frag} {W : Wd} {Wx : WX} {X : Cx} {g : PGw} {a e : Expr} {tr : TA} {dr : TDA} {p pos : Pos}
/-- the tuples of numbers that a comprehension puts into a set -/
def compS (g : TDG) (tt : TDT) (te : TDE) (vs : List Nat) (τ : Tau) : List D → List (List Int) → (List (List Int) → Prop) → Prop
  | [], acc, Q => Q acc
  | d :: ds, acc, Q => g d (wipeT τ vs) fun τ2 => tt τ2 (fun b => if b = true then te τ2 (fun y => ∃ k : List Int, y = .tup (k.map D.int) ∧ compS g tt te vs τ ds (k :: acc) Q) (fun _ => False) else compS g tt te vs τ ds acc Q) (fun _ => False)
@[simp] def tdLenSc (ti : TDI) (G : TDG) (tt : TDT) (te : TDE) (vs : List Nat) : TDE := fun τ Q R => ti τ (fun ds => ds.length < 63 ∧ compS G tt te vs τ ds [] fun ks => ∀ L : List (List Int), L.Nodup → (∀ k, k ∈ L ↔ k ∈ ks) → Q (.int (L.length : Nat))) R
/-- min(list), max(list) of numbers -/
def fMinL (le : Int → Int → Prop) : FD := fun ds Q => match ds with
  | [.lst xs] => ∃ ns : List Int, xs = ns.map D.int ∧ ns ≠ [] ∧ ∀ m, m ∈ ns → (∀ y, y ∈ ns → le m y) → Q (.int m)
  | _ => False
@[simp] theorem fMinL_lst {le : Int → Int → Prop} {xs : List D} {Q : D → Prop} : fMinL le [.lst xs] Q = ∃ ns : List Int, xs = ns.map D.int ∧ ns ≠ [] ∧ ∀ m, m ∈ ns → (∀ y, y ∈ ns → le m y) → Q (.int m) := rfl
theorem CallSim.minL : CallSim K W (rMin K) (fMinL (· ≤ ·)) := fun I H vs ds Q G ok al q hq => by
  unfold fMinL at q
  split at q
  · obtain ⟨v, rfl, h⟩ := isAll1 al
    obtain ⟨ns, rfl, ne, q⟩ := q
    obtain ⟨a, xs, rfl, sq, al2⟩ := is_lst h
    cases isAll_int al2
    exact ⟨a, ns, rfl, (W.ex ok).seq sq, List.length_pos_iff.mpr ne, fun m hm hy => hq _ _ I H (q m hm hy) (.v _) (Later.refl ok)⟩
  · exact q.elim
theorem de_minL (hc : X.calm = true) (hm : X.mg "min" = none) (ha : DA X K W Wx [a] tr dr) (hg : Gl X "min" := by rfl) (he : starEach [a] X.env = (false, eval a X.env) :: starEach [] X.env := by rfl) : DE X K W Wx (.Call (.Name "min" p) [a] [] pos) (tCB (rMin K) tr) (tdCB (fMinL (· ≤ ·)) dr) := by
  have hk := ha.k; subst hk
  exact de_cb (cr_min hc) .minL hg hm (by decide +kernel) ha (by decide) (by decide) he rfl
end
end D3
set_option Elab.async false
set_option linter.all false
set_option maxRecDepth 100000
set_option maxHeartbeats 4000000
namespace D3
open PySem L2
section
variable {K : PySem.W.Frag} {W : Wd} {Wx : WX} {X : Cx} {a b e : Expr} {ta tb te : TE} {da db de : TDE} {dO d1 d2 : TDO} {pos : Pos}
theorem Rep.other {I H : Hp} {σ : L2.St} {τ : Tau} {p : Addr} {o : HO} (rp : Rep K W I H σ τ) (n : ¬ Own σ τ p) : Rep K W I (upd H p o) σ τ :=
  ⟨rp.len, fun j s f => by
    obtain ⟨w, g1, g2⟩ := rp.at_ j s f
    exact ⟨w, g1, g2.keep (Same.refl I) (fun a o => (g2.owned o).1) fun a o => upd_ne fun z => n (by rw [← z]; exact ⟨j, s, w, f, g1, o⟩)⟩, rp.inj⟩
/-- what is popped, turn by turn -/
def popD (g : TDG) (te : TDE) (vs : List Nat) (i : Nat) (τ : Tau) : List D → List D → List D → (List D → Prop) → Prop
  | [], _, acc, Q => Q acc
  | x :: xs, ds, acc, Q => g x (wipeT (τ.set i (some (.own ds))) vs) fun τ2 => τ2[i]? = some (some (.own ds)) ∧ te (τ2.set i (some (.dat (.lst ds)))) (fun y => ∃ (j : Nat) (d : D), y = .int (j : Nat) ∧ j < 2 ^ 62 ∧ ds[j]? = some d ∧ popD g te vs i τ xs (ds.eraseIdx j) (acc ++ [d]) Q) (fun _ => False)
@[simp] def tdRetPop (i : Nat) (ti : TDI) (g : TDG) (te : TDE) (vs : List Nat) : TDS := fun τ E => ∃ ds, τ[i]? = some (some (.own ds)) ∧ ti τ (fun xs => xs.length ≤ sizeLine ∧ popD g te vs i τ xs ds [] fun ys => E.rt (.own ys)) (fun x => E.ex x τ)
/-- a new list by a condition -/
@[simp] def tdIfO (c : TDT) (t u : TDO) : TDO := fun τ Q R => c τ (fun b => if b = true then t τ Q R else u τ Q R) R
/-- a new list, changed and dropped: e.reverse() -/
@[simp] def tdDropO (t : TDO) : TDS := fun τ E => t (frz τ) (fun _ => E.nx τ) (fun x => E.ex x (frz τ))
/-- e.append(x) -/
@[simp] def tdDropApp (t : TDO) (u : TDE) : TDS := fun τ E => t (frz τ) (fun ds => ds.length < sizeLine ∧ u (frz τ) (fun _ => E.nx τ) (fun x => E.ex x (frz τ))) (fun x => E.ex x (frz τ))
/-- the greater, the less of two whole numbers -/
def fMax2 : FD := fun ds Q => match ds with
  | [.v (.int i), .v (.int j)] => Q (.int (if j > i then j else i))
  | _ => False
def fMin2 : FD := fun ds Q => match ds with
  | [.v (.int i), .v (.int j)] => Q (.int (if j < i then j else i))
  | _ => False
@[simp] theorem fMax2_int {i j : Int} {Q : D → Prop} : fMax2 [.int i, .int j] Q = Q (.int (if j > i then j else i)) := rfl
@[simp] theorem fMin2_int {i j : Int} {Q : D → Prop} : fMin2 [.int i, .int j] Q = Q (.int (if j < i then j else i)) := rfl
end
end D3
set_option Elab.async false
set_option linter.all false
set_option maxRecDepth 100000
set_option maxHeartbeats 4000000
namespace D3
open PySem PySem.Spec PyProof.Rows L2
theorem _root_.L2H.RoomH.units {k : Nat} {A : Around} (r : L2H.RoomH k A) : A.units + 64 < cLine := by have := r.un; omega
end D3
set_option Elab.async false
set_option linter.all false
set_option maxRecDepth 100000
set_option maxHeartbeats 4000000
namespace D3
open PySem PySem.Spec PySem.W PySem.Calls PyProof.Rows L2
section
variable {K : PySem.W.Frag} {W : Wd} {Wx : WX} {X : Cx} {a : Expr} {tr : TA} {dr : TDA} {pos p : Pos}
def fDictC (ds : List D) (Q : SD → Prop) : Prop := match ds with
  | [.dic gs] => Q (.dk gs)
  | _ => False
@[simp] theorem fDictC_dic {gs : List (L2.Key × D)} {Q : SD → Prop} : fDictC [.dic gs] Q = Q (.dk gs) := rfl
@[simp] def tdDictC (dr : TDA) : TDX := fun τ Q R => dr τ (fun ds => fDictC ds Q) R
/-- abs -/
def fAbs : FD := fun ds Q => match ds with
  | [.v (.int i)] => Q (.int (if i < 0 then -i else i))
  | _ => False
@[simp] theorem fAbs_int {i : Int} {Q : D → Prop} : fAbs [.int i] Q = Q (.int (if i < 0 then -i else i)) := rfl
theorem CallSim.abs : CallSim K W (fun xs H Q => ∃ i, xs = [.int i] ∧ Q (.int (if i < 0 then -i else i)) H) fAbs := fun I H vs ds Q G ok al q hq => by
  unfold fAbs at q
  split at q
  · obtain ⟨v, rfl, h1⟩ := isAll1 al
    cases h1
    exact ⟨_, rfl, hq _ _ I H q (.v _) (Later.refl ok)⟩
  · exact q.elim
variable {C f : Addr} {m qual : Str} {st : Stmt} {ps : List Str} {fd : FuncData} {o e : Expr} {es : List Expr} {to : TE} {dO : TDE} {apos : Pos} {k n : Nat} {tO : TFO} {pl : Sem Bool}
end
end D3
set_option Elab.async false
set_option linter.all false
set_option maxRecDepth 100000
set_option maxHeartbeats 4000000
namespace D3
open PySem PySem.Spec PySem.W PySem.Calls PyProof.Rows L2
section
variable {K : PySem.W.Frag} {W : Wd} {Wx : WX} {X : Cx} {a e : Expr} {te : TE} {de : TDE} {tr : TA} {dr : TDA} {pos p apos cpos : Pos}
def fListT (g : PGw) (ds : List D) (Q : List D → Prop) : Prop := match ds with
  | [.dt g' gs] => g' = g ∧ Q (keysT gs)
  | _ => False
@[simp] theorem fListT_dt {g g' : PGw} {gs : List (TK × D)} {Q : List D → Prop} : fListT g [.dt g' gs] Q = (g' = g ∧ Q (keysT gs)) := rfl
theorem IsT.valsAll {I : Hp} : ∀ {us : DtE} {gs : List (TK × D)}, IsT K I us gs → ∃ vs, Vals vs (us.map fun x => x.2.2) ∧ IsAll K I vs (gs.map (·.2))
  | _, _, .nil => ⟨[], .nil, .nil⟩
  | _, _, .cons s rv iv r => by
    obtain ⟨vs, h1, h2⟩ := IsT.valsAll r
    exact ⟨_ :: vs, .cons rv h1, .cons iv h2⟩
@[simp] def tdListVs (g : PGw) (t : TDE) : TDO := fun τ Q R => t τ (fun d => onDt g d fun gs => Q (gs.map (·.2))) R
end
section
variable {K : PySem.W.Frag} {W : Wd} {Wx : WX} {X : Cx}
def compD2 (g : TDG) (tt : TDT) (it1 : TDI) (g1 : TDG) (tt1 : TDT) (te : TDE) (vs vs1 : List Nat) (τ : Tau) : List D → Nat → (List D → Prop) → Prop
  | [], _, Q => Q []
  | d :: ds, n, Q => g d (wipeT τ vs) fun τ2 => tt τ2 (fun b => if b = true then it1 τ2 (fun es => n + es.length ≤ sizeLine ∧ compD g1 tt1 te vs1 τ2 es fun ys => compD2 g tt it1 g1 tt1 te vs vs1 τ ds (n + ys.length) fun zs => Q (ys ++ zs)) (fun _ => False) else compD2 g tt it1 g1 tt1 te vs vs1 τ ds n Q) (fun _ => False)
@[simp] def tdLc2 (ti : TDI) (g : TDG) (tt : TDT) (it1 : TDI) (g1 : TDG) (tt1 : TDT) (te : TDE) (vs vs1 : List Nat) : TDO := fun τ Q R => ti τ (fun ds => compD2 g tt it1 g1 tt1 te vs vs1 τ ds 0 Q) R
theorem SimO.lc2 {wi wi1 : TI} {ti ti1 : TDI} {g g1 : TG} {gd gd1 : TDG} {idx idx1 : List Nat} {tt tt1 : TT} {td td1 : TDT} {te : TE} {de : TDE} {vs vs1 : List Nat} (hi : SimI K W Wx wi ti) (hg : SimG K W g gd idx) (ht : SimT K W (fun _ _ _ _ => False) tt td) (hi1 : SimI K W (fun _ _ _ _ => False) wi1 ti1) (hg1 : SimG K W g1 gd1 idx1) (ht1 : SimT K W (fun _ _ _ _ => False) tt1 td1) (he : SimE K W (fun _ _ _ _ => False) te de)
    (hv : ∀ i ∈ idx, i ∈ vs) (hv1 : ∀ i ∈ idx1, i ∈ vs1) : SimO K W Wx (tLc2 wi g tt wi1 g1 tt1 te vs vs1) (tdLc2 ti gd td ti1 gd1 td1 de vs vs1) := fun I H σ τ Q R G ok rp t hq hx =>
  hi I H σ τ _ R _ ok rp t (fun J ds I1 H1 q1 wk l1 LL hD => by
    have hD0 : H LL = none := Later.back l1 hD
    have fD : W.free LL := W.fr l1.ok hD
    have keepD : ∀ {I2 H2 I4 H4 : Hp} {acc : List V}, H2 LL = some (.lst acc) → I2 LL = none → Later W I2 H2 I4 H4 → H4 LL = some (.lst acc) ∧ I4 LL = none := fun {I2 H2 I4 H4 acc} hacc hI l => ⟨l.fr LL _ fD (fun z => z) hacc, by
      cases q : I4 LL with
      | none => rfl
      | some o =>
        rcases l.nw LL hI (by rw [q]; intro z; cases z) with z | z
        · rw [hacc] at z; cases z
        · exact z.elim⟩
    refine ⟨fun i m H2 => ∃ (I2 : Hp) (acc : List V) (ys : List D), m = ds.length - i ∧ i ≤ ds.length ∧ Later W I H I2 H2 ∧ Same I1 I2 ∧ H2 LL = some (.lst acc) ∧ I2 LL = none ∧ IsAll K I2 acc ys ∧
      compD2 gd td ti1 gd1 td1 de vs vs1 τ (ds.drop i) ys.length (fun zs => Q (ys ++ zs)), ⟨ds.length, I1, [], [], by simp, Nat.zero_le _, l1.trans (Later.allocO l1.ok hD), Same.refl _, upd_same, Same.non (W.ex l1.ok) hD, .nil, q1⟩, ?_⟩
    rintro i m H2 ⟨I2, acc, ys, rfl, hil, l2, e2, hacc, hI, al, c⟩
    obtain ⟨w1, w2⟩ := wk i I2 H2 e2 l2.ok
    by_cases hlt : i < ds.length
    · obtain ⟨go, yl⟩ := w1 hlt
      refine .inr ⟨go, fun H3 => ∃ (I3 : Hp) (acc : List V) (ys : List D), Later W I H I3 H3 ∧ Same I1 I3 ∧ H3 LL = some (.lst acc) ∧ I3 LL = none ∧ IsAll K I3 acc ys ∧ compD2 gd td ti1 gd1 td1 de vs vs1 τ (ds.drop (i + 1)) ys.length (fun zs => Q (ys ++ zs)), ?_, ?_⟩
      · rintro H3 ⟨I3, acc, ys, h1, h2, h3, h4, h5, h6⟩
        exact ⟨ds.length - (i + 1), by omega, I3, acc, ys, rfl, hlt, h1, h2, h3, h4, h5, h6⟩
      · intro x H3 y
        obtain ⟨I3, d, hd, l3, ix⟩ := yl x H3 y
        have hdrop : ds.drop i = d :: ds.drop (i + 1) := by
          obtain ⟨h1, h2⟩ := List.getElem?_eq_some_iff.mp hd
          rw [← h2]; exact List.drop_eq_getElem_cons h1
        rw [hdrop] at c
        have lH3 := l2.trans l3
        refine hg I3 H3 (wipe σ vs) (wipeT τ vs) x d _ _ l3.ok ((rp.later lH3).wipe vs) ix c fun σ2 τ2 q2 rp2 ow2 wz => ⟨(wz vs hv).trans (wipe_wipe σ vs), ?_⟩
        have no2 : ¬ Own σ2 τ2 LL := fun o => by
          obtain ⟨_, _, u, hu⟩ := (rp.wipe vs).owned (ow2 LL o)
          rw [hD0] at hu; cases hu
        refine ht I3 H3 σ2 τ2 _ _ _ l3.ok rp2 q2 (fun b I4 H4 q4 l4 => ?_) xok_false
        cases b with
        | true =>
          rw [if_pos rfl] at q4 ⊢
          refine hi1 I4 H4 σ2 τ2 _ _ _ l4.ok (rp2.later l4) q4 (fun J1 es I5 H5 q5 wk1 l5 => ?_) xok_false
          obtain ⟨hn, q5⟩ := q5
          have l25 := (l3.trans l4).trans l5
          obtain ⟨k1, k2⟩ := keepD hacc hI l25
          refine ⟨fun j k H6 => ∃ (I6 : Hp) (acc6 : List V) (ys6 : List D) (F : List D → Prop), k = es.length - j ∧ j ≤ es.length ∧ Later W I H I6 H6 ∧ Rep K W I6 H6 σ2 τ2 ∧ Same I1 I6 ∧ Same I5 I6 ∧ H6 LL = some (.lst acc6) ∧ I6 LL = none ∧ IsAll K I6 acc6 ys6 ∧ ys6.length ≤ ys.length + j ∧
            compD gd1 td1 de vs1 τ2 (es.drop j) F ∧ ∀ zs1, F zs1 → compD2 gd td ti1 gd1 td1 de vs vs1 τ (ds.drop (i + 1)) (ys6.length + zs1.length) (fun zs => Q (ys6 ++ (zs1 ++ zs))),
            ⟨es.length, I5, acc, ys, _, by simp, Nat.zero_le _, l2.trans l25, (rp2.later l4).later l5, e2.trans l25.ex, Same.refl _, k1, k2, al.mono l25.ex, Nat.le_refl _, q5, fun zs1 h => h⟩, ?_⟩
          rintro j k H6 ⟨I6, acc6, ys6, F, rfl, hjl, l6, rp6, e6, e56, hacc6, hI6, al6, hy6, c6, hF⟩
          obtain ⟨v1, v2⟩ := wk1 j I6 H6 e56 l6.ok
          by_cases hjt : j < es.length
          · obtain ⟨go1, yl1⟩ := v1 hjt
            refine .inr ⟨go1, fun H7 => ∃ (I6 : Hp) (acc6 : List V) (ys6 : List D) (F : List D → Prop), Later W I H I6 H7 ∧ Rep K W I6 H7 σ2 τ2 ∧ Same I1 I6 ∧ Same I5 I6 ∧ H7 LL = some (.lst acc6) ∧ I6 LL = none ∧ IsAll K I6 acc6 ys6 ∧ ys6.length ≤ ys.length + (j + 1) ∧
              compD gd1 td1 de vs1 τ2 (es.drop (j + 1)) F ∧ ∀ zs1, F zs1 → compD2 gd td ti1 gd1 td1 de vs vs1 τ (ds.drop (i + 1)) (ys6.length + zs1.length) (fun zs => Q (ys6 ++ (zs1 ++ zs))), ?_, ?_⟩
            · rintro H7 ⟨I7, acc7, ys7, F7, z1, z2, z3, z4, z5, z6, z7, z8, z9, z10⟩
              exact ⟨es.length - (j + 1), by omega, I7, acc7, ys7, F7, rfl, hjt, z1, z2, z3, z4, z5, z6, z7, z8, z9, z10⟩
            · intro x1 H7 y1
              obtain ⟨I7, d1, hd1, l7, ix1⟩ := yl1 x1 H7 y1
              have hdrop1 : es.drop j = d1 :: es.drop (j + 1) := by
                obtain ⟨h1, h2⟩ := List.getElem?_eq_some_iff.mp hd1
                rw [← h2]; exact List.drop_eq_getElem_cons h1
              rw [hdrop1] at c6
              refine hg1 I7 H7 (wipe σ2 vs1) (wipeT τ2 vs1) x1 d1 _ _ l7.ok ((rp6.later l7).wipe vs1) ix1 c6 fun σ3 τ3 q3 rp3 _ wz1 => ⟨(wz1 vs1 hv1).trans (wipe_wipe σ2 vs1), ?_⟩
              refine ht1 I7 H7 σ3 τ3 _ _ _ l7.ok rp3 q3 (fun b1 I8 H8 q8 l8 => ?_) xok_false
              cases b1 with
              | true =>
                rw [if_pos rfl] at q8 ⊢
                refine he I8 H8 σ3 τ3 _ _ _ l8.ok (rp3.later l8) q8 (fun v dy I9 H9 q9 i9 l9 => ?_) xok_false
                have l69 := (l7.trans l8).trans l9
                obtain ⟨m1, m2⟩ := keepD hacc6 hI6 l69
                have hlen : acc6.length < sizeLine := by
                  have := al6.length
                  omega
                refine ⟨acc6, m1, hlen, I9, acc6 ++ [v], ys6 ++ [dy], _, ?_, ((rp6.later l69).other no2), e6.trans l69.ex, e56.trans l69.ex, upd_same, m2, (al6.mono l69.ex).append (.cons i9 .nil), by simp; omega, q9, fun zs1 h => ?_⟩
                · have l' := l6.trans l69
                  exact ⟨l'.ex, W.mu l'.ok m2 fD, fun a o f n e => by
                    have : a ≠ LL := fun z => by rw [z, hD0] at e; cases e
                    rw [upd_ne this]; exact l'.fr a o f n e, l'.nw, l'.ow⟩
                · have := hF _ h
                  rw [show (ys6 ++ [dy]).length + zs1.length = ys6.length + (dy :: zs1).length from by simp; omega]
                  simpa [List.append_assoc] using this
              | false =>
                rw [if_neg Bool.false_ne_true] at q8 ⊢
                have l68 := l7.trans l8
                obtain ⟨m1, m2⟩ := keepD hacc6 hI6 l68
                exact ⟨I8, acc6, ys6, _, l6.trans l68, rp6.later l68, e6.trans l68.ex, e56.trans l68.ex, m1, m2, al6.mono l68.ex, by omega, q8, hF⟩
          · have : j = es.length := by omega
            subst this
            rw [List.drop_length] at c6
            have c6 := hF [] c6
            exact .inl ⟨v2 (Nat.le_refl _), I6, acc6, ys6, l6, e6, hacc6, hI6, al6, by simpa using c6⟩
        | false =>
          rw [if_neg Bool.false_ne_true] at q4 ⊢
          have l24 := l3.trans l4
          obtain ⟨k1, k2⟩ := keepD hacc hI l24
          exact ⟨I4, acc, ys, l2.trans l24, e2.trans l24.ex, k1, k2, al.mono l24.ex, q4⟩
    · have : i = ds.length := by omega
      subst this
      refine .inl ⟨w2 (Nat.le_refl _), ?_⟩
      rw [List.drop_length] at c
      exact hq LL acc ys I2 H2 (by simpa [compD2] using c) hD0 hacc hI al l2) hx
theorem do_lc2 {elt tg iter tg1 iter1 : Expr} {ifs ifs1 : List Expr} {scope : Scope} {own : List (Str × Nat)} {vs1 : List Nat} {pos : Pos} {wi wi1 : TI} {ti ti1 : TDI} {g g1 : TG} {gd gd1 : TDG} {idx idx1 : List Nat} {tt tt1 : TT} {td td1 : TDT} {te : TE} {de : TDE} (hc : X.calm = true) (hN : X.N.Nodup) (hi : DI X K W Wx tg iter wi ti) (ok : BlkOk X.N X.env.scope scope own)
    (hg : ∀ (s : Shared) (H : Hp) (C : Addr) (cl : List (Str × Addr)) (fp : List Addr), DG (X.blk s H scope (compEnvC scope cl C X.env) fp) K W tg g gd idx) (ht : ∀ (s : Shared) (H : Hp) (C : Addr) (cl : List (Str × Addr)) (fp : List Addr), DTs (X.blk s H scope (compEnvC scope cl C X.env) fp) K W ifs tt td)
    (hi1 : ∀ (s : Shared) (H : Hp) (C : Addr) (cl : List (Str × Addr)) (fp : List Addr), DI (X.blk s H scope (compEnvC scope cl C X.env) fp) K W (fun _ _ _ _ => False) tg1 iter1 wi1 ti1)
    (hg1 : ∀ (s : Shared) (H : Hp) (C : Addr) (cl : List (Str × Addr)) (fp : List Addr), DG (X.blk s H scope (compEnvC scope cl C X.env) fp) K W tg1 g1 gd1 idx1) (ht1 : ∀ (s : Shared) (H : Hp) (C : Addr) (cl : List (Str × Addr)) (fp : List Addr), DTs (X.blk s H scope (compEnvC scope cl C X.env) fp) K W ifs1 tt1 td1)
    (he : ∀ (s : Shared) (H : Hp) (C : Addr) (cl : List (Str × Addr)) (fp : List Addr), DE (X.blk s H scope (compEnvC scope cl C X.env) fp) K W (fun _ _ _ _ => False) elt te de) (hv : ∀ i ∈ idx, i ∈ own.map (·.2) := by decide) (hv1 : ∀ i ∈ idx1, i ∈ vs1 := by decide) (hv2 : ∀ i ∈ vs1, i ∈ own.map (·.2) := by decide)
    (hs : ∀ x, foldedSetIterable iter X.env x = pure x := by intro _; rfl) (hs1 : ∀ env x, foldedSetIterable iter1 env x = pure x := by intro _ _; rfl) :
    DO X K W Wx (.ListComp elt [⟨tg, iter, ifs, 0⟩, ⟨tg1, iter1, ifs1, 0⟩] scope pos) (tLc2 wi g tt wi1 g1 tt1 te (own.map (·.2)) vs1) (tdLc2 ti gd td ti1 gd1 td1 de (own.map (·.2)) vs1) := by
  have hk := hi.k; subst hk
  exact ⟨rfl, pe_lc2 hc hN hi.pi ok hv2 (fun s H C cl fp => (hg s H C cl fp).pg) (fun s H C cl fp => (ht s H C cl fp).pt) (fun s H C cl fp => (hi1 s H C cl fp).pi) (fun s H C cl fp => (hg1 s H C cl fp).pg) (fun s H C cl fp => (ht1 s H C cl fp).pt) (fun s H C cl fp => (he s H C cl fp).pe) hs hs1,
    .lc2 hi.sim (hg { heap := { objs := #[] } } (fun _ => none) 0 [] []).sim (ht { heap := { objs := #[] } } (fun _ => none) 0 [] []).sim (hi1 { heap := { objs := #[] } } (fun _ => none) 0 [] []).sim (hg1 { heap := { objs := #[] } } (fun _ => none) 0 [] []).sim (ht1 { heap := { objs := #[] } } (fun _ => none) 0 [] []).sim (he { heap := { objs := #[] } } (fun _ => none) 0 [] []).sim hv hv1⟩
end
section
variable {K : PySem.W.Frag} {W : Wd} {Wx : WX} {X : Cx} {a v : Expr} {tv : TE} {dv : TDE} {tr : TA} {dr : TDA} {pos p kp : Pos}
@[simp] def tdMinD0 (u : TDA) (t : TDE) : TDE := fun τ Q R => u τ (fun ds => t τ (fun d => ds = [.lst []] ∧ Q d) R) R
end
end D3
set_option Elab.async false
set_option linter.all false
set_option maxRecDepth 100000
set_option maxHeartbeats 4000000
namespace D3
open PySem PySem.Spec PySem.W PySem.Calls PyProof.Rows L2
section
variable {K : PySem.W.Frag} {W : Wd} {Wx : WX} {X : Cx} {a b o e : Expr} {ta tb to : TE} {da db dO : TDE} {tr : TA} {dr : TDA} {apos cpos : Pos}
theorem IsKv.val_none {I : Hp} {k : Key} : ∀ {vs : List (Key × V)} {gs : List (Key × D)}, IsKv K I vs gs → valD gs k = none → valV vs k = none
  | _, _, .nil, _ => rfl
  | _, _, .cons (k := k') (v := v') q r, e => by
    unfold valD at e
    rw [List.find?_cons] at e
    by_cases h : k' = k
    · subst h
      rw [decide_eq_true rfl] at e
      cases e
    · rw [decide_eq_false h] at e
      exact (valV_neg h).trans (IsKv.val_none r e)
@[simp] def tdDGet2 (t u v : TDE) : TDE := fun τ Q R => t τ (fun x => onDic x fun gs => u τ (fun y => onStr y fun z => v τ (fun d => Q ((valD gs (.inr z)).getD d)) R) R) R
theorem de_dget2 (hu : X.A.units + 64 < cLine) (ho : DE X K W Wx o to dO) (ha : DE X K W Wx a ta da) (hb : DE X K W Wx b tb db) (m : M2 X o "get" apos a b cpos := by exact ⟨rfl, rfl, rfl, rfl⟩) :
    DE X K W Wx (.Call (.Attribute o "get" apos) [a, b] [] cpos) (tDGet2 to ta tb) (tdDGet2 dO da db) := by
  have hk := ha.k; subst hk
  refine ⟨rfl, pe_dget2 (by omega) ho.pe ha.pe hb.pe m, fun I H σ τ Q R G ok rp t hq hx => ho.sim I H σ τ _ R _ ok rp t (fun v d I1 H1 q1 i1 l1 => ?_) hx⟩
  unfold onDic at q1
  split at q1
  · obtain ⟨p, kvs, rfl, hp, al⟩ := is_dic i1
    refine ⟨p, rfl, .inl ⟨kvs, .inl (W.ex l1.ok _ _ hp)⟩, ha.sim I1 H1 σ τ _ R _ l1.ok (rp.later l1) q1 (fun v2 d2 I2 H2 q2 i2 l2 => ?_) (hx.later l1)⟩
    obtain ⟨z, rfl, q2⟩ := str_of1 i2 q2
    refine hb.sim I2 H2 σ τ _ R _ l2.ok ((rp.later l1).later l2) q2 (fun v3 d3 I3 H3 q3 i3 l3 => ?_) (hx.later (l1.trans l2))
    obtain ⟨p', kvs', e', hp3, al3⟩ := is_dic ((i1.mono l2.ex).mono l3.ex)
    cases e'
    refine ⟨valV kvs' (.inr z), .inl ⟨kvs', .inr z, .inl (W.ex l3.ok _ _ hp3), rfl, rfl⟩, ?_⟩
    cases ev : valD _ (Sum.inr z : Key) with
    | none =>
      rw [ev] at q3
      rw [al3.val_none ev]
      exact hq v3 d3 I3 H3 q3 i3 ((l1.trans l2).trans l3)
    | some d =>
      rw [ev] at q3
      obtain ⟨w, e1, e2⟩ := al3.val ev
      rw [e1]
      exact hq w d I3 H3 q3 e2 ((l1.trans l2).trans l3)
  · exact q1.elim
/-- things.index(x): any data -/
def fLixD (x y : D) (Q : D → Prop) : Prop := match x with
  | .lst ds => ∃ (j : Nat) (z : D), cmpOk (.lst ds) ∧ cmpOk y ∧ ds[j]? = some z ∧ eqD z y = true ∧ (∀ m z', m < j → ds[m]? = some z' → eqD z' y = false) ∧ Q (.int (j : Nat))
  | _ => False
@[simp] theorem fLixD_lst {ds : List D} {y : D} {Q : D → Prop} : fLixD (.lst ds) y Q = ∃ (j : Nat) (z : D), cmpOk (.lst ds) ∧ cmpOk y ∧ ds[j]? = some z ∧ eqD z y = true ∧ (∀ m z', m < j → ds[m]? = some z' → eqD z' y = false) ∧ Q (.int (j : Nat)) := rfl
@[simp] def tdLixD (u : TDE) (v : TDA) : TDE := fun τ Q R => u τ (fun x => onLst x fun _ => v τ (fun ys => one1 ys fun y => fLixD x y Q) R) R
end
end D3
set_option Elab.async false
set_option linter.all false
set_option maxRecDepth 100000
set_option maxHeartbeats 4000000
namespace D3
open PySem PySem.Spec PySem.W PySem.Calls PyProof.Rows L2
section
variable {K : PySem.W.Frag} {W : Wd} {Wx : WX} {X : Cx} {o : Expr} {to : TE} {dO : TDE} {apos pos : Pos}
@[simp] def tdLow (t : TDE) : TDE := fun τ Q R => t τ (fun x => onStr x fun a => a.length ≤ 5592405 ∧ Q (.str (Txt.lower a))) R
@[simp] def tdUpp (t : TDE) : TDE := fun τ Q R => t τ (fun x => onStr x fun a => a.length ≤ 5592405 ∧ Q (.str (Txt.upper a))) R
/-- list(range(a, b)) -/
def fRgL (x y : D) (Q : List D → Prop) : Prop := match x, y with
  | .v (.int i), .v (.int j) => RgOk i j ∧ Q (numsD i (j - i).toNat)
  | _, _ => False
@[simp] theorem fRgL_int {i j : Int} {Q : List D → Prop} : fRgL (.v (.int i)) (.v (.int j)) Q = (RgOk i j ∧ Q (numsD i (j - i).toNat)) := rfl
@[simp] def tdListRg (t u : TDE) : TDO := fun τ Q R => t τ (fun x => u τ (fun y => fRgL x y Q) R) R
theorem isAll_rg {I : Hp} {i j : Int} : IsAll K I (rgV i j) (numsD i (j - i).toNat) := by
  have h := isAll_flatV (K := K) (I := I) (rgV i j)
  have e : (rgV i j).map D.v = numsD i (j - i).toNat := by
    unfold rgV numsD
    rw [List.map_map]
    rfl
  rw [e] at h
  exact h
theorem do_listRg {a b : Expr} {ta tb : TE} {da db : TDE} {p p2 pos2 : Pos} (hc : X.calm = true) (hm : X.mg "list" = none) (hmr : X.mg "range" = none) (ha : DE X K W Wx a ta da) (hb : DE X K W Wx b tb db) (hg : Gl X "list" := by rfl) (hgr : Gl X "range" := by rfl)
    (na : starEach [a, b] X.env = (false, eval a X.env) :: starEach [b] X.env := by rfl) (nb : starEach [b] X.env = (false, eval b X.env) :: starEach [] X.env := by rfl) (hp : (backTo pos2 (starEach [b] X.env)).any (·.1) = false := by rfl)
    (nl : starEach [.Call (.Name "range" p2) [a, b] [] pos2] X.env = (false, eval (.Call (.Name "range" p2) [a, b] [] pos2) X.env) :: starEach [] X.env := by rfl) :
    DO X K W Wx (.Call (.Name "list" p) [.Call (.Name "range" p2) [a, b] [] pos2] [] pos) (tLstRg (tRg2 ta tb)) (tdListRg da db) := by
  have hk := ha.k; subst hk
  refine ⟨rfl, pe_listRg hc hg hm (prg_2 hgr hmr ha.pe hb.pe na nb hp) nl, fun I H σ τ Q R G ok rp t hq hx => ha.sim I H σ τ _ R _ ok rp t (fun x dx I1 H1 q1 i1 l1 => hb.sim I1 H1 σ τ _ R _ l1.ok (rp.later l1) q1 (fun y dy I2 H2 q2 i2 l2 => ?_) (hx.later l1)) hx⟩
  unfold fRgL at q2
  split at q2
  · cases i2
    have i1 := i1
    cases i1
    exact ⟨_, _, rfl, rfl, q2.1, fun l hl => hq l _ _ I2 _ q2.2 (Later.back' (l1.trans l2) hl) upd_same (Same.non (W.ex l2.ok) hl) isAll_rg ((l1.trans l2).trans (Later.allocO l2.ok hl))⟩
  · exact q2.elim
end
end D3
set_option Elab.async false
set_option linter.all false
set_option maxRecDepth 100000
set_option maxHeartbeats 4000000
namespace D3
open PySem PySem.Spec PySem.W PySem.Calls PyProof.Rows L2
section
variable {K : PySem.W.Frag} {W : Wd} {Wx : WX} {X : Cx} {a b v o : Expr} {tv ta tb : TE} {dv da db : TDE} {tr : TA} {dr : TDA} {pos p kp : Pos}
def fMinDf (d z : D) (Q : D → Prop) : Prop := match d with
  | .lst xs => cmpOk (.lst xs) ∧ AlikeAll (toPys xs) ∧ (xs = [] → Q z) ∧ ∀ (i : Nat) d, xs[i]? = some d → (∀ e es, xs = e :: es → toPy d = minD (toPy e) (toPys es)) → Q d
  | _ => False
@[simp] theorem fMinDf_lst {xs : List D} {z : D} {Q : D → Prop} : fMinDf (.lst xs) z Q = (cmpOk (.lst xs) ∧ AlikeAll (toPys xs) ∧ (xs = [] → Q z) ∧ ∀ (i : Nat) d, xs[i]? = some d → (∀ e es, xs = e :: es → toPy d = minD (toPy e) (toPys es)) → Q d) := rfl
@[simp] def tdMinDf (u : TDA) (t : TDE) : TDE := fun τ Q R => u τ (fun ds => one1 ds fun x => t τ (fun d => fMinDf x d Q) R) R
/-- sorted(texts) -/
def fSortS : List D → (List D → Prop) → Prop := fun ds Q => match ds with
  | [.lst xs] => ∃ ks : List Str, xs = ks.map D.str ∧ ks.length < 64 ∧ ∀ ls : List Str, ls.Perm ks → sortedS ls = true → Q (ls.map D.str)
  | _ => False
@[simp] theorem fSortS_lst {xs : List D} {Q : List D → Prop} : fSortS [.lst xs] Q = ∃ ks : List Str, xs = ks.map D.str ∧ ks.length < 64 ∧ ∀ ls : List Str, ls.Perm ks → sortedS ls = true → Q (ls.map D.str) := rfl
theorem isAll_mstr {I : Hp} : ∀ {ks : List Str} {vs : List V}, IsAll K I vs (ks.map D.str) → vs = ks.map V.str
  | [], _, h => by cases h; rfl
  | k :: ks, _, h => by
    cases h with
    | cons a r =>
      cases a
      rw [isAll_mstr r]
      rfl
theorem isAll_mstr2 {I : Hp} : ∀ {ks : List Str}, IsAll K I (ks.map V.str) (ks.map D.str)
  | [] => .nil
  | k :: ks => .cons (.v _) isAll_mstr2
theorem CallSimO.sortS : CallSimO K W (rSortedS K) fSortS := fun I H vs ds Q G ok al q hq => by
  unfold fSortS at q
  split at q
  · obtain ⟨ks, rfl, l64, q⟩ := q
    obtain ⟨v, rfl, h⟩ := isAll1 al
    obtain ⟨p, ys, rfl, sq, al2⟩ := is_lst h
    cases isAll_mstr al2
    exact ⟨p, ks, rfl, (W.ex ok).seq sq, l64, fun zs l pm so hl => hq l _ _ I _ (q zs pm so) hl upd_same (Same.non (W.ex ok) hl) isAll_mstr2 (Later.allocO ok hl)⟩
  · exact q.elim
theorem do_sortS (hm : X.mg "sorted" = none) (ha : DA X K W Wx [a] tr dr) (hg : Gl X "sorted" := by rfl) (he : starEach [a] X.env = (false, eval a X.env) :: starEach [] X.env := by rfl) :
    DO X K W Wx (.Call (.Name "sorted" p) [a] [] pos) (tCB (rSortedS K) tr) (tdCBO fSortS dr) := by
  have hk := ha.k; subst hk
  exact ⟨rfl, pe_callB (cr_sortedS) hg hm (show bootBuiltins "sorted" = some (.builtin "sorted") by decide +kernel) ha.pa (by decide) (by decide) he rfl, .cb .sortS ha.sim⟩
/-- x[k], x a dict by texts of one's own -/
@[simp] def tdKix (i : Nat) (t : TDE) : TDE := fun τ Q R => ∃ gs, τ[i]? = some (some (.dk gs)) ∧ t τ (fun y => onStr y fun z => ∃ d, valD gs (.inr z) = some d ∧ Q d) R
/-- k in x, x a dict by texts -/
@[simp] def tdDin (t u : TDE) : TDE := fun τ Q R => t τ (fun y => u τ (fun x => onStr y fun z => onDic x fun gs => Q (.bl (valD gs (.inr z)).isSome)) R) R
end
/-- the entries that a comprehension makes, by texts -/
def compK (g : TDG) (tt : TDT) (tk tv : TDE) (vs : List Nat) (τ : Tau) : List D → List (Key × D) → (List (Key × D) → Prop) → Prop
  | [], acc, Q => Q acc
  | d :: ds, acc, Q => g d (wipeT τ vs) fun τ2 => tt τ2 (fun b => if b = true then tk τ2 (fun y => tv τ2 (fun z => onStr y fun k => compK g tt tk tv vs τ ds (putKD acc (.inr k) z) Q) (fun _ => False)) (fun _ => False) else compK g tt tk tv vs τ ds acc Q) (fun _ => False)
@[simp] def tdKc (ti : TDI) (G : TDG) (tt : TDT) (tk tv : TDE) (vs : List Nat) : TDX := fun τ Q R => ti τ (fun ds => ds.length ≤ sizeLine ∧ compK G tt tk tv vs τ ds [] fun gs => Q (.dk gs)) R
section
variable {K : PySem.W.Frag} {W : Wd} {Wx : WX} {X : Cx}
theorem ds_setLc2D {i : Nat} {y : Str} {py : Pos} {elt tg iter tg1 iter1 : Expr} {ifs ifs1 : List Expr} {scope : Scope} {own : List (Str × Nat)} {vs1 : List Nat} {pos spos : Pos} {wi wi1 : TI} {ti ti1 : TDI} {g g1 : TG} {gd gd1 : TDG} {idx idx1 : List Nat} {tt tt1 : TT} {td td1 : TDT} {te : TE} {de : TDE} (hc : X.calm = true) (hN : X.N.Nodup) (hi : DI X K W Wx tg iter wi ti) (ok : BlkOk X.N X.env.scope scope own)
    (hg : ∀ (s : Shared) (H : Hp) (C : Addr) (cl : List (Str × Addr)) (fp : List Addr), DG (X.blk s H scope (compEnvC scope cl C X.env) fp) K W tg g gd idx) (ht : ∀ (s : Shared) (H : Hp) (C : Addr) (cl : List (Str × Addr)) (fp : List Addr), DTs (X.blk s H scope (compEnvC scope cl C X.env) fp) K W ifs tt td)
    (hi1 : ∀ (s : Shared) (H : Hp) (C : Addr) (cl : List (Str × Addr)) (fp : List Addr), DI (X.blk s H scope (compEnvC scope cl C X.env) fp) K W (fun _ _ _ _ => False) tg1 iter1 wi1 ti1)
    (hg1 : ∀ (s : Shared) (H : Hp) (C : Addr) (cl : List (Str × Addr)) (fp : List Addr), DG (X.blk s H scope (compEnvC scope cl C X.env) fp) K W tg1 g1 gd1 idx1) (ht1 : ∀ (s : Shared) (H : Hp) (C : Addr) (cl : List (Str × Addr)) (fp : List Addr), DTs (X.blk s H scope (compEnvC scope cl C X.env) fp) K W ifs1 tt1 td1)
    (he : ∀ (s : Shared) (H : Hp) (C : Addr) (cl : List (Str × Addr)) (fp : List Addr), DE (X.blk s H scope (compEnvC scope cl C X.env) fp) K W (fun _ _ _ _ => False) elt te de)
    (hy : X.N[i]? = some y := by rfl) (hyl : X.env.scope.names.lookup y = some .local := by rfl) (hsw : swapsWith (.ListComp elt [⟨tg, iter, ifs, 0⟩, ⟨tg1, iter1, ifs1, 0⟩] scope pos) (some (.Name y py)) spos.line X.env = pure true := by exact sw_true rfl rfl rfl (by decide +kernel))
    (hv : ∀ i ∈ idx, i ∈ own.map (·.2) := by decide) (hv1 : ∀ i ∈ idx1, i ∈ vs1 := by decide) (hv2 : ∀ i ∈ vs1, i ∈ own.map (·.2) := by decide)
    (hs : ∀ x, foldedSetIterable iter X.env x = pure x := by intro _; rfl) (hs1 : ∀ env x, foldedSetIterable iter1 env x = pure x := by intro _ _; rfl) :
    DS X K W Wx (.Assign [.Name y py] (.ListComp elt [⟨tg, iter, ifs, 0⟩, ⟨tg1, iter1, ifs1, 0⟩] scope pos) spos) (tAsg (tLc2 wi g tt wi1 g1 tt1 te (own.map (·.2)) vs1) (gName i)) (tdAsg (fun τ Q R => tdLc2 ti gd td ti1 gd1 td1 de (own.map (·.2)) vs1 τ (fun ds => Q (.lst ds)) R) (gdName i)) := by
  have hk := hi.k; subst hk
  exact ⟨rfl, ps_setLc2 hc hN hy hyl hsw hi.pi ok hv2 (fun s H C cl fp => (hg s H C cl fp).pg) (fun s H C cl fp => (ht s H C cl fp).pt) (fun s H C cl fp => (hi1 s H C cl fp).pi) (fun s H C cl fp => (hg1 s H C cl fp).pg) (fun s H C cl fp => (ht1 s H C cl fp).pt) (fun s H C cl fp => (he s H C cl fp).pe) hs hs1,
    .asg (SimO.e (.lc2 hi.sim (hg { heap := { objs := #[] } } (fun _ => none) 0 [] []).sim (ht { heap := { objs := #[] } } (fun _ => none) 0 [] []).sim (hi1 { heap := { objs := #[] } } (fun _ => none) 0 [] []).sim (hg1 { heap := { objs := #[] } } (fun _ => none) 0 [] []).sim (ht1 { heap := { objs := #[] } } (fun _ => none) 0 [] []).sim (he { heap := { objs := #[] } } (fun _ => none) 0 [] []).sim hv hv1)) .name⟩
end
end D3
set_option Elab.async false
set_option linter.all false
set_option maxRecDepth 100000
set_option maxHeartbeats 4000000
namespace D3
open PySem PySem.Spec PySem.W PySem.Calls PyProof.Rows L2
section
variable {X : Cx} {K : PySem.W.Frag} {W : Wd} {Wx : WX} {fe e : Expr} {es : List Expr} {tf : TE} {df : TDE} {tr : TA} {dr : TDA} {pos : Pos} {n : Nat} {S : List (Addr × TF)}
@[simp] def tdSel (n : Nat) (S : List (Addr × TF)) (W : Wd) (u : TDE) (v : TDA) : TDE := fun τ Q R => u τ (fun d => ∃ p ∈ S, d = .v (.ref p.1) ∧ v τ (fun ds => ds.length = n ∧ p.2 W ds Q fun _ => False) R) R
end
section
variable {X : Cx} {K : PySem.W.Frag} {W : Wd} {Wx : WX} {a b : Expr} {ta tb : TE} {da db : TDE} {pos : Pos}
def fInAny (neg : Bool) : TD2 := fun x y Q => match y with
  | .lst ds => cmpOk x ∧ cmpOk (.lst ds) ∧ Q (.bl (neg ^^ ds.any fun z => eqD z x))
  | _ => False
@[simp] theorem fInAny_lst {neg : Bool} {x : D} {ds : List D} {Q : D → Prop} : fInAny neg x (.lst ds) Q = (cmpOk x ∧ cmpOk (.lst ds) ∧ Q (.bl (neg ^^ ds.any fun z => eqD z x))) := rfl
end
end D3
set_option Elab.async false
set_option linter.all false
namespace D3
open PySem L2
section
variable {K : PySem.W.Frag} {W : Wd} {Wx : WX} {X : Cx}
@[simp] def tdStill (i : Nat) (t : TDS) : TDS := fun τ E => ∃ ds, τ[i]? = some (some (.own ds)) ∧ t (τ.set i (some (.dat (.lst ds)))) E
end
end D3
set_option Elab.async false
set_option linter.all false
set_option maxRecDepth 100000
set_option maxHeartbeats 4000000
namespace D3
open PySem PySem.Spec PyProof.Rows L2
/-- how many steps of c lie below j -/
def stepsN (j c : Nat) : Nat := if j = 0 then 0 else (j - 1) / c + 1
section
variable {K : PySem.W.Frag} {W : Wd} {Wx : WX} {X : Cx} {a b c e : Expr} {p pos : Pos} {tr : TA} {dr : TDA} {tg : Expr}
def rngUp (ds : List D) (Q : List D → Prop) : Prop := match ds with
  | [.v (.int i), .v (.int j), .v (.int k)] => i = 0 ∧ 0 ≤ j ∧ j < 1073741824 ∧ 1 ≤ k ∧ k < 1073741824 ∧ Q (stepsD 0 k (stepsN j.toNat k.toNat))
  | _ => False
@[simp] theorem rngUp_int {i j k : Int} {Q : List D → Prop} : rngUp [.v (.int i), .v (.int j), .v (.int k)] Q = (i = 0 ∧ 0 ≤ j ∧ j < 1073741824 ∧ 1 ≤ k ∧ k < 1073741824 ∧ Q (stepsD 0 k (stepsN j.toNat k.toNat))) := rfl
@[simp] def idRUp (u : TDA) : TDI := fun τ Q R => u τ (fun ds => rngUp ds Q) R
end
section
variable {K : PySem.W.Frag} {W : Wd} {Wx : WX} {X : Cx} {e : Expr} {te : TE} {de : TDE} {pos : Pos}
def ipMul : TIp := fun x y H Q => ∃ i j, x = .int i ∧ y = .int j ∧ CMul i j ∧ Q (.int (i * j)) H
theorem ip_mul : PIp X .Mult ipMul := by
  intro pins s σ H x y v u Q I r1 r2 h
  obtain ⟨i, j, e1, e2, hc, q⟩ := h
  subst e1; subst e2
  obtain ⟨t, rfl⟩ := r1
  obtain ⟨t', rfl⟩ := r2
  exact imul_int ⟨.int _, H, I.tok _, ⟨_, rfl⟩, q⟩ hc.ok
theorem ds_augMul {i : Nat} {x : Str} {pos' : Pos} (hN : X.N.Nodup) (h : DE X K W Wx e te de) (hi : X.N[i]? = some x := by rfl) (hx : Loc X.env.scope x := by first | exact Or.inl rfl | exact Or.inr rfl)
    (hf : X.fn x = true ∨ X.env.scope.names.lookup x = some .local := by first | exact .inl rfl | exact .inr rfl | assumption) : DS X K W Wx (.AugAssign (.Name x pos') .Mult e pos) (tAug i te ipMul) (tdAug i de (fIC CMul fun i j => .int (i * j))) := by
  have hk := h.k; subst hk
  exact ⟨rfl, ps_aug hN hi hx h.pe ip_mul hf, .aug (fun I H x y dx dy Q G ok hx hy q hq => by
    obtain ⟨i, j, rfl, rfl, hc, q⟩ := int_of hx hy q
    exact ⟨i, j, rfl, rfl, hc, hq _ _ I H q (.v _) (Later.refl ok)⟩) h.sim⟩
end
end D3
set_option Elab.async false
set_option linter.all false
set_option maxRecDepth 100000
set_option maxHeartbeats 4000000
namespace D3
open PySem PySem.Spec PySem.W PySem.Calls PyProof.Rows L2
section
variable {X : Cx}
def rLtD (K : PySem.W.Frag) (f : PyData → PyData → Bool) : R2 := fun x y H Q => ∃ a b, Dp K H x a ∧ Dp K H y b ∧ SeqAt.shaped a = true ∧ alike a b = true ∧ a ≠ .none ∧ Q (.bl (f a b)) H
theorem op_gtD (hu : X.A.units + 64 < cLine) : OpR X (compareOp .Gt) (rLtD X.K fun a b => dataLt b a) := by
  intro pins s σ H x y v u Q I rx ry h
  obtain ⟨a, b, h1, h2, s1, al, nn, q⟩ := h
  obtain ⟨as, r1⟩ := Dp.reads I _ _ _ h1 rx
  obtain ⟨bs, r2⟩ := Dp.reads I _ _ _ h2 ry
  have hd := SeqAt.depth_of_shaped s1
  exact gt_data r1 r2 al nn (by have := Nat.min_le_left a.depth b.depth; omega) (fin_bl I q rfl)
end
section
variable {K : PySem.W.Frag} {W : Wd} {Wx : WX} {X : Cx} {a b : Expr} {ta tb : TE} {da db : TDE} {pos : Pos}
/-- data held against data -/
def fCmpD (f : PyData → PyData → Bool) : TD2 := fun x y Q => cmpOk x ∧ cmpOk y ∧ alike (toPy x) (toPy y) = true ∧ toPy x ≠ .none ∧ Q (.bl (f (toPy x) (toPy y)))
theorem R2Sim.cmpD {f : PyData → PyData → Bool} : R2Sim K W (rLtD K f) (fCmpD f) := fun I H x y dx dy Q G ok hx hy q hq => by
  obtain ⟨c1, c2, al, nn, q⟩ := q
  obtain ⟨p1, s1⟩ := cmp_dp (W.ex ok) hx c1
  obtain ⟨p2, s2⟩ := cmp_dp (W.ex ok) hy c2
  exact ⟨_, _, p1, p2, s1, al, nn, hq _ _ I H q (.v _) (.refl ok)⟩
abbrev fGtD : TD2 := fCmpD fun a b => dataLt b a
theorem dt_gtD (hu : X.A.units + 64 < cLine) (ha : DE X K W Wx a ta da) (hb : DE X K W Wx b tb db) : DT X K W Wx (.Compare a [.Gt] [b] pos) (tTest (tOp (rLtD K fun a b => dataLt b a) ta tb)) (tdTest (tdOp fGtD da db)) := by
  have hk := ha.k; subst hk
  exact dt_cmp (op_gtD hu) .cmpD ha hb (nomark _)
end
end D3
namespace D3
open PySem PySem.Spec PySem.W PySem.Calls PyProof.Rows L2
section
variable {X : Cx} {K : PySem.W.Frag} {W : Wd} {Wx : WX} {pos : Pos}
/-- x.setdefault(y, z), x a dict of one's own by texts, y and z flat -/
@[simp] def tdDropSetd (i j m : Nat) : TDS := fun τ E => ∃ gs kz vz, τ[i]? = some (some (.dk gs)) ∧ τ[j]? = some (some (.dat (.str kz))) ∧ τ[m]? = some (some (.dat (.v vz))) ∧ gs.length < sizeLine ∧
  ((valD gs (.inr kz)).isSome = true → E.nx τ) ∧ (valD gs (.inr kz) = none → E.nx (τ.set i (some (.dk (putKD gs (.inr kz) (.v vz))))))
end
end D3
namespace D3
open PySem PySem.Spec PySem.W PySem.Calls PyProof.Rows L2
section
variable {K : PySem.W.Frag} {W : Wd} {Wx : WX} {X : Cx} {a b : Expr} {ta tb : TE} {da db : TDE} {pos : Pos}
/-- x is True, of truths -/
def fIsB (n : Bool) : TD2 := fun x y Q => match x, y with
  | .v (.bl i), .v (.bl j) => Q (.bl (n ^^ decide (i = j)))
  | _, _ => False
@[simp] theorem fIsB_bl {n i j : Bool} {Q : D → Prop} : fIsB n (.v (.bl i)) (.v (.bl j)) Q = Q (.bl (n ^^ decide (i = j))) := rfl
end
end D3
namespace D3
open PySem PySem.Spec PySem.W PySem.Calls PyProof.Rows L2
section
variable {K : PySem.W.Frag} {W : Wd} {Wx : WX} {X : Cx} {a e : Expr} {te : TE} {de : TDE} {tr : TA} {dr : TDA} {pos p apos cpos : Pos}
def keyDt (k : L2.Key) : D := match k with
  | .inl i => .int i
  | .inr s => .str s
def keysK (gs : List (L2.Key × D)) : List D := gs.map fun x => keyDt x.1
@[simp] theorem keysK_nil : keysK [] = [] := rfl
@[simp] theorem keysK_cons {k : L2.Key} {d : D} {gs : List (L2.Key × D)} : keysK ((k, d) :: gs) = keyDt k :: keysK gs := rfl
def fListK (ds : List D) (Q : List D → Prop) : Prop := match ds with
  | [.dic gs] => Q (keysK gs)
  | _ => False
@[simp] theorem fListK_dic {gs : List (L2.Key × D)} {Q : List D → Prop} : fListK [.dic gs] Q = Q (keysK gs) := rfl
end
end D3
set_option Elab.async false
set_option linter.all false
set_option maxRecDepth 100000
set_option maxHeartbeats 4000000
namespace D3
open PySem PySem.Spec PySem.W PySem.Calls PyProof.Rows L2
def putAll (gs hs : List (TK × D)) : List (TK × D) := hs.foldl (fun acc p => putT acc p.1 p.2) gs
/-- dict(xs), xs of pairs of a tuple and a thing -/
def fDictT (g : PGw) : FD := fun ds Q => match ds with
  | [.lst xs] => ∃ gs : List (TK × D), xs = gs.map (fun h => .tup [dOfT h.1, h.2]) ∧ Q (.dt g (putAll [] gs))
  | _ => False
@[simp] theorem fDictT_lst {g : PGw} {xs : List D} {Q : D → Prop} : fDictT g [.lst xs] Q = ∃ gs : List (TK × D), xs = gs.map (fun h => .tup [dOfT h.1, h.2]) ∧ Q (.dt g (putAll [] gs)) := rfl
end D3
set_option Elab.async false
set_option linter.all false
set_option maxRecDepth 100000
set_option maxHeartbeats 4000000
namespace D3
open PySem PySem.Spec PySem.W PySem.Calls PyProof.Rows L2
theorem IsT.merge {K : PySem.W.Frag} {I : Hp} : ∀ {us ws : DtE} {gs hs : List (TK × D)}, IsT K I us gs → IsT K I ws hs → IsT K I (storedAllH us ws) (D3.putAll gs hs)
  | _, _, _, _, h, .nil => h
  | us, _, gs, _, h, .cons (k := k) (b := b) (u := u) (us := ws) (d := d) (ds := hs) s r i t => by
    show IsT K I (storedAllH (storedH us k b u) ws) (D3.putAll (putT gs k d) hs)
    exact IsT.merge (h.put s r i) t
section
variable {X : Cx} {K : PySem.W.Frag} {W : Wd} {Wx : WX} {g : PGw}
/-- name = dict(xs), the dict one's own -/
@[simp] def tdDictX (g : PGw) (u : TDA) : TDX := fun τ Q R => u τ (fun ds => ∃ gs : List (TK × D), ds = [.lst (gs.map fun h => .tup [dOfT h.1, h.2])] ∧ Q (.dt g (putAll [] gs))) R
@[simp] def tdTupd (g : PGw) (i : Nat) (u : TDE) : TDS := fun τ E => ∃ gs, τ[i]? = some (some (.dt g gs)) ∧ u τ (fun d => ∃ hs, d = .dt g hs ∧ (gs ≠ [] ∨ hs = []) ∧ gs.length + hs.length ≤ sizeLine ∧ E.nx (τ.set i (some (.dt g (putAll gs hs))))) (fun x => E.ex x τ)
end
section
variable {X : Cx} {K : PySem.W.Frag} {W : Wd} {Wx : WX}
theorem Rep.frzAtT {I H : Hp} {σ : L2.St} {τ : Tau} {i : Nat} {p : Addr} {g : PGw} {ob : Obj} {us : DtE} {gs : List (TK × D)} (rp : Rep K W I H σ τ) (e : τ[i]? = some (some (.dt g gs))) (hv : σ[i]? = some (some (.ref p))) (hp : H p = some (pinO p ob)) (hi : I p = none) (hm : (p == sysModules) = false) (hob : DtOb g ob us) (al : IsT K I us gs) :
    Rep K W (upd I p (pinO p ob)) H σ (τ.set i (some (.dat (.dt g gs)))) := by
  have sm : Same I (upd I p (pinO p ob)) := Same.new hi
  refine ⟨by simpa using rp.len, fun j s f => ?_, fun j l s t v w a f1 f2 f3 f4 o1 o2 => ?_⟩
  · rcases getSet f with ⟨rfl, _, rfl⟩ | ⟨hj, f⟩
    · exact ⟨.ref p, hv, .dt upd_same hm hob (al.mono sm)⟩
    · obtain ⟨w, g1, g2⟩ := rp.at_ j s f
      refine ⟨w, g1, g2.keep sm (fun a o => ?_) fun a _ => rfl⟩
      have : a ≠ p := fun z => by subst z; exact hj (rp.inj i j _ s _ w a e f hv g1 rfl o)
      rw [upd_ne this]
      exact (g2.owned o).1
  · rcases getSet f1 with ⟨rfl, _, rfl⟩ | ⟨_, g1⟩
    · exact o1.elim
    · rcases getSet f2 with ⟨rfl, _, rfl⟩ | ⟨_, g2⟩
      · exact o2.elim
      · exact rp.inj j l s t v w a g1 g2 f3 f4 o1 o2
/-- one dict of one's own stands still from here on -/
@[simp] def tdStillT (g : PGw) (i : Nat) (t : TDS) : TDS := fun τ E => ∃ gs, τ[i]? = some (some (.dt g gs)) ∧ t (τ.set i (some (.dat (.dt g gs)))) E
theorem SimS.stillT {g : PGw} {i : Nat} {ts : L2.TS} {t : TDS} (h : SimS K W Wx ts t) : SimS K W Wx ts (tdStillT g i t) := fun I H σ τ E D ok rp t r => by
  obtain ⟨gs, e, t⟩ := t
  obtain ⟨v, h1, h2⟩ := rp.at_ i _ e
  obtain ⟨p, ob, us, rfl, hp, hi, hf, hm, hob, al⟩ := h2
  have ok' : W.ok (upd I p (pinO p ob)) H := W.fz ok hi hf hp
  have rp' := rp.frzAtT e h1 hp hi hm hob al
  refine h _ H σ _ E D ok' rp' t (r.later ⟨Same.new hi, ok', fun _ _ _ _ q => q, fun a n q => ?_, fun a o => ?_⟩)
  · by_cases z : a = p
    · subst z
      exact .inr ⟨i, _, _, e, h1, rfl⟩
    · rw [upd_ne z] at q
      exact absurd n q
  · refine ⟨rp'.free a o, ?_⟩
    obtain ⟨j, s, w, f1, f2, o⟩ := o
    rcases getSet f1 with ⟨rfl, _, rfl⟩ | ⟨hj, f⟩
    · exact o.elim
    · exact .inr ⟨j, s, w, f, f2, o⟩
theorem DS.stillT (g : PGw) {s : Stmt} {ts : L2.TS} {t : TDS} (i : Nat) (h : DS X K W Wx s ts t) : DS X K W Wx s ts (tdStillT g i t) := by
  have hk := h.k; subst hk
  exact ⟨rfl, h.ps, h.sim.stillT⟩
end
end D3
set_option Elab.async false
set_option linter.all false
set_option maxRecDepth 100000
set_option maxHeartbeats 4000000
namespace D3
open PySem PySem.Spec PySem.W PySem.Calls PyProof.Rows L2
abbrev KL := List (L2.Key × Addr × List D)
def klMk (gs : KL) (k : L2.Key) (q : Addr) : KL := match gs with
  | [] => [(k, q, [])]
  | g :: r => if g.1 = k then g :: r else g :: klMk r k q
def klPut (gs : KL) (k : L2.Key) (d : D) : KL := match gs with
  | [] => []
  | g :: r => if g.1 = k then (g.1, g.2.1, g.2.2 ++ [d]) :: r else g :: klPut r k d
theorem klPut_V {gs : KL} {k : L2.Key} {d : D} : klV (klPut gs k d) = klV gs := by
  induction gs with
  | nil => rfl
  | cons g r ih =>
    unfold klPut
    split
    · rfl
    · show _ :: klV (klPut r k d) = _ :: klV r
      rw [ih]
theorem klPut_A {gs : KL} {k : L2.Key} {d : D} : (klPut gs k d).map (·.2.1) = gs.map (·.2.1) := by
  induction gs with
  | nil => rfl
  | cons g r ih =>
    unfold klPut
    split
    · rfl
    · show _ :: (klPut r k d).map (·.2.1) = _ :: r.map (·.2.1)
      rw [ih]
theorem klMk_old {gs : KL} {k : L2.Key} {q : Addr} {u : V} (h : valV (klV gs) k = some u) : klMk gs k q = gs := by
  induction gs with
  | nil => cases h
  | cons g r ih =>
    unfold klMk
    by_cases e : g.1 = k
    · rw [if_pos e]
    · rw [if_neg e, ih (by rw [← h]; exact (valV_neg (p := (g.1, V.ref g.2.1)) e).symm)]
theorem klMk_new {gs : KL} {k : L2.Key} {q : Addr} (h : valV (klV gs) k = none) : klMk gs k q = gs ++ [(k, q, [])] := by
  induction gs with
  | nil => rfl
  | cons g r ih =>
    unfold klMk
    by_cases e : g.1 = k
    · rw [show valV (klV (g :: r)) k = some (V.ref g.2.1) from valV_pos (p := (g.1, V.ref g.2.1)) e] at h
      cases h
    · rw [if_neg e, ih (by rw [← h]; exact (valV_neg (p := (g.1, V.ref g.2.1)) e).symm)]
      rfl
theorem klV_app {as bs : KL} : klV (as ++ bs) = klV as ++ klV bs := List.map_append
theorem putK_new {gs : List (L2.Key × V)} {k : L2.Key} {v : V} (h : valV gs k = none) : putK gs k v = gs ++ [(k, v)] := by
  unfold putK
  rw [if_neg]
  intro z
  obtain ⟨p, hp, e⟩ := List.any_eq_true.mp z
  have e := of_decide_eq_true e
  unfold valV at h
  rw [Option.map_eq_none_iff, List.find?_eq_none] at h
  exact h p hp (decide_eq_true e)
theorem klMk_val {gs : KL} {k : L2.Key} {q : Addr} (h : valV (klV gs) k = none) : valV (klV (klMk gs k q)) k = some (.ref q) := by
  rw [klMk_new h, klV_app]
  induction gs with
  | nil => exact valV_pos rfl
  | cons g r ih =>
    by_cases e : g.1 = k
    · rw [show valV (klV (g :: r)) k = some (V.ref g.2.1) from valV_pos (p := (g.1, V.ref g.2.1)) e] at h
      cases h
    · rw [show valV (klV (g :: r)) k = valV (klV r) k from valV_neg (p := (g.1, V.ref g.2.1)) e] at h
      exact (valV_neg (p := (g.1, V.ref g.2.1)) e).trans (ih h)
section
variable {X : Cx} {K : PySem.W.Frag} {W : Wd} {Wx : WX} {pos : Pos}
theorem klPut_at {I H : Hp} {k : L2.Key} {u : V} : ∀ {gs : KL}, (gs.map (·.2.1)).Nodup → (∀ g ∈ gs, ∃ vs, H g.2.1 = some (.lst vs) ∧ I g.2.1 = none ∧ W.free g.2.1 ∧ IsAll K I vs g.2.2) → valV (klV gs) k = some u →
    ∃ g ∈ gs, ∃ xs, u = .ref g.2.1 ∧ H g.2.1 = some (.lst xs) ∧ xs.length = g.2.2.length ∧ ∀ y d, Is K I y d → ∀ g' ∈ klPut gs k d, ∃ vs, (upd H g.2.1 (.lst (xs ++ [y]))) g'.2.1 = some (.lst vs) ∧ I g'.2.1 = none ∧ W.free g'.2.1 ∧ IsAll K I vs g'.2.2
  | [], _, _, h => by cases h
  | g :: r, nd, al, h => by
    rw [List.map_cons, List.nodup_cons] at nd
    by_cases e : g.1 = k
    · rw [show valV (klV (g :: r)) k = some (V.ref g.2.1) from valV_pos (p := (g.1, V.ref g.2.1)) e] at h
      cases h
      obtain ⟨xs, h1, h2, h3, h4⟩ := al g List.mem_cons_self
      refine ⟨g, List.mem_cons_self, xs, rfl, h1, h4.length, fun y d i g' hg' => ?_⟩
      unfold klPut at hg'
      rw [if_pos e] at hg'
      rcases List.mem_cons.mp hg' with rfl | hg'
      · exact ⟨_, upd_same, h2, h3, h4.append (.cons i .nil)⟩
      · obtain ⟨vs, k1, k2, k3, k4⟩ := al g' (List.mem_cons_of_mem _ hg')
        have ne : g'.2.1 ≠ g.2.1 := fun z => nd.1 (z ▸ List.mem_map_of_mem hg')
        exact ⟨vs, by rw [upd_ne ne]; exact k1, k2, k3, k4⟩
    · rw [show valV (klV (g :: r)) k = valV (klV r) k from valV_neg (p := (g.1, V.ref g.2.1)) e] at h
      obtain ⟨g0, hg0, xs, e1, h1, hl, f⟩ := klPut_at nd.2 (fun x hx => al x (List.mem_cons_of_mem _ hx)) h
      refine ⟨g0, List.mem_cons_of_mem _ hg0, xs, e1, h1, hl, fun y d i g' hg' => ?_⟩
      unfold klPut at hg'
      rw [if_neg e] at hg'
      rcases List.mem_cons.mp hg' with rfl | hg'
      · obtain ⟨vs, k1, k2, k3, k4⟩ := al g' List.mem_cons_self
        have ne : g'.2.1 ≠ g0.2.1 := fun z => nd.1 (z ▸ List.mem_map_of_mem hg0)
        exact ⟨vs, by rw [upd_ne ne]; exact k1, k2, k3, k4⟩
      · exact f y d i g' hg'
theorem setSame {τ : Tau} {i : Nat} {s : SD} (e : τ[i]? = some (some s)) : τ.set i (some s) = τ := by
  refine List.ext_getElem? fun j => ?_
  by_cases h : i = j
  · subst h
    rw [List.getElem?_set_self (List.getElem?_eq_some_iff.mp e).1, e]
  · rw [List.getElem?_set_ne h]
/-- slot i's thing takes a new one in -/
theorem Rep.grown {I0 H0 I H : Hp} {σ : L2.St} {τ : Tau} {i : Nat} {s s' : SD} {v : V} {p q : Addr} {u : HO} (rp0 : Rep K W I0 H0 σ τ) (l0 : Later W I0 H0 I H) (e : τ[i]? = some (some s)) (hv : σ[i]? = some (some v)) (o : OwnV v s p) (hq0 : H0 q = none) (hqW : W.free q)
    (h : At K W I (upd H p u) v s') (k : ∀ a, OwnV v s' a → OwnV v s a ∨ a = q) :
    Rep K W I (upd H p u) σ (τ.set i (some s')) ∧ Lat W (Own σ τ) I0 H0 (Own σ (τ.set i (some s'))) I (upd H p u) := by
  have rp := rp0.later l0
  have hiτ : i < τ.length := (List.getElem?_eq_some_iff.mp e).1
  have nq : ¬ Own σ τ q := fun z => by
    obtain ⟨_, _, u, hu⟩ := rp0.owned z
    rw [hq0] at hu; cases hu
  have own_same : ∀ {j : Nat} {t : SD} {w : V} {a : Addr}, (τ.set i (some s'))[j]? = some (some t) → σ[j]? = some (some w) → OwnV w t a → (∃ t', τ[j]? = some (some t') ∧ OwnV w t' a) ∨ (a = q ∧ j = i) := fun {j t w a} e1 e2 o1 => by
    rcases getSet e1 with ⟨rfl, _, rfl⟩ | ⟨hj, e1⟩
    · rw [hv] at e2
      cases e2
      rcases k a o1 with o1 | rfl
      · exact .inl ⟨s, e, o1⟩
      · exact .inr ⟨rfl, rfl⟩
    · exact .inl ⟨t, e1, o1⟩
  have os : ∀ a, Own σ (τ.set i (some s')) a → Own σ τ a ∨ a = q := fun a ⟨j, t, w, e1, e2, o1⟩ => by
    rcases own_same e1 e2 o1 with ⟨t', e1, o1⟩ | ⟨z, _⟩
    · exact .inl ⟨j, t', w, e1, e2, o1⟩
    · exact .inr z
  have ip : Own σ τ p := ⟨i, s, v, e, hv, o⟩
  obtain ⟨hi, hf, _, hp⟩ := rp.owned ip
  refine ⟨⟨by rw [List.length_set]; exact rp.len, fun j t q => ?_, fun j l t t' w w' a e1 e2 e3 e4 o1 o2 => ?_⟩, ⟨l0.ex, W.mu l0.ok hi hf, fun a o f n q => ?_, fun a n q => (l0.nw a n q).elim .inl fun z => z.elim, fun a o => ?_⟩⟩
  · rcases getSet q with ⟨rfl, _, rfl⟩ | ⟨hj, q⟩
    · exact ⟨v, hv, h⟩
    · obtain ⟨w, h1, h2⟩ := rp.at_ j t q
      refine ⟨w, h1, h2.keep (Same.refl I) (fun a o => (h2.owned o).1) fun a o1 => upd_ne fun z => ?_⟩
      subst z
      exact hj (rp.inj i j s t v w a e q hv h1 o o1)
  · rcases own_same e1 e3 o1 with ⟨u1, f1, o3⟩ | ⟨rfl, rfl⟩
    · rcases own_same e2 e4 o2 with ⟨u2, f2, o4⟩ | ⟨rfl, rfl⟩
      · exact rp.inj j l u1 u2 w w' a f1 f2 e3 e4 o3 o4
      · exact absurd ⟨j, u1, w, f1, e3, o3⟩ nq
    · rcases own_same e2 e4 o2 with ⟨u2, f2, o4⟩ | ⟨_, rfl⟩
      · exact absurd ⟨l, u2, w', f2, e4, o4⟩ nq
      · rfl
  · have ne : a ≠ p := fun z => by
      subst z
      exact n ip
    rw [upd_ne ne]
    exact l0.fr a o f (fun z => z) q
  · rcases os a o with o | rfl
    · exact ⟨rp.free a o, .inr o⟩
    · exact ⟨hqW, .inl hq0⟩
/-- x = {}, that will hold lists -/
@[simp] def tdNewKl (i : Nat) : TDS := fun τ E => E.nx (τ.set i (some (.kl [])))
theorem SimS.newKl {i : Nat} : SimS K W Wx (tAsg tDNewK (gName i)) (tdNewKl i) := fun I H σ τ E D ok rp t r p hp => by
  have hn : ¬ Own σ τ p := not_own_new rp hp
  have hf : W.free p := W.fr ok hp
  have l1 : Later W I H I (upd H p (.dK [])) := Later.allocO ok hp
  refine r.nx _ _ I _ t ((rp.later l1).set_new (s := .kl []) ⟨p, rfl, upd_same, Same.non (W.ex ok) hp, hf, List.nodup_nil, fun _ z => nomatch z⟩ fun a o => by
    rcases o with o | ⟨_, z, _⟩
    · cases o; exact hn
    · cases z) ⟨l1.ex, l1.ok, fun a o f _ q => l1.fr a o f (fun z => z) q, fun a n q => (l1.nw a n q).elim .inl fun z => z.elim, fun a o => ?_⟩
  rcases o.set with o | o
  · rcases o with o | ⟨_, z, _⟩
    · cases o
      exact ⟨hf, .inl hp⟩
    · cases z
  · exact ⟨rp.free a o, .inr o⟩
theorem ds_newKl {i : Nat} {x : Str} {pos' p2 : Pos} (hN : X.N.Nodup) (hi : X.N[i]? = some x := by rfl) (hx : Loc X.env.scope x := by first | exact Or.inl rfl | exact Or.inr rfl) (hs : swapsWith (.Dict [] [] p2) (some (.Name x pos')) pos.line X.env = pure false := by rfl)
    (hf : X.fn x = true ∨ X.env.scope.names.lookup x = some .local := by first | exact .inl rfl | exact .inr rfl | assumption) (hk : X.K = K := by rfl) : DS X K W Wx (.Assign [.Name x pos'] (.Dict [] [] p2) pos) (tAsg tDNewK (gName i)) (tdNewKl i) := by
  subst hk
  exact ⟨rfl, ps_set hN hi hx pe_dnewK hs hf, .newKl⟩
/-- x.setdefault(k, []).append(v) -/
@[simp] def tdKlApp (i : Nat) (tk tv : TDE) : TDS := fun τ E => ∃ gs, τ[i]? = some (some (.kl gs)) ∧ gs.length < sizeLine ∧ tk τ (fun kd => ∃ k : L2.Key, kd = .v (kV k) ∧ ∀ q,
  tv (τ.set i (some (.kl (klMk gs k q)))) (fun d => (∀ g ∈ klMk gs k q, g.2.2.length < sizeLine) ∧ E.nx (τ.set i (some (.kl (klPut (klMk gs k q) k d))))) (fun _ => False)) (fun x => E.ex x τ)
theorem SimS.klApp {i : Nat} {tk tv : TE} {dk dv : TDE} (hk : SimE K W Wx tk dk) (hv : SimE K W Wx tv dv) : SimS K W Wx (tDrop (tBM K "list" rAppend (tBM K "dict" rSetd (tVar i) (tCons tk (tCons (tLst tNil) tNil))) (tCons tv tNil))) (tdKlApp i dk dv) := fun I H σ τ E D ok rp t r => by
  obtain ⟨gs, e, hl, t⟩ := t
  obtain ⟨v0, h0, p, rfl, hp, hi, hf, nd, al⟩ := rp.at_ i _ e
  refine ⟨_, h0, tyV_dk hp, hk I H σ τ _ _ _ ok rp t (fun v d I1 H1 q1 i1 l1 => ?_) (r.xok rp)⟩
  obtain ⟨k, rfl, q1⟩ := q1
  obtain rfl : v = kV k := is_v i1
  refine ⟨by show 0 ≤ sizeLine; decide, fun q hq => ?_⟩
  have l2 : Later W I1 H1 I1 (upd H1 q (.lst [])) := Later.allocO l1.ok hq
  have l := l1.trans l2
  have rp2 := rp.later l
  have q1 := q1 q
  have tail : ∀ (I2 H2 : Hp) (gs2 : KL) (u : V), (τ.set i (some (.kl gs2))) = (τ.set i (some (.kl (klMk gs k q)))) → valV (klV gs2) k = some u → W.ok I2 H2 → Rep K W I2 H2 σ (τ.set i (some (.kl gs2))) → Lat W (Own σ τ) I H (Own σ (τ.set i (some (.kl gs2)))) I2 H2 →
      tyV K "list" u H2 ∧ tCons tv tNil σ H2 fun xs H3 => rAppend u xs H3 fun _ H4 => D.nx σ H4 := fun I2 H2 gs2 u ec hu ok2 rq lq => by
    have hil : i < τ.length := (List.getElem?_eq_some_iff.mp e).1
    have e2 : (τ.set i (some (SD.kl gs2)))[i]? = some (some (.kl gs2)) := List.getElem?_set_self hil
    have eg : gs2 = klMk gs k q := by
      have := e2.symm.trans ((congrArg (fun z : Tau => z[i]?) ec).trans (List.getElem?_set_self hil))
      cases this
      rfl
    subst eg
    obtain ⟨v1, h1, p1, rfl, _, _, _, nd1, al1⟩ := rq.at_ i _ e2
    obtain ⟨g0, hg0, xs0, rfl, hx0, _, _⟩ := klPut_at nd1 al1 hu
    refine ⟨tyV_lst hx0, hv I2 H2 σ _ _ _ _ ok2 rq q1 (fun y d I3 H3 q3 i3 l3 => ?_) fun _ _ _ _ _ z => z.elim⟩
    have rq3 := rq.later l3
    obtain ⟨v1', h1', p1', ep, hp3, hi3, hf3, nd3, al3⟩ := rq3.at_ i _ e2
    subst ep
    obtain ⟨g, hg, xs, eu, hx, hxl, fa⟩ := klPut_at nd3 al3 hu
    have ga : g.2.1 = g0.2.1 := by injection eu with eu; exact eu.symm
    have ne : p1' ≠ g.2.1 := ne_of hp3 hx (by intro z; cases z)
    obtain ⟨rp4, la⟩ := rq3.changed (p := g.2.1) (u := .lst (xs ++ [y])) (s' := .kl (klPut (klMk gs k q) k d)) l3.ok e2 h1' (.inr ⟨g, hg, rfl⟩)
      ⟨p1', rfl, by rw [upd_ne ne, klPut_V]; exact hp3, hi3, hf3, by rw [klPut_A]; exact nd3, fa y d i3⟩ fun a o => by
        rcases o with o | ⟨g', hg', rfl⟩
        · exact .inl o
        · have : g'.2.1 ∈ (klMk gs k q).map (·.2.1) := by rw [← klPut_A (k := k) (d := d)]; exact List.mem_map_of_mem hg'
          obtain ⟨g2, hg2, e2⟩ := List.mem_map.mp this
          exact .inr ⟨g2, hg2, e2⟩
    refine ⟨g.2.1, xs, y, by rw [ga], rfl, hx, by rw [hxl]; exact q3.1 g hg, ?_⟩
    rw [List.set_set] at rp4 la
    exact r.nx _ _ _ _ q3.2 rp4 ((lq.trans (rq.own l3)).trans la)
  obtain ⟨v2, h2, p2, ep, hp2, hi2, hf2, nd2, al2⟩ := rp2.at_ i _ e
  subst ep
  rw [h0] at h2
  cases h2
  refine ⟨p, klV gs, k, .ref q, rfl, rfl, hp2, by unfold klV; rw [List.length_map]; exact hl, fun u hu => ?_, fun hn => ?_⟩
  · have em := klMk_old (q := q) hu
    have es := setSame e
    refine tail I1 _ gs u (by rw [em]) hu l.ok (by rw [es]; exact rp2) ?_
    rw [es]
    exact rp.own l
  · have em := klMk_new (q := q) hn
    have hq0 : H q = none := l1.back' hq
    have fq : W.free q := W.fr l1.ok hq
    have iq : I1 q = none := Same.non (W.ex l1.ok) hq
    have npq : p ≠ q := fun z => by
      rw [z] at hp
      rw [hq0] at hp
      cases hp
    have hnd : ((klMk gs k q).map (·.2.1)).Nodup := by
      rw [em, List.map_append, List.nodup_append]
      refine ⟨nd2, by simp, fun a ha b hb => ?_⟩
      obtain ⟨g, hg, rfl⟩ := List.mem_map.mp ha
      have hb : b = q := by simpa using hb
      subst hb
      intro z
      obtain ⟨vs, h5, _⟩ := al g hg
      rw [z, hq0] at h5
      cases h5
    have hal : ∀ g ∈ klMk gs k q, ∃ vs, (upd (upd H1 q (.lst [])) p (.dK (putK (klV gs) k (.ref q)))) g.2.1 = some (.lst vs) ∧ I1 g.2.1 = none ∧ W.free g.2.1 ∧ IsAll K I1 vs g.2.2 := fun g hg => by
      rw [em] at hg
      rcases List.mem_append.mp hg with hg | hg
      · obtain ⟨vs, h5, h6, h7, h8⟩ := al2 g hg
        have : g.2.1 ≠ p := fun z => by
          rw [z, hp2] at h5
          cases h5
        exact ⟨vs, by rw [upd_ne this]; exact h5, h6, h7, h8⟩
      · obtain rfl := List.mem_singleton.mp hg
        exact ⟨[], by rw [upd_ne (Ne.symm npq)]; exact upd_same, iq, fq, .nil⟩
    have hown : ∀ a, OwnV (.ref p) (.kl (klMk gs k q)) a → OwnV (.ref p) (.kl gs) a ∨ a = q := fun a o => by
      rcases o with o | ⟨g, hg, rfl⟩
      · exact .inl (.inl o)
      · rw [em] at hg
        rcases List.mem_append.mp hg with hg | hg
        · exact .inl (.inr ⟨g, hg, rfl⟩)
        · obtain rfl := List.mem_singleton.mp hg
          exact .inr rfl
    have hat : At K W I1 (upd (upd H1 q (.lst [])) p (.dK (putK (klV gs) k (.ref q)))) (.ref p) (.kl (klMk gs k q)) := ⟨p, rfl, by rw [upd_same, em, klV_app, putK_new hn]; rfl, hi2, hf2, hnd, hal⟩
    obtain ⟨rp4, la⟩ := Rep.grown (p := p) (q := q) (u := .dK (putK (klV gs) k (.ref q))) (s' := .kl (klMk gs k q)) rp l e h0 (.inl rfl) hq0 fq hat hown
    exact tail I1 _ (klMk gs k q) (.ref q) rfl (klMk_val hn) la.ok rp4 la
theorem ds_klApp (i : Nat) {x : Str} {p1 apos1 apos2 lp cpos1 cpos2 : Pos} {ke ve : Expr} {tk tv : TE} {dk dv : TDE} (hke : DE X K W Wx ke tk dk) (hve : DE X K W Wx ve tv dv) (hN : X.N[i]? = some x := by rfl) (hv : Vis X.env.scope x := by first | exact Or.inl rfl | exact Or.inr (Or.inl rfl) | exact Or.inr (Or.inr rfl)) (hd : (x == ("__debug__" : Str)) = false := by decide) (hcd : (x == ("__classdict__" : Str)) = false := by decide)
    (hbase : attributeBase (.Name x p1) "setdefault" X.env (eval (.Name x p1) X.env) = eval (.Name x p1) X.env := by rfl)
    (hfew : ((backTo cpos1 (starEach [ke, .List [] lp] X.env)).all (fun x => !x.1) && (backToKw cpos1 (keywordEach [] X.env)).all (fun x => x.1.isSome) && decide ([ke, Expr.List [] lp].length + ([] : List Keyword).length + (if ([] : List Keyword).isEmpty then 0 else 1) < 30)) = true := by rfl)
    (hline : (apos1.endLine == cpos1.line) = true := by rfl) (hs : starEach [ke, .List [] lp] X.env = (false, eval ke X.env) :: starEach [.List [] lp] X.env := by rfl) (hpl : (backTo cpos1 (starEach [.List [] lp] X.env)).any (·.1) = false := by rfl)
    (hs2 : starEach [.List [] lp] X.env = (false, eval (.List [] lp) X.env) :: starEach [] X.env := by rfl)
    (hbase2 : attributeBase (.Call (.Attribute (.Name x p1) "setdefault" apos1) [ke, .List [] lp] [] cpos1) "append" X.env (eval (.Call (.Attribute (.Name x p1) "setdefault" apos1) [ke, .List [] lp] [] cpos1) X.env) = eval (.Call (.Attribute (.Name x p1) "setdefault" apos1) [ke, .List [] lp] [] cpos1) X.env := by rfl)
    (hfew2 : ((backTo cpos2 (starEach [ve] X.env)).all (fun x => !x.1) && (backToKw cpos2 (keywordEach [] X.env)).all (fun x => x.1.isSome) && decide ([ve].length + ([] : List Keyword).length + (if ([] : List Keyword).isEmpty then 0 else 1) < 30)) = true := by rfl)
    (hline2 : (apos2.endLine == cpos2.line) = true := by rfl) (hs3 : starEach [ve] X.env = (false, eval ve X.env) :: starEach [] X.env := by rfl) (hpl2 : (backTo cpos2 (starEach [] X.env)).any (·.1) = false := by rfl)
    (hsw : swapsWith (.Call (.Attribute (.Call (.Attribute (.Name x p1) "setdefault" apos1) [ke, .List [] lp] [] cpos1) "append" apos2) [ve] [] cpos2) none pos.line X.env = pure false := by rfl) :
    DS X K W Wx (.Expr (.Call (.Attribute (.Call (.Attribute (.Name x p1) "setdefault" apos1) [ke, .List [] lp] [] cpos1) "append" apos2) [ve] [] cpos2) pos) (tDrop (tBM K "list" rAppend (tBM K "dict" rSetd (tVar i) (tCons tk (tCons (tLst tNil) tNil))) (tCons tv tNil))) (tdKlApp i dk dv) := by
  have hk := hke.k; subst hk
  have pc := pe_bm PySem.F.plainAttrs_dict PySem.F.slot_dict_setdefault PySem.F.type_dict_setdefault mt_setd (pe_var hN hv hd hcd) (pa_cons hke.pe (pa_cons (pe_lst pa_nil) pa_nil hs2) hs) hbase hfew hline hs hpl
  exact ⟨rfl, ps_expr (pe_bm PySem.F.plainAttrs_list PySem.F.slot_list_append PySem.F.type_list_append mt_append pc (pa_cons hve.pe pa_nil hs3) hbase2 hfew2 hline2 hs3 hpl2) hsw, .klApp hke.sim hve.sim⟩
end
end D3
set_option Elab.async false
set_option linter.all false
set_option maxRecDepth 100000
set_option maxHeartbeats 4000000
namespace D3
open PySem PySem.Spec PyProof.Rows L2
/-- the world in which the instance at p is somebody's, and stays -/
def objW (W : Wd) (p C dx : Addr) (ns : List Str) (ws : List V) : Wd where
  ok I H := W.ok I H ∧ I p = none ∧ H p = some (.ins C dx (ns.zip ws))
  free a := W.free a ∧ a ≠ p
  ex h := W.ex h.1
  alo := fun {I H q o} h n => ⟨W.alo h.1 n, h.2.1, by
    have : p ≠ q := fun z => by rw [← z, h.2.2] at n; cases n
    rw [upd_ne this]; exact h.2.2⟩
  fr := fun {I H q} h n => ⟨W.fr h.1 n, fun z => by rw [z, h.2.2] at n; cases n⟩
  mu := fun {I H q o} h n f => ⟨W.mu h.1 n f.1, h.2.1, by rw [upd_ne (Ne.symm f.2)]; exact h.2.2⟩
  fzs := fun {I I' H} h k => ⟨W.fzs h.1 fun a => (k a).imp id fun ⟨x, y, z⟩ => ⟨x, y.1, z⟩, by
    rcases k p with q | ⟨_, f, _⟩
    · rw [q]; exact h.2.1
    · exact absurd rfl f.2, h.2.2⟩
  nb := fun {I H a} h n => by
    by_cases z : a = p
    · rw [z]; exact h.2.1
    · exact W.nb h.1 fun f => n ⟨f, z⟩
  anti := fun {I I' H} h e => ⟨W.anti h.1 e, (by
    cases q : I p with
    | none => rfl
    | some o =>
      have := e p o q
      rw [h.2.1] at this
      cases this), h.2.2⟩
theorem Lat.unobj {W : Wd} {p C dx : Addr} {ns : List Str} {ws : List V} {O O' : Addr → Prop} {I H I' H' : Hp} (l : Lat (objW W p C dx ns ws) O I H O' I' H') (hp : H p = some (.ins C dx (ns.zip ws))) : Lat W O I H O' I' H' where
  ex := l.ex
  ok := l.ok.1
  fr := fun a o f n e => by
    by_cases z : a = p
    · subst z
      rw [hp] at e
      rw [l.ok.2.2, e]
    · exact l.fr a o ⟨f, z⟩ n e
  nw := l.nw
  ow := fun a o => let ⟨f, q⟩ := l.ow a o; ⟨f.1, q⟩
section
variable {K : PySem.W.Frag} {W : Wd} {Wx : WX} {X : Cx} {a b e o : Expr} {es : List Expr} {ta te to : TE} {da de dO : TDE} {tr : TA} {dr : TDA} {p pos apos : Pos} {C f : Addr} {x m : Str}
theorem IsFs.split {I : Hp} : ∀ {vs : List (Str × V)} {fs : List (Str × D)}, IsFs K I vs fs → vs = (fs.map (·.1)).zip (vs.map (·.2)) ∧ IsAll K I (vs.map (·.2)) (fs.map (·.2))
  | _, _, .nil => ⟨rfl, .nil⟩
  | _, _, .cons (f := g) (v := v) (vs := vs) h r => by
    obtain ⟨e, al⟩ := IsFs.split r
    refine ⟨?_, .cons h al⟩
    show (g, v) :: vs = (g, v) :: _
    exact congrArg _ e
theorem zip_look {I : Hp} {f : Str} {d : D} : ∀ {ns : List Str} {ws : List V} {ds : List D}, IsAll K I ws ds → (ns.zip ds).lookup f = some d → ∃ w, (ns.zip ws).lookup f = some w ∧ Is K I w d
  | [], _, _, _, h => by cases h
  | _ :: _, _, _, .nil, h => by cases h
  | n :: ns, _, _, .cons i r, h => by
    rw [List.zip_cons_cons, List.lookup_cons] at h ⊢
    cases hb : f == n with
    | true =>
      rw [hb] at h
      cases h
      exact ⟨_, rfl, i⟩
    | false =>
      rw [hb] at h
      exact zip_look r h
theorem zip_lookN {f : Str} : ∀ {ns : List Str} {ws : List V}, ns.contains f = false → (ns.zip ws).lookup f = none
  | [], _, _ => rfl
  | _ :: _, [], _ => rfl
  | n :: ns, w :: ws, h => by
    rw [List.contains_cons, Bool.or_eq_false_iff] at h
    rw [List.zip_cons_cons, List.lookup_cons, h.1]
    exact zip_lookN h.2
/-- self.f of an instance under construction -/
@[simp] def tdFldO (i : Nat) (C : Addr) (f : Str) : TDE := fun τ Q _ => ∃ p fs d, τ[i]? = some (some (.obj p C fs)) ∧ fs.lookup f = some d ∧ Q d
theorem de_fldO (i : Nat) {f : Str} {px : Pos} (c : Cls K C) (n : NoAttr K C f) (hN : X.N[i]? = some x := by rfl) (hv : Vis X.env.scope x := by first | exact Or.inl rfl | exact Or.inr (Or.inl rfl) | exact Or.inr (Or.inr rfl)) (hd : (x == ("__debug__" : Str)) = false := by decide)
    (hcd : (x == ("__classdict__" : Str)) = false := by decide) (hb : attributeBase (.Name x px) f X.env (eval (.Name x px) X.env) = eval (.Name x px) X.env := by rfl) (hk : X.K = K := by rfl) : DE X K W Wx (.Attribute (.Name x px) f pos) (tFld K (tVar i) f) (tdFldO i C f) := by
  subst hk
  refine ⟨rfl, pe_fld (pe_var hN hv hd hcd) hb, fun I H σ τ Q R G ok rp t hq hx => ?_⟩
  obtain ⟨p, fs, d, e, h3, q⟩ := t
  obtain ⟨v, h1, dx, vs, rfl, hp, hi, hf, al⟩ := rp.at_ i _ e
  obtain ⟨w, h4, h5⟩ := al.look h3
  exact ⟨_, h1, p, C, dx, vs, w, rfl, hp, c, n, h4, hq w d I H q h5 (.refl ok)⟩
/-- self.f within its methods -/
@[simp] def tdFldW (W : Wd) (i : Nat) (C : Addr) (f : Str) : TDE := fun τ Q _ => ∃ W0 p dx ns ws ds d, W = objW W0 p C dx ns ws ∧ τ[i]? = some (some (.dat (.lent p ws ds))) ∧ (ns.zip ds).lookup f = some d ∧ Q d
theorem de_fldW (i : Nat) {f : Str} {px : Pos} (c : Cls K C) (n : NoAttr K C f) (hN : X.N[i]? = some x := by rfl) (hv : Vis X.env.scope x := by first | exact Or.inl rfl | exact Or.inr (Or.inl rfl) | exact Or.inr (Or.inr rfl)) (hd : (x == ("__debug__" : Str)) = false := by decide)
    (hcd : (x == ("__classdict__" : Str)) = false := by decide) (hb : attributeBase (.Name x px) f X.env (eval (.Name x px) X.env) = eval (.Name x px) X.env := by rfl) (hk : X.K = K := by rfl) : DE X K W Wx (.Attribute (.Name x px) f pos) (tFld K (tVar i) f) (tdFldW W i C f) := by
  subst hk
  refine ⟨rfl, pe_fld (pe_var hN hv hd hcd) hb, fun I H σ τ Q R G ok rp t hq hx => ?_⟩
  obtain ⟨W0, p, dx, ns, ws, ds, d, rfl, e, h3, q⟩ := t
  obtain ⟨v, h1, h2⟩ := rp.at_ i _ e
  have h2 : Is X.K I v (.lent p ws ds) := h2
  cases h2 with
  | lent al =>
    obtain ⟨w, h4, h5⟩ := zip_look al h3
    exact ⟨_, h1, p, C, dx, _, w, rfl, ok.2.2, c, n, h4, hq w d I H q h5 (.refl ok)⟩
variable {n k : Nat} {t : TF} {fd : FuncData} {ps : List Str} {CX : CXT} {pl : Sem Bool} {qual : Str} {st : Stmt}
/-- self.m(..) of an instance under construction -/
@[simp] def tdMethO1 (i : Nat) (C : Addr) (m : Str) (n : Nat) (t : TF) (W : Wd) (u : TDA) : TDE := fun τ Q R => ∃ p fs, τ[i]? = some (some (.obj p C fs)) ∧ (fs.map (·.1)).contains m = false ∧
  u τ (fun ds => ∀ dx ws, (D.lent p ws (fs.map (·.2)) :: ds).length = n ∧ t (objW W p C dx (fs.map (·.1)) ws) (.lent p ws (fs.map (·.2)) :: ds) Q fun _ => False) R
theorem SimE.methO1 {i : Nat} (h : SimA K W Wx tr dr) : SimE K W Wx (tMethE C m (spD K n t) (fun _ => E0) (tVar i) tr) (tdMethO1 i C m n t W dr) := fun I H σ τ Q R G ok rp q hq hx => by
  obtain ⟨p, fs, e, hm, q⟩ := q
  obtain ⟨v, h1, dx, vs, rfl, hp, hi, hf, al⟩ := rp.at_ i _ e
  obtain ⟨ez, _⟩ := al.split
  refine ⟨_, h1, p, dx, vs, rfl, hp, by rw [ez]; exact zip_lookN hm, h I H σ τ _ R _ ok rp q (fun us ds I2 H2 q2 i2 l2 => ?_) hx⟩
  obtain ⟨k1, k2⟩ := l2.keepN hp hf hi
  have al2 := IsFs.mono l2.ex al
  obtain ⟨ez2, al3⟩ := al2.split
  obtain ⟨ql, qt⟩ := q2 dx (vs.map (·.2))
  have ok2 : (objW W p C dx (fs.map (·.1)) (vs.map (·.2))).ok I2 H2 := ⟨l2.ok, k2, by rw [← ez2]; exact k1⟩
  exact ⟨_, I2, _ :: ds, Q, _, ok2, .cons (.lent al3) i2, ql, qt, fun v d I3 H3 q3 i3 l3 => hq v d I3 H3 q3 i3 (l2.trans (l3.unobj ok2.2.2)), fun _ _ _ _ _ z _ _ => z.elim⟩
theorem de_methO1 (i : Nat) {px : Pos} (c : Cls K C) (T : HasMt K C m qual st ps f fd) (F : FnG X.prog X.w X.K X.mg X.base CX k f fd ps (spD K n t)) (hr : RoomG k X.A) (hx : Passes CX X E0) (ha : DA X K W Wx (e :: es) tr dr)
    (hN : X.N[i]? = some x := by rfl) (hv : Vis X.env.scope x := by first | exact Or.inl rfl | exact Or.inr (Or.inl rfl) | exact Or.inr (Or.inr rfl)) (hd : (x == ("__debug__" : Str)) = false := by decide) (hcd : (x == ("__classdict__" : Str)) = false := by decide)
    (he : starEach (e :: es) X.env = (false, eval e X.env) :: starEach es X.env := by rfl) (hpl : (backTo pos (starEach es X.env)).any (·.1) = false := by rfl)
    (ht : eval (.Call (.Attribute (.Name x px) m apos) (e :: es) [] pos) X.env = (do
      let ov ← eval (.Name x px) X.env
      standAt apos.atName
      let (f, first) ← holding [ov] (getMethod ov m pl)
      callWith pos f first (backTo pos (starEach (e :: es) X.env)) (backToKw pos (keywordEach [] X.env))) := by rfl) :
    DE X K W Wx (.Call (.Attribute (.Name x px) m apos) (e :: es) [] pos) (tMethE C m (spD K n t) (fun _ => E0) (tVar i) tr) (tdMethO1 i C m n t W dr) := by
  have hk := ha.k; subst hk
  exact ⟨rfl, pe_methG (pe_var hN hv hd hcd) c T.m F hr T.b (fun σ pins H s e s' I => hx pins σ H s e s' I) ha.pa he hpl ht, .methO1 ha.sim⟩
/-- self.m(..) within its methods -/
@[simp] def tdMethW (W : Wd) (i : Nat) (C : Addr) (m : Str) (n : Nat) (t : TF) (u : TDA) : TDE := fun τ Q R => ∃ W0 p dx ns ws ds, W = objW W0 p C dx ns ws ∧ τ[i]? = some (some (.dat (.lent p ws ds))) ∧ ns.contains m = false ∧
  u τ (fun es => (D.lent p ws ds :: es).length = n ∧ t W (.lent p ws ds :: es) Q fun _ => False) R
theorem SimE.methW {i : Nat} (h : SimA K W Wx tr dr) : SimE K W Wx (tMethE C m (spD K n t) (fun _ => E0) (tVar i) tr) (tdMethW W i C m n t dr) := fun I H σ τ Q R G ok rp q hq hx => by
  obtain ⟨W0, p, dx, ns, ws, ds, rfl, e, hm, q⟩ := q
  obtain ⟨v, h1, h2⟩ := rp.at_ i _ e
  have h2 : Is K I v (.lent p ws ds) := h2
  cases h2 with
  | lent al =>
    exact ⟨_, h1, p, dx, _, rfl, ok.2.2, zip_lookN hm, h I H σ τ _ R _ ok rp q (fun us es I2 H2 q2 i2 l2 =>
      ⟨_, I2, _ :: es, Q, _, l2.ok, .cons (.lent (al.mono l2.ex)) i2, q2.1, q2.2, fun v d I3 H3 q3 i3 l3 => hq v d I3 H3 q3 i3 (l2.trans l3), fun _ _ _ _ _ z _ _ => z.elim⟩) hx⟩
theorem de_methW (i : Nat) {px : Pos} (c : Cls K C) (T : HasMt K C m qual st ps f fd) (F : FnG X.prog X.w X.K X.mg X.base CX k f fd ps (spD K n t)) (hr : RoomG k X.A) (hx : Passes CX X E0) (ha : DA X K W Wx (e :: es) tr dr)
    (hN : X.N[i]? = some x := by rfl) (hv : Vis X.env.scope x := by first | exact Or.inl rfl | exact Or.inr (Or.inl rfl) | exact Or.inr (Or.inr rfl)) (hd : (x == ("__debug__" : Str)) = false := by decide) (hcd : (x == ("__classdict__" : Str)) = false := by decide)
    (he : starEach (e :: es) X.env = (false, eval e X.env) :: starEach es X.env := by rfl) (hpl : (backTo pos (starEach es X.env)).any (·.1) = false := by rfl)
    (ht : eval (.Call (.Attribute (.Name x px) m apos) (e :: es) [] pos) X.env = (do
      let ov ← eval (.Name x px) X.env
      standAt apos.atName
      let (f, first) ← holding [ov] (getMethod ov m pl)
      callWith pos f first (backTo pos (starEach (e :: es) X.env)) (backToKw pos (keywordEach [] X.env))) := by rfl) :
    DE X K W Wx (.Call (.Attribute (.Name x px) m apos) (e :: es) [] pos) (tMethE C m (spD K n t) (fun _ => E0) (tVar i) tr) (tdMethW W i C m n t dr) := by
  have hk := ha.k; subst hk
  exact ⟨rfl, pe_methG (pe_var hN hv hd hcd) c T.m F hr T.b (fun σ pins H s e s' I => hx pins σ H s e s' I) ha.pa he hpl ht, .methW ha.sim⟩
end
end D3
set_option Elab.async false
set_option linter.all false
set_option maxRecDepth 100000
set_option maxHeartbeats 4000000
namespace D3
open PySem PySem.Spec PySem.W PySem.Calls PyProof PyProof.Rows L2
theorem preSum_take {is : List Int} : ∀ {k : Nat}, k ≤ is.length → preSum (fun i => is.getD i 0) k = (is.take k).sum
  | 0, _ => rfl
  | k + 1, h => by
    show preSum _ k + is.getD k 0 = _
    rw [preSum_take (by omega), List.take_succ, List.sum_append, List.getD_eq_getElem?_getD, List.getElem?_eq_getElem (by omega)]
    simp
theorem preSum_all {is : List Int} : preSum (fun i => is.getD i 0) is.length = is.sum := by
  rw [preSum_take (Nat.le_refl _), List.take_length]
section
variable {prog : Program} {w : World} {A : Around} {E : Value → Shared → Prop} {s : Shared} {T : String} {r d : Addr} {n : Nat} {P : Nat → Value → Prop} {OK : Heap → Prop} {Q : Value → Shared → Prop}
theorem kdu_sumRaw (K : KdlSrc prog w T r d n P OK) (hh : A.handled = none) (hok : OK s.heap) (val : Nat → Int) (hval : ∀ (i : Nat) (v : Value), P i v → ∃ t : Tok, v = Value.int (val i) t)
    (h : ∀ (h' : Heap) (tk : Nat) (t' : Tok), (∀ b o, s.heap.get? b = some o → h'.get? b = some o) → Q (.int (preSum val n) t') { s with heap := h', toks := tk }) :
    wpAny (model prog w) A (call (.builtin "sum") [.ref r]) Q E s := by
  refine call_sum_walkAnyS ?_
  obtain ⟨oI, St, hit, W, st⟩ := K.iter A.in1 s hh hok
  refine hit _ _ ⟨s.heap.objs.size, _, _, _, n, P, _, val, rfl, W.toS, st, fun b hb => ?_, hval, fun s' t' hm => ?_⟩
  · show b < (s.heap.push oI).objs.size
    rw [Heap.size_push]
    rcases List.mem_cons.mp hb with e | hb
    · rw [e]; exact Nat.lt_succ_self _
    · rw [List.mem_singleton.mp hb]; exact Nat.lt_succ_of_lt (K.there _ hok).2
  · have hk : ∀ b o, s.heap.get? b = some o → s'.heap.get? b = some o := fun b o e =>
      hm.heap b o (fun hI => absurd (Heap.lt_size e) (by rw [List.mem_singleton.mp hI]; exact Nat.lt_irrefl _)) (Heap.get?_push_of_some _ e)
    rw [Moved.eq_with hm]
    exact h s'.heap s'.toks t' hk
end
section
variable {X : Cx}
/-- sum(d.values()) -/
def tSumVs (K : PySem.W.Frag) (g : PGw) (te : TE) : TE := fun σ H Q => te σ H fun x H1 => ∃ a o us, ∃ is : List Int, x = .ref a ∧ DtAt K g H1 a o us ∧ Vals (is.map V.int) (us.map fun x => x.2.2) ∧ Q (.int is.sum) H1
variable {e : Expr} {te : TE} {p apos cpos pos : Pos}
theorem pe_sumVs (hc : X.calm = true) (he : PE X e te) (hg : Gl X "sum") (hm : X.mg "sum" = none) (hbase : attributeBase e "values" X.env (eval e X.env) = eval e X.env := by rfl) (hline : (apos.endLine == cpos.line) = true := by rfl)
    (hs : starEach [.Call (.Attribute e "values" apos) [] [] cpos] X.env = [(false, eval (.Call (.Attribute e "values" apos) [] [] cpos) X.env)] := by rfl) :
    PE X (.Call (.Name "sum" p) [.Call (.Attribute e "values" apos) [] [] cpos] [] pos) (tSumVs X.K (gOf X) te) := by
  refine ⟨fun pins s σ H Q I hq => ?_⟩
  refine wpAny_Call_Name_kw (ld_blt I hg hm (u := .builtin "sum") (by first | rfl | decide +kernel) ?_ (by first | decide +kernel | decide) (by first | decide +kernel | decide))
  rw [hs]
  refine PySem.callWith_builtin1 (wpAny_Call_method (T := "dict") (id := "dict.values") hbase rfl hline F.plainAttrs_dict F.slot_dict_values F.type_dict_values (thn (he.run pins s σ H _ I hq) fun u s1 ⟨x, H1, I1, rx, a, o, ks, is, ex, d, rvs, q⟩ => ?_))
  subst ex
  obtain rfl : u = Value.ref a := rx
  obtain ⟨es, ep, h⟩ := d.ob.ents
  obtain ⟨t1, t2⟩ := d.ty I1
  refine ⟨t1, t2, ?_⟩
  have raw : s1.heap.DictRaw a es ep := ⟨o, pin_get I1 d.pin, d.ob.ex, h.dat⟩
  have I2 : L2.Inv X pins σ H1 { s1 with heap := s1.heap.push { cls := .type "dict_values", data := .fields #[.ref a] } } := I1.kept (t' := s1.toks) fun b ob q => Heap.get?_push_of_some _ q
  show wpAny _ _ (callWith cpos (.builtin "dict.values") [.ref a] [] []) _ X.xe s1
  refine method_meetsIn F.slot_dict_values F.entry_dict_values rfl (PySem.evalArgs_none ⟨rfl, t1, F.args_dict_values_1 _, _, meets_dict_values_raw a d.sm, ⟨⟨es, ep, raw⟩, ?_⟩⟩)
  have raw2 := raw.at (h' := s1.heap.push { cls := .type "dict_values", data := .fields #[.ref a] }) fun ob e => Heap.get?_push_of_some _ e
  have hl : is.length = ks.length := by
    have := rvs.length
    rw [List.length_map, List.length_map] at this
    exact this
  refine kdu_sumRaw (KdlSrc.rawValues (r := s1.heap.objs.size) (d := a) (es := es) (ep := ep)) (I1.ok.hd hc) ⟨⟨_, Heap.get?_push_size _ rfl, rfl, rfl⟩, raw2⟩ (fun i => is.getD i 0) (fun i v => ?_) fun h' tk t' kp => ?_
  · rintro ⟨hi, rfl⟩
    have hj : i < ks.length := by rw [← h.sz]; exact hi
    have e2 : ks[i]? = some ks[i] := List.getElem?_eq_getElem hj
    obtain ⟨en2, h1, _, h2⟩ := h.at_ i ks[i].1 ks[i].2.1 ks[i].2.2 e2
    rw [Array.getElem?_eq_getElem hi] at h1
    cases h1
    rw [h2]
    have e3 : (ks.map fun x => x.2.2)[i]? = some ks[i].2.2 := by rw [List.getElem?_map, e2]; rfl
    have e4 : (is.map V.int)[i]? = some (.int (is.getD i 0)) := by rw [List.getElem?_map, List.getD_eq_getElem?_getD, List.getElem?_eq_getElem (by omega)]; rfl
    obtain ⟨u, hu, rv⟩ := Vals.get rvs e4
    rw [e3] at hu
    cases hu
    exact rv
  · rw [h.sz, ← hl, preSum_all]
    exact ⟨.int is.sum, H1, I2.kept kp, ⟨t', rfl⟩, q⟩
end
section
variable {K : PySem.W.Frag} {W : Wd} {Wx : WX} {X : Cx} {a b e : Expr} {ta tb te : TE} {da db de : TDE} {tr : TA} {dr : TDA} {pos p apos cpos : Pos}
def fSumL : FD := fun ds Q => match ds with
  | [.lst xs] => ∃ ns : List Int, xs = ns.map D.int ∧ Q (.int ns.sum)
  | _ => False
@[simp] theorem fSumL_lst {xs : List D} {Q : D → Prop} : fSumL [.lst xs] Q = ∃ ns : List Int, xs = ns.map D.int ∧ Q (.int ns.sum) := rfl
theorem CallSim.sumL : CallSim K W (rSum K) fSumL := fun I H vs ds Q G ok al q hq => by
  unfold fSumL at q
  split at q
  · obtain ⟨v, rfl, h⟩ := isAll1 al
    obtain ⟨ns, rfl, q⟩ := q
    obtain ⟨a, xs, rfl, sq, al2⟩ := is_lst h
    cases isAll_int al2
    exact ⟨a, ns, rfl, (W.ex ok).seq sq, hq _ _ I H q (.v _) (Later.refl ok)⟩
  · exact q.elim
theorem de_sumL (hc : X.calm = true) (hm : X.mg "sum" = none) (ha : DA X K W Wx [a] tr dr) (hg : Gl X "sum" := by rfl) (he : starEach [a] X.env = (false, eval a X.env) :: starEach [] X.env := by rfl) : DE X K W Wx (.Call (.Name "sum" p) [a] [] pos) (tCB (rSum K) tr) (tdCB fSumL dr) := by
  have hk := ha.k; subst hk
  exact de_cb (cr_sum hc) .sumL hg hm (by decide +kernel) ha (by decide) (by decide) he rfl
@[simp] def tdSumVs (g : PGw) (t : TDE) : TDE := fun τ Q R => t τ (fun d => onDt g d fun gs => ∃ is : List Int, gs.map (·.2) = is.map D.int ∧ Q (.int is.sum)) R
theorem de_sumVs (g : PGw) (hc : X.calm = true) (hm : X.mg "sum" = none) (he : DE X K W Wx e te de) (hg : Gl X "sum" := by rfl) (hbase : attributeBase e "values" X.env (eval e X.env) = eval e X.env := by rfl) (hline : (apos.endLine == cpos.line) = true := by rfl)
    (hs : starEach [.Call (.Attribute e "values" apos) [] [] cpos] X.env = [(false, eval (.Call (.Attribute e "values" apos) [] [] cpos) X.env)] := by rfl) (hgg : gOf X = g := by rfl) :
    DE X K W Wx (.Call (.Name "sum" p) [.Call (.Attribute e "values" apos) [] [] cpos] [] pos) (tSumVs K g te) (tdSumVs g de) := by
  have hk := he.k; subst hk hgg
  refine ⟨rfl, pe_sumVs hc he.pe hg hm hbase hline hs, fun I H σ τ Q R G ok rp t hq hx => he.sim I H σ τ _ R _ ok rp t (fun v d I1 H1 q1 i1 l1 => ?_) hx⟩
  unfold onDt at q1
  split at q1
  · obtain ⟨rfl, is, ei, q1⟩ := q1
    obtain ⟨a, o, us, rfl, at_, r⟩ := is_dtAt (W.ex l1.ok) i1
    obtain ⟨vs, h1, h2⟩ := r.valsAll
    rw [ei] at h2
    cases isAll_int h2
    exact ⟨a, o, us, is, rfl, at_, h1, hq _ _ I1 H1 q1 (.v _) l1⟩
  · exact q1.elim
/-- list(range(n)) -/
@[simp] def tdListRg1 (t : TDE) : TDO := fun τ Q R => t τ (fun x => fRgL (.int 0) x Q) R
theorem do_listRg1 {p2 pos2 : Pos} (hc : X.calm = true) (hm : X.mg "list" = none) (hmr : X.mg "range" = none) (ha : DE X K W Wx a ta da) (hg : Gl X "list" := by rfl) (hgr : Gl X "range" := by rfl)
    (na : starEach [a] X.env = (false, eval a X.env) :: starEach [] X.env := by rfl)
    (nl : starEach [.Call (.Name "range" p2) [a] [] pos2] X.env = (false, eval (.Call (.Name "range" p2) [a] [] pos2) X.env) :: starEach [] X.env := by rfl) :
    DO X K W Wx (.Call (.Name "list" p) [.Call (.Name "range" p2) [a] [] pos2] [] pos) (tLstRg (tRg1 ta)) (tdListRg1 da) := by
  have hk := ha.k; subst hk
  refine ⟨rfl, pe_listRg hc hg hm (prg_1 hgr hmr ha.pe na) nl, fun I H σ τ Q R G ok rp t hq hx => ha.sim I H σ τ _ R _ ok rp t (fun x dx I1 H1 q1 i1 l1 => ?_) hx⟩
  unfold fRgL at q1
  split at q1
  · rename_i heq
    cases heq
    cases i1
    exact ⟨_, rfl, q1.1, fun l hl => hq l _ _ I1 _ q1.2 (Later.back' l1 hl) upd_same (Same.non (W.ex l1.ok) hl) isAll_rg (l1.trans (Later.allocO l1.ok hl))⟩
  · exact q1.elim
abbrev TDP := Tau → (List (L2.Key × D) → Prop) → (Exc → Prop) → Prop
def SimPk (K : PySem.W.Frag) (W : Wd) (Wx : WX) (trs : List (TE × TE)) (t : TDP) : Prop := ∀ (I H : Hp) (σ : L2.St) (τ : Tau) (Q : List (L2.Key × D) → Prop) (R : Exc → Prop) (G : List (V × V) → Hp → Prop), W.ok I H → Rep K W I H σ τ → t τ Q R →
  (∀ (kvs : List (L2.Key × V)) gs I' H', Q gs → IsKv K I' kvs gs → kvs.map (·.1) = gs.map (·.1) → Later W I H I' H' → G (kvs.map fun kv => (kV kv.1, kv.2)) H') → XOk K W Wx R I H σ → tPairs trs σ H G
structure DPk (X : Cx) (K : PySem.W.Frag) (W : Wd) (Wx : WX) (pos : Pos) (keys : List (Option Expr)) (values : List Expr) (trs : List (TE × TE)) (t : TDP) : Prop where
  k : X.K = K
  pps : PPs X pos keys values trs
  sim : SimPk K W Wx trs t
@[simp] def tdPkn : TDP := fun _ Q _ => Q []
@[simp] def tdPkc (u v : TDE) (t : TDP) : TDP := fun τ Q R => u τ (fun kd => ∃ k : L2.Key, kd = .v (kV k) ∧ v τ (fun d => t τ (fun gs => Q ((k, d) :: gs)) R) R) R
theorem dpk_nil (hk : X.K = K := by rfl) : DPk X K W Wx pos [] [] [] tdPkn := by
  subst hk
  exact ⟨rfl, pps_nil, fun I H σ τ Q R G ok rp t hq hx => hq [] [] I H t .nil rfl (Later.refl ok)⟩
theorem dpk_cons {ke v : Expr} {keys : List (Option Expr)} {values : List Expr} {trs : List (TE × TE)} {tk tv : TE} {dk dv : TDE} {t : TDP} (hke : DE X K W Wx ke tk dk) (hv : DE X K W Wx v tv dv) (hr : DPk X K W Wx pos keys values trs t) :
    DPk X K W Wx pos (some ke :: keys) (v :: values) ((tk, tv) :: trs) (tdPkc dk dv t) := by
  have hk := hv.k; subst hk
  exact ⟨rfl, pps_cons hke.pe hv.pe hr.pps, fun I H σ τ Q R G ok rp t hq hx => hke.sim I H σ τ _ R _ ok rp t (fun kv kd I0 H0 q0 i0 l0 => by
    obtain ⟨k, rfl, q0⟩ := q0
    obtain rfl : kv = kV k := is_v i0
    exact hv.sim I0 H0 σ τ _ R _ l0.ok (rp.later l0) q0 (fun v d I1 H1 q1 i1 l1 => hr.sim I1 H1 σ τ _ R _ l1.ok ((rp.later l0).later l1) q1 (fun kvs gs I2 H2 q2 al hl l2 =>
      hq ((k, v) :: kvs) ((k, d) :: gs) I2 H2 q2 (.cons (i1.mono l2.ex) al) (by rw [List.map_cons, List.map_cons, hl]) ((l0.trans l1).trans l2)) (hx.later (l0.trans l1))) (hx.later l0)) hx⟩
@[simp] def tdDispK (t : TDP) : TDX := fun τ Q R => t τ (fun gs => (gs.map (·.1)).Nodup ∧ gs.length ≤ 15 ∧ Q (.dk gs)) R
theorem SimX.dispK {trs : List (TE × TE)} {t : TDP} (h : SimPk K W Wx trs t) : SimX K W Wx (tDisp trs) (tdDispK t) := fun I H σ τ Q R G ok rp t hq hx p hp => by
  have ip : I p = none := Same.non (W.ex ok) hp
  have fp : W.free p := W.fr ok hp
  have l0 : Later W I H I (upd H p (.dK [])) := Later.allocO ok hp
  refine h I _ σ τ _ R _ l0.ok (rp.later l0) t (fun kvs gs I1 H1 q1 al hl l1 => ?_) (hx.later l0)
  obtain ⟨k1, k2⟩ := l1.keepN upd_same fp ip
  have nd := q1.1
  rw [← hl] at nd
  refine ⟨k1, kvs, rfl, ?_, ?_⟩
  · have := congrArg List.length hl
    rw [List.length_map, List.length_map] at this
    rw [this]; exact q1.2.1
  · rw [mergeK_nodup nd]
    have l2 := l0.trans l1
    refine hq _ (.dk gs) I1 _ q1.2.2 ⟨p, _, rfl, upd_same, k2, fp, al⟩ (fun a o => by cases o; exact hp) ⟨l2.ex, W.mu l2.ok k2 fp, fun a o f n e => ?_, l2.nw, l2.ow⟩
    have : a ≠ p := fun z => by rw [z, hp] at e; cases e
    rw [upd_ne this]
    exact l2.fr a o f n e
theorem dx_dispK {keys : List (Option Expr)} {values : List Expr} {trs : List (TE × TE)} {t : TDP} (h : DPk X K W Wx pos keys values trs t) (hall : keys.all (·.isSome) = true := by rfl) (hl : keys.length = values.length := by rfl) (h0 : keys ≠ [] := by intro z; cases z)
    (h15 : keys.length ≤ 15 := by decide) : DX X K W Wx (.Dict keys values pos) (tDisp trs) (tdDispK t) := by
  have hk := h.k; subst hk
  exact ⟨rfl, pe_disp h.pps hall hl h0 h15, .dispK h.sim⟩
/-- d[k] -/
@[simp] def tdKGet (t u : TDE) : TDE := fun τ Q R => t τ (fun x => u τ (fun y => onDic x fun gs => ∃ (k : L2.Key) (d : D), y = .v (kV k) ∧ valD gs k = some d ∧ Q d) R) R
theorem de_kget (hu : X.A.units + 64 < cLine) (ha : DE X K W Wx a ta da) (hb : DE X K W Wx b tb db) (hs : NoSl b := by exact fun _ _ => rfl) : DE X K W Wx (.Subscript a b pos) (tDGet ta tb) (tdKGet da db) := by
  have hk := ha.k; subst hk
  refine ⟨rfl, pe_dget (by omega) ha.pe hb.pe hs, fun I H σ τ Q R G ok rp t hq hx => ha.sim I H σ τ _ R _ ok rp t (fun v d I1 H1 q1 i1 l1 => hb.sim I1 H1 σ τ _ R _ l1.ok (rp.later l1) q1 (fun v2 d2 I2 H2 q2 i2 l2 => ?_) (hx.later l1)) hx⟩
  unfold onDic at q2
  split at q2
  · obtain ⟨k, d, rfl, e, q2⟩ := q2
    obtain rfl : v2 = kV k := is_v i2
    obtain ⟨p, kvs, rfl, hp, al⟩ := is_dic (i1.mono l2.ex)
    obtain ⟨w, e1, e2⟩ := al.val e
    exact ⟨p, w, rfl, .inl ⟨kvs, k, .inl (W.ex l2.ok _ _ hp), rfl, e1.symm⟩, hq w d I2 H2 q2 e2 (l1.trans l2)⟩
  · exact q2.elim
end
end D3
set_option Elab.async false
set_option linter.all false
set_option maxRecDepth 100000
namespace D3
open PySem PySem.W PySem.Calls PyProof.Rows HeadRun
theorem left_two {p q : Program} {loose : List PySem.Str} {Xt : Shared → Bool} {K : Params → Frag} {as : List Addr} {ek : ∀ P, as = (K P).map (·.1)} {N M : Nat}
    (e : opening p = plainProg p.main.scope.names) (hN : Nat.ble 600 N = true) (f : ∀ s, fenceModules? p s = some s) (le : Nat.ble M N = true)
    (run0 : ∀ (w : World) (os : OsState), (endF (stepQ (denQ tabQ) p (w.withFollow "special-get-raises" false)) M p (w.withFollow "special-get-raises" false) os).map (fun s => (looksF p (boot_heap (w.withFollow "special-get-raises" false).params) s.abs, seenQ q loose (importedModules p.main.body) Xt s.abs, as.map (getT s))) = some (true, openGood q loose, (K (w.withFollow "special-get-raises" false).params).map fun x => some x.2))
    (run1 : ∀ (w : World) (os : OsState), (endF (stepQ (denQ tabQ) p (w.withFollow "special-get-raises" true)) M p (w.withFollow "special-get-raises" true) os).map (fun s => (looksF p (boot_heap (w.withFollow "special-get-raises" true).params) s.abs, seenQ q loose (importedModules p.main.body) Xt s.abs, as.map (getT s))) = some (true, openGood q loose, (K (w.withFollow "special-get-raises" true).params).map fun x => some x.2)) :
    LeftO p q loose Xt (Hook.obs (kHook K as ek)) (Hook.val (kHook K as ek)) N true :=
  left_oneK (M := M) e hN f le (byRow2 "special-get-raises" (P := fun w => ∀ os : OsState, (endF (stepQ (denQ tabQ) p w) M p w os).map (fun s => (looksF p (boot_heap w.params) s.abs, seenQ q loose (importedModules p.main.body) Xt s.abs, as.map (getT s))) = some (true, openGood q loose, (K w.params).map fun x => some x.2)) run0 run1)
end D3
set_option Elab.async false
set_option linter.all false
set_option maxRecDepth 100000
set_option maxHeartbeats 4000000
namespace Law
open PySem L2 D3
def top (i : Nat) : Stmt := PySem.Challenge.pw_cellscript_k73_whole_counts_add_up.main.body.getD i (.Pass ⟨0, 0, 0, 0⟩)
abbrev s_is_whole : Stmt := top 14
abbrev n_is_whole : List Str := ["thing"]
abbrev p_is_whole : List Str := ["thing"]
theorem sc_is_whole : FnScope n_is_whole p_is_whole (defScope s_is_whole) := ⟨rfl, rfl, rfl, by decide +kernel, rfl, by decide +kernel, by decide +kernel⟩
abbrev s_is_from_to : Stmt := top 15
abbrev n_is_from_to : List Str := ["thing", "least", "most"]
abbrev p_is_from_to : List Str := ["thing", "least", "most"]
theorem sc_is_from_to : FnScope n_is_from_to p_is_from_to (defScope s_is_from_to) := ⟨rfl, rfl, rfl, by decide +kernel, rfl, by decide +kernel, by decide +kernel⟩
abbrev s_is_sign : Stmt := top 16
abbrev n_is_sign : List Str := ["thing"]
abbrev p_is_sign : List Str := ["thing"]
theorem sc_is_sign : FnScope n_is_sign p_is_sign (defScope s_is_sign) := ⟨rfl, rfl, rfl, by decide +kernel, rfl, by decide +kernel, by decide +kernel⟩
abbrev s_is_signs : Stmt := top 17
abbrev n_is_signs : List Str := ["thing", "one", "other", "sign"]
abbrev p_is_signs : List Str := ["thing"]
theorem sc_is_signs : FnScope n_is_signs p_is_signs (defScope s_is_signs) := ⟨rfl, rfl, rfl, by decide +kernel, rfl, by decide +kernel, by decide +kernel⟩
abbrev s_is_place : Stmt := top 18
abbrev n_is_place : List Str := ["thing"]
abbrev p_is_place : List Str := ["thing"]
theorem sc_is_place : FnScope n_is_place p_is_place (defScope s_is_place) := ⟨rfl, rfl, rfl, by decide +kernel, rfl, by decide +kernel, by decide +kernel⟩
abbrev s_need_strip : Stmt := top 22
abbrev n_need_strip : List Str := ["rule", "signs", "high", "strange", "columns", "y", "sign"]
abbrev p_need_strip : List Str := ["rule", "signs", "high"]
theorem sc_need_strip : FnScope n_need_strip p_need_strip (defScope s_need_strip) := ⟨rfl, rfl, rfl, by decide +kernel, rfl, by decide +kernel, by decide +kernel⟩
abbrev s_words_of : Stmt := top 23
abbrev n_words_of : List Str := ["letters", "size", "found", "k", "word", "letter"]
abbrev p_words_of : List Str := ["letters", "size"]
theorem sc_words_of : FnScope n_words_of p_words_of (defScope s_words_of) := ⟨rfl, rfl, rfl, by decide +kernel, rfl, by decide +kernel, by decide +kernel⟩
abbrev s_columns_of : Stmt := top 25
abbrev n_columns_of : List Str := ["rows", "at", "row"]
abbrev p_columns_of : List Str := ["rows"]
theorem sc_columns_of : FnScope n_columns_of p_columns_of (defScope s_columns_of) := ⟨rfl, rfl, rfl, by decide +kernel, rfl, by decide +kernel, by decide +kernel⟩
abbrev s_rows_of : Stmt := top 26
abbrev n_rows_of : List Str := ["columns", "high", "y", "column"]
abbrev p_rows_of : List Str := ["columns", "high"]
theorem sc_rows_of : FnScope n_rows_of p_rows_of (defScope s_rows_of) := ⟨rfl, rfl, rfl, by decide +kernel, rfl, by decide +kernel, by decide +kernel⟩
abbrev s_strip_for : Stmt := top 27
abbrev n_strip_for : List Str := ["rule", "edge", "rows"]
abbrev p_strip_for : List Str := ["rule", "edge", "rows"]
theorem sc_strip_for : FnScope n_strip_for p_strip_for (defScope s_strip_for) := ⟨rfl, rfl, rfl, by decide +kernel, rfl, by decide +kernel, by decide +kernel⟩
abbrev s_counts_on : Stmt := top 29
abbrev n_counts_on : List Str := ["strip", "columns", "last", "tables", "column", "later", "now", "state", "many", "other"]
abbrev p_counts_on : List Str := ["strip", "columns", "last"]
theorem sc_counts_on : FnScope n_counts_on p_counts_on (defScope s_counts_on) := ⟨rfl, rfl, rfl, by decide +kernel, rfl, by decide +kernel, by decide +kernel⟩
abbrev s_how_many : Stmt := top 30
abbrev n_how_many : List Str := ["rule", "edge", "rows", "strip", "state"]
abbrev p_how_many : List Str := ["rule", "edge", "rows"]
theorem sc_how_many : FnScope n_how_many p_how_many (defScope s_how_many) := ⟨rfl, rfl, rfl, by decide +kernel, rfl, by decide +kernel, by decide +kernel⟩
abbrev s_picked : Stmt := top 31
abbrev n_picked : List Str := ["some", "table", "number", "state", "many"]
abbrev p_picked : List Str := ["some", "table", "number"]
theorem sc_picked : FnScope n_picked p_picked (defScope s_picked) := ⟨rfl, rfl, rfl, by decide +kernel, rfl, by decide +kernel, by decide +kernel⟩
abbrev s_forebear : Stmt := top 32
abbrev n_forebear : List Str := ["rule", "edge", "rows", "number", "strip", "columns", "tables", "total", "state", "left", "found", "column", "table"]
abbrev p_forebear : List Str := ["rule", "edge", "rows", "number"]
theorem sc_forebear : FnScope n_forebear p_forebear (defScope s_forebear) := ⟨rfl, rfl, rfl, by decide +kernel, rfl, by decide +kernel, by decide +kernel⟩
abbrev s_is_near : Stmt := top 38
abbrev n_is_near : List Str := ["sort", "thing", "place"]
abbrev p_is_near : List Str := ["sort", "thing"]
theorem sc_is_near : FnScope n_is_near p_is_near (defScope s_is_near) := ⟨rfl, rfl, rfl, by decide +kernel, rfl, by decide +kernel, by decide +kernel⟩
abbrev s_are_of : Stmt := top 39
abbrev n_are_of : List Str := ["thing", "signs", "sign"]
abbrev p_are_of : List Str := ["thing", "signs"]
theorem sc_are_of : FnScope n_are_of p_are_of (defScope s_are_of) := ⟨rfl, rfl, rfl, by decide +kernel, rfl, by decide +kernel, by decide +kernel⟩
abbrev s_is_test : Stmt := top 40
abbrev n_is_test : List Str := ["thing", "near", "signs", "word", "rest", "low", "high", "counted"]
abbrev p_is_test : List Str := ["thing", "near", "signs"]
theorem sc_is_test : FnScope n_is_test p_is_test (defScope s_is_test) := ⟨rfl, rfl, rfl, by decide +kernel, rfl, by decide +kernel, by decide +kernel⟩
abbrev s_is_cell_row : Stmt := top 41
abbrev n_is_cell_row : List Str := ["thing", "near", "signs", "own", "tests", "sign", "test"]
abbrev p_is_cell_row : List Str := ["thing", "near", "signs"]
theorem sc_is_cell_row : FnScope n_is_cell_row p_is_cell_row (defScope s_is_cell_row) := ⟨rfl, rfl, rfl, by decide +kernel, rfl, by decide +kernel, by decide +kernel⟩
abbrev s_is_text_of : Stmt := top 42
abbrev n_is_text_of : List Str := ["thing", "many", "signs", "sign"]
abbrev p_is_text_of : List Str := ["thing", "many", "signs"]
theorem sc_is_text_of : FnScope n_is_text_of p_is_text_of (defScope s_is_text_of) := ⟨rfl, rfl, rfl, by decide +kernel, rfl, by decide +kernel, by decide +kernel⟩
abbrev s_is_block_row : Stmt := top 43
abbrev n_is_block_row : List Str := ["thing", "signs", "fours", "four", "one"]
abbrev p_is_block_row : List Str := ["thing", "signs"]
theorem sc_is_block_row : FnScope n_is_block_row p_is_block_row (defScope s_is_block_row) := ⟨rfl, rfl, rfl, by decide +kernel, rfl, by decide +kernel, by decide +kernel⟩
abbrev s_Lbag : Stmt := top 46
abbrev n_Lbag : List Str := ["_law_script", "_law_cell"]
abbrev p_Lbag : List Str := ["_law_script"]
theorem sc_Lbag : FnScope n_Lbag p_Lbag (defScope s_Lbag) := ⟨rfl, rfl, rfl, by decide +kernel, rfl, by decide +kernel, by decide +kernel⟩
abbrev s_Ltake : Stmt := top 47
abbrev n_Ltake : List Str := ["_law_bag_here", "_law_many", "_law_cell", "_law_value", "_law_first", "_law_second"]
abbrev p_Ltake : List Str := ["_law_bag_here", "_law_many"]
theorem sc_Ltake : FnScope n_Ltake p_Ltake (defScope s_Ltake) := ⟨rfl, rfl, rfl, by decide +kernel, rfl, by decide +kernel, by decide +kernel⟩
abbrev s_Lsigns : Stmt := top 48
abbrev n_Lsigns : List Str := ["_law_many"]
abbrev p_Lsigns : List Str := ["_law_many"]
theorem sc_Lsigns : FnScope n_Lsigns p_Lsigns (defScope s_Lsigns) := ⟨rfl, rfl, rfl, by decide +kernel, rfl, by decide +kernel, by decide +kernel⟩
abbrev s_Lsome : Stmt := top 49
abbrev n_Lsome : List Str := ["_law_bag_here", "_law_signs_here", "_law_found", "_law_one", "_law_sign"]
abbrev p_Lsome : List Str := ["_law_bag_here", "_law_signs_here"]
theorem sc_Lsome : FnScope n_Lsome p_Lsome (defScope s_Lsome) := ⟨rfl, rfl, rfl, by decide +kernel, rfl, by decide +kernel, by decide +kernel⟩
abbrev s_Lnear : Stmt := top 50
abbrev n_Lnear : List Str := ["_law_bag_here", "_law_sort", "_law_places", "_law_spin", "_law_found"]
abbrev p_Lnear : List Str := ["_law_bag_here", "_law_sort"]
theorem sc_Lnear : FnScope n_Lnear p_Lnear (defScope s_Lnear) := ⟨rfl, rfl, rfl, by decide +kernel, rfl, by decide +kernel, by decide +kernel⟩
abbrev s_Ltest : Stmt := top 51
abbrev n_Ltest : List Str := ["_law_bag_here", "_law_near_here", "_law_signs_here", "_law_low"]
abbrev p_Ltest : List Str := ["_law_bag_here", "_law_near_here", "_law_signs_here"]
theorem sc_Ltest : FnScope n_Ltest p_Ltest (defScope s_Ltest) := ⟨rfl, rfl, rfl, by decide +kernel, rfl, by decide +kernel, by decide +kernel⟩
abbrev s_Lrow : Stmt := top 52
abbrev n_Lrow : List Str := ["_law_bag_here", "_law_near_here", "_law_signs_here", "_law_own", "_law_tests", "_law_k"]
abbrev p_Lrow : List Str := ["_law_bag_here", "_law_near_here", "_law_signs_here"]
theorem sc_Lrow : FnScope n_Lrow p_Lrow (defScope s_Lrow) := ⟨rfl, rfl, rfl, by decide +kernel, rfl, by decide +kernel, by decide +kernel⟩
abbrev s_Lblock_row : Stmt := top 53
abbrev n_Lblock_row : List Str := ["_law_bag_here", "_law_signs_here", "_law_fours", "_law_k"]
abbrev p_Lblock_row : List Str := ["_law_bag_here", "_law_signs_here"]
theorem sc_Lblock_row : FnScope n_Lblock_row p_Lblock_row (defScope s_Lblock_row) := ⟨rfl, rfl, rfl, by decide +kernel, rfl, by decide +kernel, by decide +kernel⟩
abbrev s_Lrule : Stmt := top 54
abbrev n_Lrule : List Str := ["_law_bag_here", "_law_sort", "_law_many", "_law_signs_here", "_law_near_here", "_law_way", "_law_size", "_law_rows_here", "_law_k", "_law_sign"]
abbrev p_Lrule : List Str := ["_law_bag_here", "_law_sort", "_law_many"]
theorem sc_Lrule : FnScope n_Lrule p_Lrule (defScope s_Lrule) := ⟨rfl, rfl, rfl, by decide +kernel, rfl, by decide +kernel, by decide +kernel⟩
abbrev s_Lholds : Stmt := top 55
abbrev n_Lholds : List Str := ["_law_near_here", "_law_around", "_law_test_here", "_law_sign"]
abbrev p_Lholds : List Str := ["_law_near_here", "_law_around", "_law_test_here"]
theorem sc_Lholds : FnScope n_Lholds p_Lholds (defScope s_Lholds) := ⟨rfl, rfl, rfl, by decide +kernel, rfl, by decide +kernel, by decide +kernel⟩
abbrev s_Lbecomes : Stmt := top 56
abbrev n_Lbecomes : List Str := ["_law_rule_here", "_law_own", "_law_around", "_law_mine", "_law_tests", "_law_sign", "_law_test_here"]
abbrev p_Lbecomes : List Str := ["_law_rule_here", "_law_own", "_law_around"]
theorem sc_Lbecomes : FnScope n_Lbecomes p_Lbecomes (defScope s_Lbecomes) := ⟨rfl, rfl, rfl, by decide +kernel, rfl, by decide +kernel, by decide +kernel⟩
abbrev s_Loff : Stmt := top 57
abbrev n_Loff : List Str := ["_law_place", "_law_offs"]
abbrev p_Loff : List Str := ["_law_place"]
theorem sc_Loff : FnScope n_Loff p_Loff (defScope s_Loff) := ⟨rfl, rfl, rfl, by decide +kernel, rfl, by decide +kernel, by decide +kernel⟩
abbrev s_Lmiddle : Stmt := top 58
abbrev n_Lmiddle : List Str := ["_law_rule_here", "_law_edge", "_law_three", "_law_found", "_law_y", "_law_around", "_law_place", "_law_dx", "_law_dy", "_law_column", "_law_beyond"]
abbrev p_Lmiddle : List Str := ["_law_rule_here", "_law_edge", "_law_three"]
theorem sc_Lmiddle : FnScope n_Lmiddle p_Lmiddle (defScope s_Lmiddle) := ⟨rfl, rfl, rfl, by decide +kernel, rfl, by decide +kernel, by decide +kernel⟩
abbrev s_Lletters : Stmt := top 59
abbrev n_Lletters : List Str := ["_law_signs_here", "_law_high", "_law_found", "_law_k", "_law_longer", "_law_word", "_law_sign"]
abbrev p_Lletters : List Str := ["_law_signs_here", "_law_high"]
theorem sc_Lletters : FnScope n_Lletters p_Lletters (defScope s_Lletters) := ⟨rfl, rfl, rfl, by decide +kernel, rfl, by decide +kernel, by decide +kernel⟩
abbrev s_Lcolumns : Stmt := top 60
abbrev n_Lcolumns : List Str := ["_law_rows_here", "_law_at", "_law_row_here"]
abbrev p_Lcolumns : List Str := ["_law_rows_here"]
theorem sc_Lcolumns : FnScope n_Lcolumns p_Lcolumns (defScope s_Lcolumns) := ⟨rfl, rfl, rfl, by decide +kernel, rfl, by decide +kernel, by decide +kernel⟩
abbrev s_Lrows : Stmt := top 61
abbrev n_Lrows : List Str := ["_law_columns_here", "_law_high", "_law_y", "_law_column"]
abbrev p_Lrows : List Str := ["_law_columns_here", "_law_high"]
theorem sc_Lrows : FnScope n_Lrows p_Lrows (defScope s_Lrows) := ⟨rfl, rfl, rfl, by decide +kernel, rfl, by decide +kernel, by decide +kernel⟩
abbrev s_Lstrip : Stmt := top 62
abbrev n_Lstrip : List Str := ["_law_bag_here", "_law_greatest", "_law_many", "_law_high", "_law_rule_here", "_law_signs_here"]
abbrev p_Lstrip : List Str := ["_law_bag_here", "_law_greatest"]
theorem sc_Lstrip : FnScope n_Lstrip p_Lstrip (defScope s_Lstrip) := ⟨rfl, rfl, rfl, by decide +kernel, rfl, by decide +kernel, by decide +kernel⟩
abbrev s_Lnext_rows : Stmt := top 63
abbrev n_Lnext_rows : List Str := ["_law_rule_here", "_law_edge", "_law_rows_here", "_law_columns_here", "_law_found", "_law_at"]
abbrev p_Lnext_rows : List Str := ["_law_rule_here", "_law_edge", "_law_rows_here"]
theorem sc_Lnext_rows : FnScope n_Lnext_rows p_Lnext_rows (defScope s_Lnext_rows) := ⟨rfl, rfl, rfl, by decide +kernel, rfl, by decide +kernel, by decide +kernel⟩
abbrev s_Lmade_rule : Stmt := top 64
abbrev n_Lmade_rule : List Str := ["_law_rule_here"]
abbrev p_Lmade_rule : List Str := ["_law_rule_here"]
theorem sc_Lmade_rule : FnScope n_Lmade_rule p_Lmade_rule (defScope s_Lmade_rule) := ⟨rfl, rfl, rfl, by decide +kernel, rfl, by decide +kernel, by decide +kernel⟩
abbrev s_Lwords : Stmt := top 65
abbrev n_Lwords : List Str := ["_law_letters_here", "_law_size", "_law_found", "_law_k", "_law_longer", "_law_word", "_law_letter"]
abbrev p_Lwords : List Str := ["_law_letters_here", "_law_size"]
theorem sc_Lwords : FnScope n_Lwords p_Lwords (defScope s_Lwords) := ⟨rfl, rfl, rfl, by decide +kernel, rfl, by decide +kernel, by decide +kernel⟩
abbrev s_law : Stmt := top 66
abbrev n_law : List Str := ["_law_script", "_law_bag_here", "_law_plain", "_law_edge", "_law_high", "_law_rule_here", "_law_letters_here", "_law_size", "_law_pictures", "_law_counts", "_law_every", "_law_start", "_law_at", "_law_rows_here", "_law_many", "_law_first", "_law_last", "_law_columns_here"]
abbrev p_law : List Str := ["_law_script"]
theorem sc_law : FnScope n_law p_law (defScope s_law) := ⟨rfl, rfl, rfl, by decide +kernel, rfl, by decide +kernel, by decide +kernel⟩
abbrev s_Strip___init__ : Stmt := meth (top 24) 0
abbrev n_Strip___init__ : List Str := ["self", "rule", "edge", "high", "place", "one", "two", "state"]
abbrev p_Strip___init__ : List Str := ["self", "rule", "edge", "high"]
theorem sc_Strip___init__ : FnScope n_Strip___init__ p_Strip___init__ (defScope s_Strip___init__) := ⟨rfl, rfl, rfl, by decide +kernel, rfl, by decide +kernel, by decide +kernel⟩
abbrev s_Strip_sign_in : Stmt := meth (top 24) 1
abbrev n_Strip_sign_in : List Str := ["self", "column", "y"]
abbrev p_Strip_sign_in : List Str := ["self", "column", "y"]
theorem sc_Strip_sign_in : FnScope n_Strip_sign_in p_Strip_sign_in (defScope s_Strip_sign_in) := ⟨rfl, rfl, rfl, by decide +kernel, rfl, by decide +kernel, by decide +kernel⟩
abbrev s_Strip_made : Stmt := meth (top 24) 2
abbrev n_Strip_made : List Str := ["self", "one", "two", "three", "beside", "signs", "y", "own", "around", "dx", "dy"]
abbrev p_Strip_made : List Str := ["self", "one", "two", "three"]
theorem sc_Strip_made : FnScope n_Strip_made p_Strip_made (defScope s_Strip_made) := ⟨rfl, rfl, rfl, by decide +kernel, rfl, by decide +kernel, by decide +kernel⟩
abbrev s_Strip_ways_of : Stmt := meth (top 24) 3
abbrev n_Strip_ways_of : List Str := ["self", "state", "one", "two", "found", "three"]
abbrev p_Strip_ways_of : List Str := ["self", "state"]
theorem sc_Strip_ways_of : FnScope n_Strip_ways_of p_Strip_ways_of (defScope s_Strip_ways_of) := ⟨rfl, rfl, rfl, by decide +kernel, rfl, by decide +kernel, by decide +kernel⟩
abbrev s_Strip_behind : Stmt := meth (top 24) 4
abbrev n_Strip_behind : List Str := ["self", "state", "column", "three"]
abbrev p_Strip_behind : List Str := ["self", "state", "column"]
theorem sc_Strip_behind : FnScope n_Strip_behind p_Strip_behind (defScope s_Strip_behind) := ⟨rfl, rfl, rfl, by decide +kernel, rfl, by decide +kernel, by decide +kernel⟩
abbrev s_Rule___init__ : Stmt := meth (top 44) 0
abbrev n_Rule___init__ : List Str := ["self", "sort", "many", "near", "rows", "at", "row"]
abbrev p_Rule___init__ : List Str := ["self", "sort", "many", "near", "rows"]
theorem sc_Rule___init__ : FnScope n_Rule___init__ p_Rule___init__ (defScope s_Rule___init__) := ⟨rfl, rfl, rfl, by decide +kernel, rfl, by decide +kernel, by decide +kernel⟩
abbrev s_Rule_is_row : Stmt := meth (top 44) 1
abbrev n_Rule_is_row : List Str := ["self", "thing"]
abbrev p_Rule_is_row : List Str := ["self", "thing"]
theorem sc_Rule_is_row : FnScope n_Rule_is_row p_Rule_is_row (defScope s_Rule_is_row) := ⟨rfl, rfl, rfl, by decide +kernel, rfl, by decide +kernel, by decide +kernel⟩
abbrev s_Rule_kind : Stmt := meth (top 44) 2
abbrev n_Rule_kind : List Str := ["self"]
abbrev p_Rule_kind : List Str := ["self"]
theorem sc_Rule_kind : FnScope n_Rule_kind p_Rule_kind (defScope s_Rule_kind) := ⟨rfl, rfl, rfl, by decide +kernel, rfl, by decide +kernel, by decide +kernel⟩
abbrev s_Rule_many : Stmt := meth (top 44) 3
abbrev n_Rule_many : List Str := ["self"]
abbrev p_Rule_many : List Str := ["self"]
theorem sc_Rule_many : FnScope n_Rule_many p_Rule_many (defScope s_Rule_many) := ⟨rfl, rfl, rfl, by decide +kernel, rfl, by decide +kernel, by decide +kernel⟩
abbrev s_Rule_near : Stmt := meth (top 44) 4
abbrev n_Rule_near : List Str := ["self"]
abbrev p_Rule_near : List Str := ["self"]
theorem sc_Rule_near : FnScope n_Rule_near p_Rule_near (defScope s_Rule_near) := ⟨rfl, rfl, rfl, by decide +kernel, rfl, by decide +kernel, by decide +kernel⟩
abbrev s_Rule_signs : Stmt := meth (top 44) 6
abbrev n_Rule_signs : List Str := ["self"]
abbrev p_Rule_signs : List Str := ["self"]
theorem sc_Rule_signs : FnScope n_Rule_signs p_Rule_signs (defScope s_Rule_signs) := ⟨rfl, rfl, rfl, by decide +kernel, rfl, by decide +kernel, by decide +kernel⟩
abbrev s_Rule_test_holds : Stmt := meth (top 44) 7
abbrev n_Rule_test_holds : List Str := ["self", "test", "around", "word", "low", "high", "counted", "sign"]
abbrev p_Rule_test_holds : List Str := ["self", "test", "around"]
theorem sc_Rule_test_holds : FnScope n_Rule_test_holds p_Rule_test_holds (defScope s_Rule_test_holds) := ⟨rfl, rfl, rfl, by decide +kernel, rfl, by decide +kernel, by decide +kernel⟩
abbrev s_Rule_fate : Stmt := meth (top 44) 8
abbrev n_Rule_fate : List Str := ["self", "own", "around", "mine", "tests", "sign", "test"]
abbrev p_Rule_fate : List Str := ["self", "own", "around"]
theorem sc_Rule_fate : FnScope n_Rule_fate p_Rule_fate (defScope s_Rule_fate) := ⟨rfl, rfl, rfl, by decide +kernel, rfl, by decide +kernel, by decide +kernel⟩
structure Txt (w : World) (K : PySem.W.Frag) (mg : Str → Option Value) (ad : Nat → Addr) (fd : Nat → FuncData) : Prop where
  m_isinstance : mg "isinstance" = none
  m_int : mg "int" = none
  m_bool : mg "bool" = none
  m_str : mg "str" = none
  m_len : mg "len" = none
  m_all : mg "all" = none
  m_zip : mg "zip" = none
  m_sorted : mg "sorted" = none
  m_range : mg "range" = none
  m_sum : mg "sum" = none
  m_list : mg "list" = none
  m_tuple : mg "tuple" = none
  m_set : mg "set" = none
  m_abs : mg "abs" = none
  m_min : mg "min" = none
  m_enumerate : mg "enumerate" = none
  c_SIGNS : HasC mg "SIGNS" (.str ".abcdefghijklmnopqrstuvwxyz")
  c_PLACES : HasT K mg "PLACES" [.str "n", .str "ne", .str "e", .str "se", .str "s", .str "sw", .str "w", .str "nw"]
  c_MOST_STATES : HasC mg "MOST_STATES" (.int 64)
  c_STRAIGHT : HasT K mg "STRAIGHT" [.str "n", .str "e", .str "s", .str "w"]
  c_MOST_TESTS : HasC mg "MOST_TESTS" (.int 8)
  c_OFFS : HasDic K w mg "OFFS" [("n", [.int 0, .int (-1)]), ("ne", [.int 1, .int (-1)]), ("e", [.int 1, .int 0]), ("se", [.int 1, .int 1]), ("s", [.int 0, .int 1]), ("sw", [.int (-1), .int 1]), ("w", [.int (-1), .int 0]), ("nw", [.int (-1), .int (-1)])]
  c_FOLDED : HasC mg "FOLDED" (.str "")
  c_SORTS : HasT K mg "SORTS" [.str "around", .str "halves", .str "blocks"]
  c_MOST_ROWS : HasC mg "MOST_ROWS" (.int 80)
  cl_Strip : Cls K (ad 24)
  mk_Strip : Mk K (ad 24) (ad 3100)
  g_Strip : mg "Strip" = some (.ref (ad 24))
  is_Strip : IsC K (ad 24)
  ne_Strip : OwnNe K (ad 24)
  na_Strip_ruled : NoAttr K (ad 24) "ruled"
  na_Strip_brim : NoAttr K (ad 24) "brim"
  na_Strip_offs : NoAttr K (ad 24) "offs"
  na_Strip_letters : NoAttr K (ad 24) "letters"
  na_Strip_states : NoAttr K (ad 24) "states"
  na_Strip_ways_on : NoAttr K (ad 24) "ways_on"
  cl_Rule : Cls K (ad 44)
  mk_Rule : Mk K (ad 44) (ad 3200)
  g_Rule : mg "Rule" = some (.ref (ad 44))
  is_Rule : IsC K (ad 44)
  ne_Rule : OwnNe K (ad 44)
  na_Rule_sort_told : NoAttr K (ad 44) "sort_told"
  na_Rule_count : NoAttr K (ad 44) "count"
  na_Rule_looked_at : NoAttr K (ad 44) "looked_at"
  na_Rule_listed : NoAttr K (ad 44) "listed"
  h_is_whole : HasFn K mg "is_whole" s_is_whole p_is_whole (ad 14) (fd 14)
  h_is_from_to : HasFn K mg "is_from_to" s_is_from_to p_is_from_to (ad 15) (fd 15)
  h_is_sign : HasFn K mg "is_sign" s_is_sign p_is_sign (ad 16) (fd 16)
  h_is_signs : HasFn K mg "is_signs" s_is_signs p_is_signs (ad 17) (fd 17)
  h_is_place : HasFn K mg "is_place" s_is_place p_is_place (ad 18) (fd 18)
  h_need_strip : HasFn K mg "need_strip" s_need_strip p_need_strip (ad 22) (fd 22)
  h_words_of : HasFn K mg "words_of" s_words_of p_words_of (ad 23) (fd 23)
  h_columns_of : HasFn K mg "columns_of" s_columns_of p_columns_of (ad 25) (fd 25)
  h_rows_of : HasFn K mg "rows_of" s_rows_of p_rows_of (ad 26) (fd 26)
  h_strip_for : HasFn K mg "strip_for" s_strip_for p_strip_for (ad 27) (fd 27)
  h_counts_on : HasFn K mg "counts_on" s_counts_on p_counts_on (ad 29) (fd 29)
  h_how_many : HasFn K mg "how_many" s_how_many p_how_many (ad 30) (fd 30)
  h_picked : HasFn K mg "picked" s_picked p_picked (ad 31) (fd 31)
  h_forebear : HasFn K mg "forebear" s_forebear p_forebear (ad 32) (fd 32)
  h_is_near : HasFn K mg "is_near" s_is_near p_is_near (ad 38) (fd 38)
  h_are_of : HasFn K mg "are_of" s_are_of p_are_of (ad 39) (fd 39)
  h_is_test : HasFn K mg "is_test" s_is_test p_is_test (ad 40) (fd 40)
  h_is_cell_row : HasFn K mg "is_cell_row" s_is_cell_row p_is_cell_row (ad 41) (fd 41)
  h_is_text_of : HasFn K mg "is_text_of" s_is_text_of p_is_text_of (ad 42) (fd 42)
  h_is_block_row : HasFn K mg "is_block_row" s_is_block_row p_is_block_row (ad 43) (fd 43)
  h_Lbag : HasFn K mg "_law_bag" s_Lbag p_Lbag (ad 46) (fd 46)
  h_Ltake : HasFn K mg "_law_take" s_Ltake p_Ltake (ad 47) (fd 47)
  h_Lsigns : HasFn K mg "_law_signs" s_Lsigns p_Lsigns (ad 48) (fd 48)
  h_Lsome : HasFn K mg "_law_some" s_Lsome p_Lsome (ad 49) (fd 49)
  h_Lnear : HasFn K mg "_law_near" s_Lnear p_Lnear (ad 50) (fd 50)
  h_Ltest : HasFn K mg "_law_test" s_Ltest p_Ltest (ad 51) (fd 51)
  h_Lrow : HasFn K mg "_law_row" s_Lrow p_Lrow (ad 52) (fd 52)
  h_Lblock_row : HasFn K mg "_law_block_row" s_Lblock_row p_Lblock_row (ad 53) (fd 53)
  h_Lrule : HasFn K mg "_law_rule" s_Lrule p_Lrule (ad 54) (fd 54)
  h_Lholds : HasFn K mg "_law_holds" s_Lholds p_Lholds (ad 55) (fd 55)
  h_Lbecomes : HasFn K mg "_law_becomes" s_Lbecomes p_Lbecomes (ad 56) (fd 56)
  h_Loff : HasFn K mg "_law_off" s_Loff p_Loff (ad 57) (fd 57)
  h_Lmiddle : HasFn K mg "_law_middle" s_Lmiddle p_Lmiddle (ad 58) (fd 58)
  h_Lletters : HasFn K mg "_law_letters" s_Lletters p_Lletters (ad 59) (fd 59)
  h_Lcolumns : HasFn K mg "_law_columns" s_Lcolumns p_Lcolumns (ad 60) (fd 60)
  h_Lrows : HasFn K mg "_law_rows" s_Lrows p_Lrows (ad 61) (fd 61)
  h_Lstrip : HasFn K mg "_law_strip" s_Lstrip p_Lstrip (ad 62) (fd 62)
  h_Lnext_rows : HasFn K mg "_law_next_rows" s_Lnext_rows p_Lnext_rows (ad 63) (fd 63)
  h_Lmade_rule : HasFn K mg "_law_made_rule" s_Lmade_rule p_Lmade_rule (ad 64) (fd 64)
  h_Lwords : HasFn K mg "_law_words" s_Lwords p_Lwords (ad 65) (fd 65)
  h_law : HasFn K mg "law" s_law p_law (ad 66) (fd 66)
  h_Strip___init__ : HasMt K (ad 24) "__init__" "Strip.__init__" s_Strip___init__ p_Strip___init__ (ad 3100) (fd 3100)
  h_Strip_sign_in : HasMt K (ad 24) "sign_in" "Strip.sign_in" s_Strip_sign_in p_Strip_sign_in (ad 3101) (fd 3101)
  h_Strip_made : HasMt K (ad 24) "made" "Strip.made" s_Strip_made p_Strip_made (ad 3102) (fd 3102)
  h_Strip_ways_of : HasMt K (ad 24) "ways_of" "Strip.ways_of" s_Strip_ways_of p_Strip_ways_of (ad 3103) (fd 3103)
  h_Strip_behind : HasMt K (ad 24) "behind" "Strip.behind" s_Strip_behind p_Strip_behind (ad 3104) (fd 3104)
  h_Rule___init__ : HasMt K (ad 44) "__init__" "Rule.__init__" s_Rule___init__ p_Rule___init__ (ad 3200) (fd 3200)
  h_Rule_is_row : HasMt K (ad 44) "is_row" "Rule.is_row" s_Rule_is_row p_Rule_is_row (ad 3201) (fd 3201)
  h_Rule_kind : HasMt K (ad 44) "kind" "Rule.kind" s_Rule_kind p_Rule_kind (ad 3202) (fd 3202)
  h_Rule_many : HasMt K (ad 44) "many" "Rule.many" s_Rule_many p_Rule_many (ad 3203) (fd 3203)
  h_Rule_near : HasMt K (ad 44) "near" "Rule.near" s_Rule_near p_Rule_near (ad 3204) (fd 3204)
  h_Rule_signs : HasMt K (ad 44) "signs" "Rule.signs" s_Rule_signs p_Rule_signs (ad 3206) (fd 3206)
  h_Rule_test_holds : HasMt K (ad 44) "test_holds" "Rule.test_holds" s_Rule_test_holds p_Rule_test_holds (ad 3207) (fd 3207)
  h_Rule_fate : HasMt K (ad 44) "fate" "Rule.fate" s_Rule_fate p_Rule_fate (ad 3208) (fd 3208)
section
variable {P : Program} {w : World} {K : PySem.W.Frag} {mg : Str → Option Value} {base : Heap} {ad : Nat → Addr} {fd : Nat → FuncData}
def isW : D → Bool
  | .v (.int _) => true
  | _ => false
def t_is_whole : TF := fun W ds Q _ => ∃ d t, ds = [d] ∧ tyD d = some t ∧ Q (.bl (isW d))
theorem ok_is_whole (T : Txt w K mg ad fd) : FnG P w K mg base CX0 1 (ad 14) (fd 14) p_is_whole (spD K 1 t_is_whole) := by
  refine okD T.h_is_whole.F sc_is_whole (fun cdv A outer s H E hr => ⟨_, _, fun W => (dss_one (ds_ret (de_and (de_isi T.m_isinstance (da_cons (dv 0) (da_cons (de_ty "int" T.m_int) da_nil))) (de_one (de_not (de_isi T.m_isinstance (da_cons (dv 0) (da_cons (de_ty "bool" T.m_bool) da_nil)))))))), fun W ds Q hl ht => ?_⟩) (fun _ _ _ _ h => h)
  obtain ⟨d, t, rfl, ht, hq⟩ := ht
  simp only [isW] at hq
  rcases d with (_ | _ | _ | _ | _ | _ | _ | _) | _ | _ | _ | _ | _ <;> simp [isTy, tyL] at ht ⊢ <;> first | exact hq | cases ht
def t_is_from_to : TF := fun W ds Q _ => ∃ (d : D) (t : String) (a b : Int), ds = [d, .int a, .int b] ∧ tyD d = some t ∧ Q (.bl (match d with | .v (.int i) => decide (a ≤ i ∧ i ≤ b) | _ => false))
theorem ok_is_from_to (T : Txt w K mg ad fd) : FnG P w K mg base CX0 2 (ad 15) (fd 15) p_is_from_to (spD K 3 t_is_from_to) := by
  have G_is_whole := ok_is_whole (P := P) (w := w) (base := base) T
  refine okD T.h_is_from_to.F sc_is_from_to (fun cdv A outer s H E hr => ⟨_, _, fun W => (dss_one (ds_ret (de_and (de_call G_is_whole (hr.mono (by decide)) T.h_is_whole.g T.h_is_whole.k T.h_is_whole.b pass0 (da_cons (dv 0) da_nil)) (de_one (de_chain op_le op_le .i0 .i0 (dv 1) (dv 0) (dv 2)))))), fun W ds Q hl ht => ?_⟩) (fun _ _ _ _ h => h)
  obtain ⟨d, t, a, b, rfl, ht, hq⟩ := ht
  simp [t_is_whole]
  refine ⟨⟨t, ht⟩, ?_⟩
  rcases d with (_ | _ | i | _ | _ | _ | _ | _) | _ | _ | _ | _ | _ <;> simp [isW] at hq ⊢ <;> first | exact hq | skip
  by_cases h1 : a ≤ i <;> simp [h1] at hq ⊢ <;> exact hq
def t_Ltake : TF := tTake
theorem ok_Ltake (T : Txt w K mg ad fd) : FnG P w K mg base CX0 1 (ad 47) (fd 47) p_Ltake (spD K 2 t_Ltake) := by
  refine fnG0 T.h_Ltake.F sc_Ltake (fun vs H Q E h => spD_len h) fun cdv A outer s H vs Q E hr h => ?_
  obtain ⟨W, I, ds, Qd, R, ok, al, hl, ht, hq, hx⟩ := h
  refine ⟨_, pss_cons (ps_if (pt_cmpR op_eq (pe_ix ix_list (pv 0) pe_int (fun _ _ => rfl)) pe_int (nomark _))
      (pss_cons (ps_set (i := 2) sc_Ltake.nd rfl (Or.inl rfl) pe_int)
      (pss_cons (ps_if (pt_cmpR op_lt (pe_ix ix_list (pv 0) pe_int (fun _ _ => rfl)) (pe_callB call_len_seq (by rfl) T.m_len PySem.boot_len (pa_cons (pe_ix ix_list (pv 0) pe_int (fun _ _ => rfl)) pa_nil)) (nomark _))
          (pss_one (ps_set (i := 2) sc_Ltake.nd rfl (Or.inl rfl) (pe_ix ix_list (pe_ix ix_list (pv 0) pe_int (fun _ _ => rfl)) (pe_ix ix_list (pv 0) pe_int (fun _ _ => rfl)) (fun _ _ => rfl)))) pss_nil)
      (pss_cons (ps_augS (pv 0) pe_int get_list pe_int ip_add set_list)
      (pss_cons (ps_if (pt_cmpR op_ge (pv 2) pe_int (nomark _)) (pss_one (ps_asg (pv 2) (pg_sub (pv 0) pe_int set_list))) pss_nil)
      (pss_one (ps_asg (pe_op op_mod (pe_op op_add (pe_op op_add (pe_op op_mul (pe_ix ix_list (pv 0) pe_int (fun _ _ => rfl)) pe_int) (pe_op op_mod (pv 2) pe_int)) (pe_op op_mul pe_int (pe_ix ix_list (pv 0) pe_int (fun _ _ => rfl)))) pe_int) (pg_sub (pv 0) pe_int set_list)))))))
      pss_nil)
    (pss_cons (ps_if (pt_cmpR op_gt (pe_ix ix_list (pv 0) pe_int (fun _ _ => rfl)) pe_int (nomark _))
      (pss_cons (ps_set (i := 3) sc_Ltake.nd rfl (Or.inl rfl) (pe_op op_mod (pe_ix ix_list (pv 0) pe_int (fun _ _ => rfl)) (pv 1)))
      (pss_cons (ps_asg (pe_op op_fdivW (pe_ix ix_list (pv 0) pe_int (fun _ _ => rfl)) (pv 1)) (pg_sub (pv 0) pe_int set_list))
      (pss_one (ps_ret (pv 3))))) pss_nil)
    (pss_cons (ps_set (i := 4) sc_Ltake.nd rfl (Or.inl rfl) (pe_op op_mod (pe_op op_mul (pe_op op_add (pe_ix ix_list (pv 0) pe_int (fun _ _ => rfl)) pe_int) pe_int) pe_int))
    (pss_cons (ps_set (i := 5) sc_Ltake.nd rfl (Or.inl rfl) (pe_op op_mod (pe_op op_mul (pe_op op_mod (pe_op op_mul (pv 4) (pv 4)) pe_int) pe_int) pe_int))
    (pss_cons (ps_if (pt_cmpR op_gt (pv 1) pe_int (nomark _)) (pss_one (ps_ret (pe_op op_mod (pe_op op_add (pe_op op_mul (pv 5) pe_int) (pv 4)) (pv 1)))) pss_nil)
    (pss_one (ps_ret (pe_op op_mod (pe_op op_fdiv (pv 5) pe_int) (pv 1)))))))), ?_⟩
  refine read_take ok al ht hq fun b c cells n0 m0 k0 many B0 h0 h1 fin e => ?_
  subst e
  have lk : ∀ {n m k : Int}, atI [V.int n, .int m, .int k, .ref c] 0 = some (.int n) ∧ atI [V.int n, .int m, .int k, .ref c] 1 = some (.int m) ∧ atI [V.int n, .int m, .int k, .ref c] 2 = some (.int k) ∧ atI [V.int n, .int m, .int k, .ref c] 3 = some (.ref c) := ⟨rfl, rfl, rfl, rfl⟩
  refine of_seq (fun σ H' => ∃ (v2 : Option V) (n m k : Int), σ = [some (.ref b), some (.int many), v2, none, none, none] ∧ BagAt b c cells I H H' n m k) ?_ ?_
  · rintro σ H1 ⟨v2, n, m, k, rfl, B⟩
    have hB := B.2.2.2
    -- if bag[0] > 0: value = bag[0] % many; bag[0] = bag[0] // many; return value
    refine ⟨_, rfl, _, _, _, _, rfl, rfl, SqL.of hB, lk.1, _, _, rfl, rfl, _, rfl, ?_⟩
    refine ite2 (fun _ => ?_) (fun _ => ?_)
    · refine ⟨_, rfl, _, _, _, _, rfl, rfl, SqL.of hB, lk.1, _, rfl, _, _, rfl, rfl, h0, ?_⟩
      refine ⟨_, rfl, _, _, _, _, rfl, rfl, SqL.of hB, lk.1, _, rfl, _, _, rfl, rfl, ⟨h0, ?_⟩, ?_⟩
      · have : many.natAbs < 2 ^ 200 := by omega
        exact Nat.lt_of_lt_of_le (PySem.Flt.log2_lt_of (by decide) this) (by decide)
      refine ⟨_, rfl, _, _, _, 0, rfl, rfl, hB, rfl, ?_⟩
      refine ⟨_, rfl, fin _ _ _ _ _ (Int.emod_nonneg _ (by omega)) (Int.emod_lt_of_pos _ h0) (B.set (Int.ediv_nonneg B.2.1 (by omega)) B.2.2.1)⟩
    · refine ⟨_, rfl, _, _, _, _, rfl, rfl, SqL.of hB, lk.2.1, _, _, rfl, rfl, _, _, rfl, rfl, .inr ⟨by decide, by decide⟩, _, _, rfl, rfl, (by show (0 : Int) < 1000000007; decide), ?_⟩
      refine ⟨_, rfl, _, rfl, _, _, rfl, rfl, .inl ⟨?_, ?_⟩, _, _, rfl, rfl, (by show (0 : Int) < 998244353; decide), _, _, rfl, rfl, .inr ⟨by decide, by decide⟩, _, _, rfl, rfl, (by show (0 : Int) < 998244353; decide), ?_⟩
      · exact Int.lt_of_lt_of_le (by decide) (Int.emod_nonneg _ (by decide))
      · exact Int.lt_trans (Int.emod_lt_of_pos _ (by decide)) (by decide : (1000000007 : Int) < 2 ^ 64)
      refine ⟨_, rfl, _, _, rfl, rfl, _, rfl, ?_⟩
      refine ite2 (fun _ => ?_) (fun _ => ?_)
      · refine ⟨_, rfl, _, _, rfl, rfl, .inr ⟨by decide, by decide⟩, _, rfl, _, _, rfl, rfl, _, rfl, _, _, rfl, rfl, h0, ?_⟩
        exact fin _ _ _ _ _ (Int.emod_nonneg _ (by omega)) (Int.emod_lt_of_pos _ h0) B
      · refine ⟨_, rfl, _, _, rfl, rfl, ⟨by decide, by decide⟩, _, rfl, _, _, rfl, rfl, h0, ?_⟩
        exact fin _ _ _ _ _ (Int.emod_nonneg _ (by omega)) (Int.emod_lt_of_pos _ h0) B
  · intro rest
    have hB := B0.2.2.2
    refine ⟨_, rfl, _, _, _, _, rfl, rfl, SqL.of hB, lk.1, rfl, _, rfl, ?_⟩
    refine ite2 (fun _ => ?_) (fun _ => rest _ _ ⟨_, _, _, _, rfl, B0⟩)
    refine seq_c ?_
    refine of_seq (fun σ H' => ∃ (cell n m k : Int), σ = [some (.ref b), some (.int many), some (.int cell), none, none, none] ∧ 0 ≤ cell ∧ BagAt b c cells I H H' n m k) ?_ ?_
    · rintro σ H1 ⟨cell, n, m, k, rfl, hc, B⟩
      have hB := B.2.2.2
      have hc' := B.cells
      -- bag[2] += 1; if cell >= 10 ** 18: bag[0] = cell; bag[1] = (bag[1] * 48271 + cell % 2147483647 + 7919 * bag[2]) % 2147483647
      refine ⟨_, rfl, _, _, _, _, rfl, rfl, SqL.of hB, (by decide), (by decide), rfl, _, _, rfl, rfl, _, _, _, 2, rfl, rfl, hB, rfl, ?_⟩
      have B1 : BagAt b c cells I H (upd H1 b (.lst [.int n, .int m, .int (k + 1), .ref c])) n m (k + 1) := B.set B.2.1 (by have := B.2.2.1; omega)
      have hB1 := B1.2.2.2
      refine ⟨_, rfl, _, _, rfl, rfl, _, rfl, ?_⟩
      refine ite2 (fun hge => ?_) (fun _ => ?_)
      · refine ⟨_, rfl, _, rfl, _, _, _, 0, rfl, rfl, hB1, rfl, ?_⟩
        have B2 : BagAt b c cells I H _ cell m (k + 1) := B1.set hc B1.2.2.1
        have hB2 := B2.2.2.2
        refine ⟨_, rfl, _, _, _, _, rfl, rfl, SqL.of hB2, lk.2.1, _, _, rfl, rfl, .inr ⟨by decide, by decide⟩, _, rfl, _, _, rfl, rfl, (by show (0 : Int) < 2147483647; decide), _, _, rfl, rfl, _, rfl, _, _, _, _, rfl, rfl, SqL.of hB2, lk.2.2.1, _, _, rfl, rfl, .inl ⟨by decide, by decide⟩, _, _, rfl, rfl, _, _, rfl, rfl, (by show (0 : Int) < 2147483647; decide), ?_⟩
        refine ⟨_, rfl, _, _, _, 1, rfl, rfl, hB2, rfl, ?_⟩
        exact rest _ _ ⟨_, _, _, _, rfl, B2.set B2.2.1 B2.2.2.1⟩
      · refine ⟨_, rfl, _, _, _, _, rfl, rfl, SqL.of hB1, lk.2.1, _, _, rfl, rfl, .inr ⟨by decide, by decide⟩, _, rfl, _, _, rfl, rfl, (by show (0 : Int) < 2147483647; decide), _, _, rfl, rfl, _, rfl, _, _, _, _, rfl, rfl, SqL.of hB1, lk.2.2.1, _, _, rfl, rfl, .inl ⟨by decide, by decide⟩, _, _, rfl, rfl, _, _, rfl, rfl, (by show (0 : Int) < 2147483647; decide), ?_⟩
        refine ⟨_, rfl, _, _, _, 1, rfl, rfl, hB1, rfl, ?_⟩
        exact rest _ _ ⟨_, _, _, _, rfl, B1.set B1.2.1 B1.2.2.1⟩
    · intro rest2
      refine ⟨_, rfl, _, _, _, _, rfl, rfl, SqL.of hB, lk.2.2.1, _, rfl, _, _, _, _, rfl, rfl, SqL.of hB, lk.2.2.2, _, _, rfl, .inl (SqL.of B0.cells.1), _, _, rfl, rfl, _, rfl, ?_⟩
      refine ite2 (fun hlt => ?_) (fun _ => ?_)
      · obtain ⟨v, e1, e2⟩ := atI_some (xs := cells.map V.int) B0.2.2.1 (of_decide_eq_true hlt)
        obtain ⟨z, hz, rfl⟩ := List.mem_map.mp e2
        refine ⟨_, rfl, _, _, _, _, rfl, rfl, SqL.of hB, lk.2.2.2, _, rfl, _, _, _, _, rfl, rfl, SqL.of hB, lk.2.2.1, _, _, _, _, rfl, rfl, SqL.of B0.cells.1, e1, ?_⟩
        exact rest2 _ _ ⟨_, _, _, _, rfl, B0.cells.2.1 z hz, B0⟩
      · exact rest2 _ _ ⟨_, _, _, _, rfl, Int.le_refl 0, B0⟩
theorem ok_Lbag (T : Txt w K mg ad fd) : FnG P w K mg base CX0 1 (ad 46) (fd 46) p_Lbag (spBag K) := by
  refine fnG0 T.h_Lbag.F sc_Lbag (fun vs H Q E h => ?_) fun cdv A outer s H vs Q E hr h => ?_
  · obtain ⟨a, ns, rfl, _⟩ := h
    rfl
  obtain ⟨a, ns, rfl, hq, hl, hk⟩ := h
  refine ⟨_, pss_one (ps_ret (pe_lst (pa_cons pe_int (pa_cons pe_int (pa_cons pe_int (pa_cons (pe_lc (own := [("_law_cell", 1)]) (g := gName 1) (tt := tYes) rfl sc_Lbag.nd (pi_list (pe_slice sl_list (pv 0) po_none (po_some pe_int))) (blkOk_by (by kernel_rfl)) (fun _ _ _ _ _ => pg_name (i := 1) sc_Lbag.nd rfl (Or.inl rfl)) (fun _ _ _ _ _ => pts_nil) (fun _ _ _ _ _ => pe_callB call_abs (by rfl) T.m_abs (by decide +kernel) (pa_cons (pv 1) pa_nil))) pa_nil)))))), ?_⟩
  exact read_bag (K := K) rfl (fun _ => rfl) hq hl hk
def strP (p : List Nat → Bool) : D → Bool
  | .v (.str s) => p s.cps.toList
  | _ => false
@[simp] theorem strP_sD {P : List Nat → Bool} {l : List Nat} : strP P (sD l) = P l := by simp [strP]
/-- whatever may be handed in: texts not too long -/
structure Arg (d : D) : Prop where
  ty : ∃ t, tyD d = some t
  len : ∀ s, d = .v (.str s) → s.length ≤ 16777216
  ch : ∀ s, d = .v (.str s) → ∀ c ∈ s.cps.toList, c < 0x110000
def allSig (l : List Nat) : Bool := l.all fun c => decide (c ∈ SIG)
def isSignL (l : List Nat) : Bool := decide (l.length = 1) && allSig l
def risesL (l : List Nat) : Bool := (List.range (l.length - 1)).all fun k => decide (l.getD k 0 < l.getD (k + 1) 0)
def isSignsL (l : List Nat) : Bool := !l.isEmpty && allSig l && risesL l
def placesL : List (List Nat) := [[110], [110, 101], [101], [115, 101], [115], [115, 119], [119], [110, 119]]
def isPlaceL (l : List Nat) : Bool := inV (.str (mk l)) [.str "n", .str "ne", .str "e", .str "se", .str "s", .str "sw", .str "w", .str "nw"]
theorem zip_tail (l : List Nat) : l.zip (l.drop 1) = (List.range (l.length - 1)).map fun k => (l.getD k 0, l.getD (k + 1) 0) := by
  refine List.ext_getElem (by simp) fun k h1 h2 => ?_
  have h : k + 1 < l.length := by simp at h1; omega
  simp [h, show k < l.length by omega, Nat.add_comm 1 k]
def t_is_sign : TF := fun W ds Q _ => ∃ d, ds = [d] ∧ Arg d ∧ Q (.bl (strP isSignL d))
theorem ok_is_sign (T : Txt w K mg ad fd) : FnG P w K mg base CX0 1 (ad 16) (fd 16) p_is_sign (spD K 1 t_is_sign) := by
  obtain ⟨u_SIGNS, g_SIGNS, r_SIGNS⟩ := T.c_SIGNS
  refine okD T.h_is_sign.F sc_is_sign (fun cdv A outer s H E hr => ⟨_, _, fun W => (dss_one (ds_ret (de_and (de_isi T.m_isinstance (da_cons (dv 0) (da_cons (de_ty "str" T.m_str) da_nil))) (de_and (de_eq hr.units (de_len T.m_len (da_cons (dv 0) da_nil)) de_int) (de_one (de_in (dv 0) (de_glob g_SIGNS r_SIGNS))))))), fun W ds Q hl ht => ?_⟩) (fun _ _ _ _ h => h)
  obtain ⟨d, rfl, ⟨⟨t, ht⟩, hl, hch⟩, hq⟩ := ht
  by_cases hd : ∃ s, d = .v (.str s)
  case neg =>
    rcases d with (_ | _ | _ | _ | _ | _ | _ | _) | _ | _ | _ | _ | _ <;> simp [isTy, tyL, strP] at ht hq ⊢ <;> first | exact absurd ⟨_, rfl⟩ hd | exact hq | cases ht
  obtain ⟨s, rfl⟩ := hd
  have hs := hl s rfl
  obtain ⟨l, rfl⟩ : ∃ l, s = mk l := ⟨_, mk_of s⟩
  simp at hs
  simp [isTy, tyL, strP, isSignL, allSig] at hq ⊢
  refine ⟨hs, ?_⟩
  match l, hq with
  | [], hq => simp at hq ⊢; exact hq
  | [c], hq => simp [sig_eq] at hq ⊢; exact hq
  | c :: c2 :: l, hq => simp at hq ⊢; rw [if_neg (by omega)]; exact hq
def t_is_signs : TF := fun W ds Q _ => ∃ d, ds = [d] ∧ Arg d ∧ Q (.bl (strP isSignsL d))
theorem ok_is_signs (T : Txt w K mg ad fd) : FnG P w K mg base CX0 1 (ad 17) (fd 17) p_is_signs (spD K 1 t_is_signs) := by
  obtain ⟨u_SIGNS, g_SIGNS, r_SIGNS⟩ := T.c_SIGNS
  refine okD T.h_is_signs.F sc_is_signs (fun cdv A outer s H E hr => ⟨_, _, fun W => (dss_cons (ds_if (DW.t (dw_or (dt_not (dt_val (de_isi T.m_isinstance (da_cons (dv 0) (da_cons (de_ty "str" T.m_str) da_nil))))) (dw_or (dt_eq hr.units (dv 0) de_str) (dw_or1 (dt_not (dt_val (de_all T.m_all (da_cons (DO.e (do_lc rfl sc_is_signs.nd (di_any (dv 0)) (blkOk_by (own := [("sign", 3)]) (N := n_is_signs) (by kernel_rfl)) (fun _ _ _ _ _ => (dg_name (i := 3) sc_is_signs.nd)) (fun _ _ _ _ _ => dts_nil) (fun _ _ _ _ _ => (de_in (dv 3) (de_glob g_SIGNS r_SIGNS))))) da_nil)))))))) (dss_one (ds_ret de_bl)) dss_nil)
      (dss_one (ds_ret (de_all T.m_all (da_cons (DO.e (do_lc rfl sc_is_signs.nd (di_zip T.m_zip (da_cons (dv 0) (da_cons (de_sl (dv 0) (dp_some de_int) dp_none) da_nil))) (blkOk_by (own := [("one", 1), ("other", 2)]) (N := n_is_signs) (by kernel_rfl)) (fun _ _ _ _ _ => (dg_tup rfl (dgs_cons (dg_name (i := 1) sc_is_signs.nd) (dgs_cons (dg_name (i := 2) sc_is_signs.nd) dgs_nil)))) (fun _ _ _ _ _ => dts_nil) (fun _ _ _ _ _ => (de_ltS (dv 1) (dv 2))))) da_nil))))), fun W ds Q hl ht => ?_⟩) (fun _ _ _ _ h => h)
  obtain ⟨d, rfl, ⟨⟨t, ht⟩, hl, hch⟩, hq⟩ := ht
  by_cases hd : ∃ s, d = .v (.str s)
  case neg =>
    rcases d with (_ | _ | _ | _ | _ | _ | _ | _) | _ | _ | _ | _ | _ <;> simp [isTy, tyL, strP] at ht hq ⊢ <;> first | exact absurd ⟨_, rfl⟩ hd | exact hq | cases ht
  obtain ⟨s, rfl⟩ := hd
  have hs := hl s rfl
  obtain ⟨l, rfl⟩ : ∃ l, s = mk l := ⟨_, mk_of s⟩
  simp at hs
  simp [isTy, tyL, strP, isSignsL, empty_eq, sig_eq] at hq ⊢
  by_cases h0 : l = []
  · subst h0; simp at hq ⊢; exact hq
  rw [if_neg h0]
  refine ⟨hs, compD_mapG (fun d => .bl (strP (fun l => inS (mk l) (mk SIG)) d)) (fun d hd Kk hk => ?_) ?_⟩
  · obtain ⟨c, _, rfl⟩ := List.mem_map.mp hd
    simp [wipeT, strP] at hk ⊢
    exact hk
  refine ⟨l.map fun c => decide (c ∈ SIG), by simp [strP], ?_⟩
  have ea : (false ∈ l.map fun c => decide (c ∈ SIG)) = (allSig l = false) := false_mem
  by_cases h1 : allSig l = true
  case neg => rw [if_pos (by rw [ea]; simpa using h1)]; simp [h1] at hq; exact hq
  rw [if_neg (by rw [ea, h1]; decide)]
  have h0' : l.isEmpty = false := by cases l <;> simp at h0 ⊢
  simp [h1, h0'] at hq
  have e1 : cutN l (some 1) none = l.drop 1 := cutN_from (a := 1)
  rw [e1]
  refine ⟨hs, ?_, ?_⟩
  · rw [pairsD_len]; simp; omega
  rw [pairsD_map, zip_tail, List.map_map]
  refine compD_mapG (fun d => match d with | .tup [.v (.str a), .v (.str b)] => .bl (decide (a.cps.toList < b.cps.toList)) | d => d) (fun d hd Kk hk => ?_) ?_
  · obtain ⟨k, _, rfl⟩ := List.mem_map.mp hd
    simp [wipeT] at hk ⊢
    exact hk
  refine ⟨(List.range (l.length - 1)).map fun k => decide (l.getD k 0 < l.getD (k + 1) 0), by simp [Function.comp_def, List.cons_lt_cons_iff], ?_⟩
  have e2 : ((List.range (l.length - 1)).map fun k => decide (l.getD k 0 < l.getD (k + 1) 0)).all id = risesL l := by rw [List.all_map]; rfl
  rw [e2]; exact hq
theorem places_eq : ([.str "n", .str "ne", .str "e", .str "se", .str "s", .str "sw", .str "w", .str "nw"] : List V) = placesL.map fun l => V.str (mk l) := by decide +kernel
def t_is_place : TF := fun W ds Q _ => ∃ d, ds = [d] ∧ Arg d ∧ Q (.bl (strP isPlaceL d))
theorem ok_is_place (T : Txt w K mg ad fd) : FnG P w K mg base CX0 1 (ad 18) (fd 18) p_is_place (spD K 1 t_is_place) := by
  obtain ⟨u_PLACES, g_PLACES, r_PLACES⟩ := T.c_PLACES
  refine okD T.h_is_place.F sc_is_place (fun cdv A outer s H E hr => ⟨_, _, fun W => (dss_one (ds_ret (de_and (de_isi T.m_isinstance (da_cons (dv 0) (da_cons (de_ty "str" T.m_str) da_nil))) (de_one (de_in (dv 0) (de_globT g_PLACES r_PLACES)))))), fun W ds Q hl ht => ?_⟩) (fun _ _ _ _ h => h)
  obtain ⟨d, rfl, ⟨⟨t, ht⟩, hl, hch⟩, hq⟩ := ht
  by_cases hd : ∃ s, d = .v (.str s)
  case neg =>
    rcases d with (_ | _ | _ | _ | _ | _ | _ | _) | _ | _ | _ | _ | _ <;> simp [isTy, tyL, strP] at ht hq ⊢ <;> first | exact absurd ⟨_, rfl⟩ hd | exact hq | cases ht
  obtain ⟨s, rfl⟩ := hd
  obtain ⟨l, rfl⟩ : ∃ l, s = mk l := ⟨_, mk_of s⟩
  simp [isTy, tyL, strP, isPlaceL] at hq ⊢
  refine ⟨[.str "n", .str "ne", .str "e", .str "se", .str "s", .str "sw", .str "w", .str "nw"], rfl, by simp, hq⟩
theorem halves_eq : Str.ofString "halves" = mk [104, 97, 108, 118, 101, 115] := by decide +kernel
theorem around_eq : Str.ofString "around" = mk [97, 114, 111, 117, 110, 100] := by decide +kernel
theorem blocks_eq : Str.ofString "blocks" = mk [98, 108, 111, 99, 107, 115] := by decide +kernel
def straightL : List (List Nat) := [[110], [101], [115], [119]]
def nearB (s : Str) (ps : List (List Nat)) : Bool := if s = Str.ofString "halves" then ps.all (fun p => decide (p ∈ straightL)) else decide (s = Str.ofString "around") || ps.isEmpty
theorem place_in {p : List Nat} (h : p ∈ placesL) : isPlaceL p = true := by
  simp only [placesL, List.mem_cons, List.not_mem_nil, or_false] at h
  rcases h with rfl | rfl | rfl | rfl | rfl | rfl | rfl | rfl <;> decide +kernel
theorem place_small {p : List Nat} (h : p ∈ placesL) : p.length ≤ 2 ∧ ∀ c ∈ p, c < 200 := by
  simp only [placesL, List.mem_cons, List.not_mem_nil, or_false] at h
  rcases h with rfl | rfl | rfl | rfl | rfl | rfl | rfl | rfl <;> decide
theorem straight_in {p : List Nat} (h : p ∈ placesL) : inV (.str (mk p)) [.str "n", .str "e", .str "s", .str "w"] = decide (p ∈ straightL) := by
  simp only [placesL, List.mem_cons, List.not_mem_nil, or_false] at h
  rcases h with rfl | rfl | rfl | rfl | rfl | rfl | rfl | rfl <;> decide +kernel
/-- near, of unlike places -/
def t_is_near : TF := fun W ds Q _ => ∃ (s : Str) (ps : List (List Nat)), ds = [.str s, .tup (ps.map sD)] ∧ (∀ p ∈ ps, p ∈ placesL) ∧ ps.Nodup ∧ ps.length ≤ 8 ∧ Q (.bl (nearB s ps))
theorem ok_is_near (T : Txt w K mg ad fd) : FnG P w K mg base CX0 2 (ad 38) (fd 38) p_is_near (spD K 2 t_is_near) := by
  have G_is_place := ok_is_place (P := P) (w := w) (base := base) T
  obtain ⟨u_STRAIGHT, g_STRAIGHT, r_STRAIGHT⟩ := T.c_STRAIGHT
  refine okD T.h_is_near.F sc_is_near (fun cdv A outer s H E hr => ⟨_, _, fun W => (dss_cons (ds_if (DW.t (dw_or (dt_not (dt_val (de_isi T.m_isinstance (da_cons (dv 1) (da_cons (de_ty "tuple" T.m_tuple) da_nil))))) (dw_or (dt_not (dt_val (de_all T.m_all (da_cons (DO.e (do_lc rfl sc_is_near.nd (di_any (dv 1)) (blkOk_by (own := [("place", 2)]) (N := n_is_near) (by kernel_rfl)) (fun _ _ _ _ _ => (dg_name (i := 2) sc_is_near.nd)) (fun _ _ _ _ _ => dts_nil) (fun _ _ _ _ _ => (de_call G_is_place (hr.mono (by decide)) T.h_is_place.g T.h_is_place.k T.h_is_place.b pass0 (da_cons (dv 2) da_nil))))) da_nil)))) (dw_or1 (dt_ne hr.units (de_lenset rfl T.m_len T.m_set (dv 1)) (de_len T.m_len (da_cons (dv 1) da_nil))))))) (dss_one (ds_ret de_bl)) dss_nil)
      (dss_cons (ds_if (dt_eq hr.units (dv 0) de_str) (dss_one (ds_ret (de_all T.m_all (da_cons (DO.e (do_lc rfl sc_is_near.nd (di_any (dv 1)) (blkOk_by (own := [("place", 2)]) (N := n_is_near) (by kernel_rfl)) (fun _ _ _ _ _ => (dg_name (i := 2) sc_is_near.nd)) (fun _ _ _ _ _ => dts_nil) (fun _ _ _ _ _ => (de_in (dv 2) (de_globT g_STRAIGHT r_STRAIGHT))))) da_nil)))) dss_nil)
      (dss_one (ds_ret (de_or (de_eq hr.units (dv 0) de_str) (de_one (de_eq hr.units (dv 1) (de_tup da_nil)))))))), fun W ds Q hl ht => ?_⟩) (fun _ _ _ _ h => h)
  obtain ⟨s, ps, rfl, hp, hd, hl, hq⟩ := ht
  have arg : ∀ p ∈ ps, Arg (sD p) := fun p h => ⟨⟨_, rfl⟩, fun s e => by
    cases e
    have := (place_small (hp p h)).1
    rw [mk_length]; omega, fun s e c hc => by
    cases e
    have := (place_small (hp p h)).2 c (by simpa using hc)
    omega⟩
  have ct : cmpOk (.tup (ps.map sD)) := (dOk.tup (n := 1) fun d hd => by
    obtain ⟨p, h, rfl⟩ := List.mem_map.mp hd
    exact .str fun c hc => by
      have := (place_small (hp p h)).2 c hc
      omega).cmp
  have c0 : cmpOk (.tup []) := (dOk.tup (n := 0) fun d hd => by cases hd).cmp
  have un : D3S.unlike (ps.map mk) (ps.map mk).length = ps.length := by
    rw [unlike_all (List.Pairwise.map mk (fun a b h e => h (mk_inj e)) hd), List.length_map]
  refine tdSeq_if1 false (fun Q R q => ?_) (fun z => nomatch z) (fun _ => ?_)
  · refine tdOr_by false false (fun Q R q => ?_) (fun _ Q R q => tdOr_by false false (fun Q R q => ?_) (fun _ Q R q => ?_) q) q
    · refine tdNot_by true (fun Q R q => ?_) q
      simp [isTy, tyL]
      exact q
    · refine tdNot_by true (fun Q R q => ?_) q
      refine ⟨_, rfl, by rw [List.length_map]; show _ ≤ 16777216; omega, compD_mapG (fun d => .bl (strP isPlaceL d)) (fun d hd K hK => ?_) ?_⟩
      · obtain ⟨p, h, rfl⟩ := List.mem_map.mp hd
        exact ⟨_, rfl, rfl, _, rfl, arg p h, hK⟩
      · refine ⟨ps.map isPlaceL, by simp [Function.comp_def], ?_⟩
        have : (ps.map isPlaceL).all id = true := List.all_eq_true.mpr fun b hb => by
          obtain ⟨p, h, rfl⟩ := List.mem_map.mp hb
          exact place_in (hp p h)
        rw [this]
        exact q
    · refine ⟨_, rfl, ps.map mk, txts_map mk ps, by rw [List.length_map]; unfold PySem.scanBound; omega, ?_⟩
      rw [un]
      refine ⟨_, rfl, ?_⟩
      show fEqN true (.int (ps.length : Nat)) (.int ((ps.map sD).length : Nat)) (fun d => onBl d Q)
      rw [fEqN_int, List.length_map]
      simpa using q
  unfold nearB at hq
  refine tdSeq_if1 (decide (s = Str.ofString "halves")) (fun Q R q => ⟨_, rfl, by simp; exact q⟩) (fun h => ?_) (fun h => ?_)
  · have h : s = Str.ofString "halves" := by simpa using h
    rw [if_pos h] at hq
    refine ⟨_, rfl, by rw [List.length_map]; show _ ≤ 16777216; omega, compD_mapG (fun d => match d with | .v (.str x) => .bl (inV (.str x) [.str "n", .str "e", .str "s", .str "w"]) | d => d) (fun d hd K hK => ?_) ?_⟩
    · obtain ⟨p, h, rfl⟩ := List.mem_map.mp hd
      refine ⟨_, rfl, ?_⟩
      simp
      exact ⟨[.str "n", .str "e", .str "s", .str "w"], rfl, by simp, hK⟩
    · refine ⟨ps.map fun p => decide (p ∈ straightL), ?_, ?_⟩
      · rw [List.map_map, List.map_map]
        refine List.map_congr_left fun p h => ?_
        show D.bl (inV (.str (mk p)) _) = _
        rw [straight_in (hp p h)]
        rfl
      · rw [List.all_map]
        exact hq
  · have h : ¬ s = Str.ofString "halves" := by simpa using h
    rw [if_neg h] at hq
    refine tdRet_by _ (fun Q R q => ?_) hq
    refine tdOrV_by (decide (s = Str.ofString "around")) ps.isEmpty (fun Q R q => ⟨_, rfl, by simp; exact q⟩) (fun _ Q R q => ⟨_, rfl, by show 0 ≤ sizeLine; decide, ct, c0, ?_⟩) q
    have : eqD (.tup (ps.map sD)) (.tup []) = ps.isEmpty := by cases ps <;> simp [eqD, toPy, toPys, PyData.eqv, PyData.eqvAll]
    rw [this]
    simpa using q
def areOf (S l : List Nat) : Bool := isSignsL l && l.all fun c => decide (c ∈ S)
def t_are_of : TF := fun W ds Q _ => ∃ (d : D) (S : List Nat), ds = [d, sD S] ∧ Arg d ∧ Q (.bl (strP (areOf S) d))
theorem ok_are_of (T : Txt w K mg ad fd) : FnG P w K mg base CX0 2 (ad 39) (fd 39) p_are_of (spD K 2 t_are_of) := by
  have G_is_signs := ok_is_signs (P := P) (w := w) (base := base) T
  refine okD T.h_are_of.F sc_are_of (fun cdv A outer s H E hr => ⟨_, _, fun W => (dss_one (ds_ret (de_and (de_call G_is_signs (hr.mono (by decide)) T.h_is_signs.g T.h_is_signs.k T.h_is_signs.b pass0 (da_cons (dv 0) da_nil)) (de_one (de_all T.m_all (da_cons (DO.e (do_lc rfl sc_are_of.nd (di_any (dv 0)) (blkOk_by (own := [("sign", 2)]) (N := n_are_of) (by kernel_rfl)) (fun _ _ _ _ _ => (dg_name (i := 2) sc_are_of.nd)) (fun _ _ _ _ _ => dts_nil) (fun _ _ _ _ _ => (de_in (dv 2) (dv 1))))) da_nil)))))), fun W ds Q hl ht => ?_⟩) (fun _ _ _ _ h => h)
  obtain ⟨d, S, rfl, ha, hq⟩ := ht
  by_cases hd : ∃ s, d = .v (.str s)
  case neg =>
    refine tdRet_by _ (fun Q R q => ?_) hq
    have e : ∀ p, strP p d = false := fun p => by
      rcases d with (_ | _ | _ | _ | _ | _ | _ | _) | _ | _ | _ | _ | _ <;> first | rfl | exact absurd ⟨_, rfl⟩ hd
    refine tdAndV_by false true (fun Q R q => ⟨_, rfl, rfl, d, rfl, ha, by rw [e]; exact q⟩) (fun z => nomatch z) ?_
    rw [e] at q
    exact q
  obtain ⟨s, rfl⟩ := hd
  obtain ⟨l, rfl⟩ : ∃ l, s = mk l := ⟨_, mk_of s⟩
  have hl := ha.len _ rfl
  rw [mk_length] at hl
  rw [strP_sD] at hq
  refine tdRet_by _ (fun Q R q => ?_) hq
  refine tdAndV_by (isSignsL l) (l.all fun c => decide (c ∈ S)) (fun Q R q => ⟨_, rfl, rfl, _, rfl, ha, by rw [strP_sD]; exact q⟩) (fun _ Q R q => ?_) q
  refine ⟨_, rfl, ?_⟩
  show items (sD l) _
  rw [items_str, signs_mk]
  refine ⟨by rw [List.length_map]; exact hl, compD_mapG (fun d => match d with | .v (.str x) => .bl (inS x (mk S)) | d => d) (fun d hd K hK => ?_) ?_⟩
  · obtain ⟨c, _, rfl⟩ := List.mem_map.mp hd
    simp [wipeT] at hK ⊢
    exact hK
  · refine ⟨l.map fun c => decide (c ∈ S), by simp [Function.comp_def], ?_⟩
    rw [List.all_map]
    exact q
def textOf (n : Int) (S l : List Nat) : Bool := decide ((l.length : Int) = n) && l.all fun c => decide (c ∈ S)
def t_is_text_of : TF := fun W ds Q _ => ∃ (d : D) (n : Int) (S : List Nat), ds = [d, .int n, sD S] ∧ Arg d ∧ Q (.bl (strP (textOf n S) d))
theorem ok_is_text_of (T : Txt w K mg ad fd) : FnG P w K mg base CX0 1 (ad 42) (fd 42) p_is_text_of (spD K 3 t_is_text_of) := by
  refine okD T.h_is_text_of.F sc_is_text_of (fun cdv A outer s H E hr => ⟨_, _, fun W => (dss_one (ds_ret (de_and (de_isi T.m_isinstance (da_cons (dv 0) (da_cons (de_ty "str" T.m_str) da_nil))) (de_and (de_eq hr.units (de_len T.m_len (da_cons (dv 0) da_nil)) (dv 1)) (de_one (de_all T.m_all (da_cons (DO.e (do_lc rfl sc_is_text_of.nd (di_any (dv 0)) (blkOk_by (own := [("sign", 3)]) (N := n_is_text_of) (by kernel_rfl)) (fun _ _ _ _ _ => (dg_name (i := 3) sc_is_text_of.nd)) (fun _ _ _ _ _ => dts_nil) (fun _ _ _ _ _ => (de_in (dv 3) (dv 2))))) da_nil))))))), fun W ds Q hl ht => ?_⟩) (fun _ _ _ _ h => h)
  obtain ⟨d, n, S, rfl, ha, hq⟩ := ht
  obtain ⟨t, hty⟩ := ha.ty
  refine tdRet_by _ (fun Q R q => ?_) hq
  by_cases hd : ∃ s, d = .v (.str s)
  case neg =>
    have e : ∀ p, strP p d = false := fun p => by
      rcases d with (_ | _ | _ | _ | _ | _ | _ | _) | _ | _ | _ | _ | _ <;> first | rfl | exact absurd ⟨_, rfl⟩ hd
    rw [e] at q
    refine tdAndV_by false true (fun Q R q => ?_) (fun z => nomatch z) q
    rcases d with (_ | _ | _ | _ | _ | _ | _ | _) | _ | _ | _ | _ | _ <;> simp [isTy, tyL] at hty ⊢ <;> first | exact absurd ⟨_, rfl⟩ hd | exact q | cases hty
  obtain ⟨s, rfl⟩ := hd
  obtain ⟨l, rfl⟩ : ∃ l, s = mk l := ⟨_, mk_of s⟩
  have hl := ha.len _ rfl
  rw [mk_length] at hl
  rw [strP_sD] at q
  refine tdAndV_by true (textOf n S l) (fun Q R q => ?_) (fun _ Q R q => ?_) q
  · simp [isTy, tyL]
    exact q
  refine tdAndV_by (decide ((l.length : Int) = n)) (l.all fun c => decide (c ∈ S)) (fun Q R q => ⟨_, rfl, by rw [mk_length]; exact hl, _, rfl, ?_⟩) (fun _ Q R q => ?_) q
  · show fEqN false (.int ((mk l).length : Nat)) (.int n) Q
    rw [fEqN_int, mk_length]
    simpa using q
  refine ⟨_, rfl, ?_⟩
  show items (sD l) _
  rw [items_str, signs_mk]
  refine ⟨by rw [List.length_map]; exact hl, compD_mapG (fun d => match d with | .v (.str x) => .bl (inS x (mk S)) | d => d) (fun d hd K hK => ?_) ?_⟩
  · obtain ⟨c, _, rfl⟩ := List.mem_map.mp hd
    simp [wipeT] at hK ⊢
    exact hK
  · refine ⟨l.map fun c => decide (c ∈ S), by simp [Function.comp_def], ?_⟩
    rw [List.all_map]
    exact q
abbrev BRow := List (List Nat) × List Nat
def browD (r : BRow) : D := .tup [.tup (r.1.map sD), sD r.2]
/-- a right row of a rule of blocks -/
structure GoodB (S : List Nat) (r : BRow) : Prop where
  len : r.1.length = 4
  own : ∀ f ∈ r.1, areOf S f = true ∧ f.length ≤ 27
  four : r.2.length = 4
  of : ∀ c ∈ r.2, c ∈ S
def t_is_block_row : TF := fun W ds Q _ => ∃ (r : BRow) (S : List Nat), ds = [browD r, sD S] ∧ GoodB S r ∧ (∀ c ∈ S, c < 0x110000) ∧ Q (.bl true)
theorem ok_is_block_row (T : Txt w K mg ad fd) : FnG P w K mg base CX0 3 (ad 43) (fd 43) p_is_block_row (spD K 2 t_is_block_row) := by
  have G_are_of := ok_are_of (P := P) (w := w) (base := base) T
  have G_is_text_of := ok_is_text_of (P := P) (w := w) (base := base) T
  refine okD T.h_is_block_row.F sc_is_block_row (fun cdv A outer s H E hr => ⟨_, _, fun W => (dss_cons (ds_if (DW.t (dw_or (dt_not (dt_val (de_isi T.m_isinstance (da_cons (dv 0) (da_cons (de_ty "tuple" T.m_tuple) da_nil))))) (dw_or1 (dt_ne hr.units (de_len T.m_len (da_cons (dv 0) da_nil)) de_int)))) (dss_one (ds_ret de_bl)) dss_nil)
      (dss_cons (ds_asg (dv 0) (dg_tup rfl (dgs_cons (dg_name (i := 2) sc_is_block_row.nd) (dgs_cons (dg_name (i := 3) sc_is_block_row.nd) dgs_nil))))
      (dss_cons (ds_if (DW.t (dw_or (dt_not (dt_val (de_isi T.m_isinstance (da_cons (dv 2) (da_cons (de_ty "tuple" T.m_tuple) da_nil))))) (dw_or (dt_ne hr.units (de_len T.m_len (da_cons (dv 2) da_nil)) de_int) (dw_or1 (dt_not (dt_val (de_all T.m_all (da_cons (DO.e (do_lc rfl sc_is_block_row.nd (di_any (dv 2)) (blkOk_by (own := [("one", 4)]) (N := n_is_block_row) (by kernel_rfl)) (fun _ _ _ _ _ => (dg_name (i := 4) sc_is_block_row.nd)) (fun _ _ _ _ _ => dts_nil) (fun _ _ _ _ _ => (de_call G_are_of (hr.mono (by decide)) T.h_are_of.g T.h_are_of.k T.h_are_of.b pass0 (da_cons (dv 4) (da_cons (dv 1) da_nil)))))) da_nil)))))))) (dss_one (ds_ret de_bl)) dss_nil)
      (dss_one (ds_ret (de_call G_is_text_of (hr.mono (by decide)) T.h_is_text_of.g T.h_is_text_of.k T.h_is_text_of.b pass0 (da_cons (dv 3) (da_cons de_int (da_cons (dv 1) da_nil))))))))), fun W ds Q hl ht => ?_⟩) (fun _ _ _ _ h => h)
  obtain ⟨⟨fs, f⟩, S, rfl, g, hS, hq⟩ := ht
  have g1 := g.len
  have g2 := g.own
  have g3 := g.four
  have g4 := g.of
  simp only at g1 g2 g3 g4
  have argS : ∀ l : List Nat, l.length ≤ 27 → (∀ c ∈ l, c ∈ S) → Arg (sD l) := fun l h1 h2 => ⟨⟨_, rfl⟩, fun s e => by cases e; rw [mk_length]; omega, fun s e c hc => by cases e; exact hS c (h2 c (by simpa using hc))⟩
  have inS' : ∀ l ∈ fs, ∀ c ∈ l, c ∈ S := fun l hl c hc => by
    have := (g2 l hl).1
    unfold areOf at this
    rw [Bool.and_eq_true] at this
    exact of_decide_eq_true (List.all_eq_true.mp this.2 c hc)
  refine tdSeq_if1 false (fun Q R q => ?_) (fun z => nomatch z) (fun _ => ?_)
  · refine tdOr_by false false (fun Q R q => ?_) (fun _ Q R q => ?_) q
    · refine tdNot_by true (fun Q R q => ?_) q
      simp [browD, isTy, tyL]
      exact q
    · simp [browD]
      exact q
  refine tdSeq_tup2 (.tup (fs.map sD)) (sD f) (fun Q R q => ⟨_, rfl, q⟩) ?_
  refine tdSeq_if1 false (fun Q R q => ?_) (fun z => nomatch z) (fun _ => ?_)
  · refine tdOr_by false false (fun Q R q => ?_) (fun _ Q R q => tdOr_by false false (fun Q R q => ?_) (fun _ Q R q => ?_) q) q
    · refine tdNot_by true (fun Q R q => ?_) q
      simp [isTy, tyL]
      exact q
    · simp [g1]
      exact q
    · refine tdNot_by true (fun Q R q => ?_) q
      refine ⟨_, rfl, by rw [List.length_map]; show _ ≤ 16777216; omega, compD_mapG (fun d => .bl (strP (areOf S) d)) (fun d hd K hK => ?_) ?_⟩
      · obtain ⟨p, h, rfl⟩ := List.mem_map.mp hd
        exact ⟨_, rfl, _, rfl, rfl, _, S, rfl, argS p (g2 p h).2 (inS' p h), hK⟩
      · refine ⟨fs.map (areOf S), by simp [Function.comp_def], ?_⟩
        have : (fs.map (areOf S)).all id = true := List.all_eq_true.mpr fun b hb => by
          obtain ⟨p, h, rfl⟩ := List.mem_map.mp hb
          exact (g2 p h).1
        rw [this]
        exact q
  refine ⟨_, rfl, _, rfl, rfl, _, 4, S, rfl, argS f (by omega) g4, ?_⟩
  have : strP (textOf 4 S) (sD f) = true := by
    rw [strP_sD]
    unfold textOf
    rw [decide_eq_true (by rw [g3]; rfl), Bool.true_and, List.all_eq_true]
    exact fun c hc => decide_eq_true (g4 c hc)
  rw [this]
  exact hq
theorem sig_lt : ∀ c ∈ SIG, c < 0x110000 := by decide
inductive CTest where
  | at_ (p s : List Nat) | cnt (lo hi : Nat) (s : List Nat)
def testD : CTest → D
  | .at_ p s => .tup [.str "at", sD p, sD s]
  | .cnt lo hi s => .tup [.str "count", .int lo, .int hi, sD s]
structure CRow where
  own : List Nat
  tests : List CTest
  to : Nat
def crowD (r : CRow) : D := .tup [sD r.own, .tup (r.tests.map testD), sD [r.to]]
/-- a right test, a right row of a cell -/
def GoodT (near : Rows) (S : List Nat) : CTest → Prop
  | .at_ p s => p ∈ near ∧ areOf S s = true ∧ s.length ≤ 27
  | .cnt lo hi s => lo ≤ hi ∧ hi ≤ 8 ∧ areOf S s = true ∧ s.length ≤ 27
structure GoodC (near : Rows) (S : List Nat) (r : CRow) : Prop where
  own : areOf S r.own = true
  ol : r.own.length ≤ 27
  to : r.to ∈ S
  tl : r.tests.length ≤ 8
  ts : ∀ t ∈ r.tests, GoodT near S t
theorem areOf_in {S l : List Nat} (h : areOf S l = true) : ∀ c ∈ l, c ∈ S := fun c hc => by
  unfold areOf at h
  rw [Bool.and_eq_true] at h
  exact of_decide_eq_true (List.all_eq_true.mp h.2 c hc)
theorem argS {S l : List Nat} (hS : ∀ c ∈ S, c < 0x110000) (h1 : l.length ≤ 27) (h2 : ∀ c ∈ l, c ∈ S) : Arg (sD l) :=
  ⟨⟨_, rfl⟩, fun s e => by cases e; rw [mk_length]; omega, fun s e c hc => by cases e; exact hS c (h2 c (by simpa using hc))⟩
theorem argP {p : List Nat} (h : p ∈ placesL) : Arg (sD p) := ⟨⟨_, rfl⟩, fun s e => by
    cases e
    have := (place_small h).1
    rw [mk_length]; omega, fun s e c hc => by
    cases e
    have := (place_small h).2 c (by simpa using hc)
    omega⟩
theorem at_eq : Str.ofString "at" = mk [97, 116] := by decide +kernel
theorem count_eq : Str.ofString "count" = mk [99, 111, 117, 110, 116] := by decide +kernel
theorem dOk_sD {S l : List Nat} (hS : ∀ c ∈ S, c < 0x110000) (h : areOf S l = true) : dOk 1 (sD l) := .str fun c hc => hS c (areOf_in h c hc)
theorem dOk_test {near : Rows} {S : List Nat} {t : CTest} (g : GoodT near S t) (hn : ∀ p ∈ near, p ∈ placesL) (hS : ∀ c ∈ S, c < 0x110000) : dOk 2 (testD t) := by
  cases t with
  | at_ p s =>
    obtain ⟨g1, g2, g3⟩ := g
    refine .tup fun d hd => ?_
    simp only [List.mem_cons, List.not_mem_nil, or_false] at hd
    rcases hd with rfl | rfl | rfl
    · rw [at_eq]; exact .str (by decide)
    · exact .str fun c hc => by
        have := (place_small (hn p g1)).2 c hc
        omega
    · exact dOk_sD hS g2
  | cnt lo hi s =>
    obtain ⟨g1, g2, g3, g4⟩ := g
    refine .tup fun d hd => ?_
    simp only [List.mem_cons, List.not_mem_nil, or_false] at hd
    rcases hd with rfl | rfl | rfl | rfl
    · rw [count_eq]; exact .str (by decide)
    · exact .int
    · exact .int
    · exact dOk_sD hS g3
def t_is_test : TF := fun W ds Q _ => ∃ (t : CTest) (near : Rows) (S : List Nat), ds = [testD t, .tup (near.map sD), sD S] ∧ GoodT near S t ∧ (∀ p ∈ near, p ∈ placesL) ∧ (∀ c ∈ S, c < 0x110000) ∧ Q (.bl true)
theorem ok_is_test (T : Txt w K mg ad fd) : FnG P w K mg base CX0 3 (ad 40) (fd 40) p_is_test (spD K 3 t_is_test) := by
  have G_is_from_to := ok_is_from_to (P := P) (w := w) (base := base) T
  have G_is_place := ok_is_place (P := P) (w := w) (base := base) T
  have G_are_of := ok_are_of (P := P) (w := w) (base := base) T
  obtain ⟨u_MOST_TESTS, g_MOST_TESTS, r_MOST_TESTS⟩ := T.c_MOST_TESTS
  refine okD T.h_is_test.F sc_is_test (fun cdv A outer s H E hr => ⟨_, _, fun W => (dss_cons (ds_if (DW.t (dw_or (dt_not (dt_val (de_isi T.m_isinstance (da_cons (dv 0) (da_cons (de_ty "tuple" T.m_tuple) da_nil))))) (dw_or (dt_eq hr.units (dv 0) (de_tup da_nil)) (dw_or1 (dt_not (dt_val (de_isi T.m_isinstance (da_cons (de_ix (dv 0) de_int) (da_cons (de_ty "str" T.m_str) da_nil))))))))) (dss_one (ds_ret de_bl)) dss_nil)
      (dss_cons (ds_star 3 4 rfl sc_is_test.nd (dv 0))
      (dss_cons (ds_if (DW.t (dw_and (dt_eq hr.units (dv 3) de_str) (dw_and1 (dt_eq hr.units (de_len T.m_len (da_cons (dv 4) da_nil)) de_int)))) (dss_one (ds_ret (de_and (de_call G_is_place (hr.mono (by decide)) T.h_is_place.g T.h_is_place.k T.h_is_place.b pass0 (da_cons (de_ix (dv 4) de_int) da_nil)) (de_and (de_in (de_ix (dv 4) de_int) (dv 1)) (de_one (de_call G_are_of (hr.mono (by decide)) T.h_are_of.g T.h_are_of.k T.h_are_of.b pass0 (da_cons (de_ix (dv 4) de_int) (da_cons (dv 2) da_nil)))))))) dss_nil)
      (dss_cons (ds_if (DW.t (dw_or (dt_ne hr.units (dv 3) de_str) (dw_or1 (dt_ne hr.units (de_len T.m_len (da_cons (dv 4) da_nil)) de_int)))) (dss_one (ds_ret de_bl)) dss_nil)
      (dss_cons (ds_asg (dv 4) (dg_lst rfl (dgs_cons (dg_name (i := 5) sc_is_test.nd) (dgs_cons (dg_name (i := 6) sc_is_test.nd) (dgs_cons (dg_name (i := 7) sc_is_test.nd) dgs_nil)))))
      (dss_one (ds_ret (de_and (de_call G_is_from_to (hr.mono (by decide)) T.h_is_from_to.g T.h_is_from_to.k T.h_is_from_to.b pass0 (da_cons (dv 5) (da_cons de_int (da_cons (de_glob g_MOST_TESTS r_MOST_TESTS) da_nil)))) (de_and (de_call G_is_from_to (hr.mono (by decide)) T.h_is_from_to.g T.h_is_from_to.k T.h_is_from_to.b pass0 (da_cons (dv 6) (da_cons (dv 5) (da_cons (de_glob g_MOST_TESTS r_MOST_TESTS) da_nil)))) (de_one (de_call G_are_of (hr.mono (by decide)) T.h_are_of.g T.h_are_of.k T.h_are_of.b pass0 (da_cons (dv 7) (da_cons (dv 2) da_nil))))))))))))), fun W ds Q hl ht => ?_⟩) (fun _ _ _ _ h => h)
  obtain ⟨t, near, S, rfl, g, hn, hS, hq⟩ := ht
  have ct := (dOk_test g hn hS).cmp
  have c0 : cmpOk (.tup []) := (dOk.tup (n := 0) fun d hd => by cases hd).cmp
  have e0 : eqD (testD t) (.tup []) = false := by cases t <;> simp [testD, eqD, toPy, toPys, PyData.eqv, PyData.eqvAll]
  refine tdSeq_if1 false (fun Q R q => ?_) (fun z => nomatch z) (fun _ => ?_)
  · refine tdOr_by false false (fun Q R q => ?_) (fun _ Q R q => tdOr_by false false (fun Q R q => ?_) (fun _ Q R q => ?_) q) q
    · refine tdNot_by true (fun Q R q => ?_) q
      cases t <;> simp [testD, isTy, tyL] <;> exact q
    · refine ⟨_, rfl, by show 0 ≤ sizeLine; decide, ?_⟩
      cases t <;> exact ⟨ct, c0, by rw [e0]; exact q⟩
    · refine tdNot_by true (fun Q R q => ?_) q
      cases t <;> simp [testD, isTy, tyL] <;> exact q
  cases t with
  | at_ p s =>
    obtain ⟨g1, g2, g3⟩ := g
    refine tdSeq_star (.str "at") [sD p, sD s] (by simp) (fun Q R q => ⟨_, rfl, q⟩) ?_
    refine tdSeq_if1 true (fun Q R q => ?_) (fun _ => ?_) (fun z => nomatch z)
    · refine tdAnd_by true true (fun Q R q => ⟨_, rfl, by simp; exact q⟩) (fun _ Q R q => ⟨_, rfl, by simp; exact q⟩) q
    refine tdRet_by _ (fun Q R q => ?_) hq
    refine tdAndV_by true true (fun Q R q => ?_) (fun _ Q R q => tdAndV_by true true (fun Q R q => ?_) (fun _ Q R q => ?_) q) q
    · exact ⟨_, rfl, _, rfl, rfl, _, rfl, argP (hn p g1), by rw [strP_sD, place_in (hn p g1)]; exact q⟩
    · refine ⟨_, rfl, _, rfl, _, rfl, ?_⟩
      show fIn false (.v (.str (mk p))) (.tup (near.map sD)) Q
      rw [fIn_tup]
      refine ⟨rfl, near.map fun l => V.str (mk l), by rw [List.map_map]; rfl, by rw [List.all_map]; exact List.all_eq_true.mpr fun _ _ => rfl, ?_⟩
      rw [inV_map, decide_eq_true g1]
      exact q
    · exact ⟨_, rfl, _, rfl, _, rfl, rfl, _, S, rfl, argS hS g3 (areOf_in g2), by rw [strP_sD, g2]; exact q⟩
  | cnt lo hi s =>
    obtain ⟨g1, g2, g3, g4⟩ := g
    refine tdSeq_star (.str "count") [.int lo, .int hi, sD s] (by simp) (fun Q R q => ⟨_, rfl, q⟩) ?_
    refine tdSeq_if1 false (fun Q R q => ?_) (fun z => nomatch z) (fun _ => ?_)
    · refine tdAnd_by false true (fun Q R q => ⟨_, rfl, by simp [at_eq, count_eq]; exact q⟩) (fun z => nomatch z) q
    refine tdSeq_if1 false (fun Q R q => ?_) (fun z => nomatch z) (fun _ => ?_)
    · refine tdOr_by false false (fun Q R q => ⟨_, rfl, by simp; exact q⟩) (fun _ Q R q => ⟨_, rfl, by simp; exact q⟩) q
    refine tdSeq_lst3 _ _ _ (fun Q R q => ⟨_, rfl, q⟩) ?_
    refine tdRet_by _ (fun Q R q => ?_) hq
    refine tdAndV_by true true (fun Q R q => ?_) (fun _ Q R q => tdAndV_by true true (fun Q R q => ?_) (fun _ Q R q => ?_) q) q
    · refine ⟨_, rfl, rfl, _, _, 0, 8, rfl, rfl, ?_⟩
      show Q (.bl (decide ((0 : Int) ≤ (lo : Nat) ∧ ((lo : Nat) : Int) ≤ 8)))
      rw [decide_eq_true ⟨by omega, by omega⟩]
      exact q
    · refine ⟨_, rfl, _, rfl, rfl, _, _, (lo : Nat), 8, rfl, rfl, ?_⟩
      show Q (.bl (decide (((lo : Nat) : Int) ≤ (hi : Nat) ∧ ((hi : Nat) : Int) ≤ 8)))
      rw [decide_eq_true ⟨by omega, by omega⟩]
      exact q
    · exact ⟨_, rfl, _, rfl, rfl, _, S, rfl, argS hS g4 (areOf_in g3), by rw [strP_sD, g3]; exact q⟩
def t_is_cell_row : TF := fun W ds Q _ => ∃ (r : CRow) (near : Rows) (S : List Nat), ds = [crowD r, .tup (near.map sD), sD S] ∧ GoodC near S r ∧ (∀ p ∈ near, p ∈ placesL) ∧ (∀ c ∈ S, c ∈ SIG) ∧ Q (.bl true)
theorem ok_is_cell_row (T : Txt w K mg ad fd) : FnG P w K mg base CX0 4 (ad 41) (fd 41) p_is_cell_row (spD K 3 t_is_cell_row) := by
  have G_is_sign := ok_is_sign (P := P) (w := w) (base := base) T
  have G_are_of := ok_are_of (P := P) (w := w) (base := base) T
  have G_is_test := ok_is_test (P := P) (w := w) (base := base) T
  obtain ⟨u_MOST_TESTS, g_MOST_TESTS, r_MOST_TESTS⟩ := T.c_MOST_TESTS
  refine okD T.h_is_cell_row.F sc_is_cell_row (fun cdv A outer s H E hr => ⟨_, _, fun W => (dss_cons (ds_if (DW.t (dw_or (dt_not (dt_val (de_isi T.m_isinstance (da_cons (dv 0) (da_cons (de_ty "tuple" T.m_tuple) da_nil))))) (dw_or1 (dt_ne hr.units (de_len T.m_len (da_cons (dv 0) da_nil)) de_int)))) (dss_one (ds_ret de_bl)) dss_nil)
      (dss_cons (ds_asg (dv 0) (dg_tup rfl (dgs_cons (dg_name (i := 3) sc_is_cell_row.nd) (dgs_cons (dg_name (i := 4) sc_is_cell_row.nd) (dgs_cons (dg_name (i := 5) sc_is_cell_row.nd) dgs_nil)))))
      (dss_cons (ds_if (DW.t (dw_or (dt_not (dt_val (de_call G_are_of (hr.mono (by decide)) T.h_are_of.g T.h_are_of.k T.h_are_of.b pass0 (da_cons (dv 3) (da_cons (dv 2) da_nil))))) (dw_or (dt_not (dt_val (de_call G_is_sign (hr.mono (by decide)) T.h_is_sign.g T.h_is_sign.k T.h_is_sign.b pass0 (da_cons (dv 5) da_nil)))) (dw_or1 (dt_nin (dv 5) (dv 2)))))) (dss_one (ds_ret de_bl)) dss_nil)
      (dss_cons (ds_if (DW.t (dw_or (dt_not (dt_val (de_isi T.m_isinstance (da_cons (dv 4) (da_cons (de_ty "tuple" T.m_tuple) da_nil))))) (dw_or1 (dt_gt (de_len T.m_len (da_cons (dv 4) da_nil)) (de_glob g_MOST_TESTS r_MOST_TESTS))))) (dss_one (ds_ret de_bl)) dss_nil)
      (dss_one (ds_ret (de_all T.m_all (da_cons (DO.e (do_lc rfl sc_is_cell_row.nd (di_any (dv 4)) (blkOk_by (own := [("test", 6)]) (N := n_is_cell_row) (by kernel_rfl)) (fun _ _ _ _ _ => (dg_name (i := 6) sc_is_cell_row.nd)) (fun _ _ _ _ _ => dts_nil) (fun _ _ _ _ _ => (de_call G_is_test (hr.mono (by decide)) T.h_is_test.g T.h_is_test.k T.h_is_test.b pass0 (da_cons (dv 6) (da_cons (dv 1) (da_cons (dv 2) da_nil))))))) da_nil)))))))), fun W ds Q hl ht => ?_⟩) (fun _ _ _ _ h => h)
  obtain ⟨r, near, S, rfl, g, hn, hS', hq⟩ := ht
  have hS : ∀ c ∈ S, c < 0x110000 := fun c hc => sig_lt c (hS' c hc)
  have one : Arg (sD [r.to]) := argS hS (by simp) (fun c hc => by rw [List.mem_singleton.mp hc]; exact g.to)
  refine tdSeq_if1 false (fun Q R q => ?_) (fun z => nomatch z) (fun _ => ?_)
  · refine tdOr_by false false (fun Q R q => ?_) (fun _ Q R q => ?_) q
    · refine tdNot_by true (fun Q R q => ?_) q
      simp [crowD, isTy, tyL]
      exact q
    · simp [crowD]
      exact q
  refine tdSeq_tup3 (sD r.own) (.tup (r.tests.map testD)) (sD [r.to]) (fun Q R q => ⟨_, rfl, q⟩) ?_
  refine tdSeq_if1 false (fun Q R q => ?_) (fun z => nomatch z) (fun _ => ?_)
  · refine tdOr_by false false (fun Q R q => ?_) (fun _ Q R q => tdOr_by false false (fun Q R q => ?_) (fun _ Q R q => ?_) q) q
    · refine tdNot_by true (fun Q R q => ?_) q
      exact ⟨_, rfl, _, rfl, rfl, _, S, rfl, argS hS g.ol (areOf_in g.own), by rw [strP_sD, g.own]; exact q⟩
    · refine tdNot_by true (fun Q R q => ?_) q
      refine ⟨_, rfl, rfl, _, rfl, one, ?_⟩
      rw [strP_sD, show isSignL [r.to] = true from by simp [isSignL, allSig, hS' _ g.to]]
      exact q
    · refine ⟨_, rfl, _, rfl, ?_⟩
      simp [g.to]
      exact q
  refine tdSeq_if1 false (fun Q R q => ?_) (fun z => nomatch z) (fun _ => ?_)
  · refine tdOr_by false false (fun Q R q => ?_) (fun _ Q R q => ?_) q
    · refine tdNot_by true (fun Q R q => ?_) q
      simp [isTy, tyL]
      exact q
    · simp
      rw [show decide ((8 : Int) < (r.tests.length : Int)) = false from decide_eq_false (by have := g.tl; omega)]
      exact q
  refine tdRet_by _ (fun Q R q => ?_) hq
  have tl := g.tl
  refine ⟨_, rfl, by rw [List.length_map]; show _ ≤ 16777216; omega, compD_mapG (fun _ => .bl true) (fun d hd K hK => ?_) ?_⟩
  · obtain ⟨t, h, rfl⟩ := List.mem_map.mp hd
    exact ⟨_, rfl, _, rfl, _, rfl, rfl, t, near, S, rfl, g.ts t h, hn, hS, hK⟩
  · refine ⟨r.tests.map fun _ => true, by simp [Function.comp_def], ?_⟩
    rw [show (r.tests.map fun _ => true).all id = true from List.all_eq_true.mpr fun b hb => by obtain ⟨_, _, rfl⟩ := List.mem_map.mp hb; rfl]
    exact q
def signsN (n : Nat) : List Nat := SIG.take n
def ruleD (ad : Nat → Addr) (sort : Str) (n : Nat) (near : List (List Nat)) (rows : List D) : D := .ins (ad 44) [("sort_told", .str sort), ("count", .int n), ("looked_at", .tup (near.map sD)), ("listed", .lst rows)]
theorem sort_in {s : Str} (h : s = Str.ofString "around" ∨ s = Str.ofString "halves" ∨ s = Str.ofString "blocks") : inV (.str s) [.str "around", .str "halves", .str "blocks"] = true := by
  rcases h with rfl | rfl | rfl <;> decide +kernel
abbrev ruleFs (sort : Str) (n : Nat) (near : List (List Nat)) (rows : List D) : List (Str × D) := [("sort_told", .str sort), ("count", .int n), ("looked_at", .tup (near.map sD)), ("listed", .lst rows)]
theorem fld_sort {sort : Str} {n : Nat} {near : List (List Nat)} {rows : List D} : (ruleFs sort n near rows).lookup (Str.ofString "sort_told") = some (.str sort) := rfl
theorem fld_count {sort : Str} {n : Nat} {near : List (List Nat)} {rows : List D} : (ruleFs sort n near rows).lookup (Str.ofString "count") = some (.int n) := rfl
theorem fld_looked {sort : Str} {n : Nat} {near : List (List Nat)} {rows : List D} : (ruleFs sort n near rows).lookup (Str.ofString "looked_at") = some (.tup (near.map sD)) := rfl
theorem fld_listed {sort : Str} {n : Nat} {near : List (List Nat)} {rows : List D} : (ruleFs sort n near rows).lookup (Str.ofString "listed") = some (.lst rows) := rfl
theorem fld_none {sort : Str} {n : Nat} {near : List (List Nat)} {rows : List D} : (ruleFs sort n near rows).lookup (Str.ofString "signs") = none ∧ (ruleFs sort n near rows).lookup (Str.ofString "is_row") = none ∧ (ruleFs sort n near rows).lookup (Str.ofString "fate_of_block") = none ∧ (ruleFs sort n near rows).lookup (Str.ofString "block") = none := ⟨rfl, rfl, rfl, rfl⟩
theorem signsN_in {n : Nat} {c : Nat} (h : c ∈ signsN n) : c ∈ SIG := List.mem_of_mem_take h
def t_Rule_signs (ad : Nat → Addr) : TF := fun W ds Q _ => ∃ (sort : Str) (n : Nat) (near : List (List Nat)) (rows : List D), ds = [ruleD ad sort n near rows] ∧ n ≤ 27 ∧ Q (sD (signsN n))
theorem ok_Rule_signs (T : Txt w K mg ad fd) : FnG P w K mg base CX0 1 (ad 3206) (fd 3206) p_Rule_signs (spD K 1 (t_Rule_signs ad)) := by
  obtain ⟨u_SIGNS, g_SIGNS, r_SIGNS⟩ := T.c_SIGNS
  refine okD T.h_Rule_signs.F sc_Rule_signs (fun cdv A outer s H E hr => ⟨_, _, fun W => (dss_one (ds_ret (de_sl (de_glob g_SIGNS r_SIGNS) dp_none (dp_some (de_fld T.cl_Rule T.na_Rule_count (dv 0)))))), fun W ds Q hl ht => ?_⟩) (fun _ _ _ _ h => h)
  obtain ⟨sort, n, near, rows, rfl, hn, hq⟩ := ht
  refine tdRet_by _ (fun Q R q => ?_) hq
  simp only [tdSlS, tdC, tdNoPart, tdPart, sig_eq, onStr_str, cutS_mk]
  refine ⟨_, rfl, rfl, _, fld_count, ?_⟩
  show onI (.int (n : Nat)) _
  rw [onI_int, cutN_to]
  exact ⟨by simp [SIG], q⟩
theorem fld_noneC {sort : Str} {n : Nat} {near : List (List Nat)} {rows : List D} : (ruleFs sort n near rows).lookup (Str.ofString "test_holds") = none ∧ (ruleFs sort n near rows).lookup (Str.ofString "fate") = none ∧ (ruleFs sort n near rows).lookup (Str.ofString "becomes") = none := ⟨rfl, rfl, rfl⟩
/-- a right row -/
def RowOk (s : Str) (n : Nat) (near : List (List Nat)) (row : D) : Prop := (s = Str.ofString "blocks" ∧ ∃ r : BRow, row = browD r ∧ GoodB (signsN n) r) ∨ (s ≠ Str.ofString "blocks" ∧ ∃ r : CRow, row = crowD r ∧ GoodC near (signsN n) r)
def t_Rule_is_row (ad : Nat → Addr) : TF := fun W ds Q _ => ∃ (s : Str) (n : Nat) (near : List (List Nat)) (rows : List D) (row : D), ds = [ruleD ad s n near rows, row] ∧ n ≤ 27 ∧ (∀ p ∈ near, p ∈ placesL) ∧ RowOk s n near row ∧ Q (.bl true)
theorem ok_Rule_is_row (T : Txt w K mg ad fd) : FnG P w K mg base CX0 5 (ad 3201) (fd 3201) p_Rule_is_row (spD K 2 (t_Rule_is_row ad)) := by
  have G_is_cell_row := ok_is_cell_row (P := P) (w := w) (base := base) T
  have G_is_block_row := ok_is_block_row (P := P) (w := w) (base := base) T
  have G_Rule_signs := ok_Rule_signs (P := P) (w := w) (base := base) T
  refine okD T.h_Rule_is_row.F sc_Rule_is_row (fun cdv A outer s H E hr => ⟨_, _, fun W => (dss_cons (ds_if (dt_eq hr.units (de_fld T.cl_Rule T.na_Rule_sort_told (dv 0)) de_str) (dss_one (ds_ret (de_call G_is_block_row (hr.mono (by decide)) T.h_is_block_row.g T.h_is_block_row.k T.h_is_block_row.b pass0 (da_cons (dv 1) (da_cons (de_meth0 T.cl_Rule T.h_Rule_signs G_Rule_signs (hr.mono (by decide)) pass0 (dv 0)) da_nil))))) dss_nil)
      (dss_one (ds_ret (de_call G_is_cell_row (hr.mono (by decide)) T.h_is_cell_row.g T.h_is_cell_row.k T.h_is_cell_row.b pass0 (da_cons (dv 1) (da_cons (de_fld T.cl_Rule T.na_Rule_looked_at (dv 0)) (da_cons (de_meth0 T.cl_Rule T.h_Rule_signs G_Rule_signs (hr.mono (by decide)) pass0 (dv 0)) da_nil))))))), fun W ds Q hl ht => ?_⟩) (fun _ _ _ _ h => h)
  obtain ⟨s, n, near, rows, row, rfl, hn, hp, ⟨rfl, r, rfl, g⟩ | ⟨hs, r, rfl, g⟩, hq⟩ := ht
  · refine tdSeq_if1 true (fun Q R q => ⟨_, rfl, rfl, _, fld_sort, by simp; exact q⟩) (fun _ => ?_) (fun z => nomatch z)
    refine ⟨_, rfl, _, rfl, rfl, fld_none.1, rfl, _, n, near, rows, rfl, hn, rfl, r, _, rfl, g, fun c hc => sig_lt c (signsN_in hc), hq⟩
  · refine tdSeq_if1 false (fun Q R q => ⟨_, rfl, rfl, _, fld_sort, by simp [hs]; exact q⟩) (fun z => nomatch z) (fun _ => ?_)
    refine ⟨_, rfl, _, rfl, rfl, _, fld_looked, _, rfl, rfl, fld_none.1, rfl, _, n, near, rows, rfl, hn, rfl, r, near, _, rfl, g, hp, fun c hc => signsN_in hc, hq⟩
def t_Rule___init__ : TFI := fun W ds Q _ => ∃ (s : Str) (n : Nat) (near : List (List Nat)) (rows : List D), ds = [.str s, .int n, .tup (near.map sD), .lst rows] ∧ (s = Str.ofString "around" ∨ s = Str.ofString "halves" ∨ s = Str.ofString "blocks") ∧ 2 ≤ n ∧ n ≤ 27 ∧
  (∀ p ∈ near, p ∈ placesL) ∧ near.Nodup ∧ near.length ≤ 8 ∧ nearB s near = true ∧ rows.length ≤ 80 ∧ (∀ row ∈ rows, RowOk s n near row) ∧ Q (ruleFs s n near rows)
theorem ok_Rule___init__ (T : Txt w K mg ad fd) : FnG P w K mg base CX0 6 (ad 3200) (fd 3200) p_Rule___init__ (spI K (ad 44) 5 t_Rule___init__) := by
  have G_is_from_to := ok_is_from_to (P := P) (w := w) (base := base) T
  have G_is_near := ok_is_near (P := P) (w := w) (base := base) T
  have G_Rule_is_row := ok_Rule_is_row (P := P) (w := w) (base := base) T
  obtain ⟨u_MOST_ROWS, g_MOST_ROWS, r_MOST_ROWS⟩ := T.c_MOST_ROWS
  obtain ⟨u_SIGNS, g_SIGNS, r_SIGNS⟩ := T.c_SIGNS
  obtain ⟨u_SORTS, g_SORTS, r_SORTS⟩ := T.c_SORTS
  refine okI T.h_Rule___init__.F sc_Rule___init__ (by decide) (fun cdv A outer s H E hr => ⟨_, _, fun W => (dss_cons (ds_if (DW.t (dw_or (dt_not (dt_val (de_isi T.m_isinstance (da_cons (dv 1) (da_cons (de_ty "str" T.m_str) da_nil))))) (dw_or1 (dt_nin (dv 1) (de_globT g_SORTS r_SORTS))))) (dss_one ds_never) dss_nil)
      (dss_cons (ds_if (dt_not (dt_val (de_call G_is_from_to (hr.mono (by decide)) T.h_is_from_to.g T.h_is_from_to.k T.h_is_from_to.b pass0 (da_cons (dv 2) (da_cons de_int (da_cons (de_len T.m_len (da_cons (de_glob g_SIGNS r_SIGNS) da_nil)) da_nil)))))) (dss_one ds_never) dss_nil)
      (dss_cons (ds_if (dt_not (dt_val (de_call G_is_near (hr.mono (by decide)) T.h_is_near.g T.h_is_near.k T.h_is_near.b pass0 (da_cons (dv 1) (da_cons (dv 3) da_nil))))) (dss_one ds_never) dss_nil)
      (dss_cons (ds_if (DW.t (dw_or (dt_not (dt_val (de_isi T.m_isinstance (da_cons (dv 4) (da_cons (de_ty "list" T.m_list) da_nil))))) (dw_or1 (dt_gt (de_len T.m_len (da_cons (dv 4) da_nil)) (de_glob g_MOST_ROWS r_MOST_ROWS))))) (dss_one ds_never) dss_nil)
      (dss_cons (ds_setFld 0 T.cl_Rule T.na_Rule_sort_told (dv 1))
      (dss_cons (ds_setFld 0 T.cl_Rule T.na_Rule_count (dv 2))
      (dss_cons (ds_setFld 0 T.cl_Rule T.na_Rule_looked_at (dv 3))
      (dss_cons (ds_setFld 0 T.cl_Rule T.na_Rule_listed (DO.e (do_list T.m_list (da_cons (dv 4) da_nil))))
      (dss_one (ds_for PassesOwn.never rfl (di_enumG T.m_enumerate (da_cons (dv 4) da_nil)) (dg_tup rfl (dgs_cons (dg_name (i := 5) sc_Rule___init__.nd) (dgs_cons (dg_name (i := 6) sc_Rule___init__.nd) dgs_nil))) (dss_one (ds_if (dt_not (dt_val (de_meth T.cl_Rule T.h_Rule_is_row G_Rule_is_row (hr.mono (by decide)) pass0 (dv 0) (da_cons (dv 6) da_nil)))) (dss_one ds_never) dss_nil)))))))))))), fun W self_ ds Q hl ht => ?_⟩) (fun _ _ _ _ h => h)
  obtain ⟨s, n, near, rows, rfl, hs, n1, n2, p1, p2, p3, p4, hr1, hr2, hq⟩ := ht
  refine tdSeq_if1 false (fun Q R q => ?_) (fun z => nomatch z) (fun _ => ?_)
  · refine tdOr_by false false (fun Q R q => ?_) (fun _ Q R q => ?_) q
    · refine tdNot_by true (fun Q R q => ?_) q
      simp [isTy, tyL]
      exact q
    · simp
      refine ⟨[.str "around", .str "halves", .str "blocks"], rfl, by simp, ?_⟩
      rw [sort_in hs]
      exact q
  refine tdSeq_if1 false (fun Q R q => ?_) (fun z => nomatch z) (fun _ => ?_)
  · refine tdNot_by true (fun Q R q => ?_) q
    refine ⟨_, rfl, ?_⟩
    rw [sig_eq]
    refine ⟨by rw [mk_length]; show _ ≤ 16777216; simp [SIG], rfl, _, _, 2, ((mk SIG).length : Nat), rfl, rfl, ?_⟩
    rw [mk_length]
    have e : decide ((2 : Int) ≤ (n : Int) ∧ (n : Int) ≤ ((SIG.length : Nat) : Int)) = true := decide_eq_true ⟨by omega, by simp [SIG]; omega⟩
    show onBl (.bl (decide ((2 : Int) ≤ (n : Int) ∧ (n : Int) ≤ ((SIG.length : Nat) : Int)))) Q
    rw [e]
    exact q
  refine tdSeq_if1 false (fun Q R q => ?_) (fun z => nomatch z) (fun _ => ?_)
  · refine tdNot_by true (fun Q R q => ?_) q
    exact ⟨_, rfl, _, rfl, rfl, s, near, rfl, p1, p2, p3, by rw [p4]; exact q⟩
  refine tdSeq_if1 false (fun Q R q => ?_) (fun z => nomatch z) (fun _ => ?_)
  · refine tdOr_by false false (fun Q R q => ?_) (fun _ Q R q => ?_) q
    · refine tdNot_by true (fun Q R q => ?_) q
      simp [isTy, tyL]
      exact q
    · simp
      have e : decide ((80 : Int) < (rows.length : Int)) = false := decide_eq_false (by omega)
      rw [e]
      exact q
  refine tdSeq_fld (.str s) rfl (by show (0 : Nat) < 1000; decide) (fun Q R q => ⟨_, rfl, q⟩) ?_
  refine tdSeq_fld (.int n) rfl (by show (1 : Nat) < 1000; decide) (fun Q R q => ⟨_, rfl, q⟩) ?_
  refine tdSeq_fld (.tup (near.map sD)) rfl (by show (2 : Nat) < 1000; decide) (fun Q R q => ⟨_, rfl, q⟩) ?_
  refine tdSeq_fld (.lst rows) rfl (by show (3 : Nat) < 1000; decide) (fun Q R q => ⟨_, rfl, q⟩) ?_
  have ef : putD (Str.ofString "listed") (.lst rows) (putD (Str.ofString "looked_at") (.tup (near.map sD)) (putD (Str.ofString "count") (.int n) (putD (Str.ofString "sort_told") (.str s) []))) = ruleFs s n near rows := rfl
  rw [ef]
  refine ⟨_, rfl, _, rfl, ?_⟩
  refine forD_word (fun pre τ => ∃ z5 z6, τ = [some (.obj self_ (ad 44) (ruleFs s n near rows)), some (.dat (.str s)), some (.dat (.int n)), some (.dat (.tup (near.map sD))), some (.dat (.lst rows)), z5, z6]) (nums 0 rows) gdPair_mono ?_ ?_ [] _ _ rfl ⟨_, _, rfl⟩
  · rintro pre d post τ he ⟨z5, z6, rfl⟩
    obtain ⟨i, row, hi, rfl⟩ := mem_nums (show d ∈ nums 0 rows by rw [he]; simp)
    have hrow := hr2 row (List.mem_of_getElem? hi)
    refine ⟨rfl, rfl, fun nx hnx => ?_⟩
    exact tdIf_by false (fun Q R q => tdNot_by true (fun Q R q => ⟨_, rfl, rfl, fld_none.2.1, _, rfl, rfl, s, n, near, rows, row, rfl, n2, p1, hrow, q⟩) q) (fun z => nomatch z) (fun _ => hnx _ ⟨_, _, rfl⟩)
  · rintro τ ⟨z5, z6, rfl⟩
    exact ⟨_, rfl, hq⟩
/-- whether a test holds, of the signs around -/
def holdsT (near : Rows) (around : List Nat) : CTest → Bool
  | .at_ p s => decide (around.getD (near.idxOf p) 0 ∈ s)
  | .cnt lo hi s => decide (lo ≤ (around.filter fun c => decide (c ∈ s)).length ∧ (around.filter fun c => decide (c ∈ s)).length ≤ hi)
def t_Rule_test_holds (ad : Nat → Addr) : TF := fun W ds Q _ => ∃ (s : Str) (n : Nat) (near : Rows) (rows : List D) (t : CTest) (around : List Nat) (S : List Nat), ds = [ruleD ad s n near rows, testD t, sD around] ∧ GoodT near S t ∧ around.length = near.length ∧ near.length ≤ 8 ∧ Q (.bl (holdsT near around t))
theorem ok_Rule_test_holds (T : Txt w K mg ad fd) : FnG P w K mg base CX0 1 (ad 3207) (fd 3207) p_Rule_test_holds (spD K 3 (t_Rule_test_holds ad)) := by
  refine okD T.h_Rule_test_holds.F sc_Rule_test_holds (fun cdv A outer s H E hr => ⟨_, _, fun W => (dss_cons (ds_if (dt_eq hr.units (de_ix (dv 1) de_int) de_str) (dss_one (ds_ret (de_in (de_ix (dv 2) (de_tix (de_fld T.cl_Rule T.na_Rule_looked_at (dv 0)) (da_cons (de_ix (dv 1) de_int) da_nil))) (de_ix (dv 1) de_int)))) dss_nil)
      (dss_cons (ds_asg (dv 1) (dg_tup rfl (dgs_cons (dg_name (i := 3) sc_Rule_test_holds.nd) (dgs_cons (dg_name (i := 4) sc_Rule_test_holds.nd) (dgs_cons (dg_name (i := 5) sc_Rule_test_holds.nd) (dgs_cons (dg_name (i := 6) sc_Rule_test_holds.nd) dgs_nil))))))
      (dss_one (ds_ret (de_chain op_le op_le .i0 .i0 (dv 4) (de_len T.m_len (da_cons (DO.e (do_lc rfl sc_Rule_test_holds.nd (di_any (dv 2)) (blkOk_by (own := [("sign", 7)]) (N := n_Rule_test_holds) (by kernel_rfl)) (fun _ _ _ _ _ => (dg_name (i := 7) sc_Rule_test_holds.nd)) (fun _ _ _ _ _ => (dts_one (dt_in (dv 7) (dv 6)))) (fun _ _ _ _ _ => (dv 7)))) da_nil)) (dv 5)))))), fun W ds Q hl ht => ?_⟩) (fun _ _ _ _ h => h)
  obtain ⟨s, n, near, rows, t, around, S, rfl, g, hl, h8, hq⟩ := ht
  cases t with
  | at_ p sg =>
    obtain ⟨g1, g2, g3⟩ := g
    have hi := List.idxOf_lt_length_of_mem g1
    refine tdSeq_if1 true (fun Q R q => ⟨_, rfl, _, rfl, by simp; exact q⟩) (fun _ => ?_) (fun z => nomatch z)
    refine tdRet_by _ (fun Q R q => ?_) hq
    have e1 : around[near.idxOf p]? = some around[near.idxOf p] := List.getElem?_eq_getElem (by omega)
    refine ⟨_, rfl, _, rfl, rfl, _, fld_looked, ⟨_, rfl⟩, _, rfl, _, rfl, ?_⟩
    simp only [tdNil, one1_one]
    refine fTix_map g1 (fIx_sign (by omega) e1 ⟨_, rfl, _, rfl, ?_⟩)
    simp [holdsT, show near.idxOf p < around.length by omega] at q ⊢
    exact q
  | cnt lo hi sg =>
    obtain ⟨g1, g2, g3, g4⟩ := g
    refine tdSeq_if1 false (fun Q R q => ⟨_, rfl, _, rfl, by simp [at_eq, count_eq]; exact q⟩) (fun z => nomatch z) (fun _ => ?_)
    refine tdSeq_tup4 (.str "count") (.int lo) (.int hi) (sD sg) (fun Q R q => ⟨_, rfl, q⟩) ?_
    refine tdRet_by _ (fun Q R q => ?_) hq
    refine tdChain_le lo ((around.filter fun c => decide (c ∈ sg)).length : Nat) hi (fun Q R q => ⟨_, rfl, q⟩) (fun Q R q => ?_) (fun Q R q => ⟨_, rfl, q⟩) ?_
    · refine ⟨_, rfl, ?_⟩
      show items (sD around) _
      rw [items_str, signs_mk]
      refine ⟨by rw [List.length_map]; show _ ≤ 16777216; omega, compD_sel (fun d => match d with | .v (.str x) => inS x (mk sg) | _ => false) id (fun d hd Kt hk => ?_) (fun d hd hp K hk => ⟨_, rfl, hk⟩) ?_⟩
      · obtain ⟨c, _, rfl⟩ := List.mem_map.mp hd
        simp [wipeT] at hk ⊢
        exact hk
      have e : (((around.map fun c => sD [c]).filter fun d => match d with | .v (.str x) => inS x (mk sg) | _ => false).map id) = (around.filter fun c => decide (c ∈ sg)).map fun c => sD [c] := by
        rw [List.map_id, List.filter_map]
        congr 2
        funext c
        simp
      rw [e]
      simp only [tdNil, fLen_lst, List.length_map]
      exact q
    · unfold holdsT at q
      rw [show decide ((lo : Int) ≤ ((around.filter fun c => decide (c ∈ sg)).length : Nat) ∧ (((around.filter fun c => decide (c ∈ sg)).length : Nat) : Int) ≤ hi) = decide (lo ≤ (around.filter fun c => decide (c ∈ sg)).length ∧ (around.filter fun c => decide (c ∈ sg)).length ≤ hi) from decide_eq_decide.mpr (by omega)]
      exact q
theorem gdTrip_mono {i j l : Nat} : ∀ d τ (Q Q' : Tau → Prop), (∀ τ', Q τ' → Q' τ') → gdTup 3 (gdCons (gdName i) (gdCons (gdName j) (gdCons (gdName l) gdNil))) d τ Q → gdTup 3 (gdCons (gdName i) (gdCons (gdName j) (gdCons (gdName l) gdNil))) d τ Q' := fun d τ Q Q' h q => by
  unfold gdTup at q ⊢
  split at q
  · rename_i ds
    obtain ⟨q1, q⟩ := q
    match ds, q1, q with
    | [x, y, z], _, q => exact ⟨rfl, q.1, h _ q.2⟩
  · exact q.elim
/-- the first row that fits a cell -/
def fitsC (near : Rows) (around own : List Nat) (r : CRow) : Bool := inS (mk own) (mk r.own) && r.tests.all (holdsT near around)
def fateC (near : Rows) (around own : List Nat) : List CRow → List Nat
  | [] => own
  | r :: rs => if fitsC near around own r = true then [r.to] else fateC near around own rs
theorem fateC_at {near : Rows} {around own : List Nat} {r : CRow} {rs : List CRow} (h : fitsC near around own r = true) : ∀ {p : List CRow}, (∀ r ∈ p, fitsC near around own r = false) → fateC near around own (p ++ r :: rs) = [r.to]
  | [], _ => if_pos h
  | x :: xs, hp => by
    rw [List.cons_append, fateC, if_neg (by rw [hp x List.mem_cons_self]; decide)]
    exact fateC_at h fun y hy => hp y (List.mem_cons_of_mem _ hy)
theorem fateC_none {near : Rows} {around own : List Nat} : ∀ {p : List CRow}, (∀ r ∈ p, fitsC near around own r = false) → fateC near around own p = own
  | [], _ => rfl
  | x :: xs, hp => by
    rw [fateC, if_neg (by rw [hp x List.mem_cons_self]; decide)]
    exact fateC_none fun y hy => hp y (List.mem_cons_of_mem _ hy)
def t_Rule_fate (ad : Nat → Addr) : TF := fun W ds Q _ => ∃ (s : Str) (n : Nat) (near : Rows) (rows : List CRow) (own around S : List Nat), ds = [ruleD ad s n near (rows.map crowD), sD own, sD around] ∧ around.length = near.length ∧ near.length ≤ 8 ∧ rows.length ≤ 80 ∧ (∀ r ∈ rows, GoodC near S r) ∧ Q (sD (fateC near around own rows))
theorem ok_Rule_fate (T : Txt w K mg ad fd) : FnG P w K mg base CX0 2 (ad 3208) (fd 3208) p_Rule_fate (spD K 3 (t_Rule_fate ad)) := by
  have G_Rule_test_holds := ok_Rule_test_holds (P := P) (w := w) (base := base) T
  refine okD T.h_Rule_fate.F sc_Rule_fate (fun cdv A outer s H E hr => ⟨_, _, fun W => (dss_cons (ds_for PassesOwn.never rfl (di_any (de_fld T.cl_Rule T.na_Rule_listed (dv 0))) (dg_tup rfl (dgs_cons (dg_name (i := 3) sc_Rule_fate.nd) (dgs_cons (dg_name (i := 4) sc_Rule_fate.nd) (dgs_cons (dg_name (i := 5) sc_Rule_fate.nd) dgs_nil)))) (dss_one (ds_if (DW.t (dw_and (dt_in (dv 1) (dv 3)) (dw_and1 (dt_val (de_all T.m_all (da_cons (DO.e (do_lc rfl sc_Rule_fate.nd (di_any (dv 4)) (blkOk_by (own := [("test", 6)]) (N := n_Rule_fate) (by kernel_rfl)) (fun _ _ _ _ _ => (dg_name (i := 6) sc_Rule_fate.nd)) (fun _ _ _ _ _ => dts_nil) (fun _ _ _ _ _ => (de_meth T.cl_Rule T.h_Rule_test_holds G_Rule_test_holds (hr.mono (by decide)) pass0 (dv 0) (da_cons (dv 6) (da_cons (dv 2) da_nil)))))) da_nil)))))) (dss_one (ds_ret (dv 5))) dss_nil)))
      (dss_one (ds_ret (dv 1)))), fun W ds Q hl ht => ?_⟩) (fun _ _ _ _ h => h)
  obtain ⟨s, n, near, rows, own, around, S, rfl, hal, h8, h80, hg, hq⟩ := ht
  refine tdSeq_cut (fun τ => (∀ r ∈ rows, fitsC near around own r = false) ∧ ∃ z3 z4 z5 z6, τ = [some (.dat (ruleD ad s n near (rows.map crowD))), some (.dat (sD own)), some (.dat (sD around)), z3, z4, z5, z6]) (fun nx hnx => ?_) ?_
  · refine ⟨_, rfl, rfl, _, fld_listed, ?_⟩
    refine forD_word (fun pre τ => ∃ p q z3 z4 z5, rows = p ++ q ∧ pre = p.map crowD ∧ (∀ r ∈ p, fitsC near around own r = false) ∧ τ = [some (.dat (ruleD ad s n near (rows.map crowD))), some (.dat (sD own)), some (.dat (sD around)), z3, z4, z5, none]) (rows.map crowD) gdTrip_mono ?_ ?_ [] _ _ rfl ⟨[], rows, none, none, none, rfl, rfl, fun _ h => by simp at h, rfl⟩
    · rintro pre d post τ he ⟨p, q, z3, z4, z5, rfl, rfl, hp, rfl⟩
      obtain ⟨r, ys, zs, e1, rfl, e2, _⟩ := map_cut he
      have e2 : p.map crowD = ys.map crowD := e2
      have hlen : p.length = ys.length := by simpa using congrArg List.length e2
      obtain ⟨rfl, rfl⟩ := List.append_inj e1 hlen
      have g := hg r (by simp)
      refine ⟨rfl, rfl, fun nx2 hnx2 => ?_⟩
      refine tdIf_by (fitsC near around own r) (fun Q R q => ?_) (fun h => ?_) (fun h => hnx2 _ ⟨p ++ [r], zs, _, _, _, by simp, by simp, fun x hx => ?_, rfl⟩)
      · refine tdAnd_by (inS (mk own) (mk r.own)) (r.tests.all (holdsT near around)) (fun Q R q => ⟨_, rfl, _, rfl, by simp; exact q⟩) (fun _ Q R q => ?_) q
        have tl := g.tl
        refine ⟨_, rfl, by rw [List.length_map]; show _ ≤ 16777216; omega, compD_mapL testD (fun t => .bl (holdsT near around t)) (fun t ht K hk => ?_) ?_⟩
        · exact ⟨_, rfl, rfl, fld_noneC.1, _, rfl, _, rfl, rfl, s, n, near, _, t, around, S, rfl, g.ts t ht, hal, h8, hk⟩
        · exact all_bools (Q := fun d => onBl d Q) q
      · rw [fateC_at h hp] at hq
        exact ⟨_, rfl, hq⟩
      · rcases List.mem_append.mp hx with hx | hx
        · exact hp x hx
        · rw [List.mem_singleton.mp hx]; exact h
    · rintro τ ⟨p, q, z3, z4, z5, e1, e2, hp, rfl⟩
      have : q = [] := by
        have h1 := congrArg List.length e2
        have h2 := congrArg List.length e1
        simp at h1 h2
        exact List.eq_nil_of_length_eq_zero (by omega)
      subst this
      rw [List.append_nil] at e1
      subst e1
      exact hnx _ ⟨hp, z3, z4, z5, _, rfl⟩
  rintro τ ⟨hp, z3, z4, z5, z6, rfl⟩
  rw [fateC_none hp] at hq
  exact ⟨_, rfl, hq⟩
def t_Lsigns : TF := fun W ds Q _ => ∃ n : Nat, ds = [.int n] ∧ n ≤ 27 ∧ Q (sD (signsN n))
theorem ok_Lsigns (T : Txt w K mg ad fd) : FnG P w K mg base CX0 1 (ad 48) (fd 48) p_Lsigns (spD K 1 t_Lsigns) := by
  refine okD T.h_Lsigns.F sc_Lsigns (fun cdv A outer s H E hr => ⟨_, _, fun W => (dss_one (ds_ret (de_sl de_str dp_none (dp_some (dv 0))))), fun W ds Q hl ht => ?_⟩) (fun _ _ _ _ h => h)
  obtain ⟨n, rfl, hn, hq⟩ := ht
  refine tdRet_by _ (fun Q R q => ?_) hq
  simp only [tdSlS, tdC, tdNoPart, tdPart, sig_eq, onStr_str, cutS_mk]
  refine ⟨_, rfl, ?_⟩
  show onI (.int (n : Nat)) _
  rw [onI_int, cutN_to]
  exact ⟨by simp [SIG], q⟩
/-- a row of signs, rising -/
def Rising (l : List Nat) : Prop := l.Pairwise (· < ·)
theorem rises_of {l : List Nat} (h : Rising l) : risesL l = true := by
  unfold risesL
  rw [List.all_eq_true]
  intro k hk
  have hk := List.mem_range.mp hk
  have := List.pairwise_iff_getElem.mp h k (k + 1) (by omega) (by omega) (by omega)
  simp [show k < l.length by omega, show k + 1 < l.length by omega]
  exact this
theorem sig_rising : Rising SIG := by unfold Rising; decide
theorem area_of {S l : List Nat} (h0 : l ≠ []) (h1 : Rising l) (h2 : ∀ c ∈ l, c ∈ SIG) (h3 : ∀ c ∈ l, c ∈ S) : areOf S l = true := by
  unfold areOf isSignsL allSig
  have e0 : l.isEmpty = false := by cases l <;> simp at h0 ⊢
  rw [e0, rises_of h1, List.all_eq_true.mpr fun c hc => decide_eq_true (h2 c hc), List.all_eq_true.mpr fun c hc => decide_eq_true (h3 c hc)]
  rfl
theorem dot_eq : Str.ofString "." = mk [46] := by decide +kernel
theorem empty_eq2 : Str.ofString "" = mk [] := by decide +kernel
/-- a part of the signs -/
structure SubSig (l : List Nat) : Prop where
  ne : l ≠ []
  up : Rising l
  of : ∀ c ∈ l, c ∈ SIG
  le : l.length ≤ 27
def t_Lsome : TF := fun W ds Q _ => ∃ (b c : Addr) (cells : List Int) (S : List Nat), W = bagW b c cells ∧ ds = [.v (.ref b), sD S] ∧ SubSig S ∧ ∀ l, l ≠ [] → Rising l → (∀ c ∈ l, c ∈ S) → l.length ≤ 27 → Q (sD l)
theorem ok_Lsome (T : Txt w K mg ad fd) : FnG P w K mg base CX0 2 (ad 49) (fd 49) p_Lsome (spD K 2 t_Lsome) := by
  have G_Ltake := ok_Ltake (P := P) (w := w) (base := base) T
  refine okD T.h_Lsome.F sc_Lsome (fun cdv A outer s H E hr => ⟨_, _, fun W => (dss_cons (ds_set (i := 2) sc_Lsome.nd (de_join de_str (DO.e (do_lc rfl sc_Lsome.nd (di_any (dv 1)) (blkOk_by (own := [("_law_sign", 4)]) (N := n_Lsome) (by kernel_rfl)) (fun _ _ _ _ _ => (dg_name (i := 4) sc_Lsome.nd)) (fun _ _ _ _ _ => (dts_one (dt_eq hr.units (de_call G_Ltake (hr.mono (by decide)) T.h_Ltake.g T.h_Ltake.k T.h_Ltake.b pass0 (da_cons (dv 0) (da_cons de_int da_nil))) de_int))) (fun _ _ _ _ _ => (dv 4))))))
      (dss_cons (ds_set (i := 3) sc_Lsome.nd (de_ix (dv 1) (de_call G_Ltake (hr.mono (by decide)) T.h_Ltake.g T.h_Ltake.k T.h_Ltake.b pass0 (da_cons (dv 0) (da_cons (de_len T.m_len (da_cons (dv 1) da_nil)) da_nil)))))
      (dss_one (ds_ret (de_orT (dv 2) (de_one (dv 3))))))), fun W ds Q hl ht => ?_⟩) (fun _ _ _ _ h => h)
  obtain ⟨b, c, cells, S, rfl, rfl, g, hq⟩ := ht
  have hl := g.le
  refine tdSeq_asgP (fun d => ∃ l, d = sD l ∧ Rising l ∧ (∀ c ∈ l, c ∈ S) ∧ l.length ≤ 27) (fun Q R q => ?_) ?_
  · rw [empty_eq2]
    refine ⟨_, rfl, ?_⟩
    show items (sD S) _
    rw [items_str, signs_mk]
    refine ⟨by rw [List.length_map]; show _ ≤ 16777216; omega, ?_⟩
    refine compD_some (fun d => d) (fun d hd Kt hk => ?_) (fun d hd K hk => ⟨_, rfl, hk⟩) (fun es hs => ?_)
    · refine ⟨_, rfl, rfl, take_i (by omega) (by omega) fun v _ _ => ?_⟩
      simp
      exact hk _
    · obtain ⟨l, hl1, rfl⟩ := sublist_map hs
      have ln : l.length ≤ 27 := Nat.le_trans hl1.length_le hl
      refine ⟨l.map fun c => mk [c], by simp [Function.comp_def], ?_, ?_⟩
      · rw [sum_ones]; simp; omega
      · rw [join_ones]
        rw [List.map_id']
        exact q _ ⟨l, rfl, List.Pairwise.sublist hl1 g.up, fun c hc => hl1.subset hc, ln⟩
  rintro _ ⟨l, rfl, h1, h2, h3⟩
  have hs : 0 < S.length := List.length_pos_iff.mpr g.ne
  refine tdSeq_asgP (fun d => ∃ c, d = sD [c] ∧ c ∈ S) (fun Q R q => ?_) ?_
  · refine ⟨_, rfl, _, rfl, _, rfl, by rw [mk_length]; show _ ≤ 16777216; omega, rfl, take_i (by rw [mk_length]; omega) (by rw [mk_length]; omega) fun v a1 a2 => ?_⟩
    rw [mk_length] at a2
    obtain ⟨x, e1, e2⟩ := atI_some (xs := S) a1 a2
    exact ⟨by rw [mk_length]; show S.length ≤ 16777216; omega, x, by rw [mk_cps]; exact e1, q _ ⟨x, rfl, e2⟩⟩
  rintro _ ⟨x, rfl, hx⟩
  refine ⟨_, rfl, ?_⟩
  cases l with
  | nil =>
    refine ⟨false, by simp [truD], ?_⟩
    refine ⟨_, rfl, hq [x] (by simp) (by simp [Rising]) (fun y hy => by rw [List.mem_singleton.mp hy]; exact hx) (by simp)⟩
  | cons a l =>
    refine ⟨true, ?_, hq _ (by simp) h1 h2 h3⟩
    have : (((mk (a :: l)).length : Int) != 0) = true := by rw [mk_length, bne_iff_ne]; simp only [List.length_cons]; omega
    show (if (mk (a :: l)).length ≤ sizeLine then some (((mk (a :: l)).length : Int) != 0) else none) = _
    rw [if_pos (by rw [mk_length]; show _ ≤ 16777216; omega), this]
theorem SubSig.cut {l : List Nat} (g : SubSig l) {lo hi : Option Int} (h : cutN l lo hi ≠ []) : SubSig (cutN l lo hi) := by
  have s : (cutN l lo hi).Sublist l := (List.take_sublist _ _).trans (List.drop_sublist _ _)
  exact ⟨h, List.Pairwise.sublist s g.up, fun c hc => g.of c (s.subset hc), Nat.le_trans s.length_le g.le⟩
theorem signsN_sub {n : Nat} (h1 : 1 ≤ n) : SubSig (signsN n) := by
  have s : (signsN n).Sublist SIG := List.take_sublist _ _
  refine ⟨?_, List.Pairwise.sublist s sig_rising, fun c hc => s.subset hc, s.length_le⟩
  obtain ⟨m, rfl⟩ : ∃ m, n = m + 1 := ⟨n - 1, by omega⟩
  simp [signsN, SIG]
/-- a row, drawn of the signs S -/
structure DrawnB (S : List Nat) (r : BRow) : Prop where
  len : r.1.length = 4
  own : ∀ f ∈ r.1, f ≠ [] ∧ Rising f ∧ (∀ c ∈ f, c ∈ S) ∧ f.length ≤ 27
  four : r.2.length = 4
  of : ∀ c ∈ r.2, c ∈ S
theorem DrawnB.good {S T : List Nat} {r : BRow} (h : DrawnB S r) (h1 : ∀ c ∈ S, c ∈ T) (h2 : ∀ c ∈ S, c ∈ SIG) : GoodB T r :=
  ⟨h.len, fun f hf => let ⟨a, b, c, d⟩ := h.own f hf; ⟨area_of a b (fun x hx => h2 x (c x hx)) (fun x hx => h1 x (c x hx)), d⟩, h.four, fun c hc => h1 c (h.of c hc)⟩
def t_Lblock_row : TF := fun W ds Q _ => ∃ (b c : Addr) (cells : List Int) (S : List Nat), W = bagW b c cells ∧ ds = [.v (.ref b), sD S] ∧ SubSig S ∧ ∀ r : BRow, DrawnB S r → Q (browD r)
theorem ok_Lblock_row (T : Txt w K mg ad fd) : FnG P w K mg base CX0 3 (ad 53) (fd 53) p_Lblock_row (spD K 2 t_Lblock_row) := by
  have G_Ltake := ok_Ltake (P := P) (w := w) (base := base) T
  have G_Lsome := ok_Lsome (P := P) (w := w) (base := base) T
  refine okD T.h_Lblock_row.F sc_Lblock_row (fun cdv A outer s H E hr => ⟨_, _, fun W => (dss_cons (ds_set (i := 2) sc_Lblock_row.nd (de_tuple T.m_tuple (da_cons (DO.e (do_lc rfl sc_Lblock_row.nd (di_range1 rfl T.m_range (da_cons de_int da_nil)) (blkOk_by (own := [("_law_k", 3)]) (N := n_Lblock_row) (by kernel_rfl)) (fun _ _ _ _ _ => (dg_name (i := 3) sc_Lblock_row.nd)) (fun _ _ _ _ _ => dts_nil) (fun _ _ _ _ _ => (de_call G_Lsome (hr.mono (by decide)) T.h_Lsome.g T.h_Lsome.k T.h_Lsome.b pass0 (da_cons (dv 0) (da_cons (dv 1) da_nil)))))) da_nil)))
      (dss_one (ds_ret (de_tup (da_cons (dv 2) (da_cons (de_join de_str (DO.e (do_lc rfl sc_Lblock_row.nd (di_range1 rfl T.m_range (da_cons de_int da_nil)) (blkOk_by (own := [("_law_k", 3)]) (N := n_Lblock_row) (by kernel_rfl)) (fun _ _ _ _ _ => (dg_name (i := 3) sc_Lblock_row.nd)) (fun _ _ _ _ _ => dts_nil) (fun _ _ _ _ _ => (de_ix (dv 1) (de_call G_Ltake (hr.mono (by decide)) T.h_Ltake.g T.h_Ltake.k T.h_Ltake.b pass0 (da_cons (dv 0) (da_cons (de_len T.m_len (da_cons (dv 1) da_nil)) da_nil)))))))) da_nil)))))), fun W ds Q hl ht => ?_⟩) (fun _ _ _ _ h => h)
  obtain ⟨b, c, cells, S, rfl, rfl, g, hq⟩ := ht
  have hl := g.le
  have hs : 0 < S.length := List.length_pos_iff.mpr g.ne
  refine tdSeq_asgP (fun d => ∃ fs : List (List Nat), d = .tup (fs.map sD) ∧ fs.length = 4 ∧ ∀ f ∈ fs, f ≠ [] ∧ Rising f ∧ (∀ c ∈ f, c ∈ S) ∧ f.length ≤ 27) (fun Q R q => ?_) ?_
  · refine ⟨by decide, by decide, by show (numsD 0 4).length ≤ 16777216; rw [numsD_length]; decide, ?_⟩
    refine compD_all (fun e => ∃ f, e = sD f ∧ (f ≠ [] ∧ Rising f ∧ (∀ c ∈ f, c ∈ S) ∧ f.length ≤ 27)) (fun d hd K hk => ?_) (fun es hl2 hp => ?_)
    · exact ⟨_, rfl, _, rfl, rfl, b, c, cells, S, rfl, rfl, g, fun l h1 h2 h3 h4 => hk _ ⟨l, rfl, h1, h2, h3, h4⟩⟩
    · obtain ⟨fs, rfl, pf⟩ := all_map sD (fun f => f ≠ [] ∧ Rising f ∧ (∀ c ∈ f, c ∈ S) ∧ f.length ≤ 27) hp
      exact q _ ⟨fs, rfl, by simpa using hl2, pf⟩
  rintro _ ⟨fs, rfl, hf, pf⟩
  rw [empty_eq2]
  refine ⟨_, rfl, by decide, by decide, by show (numsD 0 4).length ≤ 16777216; rw [numsD_length]; decide, ?_⟩
  refine compD_all (fun e => ∃ x, e = sD [x] ∧ x ∈ S) (fun d hd K hk => ?_) (fun es hl2 hp => ?_)
  · refine ⟨_, rfl, _, rfl, _, rfl, by rw [mk_length]; show S.length ≤ 16777216; omega, rfl, take_i (by rw [mk_length]; omega) (by rw [mk_length]; omega) fun v a1 a2 => ?_⟩
    rw [mk_length] at a2
    obtain ⟨x, e1, e2⟩ := atI_some (xs := S) a1 a2
    exact ⟨by rw [mk_length]; show S.length ≤ 16777216; omega, x, by rw [mk_cps]; exact e1, hk _ ⟨x, rfl, e2⟩⟩
  · obtain ⟨l, rfl, pl⟩ := all_map (fun x => sD [x]) (fun x => x ∈ S) hp
    have hlen : l.length = 4 := by simpa using hl2
    refine ⟨l.map fun c => mk [c], by simp [Function.comp_def], ?_, ?_⟩
    · rw [sum_ones]; simp; omega
    · rw [join_ones, List.map_id']
      exact ⟨by show 2 ≤ sizeLine; decide, hq (fs, l) ⟨hf, pf, hlen, pl⟩⟩
theorem places_eqD : ([.str "n", .str "ne", .str "e", .str "se", .str "s", .str "sw", .str "w", .str "nw"] : List D) = placesL.map sD := by
  have := congrArg (List.map D.v) places_eq
  simpa [Function.comp_def] using this
theorem straight_eqD : ([.str "n", .str "e", .str "s", .str "w"] : List D) = straightL.map sD := by
  have h : ([.str "n", .str "e", .str "s", .str "w"] : List V) = straightL.map fun l => V.str (mk l) := by decide +kernel
  simpa [Function.comp_def] using congrArg (List.map D.v) h
def SortOk (s : Str) : Prop := s = Str.ofString "around" ∨ s = Str.ofString "halves" ∨ s = Str.ofString "blocks"
/-- the places that a sort may look at -/
def drawL (s : Str) : Rows := if s = Str.ofString "around" then placesL else if s = Str.ofString "halves" then straightL else []
structure NearOk (s : Str) (near : Rows) : Prop where
  of : ∀ p ∈ near, p ∈ placesL
  nd : near.Nodup
  le : near.length ≤ 8
  so : nearB s near = true
theorem sorts_ne : Str.ofString "around" ≠ Str.ofString "halves" ∧ Str.ofString "around" ≠ Str.ofString "blocks" ∧ Str.ofString "halves" ≠ Str.ofString "blocks" := by
  rw [around_eq, halves_eq, blocks_eq]
  exact ⟨fun h => absurd (mk_inj h) (by decide), fun h => absurd (mk_inj h) (by decide), fun h => absurd (mk_inj h) (by decide)⟩
theorem drawL_ok {s : Str} (h : SortOk s) : (∀ p ∈ drawL s, p ∈ placesL) ∧ (drawL s).Nodup ∧ (drawL s).length ≤ 8 := by
  obtain ⟨n1, n2, n3⟩ := sorts_ne
  rcases h with rfl | rfl | rfl
  · unfold drawL; rw [if_pos rfl]; exact ⟨fun p h => h, by decide, by decide⟩
  · unfold drawL; rw [if_neg n1.symm, if_pos rfl]; exact ⟨by decide, by decide, by decide⟩
  · unfold drawL; rw [if_neg n2.symm, if_neg n3.symm]; exact ⟨by simp, by simp, by simp⟩
theorem NearOk.of_draw {s : Str} {near : Rows} (h : SortOk s) (h1 : ∀ p ∈ near, p ∈ drawL s) (h2 : near.Nodup) (h3 : near.length ≤ 8) : NearOk s near := by
  obtain ⟨n1, n2, n3⟩ := sorts_ne
  refine ⟨fun p hp => (drawL_ok h).1 p (h1 p hp), h2, h3, ?_⟩
  rcases h with rfl | rfl | rfl
  · unfold nearB; rw [if_neg n1]; simp
  · unfold nearB; rw [if_pos rfl]
    unfold drawL at h1; rw [if_neg n1.symm, if_pos rfl] at h1
    exact List.all_eq_true.mpr fun p hp => decide_eq_true (h1 p hp)
  · unfold drawL at h1; rw [if_neg n2.symm, if_neg n3.symm] at h1
    cases near with
    | nil => unfold nearB; rw [if_neg n3.symm]; simp
    | cons p r => exact absurd (h1 p List.mem_cons_self) (by simp)
theorem cutD_toL {α : Type} (f : α → D) (l : List α) (k : Nat) : cutD (l.map f) none (some (k : Int)) = (l.take k).map f := by
  rw [cutD_map, HT.sIx_nat, show HT.sIx l.length 0 none = 0 from rfl, List.drop_zero, Nat.sub_zero]
  congr 1
  by_cases h : k ≤ l.length
  · rw [Nat.min_eq_left h]
  · rw [Nat.min_eq_right (by omega), List.take_of_length_le (Nat.le_refl _), List.take_of_length_le (by omega)]
theorem cutD_fromL {α : Type} (f : α → D) (l : List α) (k : Nat) : cutD (l.map f) (some (k : Int)) none = (l.drop k).map f := by
  rw [cutD_map, HT.sIx_nat, show HT.sIx l.length l.length none = l.length from rfl]
  congr 1
  by_cases h : k ≤ l.length
  · rw [Nat.min_eq_left h, List.take_of_length_le (by rw [List.length_drop]; exact Nat.le_refl _)]
  · rw [Nat.min_eq_right (by omega), List.drop_of_length_le (Nat.le_refl _), List.drop_of_length_le (by omega), List.take_nil]
/-- the places of a sort, drawn first of all -/
theorem nodup_rot {l : Rows} (h : l.Nodup) (k : Nat) : (l.drop k ++ l.take k).Nodup := by
  have e : (l.drop k ++ l.take k).Perm l := List.perm_append_comm.trans (by rw [List.take_append_drop])
  exact e.nodup_iff.mpr h
def t_Lnear : TF := fun W ds Q _ => ∃ (b c : Addr) (cells : List Int) (s : Str), W = bagW b c cells ∧ ds = [.v (.ref b), .str s] ∧ SortOk s ∧ ∀ near, NearOk s near → Q (.tup (near.map sD))
theorem ok_Lnear (T : Txt w K mg ad fd) : FnG P w K mg base CX0 2 (ad 50) (fd 50) p_Lnear (spD K 2 t_Lnear) := by
  have G_Ltake := ok_Ltake (P := P) (w := w) (base := base) T
  refine okD T.h_Lnear.F sc_Lnear (fun cdv A outer s H E hr => ⟨_, _, fun W => (dss_cons (ds_set (i := 2) sc_Lnear.nd (DO.e (do_lst (da_cons de_str (da_cons de_str (da_cons de_str (da_cons de_str (da_cons de_str (da_cons de_str (da_cons de_str (da_cons de_str da_nil)))))))))))
      (dss_cons (ds_if (dt_ne hr.units (dv 1) de_str) (dss_one (ds_set (i := 2) sc_Lnear.nd (DO.e (do_sl (DO.e (do_lst (da_cons de_str (da_cons de_str (da_cons de_str (da_cons de_str da_nil)))))) dp_none (dp_some (de_mul de_int (de_toint T.m_int (da_cons (de_eq hr.units (dv 1) de_str) da_nil)))))))) dss_nil)
      (dss_cons (ds_set (i := 3) sc_Lnear.nd (de_call G_Ltake (hr.mono (by decide)) T.h_Ltake.g T.h_Ltake.k T.h_Ltake.b pass0 (da_cons (dv 0) (da_cons (de_add (de_len T.m_len (da_cons (dv 2) da_nil)) de_int) da_nil))))
      (dss_cons (ds_set (i := 4) sc_Lnear.nd (DO.e (do_cat (DO.e (do_sl (dv 2) (dp_some (dv 3)) dp_none)) (DO.e (do_sl (dv 2) dp_none (dp_some (dv 3)))))))
      (dss_cons (ds_if (dt_eq hr.units (de_call G_Ltake (hr.mono (by decide)) T.h_Ltake.g T.h_Ltake.k T.h_Ltake.b pass0 (da_cons (dv 0) (da_cons de_int da_nil))) de_int) (dss_one (ds_set (i := 4) sc_Lnear.nd (DO.e (do_rev (dv 4) (dp_some (de_neg de_int)))))) dss_nil)
      (dss_one (ds_ret (de_tuple T.m_tuple (da_cons (DO.e (do_sl (dv 4) dp_none (dp_some (de_call G_Ltake (hr.mono (by decide)) T.h_Ltake.g T.h_Ltake.k T.h_Ltake.b pass0 (da_cons (dv 0) (da_cons (de_add (de_len T.m_len (da_cons (dv 2) da_nil)) de_int) da_nil)))))) da_nil))))))))), fun W ds Q hl ht => ?_⟩) (fun _ _ _ _ h => h)
  obtain ⟨b, c, cells, s, rfl, rfl, hs, hq⟩ := ht
  obtain ⟨d1, d2, d3⟩ := drawL_ok hs
  obtain ⟨n1, n2, n3⟩ := sorts_ne
  refine tdSeq_asg (.lst (placesL.map sD)) (fun Q R q => ⟨by show 8 ≤ sizeLine; decide, by rw [← places_eqD] at q; exact q⟩) ?_
  refine tdSeq_cut (fun τ => τ = [some (.dat (.v (.ref b))), some (.dat (.str s)), some (.dat (.lst ((drawL s).map sD))), none, none]) (fun nx hnx => ?_) ?_
  · refine tdIf_by (!decide (s = Str.ofString "around")) (fun Q R q => ⟨_, rfl, by simp; simpa using q⟩) (fun h => ?_) (fun h => hnx _ ?_)
    · have h : ¬ s = Str.ofString "around" := by simpa using h
      refine ⟨by show 4 ≤ sizeLine; decide, ?_⟩
      rw [straight_eqD]
      refine ⟨_, rfl, ?_⟩
      simp
      by_cases hh : s = Str.ofString "halves"
      · rw [if_pos hh]
        refine ⟨by simp [CMul], hnx _ ?_⟩
        rw [show (4 * 1 : Int) = ((4 : Nat) : Int) from rfl, cutD_toL]
        unfold drawL
        rw [if_neg h, if_pos hh]
        rfl
      · rw [if_neg hh]
        refine ⟨by simp [CMul], hnx _ ?_⟩
        rw [show (4 * 0 : Int) = ((0 : Nat) : Int) from rfl, cutD_toL]
        unfold drawL
        rw [if_neg h, if_neg hh]
        rfl
    · have h : s = Str.ofString "around" := by simpa using h
      unfold drawL
      rw [if_pos h]
      rfl
  rintro τ rfl
  refine tdSeq_asgP (fun d => ∃ k : Nat, d = .int k ∧ k ≤ (drawL s).length) (fun Q R q => ?_) ?_
  · refine ⟨_, rfl, _, rfl, ?_⟩
    simp
    refine take_i (by omega) (by omega) fun v a1 a2 => q _ ⟨v.toNat, by rw [Int.toNat_of_nonneg a1], by omega⟩
  rintro _ ⟨k, rfl, hk⟩
  have nl : ((drawL s).drop k ++ (drawL s).take k).length = (drawL s).length := by simp; omega
  refine tdSeq_asg (.lst (((drawL s).drop k ++ (drawL s).take k).map sD)) (fun Q R q => ?_) ?_
  · refine ⟨_, rfl, _, rfl, _, rfl, _, rfl, ?_⟩
    simp only [onI_int, onLst_lst, cutD_fromL, cutD_toL]
    exact ⟨by simp; omega, by rw [← List.map_append]; exact q⟩
  refine tdSeq_cut (fun τ => ∃ F : Rows, τ = [some (.dat (.v (.ref b))), some (.dat (.str s)), some (.dat (.lst ((drawL s).map sD))), some (.dat (.int k)), some (.dat (.lst (F.map sD)))] ∧ F.Nodup ∧ (∀ p ∈ F, p ∈ drawL s) ∧ F.length ≤ 8) (fun nx hnx => ?_) ?_
  · have of : ∀ p ∈ (drawL s).drop k ++ (drawL s).take k, p ∈ drawL s := fun p hp => by
      rcases List.mem_append.mp hp with h | h
      · exact List.mem_of_mem_drop h
      · exact List.mem_of_mem_take h
    refine tdIf_P (fun _ => True) (fun Q R q => ⟨_, rfl, rfl, take_i (n := 2) (by decide) (by decide) fun v _ _ => by simp; exact q _ trivial⟩) (fun _ => ?_) (fun _ => hnx _ ⟨_, rfl, nodup_rot d2 k, of, by omega⟩)
    refine ⟨_, rfl, rfl, ?_⟩
    simp only [onLst_lst]
    refine hnx _ ⟨((drawL s).drop k ++ (drawL s).take k).reverse, by rw [List.map_reverse]; rfl, (List.reverse_perm _).nodup_iff.mpr (nodup_rot d2 k), fun p hp => of p (List.mem_reverse.mp hp), by rw [List.length_reverse]; omega⟩
  rintro τ ⟨F, rfl, f1, f2, f3⟩
  refine ⟨_, rfl, ?_⟩
  simp
  refine take_i (by omega) (by omega) fun v a1 a2 => ?_
  obtain ⟨m, rfl⟩ := Int.eq_ofNat_of_zero_le a1
  simp only [onI_int, cutD_toL]
  exact hq _ (NearOk.of_draw hs (fun p hp => f2 p (List.mem_of_mem_take hp)) (f1.sublist (List.take_sublist _ _)) (by rw [List.length_take]; omega))
/-- a drawn test -/
structure DrawnS (S l : List Nat) : Prop where
  ne : l ≠ []
  up : Rising l
  of : ∀ c ∈ l, c ∈ S
  le : l.length ≤ 27
def DrawnT (near : Rows) (S : List Nat) : CTest → Prop
  | .at_ p s => p ∈ near ∧ DrawnS S s
  | .cnt lo hi s => lo ≤ hi ∧ hi ≤ 8 ∧ DrawnS S s
theorem DrawnS.area {S T l : List Nat} (h : DrawnS S l) (h1 : ∀ c ∈ S, c ∈ T) (h2 : ∀ c ∈ S, c ∈ SIG) : areOf T l = true := area_of h.ne h.up (fun x hx => h2 x (h.of x hx)) fun x hx => h1 x (h.of x hx)
theorem DrawnT.good {near : Rows} {S T : List Nat} {t : CTest} (h : DrawnT near S t) (h1 : ∀ c ∈ S, c ∈ T) (h2 : ∀ c ∈ S, c ∈ SIG) : GoodT near T t := by
  cases t with
  | at_ p s => exact ⟨h.1, h.2.area h1 h2, h.2.le⟩
  | cnt lo hi s => exact ⟨h.1, h.2.1, h.2.2.area h1 h2, h.2.2.le⟩
structure DrawnC (near : Rows) (S : List Nat) (r : CRow) : Prop where
  own : DrawnS S r.own
  to : r.to ∈ S
  tl : r.tests.length ≤ 8
  ts : ∀ t ∈ r.tests, DrawnT near S t
theorem DrawnC.good {near : Rows} {S T : List Nat} {r : CRow} (h : DrawnC near S r) (h1 : ∀ c ∈ S, c ∈ T) (h2 : ∀ c ∈ S, c ∈ SIG) : GoodC near T r := ⟨h.own.area h1 h2, h.own.le, h1 _ h.to, h.tl, fun t ht => (h.ts t ht).good h1 h2⟩
structure CRowsOk (s : Str) (n : Nat) (near : Rows) (rows : List CRow) : Prop where
  so : s = Str.ofString "around" ∨ s = Str.ofString "halves"
  n1 : 2 ≤ n
  n2 : n ≤ 27
  nr : NearOk s near
  le : rows.length ≤ 80
  ok : ∀ r ∈ rows, GoodC near (signsN n) r
structure BlkOk (n : Nat) (rows : List BRow) : Prop where
  n1 : 2 ≤ n
  n2 : n ≤ 27
  le : rows.length ≤ 80
  ok : ∀ r ∈ rows, GoodB (signsN n) r
def partsOf (s : Str) (n : Nat) (near : Rows) (rows : List D) : D := .tup [.str s, .int n, .tup (near.map sD), .lst rows]
theorem NearOk.blocks {near : Rows} (h : NearOk (Str.ofString "blocks") near) : near = [] := by
  obtain ⟨n1, n2, n3⟩ := sorts_ne
  have := h.so
  unfold nearB at this
  rw [if_neg n3.symm, decide_eq_false n2.symm] at this
  simpa using this
structure RU where
  s : Str
  n : Nat
  near : Rows
  cr : List CRow
  br : List BRow
def RU.rows (r : RU) : List D := r.cr.map crowD ++ r.br.map browD
def RU.parts (r : RU) : D := partsOf r.s r.n r.near r.rows
def RU.d (ad : Nat → Addr) (r : RU) : D := ruleD ad r.s r.n r.near r.rows
structure RUOk (r : RU) : Prop where
  so : SortOk r.s
  n1 : 2 ≤ r.n
  n2 : r.n ≤ 27
  nr : NearOk r.s r.near
  le : r.cr.length + r.br.length ≤ 80
  cb : r.s = Str.ofString "blocks" → r.cr = []
  bc : r.s ≠ Str.ofString "blocks" → r.br = []
  cok : ∀ c ∈ r.cr, GoodC r.near (signsN r.n) c
  bok : ∀ b ∈ r.br, GoodB (signsN r.n) b
theorem RUOk.rb {r : RU} (h : RUOk r) (e : r.s = Str.ofString "blocks") : r.rows = r.br.map browD := by unfold RU.rows; rw [h.cb e]; rfl
theorem RUOk.rc {r : RU} (h : RUOk r) (e : r.s ≠ Str.ofString "blocks") : r.rows = r.cr.map crowD := by unfold RU.rows; rw [h.bc e]; simp
theorem RUOk.rl {r : RU} (h : RUOk r) : r.rows.length ≤ 80 := by have := h.le; unfold RU.rows; simpa using this
theorem RUOk.nb {r : RU} (h : RUOk r) (e : r.s = Str.ofString "blocks") : r.near = [] := by
  have := h.nr
  rw [e] at this
  exact this.blocks
theorem CRowsOk.ru {s : Str} {n : Nat} {near : Rows} {rows : List CRow} (h : CRowsOk s n near rows) : RUOk ⟨s, n, near, rows, []⟩ ∧ RU.parts ⟨s, n, near, rows, []⟩ = partsOf s n near (rows.map crowD) := by
  have ne : s ≠ Str.ofString "blocks" := by
    rcases h.so with e | e <;> rw [e]
    · exact sorts_ne.2.1
    · exact sorts_ne.2.2
  refine ⟨⟨h.so.elim .inl fun e => .inr (.inl e), h.n1, h.n2, h.nr, by simpa using h.le, fun e => absurd e ne, fun _ => rfl, h.ok, fun _ hb => by simp at hb⟩, ?_⟩
  simp [RU.parts, RU.rows]
theorem BlkOk.ru {n : Nat} {rows : List BRow} (h : BlkOk n rows) : RUOk ⟨Str.ofString "blocks", n, [], [], rows⟩ ∧ RU.parts ⟨Str.ofString "blocks", n, [], [], rows⟩ = partsOf (Str.ofString "blocks") n [] (rows.map browD) := by
  refine ⟨⟨.inr (.inr rfl), h.n1, h.n2, ⟨fun _ hp => by simp at hp, by simp, by simp, (by decide +kernel : nearB (Str.ofString "blocks") [] = true)⟩, by simpa using h.le, fun _ => rfl, fun e => absurd rfl e, fun _ hb => by simp at hb, h.ok⟩, ?_⟩
  simp [RU.parts, RU.rows]
theorem RUOk.row {r : RU} (h : RUOk r) : ∀ row ∈ r.rows, RowOk r.s r.n r.near row := fun row hr => by
  by_cases e : r.s = Str.ofString "blocks"
  · rw [h.rb e] at hr
    obtain ⟨b, hb, rfl⟩ := List.mem_map.mp hr
    exact .inl ⟨e, b, rfl, h.bok b hb⟩
  · rw [h.rc e] at hr
    obtain ⟨c, hc, rfl⟩ := List.mem_map.mp hr
    exact .inr ⟨e, c, rfl, h.cok c hc⟩
/-- made of its parts -/
theorem RUOk.make {r : RU} (h : RUOk r) {W : Wd} {Q : List (Str × D) → Prop} {R : Exc → Prop} (q : Q (ruleFs r.s r.n r.near r.rows)) : t_Rule___init__ W [.str r.s, .int r.n, .tup (r.near.map sD), .lst r.rows] Q R :=
  ⟨r.s, r.n, r.near, r.rows, rfl, h.so, h.n1, h.n2, h.nr.of, h.nr.nd, h.nr.le, h.nr.so, h.rl, h.row, q⟩
def t_Rule_kind (ad : Nat → Addr) : TF := fun W ds Q _ => ∃ (r : RU), ds = [r.d ad] ∧ Q (.str r.s)
theorem ok_Rule_kind (T : Txt w K mg ad fd) : FnG P w K mg base CX0 1 (ad 3202) (fd 3202) p_Rule_kind (spD K 1 (t_Rule_kind ad)) := by
  refine okD T.h_Rule_kind.F sc_Rule_kind (fun cdv A outer s H E hr => ⟨_, _, fun W => (dss_one (ds_ret (de_fld T.cl_Rule T.na_Rule_sort_told (dv 0)))), fun W ds Q hl ht => ?_⟩) (fun _ _ _ _ h => h)
  obtain ⟨r, rfl, hq⟩ := ht
  exact ⟨_, rfl, rfl, _, fld_sort, hq⟩
def t_Rule_many (ad : Nat → Addr) : TF := fun W ds Q _ => ∃ (r : RU), ds = [r.d ad] ∧ Q (.int r.n)
theorem ok_Rule_many (T : Txt w K mg ad fd) : FnG P w K mg base CX0 1 (ad 3203) (fd 3203) p_Rule_many (spD K 1 (t_Rule_many ad)) := by
  refine okD T.h_Rule_many.F sc_Rule_many (fun cdv A outer s H E hr => ⟨_, _, fun W => (dss_one (ds_ret (de_fld T.cl_Rule T.na_Rule_count (dv 0)))), fun W ds Q hl ht => ?_⟩) (fun _ _ _ _ h => h)
  obtain ⟨r, rfl, hq⟩ := ht
  exact ⟨_, rfl, rfl, _, fld_count, hq⟩
def t_Rule_near (ad : Nat → Addr) : TF := fun W ds Q _ => ∃ (r : RU), ds = [r.d ad] ∧ Q (.tup (r.near.map sD))
theorem ok_Rule_near (T : Txt w K mg ad fd) : FnG P w K mg base CX0 1 (ad 3204) (fd 3204) p_Rule_near (spD K 1 (t_Rule_near ad)) := by
  refine okD T.h_Rule_near.F sc_Rule_near (fun cdv A outer s H E hr => ⟨_, _, fun W => (dss_one (ds_ret (de_fld T.cl_Rule T.na_Rule_looked_at (dv 0)))), fun W ds Q hl ht => ?_⟩) (fun _ _ _ _ h => h)
  obtain ⟨r, rfl, hq⟩ := ht
  exact ⟨_, rfl, rfl, _, fld_looked, hq⟩
def t_Lholds : TF := fun W ds Q _ => ∃ (near : Rows) (t : CTest) (around : List Nat) (S : List Nat), ds = [.tup (near.map sD), sD around, testD t] ∧ GoodT near S t ∧ around.length = near.length ∧ near.length ≤ 8 ∧ Q (.bl (holdsT near around t))
theorem ok_Lholds (T : Txt w K mg ad fd) : FnG P w K mg base CX0 1 (ad 55) (fd 55) p_Lholds (spD K 3 t_Lholds) := by
  refine okD T.h_Lholds.F sc_Lholds (fun cdv A outer s H E hr => ⟨_, _, fun W => (dss_cons (ds_if (dt_eq hr.units (de_ix (dv 2) de_int) de_str) (dss_one (ds_ret (de_in (de_ix (dv 1) (de_tix (dv 0) (da_cons (de_ix (dv 2) de_int) da_nil))) (de_ix (dv 2) de_int)))) dss_nil)
      (dss_one (ds_ret (de_chain op_le op_le .i0 .i0 (de_ix (dv 2) de_int) (de_len T.m_len (da_cons (DO.e (do_lc rfl sc_Lholds.nd (di_any (dv 1)) (blkOk_by (own := [("_law_sign", 3)]) (N := n_Lholds) (by kernel_rfl)) (fun _ _ _ _ _ => (dg_name (i := 3) sc_Lholds.nd)) (fun _ _ _ _ _ => (dts_one (dt_in (dv 3) (de_ix (dv 2) de_int)))) (fun _ _ _ _ _ => (dv 3)))) da_nil)) (de_ix (dv 2) de_int))))), fun W ds Q hl ht => ?_⟩) (fun _ _ _ _ h => h)
  obtain ⟨near, t, around, S, rfl, g, hal, h8, hq⟩ := ht
  cases t with
  | at_ p sg =>
    obtain ⟨g1, g2, g3⟩ := g
    have hi := List.idxOf_lt_length_of_mem g1
    refine tdSeq_if1 true (fun Q R q => ⟨_, rfl, _, rfl, by simp; exact q⟩) (fun _ => ?_) (fun z => nomatch z)
    refine tdRet_by _ (fun Q R q => ?_) hq
    have e1 : around[near.idxOf p]? = some around[near.idxOf p] := List.getElem?_eq_getElem (by omega)
    refine ⟨_, rfl, _, rfl, ⟨_, rfl⟩, _, rfl, _, rfl, ?_⟩
    simp only [tdNil, one1_one]
    refine fTix_map g1 (fIx_sign (by omega) e1 ⟨_, rfl, _, rfl, ?_⟩)
    simp [holdsT, show near.idxOf p < around.length by omega] at q ⊢
    exact q
  | cnt lo hi sg =>
    obtain ⟨g1, g2, g3, g4⟩ := g
    refine tdSeq_if1 false (fun Q R q => ⟨_, rfl, _, rfl, by simp [at_eq, count_eq]; exact q⟩) (fun z => nomatch z) (fun _ => ?_)
    refine tdRet_by _ (fun Q R q => ?_) hq
    refine tdChain_le lo ((around.filter fun c => decide (c ∈ sg)).length : Nat) hi (fun Q R q => ⟨_, rfl, _, rfl, q⟩) (fun Q R q => ?_) (fun Q R q => ⟨_, rfl, _, rfl, q⟩) ?_
    · refine ⟨_, rfl, ?_⟩
      show items (sD around) _
      rw [items_str, signs_mk]
      refine ⟨by rw [List.length_map]; show _ ≤ 16777216; omega, compD_sel (fun d => match d with | .v (.str x) => inS x (mk sg) | _ => false) id (fun d hd Kt hk => ?_) (fun d hd hp K hk => ⟨_, rfl, hk⟩) ?_⟩
      · obtain ⟨c, _, rfl⟩ := List.mem_map.mp hd
        refine ⟨_, rfl, _, rfl, _, rfl, ?_⟩
        simp [wipeT] at hk ⊢
        exact hk
      have e : (((around.map fun c => sD [c]).filter fun d => match d with | .v (.str x) => inS x (mk sg) | _ => false).map id) = (around.filter fun c => decide (c ∈ sg)).map fun c => sD [c] := by
        rw [List.map_id, List.filter_map]
        congr 2
        funext c
        simp
      rw [e]
      simp only [tdNil, fLen_lst, List.length_map]
      exact q
    · unfold holdsT at q
      rw [show decide ((lo : Int) ≤ ((around.filter fun c => decide (c ∈ sg)).length : Nat) ∧ (((around.filter fun c => decide (c ∈ sg)).length : Nat) : Int) ≤ hi) = decide (lo ≤ (around.filter fun c => decide (c ∈ sg)).length ∧ (around.filter fun c => decide (c ∈ sg)).length ≤ hi) from decide_eq_decide.mpr (by omega)]
      exact q
def t_Lbecomes : TF := fun W ds Q _ => ∃ (s : Str) (n : Nat) (near : Rows) (rows : List CRow) (own around S : List Nat), ds = [partsOf s n near (rows.map crowD), sD own, sD around] ∧ around.length = near.length ∧ near.length ≤ 8 ∧ rows.length ≤ 80 ∧ (∀ r ∈ rows, GoodC near S r) ∧ Q (sD (fateC near around own rows))
theorem ok_Lbecomes (T : Txt w K mg ad fd) : FnG P w K mg base CX0 2 (ad 56) (fd 56) p_Lbecomes (spD K 3 t_Lbecomes) := by
  have G_Lholds := ok_Lholds (P := P) (w := w) (base := base) T
  refine okD T.h_Lbecomes.F sc_Lbecomes (fun cdv A outer s H E hr => ⟨_, _, fun W => (dss_cons (ds_for PassesOwn.never rfl (di_any (de_ix (dv 0) de_int)) (dg_tup rfl (dgs_cons (dg_name (i := 3) sc_Lbecomes.nd) (dgs_cons (dg_name (i := 4) sc_Lbecomes.nd) (dgs_cons (dg_name (i := 5) sc_Lbecomes.nd) dgs_nil)))) (dss_one (ds_if (DW.t (dw_and (dt_in (dv 1) (dv 3)) (dw_and1 (dt_val (de_all T.m_all (da_cons (DO.e (do_lc rfl sc_Lbecomes.nd (di_any (dv 4)) (blkOk_by (own := [("_law_test_here", 6)]) (N := n_Lbecomes) (by kernel_rfl)) (fun _ _ _ _ _ => (dg_name (i := 6) sc_Lbecomes.nd)) (fun _ _ _ _ _ => dts_nil) (fun _ _ _ _ _ => (de_call G_Lholds (hr.mono (by decide)) T.h_Lholds.g T.h_Lholds.k T.h_Lholds.b pass0 (da_cons (de_ix (dv 0) de_int) (da_cons (dv 2) (da_cons (dv 6) da_nil))))))) da_nil)))))) (dss_one (ds_ret (dv 5))) dss_nil)))
      (dss_one (ds_ret (dv 1)))), fun W ds Q hl ht => ?_⟩) (fun _ _ _ _ h => h)
  obtain ⟨s, n, near, rows, own, around, S, rfl, hal, h8, h80, hg, hq⟩ := ht
  refine tdSeq_cut (fun τ => (∀ r ∈ rows, fitsC near around own r = false) ∧ ∃ z3 z4 z5 z6, τ = [some (.dat (partsOf s n near (rows.map crowD))), some (.dat (sD own)), some (.dat (sD around)), z3, z4, z5, z6]) (fun nx hnx => ?_) ?_
  · refine ⟨_, rfl, _, atI_3 _ _ _ _ _, ?_⟩
    refine forD_word (fun pre τ => ∃ p q z3 z4 z5, rows = p ++ q ∧ pre = p.map crowD ∧ (∀ r ∈ p, fitsC near around own r = false) ∧ τ = [some (.dat (partsOf s n near (rows.map crowD))), some (.dat (sD own)), some (.dat (sD around)), z3, z4, z5, none]) (rows.map crowD) gdTrip_mono ?_ ?_ [] _ _ rfl ⟨[], rows, none, none, none, rfl, rfl, fun _ h => by simp at h, rfl⟩
    · rintro pre d post τ he ⟨p, q, z3, z4, z5, rfl, rfl, hp, rfl⟩
      obtain ⟨r, ys, zs, e1, rfl, e2, _⟩ := map_cut he
      have e2 : p.map crowD = ys.map crowD := e2
      have hlen : p.length = ys.length := by simpa using congrArg List.length e2
      obtain ⟨rfl, rfl⟩ := List.append_inj e1 hlen
      have g := hg r (by simp)
      refine ⟨rfl, rfl, fun nx2 hnx2 => ?_⟩
      refine tdIf_by (fitsC near around own r) (fun Q R q => ?_) (fun h => ?_) (fun h => hnx2 _ ⟨p ++ [r], zs, _, _, _, by simp, by simp, fun x hx => ?_, rfl⟩)
      · refine tdAnd_by (inS (mk own) (mk r.own)) (r.tests.all (holdsT near around)) (fun Q R q => ⟨_, rfl, _, rfl, by simp; exact q⟩) (fun _ Q R q => ?_) q
        have tl := g.tl
        refine ⟨_, rfl, by rw [List.length_map]; show _ ≤ 16777216; omega, compD_mapL testD (fun t => .bl (holdsT near around t)) (fun t ht K hk => ?_) ?_⟩
        · exact ⟨_, rfl, _, atI_2 _ _ _ _, _, rfl, _, rfl, rfl, near, t, around, S, rfl, g.ts t ht, hal, h8, hk⟩
        · exact all_bools (Q := fun d => onBl d Q) q
      · rw [fateC_at h hp] at hq
        exact ⟨_, rfl, hq⟩
      · rcases List.mem_append.mp hx with hx | hx
        · exact hp x hx
        · rw [List.mem_singleton.mp hx]; exact h
    · rintro τ ⟨p, q, z3, z4, z5, e1, e2, hp, rfl⟩
      have : q = [] := by
        have h1 := congrArg List.length e2
        have h2 := congrArg List.length e1
        simp at h1 h2
        exact List.eq_nil_of_length_eq_zero (by omega)
      subst this
      rw [List.append_nil] at e1
      subst e1
      exact hnx _ ⟨hp, z3, z4, z5, _, rfl⟩
  rintro τ ⟨hp, z3, z4, z5, z6, rfl⟩
  rw [fateC_none hp] at hq
  exact ⟨_, rfl, hq⟩
theorem valT_none {α : Type} {gs : List (TK × α)} {k : TK} (h : k ∉ gs.map (·.1)) : valT gs k = none := by
  induction gs with
  | nil => rfl
  | cons g gs ih =>
    simp only [List.map_cons, List.mem_cons, not_or] at h
    rw [valT_cons, if_neg (fun e => h.1 e.symm), ih h.2]
theorem putT_new {α : Type} {gs : List (TK × α)} {k : TK} {d : α} (h : k ∉ gs.map (·.1)) : putT gs k d = gs ++ [(k, d)] := by
  unfold putT
  rw [valT_none h]
  rfl
theorem compD_filterL {α : Type} {g : TDG} {te : TDE} {td : TDT} {vs : List Nat} {τ : Tau} (f h : α → D) (p : α → Bool) : ∀ {l : List α} {Q : List D → Prop},
    (∀ a ∈ l, ∀ (Kt : Prop) (K : D → Prop), (p a = true → K (h a)) → (p a = false → Kt) → g (f a) (wipeT τ vs) fun τ2 => td τ2 (fun b => if b = true then te τ2 K (fun _ => False) else Kt) (fun _ => False)) → Q ((l.filter p).map h) → compD g td te vs τ (l.map f) Q
  | [], _, _, q => q
  | a :: l, Q, hh, q => by
    have ih : ∀ {Q : List D → Prop}, Q ((l.filter p).map h) → compD g td te vs τ (l.map f) Q := fun {Q} q => compD_filterL f h p (fun x hx => hh x (List.mem_cons_of_mem _ hx)) q
    rw [List.map_cons]
    unfold compD
    refine hh a List.mem_cons_self _ _ (fun hp => ih ?_) (fun hp => ih ?_)
    · rw [List.filter_cons, if_pos hp] at q
      exact q
    · rw [List.filter_cons, if_neg (by rw [hp]; decide)] at q
      exact q
theorem fEq_txt {a b : List Nat} {z : Str} {Q : D → Prop} (e : z = mk b) (q : Q (.bl (decide (a = b)))) : fEq (sD a) (.str z) Q := by
  rw [e]
  show fEqN false _ _ Q
  rw [fEqN_str]
  simpa using q
theorem fEq_int {i j : Int} {Q : D → Prop} (q : Q (.bl (decide (i = j)))) : fEq (.int i) (.int j) Q := by
  show fEqN false _ _ Q
  rw [fEqN_int]
  simpa using q
theorem fNe_s {i j : Str} {Q : D → Prop} (q : Q (.bl (!decide (i = j)))) : fNe (.str i) (.str j) Q := by
  show fEqN true _ _ Q
  rw [fEqN_str]
  simpa using q
theorem forD_mapL {α : Type} {g : TDG} {tb : TDS} {E : DEnds} (f : α → D) (P : List α → Tau → Prop) (l : List α) (hg : ∀ d τ (Q Q' : Tau → Prop), (∀ τ', Q τ' → Q' τ') → g d τ Q → g d τ Q')
    (hs : ∀ (pre : List α) (a : α) (post : List α) (τ : Tau), l = pre ++ a :: post → P pre τ → g (f a) τ fun τ1 => ∀ nx : Tau → Prop, (∀ τ', P (pre ++ [a]) τ' → nx τ') → tb τ1 { E with nx := nx, ct := nx, bk := E.nx })
    (hd : ∀ τ, P l τ → E.nx τ) : ∀ (pre post : List α) (τ : Tau), l = pre ++ post → P pre τ → forD g tb (post.map f) τ E
  | pre, [], τ, e, p => hd τ (by rw [e, List.append_nil]; exact p)
  | pre, a :: post, τ, e, p => by
    show g (f a) τ _
    refine hg (f a) τ _ _ (fun τ1 q => ?_) (hs pre a post τ e p)
    exact q _ fun τ2 q2 => forD_mapL f P l hg hs hd (pre ++ [a]) post τ2 (by rw [e, List.append_assoc]; rfl) q2
theorem tdFor_by {it : TDI} {g : TDG} {tb : TDS} {τ : Tau} {E : DEnds} (Ps : List D → Prop) (h1 : ∀ (Q : List D → Prop) (R : Exc → Prop), (∀ ds, Ps ds → Q ds) → it τ Q R) (h2 : ∀ ds, Ps ds → forD g tb ds τ E) : tdFor it g tb τ E := h1 _ _ h2
abbrev ptD (p : Int × Int) : D := .tup [.int p.1, .int p.2]
def offZ : List Nat → Int × Int
  | [110] => (0, -1)
  | [110, 101] => (1, -1)
  | [101] => (1, 0)
  | [115, 101] => (1, 1)
  | [115] => (0, 1)
  | [115, 119] => (-1, 1)
  | [119] => (-1, 0)
  | [110, 119] => (-1, -1)
  | _ => (0, 0)
def offsL : List (Str × List V) := [("n", [.int 0, .int (-1)]), ("ne", [.int 1, .int (-1)]), ("e", [.int 1, .int 0]), ("se", [.int 1, .int 1]), ("s", [.int 0, .int 1]), ("sw", [.int (-1), .int 1]), ("w", [.int (-1), .int 0]), ("nw", [.int (-1), .int (-1)])]
theorem look_off {p : List Nat} (h : p ∈ placesL) : offsL.lookup (mk p) = some [.int (offZ p).1, .int (offZ p).2] := by
  simp only [placesL, List.mem_cons, List.not_mem_nil, or_false] at h
  rcases h with rfl | rfl | rfl | rfl | rfl | rfl | rfl | rfl <;> rfl
theorem fateC_one {near : Rows} {ar : List Nat} {c : Nat} : ∀ {rows : List CRow}, ∃ s, fateC near ar [c] rows = [s] ∧ (s = c ∨ ∃ r ∈ rows, s = r.to)
  | [] => ⟨c, rfl, .inl rfl⟩
  | r :: rows => by
    unfold fateC
    split
    · exact ⟨r.to, rfl, .inr ⟨r, List.mem_cons_self, rfl⟩⟩
    · obtain ⟨s, h1, h2⟩ := fateC_one (near := near) (ar := ar) (c := c) (rows := rows)
      exact ⟨s, h1, h2.elim .inl fun ⟨q, hq, e⟩ => .inr ⟨q, List.mem_cons_of_mem _ hq, e⟩⟩
theorem ground_sig {n : Nat} (h : 2 ≤ n) : 46 ∈ signsN n := by
  obtain ⟨m, rfl⟩ : ∃ m, n = m + 2 := ⟨n - 2, by omega⟩
  simp [signsN, SIG]
theorem _root_.D3.dOk.mono {n m : Nat} {d : D} (h : dOk n d) (hm : n ≤ m) : dOk m d := ⟨h.1, h.2.1, Nat.le_trans h.2.2 hm⟩
mutual
theorem eqv_self2 : ∀ d : D, pyOk d = true → PyData.eqv (toPy d) (toPy d) = true
  | .v .non, _ => by simp [toPy, PyData.eqv]
  | .v (.bl b), _ => by simp [toPy, PyData.eqv]
  | .v (.int b), _ => by simp [toPy, PyData.eqv]
  | .v (.str b), _ => by simp [toPy, PyData.eqv]
  | .v (.ref _), h => by simp [pyOk] at h
  | .v (.byt _), h => by simp [pyOk] at h
  | .v (.flt _), h => by simp [pyOk] at h
  | .v (.ty _), h => by simp [pyOk] at h
  | .lst ds, h => by simp only [toPy, PyData.eqv]; exact eqvAll_self2 ds (by simpa [pyOk] using h)
  | .tup ds, h => by simp only [toPy, PyData.eqv]; exact eqvAll_self2 ds (by simpa [pyOk] using h)
  | .ins _ _, h => by simp [pyOk] at h
  | .dic _, h => by simp [pyOk] at h
  | .exc _ _ _, h => by simp [pyOk] at h
theorem eqvAll_self2 : ∀ ds : List D, pyOks ds = true → PyData.eqvAll (toPys ds) (toPys ds) = true
  | [], _ => by simp [toPys, PyData.eqvAll]
  | d :: ds, h => by
    have h : (pyOk d && pyOks ds) = true := by simpa [pyOks] using h
    rw [Bool.and_eq_true] at h
    simp only [toPys, PyData.eqvAll, eqv_self2 d h.1, eqvAll_self2 ds h.2, Bool.and_self]
end
theorem eqD_self2 {d : D} (h : pyOk d = true) : eqD d d = true := eqv_self2 d h
def keepsB (r : RU) : Bool := if r.s = Str.ofString "blocks" then decide ((0 : Nat) = 0) else decide (fateC r.near (List.replicate r.near.length 46) [46] r.cr = [46])
def t_Ltest : TF := fun W ds Q _ => ∃ (b c : Addr) (cells : List Int) (near : Rows) (S : List Nat), W = bagW b c cells ∧ ds = [.v (.ref b), .tup (near.map sD), sD S] ∧ (∀ p ∈ near, p ∈ placesL) ∧ near.length ≤ 8 ∧ SubSig S ∧ ∀ t, DrawnT near S t → Q (testD t)
theorem ok_Ltest (T : Txt w K mg ad fd) : FnG P w K mg base CX0 3 (ad 51) (fd 51) p_Ltest (spD K 3 t_Ltest) := by
  have G_Ltake := ok_Ltake (P := P) (w := w) (base := base) T
  have G_Lsome := ok_Lsome (P := P) (w := w) (base := base) T
  refine okD T.h_Ltest.F sc_Ltest (fun cdv A outer s H E hr => ⟨_, _, fun W => (dss_cons (ds_if (DW.t (dw_and (dt_ne hr.units (dv 1) (de_tup da_nil)) (dw_and1 (dt_eq hr.units (de_call G_Ltake (hr.mono (by decide)) T.h_Ltake.g T.h_Ltake.k T.h_Ltake.b pass0 (da_cons (dv 0) (da_cons de_int da_nil))) de_int)))) (dss_one (ds_ret (de_tup (da_cons de_str (da_cons (de_ix (dv 1) (de_call G_Ltake (hr.mono (by decide)) T.h_Ltake.g T.h_Ltake.k T.h_Ltake.b pass0 (da_cons (dv 0) (da_cons (de_len T.m_len (da_cons (dv 1) da_nil)) da_nil)))) (da_cons (de_call G_Lsome (hr.mono (by decide)) T.h_Lsome.g T.h_Lsome.k T.h_Lsome.b pass0 (da_cons (dv 0) (da_cons (dv 2) da_nil))) da_nil)))))) dss_nil)
      (dss_cons (ds_set (i := 3) sc_Ltest.nd (de_call G_Ltake (hr.mono (by decide)) T.h_Ltake.g T.h_Ltake.k T.h_Ltake.b pass0 (da_cons (dv 0) (da_cons de_int da_nil))))
      (dss_one (ds_ret (de_tup (da_cons de_str (da_cons (dv 3) (da_cons (de_add (dv 3) (de_call G_Ltake (hr.mono (by decide)) T.h_Ltake.g T.h_Ltake.k T.h_Ltake.b pass0 (da_cons (dv 0) (da_cons de_int da_nil)))) (da_cons (de_call G_Lsome (hr.mono (by decide)) T.h_Lsome.g T.h_Lsome.k T.h_Lsome.b pass0 (da_cons (dv 0) (da_cons (dv 2) da_nil))) da_nil))))))))), fun W ds Q hl ht => ?_⟩) (fun _ _ _ _ h => h)
  obtain ⟨b, c, cells, near, S, rfl, rfl, hn, h8, g, hq⟩ := ht
  have ct : cmpOk (.tup (near.map sD)) := (dOk.tup (n := 1) fun d hd => by
    obtain ⟨p, h, rfl⟩ := List.mem_map.mp hd
    exact .str fun c hc => by
      have := (place_small (hn p h)).2 c hc
      omega).cmp
  have c0 : cmpOk (.tup []) := (dOk.tup (n := 0) fun d hd => by cases hd).cmp
  have e0 : eqD (.tup (near.map sD)) (.tup []) = near.isEmpty := by cases near <;> simp [eqD, toPy, toPys, PyData.eqv, PyData.eqvAll]
  refine tdSeq_if1P (fun b => b = true → near ≠ []) (fun Q R q => ?_) (fun h => ?_) (fun _ => ?_)
  · refine D3.tdAnd_P (!near.isEmpty) (fun Q R q => ⟨_, rfl, by show 0 ≤ sizeLine; decide, ct, c0, by rw [e0]; simpa using q⟩) (fun _ Q R q => ⟨_, rfl, rfl, take_i (n := 2) (by decide) (by decide) fun v _ _ => by simp; exact q _⟩) (fun b hb => q b fun h z => ?_)
    have := hb h
    rw [z] at this
    cases this
  · have hne : near ≠ [] := h rfl
    have hl : 0 < near.length := List.length_pos_iff.mpr hne
    refine ⟨_, rfl, _, rfl, _, rfl, ?_⟩
    simp
    refine take_i (by omega) (by omega) fun v a1 a2 => ?_
    obtain ⟨m, rfl⟩ := Int.eq_ofNat_of_zero_le a1
    have e1 : near[m]? = some near[m] := List.getElem?_eq_getElem (by omega)
    refine fIx_tup_row e1 ⟨b, c, cells, S, rfl, rfl, g, fun l h1 h2 h3 h4 => ?_⟩
    exact hq (.at_ near[m] l) ⟨List.getElem_mem _, h1, h2, h3, h4⟩
  refine tdSeq_asgP (fun d => ∃ k : Nat, d = .int k ∧ k ≤ 3) (fun Q R q => ⟨_, rfl, rfl, take_i (n := 4) (by decide) (by decide) fun v a1 a2 => q _ ⟨v.toNat, congrArg D.int (by omega), by omega⟩⟩) ?_
  rintro _ ⟨lo, rfl, hlo⟩
  refine ⟨_, rfl, _, rfl, _, rfl, rfl, take_i (n := 5) (by decide) (by decide) fun v a1 a2 => ?_⟩
  obtain ⟨m, rfl⟩ := Int.eq_ofNat_of_zero_le a1
  exact ⟨_, rfl, _, rfl, rfl, b, c, cells, S, rfl, rfl, g, fun l h1 h2 h3 h4 => ⟨by show 4 ≤ sizeLine; decide, hq (.cnt lo (lo + m) l) ⟨by omega, by omega, h1, h2, h3, h4⟩⟩⟩
def t_Lrow : TF := fun W ds Q _ => ∃ (b c : Addr) (cells : List Int) (near : Rows) (S : List Nat), W = bagW b c cells ∧ ds = [.v (.ref b), .tup (near.map sD), sD S] ∧ (∀ p ∈ near, p ∈ placesL) ∧ near.length ≤ 8 ∧ SubSig S ∧ ∀ r, DrawnC near S r → Q (crowD r)
theorem ok_Lrow (T : Txt w K mg ad fd) : FnG P w K mg base CX0 4 (ad 52) (fd 52) p_Lrow (spD K 3 t_Lrow) := by
  have G_Ltake := ok_Ltake (P := P) (w := w) (base := base) T
  have G_Lsome := ok_Lsome (P := P) (w := w) (base := base) T
  have G_Ltest := ok_Ltest (P := P) (w := w) (base := base) T
  refine okD T.h_Lrow.F sc_Lrow (fun cdv A outer s H E hr => ⟨_, _, fun W => (dss_cons (ds_set (i := 3) sc_Lrow.nd (de_call G_Lsome (hr.mono (by decide)) T.h_Lsome.g T.h_Lsome.k T.h_Lsome.b pass0 (da_cons (dv 0) (da_cons (dv 2) da_nil))))
      (dss_cons (ds_set (i := 4) sc_Lrow.nd (de_tuple T.m_tuple (da_cons (DO.e (do_lc rfl sc_Lrow.nd (di_range1 rfl T.m_range (da_cons (de_call G_Ltake (hr.mono (by decide)) T.h_Ltake.g T.h_Ltake.k T.h_Ltake.b pass0 (da_cons (dv 0) (da_cons de_int da_nil))) da_nil)) (blkOk_by (own := [("_law_k", 5)]) (N := n_Lrow) (by kernel_rfl)) (fun _ _ _ _ _ => (dg_name (i := 5) sc_Lrow.nd)) (fun _ _ _ _ _ => dts_nil) (fun _ _ _ _ _ => (de_call G_Ltest (hr.mono (by decide)) T.h_Ltest.g T.h_Ltest.k T.h_Ltest.b pass0 (da_cons (dv 0) (da_cons (dv 1) (da_cons (dv 2) da_nil))))))) da_nil)))
      (dss_one (ds_ret (de_tup (da_cons (dv 3) (da_cons (dv 4) (da_cons (de_ix (dv 2) (de_call G_Ltake (hr.mono (by decide)) T.h_Ltake.g T.h_Ltake.k T.h_Ltake.b pass0 (da_cons (dv 0) (da_cons (de_len T.m_len (da_cons (dv 2) da_nil)) da_nil)))) da_nil)))))))), fun W ds Q hl ht => ?_⟩) (fun _ _ _ _ h => h)
  obtain ⟨b, c, cells, near, S, rfl, rfl, hn, h8, g, hq⟩ := ht
  have gl := g.le
  have hs : 0 < S.length := List.length_pos_iff.mpr g.ne
  refine tdSeq_asgP (fun d => ∃ l, d = sD l ∧ DrawnS S l) (fun Q R q => ⟨_, rfl, _, rfl, rfl, b, c, cells, S, rfl, rfl, g, fun l h1 h2 h3 h4 => q _ ⟨l, rfl, h1, h2, h3, h4⟩⟩) ?_
  rintro _ ⟨own, rfl, ho⟩
  refine tdSeq_asgP (fun d => ∃ ts : List CTest, d = .tup (ts.map testD) ∧ ts.length ≤ 8 ∧ ∀ t ∈ ts, DrawnT near S t) (fun Q R q => ?_) ?_
  · refine ⟨_, rfl, rfl, take_i (n := 3) (by decide) (by decide) fun v a1 a2 => ?_⟩
    obtain ⟨k, rfl⟩ := Int.eq_ofNat_of_zero_le a1
    simp only [tdNil, rng1_int]
    refine ⟨by omega, by omega, by rw [numsD_length]; show _ ≤ 16777216; omega, ?_⟩
    refine compD_all (fun e => ∃ t, e = testD t ∧ DrawnT near S t) (fun d hd K hk => ?_) (fun es hl2 hp => ?_)
    · exact ⟨_, rfl, _, rfl, _, rfl, rfl, b, c, cells, near, S, rfl, rfl, hn, h8, g, fun t ht => hk _ ⟨t, rfl, ht⟩⟩
    · obtain ⟨ts, rfl, pt⟩ := all_map testD (DrawnT near S) hp
      exact q _ ⟨ts, rfl, by simp at hl2; omega, pt⟩
  rintro _ ⟨ts, rfl, t8, tg⟩
  refine ⟨_, rfl, _, rfl, _, rfl, _, rfl, ?_⟩
  simp
  refine ⟨by omega, ?_⟩
  refine take_i (by omega) (by omega) fun v a1 a2 => ?_
  obtain ⟨x, e1, e2⟩ := atI_some (xs := S) a1 a2
  exact ⟨by rw [mk_length]; show S.length ≤ 16777216; omega, x, by rw [mk_cps]; exact e1, hq ⟨own, ts, x⟩ ⟨ho, e2, t8, tg⟩⟩
theorem dots4_eq : Str.ofString "...." = mk [46, 46, 46, 46] := by decide +kernel
theorem one_area {n c : Nat} (h : c ∈ signsN n) : areOf (signsN n) [c] = true := area_of (by simp) (by simp [Rising]) (fun x hx => by rw [List.mem_singleton.mp hx]; exact signsN_in h) (fun x hx => by rw [List.mem_singleton.mp hx]; exact h)
theorem ground_area {n : Nat} (h : 2 ≤ n) : areOf (signsN n) [46] = true := one_area (ground_sig h)
theorem keeps_first {s : Str} {n : Nat} {near : Rows} {rows : List CRow} (h8 : near.length ≤ 8) (h : s ≠ Str.ofString "blocks") : keepsB ⟨s, n, near, ⟨[46], [.cnt near.length 8 [46]], 46⟩ :: rows, []⟩ = true := by
  unfold keepsB
  rw [if_neg h]
  refine decide_eq_true ?_
  show (if fitsC near (List.replicate near.length 46) [46] ⟨[46], [.cnt near.length 8 [46]], 46⟩ = true then [46] else _) = [46]
  split
  · rfl
  · rename_i hh
    exfalso
    apply hh
    simp [fitsC, holdsT, h8]
theorem keeps_firstB {s : Str} {n : Nat} {near : Rows} {rows : List BRow} (h : s = Str.ofString "blocks") : keepsB ⟨s, n, near, [], ([[46], [46], [46], [46]], [46, 46, 46, 46]) :: rows⟩ = true := by
  unfold keepsB
  rw [if_pos h]
  rfl
def t_Lrule : TF := fun W ds Q _ => ∃ (b c : Addr) (cells : List Int) (s : Str) (n : Nat), W = bagW b c cells ∧ ds = [.v (.ref b), .str s, .int n] ∧ SortOk s ∧ 2 ≤ n ∧ n ≤ 27 ∧ ∀ r : RU, RUOk r → r.s = s → r.n = n → keepsB r = true → Q r.parts
theorem ok_Lrule (T : Txt w K mg ad fd) : FnG P w K mg base CX0 5 (ad 54) (fd 54) p_Lrule (spD K 3 t_Lrule) := by
  have G_Ltake := ok_Ltake (P := P) (w := w) (base := base) T
  have G_Lsigns := ok_Lsigns (P := P) (w := w) (base := base) T
  have G_Lnear := ok_Lnear (P := P) (w := w) (base := base) T
  have G_Lrow := ok_Lrow (P := P) (w := w) (base := base) T
  have G_Lblock_row := ok_Lblock_row (P := P) (w := w) (base := base) T
  refine okD T.h_Lrule.F sc_Lrule (fun cdv A outer s H E hr => ⟨_, _, fun W => (dss_cons (ds_set (i := 3) sc_Lrule.nd (de_call G_Lsigns (hr.mono (by decide)) T.h_Lsigns.g T.h_Lsigns.k T.h_Lsigns.b pass0 (da_cons (dv 2) da_nil)))
      (dss_cons (ds_set (i := 4) sc_Lrule.nd (de_call G_Lnear (hr.mono (by decide)) T.h_Lnear.g T.h_Lnear.k T.h_Lnear.b pass0 (da_cons (dv 0) (da_cons (dv 1) da_nil))))
      (dss_cons (ds_set (i := 5) sc_Lrule.nd (de_call G_Ltake (hr.mono (by decide)) T.h_Ltake.g T.h_Ltake.k T.h_Ltake.b pass0 (da_cons (dv 0) (da_cons de_int da_nil))))
      (dss_cons (ds_set (i := 6) sc_Lrule.nd (de_call G_Ltake (hr.mono (by decide)) T.h_Ltake.g T.h_Ltake.k T.h_Ltake.b pass0 (da_cons (dv 0) (da_cons de_int da_nil))))
      (dss_cons (ds_if (dt_eq hr.units (dv 1) de_str) (dss_cons (ds_setLcD (i := 7) rfl sc_Lrule.nd (di_range1 rfl T.m_range (da_cons (dv 6) da_nil)) (blkOk_by (own := [("_law_k", 8)]) (N := n_Lrule) (by kernel_rfl)) (fun _ _ _ _ _ => (dg_name (i := 8) sc_Lrule.nd)) (fun _ _ _ _ _ => dts_nil) (fun _ _ _ _ _ => (de_call G_Lblock_row (hr.mono (by decide)) T.h_Lblock_row.g T.h_Lblock_row.k T.h_Lblock_row.b pass0 (da_cons (dv 0) (da_cons (dv 3) da_nil)))))
      (dss_one (ds_ret (de_tup (da_cons (dv 1) (da_cons (dv 2) (da_cons (dv 4) (da_cons (DO.e (do_cat (DO.e (do_lst (da_cons (de_tup (da_cons (de_tup (da_cons de_str (da_cons de_str (da_cons de_str (da_cons de_str da_nil))))) (da_cons de_str da_nil))) da_nil))) (dv 7))) da_nil)))))))) dss_nil)
      (dss_cons (ds_setLcD (i := 7) rfl sc_Lrule.nd (di_range1 rfl T.m_range (da_cons (dv 6) da_nil)) (blkOk_by (own := [("_law_k", 8)]) (N := n_Lrule) (by kernel_rfl)) (fun _ _ _ _ _ => (dg_name (i := 8) sc_Lrule.nd)) (fun _ _ _ _ _ => dts_nil) (fun _ _ _ _ _ => (de_call G_Lrow (hr.mono (by decide)) T.h_Lrow.g T.h_Lrow.k T.h_Lrow.b pass0 (da_cons (dv 0) (da_cons (dv 4) (da_cons (dv 3) da_nil))))))
      (dss_cons (ds_if (DW.t (dw_and (dt_eq hr.units (dv 5) de_int) (dw_and1 (dt_ne hr.units (dv 4) (de_tup da_nil))))) (dss_one (ds_setLcD (i := 7) rfl sc_Lrule.nd (di_any (dv 3)) (blkOk_by (own := [("_law_sign", 9)]) (N := n_Lrule) (by kernel_rfl)) (fun _ _ _ _ _ => (dg_name (i := 9) sc_Lrule.nd)) (fun _ _ _ _ _ => dts_nil) (fun _ _ _ _ _ => (de_tup (da_cons (dv 3) (da_cons (de_tup (da_cons (de_tup (da_cons de_str (da_cons (de_ix (dv 4) de_int) (da_cons (dv 9) da_nil)))) da_nil)) (da_cons (dv 9) da_nil))))))) dss_nil)
      (dss_cons (ds_if (dt_eq hr.units (dv 5) de_int) (dss_one (ds_setLcD (i := 7) rfl sc_Lrule.nd (di_range2 rfl T.m_range (da_cons de_int (da_cons (dv 2) da_nil))) (blkOk_by (own := [("_law_k", 8)]) (N := n_Lrule) (by kernel_rfl)) (fun _ _ _ _ _ => (dg_name (i := 8) sc_Lrule.nd)) (fun _ _ _ _ _ => dts_nil) (fun _ _ _ _ _ => (de_tup (da_cons (de_ix (dv 3) (dv 8)) (da_cons (de_tup da_nil) (da_cons (de_ix (dv 3) (de_add de_int (de_mod (dv 8) (de_sub (dv 2) de_int)))) da_nil))))))) dss_nil)
      (dss_one (ds_ret (de_tup (da_cons (dv 1) (da_cons (dv 2) (da_cons (dv 4) (da_cons (DO.e (do_cat (DO.e (do_lst (da_cons (de_tup (da_cons de_str (da_cons (de_tup (da_cons (de_tup (da_cons de_str (da_cons (de_len T.m_len (da_cons (dv 4) da_nil)) (da_cons de_int (da_cons de_str da_nil))))) da_nil)) (da_cons de_str da_nil)))) da_nil))) (dv 7))) da_nil))))))))))))))), fun W ds Q hl ht => ?_⟩) (fun _ _ _ _ h => h)
  obtain ⟨b, c, cells, s, n, rfl, rfl, hs, n1, n2, hq⟩ := ht
  have g := signsN_sub (n := n) (by omega)
  have ls := g.le
  have hsig : ∀ c ∈ signsN n, c ∈ SIG := fun c hc => signsN_in hc
  refine tdSeq_asg (sD (signsN n)) (fun Q R q => ⟨_, rfl, rfl, n, rfl, n2, q⟩) ?_
  refine tdSeq_asgP (fun d => ∃ near : Rows, d = .tup (near.map sD) ∧ NearOk s near) (fun Q R q => ⟨_, rfl, _, rfl, rfl, b, c, cells, s, rfl, rfl, hs, fun near h => q _ ⟨near, rfl, h⟩⟩) ?_
  rintro _ ⟨near, rfl, hn⟩
  refine tdSeq_asgP (fun d => ∃ k : Int, d = .int k) (fun Q R q => ⟨_, rfl, rfl, take_i (n := 5) (by decide) (by decide) fun v a1 a2 => q _ ⟨_, rfl⟩⟩) ?_
  rintro _ ⟨way, rfl⟩
  refine tdSeq_asgP (fun d => ∃ k : Nat, d = .int k ∧ k ≤ 79) (fun Q R q => ⟨_, rfl, rfl, take_i (n := 5) (by decide) (by decide) fun v a1 a2 => q _ ⟨v.toNat, congrArg D.int (by omega), by omega⟩⟩) ?_
  rintro _ ⟨k, rfl, hk⟩
  refine tdSeq_if1 (decide (s = Str.ofString "blocks")) (fun Q R q => ⟨_, rfl, by simp; simpa using q⟩) (fun h => ?_) (fun h => ?_)
  · have h : s = Str.ofString "blocks" := by simpa using h
    subst h
    cases hn.blocks
    refine tdSeq_asgP (fun d => ∃ rows : List BRow, d = .lst (rows.map browD) ∧ rows.length ≤ 79 ∧ ∀ r ∈ rows, GoodB (signsN n) r) (fun Q R q => ?_) ?_
    · refine ⟨_, rfl, ?_⟩
      simp only [tdNil, rng1_int]
      refine ⟨by omega, by omega, by rw [numsD_length]; show _ ≤ 16777216; omega, ?_⟩
      refine compD_all (fun e => ∃ r : BRow, e = browD r ∧ GoodB (signsN n) r) (fun d hd Kk hk2 => ⟨_, rfl, _, rfl, rfl, b, c, cells, signsN n, rfl, rfl, g, fun r hr => hk2 _ ⟨r, rfl, hr.good (fun _ h => h) hsig⟩⟩) (fun es hl2 hp => ?_)
      obtain ⟨rows, rfl, pr⟩ := all_map browD (fun r => GoodB (signsN n) r) hp
      exact q _ ⟨rows, rfl, by simp at hl2; omega, pr⟩
    rintro _ ⟨rows, rfl, rl, rg⟩
    rw [dot_eq, dots4_eq]
    refine ⟨_, rfl, _, rfl, _, rfl, by show 4 ≤ sizeLine; decide, by show 2 ≤ sizeLine; decide, by show 1 ≤ sizeLine; decide, _, rfl, ?_, by show 4 ≤ sizeLine; decide, ?_⟩
    · rw [List.length_map]
      exact Nat.le_trans (show 1 + rows.length ≤ 80 by omega) (by decide)
    · refine hq ⟨Str.ofString "blocks", n, [], [], ([[46], [46], [46], [46]], [46, 46, 46, 46]) :: rows⟩ ⟨.inr (.inr rfl), n1, n2, hn, ?_, fun _ => rfl, fun e => absurd rfl e, fun _ h => (nomatch h), fun r hr => ?_⟩ rfl rfl (keeps_firstB rfl)
      · show 0 + (rows.length + 1) ≤ 80
        omega
      · rcases List.mem_cons.mp hr with rfl | hr
        · refine ⟨rfl, fun f hf => ?_, rfl, fun c hc => ?_⟩
          · have : f = [46] := by simpa using hf
            rw [this]
            exact ⟨ground_area n1, by decide⟩
          · have : c = 46 := by simpa using hc
            rw [this]
            exact ground_sig n1
        · exact rg r hr
  have h : ¬ s = Str.ofString "blocks" := by simpa using h
  have h8 := hn.le
  have area0 : areOf (signsN n) (signsN n) = true := area_of g.ne g.up hsig fun _ h => h
  refine tdSeq_asgP (fun d => ∃ rows : List CRow, d = .lst (rows.map crowD) ∧ rows.length ≤ 79 ∧ ∀ r ∈ rows, GoodC near (signsN n) r) (fun Q R q => ?_) ?_
  · refine ⟨_, rfl, ?_⟩
    simp only [tdNil, rng1_int]
    refine ⟨by omega, by omega, by rw [numsD_length]; show _ ≤ 16777216; omega, ?_⟩
    refine compD_all (fun e => ∃ r : CRow, e = crowD r ∧ GoodC near (signsN n) r) (fun d hd Kk hk2 => ⟨_, rfl, _, rfl, _, rfl, rfl, b, c, cells, near, signsN n, rfl, rfl, hn.of, hn.le, g, fun r hr => hk2 _ ⟨r, rfl, hr.good (fun _ h => h) hsig⟩⟩) (fun es hl2 hp => ?_)
    obtain ⟨rows, rfl, pr⟩ := all_map crowD (fun r => GoodC near (signsN n) r) hp
    exact q _ ⟨rows, rfl, by simp at hl2; omega, pr⟩
  rintro _ ⟨rows0, rfl, rl0, rg0⟩
  refine tdSeq_cut (fun τ => ∃ (rows : List CRow), rows.length ≤ 79 ∧ (∀ r ∈ rows, GoodC near (signsN n) r) ∧ τ = [some (.dat (.v (.ref b))), some (.dat (.str s)), some (.dat (.int n)), some (.dat (sD (signsN n))), some (.dat (.tup (near.map sD))), some (.dat (.int way)), some (.dat (.int k)), some (.dat (.lst (rows.map crowD))), none, none]) (fun nx hnx => ?_) ?_
  · have ct : cmpOk (.tup (near.map sD)) := (dOk.tup (n := 1) fun d hd => by
      obtain ⟨p, h, rfl⟩ := List.mem_map.mp hd
      exact .str fun c hc => by
        have := (place_small (hn.of p h)).2 c hc
        omega).cmp
    have c0 : cmpOk (.tup []) := (dOk.tup (n := 0) fun d hd => by cases hd).cmp
    have e0 : eqD (.tup (near.map sD)) (.tup []) = near.isEmpty := by cases near <;> simp [eqD, toPy, toPys, PyData.eqv, PyData.eqvAll]
    refine tdIf_by (decide (way = 0) && !near.isEmpty) (fun Q R q => tdAnd_by _ _ (fun Q R q => tdTest_by _ (fun Q R q => ⟨_, rfl, fEq_int q⟩) q) (fun _ Q R q => tdTest_by _ (fun Q R q => ⟨_, rfl, by show 0 ≤ sizeLine; decide, ct, c0, by rw [e0]; simpa using q⟩) q) q) (fun z => ?_) (fun _ => hnx _ ⟨rows0, rl0, rg0, rfl⟩)
    rw [Bool.and_eq_true] at z
    obtain ⟨p, near', en⟩ : ∃ p near', near = p :: near' := by
      cases near with
      | nil => exact absurd z.2 (by decide)
      | cons p near' => exact ⟨p, near', rfl⟩
    have e1 : near[0]? = some p := by rw [en]; rfl
    refine ⟨_, rfl, ?_⟩
    show items (sD (signsN n)) _
    rw [items_str, signs_mk]
    refine ⟨by rw [List.length_map]; show _ ≤ 16777216; omega, ?_⟩
    refine compD_mapL (fun c => sD [c]) (fun c => crowD ⟨signsN n, [.at_ p [c]], c⟩) (fun c hc Kk hk2 => ⟨_, rfl, _, rfl, fIx_tup_row (j := 0) e1 ⟨_, rfl, by show 3 ≤ sizeLine; decide, by show 1 ≤ sizeLine; decide, _, rfl, by show 3 ≤ sizeLine; decide, hk2⟩⟩) ?_
    refine hnx _ ⟨(signsN n).map fun c => ⟨signsN n, [.at_ p [c]], c⟩, by rw [List.length_map]; omega, fun r hr => ?_, ?_⟩
    · obtain ⟨c, hc, rfl⟩ := List.mem_map.mp hr
      refine ⟨area0, ls, hc, by show 1 ≤ 8; decide, fun t ht => ?_⟩
      have : t = .at_ p [c] := by simpa using ht
      rw [this]
      exact ⟨by rw [en]; simp, one_area hc, by simp⟩
    · rw [List.map_map]
      rfl
  rintro _ ⟨rows1, rl1, rg1, rfl⟩
  refine tdSeq_cut (fun τ => ∃ (rows : List CRow), rows.length ≤ 79 ∧ (∀ r ∈ rows, GoodC near (signsN n) r) ∧ τ = [some (.dat (.v (.ref b))), some (.dat (.str s)), some (.dat (.int n)), some (.dat (sD (signsN n))), some (.dat (.tup (near.map sD))), some (.dat (.int way)), some (.dat (.int k)), some (.dat (.lst (rows.map crowD))), none, none]) (fun nx hnx => ?_) ?_
  · refine tdIf_by (decide (way = 1)) (fun Q R q => tdTest_by _ (fun Q R q => ⟨_, rfl, fEq_int q⟩) q) (fun z => ?_) (fun _ => hnx _ ⟨rows1, rl1, rg1, rfl⟩)
    refine ⟨_, rfl, ?_⟩
    simp only [tdNil, rng2_int]
    refine ⟨by omega, by rw [numsD_length]; show _ ≤ 16777216; omega, ?_⟩
    have sl : (signsN n).length = n := by simp [signsN, SIG]; omega
    refine compD_all (fun e => ∃ r : CRow, e = crowD r ∧ GoodC near (signsN n) r) (fun d hd Kk hk2 => ?_) (fun es hl2 hp => ?_)
    · obtain ⟨j, hj, rfl⟩ := mem_numsD hd
      have hj : j < n - 1 := by omega
      have e1 : (signsN n)[j + 1]? = some ((signsN n)[j + 1]'(by omega)) := List.getElem?_eq_getElem (by omega)
      have hm : (j + 1) % (n - 1) < n - 1 := Nat.mod_lt _ (by omega)
      have e2 : (signsN n)[1 + (j + 1) % (n - 1)]? = some ((signsN n)[1 + (j + 1) % (n - 1)]'(by omega)) := List.getElem?_eq_getElem (by omega)
      rw [show (1 : Int) + (j : Nat) = ((j + 1 : Nat) : Int) by omega] at *
      refine ⟨_, rfl, _, rfl, fIx_sign (by omega) e1 ⟨by show 0 ≤ sizeLine; decide, _, rfl, _, rfl, _, rfl, by show (0 : Int) < (n : Nat) - 1; omega, ?_⟩⟩
      simp only [fAdd_int]
      rw [show (1 + ((j + 1 : Nat) : Int) % ((n : Nat) - 1)) = ((1 + (j + 1) % (n - 1) : Nat) : Int) from by rw [show ((n : Nat) : Int) - 1 = ((n - 1 : Nat) : Int) by omega]; rfl]
      refine fIx_sign (by omega) e2 ⟨by show 3 ≤ sizeLine; decide, ?_⟩
      exact hk2 _ ⟨⟨[_], [], _⟩, rfl, one_area (List.mem_of_getElem? e1), by show 1 ≤ 27; decide, List.mem_of_getElem? e2, by show 0 ≤ 8; decide, fun _ h => (nomatch h)⟩
    · obtain ⟨rows, rfl, pr⟩ := all_map crowD (fun r => GoodC near (signsN n) r) hp
      exact hnx _ ⟨rows, by simp at hl2; omega, pr, rfl⟩
  rintro _ ⟨rows, rl, rg, rfl⟩
  rw [dot_eq]
  refine ⟨_, rfl, _, rfl, _, rfl, _, rfl, ?_⟩
  simp only [tdNil, fLen_tup, List.length_map]
  refine ⟨by show 4 ≤ sizeLine; decide, by show 1 ≤ sizeLine; decide, by show 3 ≤ sizeLine; decide, by show 1 ≤ sizeLine; decide, _, rfl, ?_, by show 4 ≤ sizeLine; decide, ?_⟩
  · rw [List.length_map]
    exact Nat.le_trans (show 1 + rows.length ≤ 80 by omega) (by decide)
  have hq2 := hq ⟨s, n, near, ⟨[46], [.cnt near.length 8 [46]], 46⟩ :: rows, []⟩ ⟨hs, n1, n2, hn, (by show (rows.length + 1) + 0 ≤ 80; omega), fun e => absurd e h, fun _ => rfl, fun r hr => ?_, fun _ h => (nomatch h)⟩ rfl rfl (keeps_first h8 h)
  · unfold RU.parts RU.rows at hq2
    rw [List.map_nil, List.append_nil] at hq2
    exact hq2
  · rcases List.mem_cons.mp hr with rfl | hr
    · refine ⟨ground_area n1, by show 1 ≤ 27; decide, ground_sig n1, by show 1 ≤ 8; decide, fun t ht => ?_⟩
      have : t = .cnt near.length 8 [46] := by simpa using ht
      rw [this]
      exact ⟨h8, Nat.le_refl _, ground_area n1, by show 1 ≤ 27; decide⟩
    · exact rg r hr
theorem compD2_mapL {α : Type} {g g1 : TDG} {it1 : TDI} {tt1 : TDT} {te : TDE} {vs vs1 : List Nat} {τ : Tau} (f : α → D) (out : α → List D) (k : Nat) : ∀ {l : List α} {m : Nat} {Q : List D → Prop},
    (∀ a ∈ l, (out a).length = k) → (∀ a ∈ l, ∀ (m : Nat) (Kk : List D → Prop), m + k ≤ sizeLine → Kk (out a) → g (f a) (wipeT τ vs) fun τ2 => it1 τ2 (fun es => m + es.length ≤ sizeLine ∧ compD g1 tt1 te vs1 τ2 es Kk) (fun _ => False)) →
    m + l.length * k ≤ sizeLine → Q (l.flatMap out) → compD2 g tdYes it1 g1 tt1 te vs vs1 τ (l.map f) m Q
  | [], _, _, _, _, _, q => q
  | a :: l, m, Q, hl, h, hm, q => by
    have e : (a :: l).length * k = l.length * k + k := by rw [List.length_cons, Nat.succ_mul]
    rw [e] at hm
    have q : Q (out a ++ l.flatMap out) := by simpa using q
    have h1 := h a List.mem_cons_self m (fun ys => compD2 g tdYes it1 g1 tt1 te vs vs1 τ (l.map f) (m + ys.length) fun zs => Q (ys ++ zs)) (by omega) ?_
    · exact h1
    · refine compD2_mapL f out k (fun b hb => hl b (List.mem_cons_of_mem _ hb)) (fun b hb => h b (List.mem_cons_of_mem _ hb)) ?_ q
      rw [hl a List.mem_cons_self]
      omega
theorem fNe_self {d : D} {Q : D → Prop} (c : cmpOk d) (p : pyOk d = true) (q : Q (.bl false)) : fNe d d Q := by
  show fEqN true d d Q
  have k : cmpOk d ∧ cmpOk d ∧ Q (.bl (true ^^ eqD d d)) := ⟨c, c, by rw [eqD_self2 p]; exact q⟩
  cases d with
  | v x =>
    show (if scal x x = true then Q (.bl (true ^^ decide (x = x))) else _)
    split
    · rw [decide_eq_true rfl]; exact q
    · exact k
  | _ => exact k
/-- for k in range(n) -/
theorem forD_count {i : Nat} {tb : TDS} {E : DEnds} (P : Nat → Tau → Prop) (n : Nat) {τ : Tau} (h0 : P 0 τ)
    (hs : ∀ k, k < n → ∀ τ : Tau, P k τ → ∀ nx : Tau → Prop, (∀ τ', P (k + 1) τ' → nx τ') → tb (τ.set i (some (.dat (.int (k : Nat))))) { E with nx := nx, ct := nx, bk := E.nx }) (hd : ∀ τ, P n τ → E.nx τ) : forD (gdName i) tb (numsD 0 n) τ E := by
  refine forD_word (fun pre τ => P pre.length τ) (numsD 0 n) gdName_mono ?_ (fun τ h => hd τ (by rw [numsD_length] at h; exact h)) [] _ τ rfl h0
  rintro pre d post τ he hp nx hnx
  obtain ⟨_, rfl⟩ := numsD_cut he
  have hk : pre.length < n := by
    have := congrArg List.length he
    rw [numsD_length, List.length_append, List.length_cons] at this
    omega
  have := hs pre.length hk τ hp nx fun τ' h => hnx τ' (by rw [List.length_append]; exact h)
  rw [Int.zero_add]
  exact this
theorem flat_one {α β : Type} {l : List α} {f : α → List β} (h : ∀ a ∈ l, (f a).length = 1) : (l.flatMap f).length = l.length := by
  rw [List.length_flatMap, List.map_congr_left h, List.map_const', List.sum_replicate_nat, Nat.mul_one]
/-- for k, d in enumerate(l) -/
theorem forD_enum {i j n : Nat} (hn : n = 2) {tb : TDS} {E : DEnds} (l : List D) (P : Nat → Tau → Prop) {τ : Tau} (h0 : P 0 τ)
    (hs : ∀ (k : Nat) (d : D), l[k]? = some d → ∀ τ : Tau, P k τ → ∀ nx : Tau → Prop, (∀ τ', P (k + 1) τ' → nx τ') → tb ((τ.set i (some (.dat (.int (k : Nat))))).set j (some (.dat d))) { E with nx := nx, ct := nx, bk := E.nx }) (hd : ∀ τ, P l.length τ → E.nx τ) : forD (gdTup n (gdCons (gdName i) (gdCons (gdName j) gdNil))) tb (nums 0 l) τ E := by
  subst hn
  refine forD_word (fun pre τ => P pre.length τ) (nums 0 l) gdPair_mono ?_ (fun τ h => hd τ (by rw [nums_len] at h; exact h)) [] _ τ rfl h0
  rintro pre d post τ he hp
  have hlen := congrArg List.length he
  rw [nums_len, List.length_append, List.length_cons] at hlen
  have hd1 : (nums 0 l)[pre.length]? = some d := by rw [he]; simp
  have hr : l[pre.length]? = some (l[pre.length]'(by omega)) := List.getElem?_eq_getElem (by omega)
  rw [nums_at (k := 0) hr] at hd1
  cases hd1
  refine ⟨rfl, rfl, fun nx hnx => ?_⟩
  have := hs pre.length _ hr τ hp nx fun τ' h => hnx τ' (by rw [List.length_append]; exact h)
  rw [Nat.zero_add]
  exact this
theorem tdIfE_by {c : TDT} {ta tb : TDE} {τ : Tau} {Q : D → Prop} {R : Exc → Prop} (b : Bool) (h : ∀ (Q : Bool → Prop) (R : Exc → Prop), Q b → c τ Q R) (k1 : b = true → ta τ Q R) (k2 : b = false → tb τ Q R) : tdIf c ta tb τ Q R := by
  refine h _ _ ?_
  cases b with
  | true => rw [if_pos rfl]; exact k1 rfl
  | false => rw [if_neg Bool.false_ne_true]; exact k2 rfl
theorem dok_nil : dOk 1 (.lst []) := .lst (n := 0) fun _ h => (nomatch h)
theorem fJoin_nil {Q : D → Prop} (ls : List (List Nat)) (hs : (ls.map List.length).sum ≤ 16777216) (q : Q (sD ls.flatten)) : fJoin (.str (mk [])) (.lst (ls.map sD)) Q := by
  refine ⟨ls.map mk, by rw [List.map_map]; rfl, ?_, ?_⟩
  · have e : (ls.map mk).map (·.length) = ls.map List.length := by
      rw [List.map_map]
      exact List.map_congr_left fun l _ => mk_length l
    rw [e, show (mk []).length = 0 from mk_length [], Nat.mul_zero]
    exact hs
  · rw [join_mk]
    exact q
theorem tdSeq_newKl {i : Nat} {u : TDS} {τ : Tau} {E : DEnds} (k : u (τ.set i (some (.kl []))) E) : tdSeq (tdNewKl i) u τ E := k
theorem compT_mapL {α : Type} {g : TDG} {tt : TDT} {tk tv : TDE} {vs : List Nat} {τ : Tau} (f : α → D) (p : α → Bool) (k : α → TK) (v : α → D) : ∀ {l : List α} {acc : List (TK × D)} {Q : List (TK × D) → Prop},
    (∀ a ∈ l, ∀ (Kk : D → D → Prop) (Kn : Prop), (p a = true → Kk (dOfT (k a)) (v a)) → (p a = false → Kn) → g (f a) (wipeT τ vs) fun τ2 => tt τ2 (fun b => if b = true then tk τ2 (fun y => tv τ2 (fun z => Kk y z) (fun _ => False)) (fun _ => False) else Kn) (fun _ => False)) →
    (l.map k).Nodup → (∀ a ∈ l, k a ∉ acc.map (·.1)) → Q (acc ++ (l.filter p).map fun a => (k a, v a)) → compT g tt tk tv vs τ (l.map f) acc Q
  | [], _, _, _, _, _, q => by simpa [compT] using q
  | a :: l, acc, Q, h, nd, ac, q => by
    have nd1 : k a ∉ l.map k := (List.nodup_cons.mp nd).1
    have nd2 : (l.map k).Nodup := (List.nodup_cons.mp nd).2
    refine h a List.mem_cons_self (fun y z => ∃ kk, keyD y = some kk ∧ compT g tt tk tv vs τ (l.map f) (putT acc kk z) Q) (compT g tt tk tv vs τ (l.map f) acc Q) (fun e => ⟨k a, keyD_of _, ?_⟩) (fun e => ?_)
    · rw [putT_new (ac a List.mem_cons_self)]
      refine compT_mapL f p k v (fun b hb => h b (List.mem_cons_of_mem _ hb)) nd2 (fun b hb hm => ?_) ?_
      · rw [List.map_append, List.mem_append] at hm
        rcases hm with hm | hm
        · exact ac b (List.mem_cons_of_mem _ hb) hm
        · have e2 : k b = k a := by simpa using hm
          exact nd1 (e2 ▸ List.mem_map_of_mem hb)
      · rw [List.filter_cons_of_pos e] at q
        simpa using q
    · refine compT_mapL f p k v (fun b hb => h b (List.mem_cons_of_mem _ hb)) nd2 (fun b hb => ac b (List.mem_cons_of_mem _ hb)) ?_
      rw [List.filter_cons_of_neg (by simp [e])] at q
      exact q
theorem fJoin_ones {α : Type} {Q : D → Prop} (l : List α) (f : α → Nat) (hl : l.length ≤ 16777216) (q : Q (sD (l.flatMap fun a => [f a]))) : fJoin (.str (mk [])) (.lst (l.map fun a => sD [f a])) Q := by
  have := fJoin_nil (Q := Q) (l.map fun a => [f a]) ?_ ?_
  · rw [List.map_map] at this
    exact this
  · rw [List.map_map]
    have e : l.map (List.length ∘ fun a => [f a]) = l.map fun _ => 1 := rfl
    rw [e, List.map_const', List.sum_replicate_nat]
    omega
  · rw [← List.flatMap_def]
    exact q
theorem numsD_eq {n : Nat} : numsD 0 n = (List.range n).map fun j : Nat => D.int (0 + (j : Int)) := rfl
/-- all words of so many letters, in order -/
def wordsL (S : List Nat) : Nat → List (List Nat)
  | 0 => [[]]
  | k + 1 => (wordsL S k).flatMap fun w => S.map fun c => w ++ [c]
theorem wordsL_mem {S : List Nat} : ∀ {k : Nat} {w : List Nat}, w ∈ wordsL S k ↔ w.length = k ∧ ∀ c ∈ w, c ∈ S
  | 0, w => by
    show w ∈ [[]] ↔ _
    rw [List.mem_singleton, List.length_eq_zero_iff]
    exact ⟨fun h => ⟨h, by rw [h]; exact fun _ z => nomatch z⟩, fun h => h.1⟩
  | k + 1, w => by
    show w ∈ (wordsL S k).flatMap _ ↔ _
    rw [List.mem_flatMap]
    constructor
    · rintro ⟨v, hv, h⟩
      obtain ⟨c, hc, rfl⟩ := List.mem_map.mp h
      obtain ⟨h1, h2⟩ := wordsL_mem.mp hv
      refine ⟨by rw [List.length_append, h1]; rfl, fun x hx => ?_⟩
      rcases List.mem_append.mp hx with hx | hx
      · exact h2 x hx
      · rw [List.mem_singleton.mp hx]; exact hc
    · rintro ⟨hl, h⟩
      have ne : w ≠ [] := by intro z; rw [z] at hl; cases hl
      refine ⟨w.dropLast, wordsL_mem.mpr ⟨by rw [List.length_dropLast, hl]; rfl, fun c hc => h c (List.dropLast_subset w hc)⟩, List.mem_map.mpr ⟨w.getLast ne, h _ (List.getLast_mem ne), List.dropLast_concat_getLast ne⟩⟩
theorem wordsL_count {S : List Nat} : ∀ {k : Nat}, (wordsL S k).length = S.length ^ k
  | 0 => rfl
  | k + 1 => by
    show ((wordsL S k).flatMap _).length = _
    rw [List.length_flatMap]
    have : ((wordsL S k).map fun w => (S.map fun c => w ++ [c]).length) = (wordsL S k).map fun _ => S.length := List.map_congr_left fun w _ => List.length_map _
    rw [this, List.map_const', List.sum_replicate_nat, wordsL_count, Nat.pow_succ]
theorem app_one {v w : List Nat} {c d : Nat} (h : v ++ [c] = w ++ [d]) : v = w ∧ c = d := by
  obtain ⟨h1, h2⟩ := List.append_inj' h rfl
  exact ⟨h1, by injection h2⟩
theorem wordsL_nodup {S : List Nat} (nd : S.Nodup) : ∀ {k : Nat}, (wordsL S k).Nodup
  | 0 => by show ([[]] : List (List Nat)).Nodup; simp
  | k + 1 => by
    show ((wordsL S k).flatMap _).Nodup
    unfold List.Nodup
    rw [List.pairwise_flatMap]
    refine ⟨fun w _ => ?_, (wordsL_nodup nd (k := k)).imp fun {v w} h a ha b hb e => ?_⟩
    · rw [List.pairwise_map]
      exact List.Pairwise.imp (fun {a b} h e => h (app_one e).2) nd
    · obtain ⟨c, _, rfl⟩ := List.mem_map.mp ha
      obtain ⟨d, _, rfl⟩ := List.mem_map.mp hb
      exact h (app_one e).1
/-- the sign of a column at a height -/
def signIn (e col : List Nat) (y : Int) : List Nat := if 0 ≤ y ∧ y < col.length then [col.getD y.toNat 0] else if e = [] then [col.getD 0 0] else e
def colAt (one two three : List Nat) (dx : Int) : List Nat := if dx = -1 then one else if dx = 0 then two else three
def aroundL (near : Rows) (e one two three : List Nat) (y : Nat) : List Nat := near.flatMap fun p => signIn e (colAt one two three (offZ p).1) ((y : Int) + (offZ p).2)
def cellL (r : RU) (e one two three : List Nat) (y : Nat) : List Nat := fateC r.near (aroundL r.near e one two three y) [two.getD y 0] r.cr
/-- what the middle one of three columns becomes -/
def madeL (r : RU) (e one two three : List Nat) : List Nat := (List.range two.length).flatMap (cellL r e one two three)
abbrev SState := List Nat × List Nat
def statesL (ls : List (List Nat)) : List SState := ls.flatMap fun a => ls.map fun b => (a, b)
def behindL (r : RU) (e : List Nat) (ls : List (List Nat)) (s : SState) (c : List Nat) : List SState := (ls.filter fun t => decide (madeL r e s.1 s.2 t = c)).map fun t => (s.2, t)
abbrev Grp := List (List Nat × List (List Nat))
def grp (gs : Grp) (k t : List Nat) : Grp := match gs with
  | [] => [(k, [t])]
  | g :: r => if g.1 = k then (g.1, g.2 ++ [t]) :: r else g :: grp r k t
def grpD (gs : Grp) : List (L2.Key × D) := gs.map fun g => (.inr (mk g.1), .lst (g.2.map sD))
def lookG (gs : Grp) (c : List Nat) : List (List Nat) := match gs with
  | [] => []
  | g :: r => if g.1 = c then g.2 else lookG r c
theorem lookG_grp {k t c : List Nat} : ∀ {gs : Grp}, lookG (grp gs k t) c = if k = c then lookG gs c ++ [t] else lookG gs c
  | [] => by
    show (if k = c then [t] else []) = _
    rfl
  | g :: r => by
    unfold grp
    by_cases h : g.1 = k
    · rw [if_pos h]
      show (if g.1 = c then g.2 ++ [t] else lookG r c) = if k = c then (if g.1 = c then g.2 else lookG r c) ++ [t] else if g.1 = c then g.2 else lookG r c
      by_cases hc : k = c
      · rw [if_pos (h.trans hc), if_pos hc, if_pos (h.trans hc)]
      · rw [if_neg hc, if_neg (fun z => hc (h.symm.trans z)), if_neg (fun z => hc (h.symm.trans z))]
    · rw [if_neg h]
      show (if g.1 = c then g.2 else lookG (grp r k t) c) = if k = c then (if g.1 = c then g.2 else lookG r c) ++ [t] else if g.1 = c then g.2 else lookG r c
      rw [lookG_grp]
      by_cases hc : k = c
      · have : ¬ g.1 = c := fun z => h (z.trans hc.symm)
        rw [if_neg this, if_neg this]
      · rw [if_neg hc, if_neg hc]
def waysG (f : List Nat → List Nat) (ls : List (List Nat)) : Grp := ls.foldl (fun gs t => grp gs (f t) t) []
theorem waysG_look {f : List Nat → List Nat} {c : List Nat} {ls : List (List Nat)} : lookG (waysG f ls) c = ls.filter fun t => decide (f t = c) := by
  have h : ∀ (ls : List (List Nat)) (gs : Grp), lookG (ls.foldl (fun gs t => grp gs (f t) t) gs) c = lookG gs c ++ ls.filter fun t => decide (f t = c) := fun ls => by
    induction ls with
    | nil => intro gs; rw [List.filter_nil, List.append_nil]; rfl
    | cons t ls ih =>
      intro gs
      rw [List.foldl_cons, ih, lookG_grp]
      by_cases hc : f t = c
      · rw [if_pos hc, List.filter_cons, if_pos (decide_eq_true hc), List.append_assoc]
        rfl
      · rw [if_neg hc, List.filter_cons, if_neg (by rw [decide_eq_false hc]; decide)]
  exact h ls []
theorem waysG_snoc {f : List Nat → List Nat} {l : List (List Nat)} {a : List Nat} : waysG f (l ++ [a]) = grp (waysG f l) (f a) a := by
  unfold waysG
  rw [List.foldl_append]
  rfl
theorem grp_len {k t : List Nat} : ∀ {gs : Grp}, (grp gs k t).length ≤ gs.length + 1
  | [] => Nat.le_refl _
  | g :: r => by
    unfold grp
    split
    · exact Nat.le_succ _
    · exact Nat.succ_le_succ grp_len
theorem grp_bound {k t : List Nat} {m : Nat} : ∀ {gs : Grp}, (∀ g ∈ gs, g.2.length ≤ m) → ∀ g ∈ grp gs k t, g.2.length ≤ m + 1
  | [], _, g, hg => by rw [List.mem_singleton.mp hg]; exact Nat.succ_le_succ (Nat.zero_le _)
  | g0 :: r, h, g, hg => by
    unfold grp at hg
    split at hg
    · rcases List.mem_cons.mp hg with rfl | hg
      · show (g0.2 ++ [t]).length ≤ _
        rw [List.length_append]
        exact Nat.succ_le_succ (h g0 List.mem_cons_self)
      · exact Nat.le_succ_of_le (h g (List.mem_cons_of_mem _ hg))
    · rcases List.mem_cons.mp hg with rfl | hg
      · exact Nat.le_succ_of_le (h _ List.mem_cons_self)
      · exact grp_bound (fun x hx => h x (List.mem_cons_of_mem _ hx)) g hg
theorem waysG_bound {f : List Nat → List Nat} {l : List (List Nat)} : (waysG f l).length ≤ l.length ∧ ∀ g ∈ waysG f l, g.2.length ≤ l.length := by
  have h : ∀ (l : List (List Nat)) (gs : Grp) (m : Nat), gs.length ≤ m → (∀ g ∈ gs, g.2.length ≤ m) → (l.foldl (fun gs t => grp gs (f t) t) gs).length ≤ m + l.length ∧ ∀ g ∈ l.foldl (fun gs t => grp gs (f t) t) gs, g.2.length ≤ m + l.length := fun l => by
    induction l with
    | nil => exact fun gs m h1 h2 => ⟨h1, h2⟩
    | cons t l ih =>
      intro gs m h1 h2
      have := ih (grp gs (f t) t) (m + 1) (Nat.le_trans grp_len (Nat.succ_le_succ h1)) (grp_bound h2)
      rw [List.foldl_cons, List.length_cons, show m + (l.length + 1) = m + 1 + l.length by omega]
      exact this
  have := h l [] 0 (Nat.le_refl _) (fun _ z => nomatch z)
  rw [Nat.zero_add] at this
  exact this
theorem klMk_mem {gs : KL} {k : L2.Key} {q : Addr} {g : L2.Key × Addr × List D} (h : g ∈ klMk gs k q) : g ∈ gs ∨ g = (k, q, []) := by
  induction gs with
  | nil => exact .inr (List.mem_singleton.mp h)
  | cons g0 r ih =>
    unfold klMk at h
    split at h
    · exact .inl h
    · rcases List.mem_cons.mp h with rfl | h
      · exact .inl List.mem_cons_self
      · exact (ih h).imp (List.mem_cons_of_mem _) id
theorem kl_step {k t : List Nat} {q : Addr} : ∀ {gs : KL} {G : Grp}, klD gs = grpD G → klD (klPut (klMk gs (.inr (mk k)) q) (.inr (mk k)) (sD t)) = grpD (grp G k t)
  | [], [], _ => by
    unfold klMk klPut
    rw [if_pos rfl]
    rfl
  | [], _ :: _, h => nomatch h
  | _ :: _, [], h => nomatch h
  | g :: r, G0 :: R, h => by
    have h : (g.1, D.lst g.2.2) :: klD r = (Sum.inr (mk G0.1), D.lst (G0.2.map sD)) :: grpD R := h
    injection h with h1 h2
    injection h1 with h3 h4
    injection h4 with h4
    by_cases e : G0.1 = k
    · have e1 : g.1 = .inr (mk k) := by rw [h3, e]
      unfold klMk grp
      rw [if_pos e1, if_pos e]
      unfold klPut
      rw [if_pos e1]
      show (g.1, D.lst (g.2.2 ++ [sD t])) :: klD r = (Sum.inr (mk G0.1), D.lst ((G0.2 ++ [t]).map sD)) :: grpD R
      rw [h3, h4, h2, List.map_append]
      rfl
    · have e1 : ¬ g.1 = .inr (mk k) := fun z => e (mk_inj (by rw [h3] at z; injection z))
      unfold klMk grp
      rw [if_neg e1, if_neg e]
      unfold klPut
      rw [if_neg e1]
      show (g.1, D.lst g.2.2) :: klD _ = (Sum.inr (mk G0.1), D.lst (G0.2.map sD)) :: grpD _
      rw [h3, h4, kl_step h2]
theorem kl_bound : ∀ {gs : KL} {G : Grp} {m : Nat}, klD gs = grpD G → (∀ g ∈ G, g.2.length ≤ m) → ∀ g ∈ gs, g.2.2.length ≤ m
  | [], _, _, _, _, _, h => nomatch h
  | g :: r, [], _, h, _, _, _ => nomatch h
  | g :: r, G0 :: R, m, h, b, x, hx => by
    have h : (g.1, D.lst g.2.2) :: klD r = (Sum.inr (mk G0.1), D.lst (G0.2.map sD)) :: grpD R := h
    injection h with h1 h2
    injection h1 with h3 h4
    injection h4 with h4
    rcases List.mem_cons.mp hx with rfl | hx
    · rw [h4, List.length_map]
      exact b G0 List.mem_cons_self
    · exact kl_bound h2 (fun g hg => b g (List.mem_cons_of_mem _ hg)) x hx
abbrev Tbl := List (SState × Nat)
def lookN (T : Tbl) (s : SState) : Nat := match T with
  | [] => 0
  | p :: r => if p.1 = s then p.2 else lookN r s
def countS (r : RU) (e : List Nat) (ls : List (List Nat)) (T : Tbl) (c : List Nat) (s : SState) : Nat := ((behindL r e ls s c).map (lookN T)).sum
def stepT (r : RU) (e : List Nat) (ls : List (List Nat)) (ss : List SState) (T : Tbl) (c : List Nat) : Tbl := ss.filterMap fun s => if 0 < countS r e ls T c s then some (s, countS r e ls T c s) else none
def tabsL (r : RU) (e : List Nat) (ls : List (List Nat)) (last : Tbl) : List (List Nat) → List Tbl
  | [] => [last]
  | c :: cs => stepT r e ls (statesL ls) ((tabsL r e ls last cs).headD []) c :: tabsL r e ls last cs
theorem tabsL_ne {r : RU} {e : List Nat} {ls : List (List Nat)} {last : Tbl} {cs : List (List Nat)} : tabsL r e ls last cs ≠ [] := by cases cs <;> intro h <;> cases h
theorem tabsL_len {r : RU} {e : List Nat} {ls : List (List Nat)} {last : Tbl} : ∀ {cs : List (List Nat)}, (tabsL r e ls last cs).length = cs.length + 1
  | [] => rfl
  | c :: cs => by
    show (tabsL r e ls last cs).length + 1 = _
    rw [tabsL_len]
    rfl
/-- what may stand behind a state -/
def extsL (r : RU) (e : List Nat) (ls : List (List Nat)) : SState → List (List Nat) → List (List (List Nat))
  | _, [] => [[]]
  | s, c :: cs => (behindL r e ls s c).flatMap fun o => (extsL r e ls o cs).map fun x => o.2 :: x
/-- all forebears, in order: columns -/
def foresL (r : RU) (e : List Nat) (ls : List (List Nat)) (cs : List (List Nat)) : List (List (List Nat)) := (statesL ls).flatMap fun s => (extsL r e ls s cs).map fun x => s.1 :: s.2 :: x
theorem statesL_mem {ls : List (List Nat)} {s : SState} : s ∈ statesL ls ↔ s.1 ∈ ls ∧ s.2 ∈ ls := by
  unfold statesL
  rw [List.mem_flatMap]
  constructor
  · rintro ⟨a, ha, h⟩
    obtain ⟨b, hb, rfl⟩ := List.mem_map.mp h
    exact ⟨ha, hb⟩
  · rintro ⟨h1, h2⟩
    exact ⟨s.1, h1, List.mem_map.mpr ⟨s.2, h2, rfl⟩⟩
theorem statesL_nodup {ls : List (List Nat)} (nd : ls.Nodup) : (statesL ls).Nodup := by
  unfold statesL List.Nodup
  rw [List.pairwise_flatMap]
  refine ⟨fun a _ => ?_, nd.imp fun {a b} h x hx y hy e => ?_⟩
  · rw [List.pairwise_map]
    exact nd.imp fun {b c} h e => h (by cases e; rfl)
  · obtain ⟨c, _, rfl⟩ := List.mem_map.mp hx
    obtain ⟨d, _, rfl⟩ := List.mem_map.mp hy
    exact h (by cases e; rfl)
theorem statesL_count {ls : List (List Nat)} : (statesL ls).length = ls.length * ls.length := by
  unfold statesL
  rw [List.length_flatMap]
  have : (ls.map fun a => (ls.map fun b => (a, b)).length) = ls.map fun _ => ls.length := List.map_congr_left fun w _ => List.length_map _
  rw [this, List.map_const', List.sum_replicate_nat]
theorem stepT_look {r : RU} {e : List Nat} {ls : List (List Nat)} {T : Tbl} {c : List Nat} {s : SState} : ∀ {ss : List SState}, ss.Nodup → lookN (stepT r e ls ss T c) s = if s ∈ ss then countS r e ls T c s else 0
  | [], _ => by rw [if_neg (fun z => nomatch z)]; rfl
  | a :: ss, nd => by
    obtain ⟨na, nd⟩ := List.nodup_cons.mp nd
    have ih := stepT_look (r := r) (e := e) (ls := ls) (T := T) (c := c) (s := s) nd
    unfold stepT at ih ⊢
    rw [List.filterMap_cons]
    by_cases hs : s = a
    · subst hs
      rw [if_neg na] at ih
      rw [if_pos List.mem_cons_self]
      by_cases h0 : 0 < countS r e ls T c s
      · rw [if_pos h0]
        show (if s = s then _ else _) = _
        rw [if_pos rfl]
      · rw [if_neg h0]
        dsimp only
        rw [ih]
        omega
    · have hm : ∀ X : Nat, (if s ∈ a :: ss then X else 0) = if s ∈ ss then X else 0 := fun X => by
        by_cases h : s ∈ ss
        · rw [if_pos h, if_pos (List.mem_cons_of_mem _ h)]
        · rw [if_neg h, if_neg (by rw [List.mem_cons]; exact fun z => z.elim hs h)]
      rw [hm, ← ih]
      by_cases h0 : 0 < countS r e ls T c a
      · rw [if_pos h0]
        show (if a = s then _ else _) = _
        rw [if_neg (fun z => hs z.symm)]
      · rw [if_neg h0]
theorem sum_flat {α β : Type} {l : List α} {f : α → List β} : (l.flatMap f).length = (l.map fun a => (f a).length).sum := List.length_flatMap
/-- a table of a place tells how many ways lead on -/
theorem tabs_look {r : RU} {e : List Nat} {ls : List (List Nat)} (nd : ls.Nodup) {last : Tbl} (hl : ∀ s ∈ statesL ls, lookN last s = 1) : ∀ {cs : List (List Nat)} {s : SState}, s ∈ statesL ls → lookN ((tabsL r e ls last cs).headD []) s = (extsL r e ls s cs).length
  | [], s, hs => hl s hs
  | c :: cs, s, hs => by
    show lookN (stepT r e ls (statesL ls) _ c) s = ((behindL r e ls s c).flatMap _).length
    rw [stepT_look (statesL_nodup nd), if_pos hs, sum_flat]
    unfold countS
    refine congrArg List.sum (List.map_congr_left fun o ho => ?_)
    rw [List.length_map]
    refine tabs_look nd hl ?_
    unfold behindL at ho
    obtain ⟨t, ht, rfl⟩ := List.mem_map.mp ho
    exact statesL_mem.mpr ⟨(statesL_mem.mp hs).2, (List.mem_filter.mp ht).1⟩
def onesT (ls : List (List Nat)) : Tbl := (statesL ls).map fun s => (s, 1)
theorem onesT_look {s : SState} : ∀ {l : List SState}, s ∈ l → lookN (l.map fun s => (s, 1)) s = 1
  | [], h => nomatch h
  | a :: l, h => by
    show (if a = s then 1 else lookN (l.map fun s => (s, 1)) s) = 1
    by_cases e : a = s
    · rw [if_pos e]
    · rw [if_neg e]
      exact onesT_look ((List.mem_cons.mp h).resolve_left fun z => e z.symm)
theorem stepT_sum {r : RU} {e : List Nat} {ls : List (List Nat)} {T : Tbl} {c : List Nat} : ∀ {ss : List SState}, ((stepT r e ls ss T c).map (·.2)).sum = (ss.map (countS r e ls T c)).sum
  | [] => rfl
  | s :: ss => by
    have ih := stepT_sum (r := r) (e := e) (ls := ls) (T := T) (c := c) (ss := ss)
    unfold stepT at ih ⊢
    rw [List.filterMap_cons, List.map_cons, List.sum_cons, ← ih]
    by_cases h : 0 < countS r e ls T c s
    · rw [if_pos h]
      rfl
    · rw [if_neg h]
      dsimp only
      omega
/-- the first table's sum is how many forebears there are -/
theorem tabs_sum {r : RU} {e : List Nat} {ls : List (List Nat)} (nd : ls.Nodup) {cs : List (List Nat)} : ((((tabsL r e ls (onesT ls) cs).headD []).map (·.2)).sum) = (foresL r e ls cs).length := by
  unfold foresL
  rw [sum_flat]
  have e1 : ((statesL ls).map fun s => ((extsL r e ls s cs).map fun x => s.1 :: s.2 :: x).length) = (statesL ls).map fun s => lookN ((tabsL r e ls (onesT ls) cs).headD []) s := List.map_congr_left fun s hs => by
    rw [List.length_map]
    exact (tabs_look (last := onesT ls) nd (fun s hs => onesT_look hs) hs).symm
  rw [e1]
  cases cs with
  | nil =>
    show ((onesT ls).map (·.2)).sum = ((statesL ls).map fun s => lookN (onesT ls) s).sum
    unfold onesT
    rw [List.map_map]
    refine congrArg List.sum (List.map_congr_left fun s hs => ?_)
    exact (onesT_look hs).symm
  | cons c cs =>
    show ((stepT r e ls (statesL ls) _ c).map (·.2)).sum = ((statesL ls).map fun s => lookN (stepT r e ls (statesL ls) _ c) s).sum
    rw [stepT_sum]
    refine congrArg List.sum (List.map_congr_left fun s hs => ?_)
    rw [stepT_look (statesL_nodup nd), if_pos hs]
/-- the place of a number among several rows of things -/
def pickL (T : Tbl) (d : SState) : List SState → Nat → SState × Nat
  | [], n => (d, n)
  | s :: ss, n => if n < lookN T s then (s, n) else pickL T d ss (n - lookN T s)
theorem pick_get {β : Type} {T : Tbl} {d : SState} {F : SState → List β} : ∀ {ss : List SState} {n : Nat}, (∀ s ∈ ss, (F s).length = lookN T s) → n < (ss.map (lookN T)).sum →
    (ss.flatMap F)[n]? = (F (pickL T d ss n).1)[(pickL T d ss n).2]? ∧ (pickL T d ss n).1 ∈ ss ∧ (pickL T d ss n).2 < lookN T (pickL T d ss n).1
  | [], n, _, hn => by exact absurd hn (by show ¬ n < 0; omega)
  | s :: ss, n, hF, hn => by
    have hn : n < lookN T s + (ss.map (lookN T)).sum := hn
    have hs := hF s List.mem_cons_self
    unfold pickL
    rw [List.flatMap_cons]
    by_cases h : n < lookN T s
    · rw [if_pos h]
      exact ⟨List.getElem?_append_left (by omega), List.mem_cons_self, h⟩
    · rw [if_neg h]
      obtain ⟨h1, h2, h3⟩ := pick_get (d := d) (ss := ss) (n := n - lookN T s) (fun a ha => hF a (List.mem_cons_of_mem _ ha)) (by omega)
      refine ⟨?_, List.mem_cons_of_mem _ h2, h3⟩
      rw [List.getElem?_append_right (by omega), hs]
      exact h1
def zipT (r : RU) (e : List Nat) (ls : List (List Nat)) (last : Tbl) : List (List Nat) → List (List Nat × Tbl)
  | [] => []
  | c :: cs => (c, (tabsL r e ls last cs).headD []) :: zipT r e ls last cs
theorem zipT_eq {r : RU} {e : List Nat} {ls : List (List Nat)} {last : Tbl} : ∀ {cs : List (List Nat)}, cs.zip (tabsL r e ls last cs).tail = zipT r e ls last cs
  | [] => rfl
  | c :: cs => by
    show (c :: cs).zip (tabsL r e ls last cs) = _
    unfold zipT
    rw [← zipT_eq]
    cases h : tabsL r e ls last cs with
    | nil => exact absurd h tabsL_ne
    | cons a tl => rfl
def offD (p : List Nat) : D := .tup [.int (offZ p).1, .int (offZ p).2]
def stD (s : SState) : D := .tup [sD s.1, sD s.2]
def stK (s : SState) : TK := [.inr (mk s.1), .inr (mk s.2)]
def waysD (r : RU) (e : List Nat) (ls : List (List Nat)) (s : SState) : D := .dic (grpD (waysG (madeL r e s.1 s.2) ls))
def stripFs (P : Program) (w : World) (ad : Nat → Addr) (r : RU) (e : List Nat) (h : Nat) : List (Str × D) :=
  [(Str.ofString "ruled", r.d ad), (Str.ofString "brim", sD e), (Str.ofString "offs", .lst (r.near.map offD)), (Str.ofString "letters", .lst ((wordsL (signsN r.n) h).map sD)), (Str.ofString "states", .lst ((statesL (wordsL (signsN r.n) h)).map stD)),
   (Str.ofString "ways_on", .dt ⟨P, w⟩ ((statesL (wordsL (signsN r.n) h)).map fun s => (stK s, waysD r e (wordsL (signsN r.n) h) s)))]
def stripD (P : Program) (w : World) (ad : Nat → Addr) (r : RU) (e : List Nat) (h : Nat) : D := .ins (ad 24) (stripFs P w ad r e h)
/-- what a strip is made of -/
structure StripOk (r : RU) (e : List Nat) (h : Nat) : Prop where
  ru : RUOk r
  so : r.s = Str.ofString "around"
  e1 : e.length ≤ 1
  es : ∀ c ∈ e, c ∈ signsN r.n
  h1 : 1 ≤ h
  few : r.n ^ h * r.n ^ h ≤ 64
theorem StripOk.h3 {r : RU} {e : List Nat} {h : Nat} (ok : StripOk r e h) : h ≤ 3 := by
  have n1 := ok.ru.n1
  by_cases h4 : 4 ≤ h
  · have a1 : 2 ^ 4 ≤ r.n ^ h := Nat.le_trans (Nat.pow_le_pow_right (by decide) h4) (Nat.pow_le_pow_left n1 h)
    have a2 : 2 ^ 4 * 2 ^ 4 ≤ r.n ^ h * r.n ^ h := Nat.mul_le_mul a1 a1
    have := ok.few
    omega
  · omega
theorem StripOk.l8 {r : RU} {e : List Nat} {h : Nat} (ok : StripOk r e h) : r.n ^ h ≤ 8 := by
  have := ok.few
  by_cases h9 : 9 ≤ r.n ^ h
  · have a2 : 9 * 9 ≤ r.n ^ h * r.n ^ h := Nat.mul_le_mul h9 h9
    omega
  · omega
theorem signsN_len {n : Nat} (h : n ≤ 27) : (signsN n).length = n := by unfold signsN; rw [List.length_take]; exact Nat.min_eq_left h
theorem StripOk.ll {r : RU} {e : List Nat} {h : Nat} (ok : StripOk r e h) : (wordsL (signsN r.n) h).length ≤ 8 := by
  rw [wordsL_count, signsN_len ok.ru.n2]
  exact ok.l8
theorem StripOk.sl {r : RU} {e : List Nat} {h : Nat} (ok : StripOk r e h) : (statesL (wordsL (signsN r.n) h)).length ≤ 64 := by
  rw [statesL_count, wordsL_count, signsN_len ok.ru.n2]
  exact ok.few
def t_need_strip (ad : Nat → Addr) : TF := fun W ds Q _ => ∃ (r : RU) (sg : List Nat) (h : Nat), ds = [r.d ad, sD sg, .int h] ∧ RUOk r ∧ r.s = Str.ofString "around" ∧ (∀ c ∈ sg, c ∈ signsN r.n) ∧ sg.length ≤ 16777216 ∧ h ≤ 64 ∧ r.n ^ h * r.n ^ h ≤ 64 ∧ Q .non
theorem ok_need_strip (T : Txt w K mg ad fd) : FnG P w K mg base CX0 3 (ad 22) (fd 22) p_need_strip (spD K 3 (t_need_strip ad)) := by
  have G_Rule_kind := ok_Rule_kind (P := P) (w := w) (base := base) T
  have G_Rule_many := ok_Rule_many (P := P) (w := w) (base := base) T
  have G_Rule_signs := ok_Rule_signs (P := P) (w := w) (base := base) T
  obtain ⟨u_MOST_STATES, g_MOST_STATES, r_MOST_STATES⟩ := T.c_MOST_STATES
  refine okD T.h_need_strip.F sc_need_strip (fun cdv A outer s H E hr => ⟨_, _, fun W => (dss_cons (ds_if (dt_ne hr.units (de_meth0 T.cl_Rule T.h_Rule_kind G_Rule_kind (hr.mono (by decide)) pass0 (dv 0)) de_str) (dss_one ds_never) dss_nil)
      (dss_cons (ds_set (i := 3) sc_need_strip.nd (DO.e (do_sortS T.m_sorted (da_cons (DO.e (do_lc rfl sc_need_strip.nd (di_any (dv 1)) (blkOk_by (own := [("sign", 6)]) (N := n_need_strip) (by kernel_rfl)) (fun _ _ _ _ _ => (dg_name (i := 6) sc_need_strip.nd)) (fun _ _ _ _ _ => (dts_one (dt_nin (dv 6) (de_meth0 T.cl_Rule T.h_Rule_signs G_Rule_signs (hr.mono (by decide)) pass0 (dv 0))))) (fun _ _ _ _ _ => (dv 6)))) da_nil))))
      (dss_cons (ds_if (dt_ne hr.units (dv 3) (DO.e (do_lst da_nil))) (dss_one ds_never) dss_nil)
      (dss_cons (ds_set (i := 4) sc_need_strip.nd de_int)
      (dss_cons (ds_for PassesOwn.never rfl (di_range1 rfl T.m_range (da_cons (dv 2) da_nil)) (dg_name (i := 5) sc_need_strip.nd) (dss_one (ds_augMul (i := 4) sc_need_strip.nd (de_meth0 T.cl_Rule T.h_Rule_many G_Rule_many (hr.mono (by decide)) pass0 (dv 0)))))
      (dss_one (ds_if (dt_gt (de_mul (dv 4) (dv 4)) (de_glob g_MOST_STATES r_MOST_STATES)) (dss_one ds_never) dss_nil))))))), fun W ds Q hl ht => ?_⟩) (fun _ _ _ _ h => h)
  obtain ⟨r, sg, h, rfl, hr, hs, hsg, hl, h64, hf, hq⟩ := ht
  have n1 := hr.n1
  have n2 := hr.n2
  refine tdSeq_if1 false (fun Q R q => tdTest_by false (fun Q R q => ⟨_, rfl, rfl, rfl, rfl, r, rfl, fNe_s (by rw [decide_eq_true hs]; exact q)⟩) q) (fun z => nomatch z) (fun _ => ?_)
  refine tdSeq_asg (.lst []) (fun Q R q => ?_) ?_
  · refine ⟨_, rfl, ?_⟩
    show items (sD sg) _
    rw [items_str, signs_mk]
    refine ⟨by rw [List.length_map]; exact hl, ?_⟩
    refine compD_filterL (fun c => sD [c]) (fun c => sD [c]) (fun _ => false) (fun c hc Kt Kk h1 h2 => ?_) ?_
    · refine ⟨_, rfl, _, rfl, rfl, rfl, rfl, r.s, r.n, r.near, r.rows, rfl, n2, ?_⟩
      have e : (true ^^ inS (mk [c]) (mk (signsN r.n))) = false := by simp [hsg c hc]
      show fIn true (.str (mk [c])) (.str (mk (signsN r.n))) _
      rw [fIn_str, e]
      exact h2 rfl
    · rw [List.filter_eq_nil_iff.mpr (by simp)]
      refine ⟨[], rfl, by decide, fun ls hp _ => ?_⟩
      cases List.perm_nil.mp hp
      exact q
  refine tdSeq_if1 false (fun Q R q => tdTest_by false (fun Q R q => ⟨_, rfl, by show 0 ≤ sizeLine; decide, fNe_self dok_nil.cmp dok_nil.1 q⟩) q) (fun z => nomatch z) (fun _ => ?_)
  refine tdSeq_asg (.int 1) (fun Q R q => q) ?_
  have pw : ∀ {k : Nat}, k ≤ h → r.n ^ k ≤ 64 := fun {k} hk => by
    have h1 : r.n ^ k ≤ r.n ^ h := Nat.pow_le_pow_right (by omega) hk
    have h2 : 1 ≤ r.n ^ h := Nat.one_le_pow _ _ (by omega)
    have h3 : r.n ^ h * 1 ≤ r.n ^ h * r.n ^ h := Nat.mul_le_mul_left _ h2
    omega
  refine tdSeq_cut (fun τ => ∃ z5 : Option SD, τ = [some (.dat (r.d ad)), some (.dat (sD sg)), some (.dat (.int h)), some (.dat (.lst [])), some (.dat (.int (r.n ^ h : Nat))), z5, none]) (fun nx hnx => ?_) ?_
  · refine ⟨_, rfl, ?_⟩
    simp only [tdNil, rng1_int]
    refine ⟨by omega, by omega, ?_⟩
    rw [Int.toNat_natCast]
    refine forD_count (fun k τ => ∃ z5 : Option SD, τ = [some (.dat (r.d ad)), some (.dat (sD sg)), some (.dat (.int h)), some (.dat (.lst [])), some (.dat (.int (r.n ^ k : Nat))), z5, none]) h ⟨_, rfl⟩ ?_ (fun τ h => hnx τ h)
    rintro k hk τ ⟨z5, rfl⟩ nx2 hnx2
    have b1 := pw (k := k) (by omega)
    refine ⟨_, rfl, _, rfl, rfl, rfl, rfl, r, rfl, ?_, hnx2 _ ⟨some (.dat (.int (k : Nat))), ?_⟩⟩
    · unfold CMul
      omega
    · rw [Nat.pow_succ]
      push_cast
      rfl
  rintro _ ⟨z5, rfl⟩
  have b1 := pw (k := h) (Nat.le_refl _)
  refine tdIf_by false (fun Q R q => tdTest_by false (fun Q R q => ⟨_, rfl, _, rfl, by unfold CMul; omega, ?_⟩) q) (fun z => nomatch z) (fun _ => hq)
  show Q (.bl (decide ((64 : Int) < ((r.n ^ h : Nat) : Int) * ((r.n ^ h : Nat) : Int))))
  rw [decide_eq_false (by
    have : ((r.n ^ h : Nat) : Int) * ((r.n ^ h : Nat) : Int) = ((r.n ^ h * r.n ^ h : Nat) : Int) := by push_cast; rfl
    omega)]
  exact q
def t_words_of : TF := fun W ds Q _ => ∃ (S : List Nat) (h : Nat), ds = [sD S, .int h] ∧ 2 ≤ S.length ∧ S.length ≤ 27 ∧ h ≤ 64 ∧ S.length ^ h ≤ 64 ∧ Q (.lst ((wordsL S h).map sD))
theorem ok_words_of (T : Txt w K mg ad fd) : FnG P w K mg base CX0 1 (ad 23) (fd 23) p_words_of (spD K 2 t_words_of) := by
  refine okD T.h_words_of.F sc_words_of (fun cdv A outer s H E hr => ⟨_, _, fun W => (dss_cons (ds_set (i := 2) sc_words_of.nd (DO.e (do_lst (da_cons de_str da_nil))))
      (dss_cons (ds_for PassesOwn.never rfl (di_range1 rfl T.m_range (da_cons (dv 1) da_nil)) (dg_name (i := 3) sc_words_of.nd) (dss_one (ds_setLc2D (i := 2) (vs1 := [5]) rfl sc_words_of.nd (di_any (dv 2)) (blkOk_by (own := [("word", 4), ("letter", 5)]) (N := n_words_of) (by kernel_rfl)) (fun _ _ _ _ _ => (dg_name (i := 4) sc_words_of.nd)) (fun _ _ _ _ _ => dts_nil) (fun _ _ _ _ _ => (di_any (dv 0))) (fun _ _ _ _ _ => (dg_name (i := 5) sc_words_of.nd)) (fun _ _ _ _ _ => dts_nil) (fun _ _ _ _ _ => (de_add (dv 4) (dv 5))))))
      (dss_one (ds_ret (dv 2))))), fun W ds Q hl ht => ?_⟩) (fun _ _ _ _ h => h)
  obtain ⟨S, h, rfl, hS2, hS, h64, hf, hq⟩ := ht
  have pw : ∀ {k : Nat}, k ≤ h → S.length ^ k ≤ 64 := fun {k} hk => Nat.le_trans (Nat.pow_le_pow_right (by omega) hk) hf
  rw [empty_eq2]
  refine tdSeq_asg (.lst [sD []]) (fun Q R q => ⟨by show 1 ≤ sizeLine; decide, q⟩) ?_
  refine tdSeq_cut (fun τ => ∃ z3 : Option SD, τ = [some (.dat (sD S)), some (.dat (.int h)), some (.dat (.lst ((wordsL S h).map sD))), z3, none, none]) (fun nx hnx => ?_) ?_
  · refine ⟨_, rfl, ?_⟩
    simp only [tdNil, rng1_int]
    refine ⟨by omega, by omega, ?_⟩
    rw [Int.toNat_natCast]
    refine forD_count (fun k τ => ∃ z3 : Option SD, τ = [some (.dat (sD S)), some (.dat (.int h)), some (.dat (.lst ((wordsL S k).map sD))), z3, none, none]) h ⟨_, rfl⟩ ?_ (fun τ h => hnx τ h)
    rintro k hk τ ⟨z5, rfl⟩ nx2 hnx2
    have b1 := pw (k := k) (by omega)
    have b2 := pw (k := k + 1) (by omega)
    have eS : S.length ^ (k + 1) = S.length ^ k * S.length := Nat.pow_succ ..
    refine ⟨_, rfl, ?_⟩
    show compD2 _ _ _ _ _ _ _ _ _ ((wordsL S k).map sD) 0 _
    refine compD2_mapL sD (fun t => S.map fun c => sD (t ++ [c])) S.length (fun t _ => List.length_map _) (fun t ht m Kk hm hk => ?_) ?_ ?_
    · refine ⟨_, rfl, ?_⟩
      show items (sD S) _
      rw [items_str, signs_mk]
      refine ⟨by rw [List.length_map]; exact hm, ?_⟩
      refine compD_mapL (fun c => sD [c]) (fun c => sD (t ++ [c])) (fun c hc Kk hk => ⟨_, rfl, _, rfl, ?_⟩) hk
      show (mk t).length + (mk [c]).length ≤ sizeLine ∧ Kk (.str (mk t ++ mk [c]))
      have := (wordsL_mem.mp ht).1
      rw [mk_length, mk_length, app_mk]
      exact ⟨Nat.le_trans (show t.length + 1 ≤ 65 by omega) (by decide), hk⟩
    · rw [wordsL_count, Nat.zero_add, ← eS]
      exact Nat.le_trans b2 (by decide)
    · refine hnx2 _ ⟨some (.dat (.int (k : Nat))), ?_⟩
      rw [wordsL, List.map_flatMap]
      simp only [List.map_map]
      rfl
  rintro _ ⟨z3, rfl⟩
  exact ⟨_, rfl, hq⟩
/-- the world in which a strip is made -/
def stripW (ad : Nat → Addr) (W : Wd) (d : D) (r : RU) (e : List Nat) (h : Nat) : Prop := ∃ W0 p dx ws, W = objW W0 p (ad 24) dx [Str.ofString "ruled", Str.ofString "brim", Str.ofString "offs", Str.ofString "letters", Str.ofString "states"] ws ∧
  d = .lent p ws [r.d ad, sD e, .lst (r.near.map offD), .lst ((wordsL (signsN r.n) h).map sD), .lst ((statesL (wordsL (signsN r.n) h)).map stD)] ∧ StripOk r e h
def t_Strip_sign_in (ad : Nat → Addr) : TF := fun W ds Q _ => ∃ (r : RU) (e col : List Nat) (h : Nat) (y : Int) (d : D), ds = [d, sD col, .int y] ∧ stripW ad W d r e h ∧ col.length = h ∧ (∀ c ∈ col, c ∈ signsN r.n) ∧ Q (sD (signIn e col y))
theorem ok_Strip_sign_in (T : Txt w K mg ad fd) : FnG P w K mg base CX0 1 (ad 3101) (fd 3101) p_Strip_sign_in (spD K 3 (t_Strip_sign_in ad)) := by
  obtain ⟨u_FOLDED, g_FOLDED, r_FOLDED⟩ := T.c_FOLDED
  refine okD T.h_Strip_sign_in.F sc_Strip_sign_in (fun cdv A outer s H E hr => ⟨_, _, fun W => (dss_cons (ds_if (dt_chain op_le op_lt .i0 .i0 de_int (dv 2) (de_len T.m_len (da_cons (dv 1) da_nil))) (dss_one (ds_ret (de_ix (dv 1) (dv 2)))) dss_nil)
      (dss_one (ds_ret (de_if (dt_eq hr.units (de_fldW 0 T.cl_Strip T.na_Strip_brim) (de_glob g_FOLDED r_FOLDED)) (de_ix (dv 1) de_int) (de_fldW 0 T.cl_Strip T.na_Strip_brim))))), fun W ds Q hl ht => ?_⟩) (fun _ _ _ _ h => h)
  obtain ⟨r, e, col, h, y, d, rfl, hw, hc, hs, hq⟩ := ht
  obtain ⟨W0, p, dx, ws, rfl, rfl, ok⟩ := hw
  have h1 := ok.h1
  have h3 := ok.h3
  have hl64 : col.length ≤ 16777216 := by omega
  have lc : ∀ k : Nat, k < col.length → col[k]? = some (col.getD k 0) := fun k hk => by
    rw [List.getD_eq_getElem?_getD, List.getElem?_eq_getElem hk]
    rfl
  refine tdSeq_if1 (decide (0 ≤ y ∧ y < col.length)) (fun Q R q => tdTest_by _ (fun Q R q => ⟨_, rfl, ?_⟩) q) (fun z => ?_) (fun z => ?_)
  · simp only [tdC, fI, onII_int, onBl]
    by_cases h0 : (0 : Int) ≤ y
    · rw [decide_eq_true h0]
      refine ⟨_, rfl, ?_⟩
      simp only [tdNil, fLen_str, mk_length]
      refine ⟨hl64, ?_⟩
      rw [show decide (0 ≤ y ∧ y < (col.length : Int)) = decide (y < (col.length : Int)) by by_cases h1 : y < (col.length : Int); rw [decide_eq_true h1, decide_eq_true ⟨h0, h1⟩]; rw [decide_eq_false h1, decide_eq_false (fun z => h1 z.2)]] at q
      exact q
    · rw [decide_eq_false h0]
      rw [decide_eq_false (fun z => h0 z.1)] at q
      exact q
  · have z := of_decide_eq_true z
    obtain ⟨k, rfl⟩ : ∃ k : Nat, y = k := ⟨y.toNat, by omega⟩
    refine ⟨_, rfl, _, rfl, fIx_sign (by omega) (lc k (by omega)) ?_⟩
    unfold signIn at hq
    rw [if_pos z, Int.toNat_natCast] at hq
    exact hq
  · have z := of_decide_eq_false z
    unfold signIn at hq
    rw [if_neg z] at hq
    refine tdRet_by _ (fun Q R q => tdIfE_by (decide (e = [])) (fun Q R q => tdTest_by _ (fun Q R q => ?_) q) (fun h => ?_) (fun h => ?_)) hq
    · refine ⟨_, _, _, _, _, _, _, rfl, rfl, rfl, ?_⟩
      rw [empty_eq2]
      exact fEq_txt rfl q
    · have h := of_decide_eq_true h
      rw [if_pos h] at q
      exact ⟨_, rfl, fIx_sign (k := 0) (by omega) (lc 0 (by omega)) q⟩
    · have h := of_decide_eq_false h
      rw [if_neg h] at q
      exact ⟨_, _, _, _, _, _, _, rfl, rfl, rfl, q⟩
def t_Strip_made (ad : Nat → Addr) : TF := fun W ds Q _ => ∃ (r : RU) (e one two three : List Nat) (h : Nat) (d : D), ds = [d, sD one, sD two, sD three] ∧ stripW ad W d r e h ∧ (one.length = h ∧ ∀ c ∈ one, c ∈ signsN r.n) ∧ (two.length = h ∧ ∀ c ∈ two, c ∈ signsN r.n) ∧ (three.length = h ∧ ∀ c ∈ three, c ∈ signsN r.n) ∧ Q (sD (madeL r e one two three))
theorem ok_Strip_made (T : Txt w K mg ad fd) : FnG P w K mg base CX0 3 (ad 3102) (fd 3102) p_Strip_made (spD K 4 (t_Strip_made ad)) := by
  have G_Strip_sign_in := ok_Strip_sign_in (P := P) (w := w) (base := base) T
  have G_Rule_fate := ok_Rule_fate (P := P) (w := w) (base := base) T
  refine okD T.h_Strip_made.F sc_Strip_made (fun cdv A outer s H E hr => ⟨_, _, fun W => (dss_cons (ds_set (i := 4) sc_Strip_made.nd (DX.dat (dx_dispK (dpk_cons (de_neg de_int) (dv 1) (dpk_cons de_int (dv 2) (dpk_cons de_int (dv 3) dpk_nil))))))
      (dss_cons (ds_setO (i := 5) sc_Strip_made.nd (do_lst da_nil))
      (dss_cons (ds_for PassesOwn.never rfl (di_enumG T.m_enumerate (da_cons (dv 2) da_nil)) (dg_tup rfl (dgs_cons (dg_name (i := 6) sc_Strip_made.nd) (dgs_cons (dg_name (i := 7) sc_Strip_made.nd) dgs_nil))) (dss_cons (ds_set (i := 8) sc_Strip_made.nd (de_join de_str (DO.e (do_lc rfl sc_Strip_made.nd (di_any (de_fldW 0 T.cl_Strip T.na_Strip_offs)) (blkOk_by (own := [("dx", 9), ("dy", 10)]) (N := n_Strip_made) (by kernel_rfl)) (fun _ _ _ _ _ => (dg_tup rfl (dgs_cons (dg_name (i := 9) sc_Strip_made.nd) (dgs_cons (dg_name (i := 10) sc_Strip_made.nd) dgs_nil)))) (fun _ _ _ _ _ => dts_nil) (fun _ _ _ _ _ => (de_methW 0 T.cl_Strip T.h_Strip_sign_in G_Strip_sign_in (hr.mono (by decide)) pass0 (da_cons (de_kget hr.units (dv 4) (dv 9)) (da_cons (de_add (dv 6) (dv 10)) da_nil))))))))
      (dss_one (ds_app 5 (de_meth T.cl_Rule T.h_Rule_fate G_Rule_fate (hr.mono (by decide)) pass0 (de_fldW 0 T.cl_Strip T.na_Strip_ruled) (da_cons (dv 7) (da_cons (dv 8) da_nil)))))))
      (dss_one (ds_ret (de_frzE (de_join de_str (dv 5)))))))), fun W ds Q hl ht => ?_⟩) (fun _ _ _ _ h => h)
  obtain ⟨r, e, one, two, three, h, d, rfl, hw, h1, h2, h3, hq⟩ := ht
  have hw0 := hw
  obtain ⟨W0, p, dx, ws, rfl, rfl, ok⟩ := hw
  have g := ok.ru
  have hh := ok.h1
  have hh3 := ok.h3
  have colIn : ∀ dx : Int, (colAt one two three dx).length = h ∧ ∀ c ∈ colAt one two three dx, c ∈ signsN r.n := fun dx => by
    unfold colAt
    split
    · exact h1
    · split
      · exact h2
      · exact h3
  have sgl : ∀ (b : Int) (y : Int), ∃ c, signIn e (colAt one two three b) y = [c] ∧ c ∈ signsN r.n := fun b y => by
    obtain ⟨hl, hc⟩ := colIn b
    have g0 : ∀ k : Nat, k < h → (colAt one two three b).getD k 0 ∈ signsN r.n := fun k hk => by
      rw [List.getD_eq_getElem?_getD, List.getElem?_eq_getElem (by omega)]
      exact hc _ (List.getElem_mem _)
    unfold signIn
    split
    · exact ⟨_, rfl, g0 _ (by omega)⟩
    · split
      · exact ⟨_, rfl, g0 0 (by omega)⟩
      · rename_i ne
        have he := ok.e1
        have hs := ok.es
        match e, ne, he, hs with
        | [c], _, _, hs => exact ⟨c, rfl, hs c List.mem_cons_self⟩
        | [], ne, _, _ => exact absurd rfl ne
        | _ :: _ :: _, _, he, _ => exact absurd he (by simp)
  have nl : ∀ q ∈ r.near, ∃ b d, offZ q = (b, d) ∧ (b = -1 ∨ b = 0 ∨ b = 1) ∧ (-1 ≤ d ∧ d ≤ 1) := fun q hq => by
    have all : ∀ q ∈ placesL, ((offZ q).1 = -1 ∨ (offZ q).1 = 0 ∨ (offZ q).1 = 1) ∧ (-1 ≤ (offZ q).2 ∧ (offZ q).2 ≤ 1) := by decide +kernel
    exact ⟨_, _, rfl, all q (g.nr.of q hq)⟩
  refine tdSeq_asg (.dic [(.inl (-1), sD one), (.inl 0, sD two), (.inl 1, sD three)]) (fun Q R q => ⟨.inl (-1), rfl, _, rfl, .inl 0, rfl, _, rfl, .inl 1, rfl, _, rfl, by show ([.inl (-1), .inl 0, .inl 1] : List L2.Key).Nodup; decide, by show 3 ≤ 15; decide, q⟩) ?_
  refine tdSeq_setO (fun ds => ds = []) (fun Q R q => ⟨by show 0 ≤ sizeLine; decide, q _ rfl⟩) ?_
  rintro _ rfl
  have cell1 : ∀ y, ∃ c, cellL r e one two three y = [c] := fun y => by
    obtain ⟨c, hc, _⟩ := fateC_one (near := r.near) (ar := aroundL r.near e one two three y) (c := two.getD y 0) (rows := r.cr)
    exact ⟨c, hc⟩
  refine tdSeq_cut (fun τ => ∃ z6 z7 z8 : Option SD, τ = [some (.dat (.lent p ws [r.d ad, sD e, .lst (r.near.map offD), .lst ((wordsL (signsN r.n) h).map sD), .lst ((statesL (wordsL (signsN r.n) h)).map stD)])), some (.dat (sD one)), some (.dat (sD two)), some (.dat (sD three)), some (.dat (.dic [(.inl (-1), sD one), (.inl 0, sD two), (.inl 1, sD three)])), some (.own ((List.range two.length).map fun y => sD (cellL r e one two three y))), z6, z7, z8, none, none]) (fun nx hnx => ?_) ?_
  · refine ⟨_, rfl, _, rfl, ?_⟩
    rw [signs_mk]
    refine forD_enum rfl (two.map fun c => sD [c]) (fun k τ => ∃ z6 z7 z8 : Option SD, τ = [some (.dat (.lent p ws [r.d ad, sD e, .lst (r.near.map offD), .lst ((wordsL (signsN r.n) h).map sD), .lst ((statesL (wordsL (signsN r.n) h)).map stD)])), some (.dat (sD one)), some (.dat (sD two)), some (.dat (sD three)), some (.dat (.dic [(.inl (-1), sD one), (.inl 0, sD two), (.inl 1, sD three)])), some (.own ((List.range k).map fun y => sD (cellL r e one two three y))), z6, z7, z8, none, none]) ⟨_, _, _, rfl⟩ ?_ (fun τ h => by rw [List.length_map] at h; exact hnx τ h)
    rintro k d hd τ ⟨z6, z7, z8, rfl⟩ nx2 hnx2
    obtain ⟨c, hc, rfl⟩ : ∃ c, two[k]? = some c ∧ d = sD [c] := by
      rw [List.getElem?_map] at hd
      cases hc : two[k]? with
      | none => rw [hc] at hd; cases hd
      | some c => rw [hc] at hd; cases hd; exact ⟨c, rfl, rfl⟩
    have hk : k < h := by rw [← h2.1]; exact (List.getElem?_eq_some_iff.mp hc).1
    have hgd : two.getD k 0 = c := by rw [List.getD_eq_getElem?_getD, hc]; rfl
    refine tdSeq_asg (sD (aroundL r.near e one two three k)) (fun Q R q => ?_) ?_
    · rw [empty_eq2]
      refine ⟨_, _, _, _, _, _, _, rfl, rfl, rfl, ?_⟩
      show items (.lst (r.near.map offD)) _
      rw [items_lst]
      have nle : r.near.length ≤ 8 := g.nr.le
      refine ⟨by rw [List.length_map]; exact Nat.le_trans nle (by decide), ?_⟩
      refine compD_mapL offD (fun q => sD (signIn e (colAt one two three (offZ q).1) ((k : Int) + (offZ q).2))) (fun q hq Kk hk => ?_) ?_
      · obtain ⟨b, d, eq, hb, hd⟩ := nl q hq
        rw [eq] at hk
        have ev : valD [(.inl (-1), sD one), (.inl 0, sD two), (.inl 1, sD three)] (.inl b) = some (sD (colAt one two three b)) := by
          rcases hb with rfl | rfl | rfl <;> rfl
        unfold offD
        rw [eq]
        refine ⟨rfl, rfl, _, _, _, _, _, _, rfl, rfl, by decide +kernel, _, rfl, _, rfl, .inl b, _, rfl, ev, _, rfl, _, rfl, rfl, r, e, colAt one two three b, h, (k : Int) + d, _, rfl, hw0, (colIn b).1, (colIn b).2, hk⟩
      · have := fJoin_nil (Q := Q) (r.near.map fun q => signIn e (colAt one two three (offZ q).1) ((k : Int) + (offZ q).2)) ?_ ?_
        · rw [List.map_map] at this
          exact this
        · rw [List.map_map]
          have e1 : r.near.map (List.length ∘ fun q => signIn e (colAt one two three (offZ q).1) ((k : Int) + (offZ q).2)) = r.near.map fun _ => 1 := List.map_congr_left fun q _ => by
            obtain ⟨c, hc, _⟩ := sgl (offZ q).1 ((k : Int) + (offZ q).2)
            show (signIn _ _ _).length = 1
            rw [hc]
            rfl
          rw [e1, List.map_const', List.sum_replicate_nat]
          omega
        · rw [← List.flatMap_def]
          exact q
    have la : (aroundL r.near e one two three k).length = r.near.length := flat_one fun q _ => by
      obtain ⟨c, hc, _⟩ := sgl (offZ q).1 ((k : Int) + (offZ q).2)
      rw [hc]
      rfl
    have nb : r.s ≠ Str.ofString "blocks" := by rw [ok.so]; exact sorts_ne.2.1
    have le := g.le
    refine ⟨_, rfl, by rw [List.length_map, List.length_range]; exact Nat.lt_of_lt_of_le (show k < 65 by omega) (by decide), _, _, _, _, _, _, _, rfl, rfl, rfl, rfl, fld_noneC.2.1, _, rfl, _, rfl, rfl, r.s, r.n, r.near, r.cr, [c], aroundL r.near e one two three k, _, by rw [← g.rc nb]; rfl, la, g.nr.le, by omega, g.cok, hnx2 _ ⟨some (.dat (.int (k : Nat))), some (.dat (sD [c])), some (.dat (sD (aroundL r.near e one two three k))), ?_⟩⟩
    rw [List.range_succ, List.map_append]
    show [_, _, _, _, _, some (SD.own (_ ++ [sD (fateC r.near (aroundL r.near e one two three k) [c] r.cr)])), _, _, _, _, _] = [_, _, _, _, _, some (SD.own (_ ++ [sD (cellL r e one two three k)])), _, _, _, _, _]
    unfold cellL
    rw [hgd]
  rintro _ ⟨z6, z7, z8, rfl⟩
  rw [empty_eq2]
  refine tdRet_by _ (fun Q R q => ?_) hq
  have := fJoin_nil (Q := fun d => flatD d ∧ Q d) ((List.range two.length).map (cellL r e one two three)) ?_ ?_
  · rw [List.map_map] at this
    exact ⟨_, rfl, this⟩
  · rw [List.map_map]
    have e1 : (List.range two.length).map (List.length ∘ cellL r e one two three) = (List.range two.length).map fun _ => 1 := List.map_congr_left fun y _ => by
      obtain ⟨c, hc⟩ := cell1 y
      show (cellL _ _ _ _ _ _).length = 1
      rw [hc]
      rfl
    rw [e1, List.map_const', List.sum_replicate_nat, List.length_range]
    omega
  · rw [← List.flatMap_def]
    exact ⟨trivial, q⟩
def t_Strip_ways_of (ad : Nat → Addr) : TF := fun W ds Q _ => ∃ (r : RU) (e : List Nat) (h : Nat) (s : SState) (d : D), ds = [d, stD s] ∧ stripW ad W d r e h ∧ s ∈ statesL (wordsL (signsN r.n) h) ∧ Q (waysD r e (wordsL (signsN r.n) h) s)
theorem ok_Strip_ways_of (T : Txt w K mg ad fd) : FnG P w K mg base CX0 4 (ad 3103) (fd 3103) p_Strip_ways_of (spD K 2 (t_Strip_ways_of ad)) := by
  have G_Strip_made := ok_Strip_made (P := P) (w := w) (base := base) T
  refine okD T.h_Strip_ways_of.F sc_Strip_ways_of (fun cdv A outer s H E hr => ⟨_, _, fun W => (dss_cons (ds_asg (dv 1) (dg_tup rfl (dgs_cons (dg_name (i := 2) sc_Strip_ways_of.nd) (dgs_cons (dg_name (i := 3) sc_Strip_ways_of.nd) dgs_nil))))
      (dss_cons (ds_newKl (i := 4) sc_Strip_ways_of.nd)
      (dss_cons (ds_for PassesOwn.never rfl (di_any (de_fldW 0 T.cl_Strip T.na_Strip_letters)) (dg_name (i := 5) sc_Strip_ways_of.nd) (dss_one (ds_klApp 4 (de_methW 0 T.cl_Strip T.h_Strip_made G_Strip_made (hr.mono (by decide)) pass0 (da_cons (dv 2) (da_cons (dv 3) (da_cons (dv 5) da_nil)))) (dv 5))))
      (dss_one (DS.freeze (ds_ret (dv 4))))))), fun W ds Q hl ht => ?_⟩) (fun _ _ _ _ h => h)
  obtain ⟨r, e, h, s, d, rfl, hw, hs, hq⟩ := ht
  have hw0 := hw
  obtain ⟨W0, p, dx, ws, rfl, rfl, ok⟩ := hw
  have hll := ok.ll
  obtain ⟨m1, m2⟩ := statesL_mem.mp hs
  have wi : ∀ t ∈ wordsL (signsN r.n) h, t.length = h ∧ ∀ c ∈ t, c ∈ signsN r.n := fun t ht => wordsL_mem.mp ht
  refine ⟨_, rfl, rfl, rfl, ?_⟩
  dsimp only
  refine tdSeq_newKl ?_
  refine tdSeq_cut (fun τ => ∃ (gs : KL) (z5 : Option SD), τ = [some (.dat (.lent p ws [r.d ad, sD e, .lst (r.near.map offD), .lst ((wordsL (signsN r.n) h).map sD), .lst ((statesL (wordsL (signsN r.n) h)).map stD)])), some (.dat (stD s)), some (.dat (sD s.1)), some (.dat (sD s.2)), some (.kl gs), z5] ∧ klD gs = grpD (waysG (madeL r e s.1 s.2) (wordsL (signsN r.n) h))) (fun nx hnx => ?_) ?_
  · refine ⟨_, _, _, _, _, _, _, rfl, rfl, rfl, ?_⟩
    show items (.lst _) _
    rw [items_lst]
    refine forD_mapL sD (fun pre τ => ∃ (gs : KL) (z5 : Option SD), τ = [some (.dat (.lent p ws [r.d ad, sD e, .lst (r.near.map offD), .lst ((wordsL (signsN r.n) h).map sD), .lst ((statesL (wordsL (signsN r.n) h)).map stD)])), some (.dat (stD s)), some (.dat (sD s.1)), some (.dat (sD s.2)), some (.kl gs), z5] ∧ klD gs = grpD (waysG (madeL r e s.1 s.2) pre)) (wordsL (signsN r.n) h) gdName_mono ?_ (fun τ h => hnx τ h) [] _ _ rfl ⟨[], _, rfl, rfl⟩
    rintro pre t post τ he ⟨gs, z5, rfl, hgs⟩ nx2 hnx2
    have ht : t ∈ wordsL (signsN r.n) h := he ▸ List.mem_append_right _ List.mem_cons_self
    have pl : pre.length ≤ 8 := by
      have := congrArg List.length he
      rw [List.length_append] at this
      omega
    obtain ⟨b1, b2⟩ := waysG_bound (f := madeL r e s.1 s.2) (l := pre)
    have b0 : gs.length = (waysG (madeL r e s.1 s.2) pre).length := by
      have := congrArg List.length hgs
      unfold klD grpD at this
      rw [List.length_map, List.length_map] at this
      exact this
    refine ⟨gs, rfl, Nat.lt_of_le_of_lt (show gs.length ≤ 8 by omega) (by decide), _, _, _, _, _, _, rfl, rfl, by decide +kernel, _, rfl, _, rfl, _, rfl, rfl, r, e, s.1, s.2, t, h, _, rfl, hw0, wi _ m1, wi _ m2, wi _ ht, .inr (mk (madeL r e s.1 s.2 t)), rfl, fun q => ⟨_, rfl, fun g hg => ?_, hnx2 _ ⟨_, some (.dat (sD t)), rfl, by rw [waysG_snoc]; exact kl_step hgs⟩⟩⟩
    rcases klMk_mem hg with hg | rfl
    · exact Nat.lt_of_le_of_lt (Nat.le_trans (kl_bound hgs b2 g hg) pl) (by decide)
    · show 0 < sizeLine
      decide
  rintro _ ⟨gs, z5, rfl, hgs⟩
  refine ⟨_, rfl, ?_⟩
  show Q (.dic (klD gs))
  rw [hgs]
  exact hq
theorem stK_inj {a b : SState} (h : stK a = stK b) : a = b := by
  unfold stK at h
  injection h with h1 h2
  injection h2 with h2
  injection h1 with h1
  injection h2 with h2
  exact Prod.ext (mk_inj h1) (mk_inj h2)
theorem stK_nodup {l : List SState} (nd : l.Nodup) : (l.map stK).Nodup := by
  unfold List.Nodup
  rw [List.pairwise_map]
  exact nd.imp fun {a b} h e => h (stK_inj e)
theorem sig_nodup (n : Nat) : (signsN n).Nodup := List.Nodup.sublist (List.take_sublist _ _) (by decide : SIG.Nodup)
theorem StripOk.ln {r : RU} {e : List Nat} {h : Nat} (_ : StripOk r e h) : (wordsL (signsN r.n) h).Nodup := wordsL_nodup (sig_nodup r.n)
def t_Strip___init__ (P : Program) (w : World) (ad : Nat → Addr) : TFI := fun W ds Q _ => ∃ (r : RU) (e : List Nat) (h : Nat), ds = [r.d ad, sD e, .int h] ∧ StripOk r e h ∧ Q (stripFs P w ad r e h)
theorem ok_Strip___init__ (T : Txt w K mg ad fd) : FnG P w K mg base CX0 5 (ad 3100) (fd 3100) p_Strip___init__ (spI K (ad 24) 4 (t_Strip___init__ P w ad)) := by
  have G_words_of := ok_words_of (P := P) (w := w) (base := base) T
  have G_Strip_ways_of := ok_Strip_ways_of (P := P) (w := w) (base := base) T
  have G_Rule_near := ok_Rule_near (P := P) (w := w) (base := base) T
  have G_Rule_signs := ok_Rule_signs (P := P) (w := w) (base := base) T
  obtain ⟨u_OFFS, g_OFFS, r_OFFS⟩ := T.c_OFFS
  refine okI T.h_Strip___init__.F sc_Strip___init__ (by decide) (fun cdv A outer s H E hr => ⟨_, _, fun W => (dss_cons (ds_setFld 0 T.cl_Strip T.na_Strip_ruled (dv 1))
      (dss_cons (ds_setFld 0 T.cl_Strip T.na_Strip_brim (dv 2))
      (dss_cons (ds_setFld 0 T.cl_Strip T.na_Strip_offs (DO.e (do_lc rfl sc_Strip___init__.nd (di_any (de_meth0 T.cl_Rule T.h_Rule_near G_Rule_near (hr.mono (by decide)) pass0 (dv 1))) (blkOk_by (own := [("place", 4)]) (N := n_Strip___init__) (by kernel_rfl)) (fun _ _ _ _ _ => (dg_name (i := 4) sc_Strip___init__.nd)) (fun _ _ _ _ _ => dts_nil) (fun _ _ _ _ _ => (de_ixDic g_OFFS r_OFFS (dv 4))))))
      (dss_cons (ds_setFld 0 T.cl_Strip T.na_Strip_letters (de_call G_words_of (hr.mono (by decide)) T.h_words_of.g T.h_words_of.k T.h_words_of.b pass0 (da_cons (de_meth0 T.cl_Rule T.h_Rule_signs G_Rule_signs (hr.mono (by decide)) pass0 (dv 1)) (da_cons (dv 3) da_nil))))
      (dss_cons (ds_setFld 0 T.cl_Strip T.na_Strip_states (DO.e (do_lc2 (vs1 := [6]) rfl sc_Strip___init__.nd (di_any (de_fldO 0 T.cl_Strip T.na_Strip_letters)) (blkOk_by (own := [("one", 5), ("two", 6)]) (N := n_Strip___init__) (by kernel_rfl)) (fun _ _ _ _ _ => (dg_name (i := 5) sc_Strip___init__.nd)) (fun _ _ _ _ _ => dts_nil) (fun _ _ _ _ _ => (di_any (de_fldO 0 T.cl_Strip T.na_Strip_letters))) (fun _ _ _ _ _ => (dg_name (i := 6) sc_Strip___init__.nd)) (fun _ _ _ _ _ => dts_nil) (fun _ _ _ _ _ => (de_tup (da_cons (dv 5) (da_cons (dv 6) da_nil)))))))
      (dss_one (ds_setFld 0 T.cl_Strip T.na_Strip_ways_on (DX.dat (dx_tc ⟨P, w⟩ hr.units rfl sc_Strip___init__.nd (di_any (de_fldO 0 T.cl_Strip T.na_Strip_states)) (blkOk_by (own := [("state", 7)]) (N := n_Strip___init__) (by kernel_rfl)) (fun _ _ _ _ _ => (dg_name (i := 7) sc_Strip___init__.nd)) (fun _ _ _ _ _ => dts_nil) (fun _ _ _ _ _ => (dv 7)) (fun _ _ _ _ _ => (de_methO1 0 T.cl_Strip T.h_Strip_ways_of G_Strip_ways_of (hr.mono (by decide)) pass0 (da_cons (dv 7) da_nil)))))))))))), fun W self_ ds Q hl ht => ?_⟩) (fun _ _ _ _ h => h)
  obtain ⟨r, e, h, rfl, ok, hq⟩ := ht
  have g := ok.ru
  have n1 := g.n1
  have n2 := g.n2
  have h3 := ok.h3
  have ll := ok.ll
  have sl := ok.sl
  refine tdSeq_fld (r.d ad) rfl (by show (0 : Nat) < 1000; decide) (fun Q R q => ⟨_, rfl, q⟩) ?_
  refine tdSeq_fld (sD e) rfl (by show (1 : Nat) < 1000; decide) (fun Q R q => ⟨_, rfl, q⟩) ?_
  refine tdSeq_fld (.lst (r.near.map offD)) rfl (by show (2 : Nat) < 1000; decide) (fun Q R q => ?_) ?_
  · refine ⟨_, rfl, rfl, rfl, rfl, r, rfl, ?_⟩
    show items (.tup (r.near.map sD)) _
    rw [items_tup]
    refine ⟨by rw [List.length_map]; exact Nat.le_trans g.nr.le (by decide), compD_mapL sD offD (fun q hq Kk hk => ⟨_, rfl, _, look_off (g.nr.of q hq), hk⟩) q⟩
  refine tdSeq_fld (.lst ((wordsL (signsN r.n) h).map sD)) rfl (by show (3 : Nat) < 1000; decide) (fun Q R q => ?_) ?_
  · exact ⟨_, rfl, rfl, rfl, rfl, r.s, r.n, r.near, r.rows, rfl, n2, _, rfl, rfl, signsN r.n, h, rfl, by rw [signsN_len n2]; exact n1, by rw [signsN_len n2]; exact n2, by omega, by rw [signsN_len n2]; exact Nat.le_trans ok.l8 (by decide), q⟩
  refine tdSeq_fld (.lst ((statesL (wordsL (signsN r.n) h)).map stD)) rfl (by show (4 : Nat) < 1000; decide) (fun Q R q => ?_) ?_
  · refine ⟨_, _, _, rfl, rfl, ?_⟩
    show items (.lst _) _
    rw [items_lst]
    refine compD2_mapL sD (fun a => (wordsL (signsN r.n) h).map fun b => stD (a, b)) (wordsL (signsN r.n) h).length (fun t _ => List.length_map _) (fun t ht m Kk hm hk => ?_) ?_ ?_
    · refine ⟨_, _, _, rfl, rfl, ?_⟩
      show items (.lst _) _
      rw [items_lst]
      refine ⟨by rw [List.length_map]; exact hm, ?_⟩
      exact compD_mapL sD (fun b => stD (t, b)) (fun c hc Kk hk => ⟨_, rfl, _, rfl, by show 2 ≤ sizeLine; decide, hk⟩) hk
    · rw [Nat.zero_add]
      rw [statesL_count] at sl
      exact Nat.le_trans sl (by decide)
    · unfold statesL at q
      rw [List.map_flatMap] at q
      simp only [List.map_map] at q
      exact q
  refine ⟨_, _, rfl, by show (5 : Nat) < 1000; decide, ?_⟩
  refine ⟨_, _, _, rfl, rfl, ?_⟩
  show items (.lst _) _
  rw [items_lst]
  refine ⟨by rw [List.length_map]; exact Nat.le_trans sl (by decide), ?_⟩
  refine compT_mapL stD (fun _ => true) stK (waysD r e (wordsL (signsN r.n) h)) (fun s hs Kk Kn h1 h2 => ?_) (stK_nodup (statesL_nodup ok.ln)) (fun _ _ z => nomatch z) ?_
  · refine ⟨_, rfl, _, _, rfl, by show ([Str.ofString "ruled", Str.ofString "brim", Str.ofString "offs", Str.ofString "letters", Str.ofString "states"] : List Str).contains (Str.ofString "ways_of") = false; decide +kernel, _, rfl, fun dx ws => ⟨rfl, r, e, h, s, _, rfl, ⟨_, _, _, _, rfl, rfl, ok⟩, hs, h1 rfl⟩⟩
  · rw [List.nil_append, List.filter_eq_self.mpr (fun _ _ => rfl)]
    exact ⟨_, rfl, hq⟩
theorem strip_ways {P : Program} {w : World} {ad : Nat → Addr} {r : RU} {e : List Nat} {h : Nat} : (stripFs P w ad r e h).lookup (Str.ofString "ways_on") = some (.dt ⟨P, w⟩ ((statesL (wordsL (signsN r.n) h)).map fun s => (stK s, waysD r e (wordsL (signsN r.n) h) s))) := rfl
theorem strip_states {P : Program} {w : World} {ad : Nat → Addr} {r : RU} {e : List Nat} {h : Nat} : (stripFs P w ad r e h).lookup (Str.ofString "states") = some (.lst ((statesL (wordsL (signsN r.n) h)).map stD)) := rfl
theorem valT_states {v : SState → D} {s : SState} : ∀ {l : List SState}, s ∈ l → l.Nodup → valT (l.map fun s => (stK s, v s)) (stK s) = some (v s)
  | [], h, _ => nomatch h
  | a :: l, h, nd => by
    rw [List.map_cons, valT_cons]
    by_cases e : a = s
    · rw [if_pos (congrArg stK e), e]
    · rw [if_neg (fun z => e (stK_inj z))]
      exact valT_states ((List.mem_cons.mp h).resolve_left (fun z => e z.symm)) (List.nodup_cons.mp nd).2
theorem grpD_get {G : Grp} {c : List Nat} : (valD (grpD G) (.inr (mk c))).getD (.lst []) = .lst ((lookG G c).map sD) := by
  induction G with
  | nil => rfl
  | cons g r ih =>
    unfold grpD valD lookG
    rw [List.map_cons, List.find?_cons]
    by_cases e : g.1 = c
    · rw [show decide (((Sum.inr (mk g.1) : L2.Key), D.lst (g.2.map sD)).1 = Sum.inr (mk c)) = true from decide_eq_true (by rw [e]), if_pos e]
      rfl
    · rw [show decide (((Sum.inr (mk g.1) : L2.Key), D.lst (g.2.map sD)).1 = Sum.inr (mk c)) = false from decide_eq_false (fun z => e (mk_inj (by injection z))), if_neg e]
      exact ih
def t_Strip_behind (P : Program) (w : World) (ad : Nat → Addr) : TFO := fun W ds Q _ => ∃ (r : RU) (e : List Nat) (h : Nat) (s : SState) (c : List Nat), ds = [stripD P w ad r e h, stD s, sD c] ∧ StripOk r e h ∧ s ∈ statesL (wordsL (signsN r.n) h) ∧ Q ((behindL r e (wordsL (signsN r.n) h) s c).map stD)
theorem ok_Strip_behind (T : Txt w K mg ad fd) : FnG P w K mg base CX0 1 (ad 3104) (fd 3104) p_Strip_behind (spO K 3 (t_Strip_behind P w ad)) := by
  refine okO T.h_Strip_behind.F sc_Strip_behind (fun cdv A outer s H E hr => ⟨_, _, fun W => (dss_one (ds_retO (do_lc rfl sc_Strip_behind.nd (di_any (de_dget2 hr.units (de_tTix ⟨P, w⟩ hr.units (de_fld T.cl_Strip T.na_Strip_ways_on (dv 0)) (dv 1)) (dv 2) (DO.e (do_lst da_nil)))) (blkOk_by (own := [("three", 3)]) (N := n_Strip_behind) (by kernel_rfl)) (fun _ _ _ _ _ => (dg_name (i := 3) sc_Strip_behind.nd)) (fun _ _ _ _ _ => dts_nil) (fun _ _ _ _ _ => (de_tup (da_cons (de_ix (dv 1) de_int) (da_cons (dv 3) da_nil))))))), fun W ds Q hl ht => ?_⟩) (fun _ _ _ _ h => h)
  obtain ⟨r, e, h, s, c, rfl, ok, hs, hq⟩ := ht
  have ll := ok.ll
  refine ⟨_, rfl, rfl, _, strip_ways, _, rfl, rfl, stK s, keyD_of (stK s), _, valT_states hs (statesL_nodup ok.ln), ?_⟩
  refine ⟨_, rfl, by show 0 ≤ sizeLine; decide, ?_⟩
  show items ((valD (grpD _) (.inr (mk c))).getD (.lst [])) _
  rw [grpD_get, waysG_look, items_lst]
  refine ⟨by rw [List.length_map]; exact Nat.le_trans (Nat.le_trans (List.length_filter_le _ _) ll) (by decide), ?_⟩
  refine compD_mapL sD (fun t => stD (s.2, t)) (fun t ht Kk hk => ⟨_, rfl, ⟨_, rfl, _, rfl, by show 2 ≤ sizeLine; decide, hk⟩⟩) ?_
  unfold behindL at hq
  rw [List.map_map] at hq
  exact hq
/-- the columns of rows of one width -/
def colsL (rows : Rows) : Rows := (List.range (rows.headD []).length).map fun i => rows.flatMap fun r => [r.getD i 0]
def rowsL (cols : Rows) (h : Nat) : Rows := (List.range h).map fun y => cols.flatMap fun c => [c.getD y 0]
/-- rows of a picture: so many, all as wide, few signs -/
structure PicOk (n h w : Nat) (rows : Rows) : Prop where
  len : rows.length = h
  wide : ∀ r ∈ rows, r.length = w
  sg : ∀ r ∈ rows, ∀ c ∈ r, c ∈ signsN n
  h1 : 1 ≤ h
  hw : h ≤ 64 ∧ w ≤ 1000
theorem flat_ones {α : Type} {l : List α} {f : α → Nat} : (l.flatMap fun a => [f a]) = l.map f := by
  induction l with
  | nil => rfl
  | cons a l ih => rw [List.flatMap_cons, ih]; rfl
def t_columns_of : TFO := fun W ds Q _ => ∃ (n h w : Nat) (rows : Rows), ds = [rowsD rows] ∧ PicOk n h w rows ∧ Q ((colsL rows).map sD)
theorem ok_columns_of (T : Txt w K mg ad fd) : FnG P w K mg base CX0 1 (ad 25) (fd 25) p_columns_of (spO K 1 t_columns_of) := by
  refine okO T.h_columns_of.F sc_columns_of (fun cdv A outer s H E hr => ⟨_, _, fun W => (dss_one (ds_retO (do_lc rfl sc_columns_of.nd (di_range1 rfl T.m_range (da_cons (de_len T.m_len (da_cons (de_ix (dv 0) de_int) da_nil)) da_nil)) (blkOk_by (own := [("at", 1)]) (N := n_columns_of) (by kernel_rfl)) (fun _ _ _ _ _ => (dg_name (i := 1) sc_columns_of.nd)) (fun _ _ _ _ _ => dts_nil) (fun _ _ _ _ _ => (de_join de_str (DO.e (do_lc rfl sc_columns_of.nd (di_any (dv 0)) (blkOk_by (own := [("row", 2)]) (N := n_columns_of) (by kernel_rfl)) (fun _ _ _ _ _ => (dg_name (i := 2) sc_columns_of.nd)) (fun _ _ _ _ _ => dts_nil) (fun _ _ _ _ _ => (de_ix (dv 2) (dv 1)))))))))), fun W ds Q hl ht => ?_⟩) (fun _ _ _ _ h => h)
  obtain ⟨n, h, wd, rows, rfl, ok, hq⟩ := ht
  have h1 := ok.h1
  have hl2 := ok.len
  obtain ⟨b1, b2⟩ := ok.hw
  obtain ⟨r0, rs, rfl⟩ : ∃ r0 rs, rows = r0 :: rs := by
    cases rows with
    | nil => exact absurd hl2 (by show ¬ 0 = h; omega)
    | cons r0 rs => exact ⟨r0, rs, rfl⟩
  have w0 : r0.length = wd := ok.wide r0 List.mem_cons_self
  refine ⟨_, rfl, fIx_row (j := 0) (r := r0) rfl ?_⟩
  simp only [tdNil, fLen_str, mk_length]
  refine ⟨Nat.le_trans (show r0.length ≤ 1000 by omega) (by decide), ?_⟩
  rw [rng1_int]
  refine ⟨by omega, by omega, by rw [numsD_length]; exact Nat.le_trans (show ((r0.length : Nat) : Int).toNat ≤ 1000 by omega) (by decide), ?_⟩
  rw [Int.toNat_natCast, numsD_eq]
  refine compD_mapL _ (fun i => sD ((r0 :: rs).flatMap fun r => [r.getD i 0])) (fun i hi Kk hk => ?_) ?_
  · have hi := List.mem_range.mp hi
    rw [Int.zero_add, empty_eq2]
    refine ⟨_, rfl, ?_⟩
    show items (.lst ((r0 :: rs).map sD)) _
    rw [items_lst]
    refine ⟨by rw [List.length_map]; exact Nat.le_trans (show (r0 :: rs).length ≤ 64 by omega) (by decide), ?_⟩
    refine compD_mapL sD (fun r => sD [r.getD i 0]) (fun r hr Kk hk => ⟨_, rfl, _, rfl, ?_⟩) (fJoin_ones _ _ (Nat.le_trans (show (r0 :: rs).length ≤ 64 by omega) (by decide)) hk)
    have hrl : r.length = wd := ok.wide r hr
    exact fIx_sign (Nat.le_trans (show r.length ≤ 1000 by omega) (by decide)) (by rw [List.getD_eq_getElem?_getD, List.getElem?_eq_getElem (by omega)]; rfl) hk
  · unfold colsL at hq
    rw [List.map_map] at hq
    exact hq
def t_rows_of : TFO := fun W ds Q _ => ∃ (cols : Rows) (h : Nat), ds = [rowsD cols, .int h] ∧ (∀ c ∈ cols, c.length = h) ∧ h ≤ 64 ∧ cols.length ≤ 1002 ∧ Q ((rowsL cols h).map sD)
theorem ok_rows_of (T : Txt w K mg ad fd) : FnG P w K mg base CX0 1 (ad 26) (fd 26) p_rows_of (spO K 2 t_rows_of) := by
  refine okO T.h_rows_of.F sc_rows_of (fun cdv A outer s H E hr => ⟨_, _, fun W => (dss_one (ds_retO (do_lc rfl sc_rows_of.nd (di_range1 rfl T.m_range (da_cons (dv 1) da_nil)) (blkOk_by (own := [("y", 2)]) (N := n_rows_of) (by kernel_rfl)) (fun _ _ _ _ _ => (dg_name (i := 2) sc_rows_of.nd)) (fun _ _ _ _ _ => dts_nil) (fun _ _ _ _ _ => (de_join de_str (DO.e (do_lc rfl sc_rows_of.nd (di_any (dv 0)) (blkOk_by (own := [("column", 3)]) (N := n_rows_of) (by kernel_rfl)) (fun _ _ _ _ _ => (dg_name (i := 3) sc_rows_of.nd)) (fun _ _ _ _ _ => dts_nil) (fun _ _ _ _ _ => (de_ix (dv 3) (dv 2)))))))))), fun W ds Q hl ht => ?_⟩) (fun _ _ _ _ h => h)
  obtain ⟨cols, h, rfl, hc, hh, hl, hq⟩ := ht
  refine ⟨_, rfl, ?_⟩
  simp only [tdNil]
  rw [rng1_int]
  refine ⟨by omega, by omega, by rw [numsD_length]; exact Nat.le_trans (show ((h : Nat) : Int).toNat ≤ 64 by omega) (by decide), ?_⟩
  rw [Int.toNat_natCast, numsD_eq]
  refine compD_mapL _ (fun y => sD (cols.flatMap fun c => [c.getD y 0])) (fun y hy Kk hk => ?_) ?_
  · have hy := List.mem_range.mp hy
    rw [Int.zero_add, empty_eq2]
    refine ⟨_, rfl, ?_⟩
    show items (.lst (cols.map sD)) _
    rw [items_lst]
    refine ⟨by rw [List.length_map]; exact Nat.le_trans hl (by decide), ?_⟩
    refine compD_mapL sD (fun r => sD [r.getD y 0]) (fun c hcm Kk hk => ⟨_, rfl, _, rfl, ?_⟩) (fJoin_ones _ _ (Nat.le_trans hl (by decide)) hk)
    have hcl := hc c hcm
    exact fIx_sign (Nat.le_trans (show c.length ≤ 64 by omega) (by decide)) (by rw [List.getD_eq_getElem?_getD, List.getElem?_eq_getElem (by omega)]; rfl) hk
  · unfold rowsL at hq
    rw [List.map_map] at hq
    exact hq
def t_strip_for (P : Program) (w : World) (ad : Nat → Addr) : TF := fun W ds Q _ => ∃ (r : RU) (e : List Nat) (h wd : Nat) (rows : Rows), ds = [r.d ad, sD e, rowsD rows] ∧ StripOk r e h ∧ PicOk r.n h wd rows ∧ Q (stripD P w ad r e h)
theorem ok_strip_for (T : Txt w K mg ad fd) : FnG P w K mg base CX0 7 (ad 27) (fd 27) p_strip_for (spD K 3 (t_strip_for P w ad)) := by
  have G_need_strip := ok_need_strip (P := P) (w := w) (base := base) T
  have G_Strip___init__ := ok_Strip___init__ (P := P) (w := w) (base := base) T
  refine okD T.h_strip_for.F sc_strip_for (fun cdv A outer s H E hr => ⟨_, _, fun W => (dss_cons (ds_drop (de_call G_need_strip (hr.mono (by decide)) T.h_need_strip.g T.h_need_strip.k T.h_need_strip.b pass0 (da_cons (dv 0) (da_cons (de_add (dv 1) (de_join de_str (dv 2))) (da_cons (de_len T.m_len (da_cons (dv 2) da_nil)) da_nil)))))
      (dss_one (ds_ret (de_make T.mk_Strip T.h_Strip___init__ G_Strip___init__ (hr.mono (by decide)) T.g_Strip pass0 (da_cons (dv 0) (da_cons (dv 1) (da_cons (de_len T.m_len (da_cons (dv 2) da_nil)) da_nil))))))), fun W ds Q hl ht => ?_⟩) (fun _ _ _ _ h => h)
  obtain ⟨r, e, h, wd, rows, rfl, ok, pc, hq⟩ := ht
  have hl2 := pc.len
  obtain ⟨b1, b2⟩ := pc.hw
  have lf : rows.flatten.length ≤ 64000 := by
    rw [List.length_flatten, List.map_congr_left (g := fun _ => wd) (fun r hr => pc.wide r hr), List.map_const', List.sum_replicate_nat, hl2]
    exact Nat.mul_le_mul b1 b2
  have e1 := ok.e1
  have len : ∀ {Q : D → Prop}, Q (.int (h : Nat)) → fLen [rowsD rows] Q := fun {Q} q => by
    show Q (.int ((rows.map sD).length : Nat))
    rw [List.length_map, hl2]
    exact q
  refine (show tdSeq (tdDrop _) _ _ _ from ?_)
  rw [empty_eq2]
  refine ⟨_, rfl, _, rfl, _, rfl, fJoin_nil rows ?_ ?_⟩
  · rw [← List.length_flatten]
    exact Nat.le_trans lf (by decide)
  refine ⟨by show (mk e).length + (mk rows.flatten).length ≤ 16777216; rw [mk_length, mk_length]; omega, _, rfl, ?_⟩
  simp only [tdNil]
  refine len ?_
  rw [app_mk]
  refine ⟨rfl, r, e ++ rows.flatten, h, rfl, ok.ru, ok.so, fun c hc => ?_, by rw [List.length_append]; omega, b1, ok.few, ?_⟩
  · rcases List.mem_append.mp hc with hc | hc
    · exact ok.es c hc
    · obtain ⟨q, hq1, hq2⟩ := List.mem_flatten.mp hc
      exact pc.sg q hq1 c hq2
  refine ⟨_, rfl, _, rfl, _, rfl, ?_⟩
  simp only [tdNil]
  exact len ⟨rfl, r, e, h, rfl, ok, hq⟩
/-- a table as data -/
def tblE (p : SState × Nat) : TK × D := (stK p.1, .int p.2)
def tblD (P : Program) (w : World) (T : Tbl) : D := .dt ⟨P, w⟩ (T.map tblE)
theorem tbl_get {T : Tbl} {s : SState} : (valT (T.map tblE) (stK s)).getD (.int 0) = .int (lookN T s : Nat) := by
  induction T with
  | nil => rfl
  | cons p r ih =>
    rw [List.map_cons]
    show (valT ((stK p.1, D.int p.2) :: r.map tblE) (stK s)).getD (.int 0) = .int ((if p.1 = s then p.2 else lookN r s : Nat) : Int)
    rw [valT_cons]
    by_cases e : p.1 = s
    · rw [if_pos (congrArg stK e), if_pos e]
      rfl
    · rw [if_neg (fun z => e (stK_inj z)), if_neg e]
      exact ih
theorem stepT_len {r : RU} {e : List Nat} {ls : List (List Nat)} {T : Tbl} {c : List Nat} {ss : List SState} : (stepT r e ls ss T c).length ≤ ss.length := List.length_filterMap_le _ _
theorem stepT_keys {r : RU} {e : List Nat} {ls : List (List Nat)} {T : Tbl} {c : List Nat} {ss : List SState} {s : SState} (h : s ∉ ss) : stK s ∉ ((stepT r e ls ss T c).map tblE).map (·.1) := by
  rw [List.map_map]
  intro z
  obtain ⟨p, hp, e1⟩ := List.mem_map.mp z
  have e1 := stK_inj e1
  obtain ⟨a, ha, ea⟩ := List.mem_filterMap.mp hp
  split at ea
  · cases ea
    exact h (e1 ▸ ha)
  · cases ea
theorem sum_cast : ∀ {l : List Nat}, ((l.map fun n : Nat => (n : Int))).sum = ((l.sum : Nat) : Int)
  | [] => rfl
  | n :: l => by rw [List.map_cons, List.sum_cons, sum_cast, List.sum_cons]; push_cast; rfl
def t_counts_on (P : Program) (w : World) (ad : Nat → Addr) : TFO := fun W ds Q _ => ∃ (r : RU) (e : List Nat) (h : Nat) (cols : Rows) (last : Tbl), ds = [stripD P w ad r e h, rowsD cols, tblD P w last] ∧ StripOk r e h ∧ cols.length ≤ 1000 ∧ last.length ≤ 64 ∧ (last.map (·.1)).Nodup ∧ Q ((tabsL r e (wordsL (signsN r.n) h) last cols).map (tblD P w))
theorem ok_counts_on (T : Txt w K mg ad fd) : FnG P w K mg base CX0 2 (ad 29) (fd 29) p_counts_on (spO K 3 (t_counts_on P w ad)) := by
  have G_Strip_behind := ok_Strip_behind (P := P) (w := w) (base := base) T
  refine okO T.h_counts_on.F sc_counts_on (fun cdv A outer s H E hr => ⟨_, _, fun W => (dss_cons (ds_setO (i := 3) sc_counts_on.nd (do_lst (da_cons (dv 2) da_nil)))
      (dss_cons (ds_for PassesOwn.never rfl (di_any (DO.e (do_rev (dv 1) (dp_some (de_neg de_int))))) (dg_name (i := 4) sc_counts_on.nd) (dss_cons (ds_set (i := 5) sc_counts_on.nd (de_ixO 3 (de_neg de_int)))
      (dss_cons (ds_setX (i := 6) sc_counts_on.nd (dx_newT ⟨P, w⟩))
      (dss_cons (ds_for PassesOwn.never rfl (di_any (de_fld T.cl_Strip T.na_Strip_states (dv 0))) (dg_name (i := 7) sc_counts_on.nd) (dss_cons (ds_set (i := 8) sc_counts_on.nd (de_sumL rfl T.m_sum (da_cons (DO.e (do_lc rfl sc_counts_on.nd (di_any (DO.e (do_meth T.cl_Strip T.h_Strip_behind G_Strip_behind (hr.mono (by decide)) pass0 (dv 0) (da_cons (dv 7) (da_cons (dv 4) da_nil))))) (blkOk_by (own := [("other", 9)]) (N := n_counts_on) (by kernel_rfl)) (fun _ _ _ _ _ => (dg_name (i := 9) sc_counts_on.nd)) (fun _ _ _ _ _ => dts_nil) (fun _ _ _ _ _ => (de_tget ⟨P, w⟩ hr.units (dv 5) (dv 9) de_int)))) da_nil)))
      (dss_one (ds_if (dt_gt (dv 8) de_int) (dss_one (ds_tput ⟨P, w⟩ 6 hr.units (dv 7) (dv 8))) dss_nil))))
      (dss_one (DS.stillT ⟨P, w⟩ 6 (ds_app 3 (dv 6))))))))
      (dss_one (ds_retO (do_rev (dv 3) (dp_some (de_neg de_int))))))), fun W ds Q hl ht => ?_⟩) (fun _ _ _ _ h => h)
  obtain ⟨r, e, h, cols, last, rfl, ok, hc, hl, nd, hq⟩ := ht
  have sl := ok.sl
  generalize hls : wordsL (signsN r.n) h = ls at sl hq
  have lnd : (statesL ls).Nodup := by rw [← hls]; exact statesL_nodup ok.ln
  refine tdSeq_setO (fun ds => ds = [tblD P w last]) (fun Q R q => ⟨_, rfl, by show 1 ≤ sizeLine; decide, q _ rfl⟩) ?_
  rintro _ rfl
  refine tdSeq_cut (fun τ => ∃ z4 z5 z6 z7 z8 : Option SD, τ = [some (.dat (stripD P w ad r e h)), some (.dat (rowsD cols)), some (.dat (tblD P w last)), some (.own ((tabsL r e ls last cols).reverse.map (tblD P w))), z4, z5, z6, z7, z8, none]) (fun nx hnx => ?_) ?_
  · refine ⟨_, rfl, rfl, ?_⟩
    rw [show rowsD cols = .lst (cols.map sD) from rfl, onLst_lst]
    show items (.lst (cols.map sD).reverse) _
    rw [items_lst, ← List.map_reverse]
    refine forD_mapL sD (fun pre τ => ∃ z4 z5 z6 z7 z8 : Option SD, τ = [some (.dat (stripD P w ad r e h)), some (.dat (rowsD cols)), some (.dat (tblD P w last)), some (.own ((tabsL r e ls last pre.reverse).reverse.map (tblD P w))), z4, z5, z6, z7, z8, none]) cols.reverse gdName_mono ?_ (fun τ h => by rw [List.reverse_reverse] at h; exact hnx τ h) [] _ _ rfl ⟨_, _, _, _, _, rfl⟩
    rintro pre c post τ he ⟨z4, z5, z6, z7, z8, rfl⟩ nx2 hnx2
    have pl : pre.length ≤ 1000 := by
      have := congrArg List.length he
      rw [List.length_reverse, List.length_append] at this
      omega
    obtain ⟨tl, etl⟩ : ∃ tl, tabsL r e ls last pre.reverse = (tabsL r e ls last pre.reverse).headD [] :: tl := by
      cases hh : tabsL r e ls last pre.reverse with
      | nil => exact absurd hh tabsL_ne
      | cons a tl => exact ⟨tl, rfl⟩
    have el : (tabsL r e ls last pre.reverse).reverse.map (tblD P w) = tl.reverse.map (tblD P w) ++ [tblD P w ((tabsL r e ls last pre.reverse).headD [])] := by
      rw [etl, List.reverse_cons, List.map_append]
      rfl
    have etn : tabsL r e ls last (pre ++ [c]).reverse = stepT r e ls (statesL ls) ((tabsL r e ls last pre.reverse).headD []) c :: tabsL r e ls last pre.reverse := by
      rw [List.reverse_append]
      rfl
    generalize hT : (tabsL r e ls last pre.reverse).headD [] = T at el etn
    refine tdSeq_asg (tblD P w T) (fun Q R q => ⟨_, rfl, _, by rw [el]; exact atI_last, q⟩) ?_
    refine tdSeq_setX (fun s => s = .dt ⟨P, w⟩ []) (fun Q R q => q _ rfl) ?_
    rintro _ rfl
    refine tdSeq_cut (fun τ => ∃ z7 z8 : Option SD, τ = [some (.dat (stripD P w ad r e h)), some (.dat (rowsD cols)), some (.dat (tblD P w last)), some (.own ((tabsL r e ls last pre.reverse).reverse.map (tblD P w))), some (.dat (sD c)), some (.dat (tblD P w T)), some (.dt ⟨P, w⟩ ((stepT r e ls (statesL ls) T c).map tblE)), z7, z8, none]) (fun nx3 hnx3 => ?_) ?_
    · refine ⟨_, rfl, rfl, _, strip_states, ?_⟩
      show items (.lst _) _
      rw [items_lst, hls]
      refine forD_mapL stD (fun pre2 τ => ∃ z7 z8 : Option SD, τ = [some (.dat (stripD P w ad r e h)), some (.dat (rowsD cols)), some (.dat (tblD P w last)), some (.own ((tabsL r e ls last pre.reverse).reverse.map (tblD P w))), some (.dat (sD c)), some (.dat (tblD P w T)), some (.dt ⟨P, w⟩ ((stepT r e ls pre2 T c).map tblE)), z7, z8, none]) (statesL ls) gdName_mono ?_ (fun τ h => hnx3 τ h) [] _ _ rfl ⟨_, _, rfl⟩
      rintro pre2 s post2 τ he2 ⟨z7, z8, rfl⟩ nx4 hnx4
      have hs : s ∈ statesL ls := he2 ▸ List.mem_append_right _ List.mem_cons_self
      have ns : s ∉ pre2 := fun z => by
        rw [he2, List.nodup_append] at lnd
        exact lnd.2.2 s z s List.mem_cons_self rfl
      have p2 : pre2.length ≤ 64 := by
        have := congrArg List.length he2
        rw [List.length_append] at this
        omega
      have bl : (behindL r e ls s c).length ≤ 8 := by
        unfold behindL
        rw [List.length_map]
        refine Nat.le_trans (List.length_filter_le _ _) ?_
        rw [← hls]
        exact ok.ll
      refine tdSeq_asg (.int (countS r e ls T c s : Nat)) (fun Q R q => ?_) ?_
      · refine ⟨_, rfl, rfl, rfl, _, rfl, _, rfl, rfl, r, e, h, s, c, rfl, ok, by rw [hls]; exact hs, ?_⟩
        rw [hls]
        show items (.lst _) _
        rw [items_lst]
        refine ⟨by rw [List.length_map]; exact Nat.le_trans bl (by decide), ?_⟩
        refine compD_mapL stD (fun o => .int (lookN T o : Nat)) (fun o ho Kk hk => ⟨_, rfl, rfl, _, rfl, stK o, keyD_of (stK o), by rw [tbl_get]; exact hk⟩) ?_
        refine ⟨(behindL r e ls s c).map fun o => ((lookN T o : Nat) : Int), by rw [List.map_map]; rfl, ?_⟩
        have : ((behindL r e ls s c).map fun o => ((lookN T o : Nat) : Int)).sum = ((countS r e ls T c s : Nat) : Int) := by
          unfold countS
          rw [← sum_cast, List.map_map]
          rfl
        rw [this]
        exact q
      refine tdIf_by (decide (0 < countS r e ls T c s)) (fun Q R q => tdTest_by _ (fun Q R q => ⟨_, rfl, ?_⟩) q) (fun z => ?_) (fun z => ?_)
      · show Q (.bl (decide ((0 : Int) < (countS r e ls T c s : Nat))))
        rw [show decide ((0 : Int) < (countS r e ls T c s : Nat)) = decide (0 < countS r e ls T c s) by by_cases h : 0 < countS r e ls T c s; rw [decide_eq_true h, decide_eq_true (by omega)]; rw [decide_eq_false h, decide_eq_false (by omega)]]
        exact q
      · have z := of_decide_eq_true z
        refine ⟨_, rfl, _, rfl, _, rfl, stK s, keyD_of (stK s), Nat.lt_of_le_of_lt (Nat.le_trans (show _ ≤ pre2.length by rw [List.length_map]; exact stepT_len) p2) (by decide), hnx4 _ ⟨some (.dat (stD s)), some (.dat (.int (countS r e ls T c s : Nat))), ?_⟩⟩
        rw [putT_new (stepT_keys ns)]
        have e3 : stepT r e ls (pre2 ++ [s]) T c = stepT r e ls pre2 T c ++ [(s, countS r e ls T c s)] := by
          unfold stepT
          rw [List.filterMap_append]
          congr 1
          rw [List.filterMap_cons, if_pos z]
          rfl
        rw [e3, List.map_append]
        rfl
      · have z := of_decide_eq_false z
        refine hnx4 _ ⟨some (.dat (stD s)), some (.dat (.int (countS r e ls T c s : Nat))), ?_⟩
        have e3 : stepT r e ls (pre2 ++ [s]) T c = stepT r e ls pre2 T c := by
          unfold stepT
          rw [List.filterMap_append, List.filterMap_cons, if_neg z]
          exact List.append_nil _
        rw [e3]
        rfl
    rintro _ ⟨z7, z8, rfl⟩
    refine ⟨_, rfl, _, rfl, ?_, _, rfl, hnx2 _ ⟨some (.dat (sD c)), some (.dat (tblD P w T)), some (.dat (tblD P w (stepT r e ls (statesL ls) T c))), z7, z8, ?_⟩⟩
    · rw [List.length_map, List.length_reverse, tabsL_len, List.length_reverse]
      exact Nat.lt_of_le_of_lt (Nat.succ_le_succ pl) (by decide)
    · rw [etn, List.reverse_cons, List.map_append]
      rfl
  rintro _ ⟨z4, z5, z6, z7, z8, rfl⟩
  refine ⟨_, rfl, rfl, ?_⟩
  rw [onLst_lst, ← List.map_reverse, List.reverse_reverse]
  exact hq
def t_picked (P : Program) (w : World) (ad : Nat → Addr) : TF := fun W ds Q _ => ∃ (ss : List SState) (T : Tbl) (n : Nat), ds = [.lst (ss.map stD), tblD P w T, .int n] ∧ n < (ss.map (lookN T)).sum ∧ ss.length ≤ 1000 ∧ Q (.tup [stD (pickL T ([], []) ss n).1, .int (pickL T ([], []) ss n).2])
theorem ok_picked (T : Txt w K mg ad fd) : FnG P w K mg base CX0 1 (ad 31) (fd 31) p_picked (spD K 3 (t_picked P w ad)) := by
  refine okD T.h_picked.F sc_picked (fun cdv A outer s H E hr => ⟨_, _, fun W => (dss_cons (ds_for PassesOwn.never rfl (di_any (dv 0)) (dg_name (i := 3) sc_picked.nd) (dss_cons (ds_set (i := 4) sc_picked.nd (de_tget ⟨P, w⟩ hr.units (dv 1) (dv 3) de_int))
      (dss_cons (ds_if (dt_lt (dv 2) (dv 4)) (dss_one (ds_ret (de_tup (da_cons (dv 3) (da_cons (dv 2) da_nil))))) dss_nil)
      (dss_one (ds_augI (i := 2) ip_sub sc_picked.nd (dv 4))))))
      (dss_one (ds_ret (de_tup (da_cons (de_ix (dv 0) (de_neg de_int)) (da_cons (dv 2) da_nil)))))), fun W ds Q hl ht => ?_⟩) (fun _ _ _ _ h => h)
  obtain ⟨ss, T, n, rfl, hn, hl, hq⟩ := ht
  refine ⟨_, rfl, ?_⟩
  show items (.lst (ss.map stD)) _
  rw [items_lst]
  refine forD_mapL stD (fun pre τ => ∃ (m : Nat) (post : List SState) (z3 z4 : Option SD), ss = pre ++ post ∧ pickL T ([], []) ss n = pickL T ([], []) post m ∧ m < (post.map (lookN T)).sum ∧ τ = [some (.dat (.lst (ss.map stD))), some (.dat (tblD P w T)), some (.dat (.int m)), z3, z4]) ss gdName_mono ?_ ?_ [] _ _ rfl ⟨n, ss, _, _, rfl, rfl, hn, rfl⟩
  · rintro pre s post τ he ⟨m, post2, z3, z4, e2, ep, hm, rfl⟩ nx hnx
    obtain rfl : s :: post = post2 := List.append_cancel_left (he.symm.trans e2)
    have hm : m < lookN T s + (post.map (lookN T)).sum := hm
    refine tdSeq_asg (.int (lookN T s : Nat)) (fun Q R q => ?_) ?_
    · exact ⟨_, rfl, rfl, _, rfl, stK s, keyD_of (stK s), by rw [tbl_get]; exact q⟩
    refine tdSeq_if1 (decide (m < lookN T s)) (fun Q R q => tdTest_by _ (fun Q R q => ⟨_, rfl, _, rfl, ?_⟩) q) (fun z => ?_) (fun z => ?_)
    · show Q (.bl (decide ((m : Int) < (lookN T s : Nat))))
      rw [show decide ((m : Int) < (lookN T s : Nat)) = decide (m < lookN T s) by by_cases h : m < lookN T s; rw [decide_eq_true h, decide_eq_true (by omega)]; rw [decide_eq_false h, decide_eq_false (by omega)]]
      exact q
    · have z := of_decide_eq_true z
      refine ⟨_, rfl, _, rfl, by show 2 ≤ sizeLine; decide, ?_⟩
      rw [ep] at hq
      unfold pickL at hq
      rw [if_pos z] at hq
      exact hq
    · have z := of_decide_eq_false z
      refine ⟨_, rfl, _, rfl, hnx _ ⟨m - lookN T s, post, some (.dat (stD s)), some (.dat (.int (lookN T s : Nat))), by rw [he, List.append_assoc]; rfl, ?_, by omega, ?_⟩⟩
      · rw [ep]
        show (if m < lookN T s then (s, m) else _) = _
        rw [if_neg z]
      · rw [show ((m - lookN T s : Nat) : Int) = (m : Int) - (lookN T s : Nat) by omega]
        rfl
  · rintro τ ⟨m, post, z3, z4, e2, _, hm, rfl⟩
    have : post = [] := by
      have := congrArg List.length e2
      rw [List.length_append] at this
      exact List.length_eq_zero_iff.mp (by omega)
    subst this
    exact absurd hm (by show ¬ m < 0; omega)
theorem vals_tbl {T : Tbl} : (T.map tblE).map (·.2) = (T.map fun p => ((p.2 : Nat) : Int)).map D.int := by
  rw [List.map_map, List.map_map]
  rfl
theorem sum_tbl {T : Tbl} : (T.map fun p => ((p.2 : Nat) : Int)).sum = (((T.map (·.2)).sum : Nat) : Int) := by
  rw [← sum_cast, List.map_map]
  rfl
theorem onesT_d {P : Program} {w : World} {ls : List (List Nat)} : D.dt ⟨P, w⟩ ((statesL ls).map fun s => (stK s, D.int 1)) = tblD P w (onesT ls) := by
  unfold tblD onesT
  rw [List.map_map]
  rfl
theorem tabs_at0 {P : Program} {w : World} {r : RU} {e : List Nat} {ls : List (List Nat)} {last : Tbl} {cs : List (List Nat)} : atI ((tabsL r e ls last cs).map (tblD P w)) 0 = some (tblD P w ((tabsL r e ls last cs).headD [])) := by
  cases h : tabsL r e ls last cs with
  | nil => exact absurd h tabsL_ne
  | cons a tl => exact atI_of (k := 0) rfl
theorem PicOk.colsLen {n h wd : Nat} {rows : Rows} (ok : PicOk n h wd rows) : (colsL rows).length = wd := by
  unfold colsL
  rw [List.length_map, List.length_range]
  have h1 := ok.h1
  have hl := ok.len
  cases rows with
  | nil => exact absurd hl (by show ¬ 0 = h; omega)
  | cons r0 rs => exact ok.wide r0 List.mem_cons_self
theorem PicOk.colsMem {n h wd : Nat} {rows : Rows} (ok : PicOk n h wd rows) : ∀ c ∈ colsL rows, c.length = h ∧ ∀ x ∈ c, x ∈ signsN n := fun c hc => by
  have h1 := ok.h1
  have hl := ok.len
  obtain ⟨i, hi, rfl⟩ := List.mem_map.mp hc
  have hi := List.mem_range.mp hi
  refine ⟨by rw [flat_one (fun _ _ => rfl), hl], fun x hx => ?_⟩
  obtain ⟨r, hr, hx⟩ := List.mem_flatMap.mp hx
  rw [List.mem_singleton.mp hx]
  have w0 : (rows.headD []).length = wd := by
    cases rows with
    | nil => cases hr
    | cons r0 rs => exact ok.wide r0 List.mem_cons_self
  have wr := ok.wide r hr
  rw [List.getD_eq_getElem?_getD, List.getElem?_eq_getElem (by omega)]
  exact ok.sg r hr _ (List.getElem_mem _)
def t_how_many (P : Program) (w : World) (ad : Nat → Addr) : TF := fun W ds Q _ => ∃ (r : RU) (e : List Nat) (h wd : Nat) (rows : Rows), ds = [r.d ad, sD e, rowsD rows] ∧ StripOk r e h ∧ PicOk r.n h wd rows ∧ Q (.int ((foresL r e (wordsL (signsN r.n) h) (colsL rows)).length : Nat))
theorem ok_how_many (T : Txt w K mg ad fd) : FnG P w K mg base CX0 8 (ad 30) (fd 30) p_how_many (spD K 3 (t_how_many P w ad)) := by
  have G_columns_of := ok_columns_of (P := P) (w := w) (base := base) T
  have G_strip_for := ok_strip_for (P := P) (w := w) (base := base) T
  have G_counts_on := ok_counts_on (P := P) (w := w) (base := base) T
  refine okD T.h_how_many.F sc_how_many (fun cdv A outer s H E hr => ⟨_, _, fun W => (dss_cons (ds_set (i := 3) sc_how_many.nd (de_call G_strip_for (hr.mono (by decide)) T.h_strip_for.g T.h_strip_for.k T.h_strip_for.b pass0 (da_cons (dv 0) (da_cons (dv 1) (da_cons (dv 2) da_nil)))))
      (dss_one (ds_ret (de_sumVs ⟨P, w⟩ rfl T.m_sum (de_ix (DO.e (do_call G_counts_on (hr.mono (by decide)) T.h_counts_on.g T.h_counts_on.k T.h_counts_on.b pass0 (da_cons (dv 3) (da_cons (DO.e (do_call G_columns_of (hr.mono (by decide)) T.h_columns_of.g T.h_columns_of.k T.h_columns_of.b pass0 (da_cons (dv 2) da_nil))) (da_cons (DX.dat (dx_tc ⟨P, w⟩ hr.units rfl sc_how_many.nd (di_any (de_fld T.cl_Strip T.na_Strip_states (dv 3))) (blkOk_by (own := [("state", 4)]) (N := n_how_many) (by kernel_rfl)) (fun _ _ _ _ _ => (dg_name (i := 4) sc_how_many.nd)) (fun _ _ _ _ _ => dts_nil) (fun _ _ _ _ _ => (dv 4)) (fun _ _ _ _ _ => de_int))) da_nil))))) de_int))))), fun W ds Q hl ht => ?_⟩) (fun _ _ _ _ h => h)
  obtain ⟨r, e, h, wd, rows, rfl, ok, pc, hq⟩ := ht
  have sl := ok.sl
  refine tdSeq_asg (stripD P w ad r e h) (fun Q R q => ⟨_, rfl, _, rfl, _, rfl, rfl, r, e, h, wd, rows, rfl, ok, pc, q⟩) ?_
  refine tdRet_by _ (fun Q R q => ?_) hq
  refine ⟨_, rfl, _, rfl, rfl, r.n, h, wd, rows, rfl, pc, ?_⟩
  refine ⟨_, rfl, rfl, _, strip_states, ?_⟩
  show items (.lst _) _
  rw [items_lst]
  refine ⟨by rw [List.length_map]; exact Nat.le_trans sl (by decide), ?_⟩
  refine compT_mapL stD (fun _ => true) stK (fun _ => .int 1) (fun s hs Kk Kn h1 h2 => ⟨_, rfl, h1 rfl⟩) (stK_nodup (statesL_nodup ok.ln)) (fun _ _ z => nomatch z) ?_
  rw [List.nil_append, List.filter_eq_self.mpr (fun _ _ => rfl)]
  have cl := pc.colsLen
  obtain ⟨b1, b2⟩ := pc.hw
  refine ⟨rfl, r, e, h, colsL rows, onesT (wordsL (signsN r.n) h), by rw [← onesT_d]; rfl, ok, by omega, by unfold onesT; rw [List.length_map]; exact sl, by unfold onesT; rw [List.map_map]; exact (List.map_id' _).symm ▸ statesL_nodup ok.ln, ?_⟩
  refine ⟨_, tabs_at0, rfl, _, vals_tbl, ?_⟩
  rw [sum_tbl, tabs_sum ok.ln]
  exact q
def t_forebear (P : Program) (w : World) (ad : Nat → Addr) : TFO := fun W ds Q _ => ∃ (r : RU) (e : List Nat) (h wd n : Nat) (rows x : Rows), ds = [r.d ad, sD e, rowsD rows, .int n] ∧ StripOk r e h ∧ PicOk r.n h wd rows ∧ (foresL r e (wordsL (signsN r.n) h) (colsL rows))[n]? = some x ∧ Q ((rowsL x h).map sD)
theorem ok_forebear (T : Txt w K mg ad fd) : FnG P w K mg base CX0 8 (ad 32) (fd 32) p_forebear (spO K 4 (t_forebear P w ad)) := by
  have G_columns_of := ok_columns_of (P := P) (w := w) (base := base) T
  have G_rows_of := ok_rows_of (P := P) (w := w) (base := base) T
  have G_strip_for := ok_strip_for (P := P) (w := w) (base := base) T
  have G_counts_on := ok_counts_on (P := P) (w := w) (base := base) T
  have G_picked := ok_picked (P := P) (w := w) (base := base) T
  have G_Strip_behind := ok_Strip_behind (P := P) (w := w) (base := base) T
  refine okO T.h_forebear.F sc_forebear (fun cdv A outer s H E hr => ⟨_, _, fun W => (dss_cons (ds_set (i := 4) sc_forebear.nd (de_call G_strip_for (hr.mono (by decide)) T.h_strip_for.g T.h_strip_for.k T.h_strip_for.b pass0 (da_cons (dv 0) (da_cons (dv 1) (da_cons (dv 2) da_nil)))))
      (dss_cons (ds_set (i := 5) sc_forebear.nd (DO.e (do_call G_columns_of (hr.mono (by decide)) T.h_columns_of.g T.h_columns_of.k T.h_columns_of.b pass0 (da_cons (dv 2) da_nil))))
      (dss_cons (ds_set (i := 6) sc_forebear.nd (DO.e (do_call G_counts_on (hr.mono (by decide)) T.h_counts_on.g T.h_counts_on.k T.h_counts_on.b pass0 (da_cons (dv 4) (da_cons (dv 5) (da_cons (DX.dat (dx_tc ⟨P, w⟩ hr.units rfl sc_forebear.nd (di_any (de_fld T.cl_Strip T.na_Strip_states (dv 4))) (blkOk_by (own := [("state", 8)]) (N := n_forebear) (by kernel_rfl)) (fun _ _ _ _ _ => (dg_name (i := 8) sc_forebear.nd)) (fun _ _ _ _ _ => dts_nil) (fun _ _ _ _ _ => (dv 8)) (fun _ _ _ _ _ => de_int))) da_nil))))))
      (dss_cons (ds_set (i := 7) sc_forebear.nd (de_sumVs ⟨P, w⟩ rfl T.m_sum (de_ix (dv 6) de_int)))
      (dss_cons (ds_if (dt_ge (dv 3) (dv 7)) (dss_one ds_never) dss_nil)
      (dss_cons (ds_asg (de_call G_picked (hr.mono (by decide)) T.h_picked.g T.h_picked.k T.h_picked.b pass0 (da_cons (de_fld T.cl_Strip T.na_Strip_states (dv 4)) (da_cons (de_ix (dv 6) de_int) (da_cons (dv 3) da_nil)))) (dg_tup rfl (dgs_cons (dg_name (i := 8) sc_forebear.nd) (dgs_cons (dg_name (i := 9) sc_forebear.nd) dgs_nil))))
      (dss_cons (ds_setO (i := 10) sc_forebear.nd (do_list T.m_list (da_cons (dv 8) da_nil)))
      (dss_cons (ds_for PassesOwn.never rfl (di_zip T.m_zip (da_cons (dv 5) (da_cons (DO.e (do_sl (dv 6) (dp_some de_int) dp_none)) da_nil))) (dg_tup rfl (dgs_cons (dg_name (i := 11) sc_forebear.nd) (dgs_cons (dg_name (i := 12) sc_forebear.nd) dgs_nil))) (dss_cons (ds_asg (de_call G_picked (hr.mono (by decide)) T.h_picked.g T.h_picked.k T.h_picked.b pass0 (da_cons (DO.e (do_meth T.cl_Strip T.h_Strip_behind G_Strip_behind (hr.mono (by decide)) pass0 (dv 4) (da_cons (dv 8) (da_cons (dv 11) da_nil)))) (da_cons (dv 12) (da_cons (dv 9) da_nil)))) (dg_tup rfl (dgs_cons (dg_name (i := 8) sc_forebear.nd) (dgs_cons (dg_name (i := 9) sc_forebear.nd) dgs_nil))))
      (dss_one (ds_app 10 (de_ix (dv 8) de_int)))))
      (dss_one (ds_retO (do_call G_rows_of (hr.mono (by decide)) T.h_rows_of.g T.h_rows_of.k T.h_rows_of.b pass0 (da_cons (dv 10) (da_cons (de_len T.m_len (da_cons (dv 2) da_nil)) da_nil))))))))))))), fun W ds Q hl ht => ?_⟩) (fun _ _ _ _ h => h)
  obtain ⟨r, e, h, wd, n, rows, x, rfl, ok, pc, hx, hq⟩ := ht
  have sl := ok.sl
  refine tdSeq_asg (stripD P w ad r e h) (fun Q R q => ⟨_, rfl, _, rfl, _, rfl, rfl, r, e, h, wd, rows, rfl, ok, pc, q⟩) ?_
  refine tdSeq_asg (rowsD (colsL rows)) (fun Q R q => ⟨_, rfl, rfl, r.n, h, wd, rows, rfl, pc, q⟩) ?_
  have cl := pc.colsLen
  obtain ⟨b1, b2⟩ := pc.hw
  have ond : ((onesT (wordsL (signsN r.n) h)).map (·.1)).Nodup := by unfold onesT; rw [List.map_map]; exact (List.map_id' _).symm ▸ statesL_nodup ok.ln
  refine tdSeq_asg (.lst ((tabsL r e (wordsL (signsN r.n) h) (onesT (wordsL (signsN r.n) h)) (colsL rows)).map (tblD P w))) (fun Q R q => ?_) ?_
  · refine ⟨_, rfl, _, rfl, ?_⟩
    refine ⟨_, rfl, rfl, _, strip_states, ?_⟩
    show items (.lst _) _
    rw [items_lst]
    refine ⟨by rw [List.length_map]; exact Nat.le_trans sl (by decide), ?_⟩
    refine compT_mapL stD (fun _ => true) stK (fun _ => .int 1) (fun s hs Kk Kn h1 h2 => ⟨_, rfl, h1 rfl⟩) (stK_nodup (statesL_nodup ok.ln)) (fun _ _ z => nomatch z) ?_
    rw [List.nil_append, List.filter_eq_self.mpr (fun _ _ => rfl)]
    exact ⟨rfl, r, e, h, colsL rows, onesT (wordsL (signsN r.n) h), by rw [← onesT_d]; rfl, ok, by omega, by unfold onesT; rw [List.length_map]; exact sl, ond, q⟩
  have lnd : (wordsL (signsN r.n) h).Nodup := ok.ln
  have l8 := ok.ll
  have hls : ∀ s ∈ statesL (wordsL (signsN r.n) h), (s.1.length = h ∧ s.2.length = h) := fun s hs => ⟨(wordsL_mem.mp (statesL_mem.mp hs).1).1, (wordsL_mem.mp (statesL_mem.mp hs).2).1⟩
  have hbe : ∀ s c, s ∈ statesL (wordsL (signsN r.n) h) → ∀ o ∈ behindL r e (wordsL (signsN r.n) h) s c, o ∈ statesL (wordsL (signsN r.n) h) := fun s c hs o ho => by
    unfold behindL at ho
    obtain ⟨t, ht, rfl⟩ := List.mem_map.mp ho
    exact statesL_mem.mpr ⟨(statesL_mem.mp hs).2, (List.mem_filter.mp ht).1⟩
  have bl : ∀ s c, (behindL r e (wordsL (signsN r.n) h) s c).length ≤ 8 := fun s c => by
    unfold behindL
    rw [List.length_map]
    exact Nat.le_trans (List.length_filter_le _ _) l8
  generalize hcs : colsL rows = cs at hx cl
  have hsum := tabs_sum (r := r) (e := e) lnd (cs := cs)
  have hnl : n < (foresL r e (wordsL (signsN r.n) h) cs).length := (List.getElem?_eq_some_iff.mp hx).1
  have hlook : ∀ {cs : Rows} {s : SState}, s ∈ statesL (wordsL (signsN r.n) h) → lookN ((tabsL r e (wordsL (signsN r.n) h) (onesT (wordsL (signsN r.n) h)) cs).headD []) s = (extsL r e (wordsL (signsN r.n) h) s cs).length := fun {cs s} hs => tabs_look lnd (fun s hs => onesT_look hs) hs
  generalize hlsE : wordsL (signsN r.n) h = ls at *
  refine tdSeq_asg (.int ((foresL r e ls cs).length : Nat)) (fun Q R q => ⟨_, rfl, _, tabs_at0, rfl, _, vals_tbl, by rw [sum_tbl, hsum]; exact q⟩) ?_
  refine tdSeq_if1 false (fun Q R q => tdTest_by false (fun Q R q => ⟨_, rfl, _, rfl, ?_⟩) q) (fun z => nomatch z) (fun _ => ?_)
  · show Q (.bl (decide (((foresL r e ls cs).length : Int) ≤ (n : Nat))))
    rw [decide_eq_false (by omega)]
    exact q
  have hsum2 : ((statesL ls).map (lookN ((tabsL r e ls (onesT ls) cs).headD []))).sum = (foresL r e ls cs).length := by
    unfold foresL
    rw [sum_flat]
    refine congrArg List.sum (List.map_congr_left fun s hs => ?_)
    rw [List.length_map]
    exact hlook hs
  have hst : (stripFs P w ad r e h).lookup (Str.ofString "states") = some (.lst ((statesL ls).map stD)) := by rw [← hlsE]; exact strip_states
  obtain ⟨g1, g2, g3⟩ := pick_get (T := (tabsL r e ls (onesT ls) cs).headD []) (d := ([], [])) (F := fun s => (extsL r e ls s cs).map fun x => s.1 :: s.2 :: x) (ss := statesL ls) (n := n) (fun s hs => by rw [List.length_map]; exact (hlook hs).symm) (by rw [hsum2]; exact hnl)
  have hx : ((statesL ls).flatMap fun s => (extsL r e ls s cs).map fun x => s.1 :: s.2 :: x)[n]? = some x := hx
  rw [g1, List.getElem?_map] at hx
  refine tdSeq_tup2 (stD (pickL ((tabsL r e ls (onesT ls) cs).headD []) ([], []) (statesL ls) n).1) (.int ((pickL ((tabsL r e ls (onesT ls) cs).headD []) ([], []) (statesL ls) n).2 : Nat)) (fun Q R q => ⟨_, rfl, rfl, _, hst, _, rfl, _, tabs_at0, _, rfl, rfl, statesL ls, _, n, rfl, by rw [hsum2]; exact hnl, by omega, q⟩) ?_
  generalize hpk : pickL ((tabsL r e ls (onesT ls) cs).headD []) ([], []) (statesL ls) n = pk at g2 g3 hx
  obtain ⟨s0, l0⟩ := pk
  dsimp only at g2 g3 hx ⊢
  obtain ⟨y0, hy0, ex0⟩ : ∃ y0, (extsL r e ls s0 cs)[l0]? = some y0 ∧ x = s0.1 :: s0.2 :: y0 := by
    cases hh : (extsL r e ls s0 cs)[l0]? with
    | none => rw [hh] at hx; cases hx
    | some y0 => rw [hh] at hx; cases hx; exact ⟨y0, rfl, rfl⟩
  refine tdSeq_setO (fun ds => ds = [sD s0.1, sD s0.2]) (fun Q R q => ⟨_, rfl, q _ rfl⟩) ?_
  rintro _ rfl
  refine tdSeq_cut (fun τ => ∃ z8 z9 z11 z12 : Option SD, τ = [some (.dat (r.d ad)), some (.dat (sD e)), some (.dat (rowsD rows)), some (.dat (.int n)), some (.dat (stripD P w ad r e h)), some (.dat (rowsD cs)), some (.dat (.lst ((tabsL r e ls (onesT ls) cs).map (tblD P w)))), some (.dat (.int ((foresL r e ls cs).length : Nat))), z8, z9, some (.own (x.map sD)), z11, z12] ∧ (∀ c ∈ x, c.length = h) ∧ x.length = cs.length + 2) (fun nx hnx => ?_) ?_
  · have lt : (tabsL r e ls (onesT ls) cs).length = cs.length + 1 := tabsL_len
    obtain ⟨a0, tl, etl⟩ : ∃ a0 tl, tabsL r e ls (onesT ls) cs = a0 :: tl := by
      cases hh : tabsL r e ls (onesT ls) cs with
      | nil => exact absurd hh tabsL_ne
      | cons a tl => exact ⟨a, tl, rfl⟩
    have ez : cs.zip tl = zipT r e ls (onesT ls) cs := by
      rw [← zipT_eq, etl]
      rfl
    refine ⟨_, rfl, _, rfl, ?_⟩
    rw [etl]
    refine ⟨_, _, rfl, rfl, ?_⟩
    rw [List.map_cons, cutD_tail, pairsD_map, ez]
    rw [← List.map_cons, ← etl]
    refine forD_mapL (fun p : List Nat × Tbl => D.tup [sD p.1, tblD P w p.2]) (fun pre τ => ∃ (s : SState) (l : Nat) (found post y : Rows) (z11 z12 : Option SD), τ = [some (.dat (r.d ad)), some (.dat (sD e)), some (.dat (rowsD rows)), some (.dat (.int n)), some (.dat (stripD P w ad r e h)), some (.dat (rowsD cs)), some (.dat (.lst ((tabsL r e ls (onesT ls) cs).map (tblD P w)))), some (.dat (.int ((foresL r e ls cs).length : Nat))), some (.dat (stD s)), some (.dat (.int l)), some (.own (found.map sD)), z11, z12] ∧
      s ∈ statesL ls ∧ zipT r e ls (onesT ls) cs = pre ++ zipT r e ls (onesT ls) post ∧ (extsL r e ls s post)[l]? = some y ∧ x = found ++ y ∧ (∀ c ∈ found, c.length = h) ∧ found.length = pre.length + 2) (zipT r e ls (onesT ls) cs) (gdPair_mono (i := 11) (j := 12)) ?_ ?_ [] _ _ rfl ⟨s0, l0, [s0.1, s0.2], cs, y0, _, _, rfl, g2, rfl, hy0, ex0, fun c hc => ?_, rfl⟩
    · rintro pre ⟨c1, T1⟩ post2 τ he ⟨s, l, found, post, y, z11, z12, rfl, hs, hz, hy, hxe, hfl, hfn⟩
      have hz2 : (c1, T1) :: post2 = zipT r e ls (onesT ls) post := List.append_cancel_left (he.symm.trans hz)
      obtain ⟨c, post', rfl⟩ : ∃ c post', post = c :: post' := by
        cases post with
        | nil => cases hz2
        | cons c post' => exact ⟨c, post', rfl⟩
      have hz3 : (c1, T1) :: post2 = (c, (tabsL r e ls (onesT ls) post').headD []) :: zipT r e ls (onesT ls) post' := hz2
      injection hz3 with hz4 hz5
      injection hz4 with hz6 hz7
      subst hz6 hz7 hz5
      have hy2 : ((behindL r e ls s c1).flatMap fun o => (extsL r e ls o post').map fun x => o.2 :: x)[l]? = some y := hy
      have hbs := hbe s c1 hs
      have hF : ∀ o ∈ behindL r e ls s c1, ((extsL r e ls o post').map fun x => o.2 :: x).length = lookN ((tabsL r e ls (onesT ls) post').headD []) o := fun o ho => by
        rw [List.length_map]
        exact (hlook (hbs o ho)).symm
      have hlt : l < ((behindL r e ls s c1).map (lookN ((tabsL r e ls (onesT ls) post').headD []))).sum := by
        have h1 := (List.getElem?_eq_some_iff.mp hy2).1
        rw [sum_flat, List.map_congr_left hF] at h1
        exact h1
      obtain ⟨k1, k2, k3⟩ := pick_get (d := ([], [])) hF hlt
      rw [k1, List.getElem?_map] at hy2
      refine ⟨rfl, rfl, fun nx2 hnx2 => ?_⟩
      refine tdSeq_tup2 (stD (pickL ((tabsL r e ls (onesT ls) post').headD []) ([], []) (behindL r e ls s c1) l).1) (.int ((pickL ((tabsL r e ls (onesT ls) post').headD []) ([], []) (behindL r e ls s c1) l).2 : Nat)) (fun Q R q => ⟨_, rfl, rfl, rfl, _, rfl, _, rfl, rfl, r, e, h, s, c1, rfl, ok, by rw [hlsE]; exact hs, ?_⟩) ?_
      · rw [hlsE]
        exact ⟨_, rfl, _, rfl, rfl, behindL r e ls s c1, _, l, rfl, hlt, Nat.le_trans (bl s c1) (by decide), q⟩
      generalize pickL ((tabsL r e ls (onesT ls) post').headD []) ([], []) (behindL r e ls s c1) l = pk at k2 k3 hy2
      obtain ⟨o, l'⟩ := pk
      dsimp only at k2 k3 hy2 ⊢
      obtain ⟨y', hy', ey⟩ : ∃ y', (extsL r e ls o post')[l']? = some y' ∧ y = o.2 :: y' := by
        cases hh : (extsL r e ls o post')[l']? with
        | none => rw [hh] at hy2; cases hy2
        | some y' => rw [hh] at hy2; cases hy2; exact ⟨y', rfl, rfl⟩
      have ho := hbs o k2
      have plen : pre.length ≤ 1000 := by
        have h1 := congrArg List.length he
        have h2 : (zipT r e ls (onesT ls) cs).length = cs.length := by
          rw [← zipT_eq, List.length_zip, etl]
          have := congrArg List.length etl
          rw [lt] at this
          show min cs.length tl.length = _
          have h3 : (a0 :: tl).length = tl.length + 1 := rfl
          omega
        rw [h2, List.length_append] at h1
        omega
      refine ⟨_, rfl, by rw [List.length_map, hfn]; exact Nat.lt_of_le_of_lt (show pre.length + 2 ≤ 1002 by omega) (by decide), _, rfl, ⟨_, rfl, hnx2 _ ⟨o, l', found ++ [o.2], post', y', some (.dat (sD c1)), some (.dat (tblD P w ((tabsL r e ls (onesT ls) post').headD []))), by rw [List.map_append]; rfl, ho, by rw [he, List.append_assoc]; rfl, hy', by rw [hxe, ey, List.append_assoc]; rfl, fun c hc => ?_, by rw [List.length_append, List.length_append, hfn]; rfl⟩⟩⟩
      rcases List.mem_append.mp hc with hc | hc
      · exact hfl c hc
      · rw [List.mem_singleton.mp hc]
        exact (hls o ho).2
    · rintro τ ⟨s, l, found, post, y, z11, z12, rfl, hs, hz, hy, hxe, hfl, hfn⟩
      have hz : zipT r e ls (onesT ls) cs ++ [] = zipT r e ls (onesT ls) cs ++ zipT r e ls (onesT ls) post := by rw [List.append_nil]; exact hz
      have hz := List.append_cancel_left hz
      obtain rfl : post = [] := by
        cases post with
        | nil => rfl
        | cons c p => cases hz
      have hy : ([[]] : List Rows)[l]? = some y := hy
      obtain rfl : y = [] := by
        cases l with
        | zero => cases hy; rfl
        | succ l => cases hy
      rw [List.append_nil] at hxe
      have h2 : (zipT r e ls (onesT ls) cs).length = cs.length := by
        rw [← zipT_eq, List.length_zip, etl]
        have := congrArg List.length etl
        rw [lt] at this
        show min cs.length tl.length = _
        have h3 : (a0 :: tl).length = tl.length + 1 := rfl
        omega
      exact hnx _ ⟨_, _, z11, z12, by rw [hxe], by rw [hxe]; exact hfl, by rw [hxe, hfn, h2]⟩
    · simp only [List.mem_cons, List.not_mem_nil, or_false] at hc
      rcases hc with rfl | rfl
      · exact (hls s0 g2).1
      · exact (hls s0 g2).2
  rintro _ ⟨z8, z9, z11, z12, rfl, hxl, hxn⟩
  refine ⟨_, rfl, _, rfl, ?_⟩
  simp only [tdNil]
  rw [show rowsD rows = .lst (rows.map sD) from rfl, fLen_lst, List.length_map, pc.len]
  exact ⟨rfl, x, h, rfl, hxl, b1, by omega, hq⟩
def t_Loff : TF := fun W ds Q _ => ∃ (p : List Nat), ds = [sD p] ∧ p ∈ placesL ∧ Q (ptD (offZ p))
theorem ok_Loff (T : Txt w K mg ad fd) : FnG P w K mg base CX0 1 (ad 57) (fd 57) p_Loff (spD K 1 t_Loff) := by
  refine okD T.h_Loff.F sc_Loff (fun cdv A outer s H E hr => ⟨_, _, fun W => (dss_cons (ds_setX (i := 1) sc_Loff.nd (dx_disp (dps_cons (de_tup (da_cons de_int (da_cons (de_neg de_int) da_nil))) (dps_cons (de_tup (da_cons de_int (da_cons (de_neg de_int) da_nil))) (dps_cons (de_tup (da_cons de_int (da_cons de_int da_nil))) (dps_cons (de_tup (da_cons de_int (da_cons de_int da_nil))) (dps_cons (de_tup (da_cons de_int (da_cons de_int da_nil))) dps_nil)))))))
      (dss_cons (ds_kupd 1 (dx_disp (dps_cons (de_tup (da_cons (de_neg de_int) (da_cons de_int da_nil))) (dps_cons (de_tup (da_cons (de_neg de_int) (da_cons de_int da_nil))) dps_nil))))
      (dss_one (ds_ret (de_dget2 hr.units (dv 1) (dv 0) (de_tup (da_cons (de_neg de_int) (da_cons (de_neg de_int) da_nil)))))))), fun W ds Q hl ht => ?_⟩) (fun _ _ _ _ h => h)
  obtain ⟨p, rfl, hp, hq⟩ := ht
  refine tdSeq_setX (fun s => s = .dk (kvD [Str.ofString "n", Str.ofString "ne", Str.ofString "e", Str.ofString "se", Str.ofString "s"] [ptD (0, -1), ptD (1, -1), ptD (1, 0), ptD (1, 1), ptD (0, 1)])) (fun Q R q => ⟨by show 2 ≤ sizeLine; decide, by show 2 ≤ sizeLine; decide, by show 2 ≤ sizeLine; decide, by show 2 ≤ sizeLine; decide, by show 2 ≤ sizeLine; decide, by decide +kernel, by decide, q _ rfl⟩) ?_
  rintro _ rfl
  refine ⟨_, rfl, by show 2 ≤ sizeLine; decide, by show 2 ≤ sizeLine; decide, by decide +kernel, by decide, _, rfl, by show 7 ≤ sizeLine; decide, ?_⟩
  refine ⟨_, rfl, ?_⟩
  simp only [placesL, List.mem_cons, List.not_mem_nil, or_false] at hp
  rcases hp with rfl | rfl | rfl | rfl | rfl | rfl | rfl | rfl <;> exact ⟨_, rfl, by show 2 ≤ sizeLine; decide, hq⟩
/-- an edge, or none -/
def edgeD (e : List Nat) : D := if e = [] then .non else sD e
def t_Lmiddle : TF := fun W ds Q _ => ∃ (r : RU) (e one two three : List Nat) (h : Nat), ds = [r.parts, edgeD e, .tup [sD one, sD two, sD three]] ∧ RUOk r ∧ r.s = Str.ofString "around" ∧ e.length ≤ 1 ∧ (e = [] → h = 1) ∧ 1 ≤ h ∧ h ≤ 64 ∧ one.length = h ∧ two.length = h ∧ three.length = h ∧ Q (sD (madeL r e one two three))
theorem mid_sign {e col : List Nat} {h k : Nat} {d : Int} (hd : -1 ≤ d ∧ d ≤ 1) (hk : k < h) (hl : col.length = h) (he : e.length ≤ 1) (he1 : e = [] → h = 1) :
    ∃ (c j : Nat), (k : Int) + d + 1 = (j : Nat) ∧ signIn e col ((k : Int) + d) = [c] ∧ ((if e = [] then col else e) ++ col ++ (if e = [] then col else e))[j]? = some c := by
  have g0 : ∀ i, i < h → col[i]? = some (col.getD i 0) := fun i hi => by
    rw [List.getD_eq_getElem?_getD, List.getElem?_eq_getElem (by omega)]
    rfl
  suffices hh : ∃ c, signIn e col ((k : Int) + d) = [c] ∧ ((if e = [] then col else e) ++ col ++ (if e = [] then col else e))[((k : Int) + d + 1).toNat]? = some c by
    obtain ⟨c, h1, h2⟩ := hh
    exact ⟨c, _, by omega, h1, h2⟩
  match e, he, he1 with
  | [], _, he1 =>
    have h1 := he1 rfl
    subst h1
    obtain ⟨a, rfl⟩ : ∃ a, col = [a] := by
      match col, hl with
      | [a], _ => exact ⟨a, rfl⟩
    obtain rfl : k = 0 := by omega
    rw [if_pos rfl]
    have e1 : signIn [] [a] (((0 : Nat) : Int) + d) = [a] := by
      unfold signIn
      split
      · rename_i z
        have : ((((0 : Nat) : Int) + d)).toNat = 0 := by
          have := z.2
          simp at this
          omega
        rw [this]
        rfl
      · rw [if_pos rfl]
        rfl
    refine ⟨a, e1, ?_⟩
    have : (((0 : Nat) : Int) + d + 1).toNat = 0 ∨ (((0 : Nat) : Int) + d + 1).toNat = 1 ∨ (((0 : Nat) : Int) + d + 1).toNat = 2 := by omega
    rcases this with t | t | t <;> rw [t] <;> rfl
  | [c], _, _ =>
    rw [if_neg (by intro z; cases z)]
    by_cases hin : 0 ≤ (k : Int) + d ∧ (k : Int) + d < (col.length : Nat)
    · obtain ⟨i, hi⟩ : ∃ i : Nat, (k : Int) + d = i := ⟨((k : Int) + d).toNat, by omega⟩
      have hi2 : i < h := by omega
      unfold signIn
      rw [if_pos hin, hi]
      refine ⟨_, rfl, ?_⟩
      rw [show ((i : Int) + 1).toNat = i + 1 by omega, Int.toNat_natCast]
      show (c :: (col ++ [c]))[i + 1]? = _
      rw [List.getElem?_cons_succ, List.getElem?_append_left (by omega)]
      exact g0 i hi2
    · unfold signIn
      rw [if_neg hin, if_neg (by intro z; cases z)]
      refine ⟨c, rfl, ?_⟩
      have : ((k : Int) + d + 1).toNat = 0 ∨ ((k : Int) + d + 1).toNat = col.length + 1 := by omega
      rcases this with t | t <;> rw [t]
      · rfl
      · show (c :: (col ++ [c]))[col.length + 1]? = _
        rw [List.getElem?_cons_succ, List.getElem?_append_right (Nat.le_refl _), Nat.sub_self]
        rfl
  | _ :: _ :: _, he, _ => exact absurd he (by simp)
theorem ok_Lmiddle (T : Txt w K mg ad fd) : FnG P w K mg base CX0 3 (ad 58) (fd 58) p_Lmiddle (spD K 3 t_Lmiddle) := by
  have G_Lbecomes := ok_Lbecomes (P := P) (w := w) (base := base) T
  have G_Loff := ok_Loff (P := P) (w := w) (base := base) T
  refine okD T.h_Lmiddle.F sc_Lmiddle (fun cdv A outer s H E hr => ⟨_, _, fun W => (dss_cons (ds_set (i := 3) sc_Lmiddle.nd de_str)
      (dss_cons (ds_for PassesOwn.never rfl (di_range1 rfl T.m_range (da_cons (de_len T.m_len (da_cons (de_ix (dv 2) de_int) da_nil)) da_nil)) (dg_name (i := 4) sc_Lmiddle.nd) (dss_cons (ds_set (i := 5) sc_Lmiddle.nd de_str)
      (dss_cons (ds_for PassesOwn.never rfl (di_any (de_ix (dv 0) de_int)) (dg_name (i := 6) sc_Lmiddle.nd) (dss_cons (ds_asg (de_call G_Loff (hr.mono (by decide)) T.h_Loff.g T.h_Loff.k T.h_Loff.b pass0 (da_cons (dv 6) da_nil)) (dg_tup rfl (dgs_cons (dg_name (i := 7) sc_Lmiddle.nd) (dgs_cons (dg_name (i := 8) sc_Lmiddle.nd) dgs_nil))))
      (dss_cons (ds_set (i := 9) sc_Lmiddle.nd (de_ix (dv 2) (de_add de_int (dv 7))))
      (dss_cons (ds_set (i := 10) sc_Lmiddle.nd (de_ix (DO.e (do_lst (da_cons (dv 1) (da_cons (dv 9) da_nil)))) (de_toint T.m_int (da_cons (de_isN (dv 1)) da_nil))))
      (dss_one (ds_set (i := 5) sc_Lmiddle.nd (de_add (dv 5) (de_ix (de_add (de_add (dv 10) (dv 9)) (dv 10)) (de_add (de_add (dv 4) (dv 8)) de_int)))))))))
      (dss_one (ds_set (i := 3) sc_Lmiddle.nd (de_add (dv 3) (de_call G_Lbecomes (hr.mono (by decide)) T.h_Lbecomes.g T.h_Lbecomes.k T.h_Lbecomes.b pass0 (da_cons (dv 0) (da_cons (de_ix (de_ix (dv 2) de_int) (dv 4)) (da_cons (dv 5) da_nil))))))))))
      (dss_one (ds_ret (dv 3))))), fun W ds Q hl ht => ?_⟩) (fun _ _ _ _ h => h)
  obtain ⟨r, e, one, two, three, h, rfl, g, hs, he, he1, h1, h64, l1, l2, l3, hq⟩ := ht
  have nb : r.s ≠ Str.ofString "blocks" := by rw [hs]; exact sorts_ne.2.1
  have le := g.le
  have nle := g.nr.le
  have ep : r.parts = partsOf r.s r.n r.near (r.cr.map crowD) := by unfold RU.parts; rw [g.rc nb]
  have cl : ∀ b : Int, (colAt one two three b).length = h := fun b => by
    unfold colAt
    split
    · exact l1
    · split
      · exact l2
      · exact l3
  have nl : ∀ q ∈ r.near, ((offZ q).1 = -1 ∨ (offZ q).1 = 0 ∨ (offZ q).1 = 1) ∧ (-1 ≤ (offZ q).2 ∧ (offZ q).2 ≤ 1) := fun q hq => by
    have all : ∀ q ∈ placesL, ((offZ q).1 = -1 ∨ (offZ q).1 = 0 ∨ (offZ q).1 = 1) ∧ (-1 ≤ (offZ q).2 ∧ (offZ q).2 ≤ 1) := by decide +kernel
    exact all q (g.nr.of q hq)
  rw [empty_eq2]
  refine tdSeq_asg (sD []) (fun Q R q => q) ?_
  refine tdSeq_cut (fun τ => ∃ z4 z5 z6 z7 z8 z9 z10 : Option SD, τ = [some (.dat r.parts), some (.dat (edgeD e)), some (.dat (.tup [sD one, sD two, sD three])), some (.dat (sD (madeL r e one two three))), z4, z5, z6, z7, z8, z9, z10]) (fun nx hnx => ?_) ?_
  · refine ⟨_, rfl, _, atI_of (k := 1) rfl, ?_⟩
    simp only [tdNil, fLen_str, mk_length]
    refine ⟨Nat.le_trans (show two.length ≤ 64 by omega) (by decide), ?_⟩
    rw [rng1_int]
    refine ⟨by omega, by omega, ?_⟩
    rw [Int.toNat_natCast]
    refine forD_count (fun k τ => ∃ z4 z5 z6 z7 z8 z9 z10 : Option SD, τ = [some (.dat r.parts), some (.dat (edgeD e)), some (.dat (.tup [sD one, sD two, sD three])), some (.dat (sD ((List.range k).flatMap (cellL r e one two three)))), z4, z5, z6, z7, z8, z9, z10]) two.length ⟨_, _, _, _, _, _, _, rfl⟩ ?_ (fun τ h => hnx τ h)
    rintro k hk τ ⟨z4, z5, z6, z7, z8, z9, z10, rfl⟩ nx2 hnx2
    have hkh : k < h := by omega
    refine tdSeq_asg (sD []) (fun Q R q => q) ?_
    refine tdSeq_cut (fun τ => ∃ z6 z7 z8 z9 z10 : Option SD, τ = [some (.dat r.parts), some (.dat (edgeD e)), some (.dat (.tup [sD one, sD two, sD three])), some (.dat (sD ((List.range k).flatMap (cellL r e one two three)))), some (.dat (.int (k : Nat))), some (.dat (sD (aroundL r.near e one two three k))), z6, z7, z8, z9, z10]) (fun nx3 hnx3 => ?_) ?_
    · refine ⟨_, rfl, _, atI_2 _ _ _ _, ?_⟩
      show items (.tup (r.near.map sD)) _
      rw [items_tup]
      refine forD_mapL sD (fun pre τ => ∃ z6 z7 z8 z9 z10 : Option SD, τ = [some (.dat r.parts), some (.dat (edgeD e)), some (.dat (.tup [sD one, sD two, sD three])), some (.dat (sD ((List.range k).flatMap (cellL r e one two three)))), some (.dat (.int (k : Nat))), some (.dat (sD (aroundL pre e one two three k))), z6, z7, z8, z9, z10]) r.near gdName_mono ?_ (fun τ h => hnx3 τ h) [] _ _ rfl ⟨_, _, _, _, _, rfl⟩
      rintro pre q post τ heq ⟨z6, z7, z8, z9, z10, rfl⟩ nx4 hnx4
      have hqm : q ∈ r.near := heq ▸ List.mem_append_right _ List.mem_cons_self
      have pl : pre.length ≤ 8 := by
        have := congrArg List.length heq
        rw [List.length_append] at this
        omega
      obtain ⟨hb, hd⟩ := nl q hqm
      obtain ⟨c, j, ej, esg, eat⟩ := mid_sign (e := e) (col := colAt one two three (offZ q).1) (d := (offZ q).2) hd hkh (cl _) he he1
      have lar : (aroundL pre e one two three k).length = pre.length := flat_one fun p hp => by
        obtain ⟨c', _, _, h2, _⟩ := mid_sign (e := e) (col := colAt one two three (offZ p).1) (d := (offZ p).2) (nl p (heq ▸ List.mem_append_left _ hp)).2 hkh (cl _) he he1
        rw [h2]
        rfl
      refine tdSeq_tup2 (.int (offZ q).1) (.int (offZ q).2) (fun Q R qq => ⟨_, rfl, rfl, q, rfl, g.nr.of q hqm, qq⟩) ?_
      refine tdSeq_asg (sD (colAt one two three (offZ q).1)) (fun Q R qq => ⟨_, rfl, _, rfl, ?_⟩) ?_
      · rcases hb with t | t | t <;> rw [t] at qq ⊢ <;> exact ⟨_, rfl, qq⟩
      refine tdSeq_asg (sD (if e = [] then colAt one two three (offZ q).1 else e)) (fun Q R qq => ⟨_, rfl, _, rfl, by show 2 ≤ sizeLine; decide, _, rfl, ?_⟩) ?_
      · simp only [tdC, tdNil]
        rw [fIsN_non]
        unfold edgeD
        by_cases hem : e = []
        · rw [if_pos hem]
          rw [if_pos hem] at qq
          exact ⟨_, rfl, qq⟩
        · rw [if_neg hem]
          rw [if_neg hem] at qq
          exact ⟨_, rfl, qq⟩
      generalize hbe : (if e = [] then colAt one two three (offZ q).1 else e) = bey at eat
      have lbe : bey.length ≤ 64 := by
        rw [← hbe]
        split
        · rw [cl]; exact h64
        · omega
      have lco := cl (offZ q).1
      generalize hcol : colAt one two three (offZ q).1 = col at *
      refine ⟨_, rfl, ⟨_, rfl, _, rfl, ?_⟩⟩
      refine ⟨by show (mk bey).length + (mk col).length ≤ 16777216; rw [mk_length, mk_length]; omega, _, rfl, ?_⟩
      rw [app_mk]
      refine ⟨by show (mk (bey ++ col)).length + (mk bey).length ≤ 16777216; rw [mk_length, mk_length, List.length_append]; omega, ?_⟩
      rw [app_mk]
      refine ⟨_, rfl, _, rfl, ?_⟩
      simp only [tdC, fAdd_int]
      rw [ej]
      refine fIx_sign (by rw [List.length_append, List.length_append]; omega) eat ?_
      refine ⟨by show (mk (aroundL pre e one two three k)).length + (mk [c]).length ≤ 16777216; rw [mk_length, mk_length, lar]; show pre.length + 1 ≤ _; omega, ?_⟩
      rw [app_mk]
      refine hnx4 _ ⟨some (.dat (sD q)), some (.dat (.int (offZ q).1)), some (.dat (.int (offZ q).2)), some (.dat (sD col)), some (.dat (sD bey)), ?_⟩
      have ea : aroundL (pre ++ [q]) e one two three k = aroundL pre e one two three k ++ [c] := by
        unfold aroundL
        rw [List.flatMap_append, List.flatMap_cons, List.flatMap_nil, List.append_nil]
        rw [hcol, esg]
      rw [ea]
      rfl
    rintro _ ⟨z6, z7, z8, z9, z10, rfl⟩
    have lar : (aroundL r.near e one two three k).length = r.near.length := flat_one fun p hp => by
      obtain ⟨c', _, _, h2, _⟩ := mid_sign (e := e) (col := colAt one two three (offZ p).1) (d := (offZ p).2) (nl p hp).2 hkh (cl _) he he1
      rw [h2]
      rfl
    have cell1 : ∀ y, ∃ c, cellL r e one two three y = [c] := fun y => by
      obtain ⟨c, hc, _⟩ := fateC_one (near := r.near) (ar := aroundL r.near e one two three y) (c := two.getD y 0) (rows := r.cr)
      exact ⟨c, hc⟩
    have lk : ((List.range k).flatMap (cellL r e one two three)).length = k := by
      have := flat_one (l := List.range k) (f := cellL r e one two three) fun y _ => by
        obtain ⟨c, hc⟩ := cell1 y
        rw [hc]
        rfl
      rw [this, List.length_range]
    obtain ⟨c1, hc1⟩ := cell1 k
    have at2 : two[k]? = some (two.getD k 0) := by
      rw [List.getD_eq_getElem?_getD, List.getElem?_eq_getElem hk]
      rfl
    refine ⟨_, rfl, _, rfl, _, rfl, _, atI_of (k := 1) rfl, _, rfl, fIx_sign (by omega) at2 ?_⟩
    refine ⟨_, rfl, rfl, r.s, r.n, r.near, r.cr, [two.getD k 0], aroundL r.near e one two three k, signsN r.n, by rw [← ep], lar, nle, by omega, g.cok, ?_⟩
    rw [show fateC r.near (aroundL r.near e one two three k) [two.getD k 0] r.cr = [c1] from hc1]
    refine ⟨by show (mk _).length + (mk [c1]).length ≤ 16777216; rw [mk_length, mk_length, lk]; show k + 1 ≤ _; omega, ?_⟩
    rw [app_mk]
    refine hnx2 _ ⟨some (.dat (.int (k : Nat))), some (.dat (sD (aroundL r.near e one two three k))), z6, z7, z8, z9, z10, ?_⟩
    rw [List.range_succ, List.flatMap_append, List.flatMap_cons, List.flatMap_nil, List.append_nil, hc1]
    rfl
  rintro _ ⟨z4, z5, z6, z7, z8, z9, z10, rfl⟩
  exact ⟨_, rfl, hq⟩
def t_Lletters : TF := fun W ds Q _ => ∃ (S : List Nat) (h : Nat), ds = [sD S, .int h] ∧ 2 ≤ S.length ∧ S.length ≤ 27 ∧ h ≤ 64 ∧ S.length ^ h ≤ 64 ∧ Q (.lst ((wordsL S h).map sD))
theorem ok_Lletters (T : Txt w K mg ad fd) : FnG P w K mg base CX0 1 (ad 59) (fd 59) p_Lletters (spD K 2 t_Lletters) := by
  refine okD T.h_Lletters.F sc_Lletters (fun cdv A outer s H E hr => ⟨_, _, fun W => (dss_cons (ds_set (i := 2) sc_Lletters.nd (DO.e (do_lst (da_cons de_str da_nil))))
      (dss_cons (ds_for PassesOwn.never rfl (di_range1 rfl T.m_range (da_cons (dv 1) da_nil)) (dg_name (i := 3) sc_Lletters.nd) (dss_cons (ds_setO (i := 4) sc_Lletters.nd (do_lst da_nil))
      (dss_cons (ds_for PassesOwn.never rfl (di_any (dv 2)) (dg_name (i := 5) sc_Lletters.nd) (dss_one (ds_ext 4 (do_lc rfl sc_Lletters.nd (di_any (dv 0)) (blkOk_by (own := [("_law_sign", 6)]) (N := n_Lletters) (by kernel_rfl)) (fun _ _ _ _ _ => (dg_name (i := 6) sc_Lletters.nd)) (fun _ _ _ _ _ => dts_nil) (fun _ _ _ _ _ => (de_add (dv 5) (dv 6)))))))
      (dss_one (DS.freeze (ds_set (i := 2) sc_Lletters.nd (dv 4)))))))
      (dss_one (ds_ret (dv 2))))), fun W ds Q hl ht => ?_⟩) (fun _ _ _ _ h => h)
  obtain ⟨S, h, rfl, hS2, hS, h64, hf, hq⟩ := ht
  have pw : ∀ {k : Nat}, k ≤ h → S.length ^ k ≤ 64 := fun {k} hk => Nat.le_trans (Nat.pow_le_pow_right (by omega) hk) hf
  rw [empty_eq2]
  refine tdSeq_asg (.lst [sD []]) (fun Q R q => ⟨by show 1 ≤ sizeLine; decide, q⟩) ?_
  refine tdSeq_cut (fun τ => ∃ z3 z4 z5 : Option SD, τ = [some (.dat (sD S)), some (.dat (.int h)), some (.dat (.lst ((wordsL S h).map sD))), z3, z4, z5, none]) (fun nx hnx => ?_) ?_
  · refine ⟨_, rfl, ?_⟩
    simp only [tdNil, rng1_int]
    refine ⟨by omega, by omega, ?_⟩
    rw [Int.toNat_natCast]
    refine forD_count (fun k τ => ∃ z3 z4 z5 : Option SD, τ = [some (.dat (sD S)), some (.dat (.int h)), some (.dat (.lst ((wordsL S k).map sD))), z3, z4, z5, none]) h ⟨_, _, _, rfl⟩ ?_ (fun τ h => hnx τ h)
    rintro k hk τ ⟨z3, z4, z5, rfl⟩ nx2 hnx2
    have b1 := pw (k := k) (by omega)
    have b2 := pw (k := k + 1) (by omega)
    have eS : S.length ^ (k + 1) = S.length ^ k * S.length := Nat.pow_succ ..
    refine tdSeq_setO (fun ds => ds = []) (fun Q R q => ⟨by show 0 ≤ sizeLine; decide, q _ rfl⟩) ?_
    rintro _ rfl
    refine tdSeq_cut (fun τ => ∃ z5 : Option SD, τ = [some (.dat (sD S)), some (.dat (.int h)), some (.dat (.lst ((wordsL S k).map sD))), some (.dat (.int (k : Nat))), some (.own ((wordsL S (k + 1)).map sD)), z5, none]) (fun nx3 hnx3 => ?_) ?_
    · refine ⟨_, rfl, ?_⟩
      show items (.lst ((wordsL S k).map sD)) _
      rw [items_lst]
      refine forD_mapL sD (fun pre τ => ∃ z5 : Option SD, τ = [some (.dat (sD S)), some (.dat (.int h)), some (.dat (.lst ((wordsL S k).map sD))), some (.dat (.int (k : Nat))), some (.own ((pre.flatMap fun w => S.map fun c => w ++ [c]).map sD)), z5, none]) (wordsL S k) gdName_mono ?_ (fun τ h => hnx3 τ h) [] _ _ rfl ⟨_, rfl⟩
      rintro pre t post τ he ⟨z5, rfl⟩ nx4 hnx4
      have ht : t ∈ wordsL S k := he ▸ List.mem_append_right _ List.mem_cons_self
      have htl := (wordsL_mem.mp ht).1
      have pl : (pre.length + 1) * S.length ≤ 64 := by
        have h1 := congrArg List.length he
        rw [wordsL_count, List.length_append, List.length_cons] at h1
        have h2 : pre.length + 1 ≤ S.length ^ k := by omega
        exact Nat.le_trans (Nat.mul_le_mul_right _ h2) (by omega)
      have fl : (pre.flatMap fun w => S.map fun c => w ++ [c]).length = pre.length * S.length := by
        rw [List.length_flatMap]
        have : (pre.map fun w => (S.map fun c => w ++ [c]).length) = pre.map fun _ => S.length := List.map_congr_left fun w _ => List.length_map _
        rw [this, List.map_const', List.sum_replicate_nat]
      refine ⟨_, rfl, _, rfl, ?_⟩
      show items (sD S) _
      rw [items_str, signs_mk]
      refine ⟨by rw [List.length_map]; exact Nat.le_trans hS (by decide), ?_⟩
      refine compD_mapL (fun c => sD [c]) (fun c => sD (t ++ [c])) (fun c hc Kk hk => ⟨_, rfl, _, rfl, ?_⟩) ?_
      · show (mk t).length + (mk [c]).length ≤ sizeLine ∧ Kk (.str (mk t ++ mk [c]))
        rw [mk_length, mk_length, app_mk]
        exact ⟨Nat.le_trans (show t.length + 1 ≤ 65 by omega) (by decide), hk⟩
      · refine ⟨?_, hnx4 _ ⟨some (.dat (sD t)), ?_⟩⟩
        · rw [List.length_map, List.length_map, fl]
          rw [Nat.succ_mul] at pl
          exact Nat.le_trans pl (by decide)
        · rw [List.flatMap_append, List.flatMap_cons, List.flatMap_nil, List.append_nil, List.map_append, List.map_map]
          rfl
    rintro _ ⟨z5, rfl⟩
    exact ⟨_, rfl, hnx2 _ ⟨_, _, _, rfl⟩⟩
  rintro _ ⟨z3, z4, z5, rfl⟩
  exact ⟨_, rfl, hq⟩
def t_Lcolumns : TFO := t_columns_of
theorem ok_Lcolumns (T : Txt w K mg ad fd) : FnG P w K mg base CX0 1 (ad 60) (fd 60) p_Lcolumns (spO K 1 t_Lcolumns) := by
  refine okO T.h_Lcolumns.F sc_Lcolumns (fun cdv A outer s H E hr => ⟨_, _, fun W => (dss_one (ds_retO (do_lc rfl sc_Lcolumns.nd (di_range1 rfl T.m_range (da_cons (de_len T.m_len (da_cons (de_ix (dv 0) de_int) da_nil)) da_nil)) (blkOk_by (own := [("_law_at", 1)]) (N := n_Lcolumns) (by kernel_rfl)) (fun _ _ _ _ _ => (dg_name (i := 1) sc_Lcolumns.nd)) (fun _ _ _ _ _ => dts_nil) (fun _ _ _ _ _ => (de_join de_str (DO.e (do_lc rfl sc_Lcolumns.nd (di_any (dv 0)) (blkOk_by (own := [("_law_row_here", 2)]) (N := n_Lcolumns) (by kernel_rfl)) (fun _ _ _ _ _ => (dg_name (i := 2) sc_Lcolumns.nd)) (fun _ _ _ _ _ => dts_nil) (fun _ _ _ _ _ => (de_ix (dv 2) (dv 1)))))))))), fun W ds Q hl ht => ?_⟩) (fun _ _ _ _ h => h)
  obtain ⟨n, h, wd, rows, rfl, ok, hq⟩ := ht
  have h1 := ok.h1
  have hl2 := ok.len
  obtain ⟨b1, b2⟩ := ok.hw
  obtain ⟨r0, rs, rfl⟩ : ∃ r0 rs, rows = r0 :: rs := by
    cases rows with
    | nil => exact absurd hl2 (by show ¬ 0 = h; omega)
    | cons r0 rs => exact ⟨r0, rs, rfl⟩
  have w0 : r0.length = wd := ok.wide r0 List.mem_cons_self
  refine ⟨_, rfl, fIx_row (j := 0) (r := r0) rfl ?_⟩
  simp only [tdNil, fLen_str, mk_length]
  refine ⟨Nat.le_trans (show r0.length ≤ 1000 by omega) (by decide), ?_⟩
  rw [rng1_int]
  refine ⟨by omega, by omega, by rw [numsD_length]; exact Nat.le_trans (show ((r0.length : Nat) : Int).toNat ≤ 1000 by omega) (by decide), ?_⟩
  rw [Int.toNat_natCast, numsD_eq]
  refine compD_mapL _ (fun i => sD ((r0 :: rs).flatMap fun r => [r.getD i 0])) (fun i hi Kk hk => ?_) ?_
  · have hi := List.mem_range.mp hi
    rw [Int.zero_add, empty_eq2]
    refine ⟨_, rfl, ?_⟩
    show items (.lst ((r0 :: rs).map sD)) _
    rw [items_lst]
    refine ⟨by rw [List.length_map]; exact Nat.le_trans (show (r0 :: rs).length ≤ 64 by omega) (by decide), ?_⟩
    refine compD_mapL sD (fun r => sD [r.getD i 0]) (fun r hr Kk hk => ⟨_, rfl, _, rfl, ?_⟩) (fJoin_ones _ _ (Nat.le_trans (show (r0 :: rs).length ≤ 64 by omega) (by decide)) hk)
    have hrl : r.length = wd := ok.wide r hr
    exact fIx_sign (Nat.le_trans (show r.length ≤ 1000 by omega) (by decide)) (by rw [List.getD_eq_getElem?_getD, List.getElem?_eq_getElem (by omega)]; rfl) hk
  · unfold colsL at hq
    rw [List.map_map] at hq
    exact hq
def t_Lrows : TFO := t_rows_of
theorem ok_Lrows (T : Txt w K mg ad fd) : FnG P w K mg base CX0 1 (ad 61) (fd 61) p_Lrows (spO K 2 t_Lrows) := by
  refine okO T.h_Lrows.F sc_Lrows (fun cdv A outer s H E hr => ⟨_, _, fun W => (dss_one (ds_retO (do_lc rfl sc_Lrows.nd (di_range1 rfl T.m_range (da_cons (dv 1) da_nil)) (blkOk_by (own := [("_law_y", 2)]) (N := n_Lrows) (by kernel_rfl)) (fun _ _ _ _ _ => (dg_name (i := 2) sc_Lrows.nd)) (fun _ _ _ _ _ => dts_nil) (fun _ _ _ _ _ => (de_join de_str (DO.e (do_lc rfl sc_Lrows.nd (di_any (dv 0)) (blkOk_by (own := [("_law_column", 3)]) (N := n_Lrows) (by kernel_rfl)) (fun _ _ _ _ _ => (dg_name (i := 3) sc_Lrows.nd)) (fun _ _ _ _ _ => dts_nil) (fun _ _ _ _ _ => (de_ix (dv 3) (dv 2)))))))))), fun W ds Q hl ht => ?_⟩) (fun _ _ _ _ h => h)
  obtain ⟨cols, h, rfl, hc, hh, hl, hq⟩ := ht
  refine ⟨_, rfl, ?_⟩
  simp only [tdNil]
  rw [rng1_int]
  refine ⟨by omega, by omega, by rw [numsD_length]; exact Nat.le_trans (show ((h : Nat) : Int).toNat ≤ 64 by omega) (by decide), ?_⟩
  rw [Int.toNat_natCast, numsD_eq]
  refine compD_mapL _ (fun y => sD (cols.flatMap fun c => [c.getD y 0])) (fun y hy Kk hk => ?_) ?_
  · have hy := List.mem_range.mp hy
    rw [Int.zero_add, empty_eq2]
    refine ⟨_, rfl, ?_⟩
    show items (.lst (cols.map sD)) _
    rw [items_lst]
    refine ⟨by rw [List.length_map]; exact Nat.le_trans hl (by decide), ?_⟩
    refine compD_mapL sD (fun r => sD [r.getD y 0]) (fun c hcm Kk hk => ⟨_, rfl, _, rfl, ?_⟩) (fJoin_ones _ _ (Nat.le_trans hl (by decide)) hk)
    have hcl := hc c hcm
    exact fIx_sign (Nat.le_trans (show c.length ≤ 64 by omega) (by decide)) (by rw [List.getD_eq_getElem?_getD, List.getElem?_eq_getElem (by omega)]; rfl) hk
  · unfold rowsL at hq
    rw [List.map_map] at hq
    exact hq
def sizesL : List (Nat × Nat) := [(2, 1), (2, 2), (3, 1), (2, 1), (4, 1), (2, 3), (8, 1)]
def t_Lstrip : TF := fun W ds Q _ => ∃ (b c : Addr) (cells : List Int) (k : Nat), W = bagW b c cells ∧ ds = [.v (.ref b), .int k] ∧ 1 ≤ k ∧ k ≤ 7 ∧ ∀ (r : RU) (e h : Nat), StripOk r [e] h → (r.n, h) ∈ sizesL.take k → Q (.tup [r.parts, sD [e], .int h])
theorem ok_Lstrip (T : Txt w K mg ad fd) : FnG P w K mg base CX0 6 (ad 62) (fd 62) p_Lstrip (spD K 2 t_Lstrip) := by
  have G_Ltake := ok_Ltake (P := P) (w := w) (base := base) T
  have G_Lsigns := ok_Lsigns (P := P) (w := w) (base := base) T
  have G_Lrule := ok_Lrule (P := P) (w := w) (base := base) T
  refine okD T.h_Lstrip.F sc_Lstrip (fun cdv A outer s H E hr => ⟨_, _, fun W => (dss_cons (ds_asg (de_ix (DO.e (do_lst (da_cons (de_tup (da_cons de_int (da_cons de_int da_nil))) (da_cons (de_tup (da_cons de_int (da_cons de_int da_nil))) (da_cons (de_tup (da_cons de_int (da_cons de_int da_nil))) (da_cons (de_tup (da_cons de_int (da_cons de_int da_nil))) (da_cons (de_tup (da_cons de_int (da_cons de_int da_nil))) (da_cons (de_tup (da_cons de_int (da_cons de_int da_nil))) (da_cons (de_tup (da_cons de_int (da_cons de_int da_nil))) da_nil))))))))) (de_call G_Ltake (hr.mono (by decide)) T.h_Ltake.g T.h_Ltake.k T.h_Ltake.b pass0 (da_cons (dv 0) (da_cons (dv 1) da_nil)))) (dg_tup rfl (dgs_cons (dg_name (i := 2) sc_Lstrip.nd) (dgs_cons (dg_name (i := 3) sc_Lstrip.nd) dgs_nil))))
      (dss_cons (ds_set (i := 4) sc_Lstrip.nd (de_call G_Lrule (hr.mono (by decide)) T.h_Lrule.g T.h_Lrule.k T.h_Lrule.b pass0 (da_cons (dv 0) (da_cons de_str (da_cons (dv 2) da_nil)))))
      (dss_cons (ds_if (dt_eq hr.units (de_call G_Ltake (hr.mono (by decide)) T.h_Ltake.g T.h_Ltake.k T.h_Ltake.b pass0 (da_cons (dv 0) (da_cons de_int da_nil))) de_int) (dss_one (ds_set (i := 4) sc_Lstrip.nd (de_catT (de_slT (dv 4) dp_none (dp_some de_int)) (de_tup (da_cons (DO.e (do_sl (de_ix (dv 4) de_int) (dp_some de_int) dp_none)) da_nil))))) dss_nil)
      (dss_cons (ds_set (i := 5) sc_Lstrip.nd (de_call G_Lsigns (hr.mono (by decide)) T.h_Lsigns.g T.h_Lsigns.k T.h_Lsigns.b pass0 (da_cons (dv 2) da_nil)))
      (dss_one (ds_ret (de_tup (da_cons (dv 4) (da_cons (de_ix (dv 5) (de_call G_Ltake (hr.mono (by decide)) T.h_Ltake.g T.h_Ltake.k T.h_Ltake.b pass0 (da_cons (dv 0) (da_cons (dv 2) da_nil)))) (da_cons (dv 3) da_nil)))))))))), fun W ds Q hl ht => ?_⟩) (fun _ _ _ _ h => h)
  obtain ⟨b, c, cells, k, rfl, rfl, k1, k7, hq⟩ := ht
  have sz : ∀ p ∈ sizesL, 2 ≤ p.1 ∧ p.1 ≤ 8 ∧ 1 ≤ p.2 ∧ p.1 ^ p.2 * p.1 ^ p.2 ≤ 64 := by decide
  have two : (2 : Nat) ≤ sizeLine := by decide
  refine tdSeq_cut (fun τ => ∃ n h : Nat, (n, h) ∈ sizesL.take k ∧ τ = [some (.dat (.v (.ref b))), some (.dat (.int k)), some (.dat (.int n)), some (.dat (.int h)), none, none]) (fun nx hnx => ?_) ?_
  · refine ⟨two, two, two, two, two, two, two, by show 7 ≤ sizeLine; decide, _, rfl, _, rfl, rfl, take_i (n := (k : Int)) (by omega) (by omega) fun v a1 a2 => ?_⟩
    obtain ⟨j, rfl⟩ : ∃ j : Nat, v = j := ⟨v.toNat, by omega⟩
    have hj : j < sizesL.length := by show j < 7; omega
    have e1 : sizesL[j]? = some sizesL[j] := List.getElem?_eq_getElem hj
    have hm : sizesL[j] ∈ sizesL.take k := List.mem_of_getElem? (i := j) (by rw [List.getElem?_take_of_lt (by omega)]; exact e1)
    have e2 : (sizesL.map fun p : Nat × Nat => D.tup [.int p.1, .int p.2])[j]? = some (.tup [.int (sizesL[j]).1, .int (sizesL[j]).2]) := by rw [List.getElem?_map, e1]; rfl
    refine ⟨_, atI_of e2, rfl, rfl, hnx _ ⟨(sizesL[j]).1, (sizesL[j]).2, hm, rfl⟩⟩
  rintro _ ⟨n, h, hm, rfl⟩
  obtain ⟨n2, n8, h1, hf⟩ := sz _ (List.mem_of_mem_take hm)
  dsimp only at n2 n8 h1 hf
  refine tdSeq_asgP (fun d => ∃ r : RU, d = r.parts ∧ RUOk r ∧ r.s = Str.ofString "around" ∧ r.n = n) (fun Q R q => ⟨_, rfl, _, rfl, rfl, b, c, cells, Str.ofString "around", n, rfl, rfl, .inl rfl, n2, by omega, fun r hr hs hn _ => q _ ⟨r, rfl, hr, hs, hn⟩⟩) ?_
  rintro _ ⟨r0, rfl, hr0, hs0, hn0⟩
  refine tdSeq_cut (fun τ => ∃ r : RU, (RUOk r ∧ r.s = Str.ofString "around" ∧ r.n = n) ∧ τ = [some (.dat (.v (.ref b))), some (.dat (.int k)), some (.dat (.int n)), some (.dat (.int h)), some (.dat r.parts), none]) (fun nx hnx => ?_) ?_
  · refine tdIf_P (fun _ => True) (fun Q R q => ⟨_, rfl, rfl, take_i (n := 2) (by decide) (by decide) fun v _ _ => by simp; exact q _ trivial⟩) (fun _ => ?_) (fun _ => hnx _ ⟨r0, ⟨hr0, hs0, hn0⟩, rfl⟩)
    have nb : r0.s ≠ Str.ofString "blocks" := by rw [hs0]; exact sorts_ne.2.1
    have ep : r0.parts = .tup [.str r0.s, .int r0.n, .tup (r0.near.map sD), .lst (r0.cr.map crowD)] := by unfold RU.parts; rw [hr0.rc nb]; rfl
    rw [ep]
    refine ⟨_, rfl, ?_⟩
    simp only [tdNoPart, tdPart, tdC, onI_int, onTup_tup]
    refine ⟨_, rfl, _, atI_3 _ _ _ _ _, ?_⟩
    simp only [tdNil, onLst_lst, tdPart, tdNoPart, tdC, onI_int]
    rw [show cutD (r0.cr.map crowD) (some 1) none = (r0.cr.drop 1).map crowD from cutD_fromL crowD r0.cr 1]
    refine ⟨by show 1 ≤ sizeLine; decide, by show 3 + 1 ≤ sizeLine; decide, hnx _ ⟨⟨r0.s, r0.n, r0.near, r0.cr.drop 1, []⟩, ⟨⟨hr0.so, hr0.n1, hr0.n2, hr0.nr, ?_, fun e => absurd e nb, fun _ => rfl, fun c hc => hr0.cok c (List.mem_of_mem_drop hc), fun _ h => (nomatch h)⟩, hs0, hn0⟩, ?_⟩⟩
    · have := hr0.le
      show (r0.cr.drop 1).length + 0 ≤ 80
      rw [List.length_drop]
      omega
    · have e2 : RU.parts ⟨r0.s, r0.n, r0.near, r0.cr.drop 1, []⟩ = .tup [.str r0.s, .int r0.n, .tup (r0.near.map sD), .lst ((r0.cr.drop 1).map crowD)] := by
        unfold RU.parts RU.rows
        rw [List.map_nil, List.append_nil]
        rfl
      rw [e2]
      rfl
  rintro _ ⟨r, ⟨hr, hs, hn⟩, rfl⟩
  refine tdSeq_asg (sD (signsN n)) (fun Q R q => ⟨_, rfl, rfl, n, rfl, by omega, q⟩) ?_
  refine ⟨_, rfl, _, rfl, _, rfl, _, rfl, rfl, take_i (n := (n : Int)) (by omega) (by omega) fun v a1 a2 => ?_⟩
  obtain ⟨j, rfl⟩ : ∃ j : Nat, v = j := ⟨v.toNat, by omega⟩
  have ls := signsN_len (n := n) (by omega)
  have e1 : (signsN n)[j]? = some ((signsN n)[j]'(by omega)) := List.getElem?_eq_getElem (by omega)
  refine fIx_sign (by omega) e1 ?_
  refine ⟨_, rfl, by show 3 ≤ sizeLine; decide, ?_⟩
  refine hq r _ h ⟨hr, hs, Nat.le_refl _, fun x hx => ?_, h1, by rw [hn]; exact hf⟩ (by rw [hn]; exact hm)
  rw [List.mem_singleton.mp hx, hn]
  exact List.getElem_mem _
def t_Lmade_rule (ad : Nat → Addr) : TF := fun W ds Q _ => ∃ r : RU, ds = [r.parts] ∧ RUOk r ∧ Q (r.d ad)
theorem ok_Lmade_rule (T : Txt w K mg ad fd) : FnG P w K mg base CX0 8 (ad 64) (fd 64) p_Lmade_rule (spD K 1 (t_Lmade_rule ad)) := by
  have G_Rule___init__ := ok_Rule___init__ (P := P) (w := w) (base := base) T
  refine okD T.h_Lmade_rule.F sc_Lmade_rule (fun cdv A outer s H E hr => ⟨_, _, fun W => (dss_one (ds_ret (de_make T.mk_Rule T.h_Rule___init__ G_Rule___init__ (hr.mono (by decide)) T.g_Rule pass0 (da_cons (de_ix (dv 0) de_int) (da_cons (de_ix (dv 0) de_int) (da_cons (de_ix (dv 0) de_int) (da_cons (DO.e (do_list T.m_list (da_cons (de_ix (dv 0) de_int) da_nil))) da_nil))))))), fun W ds Q hl ht => ?_⟩) (fun _ _ _ _ h => h)
  obtain ⟨r, rfl, hr, hq⟩ := ht
  exact ⟨_, rfl, _, atI_zero _ _, _, rfl, _, atI_of (k := 1) rfl, _, rfl, _, atI_2 _ _ _ _, _, rfl, _, atI_3 _ _ _ _ _, rfl, hr.make hq⟩
/-- what a picture of two columns more becomes -/
def midsL (r : RU) (e : List Nat) : Rows → Rows
  | a :: b :: c :: rest => madeL r e a b c :: midsL r e (b :: c :: rest)
  | _ => []
theorem midsL_len {r : RU} {e : List Nat} : ∀ {cs : Rows}, (midsL r e cs).length = cs.length - 2
  | [] => rfl
  | [_] => rfl
  | [_, _] => rfl
  | a :: b :: c :: rest => by
    show (midsL r e (b :: c :: rest)).length + 1 = _
    rw [midsL_len]
    simp
theorem midsL_get {r : RU} {e : List Nat} : ∀ {cs : Rows} {i : Nat}, i + 2 < cs.length → (midsL r e cs)[i]? = some (madeL r e (cs.getD i []) (cs.getD (i + 1) []) (cs.getD (i + 2) []))
  | [], _, h => by simp at h
  | [_], _, h => by simp at h
  | [_, _], i, h => by simp at h; omega
  | a :: b :: c :: rest, 0, _ => rfl
  | a :: b :: c :: rest, i + 1, h => by
    show (midsL r e (b :: c :: rest))[i]? = _
    rw [midsL_get (by simp at h ⊢; omega)]
    rfl
def t_Lnext_rows : TFO := fun W ds Q _ => ∃ (r : RU) (e : List Nat) (h wd : Nat) (rows : Rows), ds = [r.parts, edgeD e, rowsD rows] ∧ StripOk r e h ∧ e ≠ [] ∧ PicOk r.n h wd rows ∧ 2 ≤ wd ∧ Q ((rowsL (midsL r e (colsL rows)) h).map sD)
theorem ok_Lnext_rows (T : Txt w K mg ad fd) : FnG P w K mg base CX0 4 (ad 63) (fd 63) p_Lnext_rows (spO K 3 t_Lnext_rows) := by
  have G_Lmiddle := ok_Lmiddle (P := P) (w := w) (base := base) T
  have G_Lcolumns := ok_Lcolumns (P := P) (w := w) (base := base) T
  have G_Lrows := ok_Lrows (P := P) (w := w) (base := base) T
  refine okO T.h_Lnext_rows.F sc_Lnext_rows (fun cdv A outer s H E hr => ⟨_, _, fun W => (dss_cons (ds_set (i := 3) sc_Lnext_rows.nd (DO.e (do_call G_Lcolumns (hr.mono (by decide)) T.h_Lcolumns.g T.h_Lcolumns.k T.h_Lcolumns.b pass0 (da_cons (dv 2) da_nil))))
      (dss_cons (ds_setLcD (i := 4) rfl sc_Lnext_rows.nd (di_range1 rfl T.m_range (da_cons (de_sub (de_len T.m_len (da_cons (dv 3) da_nil)) de_int) da_nil)) (blkOk_by (own := [("_law_at", 5)]) (N := n_Lnext_rows) (by kernel_rfl)) (fun _ _ _ _ _ => (dg_name (i := 5) sc_Lnext_rows.nd)) (fun _ _ _ _ _ => dts_nil) (fun _ _ _ _ _ => (de_call G_Lmiddle (hr.mono (by decide)) T.h_Lmiddle.g T.h_Lmiddle.k T.h_Lmiddle.b pass0 (da_cons (dv 0) (da_cons (dv 1) (da_cons (de_tuple T.m_tuple (da_cons (DO.e (do_sl (dv 3) (dp_some (dv 5)) (dp_some (de_add (dv 5) de_int)))) da_nil)) da_nil))))))
      (dss_one (ds_retO (do_call G_Lrows (hr.mono (by decide)) T.h_Lrows.g T.h_Lrows.k T.h_Lrows.b pass0 (da_cons (dv 4) (da_cons (de_len T.m_len (da_cons (dv 2) da_nil)) da_nil))))))), fun W ds Q hl ht => ?_⟩) (fun _ _ _ _ h => h)
  obtain ⟨r, e, h, wd, rows, rfl, ok, ne, pc, w2, hq⟩ := ht
  have cl := pc.colsLen
  have cm := pc.colsMem
  obtain ⟨b1, b2⟩ := pc.hw
  refine tdSeq_asg (rowsD (colsL rows)) (fun Q R q => ⟨_, rfl, rfl, r.n, h, wd, rows, rfl, pc, q⟩) ?_
  generalize colsL rows = cs at *
  refine tdSeq_asg (rowsD (midsL r e cs)) (fun Q R q => ?_) ?_
  · refine ⟨_, rfl, ?_⟩
    simp only [tdNil, tdC, show rowsD cs = .lst (cs.map sD) from rfl, fLen_lst, fI, onII_int, List.length_map, rng1_int]
    refine ⟨by omega, by omega, by rw [numsD_length]; exact Nat.le_trans (show ((cs.length : Int) - 2).toNat ≤ 1000 by omega) (by decide), ?_⟩
    rw [show ((cs.length : Int) - 2).toNat = cs.length - 2 by omega, numsD_eq]
    refine compD_mapL _ (fun i => sD ((midsL r e cs).getD i [])) (fun i hi Kk hk => ?_) ?_
    · have hi := List.mem_range.mp hi
      rw [Int.zero_add]
      have hi2 : i + 2 < cs.length := by omega
      rw [List.getD_eq_getElem?_getD, midsL_get hi2] at hk
      have ec : cutD (cs.map sD) (some (i : Int)) (some ((i : Int) + 3)) = [sD (cs.getD i []), sD (cs.getD (i + 1) []), sD (cs.getD (i + 2) [])] := by
        have st : ∀ j, j < cs.length → cs.drop j = cs.getD j [] :: cs.drop (j + 1) := fun j hj => by
          rw [List.drop_eq_getElem_cons hj, List.getD_eq_getElem?_getD, List.getElem?_eq_getElem hj]
          rfl
        rw [show (i : Int) + 3 = ((i + 3 : Nat) : Int) by omega, cutD_map, HT.sIx_nat, HT.sIx_nat, Nat.min_eq_left (by omega), Nat.min_eq_left (by omega), st i (by omega), st (i + 1) (by omega), st (i + 2) (by omega), show i + 3 - i = 3 by omega]
        rfl
      have gl : ∀ j, j < cs.length → (cs.getD j []).length = h := fun j hj => by
        rw [List.getD_eq_getElem?_getD, List.getElem?_eq_getElem hj]
        exact (cm _ (List.getElem_mem _)).1
      refine ⟨_, rfl, _, rfl, _, rfl, _, rfl, _, rfl, ?_⟩
      simp only [tdC, fAdd_int, onI_int, onLst_lst]
      rw [ec]
      exact ⟨rfl, r, e, _, _, _, h, rfl, ok.ru, ok.so, ok.e1, fun z => absurd z ne, ok.h1, b1, gl _ (by omega), gl _ (by omega), gl _ (by omega), hk⟩
    · have e1 : (List.range (cs.length - 2)).map (fun i => sD ((midsL r e cs).getD i [])) = (midsL r e cs).map sD := by
        refine List.ext_getElem? fun i => ?_
        rw [List.getElem?_map, List.getElem?_map]
        by_cases hi : i < cs.length - 2
        · rw [List.getElem?_range hi, midsL_get (by omega)]
          show some (sD ((midsL r e cs).getD i [])) = _
          rw [List.getD_eq_getElem?_getD, midsL_get (by omega)]
          rfl
        · rw [List.getElem?_eq_none (by rw [List.length_range]; omega), List.getElem?_eq_none (by rw [midsL_len]; omega)]
          rfl
      rw [e1]
      exact q
  have ml : ∀ c ∈ midsL r e cs, c.length = h := fun c hc => by
    obtain ⟨i, hi, rfl⟩ := List.mem_iff_getElem.mp hc
    have hi2 := hi
    rw [midsL_len] at hi2
    have := midsL_get (r := r) (e := e) (cs := cs) (i := i) (by omega)
    rw [List.getElem?_eq_getElem hi] at this
    injection this with this
    rw [this]
    unfold madeL
    rw [flat_one (fun y _ => ?_), List.length_range]
    · rw [List.getD_eq_getElem?_getD, List.getElem?_eq_getElem (by omega)]
      exact (cm _ (List.getElem_mem _)).1
    · obtain ⟨c, hc, _⟩ := fateC_one (near := r.near) (ar := aroundL r.near e (cs.getD i []) (cs.getD (i + 1) []) (cs.getD (i + 2) []) y) (c := (cs.getD (i + 1) []).getD y 0) (rows := r.cr)
      show (fateC _ _ _ _).length = 1
      rw [hc]
      rfl
  refine ⟨_, rfl, _, rfl, ?_⟩
  simp only [tdNil, show rowsD rows = .lst (rows.map sD) from rfl, fLen_lst, List.length_map, pc.len]
  exact ⟨rfl, midsL r e cs, h, rfl, ml, b1, by rw [midsL_len]; omega, hq⟩
theorem flat_congr {α β : Type} {l : List α} {f g : α → List β} (h : ∀ a ∈ l, f a = g a) : l.flatMap f = l.flatMap g := by rw [List.flatMap_def, List.flatMap_def, List.map_congr_left h]
theorem flat_ones' {α β : Type} {l : List α} {f : α → β} : (l.flatMap fun a => [f a]) = l.map f := by
  induction l with
  | nil => rfl
  | cons a l ih => rw [List.flatMap_cons, ih]; rfl
def wordsT (ls : Rows) : Nat → List Rows
  | 0 => [[]]
  | k + 1 => (wordsT ls k).flatMap fun w => ls.map fun c => w ++ [c]
def wdD (w : Rows) : D := .tup (w.map sD)
theorem wordsT_mem {S : Rows} : ∀ {k : Nat} {w : Rows}, w ∈ wordsT S k ↔ w.length = k ∧ ∀ c ∈ w, c ∈ S
  | 0, w => by
    show w ∈ [[]] ↔ _
    rw [List.mem_singleton, List.length_eq_zero_iff]
    exact ⟨fun h => ⟨h, by rw [h]; exact fun _ z => nomatch z⟩, fun h => h.1⟩
  | k + 1, w => by
    show w ∈ (wordsT S k).flatMap _ ↔ _
    rw [List.mem_flatMap]
    constructor
    · rintro ⟨v, hv, h⟩
      obtain ⟨c, hc, rfl⟩ := List.mem_map.mp h
      obtain ⟨h1, h2⟩ := wordsT_mem.mp hv
      refine ⟨by rw [List.length_append, h1]; rfl, fun x hx => ?_⟩
      rcases List.mem_append.mp hx with hx | hx
      · exact h2 x hx
      · rw [List.mem_singleton.mp hx]; exact hc
    · rintro ⟨hl, h⟩
      have ne : w ≠ [] := by intro z; rw [z] at hl; cases hl
      refine ⟨w.dropLast, wordsT_mem.mpr ⟨by rw [List.length_dropLast, hl]; rfl, fun c hc => h c (List.dropLast_subset w hc)⟩, List.mem_map.mpr ⟨w.getLast ne, h _ (List.getLast_mem ne), List.dropLast_concat_getLast ne⟩⟩
theorem wordsT_count {S : Rows} : ∀ {k : Nat}, (wordsT S k).length = S.length ^ k
  | 0 => rfl
  | k + 1 => by
    show ((wordsT S k).flatMap _).length = _
    rw [List.length_flatMap]
    have : ((wordsT S k).map fun w => (S.map fun c => w ++ [c]).length) = (wordsT S k).map fun _ => S.length := List.map_congr_left fun w _ => List.length_map _
    rw [this, List.map_const', List.sum_replicate_nat, wordsT_count, Nat.pow_succ]
theorem wordsT_cons {S : Rows} : ∀ {k : Nat}, wordsT S (k + 1) = S.flatMap fun c => (wordsT S k).map fun w => c :: w
  | 0 => by
    show ([[]] : List Rows).flatMap (fun w => S.map fun c => w ++ [c]) = S.flatMap fun c => ([[]] : List Rows).map fun w => c :: w
    rw [List.flatMap_cons, List.flatMap_nil, List.append_nil]
    show S.map (fun c => [c]) = S.flatMap fun c => [[c]]
    exact flat_ones'.symm
  | k + 1 => by
    have ih := wordsT_cons (S := S) (k := k)
    show (wordsT S (k + 1)).flatMap (fun w => S.map fun c => w ++ [c]) = S.flatMap fun c => ((wordsT S k).flatMap fun w => S.map fun c => w ++ [c]).map fun w => c :: w
    rw [ih, List.flatMap_assoc]
    refine flat_congr fun c _ => ?_
    show ((wordsT S k).map fun w => c :: w).flatMap (fun w => S.map fun c => w ++ [c]) = ((wordsT S k).flatMap fun w => S.map fun c => w ++ [c]).map fun w => c :: w
    rw [List.flatMap_map, List.map_flatMap]
    refine flat_congr fun w _ => ?_
    rw [List.map_map]
    rfl
def t_Lwords : TF := fun W ds Q _ => ∃ (ls : Rows) (k : Nat), ds = [rowsD ls, .int k] ∧ 2 ≤ ls.length ∧ k ≤ 64 ∧ ls.length ^ k ≤ 5000 ∧ Q (.lst ((wordsT ls k).map wdD))
theorem ok_Lwords (T : Txt w K mg ad fd) : FnG P w K mg base CX0 1 (ad 65) (fd 65) p_Lwords (spD K 2 t_Lwords) := by
  refine okD T.h_Lwords.F sc_Lwords (fun cdv A outer s H E hr => ⟨_, _, fun W => (dss_cons (ds_set (i := 2) sc_Lwords.nd (DO.e (do_lst (da_cons (de_tup da_nil) da_nil))))
      (dss_cons (ds_for PassesOwn.never rfl (di_range1 rfl T.m_range (da_cons (dv 1) da_nil)) (dg_name (i := 3) sc_Lwords.nd) (dss_cons (ds_setO (i := 4) sc_Lwords.nd (do_lst da_nil))
      (dss_cons (ds_for PassesOwn.never rfl (di_any (dv 2)) (dg_name (i := 5) sc_Lwords.nd) (dss_one (ds_ext 4 (do_lc rfl sc_Lwords.nd (di_any (dv 0)) (blkOk_by (own := [("_law_letter", 6)]) (N := n_Lwords) (by kernel_rfl)) (fun _ _ _ _ _ => (dg_name (i := 6) sc_Lwords.nd)) (fun _ _ _ _ _ => dts_nil) (fun _ _ _ _ _ => (de_catT (dv 5) (de_tup (da_cons (dv 6) da_nil))))))))
      (dss_one (DS.freeze (ds_set (i := 2) sc_Lwords.nd (dv 4)))))))
      (dss_one (ds_ret (dv 2))))), fun W ds Q hl ht => ?_⟩) (fun _ _ _ _ h => h)
  obtain ⟨S, h, rfl, hS2, h64, hf, hq⟩ := ht
  have pw : ∀ {k : Nat}, k ≤ h → S.length ^ k ≤ 5000 := fun {k} hk => Nat.le_trans (Nat.pow_le_pow_right (by omega) hk) hf
  refine tdSeq_asg (.lst [.tup []]) (fun Q R q => ⟨by show 0 ≤ sizeLine; decide, by show 1 ≤ sizeLine; decide, q⟩) ?_
  refine tdSeq_cut (fun τ => ∃ z3 z4 z5 : Option SD, τ = [some (.dat (rowsD S)), some (.dat (.int h)), some (.dat (.lst ((wordsT S h).map wdD))), z3, z4, z5, none]) (fun nx hnx => ?_) ?_
  · refine ⟨_, rfl, ?_⟩
    simp only [tdNil, rng1_int]
    refine ⟨by omega, by omega, ?_⟩
    rw [Int.toNat_natCast]
    refine forD_count (fun k τ => ∃ z3 z4 z5 : Option SD, τ = [some (.dat (rowsD S)), some (.dat (.int h)), some (.dat (.lst ((wordsT S k).map wdD))), z3, z4, z5, none]) h ⟨_, _, _, rfl⟩ ?_ (fun τ h => hnx τ h)
    rintro k hk τ ⟨z3, z4, z5, rfl⟩ nx2 hnx2
    have b1 := pw (k := k) (by omega)
    have b2 := pw (k := k + 1) (by omega)
    have eS : S.length ^ (k + 1) = S.length ^ k * S.length := Nat.pow_succ ..
    refine tdSeq_setO (fun ds => ds = []) (fun Q R q => ⟨by show 0 ≤ sizeLine; decide, q _ rfl⟩) ?_
    rintro _ rfl
    refine tdSeq_cut (fun τ => ∃ z5 : Option SD, τ = [some (.dat (rowsD S)), some (.dat (.int h)), some (.dat (.lst ((wordsT S k).map wdD))), some (.dat (.int (k : Nat))), some (.own ((wordsT S (k + 1)).map wdD)), z5, none]) (fun nx3 hnx3 => ?_) ?_
    · refine ⟨_, rfl, ?_⟩
      show items (.lst ((wordsT S k).map wdD)) _
      rw [items_lst]
      refine forD_mapL wdD (fun pre τ => ∃ z5 : Option SD, τ = [some (.dat (rowsD S)), some (.dat (.int h)), some (.dat (.lst ((wordsT S k).map wdD))), some (.dat (.int (k : Nat))), some (.own ((pre.flatMap fun w => S.map fun c => w ++ [c]).map wdD)), z5, none]) (wordsT S k) gdName_mono ?_ (fun τ h => hnx3 τ h) [] _ _ rfl ⟨_, rfl⟩
      rintro pre t post τ he ⟨z5, rfl⟩ nx4 hnx4
      have ht : t ∈ wordsT S k := he ▸ List.mem_append_right _ List.mem_cons_self
      have htl := (wordsT_mem.mp ht).1
      have pl : (pre.length + 1) * S.length ≤ 5000 := by
        have h1 := congrArg List.length he
        rw [wordsT_count, List.length_append, List.length_cons] at h1
        have h2 : pre.length + 1 ≤ S.length ^ k := by omega
        exact Nat.le_trans (Nat.mul_le_mul_right _ h2) (by omega)
      have fl : (pre.flatMap fun w => S.map fun c => w ++ [c]).length = pre.length * S.length := by
        rw [List.length_flatMap]
        have : (pre.map fun w => (S.map fun c => w ++ [c]).length) = pre.map fun _ => S.length := List.map_congr_left fun w _ => List.length_map _
        rw [this, List.map_const', List.sum_replicate_nat]
      rw [Nat.succ_mul] at pl
      refine ⟨_, rfl, _, rfl, ?_⟩
      show items (.lst (S.map sD)) _
      rw [items_lst]
      refine ⟨by rw [List.length_map]; exact Nat.le_trans (show S.length ≤ 5000 by omega) (by decide), ?_⟩
      refine compD_mapL sD (fun c => wdD (t ++ [c])) (fun c hc Kk hk => ⟨_, rfl, _, rfl, by show 1 ≤ sizeLine; decide, ?_⟩) ?_
      · refine ⟨by rw [List.length_map]; show t.length + 1 ≤ sizeLine; exact Nat.le_trans (show t.length + 1 ≤ 65 by omega) (by decide), ?_⟩
        unfold wdD at hk
        rw [List.map_append] at hk
        exact hk
      · refine ⟨?_, hnx4 _ ⟨some (.dat (wdD t)), ?_⟩⟩
        · rw [List.length_map, List.length_map, fl]
          exact Nat.le_trans pl (by decide)
        · rw [List.flatMap_append, List.flatMap_cons, List.flatMap_nil, List.append_nil, List.map_append, List.map_map]
          rfl
    rintro _ ⟨z5, rfl⟩
    exact ⟨_, rfl, hnx2 _ ⟨_, _, _, rfl⟩⟩
  rintro _ ⟨z3, z4, z5, rfl⟩
  exact ⟨_, rfl, hq⟩
theorem sum_add {β : Type} {m : List β} {f g : β → Nat} : (m.map fun b => f b + g b).sum = (m.map f).sum + (m.map g).sum := by
  induction m with
  | nil => rfl
  | cons b m ih =>
    rw [List.map_cons, List.map_cons, List.map_cons, List.sum_cons, List.sum_cons, List.sum_cons, ih]
    omega
theorem sum_flatL {α : Type} {l : List α} {f : α → List Nat} : (l.flatMap f).sum = (l.map fun a => (f a).sum).sum := by
  induction l with
  | nil => rfl
  | cons a l ih => rw [List.flatMap_cons, List.sum_append, ih]; rfl
theorem sum_swap {α β : Type} {l : List α} {m : List β} {f : α → β → Nat} : (l.map fun a => (m.map fun b => f a b).sum).sum = (m.map fun b => (l.map fun a => f a b).sum).sum := by
  induction l with
  | nil =>
    show 0 = _
    rw [show (m.map fun b => (([] : List α).map fun a => f a b).sum) = m.map fun _ => 0 from rfl, List.map_const', List.sum_replicate_nat, Nat.mul_zero]
  | cons a l ih =>
    rw [List.map_cons, List.sum_cons, ih, ← sum_add]
    rfl
theorem sum_one {α : Type} [DecidableEq α] {l : List α} {a : α} {k : Nat} (nd : l.Nodup) (h : a ∈ l) : (l.map fun c => if a = c then k else 0).sum = k := by
  induction l with
  | nil => cases h
  | cons b l ih =>
    obtain ⟨n1, n2⟩ := List.nodup_cons.mp nd
    rw [List.map_cons, List.sum_cons]
    by_cases e : a = b
    · subst e
      rw [if_pos rfl]
      have : (l.map fun c => if a = c then k else 0) = l.map fun _ => 0 := List.map_congr_left fun c hc => if_neg fun z : a = c => n1 (by rw [z]; exact hc)
      rw [this, List.map_const', List.sum_replicate_nat]
      omega
    · rw [if_neg e, ih n2 ((List.mem_cons.mp h).resolve_left e), Nat.zero_add]
theorem sum_filter {α : Type} {l : List α} {p : α → Bool} {f : α → Nat} : ((l.filter p).map f).sum = (l.map fun a => if p a = true then f a else 0).sum := by
  induction l with
  | nil => rfl
  | cons a l ih =>
    rw [List.filter_cons, List.map_cons, List.sum_cons, ← ih]
    by_cases h : p a = true
    · rw [if_pos h, if_pos h]; rfl
    · rw [if_neg h, if_neg h, Nat.zero_add]
theorem sum_const {α : Type} {l : List α} {k : Nat} : (l.map fun _ => k).sum = l.length * k := by rw [List.map_const', List.sum_replicate_nat]
/-- all pictures of one size: from each state all words lead on, once -/
theorem exts_all {r : RU} {e : List Nat} {ls : Rows} (nd : ls.Nodup) (cl : ∀ a ∈ ls, ∀ b ∈ ls, ∀ c ∈ ls, madeL r e a b c ∈ ls) : ∀ {k : Nat} {s : SState}, s ∈ statesL ls → ((wordsT ls k).map fun cs => (extsL r e ls s cs).length).sum = ls.length ^ k
  | 0, s, _ => rfl
  | k + 1, s, hs => by
    obtain ⟨h1, h2⟩ := statesL_mem.mp hs
    rw [wordsT_cons, List.map_flatMap, sum_flatL]
    have e1 : (ls.map fun c => (((wordsT ls k).map fun w => c :: w).map fun cs => (extsL r e ls s cs).length).sum) = ls.map fun c => (ls.map fun t => if madeL r e s.1 s.2 t = c then ls.length ^ k else 0).sum := by
      refine List.map_congr_left fun c _ => ?_
      rw [List.map_map]
      have e2 : ((fun cs => (extsL r e ls s cs).length) ∘ fun w => c :: w) = fun w => ((behindL r e ls s c).map fun o => (extsL r e ls o w).length).sum := by
        funext w
        show ((behindL r e ls s c).flatMap _).length = _
        rw [sum_flat]
        refine congrArg List.sum (List.map_congr_left fun o _ => List.length_map _)
      rw [e2, sum_swap]
      have e3 : ((behindL r e ls s c).map fun o => ((wordsT ls k).map fun w => (extsL r e ls o w).length).sum) = (behindL r e ls s c).map fun _ => ls.length ^ k := by
        refine List.map_congr_left fun o ho => exts_all nd cl ?_
        unfold behindL at ho
        obtain ⟨t, ht, rfl⟩ := List.mem_map.mp ho
        exact statesL_mem.mpr ⟨h2, (List.mem_filter.mp ht).1⟩
      rw [e3]
      unfold behindL
      rw [List.map_map]
      show ((ls.filter _).map fun _ => ls.length ^ k).sum = _
      rw [sum_filter]
      refine congrArg List.sum (List.map_congr_left fun t _ => ?_)
      by_cases h : madeL r e s.1 s.2 t = c
      · rw [if_pos h, if_pos (decide_eq_true h)]
      · rw [if_neg h, if_neg (by rw [decide_eq_false h]; decide)]
    rw [e1, sum_swap]
    have e4 : (ls.map fun t => (ls.map fun c => if madeL r e s.1 s.2 t = c then ls.length ^ k else 0).sum) = ls.map fun _ => ls.length ^ k := List.map_congr_left fun t ht => sum_one nd (cl _ h1 _ h2 _ ht)
    rw [e4, sum_const, Nat.pow_succ, Nat.mul_comm]
theorem fores_all {r : RU} {e : List Nat} {ls : Rows} (nd : ls.Nodup) (cl : ∀ a ∈ ls, ∀ b ∈ ls, ∀ c ∈ ls, madeL r e a b c ∈ ls) {k : Nat} : ((wordsT ls k).map fun cs => (foresL r e ls cs).length).sum = ls.length * ls.length * (wordsT ls k).length := by
  have e1 : ((wordsT ls k).map fun cs => (foresL r e ls cs).length) = (wordsT ls k).map fun cs => ((statesL ls).map fun s => (extsL r e ls s cs).length).sum := List.map_congr_left fun cs _ => by
    unfold foresL
    rw [sum_flat]
    exact congrArg List.sum (List.map_congr_left fun s _ => List.length_map _)
  rw [e1, sum_swap]
  have e2 : ((statesL ls).map fun s => ((wordsT ls k).map fun cs => (extsL r e ls s cs).length).sum) = (statesL ls).map fun _ => ls.length ^ k := List.map_congr_left fun s hs => exts_all nd cl hs
  rw [e2, sum_const, statesL_count, wordsT_count]
theorem made_in {r : RU} {e : List Nat} {h : Nat} (ok : StripOk r e h) : ∀ a ∈ wordsL (signsN r.n) h, ∀ b ∈ wordsL (signsN r.n) h, ∀ c ∈ wordsL (signsN r.n) h, madeL r e a b c ∈ wordsL (signsN r.n) h := fun a ha b hb c hc => by
  have hb := wordsL_mem.mp hb
  refine wordsL_mem.mpr ⟨?_, fun x hx => ?_⟩
  · unfold madeL
    rw [flat_one (fun y _ => ?_), List.length_range, hb.1]
    obtain ⟨z, hz, _⟩ := fateC_one (near := r.near) (ar := aroundL r.near e a b c y) (c := b.getD y 0) (rows := r.cr)
    show (fateC _ _ _ _).length = 1
    rw [hz]
    rfl
  · obtain ⟨y, hy, hx⟩ := List.mem_flatMap.mp hx
    have hy := List.mem_range.mp hy
    obtain ⟨z, hz, hw⟩ := fateC_one (near := r.near) (ar := aroundL r.near e a b c y) (c := b.getD y 0) (rows := r.cr)
    have hx : x ∈ fateC r.near (aroundL r.near e a b c y) [b.getD y 0] r.cr := hx
    rw [hz] at hx
    rw [List.mem_singleton.mp hx]
    rcases hw with rfl | ⟨q, hq, rfl⟩
    · rw [List.getD_eq_getElem?_getD, List.getElem?_eq_getElem hy]
      exact hb.2 _ (List.getElem_mem _)
    · exact (ok.ru.cok q hq).to
theorem exts_mem {r : RU} {e : List Nat} {ls : Rows} : ∀ {cs : Rows} {s : SState} {y : Rows}, y ∈ extsL r e ls s cs → (∀ c ∈ y, c ∈ ls) ∧ y.length = cs.length ∧ midsL r e (s.1 :: s.2 :: y) = cs
  | [], s, y, h => by
    rw [List.mem_singleton.mp h]
    exact ⟨fun _ z => (nomatch z), rfl, rfl⟩
  | c :: cs, s, y, h => by
    obtain ⟨o, ho, h⟩ := List.mem_flatMap.mp h
    obtain ⟨x, hx, rfl⟩ := List.mem_map.mp h
    unfold behindL at ho
    obtain ⟨t, ht, rfl⟩ := List.mem_map.mp ho
    obtain ⟨h1, h2, h3⟩ := exts_mem hx
    obtain ⟨h4, h5⟩ := List.mem_filter.mp ht
    refine ⟨fun z hz => ?_, by rw [List.length_cons, h2]; rfl, ?_⟩
    · rcases List.mem_cons.mp hz with rfl | hz
      · exact h4
      · exact h1 z hz
    · show madeL r e s.1 s.2 t :: midsL r e (s.2 :: t :: x) = c :: cs
      rw [of_decide_eq_true h5]
      exact congrArg _ h3
theorem fores_mem {r : RU} {e : List Nat} {ls : Rows} {cs x : Rows} (h : x ∈ foresL r e ls cs) : (∀ c ∈ x, c ∈ ls) ∧ x.length = cs.length + 2 ∧ midsL r e x = cs := by
  obtain ⟨s, hs, h⟩ := List.mem_flatMap.mp h
  obtain ⟨y, hy, rfl⟩ := List.mem_map.mp h
  obtain ⟨h1, h2⟩ := statesL_mem.mp hs
  obtain ⟨h3, h4, h5⟩ := exts_mem hy
  refine ⟨fun c hc => ?_, by rw [List.length_cons, List.length_cons, h4], h5⟩
  rcases List.mem_cons.mp hc with rfl | hc
  · exact h1
  · rcases List.mem_cons.mp hc with rfl | hc
    · exact h2
    · exact h3 c hc
theorem lt_irr (a : List Nat) : ¬ a < a := List.lt_irrefl a
theorem lt_asy {a b : List Nat} (h : a < b) : ¬ b < a := List.lt_asymm h
theorem lt_app {S : List Nat} : ∀ {v w : List Nat} {x y : List Nat}, v.length = w.length → v < w → v ++ x < w ++ y
  | [], [], _, _, _, h => absurd h (lt_irr _)
  | [], _ :: _, _, _, h, _ => by cases h
  | _ :: _, [], _, _, h, _ => by cases h
  | a :: v, b :: w, x, y, hl, h => by
    rw [List.cons_append, List.cons_append, List.cons_lt_cons_iff]
    rcases List.cons_lt_cons_iff.mp h with h | ⟨h1, h2⟩
    · exact .inl h
    · exact .inr ⟨h1, lt_app (S := S) (by simpa using hl) h2⟩
theorem lt_app2 {c d : Nat} (h : c < d) : ∀ {v : List Nat}, v ++ [c] < v ++ [d]
  | [] => List.cons_lt_cons_iff.mpr (.inl h)
  | a :: v => List.cons_lt_cons_iff.mpr (.inr ⟨rfl, lt_app2 h⟩)
theorem wordsL_lt {S : List Nat} (so : S.Pairwise (· < ·)) : ∀ {k : Nat}, (wordsL S k).Pairwise (· < ·)
  | 0 => List.pairwise_singleton _ _
  | k + 1 => by
    show ((wordsL S k).flatMap _).Pairwise _
    rw [List.pairwise_flatMap]
    refine ⟨fun w _ => ?_, ?_⟩
    · rw [List.pairwise_map]
      exact so.imp fun h => lt_app2 h
    · refine (wordsL_lt so (k := k)).imp_of_mem fun {v w} hv hw h a ha b hb => ?_
      obtain ⟨c, _, rfl⟩ := List.mem_map.mp ha
      obtain ⟨d, _, rfl⟩ := List.mem_map.mp hb
      exact lt_app (S := S) (by rw [(wordsL_mem.mp hv).1, (wordsL_mem.mp hw).1]) h
def cLt : Rows → Rows → Bool
  | a :: x, b :: y => if a = b then cLt x y else decide (a < b)
  | _, _ => false
theorem cLt_irr : ∀ x : Rows, cLt x x = false
  | [] => rfl
  | a :: x => by
    show (if a = a then cLt x x else _) = false
    rw [if_pos rfl]
    exact cLt_irr x
theorem cLt_asy : ∀ {x y : Rows}, cLt x y = true → cLt y x = false
  | [], _, h => by cases h
  | _ :: _, [], h => by cases h
  | a :: x, b :: y, h => by
    have h : (if a = b then cLt x y else decide (a < b)) = true := h
    show (if b = a then cLt y x else decide (b < a)) = false
    by_cases e : a = b
    · rw [if_pos e] at h
      rw [if_pos e.symm]
      exact cLt_asy h
    · rw [if_neg e] at h
      rw [if_neg (fun z => e z.symm)]
      exact decide_eq_false (lt_asy (of_decide_eq_true h))
theorem cLt_cons {a : List Nat} {x y : Rows} (h : cLt x y = true) : cLt (a :: x) (a :: y) = true := by
  show (if a = a then cLt x y else _) = true
  rw [if_pos rfl]; exact h
theorem cLt_head {a b : List Nat} {x y : Rows} (h : a < b) : cLt (a :: x) (b :: y) = true := by
  show (if a = b then cLt x y else decide (a < b)) = true
  rw [if_neg (fun z => lt_irr a (by rw [z] at h ⊢; exact h))]
  exact decide_eq_true h
theorem exts_lt {r : RU} {e : List Nat} {ls : Rows} (so : ls.Pairwise (· < ·)) : ∀ {cs : Rows} {s : SState}, (extsL r e ls s cs).Pairwise fun x y => cLt x y = true
  | [], _ => List.pairwise_singleton _ _
  | c :: cs, s => by
    show ((behindL r e ls s c).flatMap _).Pairwise _
    rw [List.pairwise_flatMap]
    refine ⟨fun o _ => ?_, ?_⟩
    · rw [List.pairwise_map]
      exact (exts_lt so).imp fun h => cLt_cons h
    · unfold behindL
      rw [List.pairwise_map]
      refine (so.filter _).imp fun {t u} h a ha b hb => ?_
      obtain ⟨x, _, rfl⟩ := List.mem_map.mp ha
      obtain ⟨y, _, rfl⟩ := List.mem_map.mp hb
      exact cLt_head h
theorem fores_lt {r : RU} {e : List Nat} {ls : Rows} (so : ls.Pairwise (· < ·)) {cs : Rows} : (foresL r e ls cs).Pairwise fun x y => cLt x y = true := by
  unfold foresL statesL
  rw [List.pairwise_flatMap]
  refine ⟨fun s _ => ?_, ?_⟩
  · rw [List.pairwise_map]
    exact (exts_lt so).imp fun h => cLt_cons (cLt_cons h)
  · rw [List.pairwise_flatMap]
    refine ⟨fun a _ => ?_, so.imp fun {a b} h s hs t ht x hx y hy => ?_⟩
    · rw [List.pairwise_map]
      refine so.imp fun {b c} h x hx y hy => ?_
      obtain ⟨x, _, rfl⟩ := List.mem_map.mp hx
      obtain ⟨y, _, rfl⟩ := List.mem_map.mp hy
      exact cLt_cons (cLt_head h)
    · obtain ⟨c, _, rfl⟩ := List.mem_map.mp hs
      obtain ⟨d, _, rfl⟩ := List.mem_map.mp ht
      obtain ⟨x, _, rfl⟩ := List.mem_map.mp hx
      obtain ⟨y, _, rfl⟩ := List.mem_map.mp hy
      exact cLt_head h
theorem sig_lt2 (n : Nat) : (signsN n).Pairwise (· < ·) := List.Pairwise.sublist (List.take_sublist _ _) (by decide : SIG.Pairwise (· < ·))
theorem toPys_rows : ∀ x : Rows, toPys (x.map sD) = x.map fun c => PyData.str (mk c)
  | [] => rfl
  | c :: x => by
    show PyData.str (mk c) :: toPys (x.map sD) = _
    rw [toPys_rows x]
    rfl
theorem alike_strs : ∀ {x y : Rows}, PySem.W.alike (.list (x.map fun c => PyData.str (mk c))) (.list (y.map fun c => PyData.str (mk c))) = true
  | [], _ => by simp [PySem.W.alike, PySem.W.alikeAll]
  | _ :: _, [] => by simp [PySem.W.alike, PySem.W.alikeAll]
  | a :: x, b :: y => by
    have ih := alike_strs (x := x) (y := y)
    simp only [PySem.W.alike] at ih
    simp only [List.map_cons, PySem.W.alike, PySem.W.alikeAll, Bool.true_and]
    exact ih
theorem cLt_data : ∀ {x y : Rows}, x.length = y.length → PyProof.Rows.lexLt PyProof.Rows.itemOrd (PySem.W.keyToksAll (x.map fun c => PyData.str (mk c))) (PySem.W.keyToksAll (y.map fun c => PyData.str (mk c))) = cLt x y
  | [], [], _ => rfl
  | [], _ :: _, h => by cases h
  | _ :: _, [], h => by cases h
  | a :: x, b :: y, h => by
    rw [List.map_cons, List.map_cons]
    show _ = if a = b then cLt x y else decide (a < b)
    by_cases e : a = b
    · rw [if_pos e, PySem.W.dataLt_all_yes rfl (by rw [e]; simp [PyData.eqv]), cLt_data (by simpa using h)]
    · rw [if_neg e, PySem.W.dataLt_all_no rfl (by simp [PyData.eqv, e]), PySem.W.dataLt_str, mk_cps, mk_cps]
theorem dOk_rowsS {n : Nat} {x : Rows} (h : ∀ c ∈ x, ∀ s ∈ c, s ∈ signsN n) : dOk 2 (rowsD x) := .lst (n := 1) fun d hd => by
  obtain ⟨c, hc, rfl⟩ := List.mem_map.mp hd
  exact .str fun s hs => sig_lt s (signsN_in (h c hc s hs))
theorem fNe_i {i j : Int} {Q : D → Prop} (q : Q (.bl (!decide (i = j)))) : fNe (.int i) (.int j) Q := by
  show fEqN true (.v (.int i)) (.v (.int j)) Q
  simp
  simpa using q
theorem rowsL_len {x : Rows} {h : Nat} : (rowsL x h).length = h := by unfold rowsL; rw [List.length_map, List.length_range]
theorem rowsL_wide {x : Rows} {h : Nat} : ∀ r ∈ rowsL x h, r.length = x.length := fun r hr => by
  obtain ⟨y, _, rfl⟩ := List.mem_map.mp hr
  exact flat_one fun _ _ => rfl
theorem cols_rows {x : Rows} {h : Nat} (hx : ∀ c ∈ x, c.length = h) (h1 : 1 ≤ h) : colsL (rowsL x h) = x := by
  have w0 : ((rowsL x h).headD []).length = x.length := by
    cases e : rowsL x h with
    | nil =>
      have := rowsL_len (x := x) (h := h)
      rw [e] at this
      exact absurd this (by show ¬ 0 = h; omega)
    | cons a l => exact rowsL_wide a (by rw [e]; exact List.mem_cons_self)
  unfold colsL
  rw [w0]
  refine List.ext_getElem? fun i => ?_
  rw [List.getElem?_map]
  by_cases hi : i < x.length
  · rw [List.getElem?_range hi, List.getElem?_eq_getElem hi]
    show some _ = some _
    congr 1
    have hl := hx _ (List.getElem_mem hi)
    show (rowsL x h).flatMap (fun r => [r.getD i 0]) = _
    rw [flat_ones]
    unfold rowsL
    rw [List.map_map]
    refine List.ext_getElem? fun y => ?_
    rw [List.getElem?_map]
    by_cases hy : y < h
    · rw [List.getElem?_range hy, List.getElem?_eq_getElem (by omega)]
      show some ((x.flatMap fun c => [c.getD y 0]).getD i 0) = _
      rw [flat_ones, List.getD_eq_getElem?_getD, List.getElem?_map, List.getElem?_eq_getElem hi]
      show some ((x[i]).getD y 0) = _
      rw [List.getD_eq_getElem?_getD, List.getElem?_eq_getElem (by omega)]
      rfl
    · rw [List.getElem?_eq_none (by rw [List.length_range]; omega), List.getElem?_eq_none (by omega)]
      rfl
  · rw [List.getElem?_eq_none (by rw [List.length_range]; omega), List.getElem?_eq_none (by omega)]
    rfl
theorem rows_pic {n h : Nat} {x : Rows} (hx : ∀ c ∈ x, c ∈ wordsL (signsN n) h) (h1 : 1 ≤ h) (h64 : h ≤ 64) (hl : x.length ≤ 1000) : PicOk n h x.length (rowsL x h) :=
  ⟨rowsL_len, rowsL_wide, fun r hr s hs => by
    obtain ⟨y, hy, rfl⟩ := List.mem_map.mp hr
    obtain ⟨c, hc, hs⟩ := List.mem_flatMap.mp hs
    rw [List.mem_singleton.mp hs]
    obtain ⟨k1, k2⟩ := wordsL_mem.mp (hx c hc)
    have hy := List.mem_range.mp hy
    rw [List.getD_eq_getElem?_getD, List.getElem?_eq_getElem (by omega)]
    exact k2 _ (List.getElem_mem _), h1, h64, hl⟩
theorem ok_law (T : Txt w K mg ad fd) : FnG P w K mg base CX0 9 (ad 66) (fd 66) p_law (spLaw K) := by
  have G_how_many := ok_how_many (P := P) (w := w) (base := base) T
  have G_forebear := ok_forebear (P := P) (w := w) (base := base) T
  have G_Lbag := ok_Lbag (P := P) (w := w) (base := base) T
  have G_Ltake := ok_Ltake (P := P) (w := w) (base := base) T
  have G_Lsigns := ok_Lsigns (P := P) (w := w) (base := base) T
  have G_Lletters := ok_Lletters (P := P) (w := w) (base := base) T
  have G_Lcolumns := ok_Lcolumns (P := P) (w := w) (base := base) T
  have G_Lrows := ok_Lrows (P := P) (w := w) (base := base) T
  have G_Lstrip := ok_Lstrip (P := P) (w := w) (base := base) T
  have G_Lnext_rows := ok_Lnext_rows (P := P) (w := w) (base := base) T
  have G_Lmade_rule := ok_Lmade_rule (P := P) (w := w) (base := base) T
  have G_Lwords := ok_Lwords (P := P) (w := w) (base := base) T
  refine fnG0 T.h_law.F sc_law (fun vs H Q E h => spLaw_len h) fun cdv A outer s H vs Q E hr h => ?_
  suffices hh : ∃ (ts : TS) (td : Wd → TDS), (∀ W, DSs (cxOf CX0 P w K mg base n_law "law" (defScope s_law) (ad 66) cdv A outer s H E).nox K W (fun _ _ _ _ => False) ((defBody s_law).drop 1) ts (td W)) ∧ ∀ (b c : Addr) (cells : List Int), td (bagW b c cells) (none :: some (.dat (.v (.ref b))) :: List.replicate (n_law.length - 2) none) endsL by
    obtain ⟨ts, td, hd, hm⟩ := hh
    exact ⟨_, pss_cons (ps_set (i := 1) sc_law.nd rfl (by first | exact Or.inl rfl | exact Or.inr rfl) (pe_callG (E := fun _ => E0) G_Lbag (hr.mono (by decide)) rfl T.h_Lbag.g T.h_Lbag.k T.h_Lbag.b (fun σ pins H s e s' I => (pass0 : Passes _ _ _) pins σ H s e s' I) (pa_cons (pv 0) pa_nil))) (hd (bagW 0 0 [])).ps, read_law h (by decide) (fun W => (hd W).sim) hm⟩
  refine ⟨_, _, fun W => (dss_cons (ds_asg (de_call G_Lstrip (hr.mono (by decide)) T.h_Lstrip.g T.h_Lstrip.k T.h_Lstrip.b pass0 (da_cons (dv 1) (da_cons de_int da_nil))) (dg_tup rfl (dgs_cons (dg_name (i := 2) sc_law.nd) (dgs_cons (dg_name (i := 3) sc_law.nd) (dgs_cons (dg_name (i := 4) sc_law.nd) dgs_nil)))))
      (dss_cons (ds_set (i := 5) sc_law.nd (de_call G_Lmade_rule (hr.mono (by decide)) T.h_Lmade_rule.g T.h_Lmade_rule.k T.h_Lmade_rule.b pass0 (da_cons (dv 2) da_nil)))
      (dss_cons (ds_set (i := 6) sc_law.nd (de_call G_Lletters (hr.mono (by decide)) T.h_Lletters.g T.h_Lletters.k T.h_Lletters.b pass0 (da_cons (de_call G_Lsigns (hr.mono (by decide)) T.h_Lsigns.g T.h_Lsigns.k T.h_Lsigns.b pass0 (da_cons (de_ix (dv 2) de_int) da_nil)) (da_cons (dv 4) da_nil))))
      (dss_cons (ds_set (i := 7) sc_law.nd (de_call G_Ltake (hr.mono (by decide)) T.h_Ltake.g T.h_Ltake.k T.h_Ltake.b pass0 (da_cons (dv 1) (da_cons (de_kget hr.units (DX.dat (dx_dispK (dpk_cons de_int de_int (dpk_cons de_int de_int (dpk_cons de_int de_int dpk_nil))))) (de_len T.m_len (da_cons (dv 6) da_nil))) da_nil))))
      (dss_cons (ds_setLcD (i := 8) rfl sc_law.nd (di_any (de_call G_Lwords (hr.mono (by decide)) T.h_Lwords.g T.h_Lwords.k T.h_Lwords.b pass0 (da_cons (dv 6) (da_cons (dv 7) da_nil)))) (blkOk_by (own := [("_law_columns_here", 17)]) (N := n_law) (by kernel_rfl)) (fun _ _ _ _ _ => (dg_name (i := 17) sc_law.nd)) (fun _ _ _ _ _ => dts_nil) (fun _ _ _ _ _ => (DO.e (do_call G_Lrows (hr.mono (by decide)) T.h_Lrows.g T.h_Lrows.k T.h_Lrows.b pass0 (da_cons (DO.e (do_list T.m_list (da_cons (dv 17) da_nil))) (da_cons (dv 4) da_nil))))))
      (dss_cons (ds_setLcD (i := 9) rfl sc_law.nd (di_any (dv 8)) (blkOk_by (own := [("_law_rows_here", 13)]) (N := n_law) (by kernel_rfl)) (fun _ _ _ _ _ => (dg_name (i := 13) sc_law.nd)) (fun _ _ _ _ _ => dts_nil) (fun _ _ _ _ _ => (de_call G_how_many (hr.mono (by decide)) T.h_how_many.g T.h_how_many.k T.h_how_many.b pass0 (da_cons (dv 5) (da_cons (dv 3) (da_cons (dv 13) da_nil))))))
      (dss_cons (ds_set (i := 10) sc_law.nd (de_mul (de_mul (de_len T.m_len (da_cons (dv 6) da_nil)) (de_len T.m_len (da_cons (dv 6) da_nil))) (de_len T.m_len (da_cons (dv 8) da_nil))))
      (dss_cons (ds_if (DW.t (dw_or (dt_ne hr.units (de_sumL rfl T.m_sum (da_cons (dv 9) da_nil)) (dv 10)) (dw_or1 (dt_lt (de_minL rfl T.m_min (da_cons (dv 9) da_nil)) de_int)))) (dss_one (ds_ret de_bl)) dss_nil)
      (dss_cons (ds_set (i := 11) sc_law.nd (de_call G_Ltake (hr.mono (by decide)) T.h_Ltake.g T.h_Ltake.k T.h_Ltake.b pass0 (da_cons (dv 1) (da_cons (de_len T.m_len (da_cons (dv 8) da_nil)) da_nil))))
      (dss_cons (ds_for PassesOwn.never rfl (di_any (DO.e (do_sl (DO.e (do_cat (DO.e (do_listRg rfl T.m_list T.m_range (dv 11) (de_len T.m_len (da_cons (dv 8) da_nil)))) (DO.e (do_listRg1 rfl T.m_list T.m_range (dv 11))))) dp_none (dp_some de_int)))) (dg_name (i := 12) sc_law.nd) (dss_cons (ds_par (i := 13) (j := 14) rfl sc_law.nd (da_cons (de_ix (dv 8) (dv 12)) (da_cons (de_ix (dv 9) (dv 12)) da_nil)))
      (dss_cons (ds_if (dt_ne hr.units (de_call G_how_many (hr.mono (by decide)) T.h_how_many.g T.h_how_many.k T.h_how_many.b pass0 (da_cons (dv 5) (da_cons (dv 3) (da_cons (dv 13) da_nil)))) (dv 14)) (dss_one (ds_ret de_bl)) dss_nil)
      (dss_one (ds_if (dt_gt (dv 14) de_int) (dss_cons (ds_par (i := 15) (j := 16) rfl sc_law.nd (da_cons (DO.e (do_call G_forebear (hr.mono (by decide)) T.h_forebear.g T.h_forebear.k T.h_forebear.b pass0 (da_cons (dv 5) (da_cons (dv 3) (da_cons (dv 13) (da_cons de_int da_nil)))))) (da_cons (DO.e (do_call G_forebear (hr.mono (by decide)) T.h_forebear.g T.h_forebear.k T.h_forebear.b pass0 (da_cons (dv 5) (da_cons (dv 3) (da_cons (dv 13) (da_cons (de_sub (dv 14) de_int) da_nil)))))) da_nil)))
      (dss_cons (ds_if (DW.t (dw_or (dt_ne hr.units (de_eq hr.units (dv 15) (dv 16)) (de_eq hr.units (dv 14) de_int)) (dw_or1 (dt_gtD hr.units (DO.e (do_call G_Lcolumns (hr.mono (by decide)) T.h_Lcolumns.g T.h_Lcolumns.k T.h_Lcolumns.b pass0 (da_cons (dv 15) da_nil))) (DO.e (do_call G_Lcolumns (hr.mono (by decide)) T.h_Lcolumns.g T.h_Lcolumns.k T.h_Lcolumns.b pass0 (da_cons (dv 16) da_nil))))))) (dss_one (ds_ret de_bl)) dss_nil)
      (dss_one (ds_if (DW.t (dw_or (dt_ne hr.units (DO.e (do_call G_Lnext_rows (hr.mono (by decide)) T.h_Lnext_rows.g T.h_Lnext_rows.k T.h_Lnext_rows.b pass0 (da_cons (dv 2) (da_cons (dv 3) (da_cons (dv 15) da_nil))))) (dv 13)) (dw_or1 (dt_ne hr.units (DO.e (do_call G_Lnext_rows (hr.mono (by decide)) T.h_Lnext_rows.g T.h_Lnext_rows.k T.h_Lnext_rows.b pass0 (da_cons (dv 2) (da_cons (dv 3) (da_cons (dv 16) da_nil))))) (dv 13))))) (dss_one (ds_ret de_bl)) dss_nil)))) dss_nil)))))
      (dss_one (ds_ret de_bl)))))))))))), fun b c cells => ?_⟩
  refine tdSeq_cut (fun τ => ∃ (r : RU) (c0 h : Nat), StripOk r [c0] h ∧ (r.n, h) ∈ sizesL.take 5 ∧ τ = [none, some (.dat (.v (.ref b))), some (.dat r.parts), some (.dat (sD [c0])), some (.dat (.int h)), none, none, none, none, none, none, none, none, none, none, none, none, none]) (fun nx hnx => ?_) ?_
  · exact ⟨_, rfl, rfl, b, c, cells, 5, rfl, rfl, by decide, by decide, fun r e h ok hm => ⟨rfl, rfl, hnx _ ⟨r, e, h, ok, hm, rfl⟩⟩⟩
  rintro _ ⟨r, c0, h, ok, hm, rfl⟩
  have g := ok.ru
  have n1 := g.n1
  have n2 := g.n2
  have h3 := ok.h3
  have l8 := ok.ll
  have h1 := ok.h1
  have lnd := ok.ln
  have lin := made_in ok
  have lso := wordsL_lt (sig_lt2 r.n) (k := h)
  have lm : ∀ c ∈ wordsL (signsN r.n) h, c.length = h ∧ ∀ s ∈ c, s ∈ signsN r.n := fun c hc => wordsL_mem.mp hc
  have lc : (wordsL (signsN r.n) h).length = r.n ^ h := by rw [wordsL_count, signsN_len n2]
  refine tdSeq_asg (r.d ad) (fun Q R q => ⟨_, rfl, rfl, r, rfl, g, q⟩) ?_
  refine tdSeq_asg (rowsD (wordsL (signsN r.n) h)) (fun Q R q => ⟨_, rfl, _, atI_of (k := 1) rfl, rfl, r.n, rfl, n2, _, rfl, rfl, signsN r.n, h, rfl, by rw [signsN_len n2]; exact n1, by rw [signsN_len n2]; exact n2, by omega, by rw [signsN_len n2]; exact Nat.le_trans ok.l8 (by decide), q⟩) ?_
  obtain ⟨m, em, m1, m5, mp⟩ : ∃ m : Nat, valD [(.inl 2, D.int 5), (.inl 3, .int 3), (.inl 4, .int 3)] (.inl ((wordsL (signsN r.n) h).length : Nat)) = some (.int m) ∧ 1 ≤ m ∧ m ≤ 5 ∧ ∀ v : Nat, v < m → (wordsL (signsN r.n) h).length ^ v ≤ 16 ∧ 2 ≤ (wordsL (signsN r.n) h).length := by
    rw [lc]
    have all : ∀ p ∈ sizesL.take 5, ∃ m : Nat, valD [(.inl 2, D.int 5), (.inl 3, .int 3), (.inl 4, .int 3)] (.inl ((p.1 ^ p.2 : Nat) : Int)) = some (.int m) ∧ 1 ≤ m ∧ m ≤ 5 ∧ ∀ v : Nat, v < m → (p.1 ^ p.2) ^ v ≤ 16 ∧ 2 ≤ p.1 ^ p.2 := fun p hp => by
      have hp : p = (2, 1) ∨ p = (2, 2) ∨ p = (3, 1) ∨ p = (2, 1) ∨ p = (4, 1) := by simpa [sizesL] using hp
      rcases hp with rfl | rfl | rfl | rfl | rfl
      · exact ⟨5, rfl, by decide, by decide, by decide⟩
      · exact ⟨3, rfl, by decide, by decide, by decide⟩
      · exact ⟨3, rfl, by decide, by decide, by decide⟩
      · exact ⟨5, rfl, by decide, by decide, by decide⟩
      · exact ⟨3, rfl, by decide, by decide, by decide⟩
    exact all _ hm
  have l2 := (mp 0 m1).2
  generalize hls : wordsL (signsN r.n) h = ls at *
  refine tdSeq_asgP (fun d => ∃ k : Nat, d = .int k ∧ k ≤ 4 ∧ ls.length ^ k ≤ 16) (fun Q R q => ⟨_, rfl, .inl 2, rfl, .inl 3, rfl, .inl 4, rfl, by show ([.inl 2, .inl 3, .inl 4] : List L2.Key).Nodup; decide, by show 3 ≤ 15; decide, _, rfl, ?_⟩) ?_
  · simp only [tdNil, show rowsD ls = .lst (ls.map sD) from rfl, fLen_lst, List.length_map]
    refine ⟨.inl (ls.length : Nat), _, rfl, em, rfl, take_i (n := (m : Int)) (by omega) (by omega) fun v a1 a2 => q _ ⟨v.toNat, congrArg D.int (by omega), by omega, (mp v.toNat (by omega)).1⟩⟩
  rintro _ ⟨k, rfl, k4, kp⟩
  have wl : (wordsT ls k).length ≤ 16 := by rw [wordsT_count]; exact kp
  have w1 : 1 ≤ (wordsT ls k).length := by rw [wordsT_count]; exact Nat.one_le_pow _ _ (by omega)
  have wm : ∀ w ∈ wordsT ls k, w.length = k ∧ ∀ c ∈ w, c ∈ ls := fun w hw => wordsT_mem.mp hw
  have pic : ∀ x : Rows, (∀ c ∈ x, c ∈ ls) → x.length ≤ 1000 → PicOk r.n h x.length (rowsL x h) := fun x hx hl => rows_pic (by rw [hls]; exact hx) h1 (by omega) hl
  have cr : ∀ x : Rows, (∀ c ∈ x, c ∈ ls) → colsL (rowsL x h) = x := fun x hx => cols_rows (fun c hc => (lm c (hx c hc)).1) h1
  refine tdSeq_asg (.lst ((wordsT ls k).map fun w => rowsD (rowsL w h))) (fun Q R q => ?_) ?_
  · refine ⟨_, rfl, _, rfl, rfl, ls, k, rfl, l2, by omega, by omega, ?_⟩
    show items (.lst ((wordsT ls k).map wdD)) _
    rw [items_lst]
    refine ⟨by rw [List.length_map]; exact Nat.le_trans wl (by decide), ?_⟩
    exact compD_mapL wdD (fun w => rowsD (rowsL w h)) (fun w hw Kk hk => ⟨_, rfl, _, rfl, rfl, w, h, rfl, fun c hc => (lm c ((wm w hw).2 c hc)).1, by omega, by rw [(wm w hw).1]; omega, hk⟩) q
  refine tdSeq_asg (.lst ((wordsT ls k).map fun w => .int ((foresL r [c0] ls w).length : Nat))) (fun Q R q => ?_) ?_
  · refine ⟨_, rfl, ?_⟩
    show items (.lst ((wordsT ls k).map _)) _
    rw [items_lst]
    refine ⟨by rw [List.length_map]; exact Nat.le_trans wl (by decide), ?_⟩
    refine compD_mapL (fun w => rowsD (rowsL w h)) (fun w => .int ((foresL r [c0] ls w).length : Nat)) (fun w hw Kk hk => ⟨_, rfl, _, rfl, _, rfl, rfl, r, [c0], h, w.length, rowsL w h, rfl, ok, pic w (wm w hw).2 (by rw [(wm w hw).1]; omega), ?_⟩) q
    rw [hls, cr w (wm w hw).2]
    exact hk
  have tot := fores_all (r := r) (e := [c0]) lnd lin (k := k)
  refine tdSeq_asg (.int ((ls.length * ls.length * (wordsT ls k).length : Nat))) (fun Q R q => ?_) ?_
  · have lw : ls.length ≤ 8 := l8
    refine ⟨_, rfl, ?_⟩
    simp only [tdNil, show rowsD ls = .lst (ls.map sD) from rfl, fLen_lst, List.length_map]
    refine ⟨_, rfl, ?_⟩
    simp only [fLen_lst, List.length_map]
    refine ⟨by unfold CMul; omega, _, rfl, ?_⟩
    simp only [fLen_lst, List.length_map]
    have e2 : ((ls.length : Nat) : Int) * ((ls.length : Nat) : Int) = ((ls.length * ls.length : Nat) : Int) := by push_cast; rfl
    refine ⟨.inr (by rw [List.length_map]; omega), ?_⟩
    rw [e2, List.length_map]
    have e3 : ((ls.length * ls.length : Nat) : Int) * (((wordsT ls k).length : Nat) : Int) = ((ls.length * ls.length * (wordsT ls k).length : Nat) : Int) := by push_cast; rfl
    dsimp only
    rw [e3]
    exact q
  refine tdSeq_if1 false (fun Q R q => tdOr_by false false (fun Q R q => tdTest_by false (fun Q R q => ?_) q) (fun _ Q R q => tdTest_by false (fun Q R q => ?_) q) q) (fun z => nomatch z) (fun _ => ?_)
  · refine ⟨_, rfl, (wordsT ls k).map fun w => (((foresL r [c0] ls w).length : Nat) : Int), by rw [List.map_map]; rfl, _, rfl, ?_⟩
    have e : ((wordsT ls k).map fun w => (((foresL r [c0] ls w).length : Nat) : Int)).sum = ((ls.length * ls.length * (wordsT ls k).length : Nat) : Int) := by
      rw [← tot, ← sum_cast, List.map_map]
      rfl
    rw [e]
    exact fNe_i (by rw [decide_eq_true rfl]; exact q)
  · refine ⟨_, rfl, (wordsT ls k).map fun w => (((foresL r [c0] ls w).length : Nat) : Int), by rw [List.map_map]; rfl, fun z => ?_, fun m hm _ => ?_⟩
    · have := congrArg List.length z
      rw [List.length_map] at this
      have : (wordsT ls k).length = 0 := this
      omega
    · obtain ⟨w, _, rfl⟩ := List.mem_map.mp hm
      show Q (.bl (decide ((((foresL r [c0] ls w).length : Nat) : Int) < 0)))
      rw [decide_eq_false (by omega)]
      exact q
  refine tdSeq_asgP (fun d => ∃ v : Nat, d = .int v ∧ v < (wordsT ls k).length) (fun Q R q => ⟨_, rfl, _, rfl, ?_⟩) ?_
  · simp only [tdNil, fLen_lst, List.length_map]
    exact ⟨rfl, take_i (n := ((wordsT ls k).length : Nat)) (by omega) (by omega) fun v a1 a2 => q _ ⟨v.toNat, congrArg D.int (by omega), by omega⟩⟩
  rintro _ ⟨v, rfl, hv⟩
  refine tdSeq_cut (fun τ => True) (fun nx hnx => ?_) (fun τ _ => ?_)
  · refine tdFor_by (fun es => ∀ d ∈ es, ∃ i : Nat, d = .int i ∧ i < (wordsT ls k).length) (fun Q R q => ?_) ?_
    · refine ⟨_, rfl, _, rfl, ?_⟩
      simp only [tdNil, fLen_lst, List.length_map, fRgL_int, tdC]
      refine ⟨RgOk.of_le (by omega) (by omega) (by omega) (by omega), _, rfl, ?_⟩
      simp only [fRgL_int, tdNoPart, tdPart, onI_int, onLst_lst]
      refine ⟨RgOk.of_le (by omega) (by omega) (by omega) (by omega), ?_⟩
      refine ⟨by rw [numsD_length, numsD_length]; exact Nat.le_trans (show (((wordsT ls k).length : Int) - v).toNat + ((v : Int) - 0).toNat ≤ 16 by omega) (by decide), ?_⟩
      simp only [tdC, onI_int]
      rw [items_lst]
      refine q _ fun d hd => ?_
      have hd : d ∈ numsD (v : Nat) (((wordsT ls k).length : Int) - v).toNat ++ numsD 0 ((v : Int) - 0).toNat := List.mem_of_mem_drop (List.mem_of_mem_take hd)
      rcases List.mem_append.mp hd with hd | hd
      · obtain ⟨i, hi, rfl⟩ := mem_numsD hd
        exact ⟨v + i, congrArg D.int (by push_cast; rfl), by omega⟩
      · obtain ⟨i, hi, rfl⟩ := mem_numsD hd
        exact ⟨i, congrArg D.int (by omega), by omega⟩
    intro es hes
    refine forD_word (fun pre τ => ∃ z12 z13 z14 z15 z16 : Option SD, τ = [none, some (.dat (.v (.ref b))), some (.dat r.parts), some (.dat (sD [c0])), some (.dat (.int h)), some (.dat (r.d ad)), some (.dat (rowsD ls)), some (.dat (.int k)), some (.dat (.lst ((wordsT ls k).map fun w => rowsD (rowsL w h)))), some (.dat (.lst ((wordsT ls k).map fun w => .int ((foresL r [c0] ls w).length : Nat)))), some (.dat (.int ((ls.length * ls.length * (wordsT ls k).length : Nat)))), some (.dat (.int v)), z12, z13, z14, z15, z16, none]) es gdName_mono ?_ (fun τ _ => hnx τ trivial) [] _ _ rfl ⟨_, _, _, _, _, rfl⟩
    rintro pre d post τ he ⟨z12, z13, z14, z15, z16, rfl⟩ nx2 hnx2
    obtain ⟨i, rfl, hi⟩ := hes d (he ▸ List.mem_append_right _ List.mem_cons_self)
    obtain ⟨w0, hw0⟩ : ∃ w0, (wordsT ls k)[i]? = some w0 := ⟨_, List.getElem?_eq_getElem hi⟩
    obtain ⟨wk, wls⟩ := wm w0 (List.mem_of_getElem? hw0)
    have pw0 := pic w0 wls (by omega)
    have cw0 := cr w0 wls
    have at8 : ((wordsT ls k).map fun w => rowsD (rowsL w h))[i]? = some (rowsD (rowsL w0 h)) := by rw [List.getElem?_map, hw0]; rfl
    have at9 : ((wordsT ls k).map fun w => D.int ((foresL r [c0] ls w).length : Nat))[i]? = some (.int ((foresL r [c0] ls w0).length : Nat)) := by rw [List.getElem?_map, hw0]; rfl
    refine tdSeq_par (fun d => d = rowsD (rowsL w0 h)) (fun d => d = .int ((foresL r [c0] ls w0).length : Nat)) (fun Q R q => ⟨_, rfl, _, rfl, _, atI_of at8, q _ rfl⟩) (fun Q R q => ⟨_, rfl, _, rfl, _, atI_of at9, q _ rfl⟩) ?_
    rintro _ _ rfl rfl
    have flt := fores_lt (r := r) (e := [c0]) lso (cs := w0)
    have fmem : ∀ x ∈ foresL r [c0] ls w0, (∀ c ∈ x, c ∈ ls) ∧ x.length = k + 2 ∧ midsL r [c0] x = w0 := fun x hx => by
      have := fores_mem hx
      rw [wk] at this
      exact this
    refine tdSeq_if1 false (fun Q R q => tdTest_by false (fun Q R q => ⟨_, rfl, _, rfl, _, rfl, rfl, r, [c0], h, w0.length, rowsL w0 h, rfl, ok, pw0, ?_⟩) q) (fun z => nomatch z) (fun _ => ?_)
    · rw [hls, cw0]
      exact ⟨_, rfl, fNe_i (by rw [decide_eq_true rfl]; exact q)⟩
    generalize hF : foresL r [c0] ls w0 = F at flt fmem
    refine tdIf_by (decide (0 < F.length)) (fun Q R q => tdTest_by _ (fun Q R q => ⟨_, rfl, ?_⟩) q) (fun z => ?_) (fun _ => hnx2 _ ⟨_, _, _, _, _, rfl⟩)
    · show Q (.bl (decide ((0 : Int) < (F.length : Nat))))
      rw [show decide ((0 : Int) < (F.length : Nat)) = decide (0 < F.length) by by_cases h : 0 < F.length; rw [decide_eq_true h, decide_eq_true (by omega)]; rw [decide_eq_false h, decide_eq_false (by omega)]]
      exact q
    have z := of_decide_eq_true z
    obtain ⟨x0, hx0⟩ : ∃ x0, F[0]? = some x0 := ⟨_, List.getElem?_eq_getElem z⟩
    obtain ⟨x1, hx1⟩ : ∃ x1, F[F.length - 1]? = some x1 := ⟨_, List.getElem?_eq_getElem (by omega)⟩
    obtain ⟨k01, k02, k03⟩ := fmem x0 (List.mem_of_getElem? hx0)
    obtain ⟨k11, k12, k13⟩ := fmem x1 (List.mem_of_getElem? hx1)
    refine tdSeq_par (fun d => d = rowsD (rowsL x0 h)) (fun d => d = rowsD (rowsL x1 h)) (fun Q R q => ⟨_, rfl, _, rfl, _, rfl, rfl, r, [c0], h, w0.length, 0, rowsL w0 h, x0, rfl, ok, pw0, by rw [hls, cw0, hF]; exact hx0, q _ rfl⟩) (fun Q R q => ⟨_, rfl, _, rfl, _, rfl, _, rfl, ?_⟩) ?_
    · simp only [tdC, tdNil, fI, onII_int]
      rw [show ((F.length : Nat) : Int) - 1 = ((F.length - 1 : Nat) : Int) by omega]
      exact ⟨rfl, r, [c0], h, w0.length, F.length - 1, rowsL w0 h, x1, rfl, ok, pw0, by rw [hls, cw0, hF]; exact hx1, q _ rfl⟩
    rintro _ _ rfl rfl
    have p0 := pic x0 k01 (by omega)
    have p1 := pic x1 k11 (by omega)
    have c0r := cr x0 k01
    have c1r := cr x1 k11
    have d0 := dOk_rowsS p0.sg
    have d1 := dOk_rowsS p1.sg
    have dw := dOk_rowsS pw0.sg
    have e01 : decide (rowsL x0 h = rowsL x1 h) = decide (((F.length : Nat) : Int) = 1) := by
      by_cases h1 : F.length = 1
      · rw [h1] at hx1
        rw [hx0] at hx1
        cases hx1
        rw [decide_eq_true rfl, decide_eq_true (by omega)]
      · rw [decide_eq_false (show ¬ ((F.length : Nat) : Int) = 1 by omega)]
        refine decide_eq_false fun z2 => ?_
        have z3 : x0 = x1 := by rw [← c0r, ← c1r, z2]
        have := List.pairwise_iff_getElem.mp flt 0 (F.length - 1) z (by omega) (by omega)
        have g0 : F[0] = x0 := by rw [List.getElem?_eq_getElem z] at hx0; injection hx0
        have g1 : F[F.length - 1] = x1 := by rw [List.getElem?_eq_getElem (by omega)] at hx1; injection hx1
        rw [g0, g1, z3, cLt_irr] at this
        cases this
    have lt10 : cLt x1 x0 = false := by
      by_cases h1 : F.length = 1
      · rw [h1] at hx1
        rw [hx0] at hx1
        cases hx1
        exact cLt_irr x0
      · have := List.pairwise_iff_getElem.mp flt 0 (F.length - 1) z (by omega) (by omega)
        have g0 : F[0] = x0 := by rw [List.getElem?_eq_getElem z] at hx0; injection hx0
        have g1 : F[F.length - 1] = x1 := by rw [List.getElem?_eq_getElem (by omega)] at hx1; injection hx1
        rw [g0, g1] at this
        exact cLt_asy this
    refine tdSeq_if1 false (fun Q R q => tdOr_by false false (fun Q R q => tdTest_by false (fun Q R q => ⟨_, rfl, _, rfl, ?_⟩) q) (fun _ Q R q => tdTest_by false (fun Q R q => ⟨_, rfl, rfl, r.n, h, x0.length, rowsL x0 h, rfl, p0, ?_⟩) q) q) (fun z => nomatch z) (fun _ => ?_)
    · refine ⟨d0.cmp, d1.cmp, _, rfl, ?_⟩
      simp only [tdC]
      refine fEq_int ?_
      show fEqN true (.v (.bl _)) (.v (.bl _)) Q
      rw [fEqN_bl, eqD_rows, e01, Bool.false_xor, decide_eq_true rfl]
      exact q
    · rw [c0r]
      refine ⟨_, rfl, rfl, r.n, h, x1.length, rowsL x1 h, rfl, p1, ?_⟩
      rw [c1r]
      have s0 : dOk 2 (rowsD x0) := dOk_rowsS fun c hc => (lm c (k01 c hc)).2
      have s1 : dOk 2 (rowsD x1) := dOk_rowsS fun c hc => (lm c (k11 c hc)).2
      refine ⟨s0.cmp, s1.cmp, ?_, ?_, ?_⟩
      · show PySem.W.alike (.list (toPys (x0.map sD))) (.list (toPys (x1.map sD))) = true
        rw [toPys_rows, toPys_rows]
        exact alike_strs
      · intro z
        cases z
      · show Q (.bl (PySem.W.dataLt (.list (toPys (x1.map sD))) (.list (toPys (x0.map sD)))))
        rw [PySem.W.dataLt_list, toPys_rows, toPys_rows, cLt_data (by omega), lt10]
        exact q
    have nx0 : ∀ x : Rows, (∀ c ∈ x, c ∈ ls) → x.length = k + 2 → midsL r [c0] x = w0 → ∀ {Q : D → Prop}, Q (.bl false) → fNe (rowsD (rowsL (midsL r [c0] (colsL (rowsL x h))) h)) (rowsD (rowsL w0 h)) Q := fun x h1 h2 h3 {Q} q => by
      rw [cr x h1, h3]
      exact fNe_self dw.cmp dw.1 q
    exact tdIf_by false (fun Q R q => tdOr_by false false (fun Q R q => tdTest_by false (fun Q R q => ⟨_, rfl, _, rfl, _, rfl, rfl, r, [c0], h, x0.length, rowsL x0 h, rfl, ok, by simp, p0, by omega, ⟨_, rfl, nx0 x0 k01 k02 k03 q⟩⟩) q) (fun _ Q R q => tdTest_by false (fun Q R q => ⟨_, rfl, _, rfl, _, rfl, rfl, r, [c0], h, x1.length, rowsL x1 h, rfl, ok, by simp, p1, by omega, ⟨_, rfl, nx0 x1 k11 k12 k13 q⟩⟩) q) q) (fun z => nomatch z) (fun _ => hnx2 _ ⟨_, _, _, _, _, rfl⟩)
  · exact rfl
end
def adF (l : List (Nat × Addr)) (i : Nat) : Addr := (l.lookup i).getD 0
def fdF (d : FuncData) (l : List (Nat × FuncData)) (i : Nat) : FuncData := (l.lookup i).getD d
theorem all_mk {l : PySem.W.OpenLaw} {w : World} {K : PySem.W.Frag} {h : Heap} {mg : Str → Option Value} {fa f14 f15 f16 f17 f18 f22 f23 f25 f26 f27 f29 f30 f31 f32 f38 f39 f40 f41 f42 f43 f46 f47 f48 f49 f50 f51 f52 f53 f54 f55 f56 f57 f58 f59 f60 f61 f62 f63 f64 f65 f66 f3100 f3101 f3102 f3103 f3104 f3200 f3201 f3202 f3203 f3204 f3206 f3207 f3208 : Addr} (X : K.In h) (G : h.Ns mainGlobals mg) (hfa : mg "law" = some (.ref fa))
    {od14 an14 : Option Addr} {sl14 : Array (Option Value)} {oc14 kV14 dc14 pm14 cd14 ct14 : Value}
    {od15 an15 : Option Addr} {sl15 : Array (Option Value)} {oc15 kV15 dc15 pm15 cd15 ct15 : Value}
    {od16 an16 : Option Addr} {sl16 : Array (Option Value)} {oc16 kV16 dc16 pm16 cd16 ct16 : Value}
    {od17 an17 : Option Addr} {sl17 : Array (Option Value)} {oc17 kV17 dc17 pm17 cd17 ct17 : Value}
    {od18 an18 : Option Addr} {sl18 : Array (Option Value)} {oc18 kV18 dc18 pm18 cd18 ct18 : Value}
    {od22 an22 : Option Addr} {sl22 : Array (Option Value)} {oc22 kV22 dc22 pm22 cd22 ct22 : Value}
    {od23 an23 : Option Addr} {sl23 : Array (Option Value)} {oc23 kV23 dc23 pm23 cd23 ct23 : Value}
    {od25 an25 : Option Addr} {sl25 : Array (Option Value)} {oc25 kV25 dc25 pm25 cd25 ct25 : Value}
    {od26 an26 : Option Addr} {sl26 : Array (Option Value)} {oc26 kV26 dc26 pm26 cd26 ct26 : Value}
    {od27 an27 : Option Addr} {sl27 : Array (Option Value)} {oc27 kV27 dc27 pm27 cd27 ct27 : Value}
    {od29 an29 : Option Addr} {sl29 : Array (Option Value)} {oc29 kV29 dc29 pm29 cd29 ct29 : Value}
    {od30 an30 : Option Addr} {sl30 : Array (Option Value)} {oc30 kV30 dc30 pm30 cd30 ct30 : Value}
    {od31 an31 : Option Addr} {sl31 : Array (Option Value)} {oc31 kV31 dc31 pm31 cd31 ct31 : Value}
    {od32 an32 : Option Addr} {sl32 : Array (Option Value)} {oc32 kV32 dc32 pm32 cd32 ct32 : Value}
    {od38 an38 : Option Addr} {sl38 : Array (Option Value)} {oc38 kV38 dc38 pm38 cd38 ct38 : Value}
    {od39 an39 : Option Addr} {sl39 : Array (Option Value)} {oc39 kV39 dc39 pm39 cd39 ct39 : Value}
    {od40 an40 : Option Addr} {sl40 : Array (Option Value)} {oc40 kV40 dc40 pm40 cd40 ct40 : Value}
    {od41 an41 : Option Addr} {sl41 : Array (Option Value)} {oc41 kV41 dc41 pm41 cd41 ct41 : Value}
    {od42 an42 : Option Addr} {sl42 : Array (Option Value)} {oc42 kV42 dc42 pm42 cd42 ct42 : Value}
    {od43 an43 : Option Addr} {sl43 : Array (Option Value)} {oc43 kV43 dc43 pm43 cd43 ct43 : Value}
    {od46 an46 : Option Addr} {sl46 : Array (Option Value)} {oc46 kV46 dc46 pm46 cd46 ct46 : Value}
    {od47 an47 : Option Addr} {sl47 : Array (Option Value)} {oc47 kV47 dc47 pm47 cd47 ct47 : Value}
    {od48 an48 : Option Addr} {sl48 : Array (Option Value)} {oc48 kV48 dc48 pm48 cd48 ct48 : Value}
    {od49 an49 : Option Addr} {sl49 : Array (Option Value)} {oc49 kV49 dc49 pm49 cd49 ct49 : Value}
    {od50 an50 : Option Addr} {sl50 : Array (Option Value)} {oc50 kV50 dc50 pm50 cd50 ct50 : Value}
    {od51 an51 : Option Addr} {sl51 : Array (Option Value)} {oc51 kV51 dc51 pm51 cd51 ct51 : Value}
    {od52 an52 : Option Addr} {sl52 : Array (Option Value)} {oc52 kV52 dc52 pm52 cd52 ct52 : Value}
    {od53 an53 : Option Addr} {sl53 : Array (Option Value)} {oc53 kV53 dc53 pm53 cd53 ct53 : Value}
    {od54 an54 : Option Addr} {sl54 : Array (Option Value)} {oc54 kV54 dc54 pm54 cd54 ct54 : Value}
    {od55 an55 : Option Addr} {sl55 : Array (Option Value)} {oc55 kV55 dc55 pm55 cd55 ct55 : Value}
    {od56 an56 : Option Addr} {sl56 : Array (Option Value)} {oc56 kV56 dc56 pm56 cd56 ct56 : Value}
    {od57 an57 : Option Addr} {sl57 : Array (Option Value)} {oc57 kV57 dc57 pm57 cd57 ct57 : Value}
    {od58 an58 : Option Addr} {sl58 : Array (Option Value)} {oc58 kV58 dc58 pm58 cd58 ct58 : Value}
    {od59 an59 : Option Addr} {sl59 : Array (Option Value)} {oc59 kV59 dc59 pm59 cd59 ct59 : Value}
    {od60 an60 : Option Addr} {sl60 : Array (Option Value)} {oc60 kV60 dc60 pm60 cd60 ct60 : Value}
    {od61 an61 : Option Addr} {sl61 : Array (Option Value)} {oc61 kV61 dc61 pm61 cd61 ct61 : Value}
    {od62 an62 : Option Addr} {sl62 : Array (Option Value)} {oc62 kV62 dc62 pm62 cd62 ct62 : Value}
    {od63 an63 : Option Addr} {sl63 : Array (Option Value)} {oc63 kV63 dc63 pm63 cd63 ct63 : Value}
    {od64 an64 : Option Addr} {sl64 : Array (Option Value)} {oc64 kV64 dc64 pm64 cd64 ct64 : Value}
    {od65 an65 : Option Addr} {sl65 : Array (Option Value)} {oc65 kV65 dc65 pm65 cd65 ct65 : Value}
    {od66 an66 : Option Addr} {sl66 : Array (Option Value)} {oc66 kV66 dc66 pm66 cd66 ct66 : Value}
    {od3100 an3100 : Option Addr} {sl3100 : Array (Option Value)} {oc3100 kV3100 dc3100 pm3100 cd3100 ct3100 : Value}
    {od3101 an3101 : Option Addr} {sl3101 : Array (Option Value)} {oc3101 kV3101 dc3101 pm3101 cd3101 ct3101 : Value}
    {od3102 an3102 : Option Addr} {sl3102 : Array (Option Value)} {oc3102 kV3102 dc3102 pm3102 cd3102 ct3102 : Value}
    {od3103 an3103 : Option Addr} {sl3103 : Array (Option Value)} {oc3103 kV3103 dc3103 pm3103 cd3103 ct3103 : Value}
    {od3104 an3104 : Option Addr} {sl3104 : Array (Option Value)} {oc3104 kV3104 dc3104 pm3104 cd3104 ct3104 : Value}
    {od3200 an3200 : Option Addr} {sl3200 : Array (Option Value)} {oc3200 kV3200 dc3200 pm3200 cd3200 ct3200 : Value}
    {od3201 an3201 : Option Addr} {sl3201 : Array (Option Value)} {oc3201 kV3201 dc3201 pm3201 cd3201 ct3201 : Value}
    {od3202 an3202 : Option Addr} {sl3202 : Array (Option Value)} {oc3202 kV3202 dc3202 pm3202 cd3202 ct3202 : Value}
    {od3203 an3203 : Option Addr} {sl3203 : Array (Option Value)} {oc3203 kV3203 dc3203 pm3203 cd3203 ct3203 : Value}
    {od3204 an3204 : Option Addr} {sl3204 : Array (Option Value)} {oc3204 kV3204 dc3204 pm3204 cd3204 ct3204 : Value}
    {od3206 an3206 : Option Addr} {sl3206 : Array (Option Value)} {oc3206 kV3206 dc3206 pm3206 cd3206 ct3206 : Value}
    {od3207 an3207 : Option Addr} {sl3207 : Array (Option Value)} {oc3207 kV3207 dc3207 pm3207 cd3207 ct3207 : Value}
    {od3208 an3208 : Option Addr} {sl3208 : Array (Option Value)} {oc3208 kV3208 dc3208 pm3208 cd3208 ct3208 : Value}
    {c24 : Addr}
    {c44 : Addr}
    {tk_SIGNS : Tok}
    {pt_PLACES : Addr} {st_PLACES : Array (Option Value)} {nt_PLACES : Nat} {tk0_PLACES tk1_PLACES tk2_PLACES tk3_PLACES tk4_PLACES tk5_PLACES tk6_PLACES tk7_PLACES : Tok}
    {tk_MOST_STATES : Tok}
    {pt_STRAIGHT : Addr} {st_STRAIGHT : Array (Option Value)} {nt_STRAIGHT : Nat} {tk0_STRAIGHT tk1_STRAIGHT tk2_STRAIGHT tk3_STRAIGHT : Tok}
    {tk_MOST_TESTS : Tok}
    {pd_OFFS : Addr} {es_OFFS : Array DictEntry} {nd_OFFS : Nat}
    {pt0_OFFS : Addr} {st0_OFFS : Array (Option Value)} {nt0_OFFS : Nat} {tk0_0_OFFS tk0_1_OFFS : Tok}
    {pt1_OFFS : Addr} {st1_OFFS : Array (Option Value)} {nt1_OFFS : Nat} {tk1_0_OFFS tk1_1_OFFS : Tok}
    {pt2_OFFS : Addr} {st2_OFFS : Array (Option Value)} {nt2_OFFS : Nat} {tk2_0_OFFS tk2_1_OFFS : Tok}
    {pt3_OFFS : Addr} {st3_OFFS : Array (Option Value)} {nt3_OFFS : Nat} {tk3_0_OFFS tk3_1_OFFS : Tok}
    {pt4_OFFS : Addr} {st4_OFFS : Array (Option Value)} {nt4_OFFS : Nat} {tk4_0_OFFS tk4_1_OFFS : Tok}
    {pt5_OFFS : Addr} {st5_OFFS : Array (Option Value)} {nt5_OFFS : Nat} {tk5_0_OFFS tk5_1_OFFS : Tok}
    {pt6_OFFS : Addr} {st6_OFFS : Array (Option Value)} {nt6_OFFS : Nat} {tk6_0_OFFS tk6_1_OFFS : Tok}
    {pt7_OFFS : Addr} {st7_OFFS : Array (Option Value)} {nt7_OFFS : Nat} {tk7_0_OFFS tk7_1_OFFS : Tok}
    {tk_FOLDED : Tok}
    {pt_SORTS : Addr} {st_SORTS : Array (Option Value)} {nt_SORTS : Nat} {tk0_SORTS tk1_SORTS tk2_SORTS : Tok}
    {tk_MOST_ROWS : Tok}
    (a14 : PySem.W.nsIn K mainGlobals "is_whole" = some (some (.ref f14))) (l14 : K.lookup f14 = some ⟨oc14, od14, .func (PySem.W.fnOf "is_whole" "is_whole" (defArgs s_is_whole) (defBody s_is_whole) (defScope s_is_whole) .none kV14 dc14 pm14 an14 cd14 ct14), sl14⟩) (c14 : PySem.W.codeIn K cd14 "is_whole" = true) (k14 : PySem.W.keepIn K (.ref f14) = true)
    (a15 : PySem.W.nsIn K mainGlobals "is_from_to" = some (some (.ref f15))) (l15 : K.lookup f15 = some ⟨oc15, od15, .func (PySem.W.fnOf "is_from_to" "is_from_to" (defArgs s_is_from_to) (defBody s_is_from_to) (defScope s_is_from_to) .none kV15 dc15 pm15 an15 cd15 ct15), sl15⟩) (c15 : PySem.W.codeIn K cd15 "is_from_to" = true) (k15 : PySem.W.keepIn K (.ref f15) = true)
    (a16 : PySem.W.nsIn K mainGlobals "is_sign" = some (some (.ref f16))) (l16 : K.lookup f16 = some ⟨oc16, od16, .func (PySem.W.fnOf "is_sign" "is_sign" (defArgs s_is_sign) (defBody s_is_sign) (defScope s_is_sign) .none kV16 dc16 pm16 an16 cd16 ct16), sl16⟩) (c16 : PySem.W.codeIn K cd16 "is_sign" = true) (k16 : PySem.W.keepIn K (.ref f16) = true)
    (a17 : PySem.W.nsIn K mainGlobals "is_signs" = some (some (.ref f17))) (l17 : K.lookup f17 = some ⟨oc17, od17, .func (PySem.W.fnOf "is_signs" "is_signs" (defArgs s_is_signs) (defBody s_is_signs) (defScope s_is_signs) .none kV17 dc17 pm17 an17 cd17 ct17), sl17⟩) (c17 : PySem.W.codeIn K cd17 "is_signs" = true) (k17 : PySem.W.keepIn K (.ref f17) = true)
    (a18 : PySem.W.nsIn K mainGlobals "is_place" = some (some (.ref f18))) (l18 : K.lookup f18 = some ⟨oc18, od18, .func (PySem.W.fnOf "is_place" "is_place" (defArgs s_is_place) (defBody s_is_place) (defScope s_is_place) .none kV18 dc18 pm18 an18 cd18 ct18), sl18⟩) (c18 : PySem.W.codeIn K cd18 "is_place" = true) (k18 : PySem.W.keepIn K (.ref f18) = true)
    (a22 : PySem.W.nsIn K mainGlobals "need_strip" = some (some (.ref f22))) (l22 : K.lookup f22 = some ⟨oc22, od22, .func (PySem.W.fnOf "need_strip" "need_strip" (defArgs s_need_strip) (defBody s_need_strip) (defScope s_need_strip) .none kV22 dc22 pm22 an22 cd22 ct22), sl22⟩) (c22 : PySem.W.codeIn K cd22 "need_strip" = true) (k22 : PySem.W.keepIn K (.ref f22) = true)
    (a23 : PySem.W.nsIn K mainGlobals "words_of" = some (some (.ref f23))) (l23 : K.lookup f23 = some ⟨oc23, od23, .func (PySem.W.fnOf "words_of" "words_of" (defArgs s_words_of) (defBody s_words_of) (defScope s_words_of) .none kV23 dc23 pm23 an23 cd23 ct23), sl23⟩) (c23 : PySem.W.codeIn K cd23 "words_of" = true) (k23 : PySem.W.keepIn K (.ref f23) = true)
    (a25 : PySem.W.nsIn K mainGlobals "columns_of" = some (some (.ref f25))) (l25 : K.lookup f25 = some ⟨oc25, od25, .func (PySem.W.fnOf "columns_of" "columns_of" (defArgs s_columns_of) (defBody s_columns_of) (defScope s_columns_of) .none kV25 dc25 pm25 an25 cd25 ct25), sl25⟩) (c25 : PySem.W.codeIn K cd25 "columns_of" = true) (k25 : PySem.W.keepIn K (.ref f25) = true)
    (a26 : PySem.W.nsIn K mainGlobals "rows_of" = some (some (.ref f26))) (l26 : K.lookup f26 = some ⟨oc26, od26, .func (PySem.W.fnOf "rows_of" "rows_of" (defArgs s_rows_of) (defBody s_rows_of) (defScope s_rows_of) .none kV26 dc26 pm26 an26 cd26 ct26), sl26⟩) (c26 : PySem.W.codeIn K cd26 "rows_of" = true) (k26 : PySem.W.keepIn K (.ref f26) = true)
    (a27 : PySem.W.nsIn K mainGlobals "strip_for" = some (some (.ref f27))) (l27 : K.lookup f27 = some ⟨oc27, od27, .func (PySem.W.fnOf "strip_for" "strip_for" (defArgs s_strip_for) (defBody s_strip_for) (defScope s_strip_for) .none kV27 dc27 pm27 an27 cd27 ct27), sl27⟩) (c27 : PySem.W.codeIn K cd27 "strip_for" = true) (k27 : PySem.W.keepIn K (.ref f27) = true)
    (a29 : PySem.W.nsIn K mainGlobals "counts_on" = some (some (.ref f29))) (l29 : K.lookup f29 = some ⟨oc29, od29, .func (PySem.W.fnOf "counts_on" "counts_on" (defArgs s_counts_on) (defBody s_counts_on) (defScope s_counts_on) .none kV29 dc29 pm29 an29 cd29 ct29), sl29⟩) (c29 : PySem.W.codeIn K cd29 "counts_on" = true) (k29 : PySem.W.keepIn K (.ref f29) = true)
    (a30 : PySem.W.nsIn K mainGlobals "how_many" = some (some (.ref f30))) (l30 : K.lookup f30 = some ⟨oc30, od30, .func (PySem.W.fnOf "how_many" "how_many" (defArgs s_how_many) (defBody s_how_many) (defScope s_how_many) .none kV30 dc30 pm30 an30 cd30 ct30), sl30⟩) (c30 : PySem.W.codeIn K cd30 "how_many" = true) (k30 : PySem.W.keepIn K (.ref f30) = true)
    (a31 : PySem.W.nsIn K mainGlobals "picked" = some (some (.ref f31))) (l31 : K.lookup f31 = some ⟨oc31, od31, .func (PySem.W.fnOf "picked" "picked" (defArgs s_picked) (defBody s_picked) (defScope s_picked) .none kV31 dc31 pm31 an31 cd31 ct31), sl31⟩) (c31 : PySem.W.codeIn K cd31 "picked" = true) (k31 : PySem.W.keepIn K (.ref f31) = true)
    (a32 : PySem.W.nsIn K mainGlobals "forebear" = some (some (.ref f32))) (l32 : K.lookup f32 = some ⟨oc32, od32, .func (PySem.W.fnOf "forebear" "forebear" (defArgs s_forebear) (defBody s_forebear) (defScope s_forebear) .none kV32 dc32 pm32 an32 cd32 ct32), sl32⟩) (c32 : PySem.W.codeIn K cd32 "forebear" = true) (k32 : PySem.W.keepIn K (.ref f32) = true)
    (a38 : PySem.W.nsIn K mainGlobals "is_near" = some (some (.ref f38))) (l38 : K.lookup f38 = some ⟨oc38, od38, .func (PySem.W.fnOf "is_near" "is_near" (defArgs s_is_near) (defBody s_is_near) (defScope s_is_near) .none kV38 dc38 pm38 an38 cd38 ct38), sl38⟩) (c38 : PySem.W.codeIn K cd38 "is_near" = true) (k38 : PySem.W.keepIn K (.ref f38) = true)
    (a39 : PySem.W.nsIn K mainGlobals "are_of" = some (some (.ref f39))) (l39 : K.lookup f39 = some ⟨oc39, od39, .func (PySem.W.fnOf "are_of" "are_of" (defArgs s_are_of) (defBody s_are_of) (defScope s_are_of) .none kV39 dc39 pm39 an39 cd39 ct39), sl39⟩) (c39 : PySem.W.codeIn K cd39 "are_of" = true) (k39 : PySem.W.keepIn K (.ref f39) = true)
    (a40 : PySem.W.nsIn K mainGlobals "is_test" = some (some (.ref f40))) (l40 : K.lookup f40 = some ⟨oc40, od40, .func (PySem.W.fnOf "is_test" "is_test" (defArgs s_is_test) (defBody s_is_test) (defScope s_is_test) .none kV40 dc40 pm40 an40 cd40 ct40), sl40⟩) (c40 : PySem.W.codeIn K cd40 "is_test" = true) (k40 : PySem.W.keepIn K (.ref f40) = true)
    (a41 : PySem.W.nsIn K mainGlobals "is_cell_row" = some (some (.ref f41))) (l41 : K.lookup f41 = some ⟨oc41, od41, .func (PySem.W.fnOf "is_cell_row" "is_cell_row" (defArgs s_is_cell_row) (defBody s_is_cell_row) (defScope s_is_cell_row) .none kV41 dc41 pm41 an41 cd41 ct41), sl41⟩) (c41 : PySem.W.codeIn K cd41 "is_cell_row" = true) (k41 : PySem.W.keepIn K (.ref f41) = true)
    (a42 : PySem.W.nsIn K mainGlobals "is_text_of" = some (some (.ref f42))) (l42 : K.lookup f42 = some ⟨oc42, od42, .func (PySem.W.fnOf "is_text_of" "is_text_of" (defArgs s_is_text_of) (defBody s_is_text_of) (defScope s_is_text_of) .none kV42 dc42 pm42 an42 cd42 ct42), sl42⟩) (c42 : PySem.W.codeIn K cd42 "is_text_of" = true) (k42 : PySem.W.keepIn K (.ref f42) = true)
    (a43 : PySem.W.nsIn K mainGlobals "is_block_row" = some (some (.ref f43))) (l43 : K.lookup f43 = some ⟨oc43, od43, .func (PySem.W.fnOf "is_block_row" "is_block_row" (defArgs s_is_block_row) (defBody s_is_block_row) (defScope s_is_block_row) .none kV43 dc43 pm43 an43 cd43 ct43), sl43⟩) (c43 : PySem.W.codeIn K cd43 "is_block_row" = true) (k43 : PySem.W.keepIn K (.ref f43) = true)
    (a46 : PySem.W.nsIn K mainGlobals "_law_bag" = some (some (.ref f46))) (l46 : K.lookup f46 = some ⟨oc46, od46, .func (PySem.W.fnOf "_law_bag" "_law_bag" (defArgs s_Lbag) (defBody s_Lbag) (defScope s_Lbag) .none kV46 dc46 pm46 an46 cd46 ct46), sl46⟩) (c46 : PySem.W.codeIn K cd46 "_law_bag" = true) (k46 : PySem.W.keepIn K (.ref f46) = true)
    (a47 : PySem.W.nsIn K mainGlobals "_law_take" = some (some (.ref f47))) (l47 : K.lookup f47 = some ⟨oc47, od47, .func (PySem.W.fnOf "_law_take" "_law_take" (defArgs s_Ltake) (defBody s_Ltake) (defScope s_Ltake) .none kV47 dc47 pm47 an47 cd47 ct47), sl47⟩) (c47 : PySem.W.codeIn K cd47 "_law_take" = true) (k47 : PySem.W.keepIn K (.ref f47) = true)
    (a48 : PySem.W.nsIn K mainGlobals "_law_signs" = some (some (.ref f48))) (l48 : K.lookup f48 = some ⟨oc48, od48, .func (PySem.W.fnOf "_law_signs" "_law_signs" (defArgs s_Lsigns) (defBody s_Lsigns) (defScope s_Lsigns) .none kV48 dc48 pm48 an48 cd48 ct48), sl48⟩) (c48 : PySem.W.codeIn K cd48 "_law_signs" = true) (k48 : PySem.W.keepIn K (.ref f48) = true)
    (a49 : PySem.W.nsIn K mainGlobals "_law_some" = some (some (.ref f49))) (l49 : K.lookup f49 = some ⟨oc49, od49, .func (PySem.W.fnOf "_law_some" "_law_some" (defArgs s_Lsome) (defBody s_Lsome) (defScope s_Lsome) .none kV49 dc49 pm49 an49 cd49 ct49), sl49⟩) (c49 : PySem.W.codeIn K cd49 "_law_some" = true) (k49 : PySem.W.keepIn K (.ref f49) = true)
    (a50 : PySem.W.nsIn K mainGlobals "_law_near" = some (some (.ref f50))) (l50 : K.lookup f50 = some ⟨oc50, od50, .func (PySem.W.fnOf "_law_near" "_law_near" (defArgs s_Lnear) (defBody s_Lnear) (defScope s_Lnear) .none kV50 dc50 pm50 an50 cd50 ct50), sl50⟩) (c50 : PySem.W.codeIn K cd50 "_law_near" = true) (k50 : PySem.W.keepIn K (.ref f50) = true)
    (a51 : PySem.W.nsIn K mainGlobals "_law_test" = some (some (.ref f51))) (l51 : K.lookup f51 = some ⟨oc51, od51, .func (PySem.W.fnOf "_law_test" "_law_test" (defArgs s_Ltest) (defBody s_Ltest) (defScope s_Ltest) .none kV51 dc51 pm51 an51 cd51 ct51), sl51⟩) (c51 : PySem.W.codeIn K cd51 "_law_test" = true) (k51 : PySem.W.keepIn K (.ref f51) = true)
    (a52 : PySem.W.nsIn K mainGlobals "_law_row" = some (some (.ref f52))) (l52 : K.lookup f52 = some ⟨oc52, od52, .func (PySem.W.fnOf "_law_row" "_law_row" (defArgs s_Lrow) (defBody s_Lrow) (defScope s_Lrow) .none kV52 dc52 pm52 an52 cd52 ct52), sl52⟩) (c52 : PySem.W.codeIn K cd52 "_law_row" = true) (k52 : PySem.W.keepIn K (.ref f52) = true)
    (a53 : PySem.W.nsIn K mainGlobals "_law_block_row" = some (some (.ref f53))) (l53 : K.lookup f53 = some ⟨oc53, od53, .func (PySem.W.fnOf "_law_block_row" "_law_block_row" (defArgs s_Lblock_row) (defBody s_Lblock_row) (defScope s_Lblock_row) .none kV53 dc53 pm53 an53 cd53 ct53), sl53⟩) (c53 : PySem.W.codeIn K cd53 "_law_block_row" = true) (k53 : PySem.W.keepIn K (.ref f53) = true)
    (a54 : PySem.W.nsIn K mainGlobals "_law_rule" = some (some (.ref f54))) (l54 : K.lookup f54 = some ⟨oc54, od54, .func (PySem.W.fnOf "_law_rule" "_law_rule" (defArgs s_Lrule) (defBody s_Lrule) (defScope s_Lrule) .none kV54 dc54 pm54 an54 cd54 ct54), sl54⟩) (c54 : PySem.W.codeIn K cd54 "_law_rule" = true) (k54 : PySem.W.keepIn K (.ref f54) = true)
    (a55 : PySem.W.nsIn K mainGlobals "_law_holds" = some (some (.ref f55))) (l55 : K.lookup f55 = some ⟨oc55, od55, .func (PySem.W.fnOf "_law_holds" "_law_holds" (defArgs s_Lholds) (defBody s_Lholds) (defScope s_Lholds) .none kV55 dc55 pm55 an55 cd55 ct55), sl55⟩) (c55 : PySem.W.codeIn K cd55 "_law_holds" = true) (k55 : PySem.W.keepIn K (.ref f55) = true)
    (a56 : PySem.W.nsIn K mainGlobals "_law_becomes" = some (some (.ref f56))) (l56 : K.lookup f56 = some ⟨oc56, od56, .func (PySem.W.fnOf "_law_becomes" "_law_becomes" (defArgs s_Lbecomes) (defBody s_Lbecomes) (defScope s_Lbecomes) .none kV56 dc56 pm56 an56 cd56 ct56), sl56⟩) (c56 : PySem.W.codeIn K cd56 "_law_becomes" = true) (k56 : PySem.W.keepIn K (.ref f56) = true)
    (a57 : PySem.W.nsIn K mainGlobals "_law_off" = some (some (.ref f57))) (l57 : K.lookup f57 = some ⟨oc57, od57, .func (PySem.W.fnOf "_law_off" "_law_off" (defArgs s_Loff) (defBody s_Loff) (defScope s_Loff) .none kV57 dc57 pm57 an57 cd57 ct57), sl57⟩) (c57 : PySem.W.codeIn K cd57 "_law_off" = true) (k57 : PySem.W.keepIn K (.ref f57) = true)
    (a58 : PySem.W.nsIn K mainGlobals "_law_middle" = some (some (.ref f58))) (l58 : K.lookup f58 = some ⟨oc58, od58, .func (PySem.W.fnOf "_law_middle" "_law_middle" (defArgs s_Lmiddle) (defBody s_Lmiddle) (defScope s_Lmiddle) .none kV58 dc58 pm58 an58 cd58 ct58), sl58⟩) (c58 : PySem.W.codeIn K cd58 "_law_middle" = true) (k58 : PySem.W.keepIn K (.ref f58) = true)
    (a59 : PySem.W.nsIn K mainGlobals "_law_letters" = some (some (.ref f59))) (l59 : K.lookup f59 = some ⟨oc59, od59, .func (PySem.W.fnOf "_law_letters" "_law_letters" (defArgs s_Lletters) (defBody s_Lletters) (defScope s_Lletters) .none kV59 dc59 pm59 an59 cd59 ct59), sl59⟩) (c59 : PySem.W.codeIn K cd59 "_law_letters" = true) (k59 : PySem.W.keepIn K (.ref f59) = true)
    (a60 : PySem.W.nsIn K mainGlobals "_law_columns" = some (some (.ref f60))) (l60 : K.lookup f60 = some ⟨oc60, od60, .func (PySem.W.fnOf "_law_columns" "_law_columns" (defArgs s_Lcolumns) (defBody s_Lcolumns) (defScope s_Lcolumns) .none kV60 dc60 pm60 an60 cd60 ct60), sl60⟩) (c60 : PySem.W.codeIn K cd60 "_law_columns" = true) (k60 : PySem.W.keepIn K (.ref f60) = true)
    (a61 : PySem.W.nsIn K mainGlobals "_law_rows" = some (some (.ref f61))) (l61 : K.lookup f61 = some ⟨oc61, od61, .func (PySem.W.fnOf "_law_rows" "_law_rows" (defArgs s_Lrows) (defBody s_Lrows) (defScope s_Lrows) .none kV61 dc61 pm61 an61 cd61 ct61), sl61⟩) (c61 : PySem.W.codeIn K cd61 "_law_rows" = true) (k61 : PySem.W.keepIn K (.ref f61) = true)
    (a62 : PySem.W.nsIn K mainGlobals "_law_strip" = some (some (.ref f62))) (l62 : K.lookup f62 = some ⟨oc62, od62, .func (PySem.W.fnOf "_law_strip" "_law_strip" (defArgs s_Lstrip) (defBody s_Lstrip) (defScope s_Lstrip) .none kV62 dc62 pm62 an62 cd62 ct62), sl62⟩) (c62 : PySem.W.codeIn K cd62 "_law_strip" = true) (k62 : PySem.W.keepIn K (.ref f62) = true)
    (a63 : PySem.W.nsIn K mainGlobals "_law_next_rows" = some (some (.ref f63))) (l63 : K.lookup f63 = some ⟨oc63, od63, .func (PySem.W.fnOf "_law_next_rows" "_law_next_rows" (defArgs s_Lnext_rows) (defBody s_Lnext_rows) (defScope s_Lnext_rows) .none kV63 dc63 pm63 an63 cd63 ct63), sl63⟩) (c63 : PySem.W.codeIn K cd63 "_law_next_rows" = true) (k63 : PySem.W.keepIn K (.ref f63) = true)
    (a64 : PySem.W.nsIn K mainGlobals "_law_made_rule" = some (some (.ref f64))) (l64 : K.lookup f64 = some ⟨oc64, od64, .func (PySem.W.fnOf "_law_made_rule" "_law_made_rule" (defArgs s_Lmade_rule) (defBody s_Lmade_rule) (defScope s_Lmade_rule) .none kV64 dc64 pm64 an64 cd64 ct64), sl64⟩) (c64 : PySem.W.codeIn K cd64 "_law_made_rule" = true) (k64 : PySem.W.keepIn K (.ref f64) = true)
    (a65 : PySem.W.nsIn K mainGlobals "_law_words" = some (some (.ref f65))) (l65 : K.lookup f65 = some ⟨oc65, od65, .func (PySem.W.fnOf "_law_words" "_law_words" (defArgs s_Lwords) (defBody s_Lwords) (defScope s_Lwords) .none kV65 dc65 pm65 an65 cd65 ct65), sl65⟩) (c65 : PySem.W.codeIn K cd65 "_law_words" = true) (k65 : PySem.W.keepIn K (.ref f65) = true)
    (a66 : PySem.W.nsIn K mainGlobals "law" = some (some (.ref f66))) (l66 : K.lookup f66 = some ⟨oc66, od66, .func (PySem.W.fnOf "law" "law" (defArgs s_law) (defBody s_law) (defScope s_law) .none kV66 dc66 pm66 an66 cd66 ct66), sl66⟩) (c66 : PySem.W.codeIn K cd66 "law" = true) (k66 : PySem.W.keepIn K (.ref f66) = true)
    (aC24 : PySem.W.nsIn K mainGlobals "Strip" = some (some (.ref c24))) (pg24 : PySem.W.plainGet K c24 Str.empty = true) (hd24 : PySem.W.hasDictIn K c24 = true) (po24 : PySem.W.plainOver K c24 = true) (sA24 : PySem.W.findIn K (.ref c24) "__setattr__" = some (some (.builtin "object.__setattr__"))) (mk24 : PySem.W.makesIn K c24 = true) (kC24 : PySem.W.keepIn K (.ref c24) = true)
    (ia24 : PySem.W.findIn K (.ref c24) "__class__" = some (some (.builtin "object.__class__"))) (ib24 : PySem.W.specialIn K (.builtin "object.__class__") "__get__" = some (some (.builtin "getset_descriptor.__get__"))) (ic24 : PySem.W.takesIn K (.builtin "object.__class__") = some true) (id24 : PySem.W.mroIn K c24 (.type "object") = some true) (ie24 : PySem.W.findIn K (.ref c24) "__ne__" = some (some (.builtin "object.__ne__")))
    (na24_ruled : PySem.W.findIn K (.ref c24) "ruled" = some none)
    (na24_brim : PySem.W.findIn K (.ref c24) "brim" = some none)
    (na24_offs : PySem.W.findIn K (.ref c24) "offs" = some none)
    (na24_letters : PySem.W.findIn K (.ref c24) "letters" = some none)
    (na24_states : PySem.W.findIn K (.ref c24) "states" = some none)
    (na24_ways_on : PySem.W.findIn K (.ref c24) "ways_on" = some none)
    (aC44 : PySem.W.nsIn K mainGlobals "Rule" = some (some (.ref c44))) (pg44 : PySem.W.plainGet K c44 Str.empty = true) (hd44 : PySem.W.hasDictIn K c44 = true) (po44 : PySem.W.plainOver K c44 = true) (sA44 : PySem.W.findIn K (.ref c44) "__setattr__" = some (some (.builtin "object.__setattr__"))) (mk44 : PySem.W.makesIn K c44 = true) (kC44 : PySem.W.keepIn K (.ref c44) = true)
    (ia44 : PySem.W.findIn K (.ref c44) "__class__" = some (some (.builtin "object.__class__"))) (ib44 : PySem.W.specialIn K (.builtin "object.__class__") "__get__" = some (some (.builtin "getset_descriptor.__get__"))) (ic44 : PySem.W.takesIn K (.builtin "object.__class__") = some true) (id44 : PySem.W.mroIn K c44 (.type "object") = some true) (ie44 : PySem.W.findIn K (.ref c44) "__ne__" = some (some (.builtin "object.__ne__")))
    (na44_sort_told : PySem.W.findIn K (.ref c44) "sort_told" = some none)
    (na44_count : PySem.W.findIn K (.ref c44) "count" = some none)
    (na44_looked_at : PySem.W.findIn K (.ref c44) "looked_at" = some none)
    (na44_listed : PySem.W.findIn K (.ref c44) "listed" = some none)
    (a3100 : PySem.W.findIn K (.ref c24) "__init__" = some (some (.ref f3100))) (if3100 : PySem.W.isFn K (.ref f3100) = true) (l3100 : K.lookup f3100 = some ⟨oc3100, od3100, .func (PySem.W.fnOf "__init__" "Strip.__init__" (defArgs s_Strip___init__) (defBody s_Strip___init__) (defScope s_Strip___init__) .none kV3100 dc3100 pm3100 an3100 cd3100 ct3100), sl3100⟩) (c3100_ : PySem.W.codeIn K cd3100 "Strip.__init__" = true) (k3100 : PySem.W.keepIn K (.ref f3100) = true)
    (a3101 : PySem.W.findIn K (.ref c24) "sign_in" = some (some (.ref f3101))) (if3101 : PySem.W.isFn K (.ref f3101) = true) (l3101 : K.lookup f3101 = some ⟨oc3101, od3101, .func (PySem.W.fnOf "sign_in" "Strip.sign_in" (defArgs s_Strip_sign_in) (defBody s_Strip_sign_in) (defScope s_Strip_sign_in) .none kV3101 dc3101 pm3101 an3101 cd3101 ct3101), sl3101⟩) (c3101_ : PySem.W.codeIn K cd3101 "Strip.sign_in" = true) (k3101 : PySem.W.keepIn K (.ref f3101) = true)
    (a3102 : PySem.W.findIn K (.ref c24) "made" = some (some (.ref f3102))) (if3102 : PySem.W.isFn K (.ref f3102) = true) (l3102 : K.lookup f3102 = some ⟨oc3102, od3102, .func (PySem.W.fnOf "made" "Strip.made" (defArgs s_Strip_made) (defBody s_Strip_made) (defScope s_Strip_made) .none kV3102 dc3102 pm3102 an3102 cd3102 ct3102), sl3102⟩) (c3102_ : PySem.W.codeIn K cd3102 "Strip.made" = true) (k3102 : PySem.W.keepIn K (.ref f3102) = true)
    (a3103 : PySem.W.findIn K (.ref c24) "ways_of" = some (some (.ref f3103))) (if3103 : PySem.W.isFn K (.ref f3103) = true) (l3103 : K.lookup f3103 = some ⟨oc3103, od3103, .func (PySem.W.fnOf "ways_of" "Strip.ways_of" (defArgs s_Strip_ways_of) (defBody s_Strip_ways_of) (defScope s_Strip_ways_of) .none kV3103 dc3103 pm3103 an3103 cd3103 ct3103), sl3103⟩) (c3103_ : PySem.W.codeIn K cd3103 "Strip.ways_of" = true) (k3103 : PySem.W.keepIn K (.ref f3103) = true)
    (a3104 : PySem.W.findIn K (.ref c24) "behind" = some (some (.ref f3104))) (if3104 : PySem.W.isFn K (.ref f3104) = true) (l3104 : K.lookup f3104 = some ⟨oc3104, od3104, .func (PySem.W.fnOf "behind" "Strip.behind" (defArgs s_Strip_behind) (defBody s_Strip_behind) (defScope s_Strip_behind) .none kV3104 dc3104 pm3104 an3104 cd3104 ct3104), sl3104⟩) (c3104_ : PySem.W.codeIn K cd3104 "Strip.behind" = true) (k3104 : PySem.W.keepIn K (.ref f3104) = true)
    (a3200 : PySem.W.findIn K (.ref c44) "__init__" = some (some (.ref f3200))) (if3200 : PySem.W.isFn K (.ref f3200) = true) (l3200 : K.lookup f3200 = some ⟨oc3200, od3200, .func (PySem.W.fnOf "__init__" "Rule.__init__" (defArgs s_Rule___init__) (defBody s_Rule___init__) (defScope s_Rule___init__) .none kV3200 dc3200 pm3200 an3200 cd3200 ct3200), sl3200⟩) (c3200_ : PySem.W.codeIn K cd3200 "Rule.__init__" = true) (k3200 : PySem.W.keepIn K (.ref f3200) = true)
    (a3201 : PySem.W.findIn K (.ref c44) "is_row" = some (some (.ref f3201))) (if3201 : PySem.W.isFn K (.ref f3201) = true) (l3201 : K.lookup f3201 = some ⟨oc3201, od3201, .func (PySem.W.fnOf "is_row" "Rule.is_row" (defArgs s_Rule_is_row) (defBody s_Rule_is_row) (defScope s_Rule_is_row) .none kV3201 dc3201 pm3201 an3201 cd3201 ct3201), sl3201⟩) (c3201_ : PySem.W.codeIn K cd3201 "Rule.is_row" = true) (k3201 : PySem.W.keepIn K (.ref f3201) = true)
    (a3202 : PySem.W.findIn K (.ref c44) "kind" = some (some (.ref f3202))) (if3202 : PySem.W.isFn K (.ref f3202) = true) (l3202 : K.lookup f3202 = some ⟨oc3202, od3202, .func (PySem.W.fnOf "kind" "Rule.kind" (defArgs s_Rule_kind) (defBody s_Rule_kind) (defScope s_Rule_kind) .none kV3202 dc3202 pm3202 an3202 cd3202 ct3202), sl3202⟩) (c3202_ : PySem.W.codeIn K cd3202 "Rule.kind" = true) (k3202 : PySem.W.keepIn K (.ref f3202) = true)
    (a3203 : PySem.W.findIn K (.ref c44) "many" = some (some (.ref f3203))) (if3203 : PySem.W.isFn K (.ref f3203) = true) (l3203 : K.lookup f3203 = some ⟨oc3203, od3203, .func (PySem.W.fnOf "many" "Rule.many" (defArgs s_Rule_many) (defBody s_Rule_many) (defScope s_Rule_many) .none kV3203 dc3203 pm3203 an3203 cd3203 ct3203), sl3203⟩) (c3203_ : PySem.W.codeIn K cd3203 "Rule.many" = true) (k3203 : PySem.W.keepIn K (.ref f3203) = true)
    (a3204 : PySem.W.findIn K (.ref c44) "near" = some (some (.ref f3204))) (if3204 : PySem.W.isFn K (.ref f3204) = true) (l3204 : K.lookup f3204 = some ⟨oc3204, od3204, .func (PySem.W.fnOf "near" "Rule.near" (defArgs s_Rule_near) (defBody s_Rule_near) (defScope s_Rule_near) .none kV3204 dc3204 pm3204 an3204 cd3204 ct3204), sl3204⟩) (c3204_ : PySem.W.codeIn K cd3204 "Rule.near" = true) (k3204 : PySem.W.keepIn K (.ref f3204) = true)
    (a3206 : PySem.W.findIn K (.ref c44) "signs" = some (some (.ref f3206))) (if3206 : PySem.W.isFn K (.ref f3206) = true) (l3206 : K.lookup f3206 = some ⟨oc3206, od3206, .func (PySem.W.fnOf "signs" "Rule.signs" (defArgs s_Rule_signs) (defBody s_Rule_signs) (defScope s_Rule_signs) .none kV3206 dc3206 pm3206 an3206 cd3206 ct3206), sl3206⟩) (c3206_ : PySem.W.codeIn K cd3206 "Rule.signs" = true) (k3206 : PySem.W.keepIn K (.ref f3206) = true)
    (a3207 : PySem.W.findIn K (.ref c44) "test_holds" = some (some (.ref f3207))) (if3207 : PySem.W.isFn K (.ref f3207) = true) (l3207 : K.lookup f3207 = some ⟨oc3207, od3207, .func (PySem.W.fnOf "test_holds" "Rule.test_holds" (defArgs s_Rule_test_holds) (defBody s_Rule_test_holds) (defScope s_Rule_test_holds) .none kV3207 dc3207 pm3207 an3207 cd3207 ct3207), sl3207⟩) (c3207_ : PySem.W.codeIn K cd3207 "Rule.test_holds" = true) (k3207 : PySem.W.keepIn K (.ref f3207) = true)
    (a3208 : PySem.W.findIn K (.ref c44) "fate" = some (some (.ref f3208))) (if3208 : PySem.W.isFn K (.ref f3208) = true) (l3208 : K.lookup f3208 = some ⟨oc3208, od3208, .func (PySem.W.fnOf "fate" "Rule.fate" (defArgs s_Rule_fate) (defBody s_Rule_fate) (defScope s_Rule_fate) .none kV3208 dc3208 pm3208 an3208 cd3208 ct3208), sl3208⟩) (c3208_ : PySem.W.codeIn K cd3208 "Rule.fate" = true) (k3208 : PySem.W.keepIn K (.ref f3208) = true)
    (z_isinstance : PySem.W.nsIn K mainGlobals "isinstance" = some none)
    (z_int : PySem.W.nsIn K mainGlobals "int" = some none)
    (z_bool : PySem.W.nsIn K mainGlobals "bool" = some none)
    (z_str : PySem.W.nsIn K mainGlobals "str" = some none)
    (z_len : PySem.W.nsIn K mainGlobals "len" = some none)
    (z_all : PySem.W.nsIn K mainGlobals "all" = some none)
    (z_zip : PySem.W.nsIn K mainGlobals "zip" = some none)
    (z_sorted : PySem.W.nsIn K mainGlobals "sorted" = some none)
    (z_range : PySem.W.nsIn K mainGlobals "range" = some none)
    (z_sum : PySem.W.nsIn K mainGlobals "sum" = some none)
    (z_list : PySem.W.nsIn K mainGlobals "list" = some none)
    (z_tuple : PySem.W.nsIn K mainGlobals "tuple" = some none)
    (z_set : PySem.W.nsIn K mainGlobals "set" = some none)
    (z_abs : PySem.W.nsIn K mainGlobals "abs" = some none)
    (z_min : PySem.W.nsIn K mainGlobals "min" = some none)
    (z_enumerate : PySem.W.nsIn K mainGlobals "enumerate" = some none)
    (q_SIGNS : PySem.W.nsIn K mainGlobals "SIGNS" = some (some (.str ".abcdefghijklmnopqrstuvwxyz" tk_SIGNS)))
    (q_PLACES : PySem.W.nsIn K mainGlobals "PLACES" = some (some (.ref pt_PLACES))) (lq_PLACES : K.lookup pt_PLACES = some ⟨.type "tuple", none, .seq #[.str "n" tk0_PLACES, .str "ne" tk1_PLACES, .str "e" tk2_PLACES, .str "se" tk3_PLACES, .str "s" tk4_PLACES, .str "sw" tk5_PLACES, .str "w" tk6_PLACES, .str "nw" tk7_PLACES] nt_PLACES, st_PLACES⟩)
    (q_MOST_STATES : PySem.W.nsIn K mainGlobals "MOST_STATES" = some (some (.int 64 tk_MOST_STATES)))
    (q_STRAIGHT : PySem.W.nsIn K mainGlobals "STRAIGHT" = some (some (.ref pt_STRAIGHT))) (lq_STRAIGHT : K.lookup pt_STRAIGHT = some ⟨.type "tuple", none, .seq #[.str "n" tk0_STRAIGHT, .str "e" tk1_STRAIGHT, .str "s" tk2_STRAIGHT, .str "w" tk3_STRAIGHT] nt_STRAIGHT, st_STRAIGHT⟩)
    (q_MOST_TESTS : PySem.W.nsIn K mainGlobals "MOST_TESTS" = some (some (.int 8 tk_MOST_TESTS)))
    (q_OFFS : PySem.W.nsIn K mainGlobals "OFFS" = some (some (.ref pd_OFFS))) (lq_OFFS : K.lookup pd_OFFS = some ⟨.type "dict", none, .dict es_OFFS nd_OFFS, #[]⟩) (kl_OFFS : PySem.W.KeysLit w.params es_OFFS.toList)
    (qn0_OFFS : PySem.W.nsIn K pd_OFFS "n" = some (some (.ref pt0_OFFS))) (ql0_OFFS : K.lookup pt0_OFFS = some ⟨.type "tuple", none, .seq #[.int 0 tk0_0_OFFS, .int (-1) tk0_1_OFFS] nt0_OFFS, st0_OFFS⟩)
    (qn1_OFFS : PySem.W.nsIn K pd_OFFS "ne" = some (some (.ref pt1_OFFS))) (ql1_OFFS : K.lookup pt1_OFFS = some ⟨.type "tuple", none, .seq #[.int 1 tk1_0_OFFS, .int (-1) tk1_1_OFFS] nt1_OFFS, st1_OFFS⟩)
    (qn2_OFFS : PySem.W.nsIn K pd_OFFS "e" = some (some (.ref pt2_OFFS))) (ql2_OFFS : K.lookup pt2_OFFS = some ⟨.type "tuple", none, .seq #[.int 1 tk2_0_OFFS, .int 0 tk2_1_OFFS] nt2_OFFS, st2_OFFS⟩)
    (qn3_OFFS : PySem.W.nsIn K pd_OFFS "se" = some (some (.ref pt3_OFFS))) (ql3_OFFS : K.lookup pt3_OFFS = some ⟨.type "tuple", none, .seq #[.int 1 tk3_0_OFFS, .int 1 tk3_1_OFFS] nt3_OFFS, st3_OFFS⟩)
    (qn4_OFFS : PySem.W.nsIn K pd_OFFS "s" = some (some (.ref pt4_OFFS))) (ql4_OFFS : K.lookup pt4_OFFS = some ⟨.type "tuple", none, .seq #[.int 0 tk4_0_OFFS, .int 1 tk4_1_OFFS] nt4_OFFS, st4_OFFS⟩)
    (qn5_OFFS : PySem.W.nsIn K pd_OFFS "sw" = some (some (.ref pt5_OFFS))) (ql5_OFFS : K.lookup pt5_OFFS = some ⟨.type "tuple", none, .seq #[.int (-1) tk5_0_OFFS, .int 1 tk5_1_OFFS] nt5_OFFS, st5_OFFS⟩)
    (qn6_OFFS : PySem.W.nsIn K pd_OFFS "w" = some (some (.ref pt6_OFFS))) (ql6_OFFS : K.lookup pt6_OFFS = some ⟨.type "tuple", none, .seq #[.int (-1) tk6_0_OFFS, .int 0 tk6_1_OFFS] nt6_OFFS, st6_OFFS⟩)
    (qn7_OFFS : PySem.W.nsIn K pd_OFFS "nw" = some (some (.ref pt7_OFFS))) (ql7_OFFS : K.lookup pt7_OFFS = some ⟨.type "tuple", none, .seq #[.int (-1) tk7_0_OFFS, .int (-1) tk7_1_OFFS] nt7_OFFS, st7_OFFS⟩)
    (q_FOLDED : PySem.W.nsIn K mainGlobals "FOLDED" = some (some (.str "" tk_FOLDED)))
    (q_SORTS : PySem.W.nsIn K mainGlobals "SORTS" = some (some (.ref pt_SORTS))) (lq_SORTS : K.lookup pt_SORTS = some ⟨.type "tuple", none, .seq #[.str "around" tk0_SORTS, .str "halves" tk1_SORTS, .str "blocks" tk2_SORTS] nt_SORTS, st_SORTS⟩)
    (q_MOST_ROWS : PySem.W.nsIn K mainGlobals "MOST_ROWS" = some (some (.int 80 tk_MOST_ROWS))) :
    ∃ fd : FuncData, (∀ (s : Shared) (v : Value), BindsTo s fd ⟨[v], []⟩ [("_law_script", v)]) ∧ ∀ base : Heap, K.In base → base.Ns mainGlobals mg → FnG l.prog w K mg base CX0 9 fa fd ["_law_script"] (spLaw K) := by
  have e := hfa.symm.trans (PySem.W.mg_of X G a66)
  cases e
  have h14 := hasFn_mk (st := s_is_whole) (ps := p_is_whole) X G a14 l14 c14 k14 (fun us hl => match us, hl with | [_], _ => rfl)
  have h15 := hasFn_mk (st := s_is_from_to) (ps := p_is_from_to) X G a15 l15 c15 k15 (fun us hl => match us, hl with | [_, _, _], _ => rfl)
  have h16 := hasFn_mk (st := s_is_sign) (ps := p_is_sign) X G a16 l16 c16 k16 (fun us hl => match us, hl with | [_], _ => rfl)
  have h17 := hasFn_mk (st := s_is_signs) (ps := p_is_signs) X G a17 l17 c17 k17 (fun us hl => match us, hl with | [_], _ => rfl)
  have h18 := hasFn_mk (st := s_is_place) (ps := p_is_place) X G a18 l18 c18 k18 (fun us hl => match us, hl with | [_], _ => rfl)
  have h22 := hasFn_mk (st := s_need_strip) (ps := p_need_strip) X G a22 l22 c22 k22 (fun us hl => match us, hl with | [_, _, _], _ => rfl)
  have h23 := hasFn_mk (st := s_words_of) (ps := p_words_of) X G a23 l23 c23 k23 (fun us hl => match us, hl with | [_, _], _ => rfl)
  have h25 := hasFn_mk (st := s_columns_of) (ps := p_columns_of) X G a25 l25 c25 k25 (fun us hl => match us, hl with | [_], _ => rfl)
  have h26 := hasFn_mk (st := s_rows_of) (ps := p_rows_of) X G a26 l26 c26 k26 (fun us hl => match us, hl with | [_, _], _ => rfl)
  have h27 := hasFn_mk (st := s_strip_for) (ps := p_strip_for) X G a27 l27 c27 k27 (fun us hl => match us, hl with | [_, _, _], _ => rfl)
  have h29 := hasFn_mk (st := s_counts_on) (ps := p_counts_on) X G a29 l29 c29 k29 (fun us hl => match us, hl with | [_, _, _], _ => rfl)
  have h30 := hasFn_mk (st := s_how_many) (ps := p_how_many) X G a30 l30 c30 k30 (fun us hl => match us, hl with | [_, _, _], _ => rfl)
  have h31 := hasFn_mk (st := s_picked) (ps := p_picked) X G a31 l31 c31 k31 (fun us hl => match us, hl with | [_, _, _], _ => rfl)
  have h32 := hasFn_mk (st := s_forebear) (ps := p_forebear) X G a32 l32 c32 k32 (fun us hl => match us, hl with | [_, _, _, _], _ => rfl)
  have h38 := hasFn_mk (st := s_is_near) (ps := p_is_near) X G a38 l38 c38 k38 (fun us hl => match us, hl with | [_, _], _ => rfl)
  have h39 := hasFn_mk (st := s_are_of) (ps := p_are_of) X G a39 l39 c39 k39 (fun us hl => match us, hl with | [_, _], _ => rfl)
  have h40 := hasFn_mk (st := s_is_test) (ps := p_is_test) X G a40 l40 c40 k40 (fun us hl => match us, hl with | [_, _, _], _ => rfl)
  have h41 := hasFn_mk (st := s_is_cell_row) (ps := p_is_cell_row) X G a41 l41 c41 k41 (fun us hl => match us, hl with | [_, _, _], _ => rfl)
  have h42 := hasFn_mk (st := s_is_text_of) (ps := p_is_text_of) X G a42 l42 c42 k42 (fun us hl => match us, hl with | [_, _, _], _ => rfl)
  have h43 := hasFn_mk (st := s_is_block_row) (ps := p_is_block_row) X G a43 l43 c43 k43 (fun us hl => match us, hl with | [_, _], _ => rfl)
  have h46 := hasFn_mk (st := s_Lbag) (ps := p_Lbag) X G a46 l46 c46 k46 (fun us hl => match us, hl with | [_], _ => rfl)
  have h47 := hasFn_mk (st := s_Ltake) (ps := p_Ltake) X G a47 l47 c47 k47 (fun us hl => match us, hl with | [_, _], _ => rfl)
  have h48 := hasFn_mk (st := s_Lsigns) (ps := p_Lsigns) X G a48 l48 c48 k48 (fun us hl => match us, hl with | [_], _ => rfl)
  have h49 := hasFn_mk (st := s_Lsome) (ps := p_Lsome) X G a49 l49 c49 k49 (fun us hl => match us, hl with | [_, _], _ => rfl)
  have h50 := hasFn_mk (st := s_Lnear) (ps := p_Lnear) X G a50 l50 c50 k50 (fun us hl => match us, hl with | [_, _], _ => rfl)
  have h51 := hasFn_mk (st := s_Ltest) (ps := p_Ltest) X G a51 l51 c51 k51 (fun us hl => match us, hl with | [_, _, _], _ => rfl)
  have h52 := hasFn_mk (st := s_Lrow) (ps := p_Lrow) X G a52 l52 c52 k52 (fun us hl => match us, hl with | [_, _, _], _ => rfl)
  have h53 := hasFn_mk (st := s_Lblock_row) (ps := p_Lblock_row) X G a53 l53 c53 k53 (fun us hl => match us, hl with | [_, _], _ => rfl)
  have h54 := hasFn_mk (st := s_Lrule) (ps := p_Lrule) X G a54 l54 c54 k54 (fun us hl => match us, hl with | [_, _, _], _ => rfl)
  have h55 := hasFn_mk (st := s_Lholds) (ps := p_Lholds) X G a55 l55 c55 k55 (fun us hl => match us, hl with | [_, _, _], _ => rfl)
  have h56 := hasFn_mk (st := s_Lbecomes) (ps := p_Lbecomes) X G a56 l56 c56 k56 (fun us hl => match us, hl with | [_, _, _], _ => rfl)
  have h57 := hasFn_mk (st := s_Loff) (ps := p_Loff) X G a57 l57 c57 k57 (fun us hl => match us, hl with | [_], _ => rfl)
  have h58 := hasFn_mk (st := s_Lmiddle) (ps := p_Lmiddle) X G a58 l58 c58 k58 (fun us hl => match us, hl with | [_, _, _], _ => rfl)
  have h59 := hasFn_mk (st := s_Lletters) (ps := p_Lletters) X G a59 l59 c59 k59 (fun us hl => match us, hl with | [_, _], _ => rfl)
  have h60 := hasFn_mk (st := s_Lcolumns) (ps := p_Lcolumns) X G a60 l60 c60 k60 (fun us hl => match us, hl with | [_], _ => rfl)
  have h61 := hasFn_mk (st := s_Lrows) (ps := p_Lrows) X G a61 l61 c61 k61 (fun us hl => match us, hl with | [_, _], _ => rfl)
  have h62 := hasFn_mk (st := s_Lstrip) (ps := p_Lstrip) X G a62 l62 c62 k62 (fun us hl => match us, hl with | [_, _], _ => rfl)
  have h63 := hasFn_mk (st := s_Lnext_rows) (ps := p_Lnext_rows) X G a63 l63 c63 k63 (fun us hl => match us, hl with | [_, _, _], _ => rfl)
  have h64 := hasFn_mk (st := s_Lmade_rule) (ps := p_Lmade_rule) X G a64 l64 c64 k64 (fun us hl => match us, hl with | [_], _ => rfl)
  have h65 := hasFn_mk (st := s_Lwords) (ps := p_Lwords) X G a65 l65 c65 k65 (fun us hl => match us, hl with | [_, _], _ => rfl)
  have h66 := hasFn_mk (st := s_law) (ps := p_law) X G a66 l66 c66 k66 (fun us hl => match us, hl with | [_], _ => rfl)
  have h3100 := hasMt_mk (st := s_Strip___init__) (ps := p_Strip___init__) a3100 if3100 l3100 c3100_ k3100 (fun us hl => match us, hl with | [_, _, _, _], _ => rfl)
  have h3101 := hasMt_mk (st := s_Strip_sign_in) (ps := p_Strip_sign_in) a3101 if3101 l3101 c3101_ k3101 (fun us hl => match us, hl with | [_, _, _], _ => rfl)
  have h3102 := hasMt_mk (st := s_Strip_made) (ps := p_Strip_made) a3102 if3102 l3102 c3102_ k3102 (fun us hl => match us, hl with | [_, _, _, _], _ => rfl)
  have h3103 := hasMt_mk (st := s_Strip_ways_of) (ps := p_Strip_ways_of) a3103 if3103 l3103 c3103_ k3103 (fun us hl => match us, hl with | [_, _], _ => rfl)
  have h3104 := hasMt_mk (st := s_Strip_behind) (ps := p_Strip_behind) a3104 if3104 l3104 c3104_ k3104 (fun us hl => match us, hl with | [_, _, _], _ => rfl)
  have h3200 := hasMt_mk (st := s_Rule___init__) (ps := p_Rule___init__) a3200 if3200 l3200 c3200_ k3200 (fun us hl => match us, hl with | [_, _, _, _, _], _ => rfl)
  have h3201 := hasMt_mk (st := s_Rule_is_row) (ps := p_Rule_is_row) a3201 if3201 l3201 c3201_ k3201 (fun us hl => match us, hl with | [_, _], _ => rfl)
  have h3202 := hasMt_mk (st := s_Rule_kind) (ps := p_Rule_kind) a3202 if3202 l3202 c3202_ k3202 (fun us hl => match us, hl with | [_], _ => rfl)
  have h3203 := hasMt_mk (st := s_Rule_many) (ps := p_Rule_many) a3203 if3203 l3203 c3203_ k3203 (fun us hl => match us, hl with | [_], _ => rfl)
  have h3204 := hasMt_mk (st := s_Rule_near) (ps := p_Rule_near) a3204 if3204 l3204 c3204_ k3204 (fun us hl => match us, hl with | [_], _ => rfl)
  have h3206 := hasMt_mk (st := s_Rule_signs) (ps := p_Rule_signs) a3206 if3206 l3206 c3206_ k3206 (fun us hl => match us, hl with | [_], _ => rfl)
  have h3207 := hasMt_mk (st := s_Rule_test_holds) (ps := p_Rule_test_holds) a3207 if3207 l3207 c3207_ k3207 (fun us hl => match us, hl with | [_, _, _], _ => rfl)
  have h3208 := hasMt_mk (st := s_Rule_fate) (ps := p_Rule_fate) a3208 if3208 l3208 c3208_ k3208 (fun us hl => match us, hl with | [_, _, _], _ => rfl)
  have T : Txt w K mg (adF [(14, f14), (15, f15), (16, f16), (17, f17), (18, f18), (22, f22), (23, f23), (25, f25), (26, f26), (27, f27), (29, f29), (30, f30), (31, f31), (32, f32), (38, f38), (39, f39), (40, f40), (41, f41), (42, f42), (43, f43), (46, f46), (47, f47), (48, f48), (49, f49), (50, f50), (51, f51), (52, f52), (53, f53), (54, f54), (55, f55), (56, f56), (57, f57), (58, f58), (59, f59), (60, f60), (61, f61), (62, f62), (63, f63), (64, f64), (65, f65), (66, fa), (3100, f3100), (3101, f3101), (3102, f3102), (3103, f3103), (3104, f3104), (3200, f3200), (3201, f3201), (3202, f3202), (3203, f3203), (3204, f3204), (3206, f3206), (3207, f3207), (3208, f3208), (24, c24), (44, c44)]) (fdF (PySem.W.fnOf "law" "law" (defArgs s_law) (defBody s_law) (defScope s_law) .none kV66 dc66 pm66 an66 cd66 ct66) [(14, PySem.W.fnOf "is_whole" "is_whole" (defArgs s_is_whole) (defBody s_is_whole) (defScope s_is_whole) .none kV14 dc14 pm14 an14 cd14 ct14), (15, PySem.W.fnOf "is_from_to" "is_from_to" (defArgs s_is_from_to) (defBody s_is_from_to) (defScope s_is_from_to) .none kV15 dc15 pm15 an15 cd15 ct15), (16, PySem.W.fnOf "is_sign" "is_sign" (defArgs s_is_sign) (defBody s_is_sign) (defScope s_is_sign) .none kV16 dc16 pm16 an16 cd16 ct16), (17, PySem.W.fnOf "is_signs" "is_signs" (defArgs s_is_signs) (defBody s_is_signs) (defScope s_is_signs) .none kV17 dc17 pm17 an17 cd17 ct17), (18, PySem.W.fnOf "is_place" "is_place" (defArgs s_is_place) (defBody s_is_place) (defScope s_is_place) .none kV18 dc18 pm18 an18 cd18 ct18), (22, PySem.W.fnOf "need_strip" "need_strip" (defArgs s_need_strip) (defBody s_need_strip) (defScope s_need_strip) .none kV22 dc22 pm22 an22 cd22 ct22), (23, PySem.W.fnOf "words_of" "words_of" (defArgs s_words_of) (defBody s_words_of) (defScope s_words_of) .none kV23 dc23 pm23 an23 cd23 ct23), (25, PySem.W.fnOf "columns_of" "columns_of" (defArgs s_columns_of) (defBody s_columns_of) (defScope s_columns_of) .none kV25 dc25 pm25 an25 cd25 ct25), (26, PySem.W.fnOf "rows_of" "rows_of" (defArgs s_rows_of) (defBody s_rows_of) (defScope s_rows_of) .none kV26 dc26 pm26 an26 cd26 ct26), (27, PySem.W.fnOf "strip_for" "strip_for" (defArgs s_strip_for) (defBody s_strip_for) (defScope s_strip_for) .none kV27 dc27 pm27 an27 cd27 ct27), (29, PySem.W.fnOf "counts_on" "counts_on" (defArgs s_counts_on) (defBody s_counts_on) (defScope s_counts_on) .none kV29 dc29 pm29 an29 cd29 ct29), (30, PySem.W.fnOf "how_many" "how_many" (defArgs s_how_many) (defBody s_how_many) (defScope s_how_many) .none kV30 dc30 pm30 an30 cd30 ct30), (31, PySem.W.fnOf "picked" "picked" (defArgs s_picked) (defBody s_picked) (defScope s_picked) .none kV31 dc31 pm31 an31 cd31 ct31), (32, PySem.W.fnOf "forebear" "forebear" (defArgs s_forebear) (defBody s_forebear) (defScope s_forebear) .none kV32 dc32 pm32 an32 cd32 ct32), (38, PySem.W.fnOf "is_near" "is_near" (defArgs s_is_near) (defBody s_is_near) (defScope s_is_near) .none kV38 dc38 pm38 an38 cd38 ct38), (39, PySem.W.fnOf "are_of" "are_of" (defArgs s_are_of) (defBody s_are_of) (defScope s_are_of) .none kV39 dc39 pm39 an39 cd39 ct39), (40, PySem.W.fnOf "is_test" "is_test" (defArgs s_is_test) (defBody s_is_test) (defScope s_is_test) .none kV40 dc40 pm40 an40 cd40 ct40), (41, PySem.W.fnOf "is_cell_row" "is_cell_row" (defArgs s_is_cell_row) (defBody s_is_cell_row) (defScope s_is_cell_row) .none kV41 dc41 pm41 an41 cd41 ct41), (42, PySem.W.fnOf "is_text_of" "is_text_of" (defArgs s_is_text_of) (defBody s_is_text_of) (defScope s_is_text_of) .none kV42 dc42 pm42 an42 cd42 ct42), (43, PySem.W.fnOf "is_block_row" "is_block_row" (defArgs s_is_block_row) (defBody s_is_block_row) (defScope s_is_block_row) .none kV43 dc43 pm43 an43 cd43 ct43), (46, PySem.W.fnOf "_law_bag" "_law_bag" (defArgs s_Lbag) (defBody s_Lbag) (defScope s_Lbag) .none kV46 dc46 pm46 an46 cd46 ct46), (47, PySem.W.fnOf "_law_take" "_law_take" (defArgs s_Ltake) (defBody s_Ltake) (defScope s_Ltake) .none kV47 dc47 pm47 an47 cd47 ct47), (48, PySem.W.fnOf "_law_signs" "_law_signs" (defArgs s_Lsigns) (defBody s_Lsigns) (defScope s_Lsigns) .none kV48 dc48 pm48 an48 cd48 ct48), (49, PySem.W.fnOf "_law_some" "_law_some" (defArgs s_Lsome) (defBody s_Lsome) (defScope s_Lsome) .none kV49 dc49 pm49 an49 cd49 ct49), (50, PySem.W.fnOf "_law_near" "_law_near" (defArgs s_Lnear) (defBody s_Lnear) (defScope s_Lnear) .none kV50 dc50 pm50 an50 cd50 ct50), (51, PySem.W.fnOf "_law_test" "_law_test" (defArgs s_Ltest) (defBody s_Ltest) (defScope s_Ltest) .none kV51 dc51 pm51 an51 cd51 ct51), (52, PySem.W.fnOf "_law_row" "_law_row" (defArgs s_Lrow) (defBody s_Lrow) (defScope s_Lrow) .none kV52 dc52 pm52 an52 cd52 ct52), (53, PySem.W.fnOf "_law_block_row" "_law_block_row" (defArgs s_Lblock_row) (defBody s_Lblock_row) (defScope s_Lblock_row) .none kV53 dc53 pm53 an53 cd53 ct53), (54, PySem.W.fnOf "_law_rule" "_law_rule" (defArgs s_Lrule) (defBody s_Lrule) (defScope s_Lrule) .none kV54 dc54 pm54 an54 cd54 ct54), (55, PySem.W.fnOf "_law_holds" "_law_holds" (defArgs s_Lholds) (defBody s_Lholds) (defScope s_Lholds) .none kV55 dc55 pm55 an55 cd55 ct55), (56, PySem.W.fnOf "_law_becomes" "_law_becomes" (defArgs s_Lbecomes) (defBody s_Lbecomes) (defScope s_Lbecomes) .none kV56 dc56 pm56 an56 cd56 ct56), (57, PySem.W.fnOf "_law_off" "_law_off" (defArgs s_Loff) (defBody s_Loff) (defScope s_Loff) .none kV57 dc57 pm57 an57 cd57 ct57), (58, PySem.W.fnOf "_law_middle" "_law_middle" (defArgs s_Lmiddle) (defBody s_Lmiddle) (defScope s_Lmiddle) .none kV58 dc58 pm58 an58 cd58 ct58), (59, PySem.W.fnOf "_law_letters" "_law_letters" (defArgs s_Lletters) (defBody s_Lletters) (defScope s_Lletters) .none kV59 dc59 pm59 an59 cd59 ct59), (60, PySem.W.fnOf "_law_columns" "_law_columns" (defArgs s_Lcolumns) (defBody s_Lcolumns) (defScope s_Lcolumns) .none kV60 dc60 pm60 an60 cd60 ct60), (61, PySem.W.fnOf "_law_rows" "_law_rows" (defArgs s_Lrows) (defBody s_Lrows) (defScope s_Lrows) .none kV61 dc61 pm61 an61 cd61 ct61), (62, PySem.W.fnOf "_law_strip" "_law_strip" (defArgs s_Lstrip) (defBody s_Lstrip) (defScope s_Lstrip) .none kV62 dc62 pm62 an62 cd62 ct62), (63, PySem.W.fnOf "_law_next_rows" "_law_next_rows" (defArgs s_Lnext_rows) (defBody s_Lnext_rows) (defScope s_Lnext_rows) .none kV63 dc63 pm63 an63 cd63 ct63), (64, PySem.W.fnOf "_law_made_rule" "_law_made_rule" (defArgs s_Lmade_rule) (defBody s_Lmade_rule) (defScope s_Lmade_rule) .none kV64 dc64 pm64 an64 cd64 ct64), (65, PySem.W.fnOf "_law_words" "_law_words" (defArgs s_Lwords) (defBody s_Lwords) (defScope s_Lwords) .none kV65 dc65 pm65 an65 cd65 ct65), (66, PySem.W.fnOf "law" "law" (defArgs s_law) (defBody s_law) (defScope s_law) .none kV66 dc66 pm66 an66 cd66 ct66), (3100, PySem.W.fnOf "__init__" "Strip.__init__" (defArgs s_Strip___init__) (defBody s_Strip___init__) (defScope s_Strip___init__) .none kV3100 dc3100 pm3100 an3100 cd3100 ct3100), (3101, PySem.W.fnOf "sign_in" "Strip.sign_in" (defArgs s_Strip_sign_in) (defBody s_Strip_sign_in) (defScope s_Strip_sign_in) .none kV3101 dc3101 pm3101 an3101 cd3101 ct3101), (3102, PySem.W.fnOf "made" "Strip.made" (defArgs s_Strip_made) (defBody s_Strip_made) (defScope s_Strip_made) .none kV3102 dc3102 pm3102 an3102 cd3102 ct3102), (3103, PySem.W.fnOf "ways_of" "Strip.ways_of" (defArgs s_Strip_ways_of) (defBody s_Strip_ways_of) (defScope s_Strip_ways_of) .none kV3103 dc3103 pm3103 an3103 cd3103 ct3103), (3104, PySem.W.fnOf "behind" "Strip.behind" (defArgs s_Strip_behind) (defBody s_Strip_behind) (defScope s_Strip_behind) .none kV3104 dc3104 pm3104 an3104 cd3104 ct3104), (3200, PySem.W.fnOf "__init__" "Rule.__init__" (defArgs s_Rule___init__) (defBody s_Rule___init__) (defScope s_Rule___init__) .none kV3200 dc3200 pm3200 an3200 cd3200 ct3200), (3201, PySem.W.fnOf "is_row" "Rule.is_row" (defArgs s_Rule_is_row) (defBody s_Rule_is_row) (defScope s_Rule_is_row) .none kV3201 dc3201 pm3201 an3201 cd3201 ct3201), (3202, PySem.W.fnOf "kind" "Rule.kind" (defArgs s_Rule_kind) (defBody s_Rule_kind) (defScope s_Rule_kind) .none kV3202 dc3202 pm3202 an3202 cd3202 ct3202), (3203, PySem.W.fnOf "many" "Rule.many" (defArgs s_Rule_many) (defBody s_Rule_many) (defScope s_Rule_many) .none kV3203 dc3203 pm3203 an3203 cd3203 ct3203), (3204, PySem.W.fnOf "near" "Rule.near" (defArgs s_Rule_near) (defBody s_Rule_near) (defScope s_Rule_near) .none kV3204 dc3204 pm3204 an3204 cd3204 ct3204), (3206, PySem.W.fnOf "signs" "Rule.signs" (defArgs s_Rule_signs) (defBody s_Rule_signs) (defScope s_Rule_signs) .none kV3206 dc3206 pm3206 an3206 cd3206 ct3206), (3207, PySem.W.fnOf "test_holds" "Rule.test_holds" (defArgs s_Rule_test_holds) (defBody s_Rule_test_holds) (defScope s_Rule_test_holds) .none kV3207 dc3207 pm3207 an3207 cd3207 ct3207), (3208, PySem.W.fnOf "fate" "Rule.fate" (defArgs s_Rule_fate) (defBody s_Rule_fate) (defScope s_Rule_fate) .none kV3208 dc3208 pm3208 an3208 cd3208 ct3208)]) :=
    { m_isinstance := PySem.W.mg_none_of X G z_isinstance, m_int := PySem.W.mg_none_of X G z_int, m_bool := PySem.W.mg_none_of X G z_bool, m_str := PySem.W.mg_none_of X G z_str, m_len := PySem.W.mg_none_of X G z_len, m_all := PySem.W.mg_none_of X G z_all, m_zip := PySem.W.mg_none_of X G z_zip, m_sorted := PySem.W.mg_none_of X G z_sorted, m_range := PySem.W.mg_none_of X G z_range, m_sum := PySem.W.mg_none_of X G z_sum, m_list := PySem.W.mg_none_of X G z_list, m_tuple := PySem.W.mg_none_of X G z_tuple, m_set := PySem.W.mg_none_of X G z_set, m_abs := PySem.W.mg_none_of X G z_abs, m_min := PySem.W.mg_none_of X G z_min, m_enumerate := PySem.W.mg_none_of X G z_enumerate, c_SIGNS := hasC_str X G q_SIGNS, c_PLACES := hasT_mk X G q_PLACES lq_PLACES rfl rfl rfl (by show 8 ≤ sizeLine; decide) (.cons ⟨_, rfl⟩ (.cons ⟨_, rfl⟩ (.cons ⟨_, rfl⟩ (.cons ⟨_, rfl⟩ (.cons ⟨_, rfl⟩ (.cons ⟨_, rfl⟩ (.cons ⟨_, rfl⟩ (.cons ⟨_, rfl⟩ .nil)))))))), c_MOST_STATES := hasC_int X G q_MOST_STATES, c_STRAIGHT := hasT_mk X G q_STRAIGHT lq_STRAIGHT rfl rfl rfl (by show 4 ≤ sizeLine; decide) (.cons ⟨_, rfl⟩ (.cons ⟨_, rfl⟩ (.cons ⟨_, rfl⟩ (.cons ⟨_, rfl⟩ .nil)))), c_MOST_TESTS := hasC_int X G q_MOST_TESTS, c_OFFS := hasDic_mk X G q_OFFS (dicT_cons lq_OFFS kl_OFFS qn0_OFFS ql0_OFFS rfl rfl rfl (by show 2 ≤ sizeLine; decide) (.cons ⟨_, rfl⟩ (.cons ⟨_, rfl⟩ .nil)) (dicT_cons lq_OFFS kl_OFFS qn1_OFFS ql1_OFFS rfl rfl rfl (by show 2 ≤ sizeLine; decide) (.cons ⟨_, rfl⟩ (.cons ⟨_, rfl⟩ .nil)) (dicT_cons lq_OFFS kl_OFFS qn2_OFFS ql2_OFFS rfl rfl rfl (by show 2 ≤ sizeLine; decide) (.cons ⟨_, rfl⟩ (.cons ⟨_, rfl⟩ .nil)) (dicT_cons lq_OFFS kl_OFFS qn3_OFFS ql3_OFFS rfl rfl rfl (by show 2 ≤ sizeLine; decide) (.cons ⟨_, rfl⟩ (.cons ⟨_, rfl⟩ .nil)) (dicT_cons lq_OFFS kl_OFFS qn4_OFFS ql4_OFFS rfl rfl rfl (by show 2 ≤ sizeLine; decide) (.cons ⟨_, rfl⟩ (.cons ⟨_, rfl⟩ .nil)) (dicT_cons lq_OFFS kl_OFFS qn5_OFFS ql5_OFFS rfl rfl rfl (by show 2 ≤ sizeLine; decide) (.cons ⟨_, rfl⟩ (.cons ⟨_, rfl⟩ .nil)) (dicT_cons lq_OFFS kl_OFFS qn6_OFFS ql6_OFFS rfl rfl rfl (by show 2 ≤ sizeLine; decide) (.cons ⟨_, rfl⟩ (.cons ⟨_, rfl⟩ .nil)) (dicT_cons lq_OFFS kl_OFFS qn7_OFFS ql7_OFFS rfl rfl rfl (by show 2 ≤ sizeLine; decide) (.cons ⟨_, rfl⟩ (.cons ⟨_, rfl⟩ .nil)) dicT_nil)))))))), c_FOLDED := hasC_str X G q_FOLDED, c_SORTS := hasT_mk X G q_SORTS lq_SORTS rfl rfl rfl (by show 3 ≤ sizeLine; decide) (.cons ⟨_, rfl⟩ (.cons ⟨_, rfl⟩ (.cons ⟨_, rfl⟩ .nil))), c_MOST_ROWS := hasC_int X G q_MOST_ROWS, cl_Strip := ⟨pg24, hd24, po24, sA24⟩, mk_Strip := ⟨mk24, a3100, if3100, kC24⟩, g_Strip := PySem.W.mg_of X G aC24, is_Strip := ⟨ia24, ib24, ic24, id24⟩, ne_Strip := ⟨ie24, id24⟩, na_Strip_ruled := na24_ruled, na_Strip_brim := na24_brim, na_Strip_offs := na24_offs, na_Strip_letters := na24_letters, na_Strip_states := na24_states, na_Strip_ways_on := na24_ways_on, cl_Rule := ⟨pg44, hd44, po44, sA44⟩, mk_Rule := ⟨mk44, a3200, if3200, kC44⟩, g_Rule := PySem.W.mg_of X G aC44, is_Rule := ⟨ia44, ib44, ic44, id44⟩, ne_Rule := ⟨ie44, id44⟩, na_Rule_sort_told := na44_sort_told, na_Rule_count := na44_count, na_Rule_looked_at := na44_looked_at, na_Rule_listed := na44_listed, h_is_whole := h14, h_is_from_to := h15, h_is_sign := h16, h_is_signs := h17, h_is_place := h18, h_need_strip := h22, h_words_of := h23, h_columns_of := h25, h_rows_of := h26, h_strip_for := h27, h_counts_on := h29, h_how_many := h30, h_picked := h31, h_forebear := h32, h_is_near := h38, h_are_of := h39, h_is_test := h40, h_is_cell_row := h41, h_is_text_of := h42, h_is_block_row := h43, h_Lbag := h46, h_Ltake := h47, h_Lsigns := h48, h_Lsome := h49, h_Lnear := h50, h_Ltest := h51, h_Lrow := h52, h_Lblock_row := h53, h_Lrule := h54, h_Lholds := h55, h_Lbecomes := h56, h_Loff := h57, h_Lmiddle := h58, h_Lletters := h59, h_Lcolumns := h60, h_Lrows := h61, h_Lstrip := h62, h_Lnext_rows := h63, h_Lmade_rule := h64, h_Lwords := h65, h_law := h66, h_Strip___init__ := h3100, h_Strip_sign_in := h3101, h_Strip_made := h3102, h_Strip_ways_of := h3103, h_Strip_behind := h3104, h_Rule___init__ := h3200, h_Rule_is_row := h3201, h_Rule_kind := h3202, h_Rule_many := h3203, h_Rule_near := h3204, h_Rule_signs := h3206, h_Rule_test_holds := h3207, h_Rule_fate := h3208 }
  exact ⟨_, fun s v => .of_eq rfl, fun base _ _ => ok_law T⟩
theorem walk {l : PySem.W.OpenLaw} {q : Program} {loose : List Str} {XP : (Str → Option Value) → Heap → Prop} {YP : World → Heap → Prop} {d : DefRec} {K : Params → PySem.W.Frag} (hn : l.most = some 63) (hdf : d.params.defaults = [])
    (hY : ∀ (w : World) (h : Heap), YP w h → (K w.params).In h)
    (F : ∀ (w : World) (mg : Str → Option Value) (fa : Addr) (h : Heap), (K w.params).In h → h.Ns mainGlobals mg → mg d.name = some (.ref fa) →
      ∃ fd : FuncData, (∀ (s : Shared) (u : Value), BindsTo s fd ⟨[u], []⟩ [("_law_script", u)]) ∧ ∀ base : Heap, (K w.params).In base → base.Ns mainGlobals mg → FnG l.prog w (K w.params) mg base CX0 9 fa fd ["_law_script"] (spLaw (K w.params))) :
    PySem.W.WalkO q loose XP YP l.row.toRowW d [] (fun f vs => PySem.call f vs) :=
  walk_ofG (n := 63) (k := 9) (x := "_law_script") (sp := spLaw) hn (by decide) hdf ⟨rfl, by decide, by decide⟩ hY F fun _ _ a ns hl hS => ⟨a, ns, rfl, hS, hl, fun _ => rfl⟩
end Law
open PySem PySem.W PySem.Calls PyProof.Rows in
set_option maxRecDepth 100000 in
set_option maxHeartbeats 0 in
theorem PySem.Challenge.cw_cellscript_k73_whole_counts_add_up_holds : PySem.Challenge.rw_cellscript_k73_whole_counts_add_up.Holds := by
  w_on; o_law
  refine holds_open (q := Law.qv) (loose := Law.loA) (Xt := fun s => xlAt Law.qv [] s && recOk (RowW.records (OpenRow.toRowW PySem.Challenge.rw_cellscript_k73_whole_counts_add_up.row)) s) (XP := XL Law.qv []) (Yf := Hook.obs (kHook Law.KX Law.aX Law.ekX)) (Ya := Hook.val (kHook Law.KX Law.aX Law.ekX)) (YP := Hook.says (kHook Law.KX Law.aX Law.ekX)) (N := 30800) ?hl (Hook.of (kHook Law.KX Law.aX Law.ekX)) (Hook.keeps (kHook Law.KX Law.aX Law.ekX)) (fun s e => xl_of s (Bool.and_eq_true_iff.mp e).1) XL.keeps (by rfl) (by rfl) (by rfl) (fun s e => recFacts_of (Bool.and_eq_true_iff.mp e).2) (by rfl) (by first | assumption | decide +kernel) (by decide +kernel) ⟨rfl, rfl, rfl, rfl, rfl, by decide +kernel⟩ ?hw ?hc
  (case hl => exact D3.left_two (M := 30000) (by kernel_rfl) (by rfl) (fun s => by kernel_rfl) (by rfl) Law.run0 Law.run1)
  (case hw => w_witness2)
  delta Law.KX Law.KA
  dsimp only
  k_fill
  refine Law.walk (l := PySem.Challenge.rw_cellscript_k73_whole_counts_add_up) rfl rfl (fun w h Y => PySem.W.kIn_of Y) ?F
  case F =>
    intro w mg fa h KX G hmg
    refine' Law.all_mk KX G hmg ?a14 ?l14 ?c14 ?k14 ?a15 ?l15 ?c15 ?k15 ?a16 ?l16 ?c16 ?k16 ?a17 ?l17 ?c17 ?k17 ?a18 ?l18 ?c18 ?k18 ?a22 ?l22 ?c22 ?k22 ?a23 ?l23 ?c23 ?k23 ?a25 ?l25 ?c25 ?k25 ?a26 ?l26 ?c26 ?k26 ?a27 ?l27 ?c27 ?k27 ?a29 ?l29 ?c29 ?k29 ?a30 ?l30 ?c30 ?k30 ?a31 ?l31 ?c31 ?k31 ?a32 ?l32 ?c32 ?k32 ?a38 ?l38 ?c38 ?k38 ?a39 ?l39 ?c39 ?k39 ?a40 ?l40 ?c40 ?k40 ?a41 ?l41 ?c41 ?k41 ?a42 ?l42 ?c42 ?k42 ?a43 ?l43 ?c43 ?k43 ?a46 ?l46 ?c46 ?k46 ?a47 ?l47 ?c47 ?k47 ?a48 ?l48 ?c48 ?k48 ?a49 ?l49 ?c49 ?k49 ?a50 ?l50 ?c50 ?k50 ?a51 ?l51 ?c51 ?k51 ?a52 ?l52 ?c52 ?k52 ?a53 ?l53 ?c53 ?k53 ?a54 ?l54 ?c54 ?k54 ?a55 ?l55 ?c55 ?k55 ?a56 ?l56 ?c56 ?k56 ?a57 ?l57 ?c57 ?k57 ?a58 ?l58 ?c58 ?k58 ?a59 ?l59 ?c59 ?k59 ?a60 ?l60 ?c60 ?k60 ?a61 ?l61 ?c61 ?k61 ?a62 ?l62 ?c62 ?k62 ?a63 ?l63 ?c63 ?k63 ?a64 ?l64 ?c64 ?k64 ?a65 ?l65 ?c65 ?k65 ?a66 ?l66 ?c66 ?k66 ?aC24 ?pg24 ?hd24 ?po24 ?sA24 ?mk24 ?kC24 ?ia24 ?ib24 ?ic24 ?id24 ?ie24 ?na24_ruled ?na24_brim ?na24_offs ?na24_letters ?na24_states ?na24_ways_on ?aC44 ?pg44 ?hd44 ?po44 ?sA44 ?mk44 ?kC44 ?ia44 ?ib44 ?ic44 ?id44 ?ie44 ?na44_sort_told ?na44_count ?na44_looked_at ?na44_listed ?a3100 ?if3100 ?l3100 ?c3100_ ?k3100 ?a3101 ?if3101 ?l3101 ?c3101_ ?k3101 ?a3102 ?if3102 ?l3102 ?c3102_ ?k3102 ?a3103 ?if3103 ?l3103 ?c3103_ ?k3103 ?a3104 ?if3104 ?l3104 ?c3104_ ?k3104 ?a3200 ?if3200 ?l3200 ?c3200_ ?k3200 ?a3201 ?if3201 ?l3201 ?c3201_ ?k3201 ?a3202 ?if3202 ?l3202 ?c3202_ ?k3202 ?a3203 ?if3203 ?l3203 ?c3203_ ?k3203 ?a3204 ?if3204 ?l3204 ?c3204_ ?k3204 ?a3206 ?if3206 ?l3206 ?c3206_ ?k3206 ?a3207 ?if3207 ?l3207 ?c3207_ ?k3207 ?a3208 ?if3208 ?l3208 ?c3208_ ?k3208 ?z_isinstance ?z_int ?z_bool ?z_str ?z_len ?z_all ?z_zip ?z_sorted ?z_range ?z_sum ?z_list ?z_tuple ?z_set ?z_abs ?z_min ?z_enumerate ?q_SIGNS ?q_PLACES ?lq_PLACES ?q_MOST_STATES ?q_STRAIGHT ?lq_STRAIGHT ?q_MOST_TESTS ?q_OFFS ?lq_OFFS ?kl_OFFS ?qn0_OFFS ?ql0_OFFS ?qn1_OFFS ?ql1_OFFS ?qn2_OFFS ?ql2_OFFS ?qn3_OFFS ?ql3_OFFS ?qn4_OFFS ?ql4_OFFS ?qn5_OFFS ?ql5_OFFS ?qn6_OFFS ?ql6_OFFS ?qn7_OFFS ?ql7_OFFS ?q_FOLDED ?q_SORTS ?lq_SORTS ?q_MOST_ROWS
    (case a14 => k_is)
    (case l14 => k_is)
    (case c14 => k_is)
    (case k14 => k_is)
    (case a15 => k_is)
    (case l15 => k_is)
    (case c15 => k_is)
    (case k15 => k_is)
    (case a16 => k_is)
    (case l16 => k_is)
    (case c16 => k_is)
    (case k16 => k_is)
    (case a17 => k_is)
    (case l17 => k_is)
    (case c17 => k_is)
    (case k17 => k_is)
    (case a18 => k_is)
    (case l18 => k_is)
    (case c18 => k_is)
    (case k18 => k_is)
    (case a22 => k_is)
    (case l22 => k_is)
    (case c22 => k_is)
    (case k22 => k_is)
    (case a23 => k_is)
    (case l23 => k_is)
    (case c23 => k_is)
    (case k23 => k_is)
    (case a25 => k_is)
    (case l25 => k_is)
    (case c25 => k_is)
    (case k25 => k_is)
    (case a26 => k_is)
    (case l26 => k_is)
    (case c26 => k_is)
    (case k26 => k_is)
    (case a27 => k_is)
    (case l27 => k_is)
    (case c27 => k_is)
    (case k27 => k_is)
    (case a29 => k_is)
    (case l29 => k_is)
    (case c29 => k_is)
    (case k29 => k_is)
    (case a30 => k_is)
    (case l30 => k_is)
    (case c30 => k_is)
    (case k30 => k_is)
    (case a31 => k_is)
    (case l31 => k_is)
    (case c31 => k_is)
    (case k31 => k_is)
    (case a32 => k_is)
    (case l32 => k_is)
    (case c32 => k_is)
    (case k32 => k_is)
    (case a38 => k_is)
    (case l38 => k_is)
    (case c38 => k_is)
    (case k38 => k_is)
    (case a39 => k_is)
    (case l39 => k_is)
    (case c39 => k_is)
    (case k39 => k_is)
    (case a40 => k_is)
    (case l40 => k_is)
    (case c40 => k_is)
    (case k40 => k_is)
    (case a41 => k_is)
    (case l41 => k_is)
    (case c41 => k_is)
    (case k41 => k_is)
    (case a42 => k_is)
    (case l42 => k_is)
    (case c42 => k_is)
    (case k42 => k_is)
    (case a43 => k_is)
    (case l43 => k_is)
    (case c43 => k_is)
    (case k43 => k_is)
    (case a46 => k_is)
    (case l46 => k_is)
    (case c46 => k_is)
    (case k46 => k_is)
    (case a47 => k_is)
    (case l47 => k_is)
    (case c47 => k_is)
    (case k47 => k_is)
    (case a48 => k_is)
    (case l48 => k_is)
    (case c48 => k_is)
    (case k48 => k_is)
    (case a49 => k_is)
    (case l49 => k_is)
    (case c49 => k_is)
    (case k49 => k_is)
    (case a50 => k_is)
    (case l50 => k_is)
    (case c50 => k_is)
    (case k50 => k_is)
    (case a51 => k_is)
    (case l51 => k_is)
    (case c51 => k_is)
    (case k51 => k_is)
    (case a52 => k_is)
    (case l52 => k_is)
    (case c52 => k_is)
    (case k52 => k_is)
    (case a53 => k_is)
    (case l53 => k_is)
    (case c53 => k_is)
    (case k53 => k_is)
    (case a54 => k_is)
    (case l54 => k_is)
    (case c54 => k_is)
    (case k54 => k_is)
    (case a55 => k_is)
    (case l55 => k_is)
    (case c55 => k_is)
    (case k55 => k_is)
    (case a56 => k_is)
    (case l56 => k_is)
    (case c56 => k_is)
    (case k56 => k_is)
    (case a57 => k_is)
    (case l57 => k_is)
    (case c57 => k_is)
    (case k57 => k_is)
    (case a58 => k_is)
    (case l58 => k_is)
    (case c58 => k_is)
    (case k58 => k_is)
    (case a59 => k_is)
    (case l59 => k_is)
    (case c59 => k_is)
    (case k59 => k_is)
    (case a60 => k_is)
    (case l60 => k_is)
    (case c60 => k_is)
    (case k60 => k_is)
    (case a61 => k_is)
    (case l61 => k_is)
    (case c61 => k_is)
    (case k61 => k_is)
    (case a62 => k_is)
    (case l62 => k_is)
    (case c62 => k_is)
    (case k62 => k_is)
    (case a63 => k_is)
    (case l63 => k_is)
    (case c63 => k_is)
    (case k63 => k_is)
    (case a64 => k_is)
    (case l64 => k_is)
    (case c64 => k_is)
    (case k64 => k_is)
    (case a65 => k_is)
    (case l65 => k_is)
    (case c65 => k_is)
    (case k65 => k_is)
    (case a66 => k_is)
    (case l66 => k_is)
    (case c66 => k_is)
    (case k66 => k_is)
    (case aC24 => k_is)
    (case pg24 => k_is)
    (case hd24 => k_is)
    (case po24 => k_is)
    (case sA24 => k_is)
    (case mk24 => k_is)
    (case kC24 => k_is)
    (case ia24 => k_is)
    (case ib24 => k_is)
    (case ic24 => k_is)
    (case id24 => k_is)
    (case ie24 => k_is)
    (case na24_ruled => k_is)
    (case na24_brim => k_is)
    (case na24_offs => k_is)
    (case na24_letters => k_is)
    (case na24_states => k_is)
    (case na24_ways_on => k_is)
    (case aC44 => k_is)
    (case pg44 => k_is)
    (case hd44 => k_is)
    (case po44 => k_is)
    (case sA44 => k_is)
    (case mk44 => k_is)
    (case kC44 => k_is)
    (case ia44 => k_is)
    (case ib44 => k_is)
    (case ic44 => k_is)
    (case id44 => k_is)
    (case ie44 => k_is)
    (case na44_sort_told => k_is)
    (case na44_count => k_is)
    (case na44_looked_at => k_is)
    (case na44_listed => k_is)
    (case a3100 => k_is)
    (case if3100 => k_is)
    (case l3100 => k_is)
    (case c3100_ => k_is)
    (case k3100 => k_is)
    (case a3101 => k_is)
    (case if3101 => k_is)
    (case l3101 => k_is)
    (case c3101_ => k_is)
    (case k3101 => k_is)
    (case a3102 => k_is)
    (case if3102 => k_is)
    (case l3102 => k_is)
    (case c3102_ => k_is)
    (case k3102 => k_is)
    (case a3103 => k_is)
    (case if3103 => k_is)
    (case l3103 => k_is)
    (case c3103_ => k_is)
    (case k3103 => k_is)
    (case a3104 => k_is)
    (case if3104 => k_is)
    (case l3104 => k_is)
    (case c3104_ => k_is)
    (case k3104 => k_is)
    (case a3200 => k_is)
    (case if3200 => k_is)
    (case l3200 => k_is)
    (case c3200_ => k_is)
    (case k3200 => k_is)
    (case a3201 => k_is)
    (case if3201 => k_is)
    (case l3201 => k_is)
    (case c3201_ => k_is)
    (case k3201 => k_is)
    (case a3202 => k_is)
    (case if3202 => k_is)
    (case l3202 => k_is)
    (case c3202_ => k_is)
    (case k3202 => k_is)
    (case a3203 => k_is)
    (case if3203 => k_is)
    (case l3203 => k_is)
    (case c3203_ => k_is)
    (case k3203 => k_is)
    (case a3204 => k_is)
    (case if3204 => k_is)
    (case l3204 => k_is)
    (case c3204_ => k_is)
    (case k3204 => k_is)
    (case a3206 => k_is)
    (case if3206 => k_is)
    (case l3206 => k_is)
    (case c3206_ => k_is)
    (case k3206 => k_is)
    (case a3207 => k_is)
    (case if3207 => k_is)
    (case l3207 => k_is)
    (case c3207_ => k_is)
    (case k3207 => k_is)
    (case a3208 => k_is)
    (case if3208 => k_is)
    (case l3208 => k_is)
    (case c3208_ => k_is)
    (case k3208 => k_is)
    (case z_isinstance => k_is)
    (case z_int => k_is)
    (case z_bool => k_is)
    (case z_str => k_is)
    (case z_len => k_is)
    (case z_all => k_is)
    (case z_zip => k_is)
    (case z_sorted => k_is)
    (case z_range => k_is)
    (case z_sum => k_is)
    (case z_list => k_is)
    (case z_tuple => k_is)
    (case z_set => k_is)
    (case z_abs => k_is)
    (case z_min => k_is)
    (case z_enumerate => k_is)
    (case q_SIGNS => k_is)
    (case q_PLACES => k_is)
    (case lq_PLACES => k_is)
    (case q_MOST_STATES => k_is)
    (case q_STRAIGHT => k_is)
    (case lq_STRAIGHT => k_is)
    (case q_MOST_TESTS => k_is)
    (case q_OFFS => k_is)
    (case lq_OFFS => k_is)
    (case kl_OFFS => (repeat (first | exact trivial | refine ⟨⟨_, _, rfl, rfl⟩, ?_⟩)))
    (case qn0_OFFS => k_is)
    (case ql0_OFFS => k_is)
    (case qn1_OFFS => k_is)
    (case ql1_OFFS => k_is)
    (case qn2_OFFS => k_is)
    (case ql2_OFFS => k_is)
    (case qn3_OFFS => k_is)
    (case ql3_OFFS => k_is)
    (case qn4_OFFS => k_is)
    (case ql4_OFFS => k_is)
    (case qn5_OFFS => k_is)
    (case ql5_OFFS => k_is)
    (case qn6_OFFS => k_is)
    (case ql6_OFFS => k_is)
    (case qn7_OFFS => k_is)
    (case ql7_OFFS => k_is)
    (case q_FOLDED => k_is)
    (case q_SORTS => k_is)
    (case lq_SORTS => k_is)
    (case q_MOST_ROWS => k_is)
#print axioms PySem.Challenge.cw_cellscript_k73_whole_counts_add_up_holds
