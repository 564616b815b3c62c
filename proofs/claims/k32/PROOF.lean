import PyProof.Rows.All
import Wide.All
import OpenK.AllK
import Wide.FinOn
import HandS.ForMost
import HandS.Exc
import HandS.TryOnly
import HandS.ExcOwn
import HandS.WordsExc
import HandS.IsInst
import HandS.Wide
import HandS.Strs
import HandS.RaiseMore
import PyProof.ReprRoads
import HandS.TupAny
import KE.GoesEnum
import HandS.ExcInit
import HandS.ExcField
import KE.KExcIs
import KE.KIsAll
import HandS.Flow
import HandS.More
import KE.KFmtOwn
import HandS.OwnEq
import PyProof.InstNe
import HandS.FStr
import HandS.StrMore
import HandS.Dict
import KE.KSortTupG
import HandS.Sort
import KE.KUnpackStar
import HandS.Text
import HandS.BoundDict
import HandS.Style
import HandS.DictComp
import KE.GoesDict
import KE.KDictKeyed
import PyProof.DictUpdate
import HandS.Defaults
import HandS.SetBool
import HandS.TupSets
import HandS.HotCalls
import KE.KDictCopyH
import KE.DataMinMax
import HandS.SortKw
import HandS.Deep
import HandS.Conv
import HandS.Star
import KE.OsRunLaw
import PySem.Challenge.RW_cellscript_k32_made_refused
set_option Elab.async false
set_option linter.all false
set_option maxRecDepth 100000
set_option maxHeartbeats 2000000
namespace D3
open PySem L2
/-- the program and the world, by which keys are hashed -/
structure PGw where
  P : Program
  w : World
/-- the object itself is known -/
def pinO (a : Addr) (o : Obj) : HO := .ext fun h => h.get? a = some o
/-- the object o is a dict with these keys (each its own tuple), addresses of the tuples, values -/
structure DtOb (g : PGw) (o : Obj) (us : List (List Key × Addr × Value)) : Prop where
  ex : o.ExactDict
  dat : ∃ (es : Array DictEntry) (ep : Nat), o.data = .dict es ep ∧ es.toList = us.map (entryOfKey (tupleKind (mixKind g.P g.w)))
  nd : (us.map (·.1)).Nodup
  sz : us.length ≤ sizeLine
/-- data: a flat or opaque value, a list, a tuple, an instance -/
inductive D where
  | v (x : V) | lst (ds : List D) | tup (ds : List D) | ins (C : Addr) (fs : List (Str × D)) | dic (kvs : List (Key × D))
  /-- a caught exception at a, its dict at d -/
  | exc (a : Addr) (d : Option Addr) (fs : List (Str × D))
  /-- a list of somebody else's at p, that holds ws, for a time -/
  | lent (p : Addr) (ws : List V) (ds : List D)
  /-- a dict whose keys are tuples -/
  | dt (g : PGw) (kvs : List (List Key × D))
abbrev D.int (i : Int) : D := .v (.int i)
abbrev D.str (x : Str) : D := .v (.str x)
abbrev D.bl (b : Bool) : D := .v (.bl b)
abbrev D.non : D := .v .non
/-- a tuple that is read, and that has no dict -/
def SqN (K : PySem.W.Frag) (H : Hp) (a : Addr) (xs : List V) : Prop :=
  (∃ o : Obj, H a = some (.frz o (.tup xs)) ∧ o.dict = none) ∨
    ∃ (o : Obj) (its : Array Value) (n : Nat), K.lookup a = some o ∧ o.dict = none ∧ o.cls = .type "tuple" ∧ o.data = .seq its n ∧ its.size ≤ sizeLine ∧ Vals xs its.toList
theorem SqN.t {K : PySem.W.Frag} {H : Hp} {a : Addr} {xs : List V} (h : SqN K H a xs) : SqT K H a xs := by
  rcases h with ⟨o, h, _⟩ | ⟨o, its, n, h, _, r⟩
  · exact .inl (.inr ⟨o, h⟩)
  · exact .inr ⟨o, its, n, h, r⟩
theorem SqN.of {K : PySem.W.Frag} {H : Hp} {a : Addr} {xs : List V} {o : Obj} (h : H a = some (.frz o (.tup xs))) (d : o.dict = none) : SqN K H a xs := .inl ⟨o, h, d⟩
mutual
/-- the value v is, by what the heap I keeps for ever, the data d -/
inductive Is (K : PySem.W.Frag) (I : Hp) : V → D → Prop
  | v (x : V) : Is K I x (.v x)
  | lst {a : Addr} {xs : List V} {ds : List D} : I a = some (.lst xs) → IsAll K I xs ds → Is K I (.ref a) (.lst ds)
  | tup {a : Addr} {xs : List V} {ds : List D} : SqN K I a xs → IsAll K I xs ds → Is K I (.ref a) (.tup ds)
  | ins {a C dx : Addr} {fs : List (Str × V)} {gs : List (Str × D)} : I a = some (.ins C dx fs) → IsFs K I fs gs → Is K I (.ref a) (.ins C gs)
  | dic {a : Addr} {kvs : List (Key × V)} {gs : List (Key × D)} : I a = some (.dK kvs) → IsKv K I kvs gs → Is K I (.ref a) (.dic gs)
  | exc0 {a : Addr} : Is K I (.ref a) (.exc a none [])
  | exc1 {a d : Addr} {fs : List (Str × V)} {gs : List (Str × D)} : I d = some (.xd fs) → IsFs K I fs gs → Is K I (.ref a) (.exc a (some d) gs)
  | lent {p : Addr} {ws : List V} {ds : List D} : IsAll K I ws ds → Is K I (.ref p) (.lent p ws ds)
  | dt {a : Addr} {o : Obj} {g : PGw} {us : List (List Key × Addr × Value)} {gs : List (List Key × D)} : I a = some (pinO a o) → (a == sysModules) = false → DtOb g o us → IsT K I us gs → Is K I (.ref a) (.dt g gs)
inductive IsT (K : PySem.W.Frag) (I : Hp) : List (List Key × Addr × Value) → List (List Key × D) → Prop
  | nil : IsT K I [] []
  | cons {k : List Key} {b : Addr} {u : Value} {v : V} {us : List (List Key × Addr × Value)} {d : D} {ds : List (List Key × D)} : SqN K I b (k.map kV) → RelV v u → Is K I v d → IsT K I us ds → IsT K I ((k, b, u) :: us) ((k, d) :: ds)
inductive IsAll (K : PySem.W.Frag) (I : Hp) : List V → List D → Prop
  | nil : IsAll K I [] []
  | cons {v : V} {vs : List V} {d : D} {ds : List D} : Is K I v d → IsAll K I vs ds → IsAll K I (v :: vs) (d :: ds)
inductive IsFs (K : PySem.W.Frag) (I : Hp) : List (Str × V) → List (Str × D) → Prop
  | nil : IsFs K I [] []
  | cons {f : Str} {v : V} {vs : List (Str × V)} {d : D} {ds : List (Str × D)} : Is K I v d → IsFs K I vs ds → IsFs K I ((f, v) :: vs) ((f, d) :: ds)
inductive IsKv (K : PySem.W.Frag) (I : Hp) : List (Key × V) → List (Key × D) → Prop
  | nil : IsKv K I [] []
  | cons {k : Key} {v : V} {vs : List (Key × V)} {d : D} {ds : List (Key × D)} : Is K I v d → IsKv K I vs ds → IsKv K I ((k, v) :: vs) ((k, d) :: ds)
end
theorem Same.seqT {K : PySem.W.Frag} {H H' : Hp} {a : Addr} {xs : List V} (e : Same H H') (h : SqT K H a xs) : SqT K H' a xs := by
  rcases h with h | h
  · rcases h with h | ⟨o, h⟩
    · exact .inl (.inl (e a _ h))
    · exact .inl (.inr ⟨o, e a _ h⟩)
  · exact .inr h
theorem Same.seqN {K : PySem.W.Frag} {H H' : Hp} {a : Addr} {xs : List V} (e : Same H H') (h : SqN K H a xs) : SqN K H' a xs := by
  rcases h with ⟨o, h, d⟩ | h
  · exact .inl ⟨o, e a _ h, d⟩
  · exact .inr h
mutual
theorem Is.mono {K : PySem.W.Frag} {I I' : Hp} (e : Same I I') : ∀ {v : V} {d : D}, Is K I v d → Is K I' v d
  | _, _, .v x => .v x
  | _, _, .lst h r => .lst (e _ _ h) (IsAll.mono e r)
  | _, _, .tup h r => .tup (Same.seqN e h) (IsAll.mono e r)
  | _, _, .ins h r => .ins (e _ _ h) (IsFs.mono e r)
  | _, _, .dic h r => .dic (e _ _ h) (IsKv.mono e r)
  | _, _, .exc0 => .exc0
  | _, _, .exc1 h r => .exc1 (e _ _ h) (IsFs.mono e r)
  | _, _, .lent r => .lent (IsAll.mono e r)
  | _, _, .dt h y o r => .dt (e _ _ h) y o (IsT.mono e r)
theorem IsT.mono {K : PySem.W.Frag} {I I' : Hp} (e : Same I I') : ∀ {v : List (List Key × Addr × Value)} {d : List (List Key × D)}, IsT K I v d → IsT K I' v d
  | _, _, .nil => .nil
  | _, _, .cons h q r t => .cons (Same.seqN e h) q (Is.mono e r) (IsT.mono e t)
theorem IsAll.mono {K : PySem.W.Frag} {I I' : Hp} (e : Same I I') : ∀ {v : List V} {d : List D}, IsAll K I v d → IsAll K I' v d
  | _, _, .nil => .nil
  | _, _, .cons h r => .cons (Is.mono e h) (IsAll.mono e r)
theorem IsFs.mono {K : PySem.W.Frag} {I I' : Hp} (e : Same I I') : ∀ {v : List (Str × V)} {d : List (Str × D)}, IsFs K I v d → IsFs K I' v d
  | _, _, .nil => .nil
  | _, _, .cons h r => .cons (Is.mono e h) (IsFs.mono e r)
theorem IsKv.mono {K : PySem.W.Frag} {I I' : Hp} (e : Same I I') : ∀ {v : List (Key × V)} {d : List (Key × D)}, IsKv K I v d → IsKv K I' v d
  | _, _, .nil => .nil
  | _, _, .cons h r => .cons (Is.mono e h) (IsKv.mono e r)
end
section
variable {K : PySem.W.Frag} {I I' : Hp}
theorem IsAll.length : ∀ {vs : List V} {ds : List D}, IsAll K I vs ds → vs.length = ds.length
  | _, _, .nil => rfl
  | _, _, .cons _ r => by rw [List.length_cons, List.length_cons, IsAll.length r]
theorem IsAll.get : ∀ {vs : List V} {ds : List D} {i : Nat} {d : D}, IsAll K I vs ds → ds[i]? = some d → ∃ v, vs[i]? = some v ∧ Is K I v d
  | _, _, _, _, .nil, e => by simp at e
  | _, _, 0, _, .cons r _, e => by simp at e; subst e; exact ⟨_, rfl, r⟩
  | _, _, i + 1, d, .cons _ t, e => by
    obtain ⟨v, h1, h2⟩ := IsAll.get (i := i) (d := d) t (by simpa using e)
    exact ⟨v, by simpa using h1, h2⟩
theorem IsAll.getV : ∀ {vs : List V} {ds : List D} {i : Nat} {v : V}, IsAll K I vs ds → vs[i]? = some v → ∃ d, ds[i]? = some d ∧ Is K I v d
  | _, _, _, _, .nil, e => by simp at e
  | _, _, 0, _, .cons r _, e => by simp at e; subst e; exact ⟨_, rfl, r⟩
  | _, _, i + 1, v, .cons _ t, e => by
    obtain ⟨d, h1, h2⟩ := IsAll.getV (i := i) (v := v) t (by simpa using e)
    exact ⟨d, by simpa using h1, h2⟩
theorem IsAll.append : ∀ {vs ws : List V} {ds es : List D}, IsAll K I vs ds → IsAll K I ws es → IsAll K I (vs ++ ws) (ds ++ es)
  | _, _, _, _, .nil, s => s
  | _, _, _, _, .cons h r, s => .cons h (IsAll.append r s)
theorem IsAll.take : ∀ {vs : List V} {ds : List D} (n : Nat), IsAll K I vs ds → IsAll K I (vs.take n) (ds.take n)
  | _, _, 0, _ => .nil
  | _, _, _ + 1, .nil => .nil
  | _, _, n + 1, .cons r t => .cons r (IsAll.take n t)
theorem IsAll.drop : ∀ {vs : List V} {ds : List D} (n : Nat), IsAll K I vs ds → IsAll K I (vs.drop n) (ds.drop n)
  | _, _, 0, r => r
  | _, _, _ + 1, .nil => .nil
  | _, _, n + 1, .cons _ t => IsAll.drop n t
theorem IsAll.set {v : V} {d : D} (h : Is K I v d) : ∀ {vs : List V} {ds : List D} (i : Nat), IsAll K I vs ds → IsAll K I (vs.set i v) (ds.set i d)
  | _, _, _, .nil => .nil
  | _, _, 0, .cons _ t => .cons h t
  | _, _, i + 1, .cons q t => .cons q (IsAll.set h i t)
theorem IsAll.reverse : ∀ {vs : List V} {ds : List D}, IsAll K I vs ds → IsAll K I vs.reverse ds.reverse
  | _, _, .nil => .nil
  | _, _, .cons h r => by
    rw [List.reverse_cons, List.reverse_cons]
    exact IsAll.append (IsAll.reverse r) (.cons h .nil)
theorem IsFs.look : ∀ {vs : List (Str × V)} {ds : List (Str × D)} {f : Str} {d : D}, IsFs K I vs ds → ds.lookup f = some d → ∃ v, vs.lookup f = some v ∧ Is K I v d
  | _, _, _, _, .nil, e => by simp at e
  | _, _, f, d, .cons (f := g) h r, e => by
    rw [List.lookup_cons] at e ⊢
    cases hb : f == g with
    | true =>
      rw [hb] at e
      cases e
      exact ⟨_, rfl, h⟩
    | false =>
      rw [hb] at e
      exact IsFs.look r e
theorem IsFs.lookN : ∀ {vs : List (Str × V)} {ds : List (Str × D)} {f : Str}, IsFs K I vs ds → ds.lookup f = none → vs.lookup f = none
  | _, _, _, .nil, e => rfl
  | _, _, f, .cons (f := g) h r, e => by
    rw [List.lookup_cons] at e ⊢
    cases hb : f == g with
    | true =>
      rw [hb] at e
      cases e
    | false =>
      rw [hb] at e
      exact IsFs.lookN r e
theorem IsFs.len : ∀ {vs : List (Str × V)} {ds : List (Str × D)}, IsFs K I vs ds → vs.length = ds.length
  | _, _, .nil => rfl
  | _, _, .cons _ r => by rw [List.length_cons, List.length_cons, IsFs.len r]
theorem IsKv.app : ∀ {vs ws : List (Key × V)} {gs hs : List (Key × D)}, IsKv K I vs gs → IsKv K I ws hs → IsKv K I (vs ++ ws) (gs ++ hs)
  | _, _, _, _, .nil, s => s
  | _, _, _, _, .cons h r, s => .cons h (IsKv.app r s)
theorem is_lst {v : V} {ds : List D} (h : Is K I v (.lst ds)) : ∃ a xs, v = .ref a ∧ SqL K I a xs ∧ IsAll K I xs ds := by
  cases h with
  | lst h r => exact ⟨_, _, rfl, SqL.of h, r⟩
theorem is_lstM {v : V} {ds : List D} (h : Is K I v (.lst ds)) : ∃ a xs, v = .ref a ∧ I a = some (.lst xs) ∧ IsAll K I xs ds := by
  cases h with
  | lst h r => exact ⟨_, _, rfl, h, r⟩
theorem is_tup {v : V} {ds : List D} (h : Is K I v (.tup ds)) : ∃ a xs, v = .ref a ∧ SqT K I a xs ∧ IsAll K I xs ds := by
  cases h with
  | tup h r => exact ⟨_, _, rfl, h.t, r⟩
theorem is_tupN {v : V} {ds : List D} (h : Is K I v (.tup ds)) : ∃ a xs, v = .ref a ∧ SqN K I a xs ∧ IsAll K I xs ds := by
  cases h with
  | tup h r => exact ⟨_, _, rfl, h, r⟩
theorem is_dt {v : V} {g : PGw} {gs : List (List Key × D)} (h : Is K I v (.dt g gs)) : ∃ a o us, v = .ref a ∧ I a = some (pinO a o) ∧ (a == sysModules) = false ∧ DtOb g o us ∧ IsT K I us gs := by
  cases h with
  | dt h y o r => exact ⟨_, _, _, rfl, h, y, o, r⟩
theorem is_ins {v : V} {C : Addr} {gs : List (Str × D)} (h : Is K I v (.ins C gs)) : ∃ a dx fs, v = .ref a ∧ I a = some (.ins C dx fs) ∧ IsFs K I fs gs := by
  cases h with
  | ins h r => exact ⟨_, _, _, rfl, h, r⟩
end
structure Wd where
  ok : Hp → Hp → Prop
  free : Addr → Prop
  ex : ∀ {I H}, ok I H → Same I H
  alo : ∀ {I H p o}, ok I H → H p = none → ok I (upd H p o)
  fr : ∀ {I H p}, ok I H → H p = none → free p
  mu : ∀ {I H p o}, ok I H → I p = none → free p → ok I (upd H p o)
  fzs : ∀ {I I' H}, ok I H → (∀ a, I' a = I a ∨ (I a = none ∧ free a ∧ I' a = H a)) → ok I' H
  nb : ∀ {I H a}, ok I H → ¬ free a → I a = none
  anti : ∀ {I I' H}, ok I' H → Same I I' → ok I H
theorem Same.up {I H : Hp} {p : Addr} {o : HO} (e : Same I H) (h : I p = none) : Same I (upd H p o) := fun b u q => by
  rw [upd_ne (ne_of_none q h)]
  exact e b u q
theorem Same.non {I H : Hp} {p : Addr} (e : Same I H) (h : H p = none) : I p = none := e.free h
theorem Same.new {I : Hp} {p : Addr} {o : HO} (h : I p = none) : Same I (upd I p o) := fun b u q => by
  rw [upd_ne (ne_of_none q h)]
  exact q
theorem Wd.fz (W : Wd) {I H : Hp} {p : Addr} {o : HO} (h : W.ok I H) (n : I p = none) (f : W.free p) (e : H p = some o) : W.ok (upd I p o) H :=
  W.fzs h fun a => by
    by_cases ha : a = p
    · subst ha
      exact .inr ⟨n, f, by rw [upd_same, e]⟩
    · exact .inl (upd_ne ha)
theorem Wd.al (W : Wd) {I H : Hp} {p : Addr} {o : HO} (h : W.ok I H) (n : H p = none) : W.ok (upd I p o) (upd H p o) :=
  W.fz (W.alo h n) (Same.non (W.ex h) n) (W.fr h n) upd_same
/-- nothing else may change -/
def W0 : Wd where
  ok := Same
  free := fun _ => True
  ex := id
  alo := fun h n => Same.up h (Same.non h n)
  fr := fun _ _ => trivial
  mu := fun h n _ => Same.up h n
  fzs := fun {I I' H} h k a o e => by
    rcases k a with q | ⟨_, _, q⟩
    · rw [q] at e; exact h a o e
    · rw [q] at e; exact e
  nb := fun _ h => absurd trivial h
  anti := fun h e => e.trans h
/-- what came later: O, O' the lists that one's own slots own -/
structure Lat (W : Wd) (O : Addr → Prop) (I H : Hp) (O' : Addr → Prop) (I' H' : Hp) : Prop where
  ex : Same I I'
  ok : W.ok I' H'
  fr : ∀ a o, W.free a → ¬ O a → H a = some o → H' a = some o
  nw : ∀ a, I a = none → I' a ≠ none → H a = none ∨ O a
  ow : ∀ a, O' a → W.free a ∧ (H a = none ∨ O a)
abbrev N0 : Addr → Prop := fun _ => False
abbrev Later (W : Wd) (I H I' H' : Hp) : Prop := Lat W N0 I H N0 I' H'
section
variable {W : Wd} {O O' O2 : Addr → Prop} {I H I' H' I2 H2 : Hp}
theorem Lat.refl (h : W.ok I H) (hf : ∀ a, O a → W.free a) : Lat W O I H O I H :=
  ⟨Same.refl I, h, fun _ _ _ _ e => e, fun _ n e => absurd n e, fun a o => ⟨hf a o, .inr o⟩⟩
theorem Later.refl (h : W.ok I H) : Later W I H I H := Lat.refl h fun _ z => z.elim
theorem Lat.trans (a : Lat W O I H O' I' H') (b : Lat W O' I' H' O2 I2 H2) : Lat W O I H O2 I2 H2 where
  ex := a.ex.trans b.ex
  ok := b.ok
  fr := fun c o f n e => b.fr c o f (fun z => (a.ow c z).2.elim (fun q => by rw [e] at q; cases q) n) (a.fr c o f n e)
  nw := fun c n e => by
    have fc : W.free c := Classical.byContradiction fun z => e (W.nb b.ok z)
    by_cases h1 : I' c = none
    · rcases b.nw c h1 e with q | q
      · cases hc : H c with
        | none => exact .inl rfl
        | some o =>
          by_cases ho : O c
          · exact .inr ho
          · rw [a.fr c o fc ho hc] at q; cases q
      · exact (a.ow c q).2
    · exact a.nw c n h1
  ow := fun c o => by
    obtain ⟨f, q⟩ := b.ow c o
    refine ⟨f, ?_⟩
    rcases q with q | q
    · cases hc : H c with
      | none => exact .inl rfl
      | some u =>
        by_cases ho : O c
        · exact .inr ho
        · rw [a.fr c u f ho hc] at q; cases q
    · exact (a.ow c q).2
/-- an expression's, within a state that owns lists -/
theorem Lat.own (a : Later W I H I' H') (hf : ∀ a, O a → W.free a) : Lat W O I H O I' H' :=
  ⟨a.ex, a.ok, fun c o f _ e => a.fr c o f (fun z => z) e, fun c n e => (a.nw c n e).elim .inl fun z => z.elim, fun c o => ⟨hf c o, .inr o⟩⟩
theorem Later.alloc {p : Addr} {o : HO} (h : W.ok I H) (n : H p = none) : Later W I H (upd I p o) (upd H p o) where
  ex := Same.new (Same.non (W.ex h) n)
  ok := W.al h n
  fr := fun a u _ _ e => by rw [upd_ne (ne_of_none e n)]; exact e
  nw := fun a hn e => .inl (by
    by_cases ha : a = p
    · rw [ha]; exact n
    · rw [upd_ne ha] at e; exact absurd hn e)
  ow := fun _ z => z.elim
theorem Later.allocO {p : Addr} {o : HO} (h : W.ok I H) (n : H p = none) : Later W I H I (upd H p o) where
  ex := Same.refl I
  ok := W.alo h n
  fr := fun a u _ _ e => by rw [upd_ne (ne_of_none e n)]; exact e
  nw := fun a hn e => absurd hn e
  ow := fun _ z => z.elim
/-- freezing a list that nobody else knows -/
theorem Later.freeze {p : Addr} {o : HO} (h : W.ok I H) (a : Later W I H I' H') (n : I' p = none) (hn : H p = none) (e : H' p = some o) : Later W I H (upd I' p o) H' where
  ex := a.ex.trans (Same.new n)
  ok := W.fz a.ok n (W.fr h hn) e
  fr := a.fr
  nw := fun c hc q => by
    by_cases h : c = p
    · rw [h]; exact .inl hn
    · rw [upd_ne h] at q; exact a.nw c hc q
  ow := fun _ z => z.elim
end
/-- what a slot holds: data, or a thing that it alone owns: a list, an instance, a tuple with a list in it at p -/
inductive SD where
  | dat (d : D) | own (ds : List D) | obj (p C : Addr) (fs : List (Str × D)) | tupo (p : Addr) (pre ds post : List D) | dk (gs : List (Key × D))
  /-- a dict by tuples -/
  | dt (g : PGw) (gs : List (List Key × D))
  /-- a dict by texts that holds, at k, a dict by tuples at q -/
  | wd (q : Addr) (pre : List (Key × D)) (k : Key) (post : List (Key × D)) (g : PGw) (gs : List (List Key × D))
abbrev Tau := List (Option SD)
abbrev dd (d : D) : Option SD := some (.dat d)
def At (K : PySem.W.Frag) (W : Wd) (I H : Hp) (v : V) : SD → Prop
  | .dat d => Is K I v d
  | .own ds => ∃ p vs, v = .ref p ∧ H p = some (.lst vs) ∧ I p = none ∧ W.free p ∧ IsAll K I vs ds
  | .obj p C fs => ∃ dx vs, v = .ref p ∧ H p = some (.ins C dx vs) ∧ I p = none ∧ W.free p ∧ IsFs K I vs fs
  | .dk gs => ∃ p vs, v = .ref p ∧ H p = some (.dK vs) ∧ I p = none ∧ W.free p ∧ IsKv K I vs gs
  | .dt g gs => ∃ p o us, v = .ref p ∧ H p = some (pinO p o) ∧ I p = none ∧ W.free p ∧ (p == sysModules) = false ∧ DtOb g o us ∧ IsT K I us gs
  | .wd q pre k post g gs => ∃ p o us as bs, v = .ref p ∧ H p = some (.dK (as ++ (k, .ref q) :: bs)) ∧ I p = none ∧ W.free p ∧ IsKv K I as pre ∧ IsKv K I bs post ∧ H q = some (pinO q o) ∧ I q = none ∧ W.free q ∧ (q == sysModules) = false ∧ DtOb g o us ∧ IsT K I us gs
  | .tupo p pre ds post => ∃ t us ws vs, v = .ref t ∧ SqN K I t (us ++ .ref p :: ws) ∧ IsAll K I us pre ∧ IsAll K I ws post ∧ H p = some (.lst vs) ∧ I p = none ∧ W.free p ∧ IsAll K I vs ds
/-- what it owns -/
def OwnV (v : V) : SD → Addr → Prop
  | .dat _, _ => False
  | .own _, a => v = .ref a
  | .obj p _ _, a => a = p
  | .tupo p _ _ _, a => a = p
  | .dk _, a => v = .ref a
  | .dt _ _, a => v = .ref a
  | .wd q _ _ _ _ _, a => v = .ref a ∨ a = q
structure Rep (K : PySem.W.Frag) (W : Wd) (I H : Hp) (σ : St) (τ : Tau) : Prop where
  len : σ.length = τ.length
  at_ : ∀ (i : Nat) (s : SD), τ[i]? = some (some s) → ∃ v, σ[i]? = some (some v) ∧ At K W I H v s
  inj : ∀ (i j : Nat) (s t : SD) (v w : V) (a : Addr), τ[i]? = some (some s) → τ[j]? = some (some t) → σ[i]? = some (some v) → σ[j]? = some (some w) → OwnV v s a → OwnV w t a → i = j
def Own (σ : St) (τ : Tau) (p : Addr) : Prop := ∃ (i : Nat) (s : SD) (v : V), τ[i]? = some (some s) ∧ σ[i]? = some (some v) ∧ OwnV v s p
section
variable {K : PySem.W.Frag} {W : Wd} {I H I' H' : Hp} {σ : St} {τ : Tau}
theorem At.owned {v : V} {s : SD} {a : Addr} (h : At K W I H v s) (o : OwnV v s a) : I a = none ∧ W.free a ∧ ∃ u, H a = some u := by
  cases s with
  | dat d => exact o.elim
  | own ds =>
    obtain ⟨p, vs, e, hp, hi, hf, _⟩ := h
    subst e
    cases o
    exact ⟨hi, hf, _, hp⟩
  | obj p C fs =>
    obtain ⟨dx, vs, e, hp, hi, hf, _⟩ := h
    subst e
    cases o
    exact ⟨hi, hf, _, hp⟩
  | tupo p pre ds post =>
    obtain ⟨t, us, ws, vs, e, st, _, _, hp, hi, hf, _⟩ := h
    cases o
    exact ⟨hi, hf, _, hp⟩
  | dk gs =>
    obtain ⟨p, vs, e, hp, hi, hf, _⟩ := h
    subst e
    cases o
    exact ⟨hi, hf, _, hp⟩
  | dt g gs =>
    obtain ⟨p, ob, us, e, hp, hi, hf, _⟩ := h
    subst e
    cases o
    exact ⟨hi, hf, _, hp⟩
  | wd q pre k post g gs =>
    obtain ⟨p, ob, us, as, bs, e, hp, hi, hf, _, _, hq, hiq, hfq, _⟩ := h
    subst e
    rcases o with o | o
    · cases o
      exact ⟨hi, hf, _, hp⟩
    · subst o
      exact ⟨hiq, hfq, _, hq⟩
/-- it hangs on what it owns alone -/
theorem At.keep {v : V} {s : SD} (h : At K W I H v s) (e : Same I I') (n : ∀ a, OwnV v s a → I' a = none) (k : ∀ a, OwnV v s a → H' a = H a) : At K W I' H' v s := by
  cases s with
  | dat d => exact Is.mono e h
  | own ds =>
    obtain ⟨p, vs, e1, hp, hi, hf, r⟩ := h
    subst e1
    exact ⟨p, vs, rfl, (k p rfl).trans hp, n p rfl, hf, IsAll.mono e r⟩
  | obj p C fs =>
    obtain ⟨dx, vs, e1, hp, hi, hf, r⟩ := h
    subst e1
    exact ⟨dx, vs, rfl, (k p rfl).trans hp, n p rfl, hf, IsFs.mono e r⟩
  | tupo p pre ds post =>
    obtain ⟨t, us, ws, vs, e1, st, h1, h2, hp, hi, hf, r⟩ := h
    exact ⟨t, us, ws, vs, e1, Same.seqN e st, IsAll.mono e h1, IsAll.mono e h2, (k p rfl).trans hp, n p rfl, hf, IsAll.mono e r⟩
  | dk gs =>
    obtain ⟨p, vs, e1, hp, hi, hf, r⟩ := h
    subst e1
    exact ⟨p, vs, rfl, (k p rfl).trans hp, n p rfl, hf, IsKv.mono e r⟩
  | dt g gs =>
    obtain ⟨p, ob, us, e1, hp, hi, hf, y, o, r⟩ := h
    subst e1
    exact ⟨p, ob, us, rfl, (k p rfl).trans hp, n p rfl, hf, y, o, IsT.mono e r⟩
  | wd q pre kk post g gs =>
    obtain ⟨p, ob, us, as, bs, e1, hp, hi, hf, r1, r2, hq, hiq, hfq, y, o, r⟩ := h
    subst e1
    exact ⟨p, ob, us, as, bs, rfl, (k p (.inl rfl)).trans hp, n p (.inl rfl), hf, IsKv.mono e r1, IsKv.mono e r2, (k q (.inr rfl)).trans hq, n q (.inr rfl), hfq, y, o, IsT.mono e r⟩
theorem At.later {v : V} {s : SD} (h : At K W I H v s) (l : Later W I H I' H') : At K W I' H' v s := by
  refine h.keep l.ex (fun a o => ?_) fun a o => ?_
  · obtain ⟨hi, hf, u, hp⟩ := h.owned o
    cases q : I' a with
    | none => rfl
    | some o =>
      rcases l.nw a hi (by rw [q]; intro z; cases z) with z | z
      · rw [hp] at z; cases z
      · exact z.elim
  · obtain ⟨hi, hf, u, hp⟩ := h.owned o
    rw [hp]
    exact l.fr a _ hf (fun z => z) hp
theorem Rep.later (r : Rep K W I H σ τ) (l : Later W I H I' H') : Rep K W I' H' σ τ :=
  ⟨r.len, fun i s e => let ⟨v, h1, h2⟩ := r.at_ i s e; ⟨v, h1, h2.later l⟩, r.inj⟩
theorem Rep.owned (r : Rep K W I H σ τ) {a : Addr} (o : Own σ τ a) : I a = none ∧ W.free a ∧ ∃ u, H a = some u := by
  obtain ⟨i, s, v, e1, e2, o⟩ := o
  obtain ⟨v', q, h⟩ := r.at_ i _ e1
  rw [e2] at q
  cases q
  exact h.owned o
theorem Rep.free (r : Rep K W I H σ τ) : ∀ a, Own σ τ a → W.free a := fun a o => (r.owned o).2.1
theorem Rep.own (r : Rep K W I H σ τ) (l : Later W I H I' H') : Lat W (Own σ τ) I H (Own σ τ) I' H' := l.own r.free
theorem Rep.refl (r : Rep K W I H σ τ) (h : W.ok I H) : Lat W (Own σ τ) I H (Own σ τ) I H := Lat.refl h r.free
theorem getSet {α : Type} {l : List (Option α)} {i j : Nat} {x y : α} (h : (l.set i (some x))[j]? = some (some y)) : (i = j ∧ j < l.length ∧ y = x) ∨ (i ≠ j ∧ l[j]? = some (some y)) := by
  by_cases hj : i = j
  · subst hj
    by_cases hv : i < l.length
    · rw [List.getElem?_set_self hv] at h
      cases h
      exact .inl ⟨rfl, hv, rfl⟩
    · rw [List.getElem?_eq_none (by simpa using hv)] at h
      cases h
  · rw [List.getElem?_set_ne hj] at h
    exact .inr ⟨hj, h⟩
theorem Own.set {i : Nat} {v : V} {s : SD} {a : Addr} (h : Own (σ.set i (some v)) (τ.set i (some s)) a) : OwnV v s a ∨ Own σ τ a := by
  obtain ⟨j, t, w, e1, e2, o⟩ := h
  rcases getSet e1 with ⟨rfl, _, rfl⟩ | ⟨hj, f1⟩
  · rcases getSet e2 with ⟨_, _, rfl⟩ | ⟨hj, _⟩
    · exact .inl o
    · exact absurd rfl hj
  · rcases getSet e2 with ⟨rfl, _, rfl⟩ | ⟨_, f2⟩
    · exact absurd rfl hj
    · exact .inr ⟨j, t, w, f1, f2, o⟩
theorem Own.set_dat {i : Nat} {v : V} {d : D} {a : Addr} (h : Own (σ.set i (some v)) (τ.set i (some (.dat d))) a) (hl : σ.length = τ.length) : Own σ τ a := h.set.elim (fun z => z.elim) id
/-- a slot is set to what no other slot owns -/
theorem Rep.set {i : Nat} {v : V} {s : SD} (r : Rep K W I H σ τ) (h : At K W I H v s) (n : ∀ a, OwnV v s a → ∀ (j : Nat) (t : SD) (w : V), j ≠ i → τ[j]? = some (some t) → σ[j]? = some (some w) → ¬ OwnV w t a) : Rep K W I H (σ.set i (some v)) (τ.set i (some s)) := by
  refine ⟨by simpa using r.len, fun j t e => ?_, fun j k t u x y a e1 e2 e3 e4 o1 o2 => ?_⟩
  · rcases getSet e with ⟨rfl, hl, rfl⟩ | ⟨hj, e⟩
    · exact ⟨v, List.getElem?_set_self (by rw [r.len]; exact hl), h⟩
    · rw [List.getElem?_set_ne hj]
      exact r.at_ j t e
  · rcases getSet e1 with ⟨rfl, _, rfl⟩ | ⟨hj, f1⟩
    · rcases getSet e2 with ⟨q, _, rfl⟩ | ⟨hk, f2⟩
      · exact q
      · exfalso
        rw [List.getElem?_set_ne hk] at e4
        rcases getSet e3 with ⟨_, _, rfl⟩ | ⟨q, _⟩
        · exact n a o1 k u y (Ne.symm hk) f2 e4 o2
        · exact absurd rfl q
    · rw [List.getElem?_set_ne hj] at e3
      rcases getSet e2 with ⟨rfl, _, rfl⟩ | ⟨hk, f2⟩
      · exfalso
        rcases getSet e4 with ⟨_, _, rfl⟩ | ⟨q, _⟩
        · exact n a o2 j t x (Ne.symm hj) f1 e3 o1
        · exact absurd rfl q
      · rw [List.getElem?_set_ne hk] at e4
        exact r.inj j k t u x y a f1 f2 e3 e4 o1 o2
theorem Rep.set_dat {i : Nat} {v : V} {d : D} (r : Rep K W I H σ τ) (h : Is K I v d) : Rep K W I H (σ.set i (some v)) (τ.set i (some (.dat d))) := r.set h fun _ z => z.elim
/-- a slot is set to what no slot holds -/
theorem Rep.set_new {i : Nat} {v : V} {s : SD} (r : Rep K W I H σ τ) (h : At K W I H v s) (n : ∀ a, OwnV v s a → ¬ Own σ τ a) : Rep K W I H (σ.set i (some v)) (τ.set i (some s)) :=
  r.set h fun a o j t w _ e1 e2 o2 => n a o ⟨j, t, w, e1, e2, o2⟩
/-- a slot is set to a list of its own, that no slot holds -/
theorem Rep.set_own {i : Nat} {p : Addr} {vs : List V} {ds : List D} (r : Rep K W I H σ τ) (hn : ¬ Own σ τ p) (hp : H p = some (.lst vs)) (hi : I p = none) (hf : W.free p) (h : IsAll K I vs ds) :
    Rep K W I H (σ.set i (some (.ref p))) (τ.set i (some (.own ds))) := r.set_new ⟨p, vs, rfl, hp, hi, hf, h⟩ fun a o => by cases o; exact hn
theorem Own.set_own {i : Nat} {p a : Addr} {ds : List D} (h : Own (σ.set i (some (.ref p))) (τ.set i (some (.own ds))) a) : a = p ∨ Own σ τ a := h.set.imp_left fun o => by cases o; rfl
end
/-- its class, its fields -/
abbrev Exc := Value × List (Str × D)
def IsX (K : PySem.W.Frag) (I : Hp) (cls : Value) (da : Option Addr) (x : Exc) : Prop :=
  cls = x.1 ∧ ((x.2 = [] ∧ da = none) ∨ ∃ (d : Addr) (vs : List (Str × V)), da = some d ∧ I d = some (.xd vs) ∧ IsFs K I vs x.2)
abbrev TDE := Tau → (D → Prop) → (Exc → Prop) → Prop
abbrev TDT := Tau → (Bool → Prop) → (Exc → Prop) → Prop
abbrev TDA := Tau → (List D → Prop) → (Exc → Prop) → Prop
/-- a fresh list of one's own: its items -/
abbrev TDO := Tau → (List D → Prop) → (Exc → Prop) → Prop
structure DEnds where
  nx : Tau → Prop
  rt : SD → Prop
  bk : Tau → Prop := fun _ => False
  ct : Tau → Prop := fun _ => False
  ex : Exc → Tau → Prop := fun _ _ => False
abbrev TDS := Tau → DEnds → Prop
section
variable (K : PySem.W.Frag) (W : Wd) (Wx : WX)
/-- what is wanted of an exception -/
def XOk (R : Exc → Prop) (I H : Hp) (σ : St) : Prop := ∀ (cls : Value) (da : Option Addr) (x : Exc) (I' H' : Hp), R x → IsX K I' cls da x → Later W I H I' H' → Wx cls da σ H'
def SimE (te : TE) (t : TDE) : Prop := ∀ (I H : Hp) (σ : St) (τ : Tau) (Q : D → Prop) (R : Exc → Prop) (G : VK), W.ok I H → Rep K W I H σ τ → t τ Q R →
  (∀ v d I' H', Q d → Is K I' v d → Later W I H I' H' → G v H') → XOk K W Wx R I H σ → te σ H G
def SimT (te : TT) (t : TDT) : Prop := ∀ (I H : Hp) (σ : St) (τ : Tau) (Q : Bool → Prop) (R : Exc → Prop) (G : Bool → Hp → Prop), W.ok I H → Rep K W I H σ τ → t τ Q R →
  (∀ b I' H', Q b → Later W I H I' H' → G b H') → XOk K W Wx R I H σ → te σ H G
def SimA (te : TA) (t : TDA) : Prop := ∀ (I H : Hp) (σ : St) (τ : Tau) (Q : List D → Prop) (R : Exc → Prop) (G : List V → Hp → Prop), W.ok I H → Rep K W I H σ τ → t τ Q R →
  (∀ vs ds I' H', Q ds → IsAll K I' vs ds → Later W I H I' H' → G vs H') → XOk K W Wx R I H σ → te σ H G
def SimO (te : TE) (t : TDO) : Prop := ∀ (I H : Hp) (σ : St) (τ : Tau) (Q : List D → Prop) (R : Exc → Prop) (G : VK), W.ok I H → Rep K W I H σ τ → t τ Q R →
  (∀ p vs ds I' H', Q ds → H p = none → H' p = some (.lst vs) → I' p = none → IsAll K I' vs ds → Later W I H I' H' → G (.ref p) H') → XOk K W Wx R I H σ → te σ H G
end
/-- a thing of one's own, or data -/
abbrev TDX := Tau → (SD → Prop) → (Exc → Prop) → Prop
def SimX (K : PySem.W.Frag) (W : Wd) (Wx : WX) (te : TE) (t : TDX) : Prop := ∀ (I H : Hp) (σ : St) (τ : Tau) (Q : SD → Prop) (R : Exc → Prop) (G : VK), W.ok I H → Rep K W I H σ τ → t τ Q R →
  (∀ v s I' H', Q s → At K W I' H' v s → (∀ a, OwnV v s a → H a = none) → Later W I H I' H' → G v H') → XOk K W Wx R I H σ → te σ H G
theorem XOk.later {K : PySem.W.Frag} {W : Wd} {Wx : WX} {R : Exc → Prop} {I H I' H' : Hp} {σ : St} (x : XOk K W Wx R I H σ) (l : Later W I H I' H') : XOk K W Wx R I' H' σ :=
  fun cls da e I2 H2 r ix l2 => x cls da e I2 H2 r ix (l.trans l2)
/-- a fresh list may stand for data -/
theorem SimO.e {K : PySem.W.Frag} {W : Wd} {Wx : WX} {te : TE} {t : TDO} (h : SimO K W Wx te t) : SimE K W Wx te (fun τ Q R => t τ (fun ds => Q (.lst ds)) R) :=
  fun I H σ τ Q R G ok r ht hq hx => h I H σ τ _ R G ok r ht (fun p vs ds I' H' q hp hp' hi al l =>
    hq (.ref p) (.lst ds) (upd I' p (.lst vs)) H' q (.lst upd_same (IsAll.mono (Same.new hi) al)) (l.freeze ok hi hp hp')) hx
structure DE (X : Cx) (K : PySem.W.Frag) (W : Wd) (Wx : WX) (e : Expr) (te : TE) (t : TDE) : Prop where
  k : X.K = K
  pe : PE X e te
  sim : SimE K W Wx te t
structure DT (X : Cx) (K : PySem.W.Frag) (W : Wd) (Wx : WX) (e : Expr) (te : TT) (t : TDT) : Prop where
  k : X.K = K
  pt : PT X e te
  sim : SimT K W Wx te t
structure DW (X : Cx) (K : PySem.W.Frag) (W : Wd) (Wx : WX) (e : Expr) (te : TT) (t : TDT) : Prop where
  k : X.K = K
  pw : PW X e te
  sim : SimT K W Wx te t
structure DA (X : Cx) (K : PySem.W.Frag) (W : Wd) (Wx : WX) (e : List Expr) (te : TA) (t : TDA) : Prop where
  k : X.K = K
  pa : PA X e te
  sim : SimA K W Wx te t
structure DO (X : Cx) (K : PySem.W.Frag) (W : Wd) (Wx : WX) (e : Expr) (te : TE) (t : TDO) : Prop where
  k : X.K = K
  pe : PE X e te
  sim : SimO K W Wx te t
structure DX (X : Cx) (K : PySem.W.Frag) (W : Wd) (Wx : WX) (e : Expr) (te : TE) (t : TDX) : Prop where
  k : X.K = K
  pe : PE X e te
  sim : SimX K W Wx te t
theorem DO.e {X : Cx} {W : Wd} {Wx : WX} {e : Expr} {te : TE} {t : TDO} (h : DO X K W Wx e te t) : DE X K W Wx e te (fun τ Q R => t τ (fun ds => Q (.lst ds)) R) := by
  have hk := h.k; subst hk
  exact ⟨rfl, h.pe, h.sim.e⟩
theorem DW.t {X : Cx} {W : Wd} {Wx : WX} {e : Expr} {te : TT} {t : TDT} (h : DW X K W Wx e te t) : DT X K W Wx e te t := by
  have hk := h.k; subst hk
  exact ⟨rfl, h.pw.pt, h.sim⟩
end D3
namespace D3
open PySem PySem.Spec PyProof.Rows L2
theorem ObjOk.tupN {P : Program} {w : World} {H : Hp} {h : Heap} {a : Addr} {o : Obj} {xs : List V} {us : List Value} {n : Nat} (e : h.get? a = some o) (c : o.cls = .type "tuple") (d : o.data = .seq us.toArray n) (z : xs.length ≤ sizeLine) (r : Vals xs us) : ObjOk P w H h a (.frz o (.tup xs)) :=
  ⟨e, z, us, r, o, e, c, n, d⟩
def tTupN (t : TA) : TE := fun σ H Q => t σ H fun xs H1 => xs.length ≤ sizeLine ∧ ∀ (p : Addr) (o : Obj), H1 p = none → o.dict = none → Q (.ref p) (upd H1 p (.frz o (.tup xs)))
section
variable {X : Cx} {es : List Expr} {t : TA} {pos : Pos}
theorem pe_tupN {x1} (h : PA X es t) : PE X (.Tuple es x1 pos) (tTupN t) :=
  ⟨fun pn s σ H Q I h0 => wpAny_Tuple_spliced (thn (h.run pos pn s σ H _ I h0) fun us s1 y => by
    obtain ⟨xs, H1, I1, r, z, q⟩ := y
    refine ⟨by rw [← r.length]; exact z, .ref s1.heap.objs.size, _, I1.laid (t' := s1.toks) (fun b u e => Heap.get?_push_of_some _ e) (Nat.le_refl _) (ObjOk.tupN (us := us) (Heap.get?_push_size _ rfl) rfl rfl z r), rfl, q _ _ (I1.hok.fresh (Nat.le_refl _)) rfl⟩)⟩
def rTupleN (K : PySem.W.Frag) : List V → Hp → VK → Prop := fun xs H Q => ∃ p ys, xs = [.ref p] ∧ ((SqL K H p ys ∧ ∀ (l : Addr) (o : Obj), H l = none → o.dict = none → Q (.ref l) (upd H l (.frz o (.tup ys)))) ∨ (SqT K H p ys ∧ Q (.ref p) H))
theorem call_tuple_ofN : CallR X (.type "tuple") (rTupleN X.K) := by
  intro pn s σ H xs us Q I r h
  obtain ⟨p, ys, rfl, ⟨hq, q⟩ | ⟨hq, q⟩⟩ := h
  · obtain ⟨its, r', pl, hz⟩ := I.list hq
    rw [Vals.ref1 r]
    have hlen := r'.length
    refine call_tuple_list pl.isList (fun h' kp => ?_) (by rw [List.size_toArray]; omega)
    have I1 : L2.Inv X pn σ H { s with heap := h' } := I.kept (t' := s.toks) kp
    exact ⟨.ref h'.objs.size, _, I1.laid (t' := s.toks) (h' := h'.push { cls := .type "tuple", data := .seq its.toArray }) (fun b o e => Heap.get?_push_of_some _ e) (Nat.le_refl _) (ObjOk.tupN (us := its) (Heap.get?_push_size _ rfl) rfl rfl hz r'), rfl, q _ _ (I1.hok.fresh (Nat.le_refl _)) rfl⟩
  · exact call_tuple_of pn s σ H _ us Q I r ⟨p, ys, rfl, .inr ⟨hq, q⟩⟩
end
end D3
set_option Elab.async false
set_option linter.all false
set_option maxRecDepth 100000
set_option maxHeartbeats 2000000
namespace D3
open PySem PySem.Spec PyProof.Rows L2
structure RoomG (k : Nat) (A : Around) : Prop where
  r : Room k A
  g : A.guards = some []
theorem RoomG.mono {j k : Nat} {A : Around} (r : RoomG k A) (h : j ≤ k) : RoomG j A := ⟨r.r.mono h, r.g⟩
theorem RoomG.units {k : Nat} {A : Around} (r : RoomG k A) : A.units + 64 < cLine := r.r.units
theorem RoomG.deeper {k : Nat} {A : Around} (r : RoomG (k + 1) A) (env : Env) : RoomG k (A.deeper env) := ⟨r.r.deeper env, r.g⟩
structure FnG (P : Program) (w : World) (K : PySem.W.Frag) (mg : Str → Option Value) (base : Heap) (C : CXT) (k : Nat) (f : Addr) (fd : FuncData) (ps : List Str) (sp : Sp) : Prop where
  len : ∀ vs H Q E, sp vs H Q E → vs.length = ps.length
  run : ∀ (A : Around) (outer : List Env) (s : Shared) (H : Hp) (args : Args) (us : List Value) (vs : List V) (Q : VK) (E : XK), RoomG k A → Env0 P w K mg base A outer s H → BindsTo s fd args (ps.zip us) → Vals vs us → sp vs H Q E →
    codeAny (model P w) A (.call (.ref f) args) (CR C outer P w H s Q E) s
theorem FnG.of {P : Program} {w : World} {K : PySem.W.Frag} {mg : Str → Option Value} {base : Heap} {C : CXT} {k : Nat} {f : Addr} {fd : FuncData} {ps : List Str} {sp : Sp} (F : FnOk P w K mg base C k f fd ps sp) : FnG P w K mg base C k f fd ps sp :=
  ⟨F.len, fun A outer s H args us vs Q E r => F.run A outer s H args us vs Q E r.r⟩
section
variable {P : Program} {w : World} {K : PySem.W.Frag} {mg : Str → Option Value} {base : Heap} {C : CXT} {k : Nat} {f : Addr} {fd : FuncData} {N ps : List Str} {sp : Sp}
/-- a def of the text keeps its promise, by its body -/
theorem fnG {x qual : Str} {st : Stmt} (F : Fun K x qual st f fd) (S : FnScope N ps (defScope st)) (len : ∀ vs H Q E, sp vs H Q E → vs.length = ps.length)
    (body : ∀ (cdv : Value) (A : Around) (outer : List Env) (s : Shared) (H : Hp) (vs : List V) (Q : VK) (E : XK), RoomG k (A.deeper (envOfC qual (defScope st) s.heap.objs.size f cdv)) → sp vs H Q E →
      ∃ t, PSs (cxOf C P w K mg base N qual (defScope st) f cdv A outer s H E) (defBody st) t ∧ t { nx := fun _ H' => Q .non H', rt := Q } (start N vs) H) : FnG P w K mg base C (k + 1) f fd ps sp := by
  obtain ⟨oc, od, kV, doc, pm, an, cdv, ct, osl, rfl, lk, hcd⟩ := F.ex
  refine ⟨len, fun A outer s H args us vs Q E hr e0 hb rv hsp => ?_⟩
  have inK : K.In s.heap := e0.mod.kin.keeps fun b o e => (e0.bs b o e).1
  have free : s.heap.NoLimit := e0.mod.nolimit.keeps fun b o e => (e0.bs b o e).1
  have kinds : ∀ y ∈ ps.zip us, (defScope st).names.lookup y.1 = some .local ∨ ((defScope st).names.lookup y.1 = some .cell ∧ ((cellsFrom (s.heap.objs.size + 1) (defScope st).names []).lookup y.1).isSome = true) := fun y hy =>
    (S.par y.1 (List.of_mem_zip (a := y.1) (b := y.2) hy).1).elim .inl fun q => .inr ⟨q, PySem.W.cellsFrom_some _ _ _ (.inl q)⟩
  refine codeAny_call_function hr.r.depth (inK _ _ lk) rfl S.co S.gen rfl (PySem.W.codeRec_of inK hcd) (hb _ _ _ _ (wpAny_newFunctionEnv_cells S.kind kinds fun env ee s1 ic => ?_))
  cases ee
  obtain ⟨t, ht, hq⟩ := body cdv A outer s H vs Q E (hr.deeper _) hsp
  refine ⟨free.keeps ic.toInCall.keep, codeAny_func (wpAny_mono (ht.run [] s1 (start N vs) H _ (inv_start S hr.r.hd e0 (len _ _ _ _ hsp) rv ic) hq) (fun fl z hz => ?_) fun _ _ hz => hz)⟩
  have ended : ∀ {σ' : L2.St} {H' : Hp} {v : V} {u : Value}, Inv (cxOf C P w K mg base N qual (defScope st) f cdv A outer s H E) [] σ' H' z → RelV v u → Q v H' → CE outer P w H s Q u z := fun J ru q => ⟨_, _, J.os, J.bare, J.base, J.hok, ru, q⟩
  match fl, hz with
  | .ret u, ⟨v, σ', H', J, ru, q⟩ => exact ended J ru q
  | .next, ⟨σ', H', J, q⟩ => exact ended (v := .non) (u := .none) J rfl q
  | .brk, ⟨_, _, _, q⟩ => exact q.elim
  | .cont, ⟨_, _, _, q⟩ => exact q.elim
/-- .. that lets no exception out -/
theorem fnG0 {x qual : Str} {st : Stmt} (F : Fun K x qual st f fd) (S : FnScope N ps (defScope st)) (len : ∀ vs H Q E, sp vs H Q E → vs.length = ps.length)
    (body : ∀ (cdv : Value) (A : Around) (outer : List Env) (s : Shared) (H : Hp) (vs : List V) (Q : VK) (E : XK), RoomG k (A.deeper (envOfC qual (defScope st) s.heap.objs.size f cdv)) → sp vs H Q E →
      ∃ t, PSs (cxOf CX0 P w K mg base N qual (defScope st) f cdv A outer s H E).nox (defBody st) t ∧ t { nx := fun _ H' => Q .non H', rt := Q } (start N vs) H) : FnG P w K mg base CX0 (k + 1) f fd ps sp :=
  fnG F S len fun cdv A outer s H vs Q E hr hsp =>
    let ⟨t, h, q⟩ := body cdv A outer s H vs Q E hr hsp
    ⟨t, h.nox, q⟩
end
section
variable {X : Cx} {C : CXT} {k : Nat} {f : Addr} {fd : FuncData} {ps : List Str} {sp : Sp} {E : L2.St → XK} {x : Str} {p pos : Pos} {e : Expr} {es : List Expr} {t : TA}
/-- f(e, ..) -/
theorem pe_callG (F : FnG X.prog X.w X.K X.mg X.base C k f fd ps sp) (hr : RoomG k X.A) (hg : Gl X x) (hm : X.mg x = some (.ref f)) (hk : PySem.W.keepIn X.K (.ref f) = true) (hb : Binds X.K fd ps []) (hx : ∀ σ, PassesAt C X σ (E σ))
    (ha : PA X (e :: es) t) (hdb : (x == ("__debug__" : Str)) = false := by decide) (he : starEach (e :: es) X.env = (false, eval e X.env) :: starEach es X.env := by rfl) (hpl : (backTo pos (starEach es X.env)).any (·.1) = false := by rfl) :
    PE X (.Call (.Name x p) (e :: es) [] pos) (tCallS sp E t) := by
  refine ⟨fun pins s σ H Q I h => wpAny_Call_Name_kw (ld_glob I hg hm (PySem.W.callWith_K (h₀ := X.base) I.ok.mod.kin hk (thn (ha.run pos pins s σ H _ I h) fun us s1 ⟨vs, H1, J, rv, q⟩ => ⟨J.kIn, ?_⟩) he hpl) hdb)⟩
  have hl : us.length = ps.length := rv.length.symm.trans (F.len _ _ _ _ q)
  have b := hb s1 us J.kIn (by rw [List.append_nil]; exact hl)
  rw [List.append_nil] at b
  refine wpAny_call (codeAny_mono (F.run X.A X.stack s1 H1 ⟨us, []⟩ us vs Q (E σ) hr J.env0 b rv q) fun r z hz => ?_)
  match r, hz with
  | .error e, hz => exact hx σ pins H1 s1 e z J hz
  | .ok (.ret u), hz => exact J.after hz
end
/-- the heap but for the tracked objects -/
theorem law_callG {P : Program} {w : World} {K : PySem.W.Frag} {mg mb : Str → Option Value} {k : Nat} {fa a : Addr} {fd : FuncData} {x : Str} {sp : Sp} {s₁ : Shared} {vs : List Value} {ns : List Int}
    (KX : K.In s₁.heap) (hns : s₁.heap.Ns mainGlobals mg) (hb : s₁.heap.Ns builtinsNs mb) (hbb : ∀ x : Str, x ≠ "__name__" → mb x = bootBuiltins x) (hlim : s₁.heap.NoLimit) (hg : s₁.gens = #[])
    (ha : s₁.heap.get? a = some { cls := .type "list", data := .seq vs.toArray }) (hi : IntsAre vs ns) (hl : ns.length ≤ sizeLine) (hr : Room k callerA)
    (F : ∀ base : Heap, K.In base → base.Ns mainGlobals mg → FnG P w K mg base CX0 k fa fd [x] sp) (hbind : ∀ (s : Shared) (u : Value), BindsTo s fd ⟨[u], []⟩ [(x, u)])
    (hsp : ∀ H : Hp, SqL K H a (ns.map V.int) → sp [.ref a] H (fun v _ => v = .bl true) fun _ _ _ => False) :
    codeAny (model P w) callerA (.call (.ref fa) ⟨[.ref a], []⟩) (fun r s' => r = .ok (.ret (.bool true)) ∧ OldK s₁.heap s'.heap ∧ s'.os = s₁.os ∧ AllBare s'.gens) s₁ := by
  have rv := vals_ints hi
  have go : ∀ H : Hp, (∀ b, H b = none ∨ ∃ o xs, H b = some (.frz o (.lst xs))) → SqL K H a (ns.map V.int) → HOk P w H s₁.heap → (∀ b, H b ≠ none → b = a) → (H a ≠ none → K.lookup a = none) →
      codeAny (model P w) callerA (.call (.ref fa) ⟨[.ref a], []⟩) (fun r s' => r = .ok (.ret (.bool true)) ∧ OldK s₁.heap s'.heap ∧ s'.os = s₁.os ∧ AllBare s'.gens) s₁ := fun H hO hS hok hA hK => by
    have out : ∀ {b : Addr} {o : Obj}, s₁.heap.get? b = some o → b ≠ a → H b = none := fun {b o} e n => Classical.byContradiction fun z => n (hA b z)
    have ns2 : ∀ {b : Addr} {m : Str → Option Value}, s₁.heap.Ns b m → (hidT s₁.heap H).Ns b m := fun {b m} ⟨o, es, ep, e, d, r⟩ => ⟨o, es, ep, hidT_get e (out e fun z => by
      rw [z, ha] at e
      cases e
      cases (show Data.seq vs.toArray _ = Data.dict es ep from d)), d, r⟩
    have in2 : K.In (hidT s₁.heap H) := fun b o e => hidT_get (KX b o e) (by
      by_cases z : H b = none
      · exact z
      · have y := hA b z
        rw [y] at e z
        rw [hK z] at e
        cases e)
    have md : Mod K mg (hidT s₁.heap H) := ⟨in2, ns2 hns, ⟨mb, ns2 hb, hbb⟩, hlim.elim fun mc h => ⟨mc, ns2 h.1, h.2⟩⟩
    have e0 : Env0 P w K mg (hidT s₁.heap H) callerA [] s₁ H := ⟨rfl, md, fun _ _ e => of_hidT e, Nat.le_of_eq (hidT_size _ _), trivial, fun _ z => absurd z List.not_mem_nil, hok, .of_eq hg⟩
    refine codeAny_mono ((F _ in2 (ns2 hns)).run callerA [] s₁ H ⟨[.ref a], []⟩ [.ref a] [.ref a] _ _ ⟨hr, rfl⟩ e0 (hbind s₁ (.ref a)) (.cons rfl .nil) (hsp H hS)) fun r s' h => ?_
    match r, h with
    | .error e, h => exact (show False from h).elim
    | .ok (.ret u), ⟨v, H', os, bare, un, hok', ru, q⟩ =>
      cases (show v = V.bl true from q)
      cases (show u = Value.bool true from ru)
      refine ⟨rfl, OldK.of_keep fun b o e => ?_, os, bare⟩
      rcases hO b with z | ⟨ob, xs, z⟩
      · exact un.keep b o e z (fun y => absurd y List.not_mem_nil) List.not_mem_nil
      · obtain ⟨e1, _⟩ := hok b _ z
        obtain ⟨e2, _⟩ := hok' b _ (un.frzs b ob _ z)
        rw [e] at e1
        cases e1
        exact e2
  cases hk : K.lookup a with
  | some o =>
    have e := KX a o hk
    rw [ha] at e
    cases e
    exact go (fun _ => none) (fun _ => .inl rfl) (.inr ⟨_, vs.toArray, _, hk, rfl, rfl, rfl, by rw [List.size_toArray, hi.length]; exact hl, by simpa using rv⟩) (fun b u z => nomatch z) (fun b z => absurd rfl z) fun z => absurd rfl z
  | none =>
    have one : ∀ b u, (if b = a then some (HO.frz { cls := .type "list", data := .seq vs.toArray } (.lst (ns.map V.int))) else none) = some u → b = a ∧ u = HO.frz { cls := .type "list", data := .seq vs.toArray } (.lst (ns.map V.int)) := fun b u z => by
      split at z
      · rename_i y; cases z; exact ⟨y, rfl⟩
      · cases z
    refine go (fun b => if b = a then some (HO.frz { cls := .type "list", data := .seq vs.toArray } (.lst (ns.map V.int))) else none) (fun b => ?_) (.inl (.inr ⟨{ cls := .type "list", data := .seq vs.toArray }, if_pos rfl⟩)) (fun b u z => ?_) (fun b z => ?_) fun _ => hk
    · by_cases y : b = a
      · exact .inr ⟨_, _, if_pos y⟩
      · exact .inl (if_neg y)
    · obtain ⟨y, rfl⟩ := one b u z
      cases y
      exact ⟨ha, by rw [List.length_map]; exact hl, vs, _, rv, ha⟩
    · by_cases y : b = a
      · exact y
      · exact absurd (if_neg y) z
/-- the end of a law's proof -/
theorem walk_ofG {l : PySem.W.OpenLaw} {n k : Nat} {q : Program} {loose : List Str} {XP : (Str → Option Value) → Heap → Prop} {YP : World → Heap → Prop} {d : DefRec} {K : Params → PySem.W.Frag} {sp : PySem.W.Frag → Sp} {x : Str}
    (hn : l.most = some n) (hn2 : n ≤ sizeLine) (hdf : d.params.defaults = []) (hr : Room k callerA) (hY : ∀ (w : World) (h : Heap), YP w h → (K w.params).In h)
    (F : ∀ (w : World) (mg : Str → Option Value) (fa : Addr) (h : Heap), (K w.params).In h → h.Ns mainGlobals mg → mg d.name = some (.ref fa) →
      ∃ fd : FuncData, (∀ (s : Shared) (u : Value), BindsTo s fd ⟨[u], []⟩ [(x, u)]) ∧ ∀ base : Heap, (K w.params).In base → base.Ns mainGlobals mg → FnG l.prog w (K w.params) mg base CX0 k fa fd [x] (sp (K w.params)))
    (hsp : ∀ (K : PySem.W.Frag) (H : Hp) (a : Addr) (ns : List Int), ns.length ≤ n → SqL K H a (ns.map V.int) → sp K [.ref a] H (fun v _ => v = .bl true) fun _ _ _ => False) :
    PySem.W.WalkO q loose XP YP l.row.toRowW d [] (fun f vs => PySem.call f vs) := by
  refine Att.attach_call hn hdf fun w s₀ s₁ mg mb fa o pm cd doc a vs ns G Y ho hd hcd hmg hobj hints hlen hg => ?_
  obtain ⟨fd, hb, hF⟩ := F w mg fa _ (hY w _ Y) G.T.g hmg
  exact law_callG (hY w _ Y) G.T.g G.T.b G.T.builtins G.T.nolimit hg hobj hints (Nat.le_trans hlen hn2) hr hF hb fun H hS => hsp (K w.params) H a ns hlen hS
end D3
set_option Elab.async false
set_option linter.all false
set_option maxRecDepth 100000
set_option maxHeartbeats 2000000
namespace D3
open PySem L2
section
variable {K : PySem.W.Frag} {W : Wd} {Wx : WX} {X : Cx}
@[simp] def tdVar (i : Nat) : TDE := fun τ Q _ => ∃ d, τ[i]? = some (some (.dat d)) ∧ Q d
@[simp] def tdC (d : D) : TDE := fun _ Q _ => Q d
theorem SimE.var {i : Nat} : SimE K W Wx (tVar i) (tdVar i) := fun I H σ τ Q R G ok r ⟨d, e, q⟩ hq _ => by
  obtain ⟨v, h1, h2⟩ := r.at_ i _ e
  exact ⟨v, h1, hq v d I H q h2 (.refl ok)⟩
theorem SimE.c {x : V} : SimE K W Wx (tC x) (tdC (.v x)) := fun I H σ τ Q R G ok r q hq _ => hq x _ I H q (.v x) (.refl ok)
theorem dv (i : Nat) {x : Str} {pos : Pos} (hN : X.N[i]? = some x := by rfl) (hv : Vis X.env.scope x := by first | exact Or.inl rfl | exact Or.inr (Or.inl rfl) | exact Or.inr (Or.inr rfl)) (hd : (x == ("__debug__" : Str)) = false := by decide)
    (hcd : (x == ("__classdict__" : Str)) = false := by decide) (hk : X.K = K := by rfl) : DE X K W Wx (.Name x pos) (tVar i) (tdVar i) := by
  subst hk
  exact ⟨rfl, pe_var hN hv hd hcd, .var⟩
theorem de_int {i j pos} (hk : X.K = K := by rfl) : DE X K W Wx (.Constant (.int i) j pos) (tC (.int i)) (tdC (.int i)) := by
  subst hk
  exact ⟨rfl, pe_int, .c⟩
theorem de_bl {b j pos} (hk : X.K = K := by rfl) : DE X K W Wx (.Constant (.bool b) j pos) (tC (.bl b)) (tdC (.bl b)) := by
  subst hk
  exact ⟨rfl, pe_bl, .c⟩
theorem de_non {j pos} (hk : X.K = K := by rfl) : DE X K W Wx (.Constant .none j pos) (tC .non) (tdC .non) := by
  subst hk
  exact ⟨rfl, pe_non, .c⟩
theorem de_str {x j pos} (hk : X.K = K := by rfl) : DE X K W Wx (.Constant (.str x) j pos) (tC (.str x)) (tdC (.str x)) := by
  subst hk
  exact ⟨rfl, pe_str, .c⟩
/-- a module's constant that is flat, a class, a def -/
theorem de_glob {x : Str} {v : V} {u : Value} {pos : Pos} (hm : X.mg x = some u) (r : RelV v u) (hg : Gl X x := by rfl) (hd : (x == ("__debug__" : Str)) = false := by decide) (hk : X.K = K := by rfl) : DE X K W Wx (.Name x pos) (tC v) (tdC (.v v)) := by
  subst hk
  exact ⟨rfl, pe_glob hg hm r hd, .c⟩
theorem de_bltn {x : Str} {v : V} {u : Value} {pos : Pos} (hg : Gl X x) (hm : X.mg x = none) (hv : bootBuiltins x = some u) (r : RelV v u) (hn : x ≠ "__name__" := by decide) (hd : (x == ("__debug__" : Str)) = false := by decide) (hk : X.K = K := by rfl) :
    DE X K W Wx (.Name x pos) (tC v) (tdC (.v v)) := by
  subst hk
  exact ⟨rfl, pe_bltn hg hm hv r hn hd, .c⟩
abbrev TD2 := D → D → (D → Prop) → Prop
def R2Sim (K : PySem.W.Frag) (W : Wd) (r : R2) (f : TD2) : Prop := ∀ (I H : Hp) (x y : V) (dx dy : D) (Q : D → Prop) (G : VK), W.ok I H → Is K I x dx → Is K I y dy → f dx dy Q →
  (∀ v d I' H', Q d → Is K I' v d → Later W I H I' H' → G v H') → r x y H G
@[simp] def tdOp (f : TD2) (ta tb : TDE) : TDE := fun τ Q R => ta τ (fun x => tb τ (fun y => f x y Q) R) R
variable {ta tb te : TE} {da db de : TDE} {r : R2} {f : TD2}
theorem SimE.op (hr : R2Sim K W r f) (ha : SimE K W Wx ta da) (hb : SimE K W Wx tb db) : SimE K W Wx (tOp r ta tb) (tdOp f da db) := fun I H σ τ Q R G ok rp h hq hx =>
  ha I H σ τ _ R _ ok rp h (fun x dx I1 H1 q1 i1 l1 => hb I1 H1 σ τ _ R _ l1.ok (rp.later l1) q1 (fun y dy I2 H2 q2 i2 l2 =>
    hr I2 H2 x y dx dy Q G l2.ok (i1.mono l2.ex) i2 q2 fun v d I3 H3 q3 i3 l3 => hq v d I3 H3 q3 i3 ((l1.trans l2).trans l3)) (hx.later l1)) hx
theorem R2Sim.or {r' : R2} {f' : TD2} (h : R2Sim K W r f) (h' : R2Sim K W r' f') : R2Sim K W (fun x y H Q => r x y H Q ∨ r' x y H Q) (fun x y Q => f x y Q ∨ f' x y Q) :=
  fun I H x y dx dy Q G ok hx hy q hq => q.elim (fun q => .inl (h I H x y dx dy Q G ok hx hy q hq)) fun q => .inr (h' I H x y dx dy Q G ok hx hy q hq)
/-- ints -/
def onII (x y : D) (P : Int → Int → Prop) : Prop := match x, y with
  | .v (.int i), .v (.int j) => P i j
  | _, _ => False
def onSS (x y : D) (P : Str → Str → Prop) : Prop := match x, y with
  | .v (.str i), .v (.str j) => P i j
  | _, _ => False
def onBl (x : D) (P : Bool → Prop) : Prop := match x with
  | .v (.bl b) => P b
  | _ => False
@[simp] theorem onII_int {i j : Int} {P : Int → Int → Prop} : onII (.v (.int i)) (.v (.int j)) P = P i j := rfl
@[simp] theorem onSS_str {i j : Str} {P : Str → Str → Prop} : onSS (.v (.str i)) (.v (.str j)) P = P i j := rfl
@[simp] theorem onBl_bl {b : Bool} {P : Bool → Prop} : onBl (.v (.bl b)) P = P b := rfl
@[simp] def fI (g : Int → Int → D) : TD2 := fun x y Q => onII x y fun i j => Q (g i j)
@[simp] def fIC (C : Int → Int → Prop) (g : Int → Int → D) : TD2 := fun x y Q => onII x y fun i j => C i j ∧ Q (g i j)
theorem int_of {K : PySem.W.Frag} {I : Hp} {x y : V} {dx dy : D} {P : Int → Int → Prop} (hx : Is K I x dx) (hy : Is K I y dy) (h : onII dx dy P) :
    ∃ i j, x = .int i ∧ y = .int j ∧ P i j := by
  unfold onII at h
  split at h
  · cases hx; cases hy; exact ⟨_, _, rfl, rfl, h⟩
  · exact h.elim
theorem R2Sim.i0 {g : Int → Int → V} : R2Sim K W (rI0 g) (fI fun i j => .v (g i j)) := fun I H x y dx dy Q G ok hx hy q hq => by
  obtain ⟨i, j, rfl, rfl, q⟩ := int_of (P := fun i j => Q (.v (g i j))) hx hy q
  exact ⟨i, j, rfl, rfl, hq _ _ I H q (.v _) (.refl ok)⟩
theorem R2Sim.i1 {C : Int → Int → Prop} {g : Int → Int → V} : R2Sim K W (rI C g) (fIC C fun i j => .v (g i j)) := fun I H x y dx dy Q G ok hx hy q hq => by
  obtain ⟨i, j, rfl, rfl, c, q⟩ := int_of (P := fun i j => C i j ∧ Q (.v (g i j))) hx hy q
  exact ⟨i, j, rfl, rfl, c, hq _ _ I H q (.v _) (.refl ok)⟩
/-- texts -/
@[simp] def fSC (C : Str → Str → Prop) (g : Str → Str → D) : TD2 := fun x y Q => onSS x y fun i j => C i j ∧ Q (g i j)
@[simp] def fS (g : Str → Str → D) : TD2 := fun x y Q => onSS x y fun i j => Q (g i j)
theorem str_of {K : PySem.W.Frag} {I : Hp} {x y : V} {dx dy : D} {P : Str → Str → Prop} (hx : Is K I x dx) (hy : Is K I y dy) (h : onSS dx dy P) :
    ∃ i j, x = .str i ∧ y = .str j ∧ P i j := by
  unfold onSS at h
  split at h
  · cases hx; cases hy; exact ⟨_, _, rfl, rfl, h⟩
  · exact h.elim
theorem R2Sim.s1 {C : Str → Str → Prop} {g : Str → Str → V} : R2Sim K W (fun x y H Q => ∃ i j, x = .str i ∧ y = .str j ∧ C i j ∧ Q (g i j) H) (fSC C fun i j => .v (g i j)) := fun I H x y dx dy Q G ok hx hy q hq => by
  obtain ⟨i, j, rfl, rfl, c, q⟩ := str_of (P := fun i j => C i j ∧ Q (.v (g i j))) hx hy q
  exact ⟨i, j, rfl, rfl, c, hq _ _ I H q (.v _) (.refl ok)⟩
variable {a b : Expr} {pos : Pos}
theorem de_op {op : Operator} (ho : OpR X (binaryOp op) r) (hr : R2Sim K W r f) (ha : DE X K W Wx a ta da) (hb : DE X K W Wx b tb db) : DE X K W Wx (.BinOp a op b pos) (tOp r ta tb) (tdOp f da db) := by
  have hk := ha.k; subst hk
  exact ⟨rfl, pe_op ho ha.pe hb.pe, .op hr ha.sim hb.sim⟩
theorem de_sub (ha : DE X K W Wx a ta da) (hb : DE X K W Wx b tb db) : DE X K W Wx (.BinOp a .Sub b pos) (tOp (rI0 fun i j => .int (i - j)) ta tb) (tdOp (fI fun i j => .int (i - j)) da db) := by
  have hk := ha.k; subst hk
  exact de_op op_sub .i0 ha hb
/-- a + b: ints, or texts -/
def fAdd : TD2 := fun x y Q => match x, y with
  | .v (.int i), .v (.int j) => Q (.int (i + j))
  | .v (.str i), .v (.str j) => i.length + j.length ≤ sizeLine ∧ Q (.str (i ++ j))
  | _, _ => False
@[simp] theorem fAdd_int {i j : Int} {Q : D → Prop} : fAdd (.v (.int i)) (.v (.int j)) Q = Q (.int (i + j)) := rfl
@[simp] theorem fAdd_str {i j : Str} {Q : D → Prop} : fAdd (.v (.str i)) (.v (.str j)) Q = (i.length + j.length ≤ sizeLine ∧ Q (.str (i ++ j))) := rfl
def rAddIS : R2 := fun x y H Q => rI0 (fun i j => .int (i + j)) x y H Q ∨ (fun x y H Q => ∃ i j, x = .str i ∧ y = .str j ∧ i.length + j.length ≤ sizeLine ∧ Q (.str (i ++ j)) H) x y H Q
theorem R2Sim.add : R2Sim K W rAddIS fAdd := fun I H x y dx dy Q G ok hx hy q hq => by
  unfold fAdd at q
  split at q
  · cases hx; cases hy; exact .inl ⟨_, _, rfl, rfl, hq _ _ I H q (.v _) (.refl ok)⟩
  · cases hx; cases hy; exact .inr ⟨_, _, rfl, rfl, q.1, hq _ _ I H q.2 (.v _) (.refl ok)⟩
  · exact q.elim
theorem op_addIS : OpR X (binaryOp .Add) rAddIS := op_add.or op_add_str
theorem de_add (ha : DE X K W Wx a ta da) (hb : DE X K W Wx b tb db) : DE X K W Wx (.BinOp a .Add b pos) (tOp rAddIS ta tb) (tdOp fAdd da db) := by
  have hk := ha.k; subst hk
  exact de_op op_addIS .add ha hb
theorem de_mul (ha : DE X K W Wx a ta da) (hb : DE X K W Wx b tb db) : DE X K W Wx (.BinOp a .Mult b pos) (tOp (rI CMul fun i j => .int (i * j)) ta tb) (tdOp (fIC CMul fun i j => .int (i * j)) da db) := by
  have hk := ha.k; subst hk
  exact de_op op_mul .i1 ha hb
variable {op : CmpOp}
theorem de_cmp (ho : OpR X (compareOp op) r) (hr : R2Sim K W r f) (ha : DE X K W Wx a ta da) (hb : DE X K W Wx b tb db) (hm : behindInMarks op b = false) : DE X K W Wx (.Compare a [op] [b] pos) (tOp r ta tb) (tdOp f da db) := by
  have hk := ha.k; subst hk
  exact ⟨rfl, pe_cmpR ho ha.pe hb.pe hm, .op hr ha.sim hb.sim⟩
@[simp] def tdTest (t : TDE) : TDT := fun τ Q R => t τ (fun d => onBl d Q) R
theorem bl_of {K : PySem.W.Frag} {I : Hp} {x : V} {d : D} {P : Bool → Prop} (hx : Is K I x d) (h : onBl d P) : ∃ b, x = .bl b ∧ P b := by
  unfold onBl at h
  split at h
  · cases hx; exact ⟨_, rfl, h⟩
  · exact h.elim
theorem SimT.test (h : SimE K W Wx te de) : SimT K W Wx (tTest te) (tdTest de) := fun I H σ τ Q R G ok rp t hq hx =>
  h I H σ τ _ R _ ok rp t (fun v d I' H' q i l => by
    obtain ⟨b, rfl, q⟩ := bl_of (P := Q) i q
    exact ⟨b, rfl, hq b I' H' q l⟩) hx
theorem SimT.bool (h : SimE K W Wx te de) : SimT K W Wx (tB te) (tdTest de) := fun I H σ τ Q R G ok rp t hq hx =>
  h I H σ τ _ R _ ok rp t (fun v d I' H' q i l => by
    obtain ⟨b, rfl, q⟩ := bl_of (P := Q) i q
    exact ⟨b, rfl, hq b I' H' q l⟩) hx
theorem dt_cmp (ho : OpR X (compareOp op) r) (hr : R2Sim K W r f) (ha : DE X K W Wx a ta da) (hb : DE X K W Wx b tb db) (hm : behindInMarks op b = false) : DT X K W Wx (.Compare a [op] [b] pos) (tTest (tOp r ta tb)) (tdTest (tdOp f da db)) := by
  have hk := ha.k; subst hk
  exact ⟨rfl, pt_cmpR ho ha.pe hb.pe hm, .test (.op hr ha.sim hb.sim)⟩
theorem dt_val {e : Expr} (h : DE X K W Wx e te de) (he : ∀ whole, isTrue e X.env whole = (do let v ← whole; standAt e.pos; holding [v] (truthy v)) := by intro _; rfl) : DT X K W Wx e (tB te) (tdTest de) := by
  have hk := h.k; subst hk
  exact ⟨rfl, pt_val h.pe he, SimT.bool h.sim⟩
abbrev fLe : TD2 := fI fun i j => .bl (decide (i ≤ j))
abbrev fGt : TD2 := fI fun i j => .bl (decide (j < i))
abbrev fGe : TD2 := fI fun i j => .bl (decide (j ≤ i))
/-- a < b < c -/
@[simp] def tdChain (f f' : TD2) (ta tb tc : TDE) : TDE := fun τ Q R => ta τ (fun x => tb τ (fun y => f x y fun z => onBl z fun k => if k = true then tc τ (fun w => f' y w Q) R else Q (.bl false)) R) R
theorem SimE.chain {r' : R2} {f' : TD2} {tc : TE} {dc : TDE} (hr : R2Sim K W r f) (hr' : R2Sim K W r' f') (ha : SimE K W Wx ta da) (hb : SimE K W Wx tb db) (hc : SimE K W Wx tc dc) : SimE K W Wx (tChain r r' ta tb tc) (tdChain f f' da db dc) :=
  fun I H σ τ Q R G ok rp h hq hx =>
  ha I H σ τ _ R _ ok rp h (fun x dx I1 H1 q1 i1 l1 => hb I1 H1 σ τ _ R _ l1.ok (rp.later l1) q1 (fun y dy I2 H2 q2 i2 l2 =>
    hr I2 H2 x y dx dy _ _ l2.ok (i1.mono l2.ex) i2 q2 fun v d I3 H3 q3 i3 l3 => by
      obtain ⟨b, rfl, q3⟩ := bl_of i3 q3
      refine ⟨b, rfl, ?_⟩
      cases b with
      | true =>
        rw [if_pos rfl] at q3 ⊢
        exact hc I3 H3 σ τ _ R _ l3.ok (((rp.later l1).later l2).later l3) q3 (fun w dw I4 H4 q4 i4 l4 => hr' I4 H4 y w dy dw Q G l4.ok ((i2.mono l3.ex).mono l4.ex) i4 q4
          fun v d I5 H5 q5 i5 l5 => hq v d I5 H5 q5 i5 ((((l1.trans l2).trans l3).trans l4).trans l5)) (((hx.later l1).later l2).later l3)
      | false =>
        rw [if_neg Bool.false_ne_true] at q3 ⊢
        exact hq _ _ I3 H3 q3 (.v _) ((l1.trans l2).trans l3)) (hx.later l1)) hx
theorem de_chain {op op' : CmpOp} {r' : R2} {f' : TD2} {c : Expr} {tc : TE} {dc : TDE} (ho : OpR X (compareOp op) r) (ho' : OpR X (compareOp op') r') (hr : R2Sim K W r f) (hr' : R2Sim K W r' f') (ha : DE X K W Wx a ta da) (hb : DE X K W Wx b tb db) (hc : DE X K W Wx c tc dc)
    (hm : lastMarks [op, op'] [b, c] = false := by with_unfolding_all rfl) : DE X K W Wx (.Compare a [op, op'] [b, c] pos) (tChain r r' ta tb tc) (tdChain f f' da db dc) := by
  have hk := ha.k; subst hk
  exact ⟨rfl, pe_chain ho ho' ha.pe hb.pe hc.pe hm, .chain hr hr' ha.sim hb.sim hc.sim⟩
theorem dt_chain {op op' : CmpOp} {r' : R2} {f' : TD2} {c : Expr} {tc : TE} {dc : TDE} (ho : OpR X (compareOp op) r) (ho' : OpR X (compareOp op') r') (hr : R2Sim K W r f) (hr' : R2Sim K W r' f') (ha : DE X K W Wx a ta da) (hb : DE X K W Wx b tb db) (hc : DE X K W Wx c tc dc)
    (hm : lastMarks [op, op'] [b, c] = false := by with_unfolding_all rfl) : DT X K W Wx (.Compare a [op, op'] [b, c] pos) (tTest (tChain r r' ta tb tc)) (tdTest (tdChain f f' da db dc)) := by
  have hk := ha.k; subst hk
  exact ⟨rfl, pt_chain ho ho' ha.pe hb.pe hc.pe hm, .test (.chain hr hr' ha.sim hb.sim hc.sim)⟩
def keyPy : Key → PyData
  | .inl i => .int i
  | .inr x => .str x
mutual
def toPy : D → PyData
  | .v .non => .none
  | .v (.bl b) => .bool b
  | .v (.int i) => .int i
  | .v (.str x) => .str x
  | .lst ds => .list (toPys ds)
  | .tup ds => .tuple (toPys ds)
  | .dic gs => .dict (toKv gs)
  | .dt _ gs => .dict (toTv gs)
  | _ => .none
def toPys : List D → List PyData
  | [] => []
  | d :: ds => toPy d :: toPys ds
def toKv : List (Key × D) → List (PyData × PyData)
  | [] => []
  | (.inl i, d) :: ds => (.int i, toPy d) :: toKv ds
  | (.inr x, d) :: ds => (.str x, toPy d) :: toKv ds
def toTv : List (List Key × D) → List (PyData × PyData)
  | [] => []
  | (k, d) :: ds => (.tuple (k.map keyPy), toPy d) :: toTv ds
end
mutual
def pyOk : D → Bool
  | .v .non => true
  | .v (.bl b) => true
  | .v (.int i) => true
  | .v (.str x) => true
  | .lst ds => pyOks ds
  | .tup ds => pyOks ds
  | _ => false
def pyOks : List D → Bool
  | [] => true
  | d :: ds => pyOk d && pyOks ds
end
theorem dp_flat {H : Hp} (x : V) (h : pyOk (.v x) = true) : Dp K H x (toPy (.v x)) := match x, h with
    | .non, _ => Dp.non
    | .bl b, _ => Dp.bl b
    | .int i, _ => Dp.int i
    | .str x, _ => Dp.str x
mutual
theorem Is.dp {I H : Hp} (e : Same I H) : ∀ {v : V} {d : D}, Is K I v d → pyOk d = true → Dp K H v (toPy d)
  | _, _, .v x, h => dp_flat x h
  | _, _, .lst h r, p => Dp.lst (SqL.of (e _ _ h)) (IsAll.dp e r p)
  | _, _, .tup h r, p => Dp.tup (Same.seqT e h.t) (IsAll.dp e r p)
  | _, _, .ins _ _, p => absurd p (by simp [pyOk])
  | _, _, .dic _ _, p => absurd p (by simp [pyOk])
  | _, _, .exc0, p => absurd p (by simp [pyOk])
  | _, _, .exc1 _ _, p => absurd p (by simp [pyOk])
  | _, _, .lent _, p => absurd p (by simp [pyOk])
  | _, _, .dt _ _ _ _, p => absurd p (by simp [pyOk])
theorem IsAll.dp {I H : Hp} (e : Same I H) : ∀ {v : List V} {d : List D}, IsAll K I v d → pyOks d = true → DpAll K H v (toPys d)
  | _, _, .nil, _ => .nil
  | _, _, .cons h r, p => .cons (Is.dp e h (Bool.and_eq_true_iff.mp p).1) (IsAll.dp e r (Bool.and_eq_true_iff.mp p).2)
end
def eqD (x y : D) : Bool := PyData.eqv (toPy x) (toPy y)
/-- such as may be held against each other -/
def cmpOk (x : D) : Prop := pyOk x = true ∧ SeqAt.shaped (toPy x) = true
def fEqN (neg : Bool) : TD2 := fun x y Q => match x, y with
  | .v a, .v b => if scal a b = true then Q (.bl (neg ^^ decide (a = b))) else (cmpOk (.v a) ∧ cmpOk (.v b) ∧ Q (.bl (neg ^^ eqD (.v a) (.v b))))
  | x, y => cmpOk x ∧ cmpOk y ∧ Q (.bl (neg ^^ eqD x y))
@[simp] theorem fEqN_int {n : Bool} {i j : Int} {Q : D → Prop} : fEqN n (.v (.int i)) (.v (.int j)) Q = Q (.bl (n ^^ decide (i = j))) := by
  have e : fEqN n (.v (.int i)) (.v (.int j)) Q = Q (.bl (n ^^ decide (V.int i = V.int j))) := by unfold fEqN; exact if_pos rfl
  rw [e]
  simp
@[simp] theorem fEqN_str {n : Bool} {i j : Str} {Q : D → Prop} : fEqN n (.v (.str i)) (.v (.str j)) Q = Q (.bl (n ^^ decide (i = j))) := by
  have e : fEqN n (.v (.str i)) (.v (.str j)) Q = Q (.bl (n ^^ decide (V.str i = V.str j))) := by unfold fEqN; exact if_pos rfl
  rw [e]
  simp
@[simp] theorem fEqN_bl {n : Bool} {i j : Bool} {Q : D → Prop} : fEqN n (.v (.bl i)) (.v (.bl j)) Q = Q (.bl (n ^^ decide (i = j))) := by
  have e : fEqN n (.v (.bl i)) (.v (.bl j)) Q = Q (.bl (n ^^ decide (V.bl i = V.bl j))) := by unfold fEqN; exact if_pos rfl
  rw [e]
  simp
@[simp] theorem fEqN_lst {n : Bool} {ds : List D} {y : D} {Q : D → Prop} : fEqN n (.lst ds) y Q = (cmpOk (.lst ds) ∧ cmpOk y ∧ Q (.bl (n ^^ eqD (.lst ds) y))) := rfl
@[simp] theorem fEqN_tup {n : Bool} {ds : List D} {y : D} {Q : D → Prop} : fEqN n (.tup ds) y Q = (cmpOk (.tup ds) ∧ cmpOk y ∧ Q (.bl (n ^^ eqD (.tup ds) y))) := rfl
abbrev fEq : TD2 := fEqN false
abbrev fNe : TD2 := fEqN true
def rEqA (K : PySem.W.Frag) : R2 := fun x y H Q => rEq x y H Q ∨ rEqD K x y H Q
def rNeA (K : PySem.W.Frag) : R2 := fun x y H Q => rNe x y H Q ∨ rNeD K x y H Q
theorem cmp_dp {I H : Hp} {v : V} {d : D} (e : Same I H) (h : Is K I v d) (c : cmpOk d) : Dp K H v (toPy d) ∧ SeqAt.shaped (toPy d) = true := ⟨h.dp e c.1, c.2⟩
theorem R2Sim.eq : R2Sim K W (rEqA K) fEq := fun I H x y dx dy Q G ok hx hy q hq => by
  have fin : cmpOk dx ∧ cmpOk dy ∧ Q (.bl (false ^^ eqD dx dy)) → rEqA K x y H G := fun ⟨c1, c2, q⟩ => by
    obtain ⟨p1, s1⟩ := cmp_dp (W.ex ok) hx c1
    obtain ⟨p2, s2⟩ := cmp_dp (W.ex ok) hy c2
    rw [Bool.false_xor] at q
    exact .inr ⟨_, _, p1, p2, s1, s2, hq _ _ I H q (.v _) (.refl ok)⟩
  show rEqA K x y H G
  unfold fEq fEqN at q
  split at q
  · split at q
    · rename_i s
      cases hx; cases hy
      rw [Bool.false_xor] at q
      exact .inl ⟨s, hq _ _ I H q (.v _) (.refl ok)⟩
    · exact fin q
  · exact fin q
theorem R2Sim.ne : R2Sim K W (rNeA K) fNe := fun I H x y dx dy Q G ok hx hy q hq => by
  have fin : cmpOk dx ∧ cmpOk dy ∧ Q (.bl (true ^^ eqD dx dy)) → rNeA K x y H G := fun ⟨c1, c2, q⟩ => by
    obtain ⟨p1, s1⟩ := cmp_dp (W.ex ok) hx c1
    obtain ⟨p2, s2⟩ := cmp_dp (W.ex ok) hy c2
    rw [Bool.true_xor] at q
    exact .inr ⟨_, _, p1, p2, s1, s2, hq _ _ I H q (.v _) (.refl ok)⟩
  show rNeA K x y H G
  unfold fNe fEqN at q
  split at q
  · split at q
    · rename_i s
      cases hx; cases hy
      rw [Bool.true_xor] at q
      exact .inl ⟨s, hq _ _ I H q (.v _) (.refl ok)⟩
    · exact fin q
  · exact fin q
theorem op_eqA (hu : X.A.units + 64 < cLine) : OpR X (compareOp .Eq) (rEqA X.K) := op_eq.or (op_eqD hu)
theorem op_neA (hu : X.A.units + 64 < cLine) : OpR X (compareOp .NotEq) (rNeA X.K) := op_ne.or (op_neD hu)
theorem de_eq (hu : X.A.units + 64 < cLine) (ha : DE X K W Wx a ta da) (hb : DE X K W Wx b tb db) : DE X K W Wx (.Compare a [.Eq] [b] pos) (tOp (rEqA K) ta tb) (tdOp fEq da db) := by
  have hk := ha.k; subst hk
  exact de_cmp (op_eqA hu) .eq ha hb (nomark _)
theorem de_ne (hu : X.A.units + 64 < cLine) (ha : DE X K W Wx a ta da) (hb : DE X K W Wx b tb db) : DE X K W Wx (.Compare a [.NotEq] [b] pos) (tOp (rNeA K) ta tb) (tdOp fNe da db) := by
  have hk := ha.k; subst hk
  exact de_cmp (op_neA hu) .ne ha hb (nomark _)
theorem dt_eq (hu : X.A.units + 64 < cLine) (ha : DE X K W Wx a ta da) (hb : DE X K W Wx b tb db) : DT X K W Wx (.Compare a [.Eq] [b] pos) (tTest (tOp (rEqA K) ta tb)) (tdTest (tdOp fEq da db)) := by
  have hk := ha.k; subst hk
  exact dt_cmp (op_eqA hu) .eq ha hb (nomark _)
theorem dt_ne (hu : X.A.units + 64 < cLine) (ha : DE X K W Wx a ta da) (hb : DE X K W Wx b tb db) : DT X K W Wx (.Compare a [.NotEq] [b] pos) (tTest (tOp (rNeA K) ta tb)) (tdTest (tdOp fNe da db)) := by
  have hk := ha.k; subst hk
  exact dt_cmp (op_neA hu) .ne ha hb (nomark _)
theorem dt_gt (ha : DE X K W Wx a ta da) (hb : DE X K W Wx b tb db) : DT X K W Wx (.Compare a [.Gt] [b] pos) (tTest (tOp (rI0 fun i j => .bl (decide (j < i))) ta tb)) (tdTest (tdOp fGt da db)) := by
  have hk := ha.k; subst hk
  exact dt_cmp op_gt .i0 ha hb (nomark _)
theorem dt_ge (ha : DE X K W Wx a ta da) (hb : DE X K W Wx b tb db) : DT X K W Wx (.Compare a [.GtE] [b] pos) (tTest (tOp (rI0 fun i j => .bl (decide (j ≤ i))) ta tb)) (tdTest (tdOp fGe da db)) := by
  have hk := ha.k; subst hk
  exact dt_cmp op_ge .i0 ha hb (nomark _)
def inS (x y : Str) : Bool := !(Builtin.Str.occurrences y x 0 y.length 1).isEmpty
/-- x in y: texts, or flat things in a list or tuple of flat things -/
def fIn (neg : Bool) : TD2 := fun x y Q => match x, y with
  | .v (.str i), .v (.str j) => Q (.bl (neg ^^ inS i j))
  | .v a, .lst ds => flatV a = true ∧ ∃ xs : List V, ds = xs.map D.v ∧ xs.all flatV = true ∧ Q (.bl (neg ^^ inV a xs))
  | .v a, .tup ds => flatV a = true ∧ ∃ xs : List V, ds = xs.map D.v ∧ xs.all flatV = true ∧ Q (.bl (neg ^^ inV a xs))
  | _, _ => False
@[simp] theorem fIn_str {n : Bool} {i j : Str} {Q : D → Prop} : fIn n (.v (.str i)) (.v (.str j)) Q = Q (.bl (n ^^ inS i j)) := rfl
theorem IsAll.flat {I : Hp} : ∀ {xs ys : List V}, IsAll K I ys (xs.map D.v) → ys = xs
  | [], _, h => by cases h; rfl
  | x :: xs, _, h => by
    cases h with
    | cons h r =>
      cases h
      rw [IsAll.flat r]
def rInA (K : PySem.W.Frag) (neg : Bool) : R2 := fun x y H Q => (∃ i j, x = .str i ∧ y = .str j ∧ Q (.bl (neg ^^ inS i j)) H) ∨ rIn K neg x y H Q
theorem R2Sim.in_ {neg : Bool} : R2Sim K W (rInA K neg) (fIn neg) := fun I H x y dx dy Q G ok hx hy q hq => by
  show rInA K neg x y H G
  have e : ∀ c : Bool, (neg ^^ c) = if neg = true then !c else c := by intro c; cases neg <;> cases c <;> rfl
  unfold fIn at q
  split at q
  · cases hx; cases hy
    exact .inl ⟨_, _, rfl, rfl, hq _ _ I H q (.v _) (.refl ok)⟩
  · cases hx
    obtain ⟨f1, xs, rfl, f2, q⟩ := q
    obtain ⟨p, ys, rfl, sq, al⟩ := is_lst hy
    cases IsAll.flat al
    exact .inr ⟨p, _, rfl, .inl ((W.ex ok).seq sq), f1, f2, by rw [← e]; exact hq _ _ I H q (.v _) (.refl ok)⟩
  · cases hx
    obtain ⟨f1, xs, rfl, f2, q⟩ := q
    obtain ⟨p, ys, rfl, sq, al⟩ := is_tup hy
    cases IsAll.flat al
    exact .inr ⟨p, _, rfl, .inr (Same.seqT (W.ex ok) sq), f1, f2, by rw [← e]; exact hq _ _ I H q (.v _) (.refl ok)⟩
  · exact q.elim
theorem op_inA : OpR X (compareOp .In) (rInA X.K false) := by
  have h := (op_in_str (X := X)).or (op_in_seq (X := X))
  intro pins s σ H x y v u Q I rx ry q
  refine h pins s σ H x y v u Q I rx ry ?_
  rcases q with ⟨i, j, e1, e2, q⟩ | q
  · exact .inl ⟨i, j, e1, e2, by rw [Bool.false_xor] at q; exact q⟩
  · exact .inr q
theorem de_in (ha : DE X K W Wx a ta da) (hb : DE X K W Wx b tb db) (hm : behindInMarks .In b = false := by rfl) : DE X K W Wx (.Compare a [.In] [b] pos) (tOp (rInA K false) ta tb) (tdOp (fIn false) da db) := by
  have hk := ha.k; subst hk
  exact de_cmp op_inA .in_ ha hb hm
theorem dt_in (ha : DE X K W Wx a ta da) (hb : DE X K W Wx b tb db) (hm : behindInMarks .In b = false := by rfl) : DT X K W Wx (.Compare a [.In] [b] pos) (tTest (tOp (rInA K false) ta tb)) (tdTest (tdOp (fIn false) da db)) := by
  have hk := ha.k; subst hk
  exact dt_cmp op_inA .in_ ha hb hm
variable {tA tB' : TT} {dA dB : TDT} {rest : List Expr}
@[simp] def tdAnd (t u : TDT) : TDT := fun τ Q R => t τ (fun c => if c = true then u τ Q R else Q false) R
@[simp] def tdOr (t u : TDT) : TDT := fun τ Q R => t τ (fun c => if c = true then Q true else u τ Q R) R
@[simp] def tdNot (t : TDT) : TDT := fun τ Q R => t τ (fun c => Q (!c)) R
theorem SimT.and (ha : SimT K W Wx tA dA) (hb : SimT K W Wx tB' dB) : SimT K W Wx (tAnd tA tB') (tdAnd dA dB) := fun I H σ τ Q R G ok rp t hq hx =>
  ha I H σ τ _ R _ ok rp t (fun c I1 H1 q1 l1 => by
    cases c with
    | true =>
      rw [if_pos rfl] at q1 ⊢
      exact hb I1 H1 σ τ Q R G l1.ok (rp.later l1) q1 (fun b I2 H2 q2 l2 => hq b I2 H2 q2 (l1.trans l2)) (hx.later l1)
    | false =>
      rw [if_neg Bool.false_ne_true] at q1 ⊢
      exact hq false I1 H1 q1 l1) hx
theorem SimT.or (ha : SimT K W Wx tA dA) (hb : SimT K W Wx tB' dB) : SimT K W Wx (tOr tA tB') (tdOr dA dB) := fun I H σ τ Q R G ok rp t hq hx =>
  ha I H σ τ _ R _ ok rp t (fun c I1 H1 q1 l1 => by
    cases c with
    | true =>
      rw [if_pos rfl] at q1 ⊢
      exact hq true I1 H1 q1 l1
    | false =>
      rw [if_neg Bool.false_ne_true] at q1 ⊢
      exact hb I1 H1 σ τ Q R G l1.ok (rp.later l1) q1 (fun b I2 H2 q2 l2 => hq b I2 H2 q2 (l1.trans l2)) (hx.later l1)) hx
theorem SimT.not (ha : SimT K W Wx tA dA) : SimT K W Wx (tNot tA) (tdNot dA) := fun I H σ τ Q R G ok rp t hq hx =>
  ha I H σ τ _ R _ ok rp t (fun c I1 H1 q1 l1 => hq _ I1 H1 q1 l1) hx
theorem dt_not (ha : DT X K W Wx a tA dA) : DT X K W Wx (.UnaryOp .Not a pos) (tNot tA) (tdNot dA) := by
  have hk := ha.k; subst hk
  exact ⟨rfl, pt_not ha.pt, .not ha.sim⟩
theorem dw_and1 (ha : DT X K W Wx a tA dA) : DW X K W Wx (.BoolOp .And [a] pos) tA dA := by
  have hk := ha.k; subst hk
  exact ⟨rfl, pw_and1 ha.pt, ha.sim⟩
theorem dw_or1 (ha : DT X K W Wx a tA dA) : DW X K W Wx (.BoolOp .Or [a] pos) tA dA := by
  have hk := ha.k; subst hk
  exact ⟨rfl, pw_or1 ha.pt, ha.sim⟩
theorem dw_and (ha : DT X K W Wx a tA dA) (hb : DW X K W Wx (.BoolOp .And (b :: rest) pos) tB' dB) : DW X K W Wx (.BoolOp .And (a :: b :: rest) pos) (tAnd tA tB') (tdAnd dA dB) := by
  have hk := ha.k; subst hk
  exact ⟨rfl, pw_and ha.pt hb.pw, .and ha.sim hb.sim⟩
theorem dw_or (ha : DT X K W Wx a tA dA) (hb : DW X K W Wx (.BoolOp .Or (b :: rest) pos) tB' dB) : DW X K W Wx (.BoolOp .Or (a :: b :: rest) pos) (tOr tA tB') (tdOr dA dB) := by
  have hk := ha.k; subst hk
  exact ⟨rfl, pw_or ha.pt hb.pw, .or ha.sim hb.sim⟩
/-- .. as values, all but the last bools -/
@[simp] def tdAndV (ta tb : TDE) : TDE := fun τ Q R => ta τ (fun x => onBl x fun k => if k = true then tb τ Q R else Q (.bl false)) R
@[simp] def tdOrV (ta tb : TDE) : TDE := fun τ Q R => ta τ (fun x => onBl x fun k => if k = true then Q (.bl true) else tb τ Q R) R
@[simp] def tdNotV (ta : TDE) : TDE := fun τ Q R => ta τ (fun x => onBl x fun c => Q (.bl (!c))) R
theorem SimE.andV (ha : SimE K W Wx ta da) (hb : SimE K W Wx tb db) : SimE K W Wx (tAndV ta tb) (tdAndV da db) := fun I H σ τ Q R G ok rp t hq hx =>
  ha I H σ τ _ R _ ok rp t (fun v d I1 H1 q1 i1 l1 => by
    obtain ⟨b, rfl, q1⟩ := bl_of i1 q1
    refine ⟨b, rfl, ?_⟩
    cases b with
    | true =>
      rw [if_pos rfl] at q1 ⊢
      exact hb I1 H1 σ τ Q R G l1.ok (rp.later l1) q1 (fun v d I2 H2 q2 i2 l2 => hq v d I2 H2 q2 i2 (l1.trans l2)) (hx.later l1)
    | false =>
      rw [if_neg Bool.false_ne_true] at q1 ⊢
      exact hq _ _ I1 H1 q1 (.v _) l1) hx
theorem SimE.notV (ha : SimE K W Wx ta da) : SimE K W Wx (tNotV ta) (tdNotV da) := fun I H σ τ Q R G ok rp t hq hx =>
  ha I H σ τ _ R _ ok rp t (fun v d I1 H1 q1 i1 l1 => by
    obtain ⟨b, rfl, q1⟩ := bl_of i1 q1
    exact ⟨_, rfl, hq _ _ I1 H1 q1 (.v _) l1⟩) hx
theorem de_one {op} (h : DE X K W Wx a ta da) : DE X K W Wx (.BoolOp op [a] pos) ta da := by
  have hk := h.k; subst hk
  exact ⟨rfl, pe_one h.pe, h.sim⟩
theorem de_and (ha : DE X K W Wx a ta da) (hb : DE X K W Wx (.BoolOp .And (b :: rest) pos) tb db) : DE X K W Wx (.BoolOp .And (a :: b :: rest) pos) (tAndV ta tb) (tdAndV da db) := by
  have hk := ha.k; subst hk
  exact ⟨rfl, pe_and ha.pe hb.pe, .andV ha.sim hb.sim⟩
theorem de_not (ha : DE X K W Wx a ta da) : DE X K W Wx (.UnaryOp .Not a pos) (tNotV ta) (tdNotV da) := by
  have hk := ha.k; subst hk
  exact ⟨rfl, pe_not ha.pe, .notV ha.sim⟩
@[simp] def tdIf (t : TDT) (ta tb : TDE) : TDE := fun τ Q R => t τ (fun c => if c = true then ta τ Q R else tb τ Q R) R
theorem SimE.ite (hc : SimT K W Wx tA dA) (ha : SimE K W Wx ta da) (hb : SimE K W Wx tb db) : SimE K W Wx (tIf tA ta tb) (tdIf dA da db) := fun I H σ τ Q R G ok rp t hq hx =>
  hc I H σ τ _ R _ ok rp t (fun c I1 H1 q1 l1 => by
    cases c with
    | true =>
      rw [if_pos rfl] at q1 ⊢
      exact ha I1 H1 σ τ Q R G l1.ok (rp.later l1) q1 (fun v d I2 H2 q2 i2 l2 => hq v d I2 H2 q2 i2 (l1.trans l2)) (hx.later l1)
    | false =>
      rw [if_neg Bool.false_ne_true] at q1 ⊢
      exact hb I1 H1 σ τ Q R G l1.ok (rp.later l1) q1 (fun v d I2 H2 q2 i2 l2 => hq v d I2 H2 q2 i2 (l1.trans l2)) (hx.later l1)) hx
variable {tr : TA} {dr : TDA} {es : List Expr} {e : Expr}
@[simp] def tdNil : TDA := fun _ Q _ => Q []
@[simp] def tdCons (t : TDE) (u : TDA) : TDA := fun τ Q R => t τ (fun d => u τ (fun ds => Q (d :: ds)) R) R
theorem SimA.nil : SimA K W Wx tNil tdNil := fun I H σ τ Q R G ok rp q hq _ => hq [] [] I H q .nil (.refl ok)
theorem SimA.cons (ha : SimE K W Wx te de) (hr : SimA K W Wx tr dr) : SimA K W Wx (tCons te tr) (tdCons de dr) := fun I H σ τ Q R G ok rp t hq hx =>
  ha I H σ τ _ R _ ok rp t (fun v d I1 H1 q1 i1 l1 => hr I1 H1 σ τ _ R _ l1.ok (rp.later l1) q1 (fun vs ds I2 H2 q2 i2 l2 => hq _ _ I2 H2 q2 (.cons (i1.mono l2.ex) i2) (l1.trans l2)) (hx.later l1)) hx
theorem da_nil (hk : X.K = K := by rfl) : DA X K W Wx [] tNil tdNil := by
  subst hk
  exact ⟨rfl, pa_nil, .nil⟩
theorem da_cons (ha : DE X K W Wx e te de) (hr : DA X K W Wx es tr dr) (hs : starEach (e :: es) X.env = (false, eval e X.env) :: starEach es X.env := by rfl) : DA X K W Wx (e :: es) (tCons te tr) (tdCons de dr) := by
  have hk := ha.k; subst hk
  exact ⟨rfl, pa_cons ha.pe hr.pa hs, .cons ha.sim hr.sim⟩
@[simp] def tdTup (u : TDA) : TDE := fun τ Q R => u τ (fun ds => ds.length ≤ sizeLine ∧ Q (.tup ds)) R
@[simp] def tdLst (u : TDA) : TDO := fun τ Q R => u τ (fun ds => ds.length ≤ sizeLine ∧ Q ds) R
theorem SimE.tup (h : SimA K W Wx tr dr) : SimE K W Wx (tTupN tr) (tdTup dr) := fun I H σ τ Q R G ok rp t hq hx =>
  h I H σ τ _ R _ ok rp t (fun vs ds I1 H1 q1 i1 l1 => ⟨by rw [i1.length]; exact q1.1, fun p o hp hd => hq _ _ (upd I1 p (.frz o (.tup vs))) _ q1.2
    (.tup (SqN.of upd_same hd) (i1.mono (Same.new (Same.non (W.ex l1.ok) hp)))) (l1.trans (Later.alloc l1.ok hp))⟩) hx
theorem SimO.lst (h : SimA K W Wx tr dr) : SimO K W Wx (tLst tr) (tdLst dr) := fun I H σ τ Q R G ok rp t hq hx =>
  h I H σ τ _ R _ ok rp t (fun vs ds I1 H1 q1 i1 l1 => ⟨by rw [i1.length]; exact q1.1, fun p hp => by
    have hp0 : H p = none := by
      cases e : H p with
      | none => rfl
      | some o => rw [l1.fr p o (W.fr l1.ok hp) (fun z => z) e] at hp; cases hp
    exact hq p vs ds I1 _ q1.2 hp0 upd_same (Same.non (W.ex l1.ok) hp) i1 (l1.trans (Later.allocO l1.ok hp))⟩) hx
theorem de_tup {x1} (h : DA X K W Wx es tr dr) : DE X K W Wx (.Tuple es x1 pos) (tTupN tr) (tdTup dr) := by
  have hk := h.k; subst hk
  exact ⟨rfl, pe_tupN h.pa, .tup h.sim⟩
theorem do_lst (h : DA X K W Wx es tr dr) : DO X K W Wx (.List es pos) (tLst tr) (tdLst dr) := by
  have hk := h.k; subst hk
  exact ⟨rfl, pe_lst h.pa, .lst h.sim⟩
theorem Later.back' {W : Wd} {I H I' H' : Hp} {p : Addr} (l : Later W I H I' H') (hp : H' p = none) : H p = none := by
  cases e : H p with
  | none => rfl
  | some o => rw [l.fr p o (W.fr l.ok hp) (fun z => z) e] at hp; cases hp
theorem Later.back {I H I' H' : Hp} {p : Addr} (l : Later W I H I' H') (hp : H' p = none) : H p = none := by
  cases e : H p with
  | none => rfl
  | some o => rw [l.fr p o (W.fr l.ok hp) (fun z => z) e] at hp; cases hp
end
end D3
set_option Elab.async false
set_option linter.all false
set_option maxRecDepth 100000
set_option maxHeartbeats 2000000
namespace D3
open PySem L2
section
variable {K : PySem.W.Frag} {W : Wd} {Wx : WX} {X : Cx} {a b e : Expr} {ta tb te : TE} {da db de : TDE} {pos : Pos}
theorem IsAll.atI {I : Hp} {vs : List V} {ds : List D} {i : Int} {d : D} (h : IsAll K I vs ds) (e : L2.atI ds i = some d) : ∃ v, L2.atI vs i = some v ∧ Is K I v d := by
  unfold L2.atI at e ⊢
  rw [h.length]
  cases q : ixN ds.length i with
  | none => rw [q] at e; cases e
  | some j =>
    rw [q] at e
    exact h.get (i := j) e
def fIx : TD2 := fun x y Q => match x, y with
  | .lst ds, .v (.int i) => ∃ d, L2.atI ds i = some d ∧ Q d
  | .tup ds, .v (.int i) => ∃ d, L2.atI ds i = some d ∧ Q d
  | .v (.str z), .v (.int i) => z.length ≤ sizeLine ∧ ∃ c, L2.atI z.cps.toList i = some c ∧ Q (.str ⟨#[c]⟩)
  | _, _ => False
@[simp] theorem fIx_lst {ds : List D} {i : Int} {Q : D → Prop} : fIx (.lst ds) (.v (.int i)) Q = ∃ d, L2.atI ds i = some d ∧ Q d := rfl
@[simp] theorem fIx_tup {ds : List D} {i : Int} {Q : D → Prop} : fIx (.tup ds) (.v (.int i)) Q = ∃ d, L2.atI ds i = some d ∧ Q d := rfl
@[simp] theorem fIx_str {z : Str} {i : Int} {Q : D → Prop} : fIx (.v (.str z)) (.v (.int i)) Q = (z.length ≤ sizeLine ∧ ∃ c, L2.atI z.cps.toList i = some c ∧ Q (.str ⟨#[c]⟩)) := rfl
theorem R2Sim.ix : R2Sim K W (rIx K) fIx := fun I H x y dx dy Q G ok hx hy q hq => by
  show rIx K x y H G
  unfold fIx at q
  split at q
  · cases hy
    obtain ⟨d, e, q⟩ := q
    obtain ⟨p, xs, rfl, sq, al⟩ := is_lst hx
    obtain ⟨v, e', iv⟩ := al.atI e
    exact .inl ⟨p, xs, _, v, rfl, rfl, (W.ex ok).seq sq, e', hq v d I H q iv (Later.refl ok)⟩
  · cases hy
    obtain ⟨d, e, q⟩ := q
    obtain ⟨p, xs, rfl, sq, al⟩ := is_tup hx
    obtain ⟨v, e', iv⟩ := al.atI e
    exact .inr (.inl ⟨p, xs, _, v, rfl, rfl, Same.seqT (W.ex ok) sq, e', hq v d I H q iv (Later.refl ok)⟩)
  · cases hx; cases hy
    obtain ⟨z, c, e, q⟩ := q
    exact .inr (.inr ⟨_, _, c, rfl, rfl, z, e, hq _ _ I H q (.v _) (Later.refl ok)⟩)
  · exact q.elim
theorem de_ix (ha : DE X K W Wx a ta da) (hb : DE X K W Wx b tb db) (hs : PlainIx b := by exact fun _ _ => rfl) : DE X K W Wx (.Subscript a b pos) (tOp (rIx K) ta tb) (tdOp fIx da db) := by
  have hk := ha.k; subst hk
  exact ⟨rfl, pe_ix ix_seq ha.pe hb.pe hs, .op .ix ha.sim hb.sim⟩
abbrev TDO2 := Tau → (Option Int → Prop) → (Exc → Prop) → Prop
def SimP (K : PySem.W.Frag) (W : Wd) (Wx : WX) (t : TO) (u : TDO2) : Prop := ∀ (I H : Hp) (σ : St) (τ : Tau) (Q : Option Int → Prop) (R : Exc → Prop) (G : Option Int → Hp → Prop), W.ok I H → Rep K W I H σ τ → u τ Q R →
  (∀ o I' H', Q o → Later W I H I' H' → G o H') → XOk K W Wx R I H σ → t σ H G
structure DP (X : Cx) (K : PySem.W.Frag) (W : Wd) (Wx : WX) (e : Option Expr) (t : TO) (u : TDO2) : Prop where
  k : X.K = K
  po : PO X e t
  sim : SimP K W Wx t u
@[simp] def tdNoPart : TDO2 := fun _ Q _ => Q none
def onI (x : D) (P : Int → Prop) : Prop := match x with
  | .v (.int i) => P i
  | _ => False
@[simp] theorem onI_int {i : Int} {P : Int → Prop} : onI (.v (.int i)) P = P i := rfl
def onLst (x : D) (P : List D → Prop) : Prop := match x with
  | .lst ds => P ds
  | _ => False
@[simp] theorem onLst_lst {ds : List D} {P : List D → Prop} : onLst (.lst ds) P = P ds := rfl
def onStr (x : D) (P : Str → Prop) : Prop := match x with
  | .v (.str z) => P z
  | _ => False
@[simp] theorem onStr_str {z : Str} {P : Str → Prop} : onStr (.v (.str z)) P = P z := rfl
theorem lst_of {I : Hp} {x : V} {d : D} {P : List D → Prop} (hx : Is K I x d) (h : onLst d P) : ∃ a xs ds, x = .ref a ∧ SqL K I a xs ∧ IsAll K I xs ds ∧ P ds := by
  unfold onLst at h
  split at h
  · obtain ⟨a, xs, e, s, r⟩ := is_lst hx
    exact ⟨a, xs, _, e, s, r, h⟩
  · exact h.elim
theorem str_of1 {I : Hp} {x : V} {d : D} {P : Str → Prop} (hx : Is K I x d) (h : onStr d P) : ∃ z, x = .str z ∧ P z := by
  unfold onStr at h
  split at h
  · cases hx; exact ⟨_, rfl, h⟩
  · exact h.elim
theorem i_of {I : Hp} {x : V} {d : D} {P : Int → Prop} (hx : Is K I x d) (h : onI d P) : ∃ i, x = .int i ∧ P i := by
  unfold onI at h
  split at h
  · cases hx; exact ⟨_, rfl, h⟩
  · exact h.elim
@[simp] def tdPart (t : TDE) : TDO2 := fun τ Q R => t τ (fun d => onI d fun i => Q (some i)) R
theorem dp_none (hk : X.K = K := by rfl) : DP X K W Wx none tNoPart tdNoPart := by
  subst hk
  exact ⟨rfl, po_none, fun I H σ τ Q R G ok rp q hq _ => hq none I H q (Later.refl ok)⟩
theorem dp_some (h : DE X K W Wx e te de) : DP X K W Wx (some e) (tPart te) (tdPart de) := by
  have hk := h.k; subst hk
  exact ⟨rfl, po_some h.pe, fun I H σ τ Q R G ok rp t hq hx =>
  h.sim I H σ τ _ R _ ok rp t (fun v d I1 H1 q1 i1 l1 => by
    obtain ⟨i, rfl, q⟩ := i_of i1 q1
    exact ⟨i, rfl, hq _ I1 H1 q l1⟩) hx⟩
def cutD (ds : List D) (lo hi : Option Int) : List D := (ds.drop (HT.sIx ds.length 0 lo)).take (HT.sIx ds.length ds.length hi - HT.sIx ds.length 0 lo)
theorem IsAll.cut {I : Hp} {vs : List V} {ds : List D} (h : IsAll K I vs ds) (lo hi : Option Int) : IsAll K I (cutV vs lo hi) (cutD ds lo hi) := by
  unfold cutV cutD
  rw [h.length]
  exact (h.drop _).take _
variable {lo hi : Option Expr} {tl th : TO} {dl dh : TDO2} {p2 : Pos}
/-- of a list: a new list -/
@[simp] def tdSlL (t : TDE) (l h : TDO2) : TDO := fun τ Q R => t τ (fun x => l τ (fun lo => h τ (fun hi => onLst x fun ds => Q (cutD ds lo hi)) R) R) R
theorem do_sl (he : DE X K W Wx e te de) (hl : DP X K W Wx lo tl dl) (hh : DP X K W Wx hi th dh) : DO X K W Wx (.Subscript e (.Slice lo hi none p2) pos) (tSl (rSlL K) te tl th) (tdSlL de dl dh) := by
  have hk := he.k; subst hk
  exact ⟨rfl, pe_slice sl_list he.pe hl.po hh.po, fun I H σ τ Q R G ok rp t hq hx => he.sim I H σ τ _ R _ ok rp t (fun v d I1 H1 q1 i1 l1 =>
    hl.sim I1 H1 σ τ _ R _ l1.ok (rp.later l1) q1 (fun lo I2 H2 q2 l2 => hh.sim I2 H2 σ τ _ R _ l2.ok ((rp.later l1).later l2) q2 (fun hi I3 H3 q3 l3 => by
      obtain ⟨p, xs, ds, rfl, sq, al, q3⟩ := lst_of i1 q3
      · have l := (l1.trans l2).trans l3
        refine ⟨p, xs, rfl, (W.ex l3.ok).seq (l3.ex.seq (l2.ex.seq sq)), fun n hn => ?_⟩
        exact hq n _ _ I3 _ q3 (Later.back l hn) upd_same (Same.non (W.ex l3.ok) hn) (((al.mono l2.ex).mono l3.ex).cut lo hi) (l.trans (Later.allocO l3.ok hn))) ((hx.later l1).later l2)) (hx.later l1)) hx⟩
/-- of a text -/
@[simp] def tdSlS (t : TDE) (l h : TDO2) : TDE := fun τ Q R => t τ (fun x => l τ (fun lo => h τ (fun hi => onStr x fun z => z.length ≤ sizeLine ∧ Q (.str (cutS z lo hi))) R) R) R
theorem de_sl (he : DE X K W Wx e te de) (hl : DP X K W Wx lo tl dl) (hh : DP X K W Wx hi th dh) : DE X K W Wx (.Subscript e (.Slice lo hi none p2) pos) (tSl rSlS te tl th) (tdSlS de dl dh) := by
  have hk := he.k; subst hk
  exact ⟨rfl, pe_slice sl_str he.pe hl.po hh.po, fun I H σ τ Q R G ok rp t hq hx => he.sim I H σ τ _ R _ ok rp t (fun v d I1 H1 q1 i1 l1 =>
    hl.sim I1 H1 σ τ _ R _ l1.ok (rp.later l1) q1 (fun lo I2 H2 q2 l2 => hh.sim I2 H2 σ τ _ R _ l2.ok ((rp.later l1).later l2) q2 (fun hi I3 H3 q3 l3 => by
      obtain ⟨z, rfl, q3⟩ := str_of1 i1 q3
      exact ⟨_, rfl, q3.1, hq _ _ I3 H3 q3.2 (.v _) ((l1.trans l2).trans l3)⟩) ((hx.later l1).later l2)) (hx.later l1)) hx⟩
abbrev TDG := D → Tau → (Tau → Prop) → Prop
/-- g stores into the slots idx alone -/
def SimG (K : PySem.W.Frag) (W : Wd) (g : TG) (t : TDG) (idx : List Nat) : Prop := ∀ (I H : Hp) (σ : St) (τ : Tau) (v : V) (d : D) (Q : Tau → Prop) (G : St → Hp → Prop), W.ok I H → Rep K W I H σ τ → Is K I v d → t d τ Q →
  (∀ σ' τ', Q τ' → Rep K W I H σ' τ' → (∀ p, Own σ' τ' p → Own σ τ p) → (∀ vs : List Nat, (∀ i ∈ idx, i ∈ vs) → wipe σ' vs = wipe σ vs) → G σ' H) → g v σ H G
structure DG (X : Cx) (K : PySem.W.Frag) (W : Wd) (e : Expr) (g : TG) (t : TDG) (idx : List Nat) : Prop where
  k : X.K = K
  pg : PG X e g
  sim : SimG K W g t idx
@[simp] def gdName (i : Nat) : TDG := fun d τ Q => Q (τ.set i (some (.dat d)))
theorem wipe_set {σ : St} {i : Nat} {x : Option V} : ∀ {vs : List Nat}, i ∈ vs → wipe (σ.set i x) vs = wipe σ vs
  | [], h => by cases h
  | v :: vs, h => by
    unfold wipe
    by_cases hi : i ∈ vs
    · rw [wipe_set hi]
    · have e : i = v := by
        rcases List.mem_cons.mp h with e | e
        · exact e
        · exact absurd e hi
      subst e
      have : ∀ ws : List Nat, i ∉ ws → wipe (σ.set i x) ws = (wipe σ ws).set i x := by
        intro ws
        induction ws with
        | nil => intro _; rfl
        | cons w ws ih =>
          intro hn
          have h1 : w ≠ i := fun e => hn (by rw [e]; exact List.mem_cons_self)
          unfold wipe
          rw [ih (fun m => hn (List.mem_cons_of_mem _ m)), List.set_comm _ _ (Ne.symm h1)]
      rw [this vs hi, List.set_set]
theorem SimG.name {i : Nat} : SimG K W (gName i) (gdName i) [i] := fun I H σ τ v d Q G ok rp iv q hq =>
  hq _ _ q (rp.set_dat iv) (fun p o => o.set_dat rp.len) fun vs h => wipe_set (h i (List.mem_singleton.mpr rfl))
theorem dg_name {i : Nat} {x : Str} {pos : Pos} (hN : X.N.Nodup) (hi : X.N[i]? = some x := by rfl) (hx : Loc X.env.scope x := by first | exact Or.inl rfl | exact Or.inr rfl)
    (hf : X.fn x = true ∨ X.env.scope.names.lookup x = some .local := by first | exact .inl rfl | exact .inr rfl | assumption) (hk : X.K = K := by rfl) : DG X K W (.Name x pos) (gName i) (gdName i) [i] := by
  subst hk
  exact ⟨rfl, pg_name hN hi hx hf, .name⟩
abbrev TDGs := List D → Tau → (Tau → Prop) → Prop
def SimGs (K : PySem.W.Frag) (W : Wd) (g : TGs) (t : TDGs) (idx : List Nat) : Prop := ∀ (I H : Hp) (σ : St) (τ : Tau) (v : List V) (d : List D) (Q : Tau → Prop) (G : St → Hp → Prop), W.ok I H → Rep K W I H σ τ → IsAll K I v d → t d τ Q →
  (∀ σ' τ', Q τ' → Rep K W I H σ' τ' → (∀ p, Own σ' τ' p → Own σ τ p) → (∀ vs : List Nat, (∀ i ∈ idx, i ∈ vs) → wipe σ' vs = wipe σ vs) → G σ' H) → g v σ H G
structure DGs (X : Cx) (K : PySem.W.Frag) (W : Wd) (e : List Expr) (g : TGs) (t : TDGs) (idx : List Nat) : Prop where
  k : X.K = K
  pg : PGs X e g
  sim : SimGs K W g t idx
@[simp] def gdNil : TDGs := fun ds τ Q => ds = [] ∧ Q τ
def gdCons (t : TDG) (u : TDGs) : TDGs := fun ds τ Q => match ds with
  | d :: r => t d τ fun τ' => u r τ' Q
  | [] => False
@[simp] theorem gdCons_cons {t : TDG} {u : TDGs} {d : D} {r : List D} {τ : Tau} {Q : Tau → Prop} : gdCons t u (d :: r) τ Q = t d τ fun τ' => u r τ' Q := rfl
theorem dgs_nil (hk : X.K = K := by rfl) : DGs X K W [] gNil gdNil [] := by
  subst hk
  exact ⟨rfl, pgs_nil, fun I H σ τ v d Q G ok rp iv q hq => by
  obtain ⟨rfl, q⟩ := q
  cases iv
  exact ⟨rfl, hq σ τ q rp (fun _ o => o) fun _ _ => rfl⟩⟩
theorem dgs_cons {es : List Expr} {g : TG} {t : TDG} {gs : TGs} {u : TDGs} {i1 i2 : List Nat} (h1 : DG X K W e g t i1) (h2 : DGs X K W es gs u i2) (hs : (assignEach (e :: es) X.env).map (·.2) = assign e X.env :: (assignEach es X.env).map (·.2) := by rfl) :
    DGs X K W (e :: es) (gCons g gs) (gdCons t u) (i1 ++ i2) := by
  have hk := h1.k; subst hk
  exact ⟨rfl, pgs_cons h1.pg h2.pg hs, fun I H σ τ v d Q G ok rp iv q hq => by
  cases iv with
  | nil => exact q.elim
  | cons iv ir =>
    refine ⟨_, _, rfl, h1.sim I H σ τ _ _ _ _ ok rp iv q fun σ1 τ1 q1 rp1 o1 w1 => ?_⟩
    refine h2.sim I H σ1 τ1 _ _ _ _ ok rp1 ir q1 fun σ2 τ2 q2 rp2 o2 w2 => ?_
    exact hq σ2 τ2 q2 rp2 (fun p o => o1 p (o2 p o)) fun vs h => (w2 vs fun i hi => h i (List.mem_append_right _ hi)).trans (w1 vs fun i hi => h i (List.mem_append_left _ hi))⟩
def gdTup (n : Nat) (u : TDGs) : TDG := fun d τ Q => match d with
  | .tup ds => ds.length = n ∧ u ds τ Q
  | _ => False
@[simp] theorem gdTup_tup {n : Nat} {u : TDGs} {ds : List D} {τ : Tau} {Q : Tau → Prop} : gdTup n u (.tup ds) τ Q = (ds.length = n ∧ u ds τ Q) := rfl
theorem dg_tup {es : List Expr} {k : Nat} {gs : TGs} {u : TDGs} {idx : List Nat} (hc : X.calm = true) (h : DGs X K W es gs u idx) (hn : (assignEach es X.env).length = es.length := by rfl) (hst : (assignEach es X.env).findIdx? (·.1) = none := by rfl) :
    DG X K W (.Tuple es k pos) (gTup K es.length gs) (gdTup es.length u) idx := by
  have hk := h.k; subst hk
  exact ⟨rfl, pg_tup hc h.pg hn hst, fun I H σ τ v d Q G ok rp iv q hq => by
  unfold gdTup at q
  split at q
  · obtain ⟨p, xs, rfl, sq, al⟩ := is_tup iv
    exact ⟨p, xs, rfl, Same.seqT (W.ex ok) sq, by rw [al.length]; exact q.1, h.sim I H σ τ _ _ _ _ ok rp al q.2 hq⟩
  · exact q.elim⟩
/-- the iterator J yields the data ds, one by one, whatever comes meanwhile -/
def Walks (K : PySem.W.Frag) (W : Wd) (J : It) (I : Hp) (ds : List D) : Prop := ∀ (i : Nat) (I2 H2 : Hp), Same I I2 → W.ok I2 H2 →
  (i < ds.length → J.go i H2 ∧ ∀ x H3, J.yld i H2 x H3 → ∃ I3 d, ds[i]? = some d ∧ Later W I2 H2 I3 H3 ∧ Is K I3 x d) ∧ (ds.length ≤ i → J.stop i H2)
abbrev TDI := Tau → (List D → Prop) → (Exc → Prop) → Prop
def SimI (K : PySem.W.Frag) (W : Wd) (Wx : WX) (t : TI) (u : TDI) : Prop := ∀ (I H : Hp) (σ : St) (τ : Tau) (Q : List D → Prop) (R : Exc → Prop) (G : It → Hp → Prop), W.ok I H → Rep K W I H σ τ → u τ Q R →
  (∀ J ds I' H', Q ds → Walks K W J I' ds → Later W I H I' H' → G J H') → XOk K W Wx R I H σ → t σ H G
structure DI (X : Cx) (K : PySem.W.Frag) (W : Wd) (Wx : WX) (tg e : Expr) (t : TI) (u : TDI) : Prop where
  k : X.K = K
  pi : PI X tg e t
  sim : SimI K W Wx t u
theorem Walks.lst {I : Hp} {a : Addr} {xs : List V} {ds : List D} (sq : SqL K I a xs) (al : IsAll K I xs ds) (uq : ∀ (I2 H2 : Hp), Same I I2 → W.ok I2 H2 → ∀ ys, SqL K H2 a ys → ys = xs) : Walks K W (Itl K a) I ds := fun i I2 H2 e ok => by
  have s2 : SqL K H2 a xs := (W.ex ok).seq (e.seq sq)
  refine ⟨fun hi => ⟨⟨xs, xs[i]'(by rw [al.length]; exact hi), s2, List.getElem?_eq_getElem _⟩, fun x H3 y => ?_⟩, fun hi => ⟨xs, s2, by rw [al.length]; exact hi⟩⟩
  obtain ⟨rfl, y⟩ := y
  obtain ⟨d, hd, iv⟩ := al.getV (y xs s2)
  exact ⟨I2, d, hd, Later.refl ok, iv.mono e⟩
theorem Walks.lst' {I : Hp} {a : Addr} {xs : List V} {ds : List D} (sq : SqL K I a xs) (al : IsAll K I xs ds) : Walks K W (Itl K a) I ds := fun i I2 H2 e ok => by
  have s2 : SqL K H2 a xs := (W.ex ok).seq (e.seq sq)
  refine ⟨fun hi => ⟨⟨xs, xs[i]'(by rw [al.length]; exact hi), s2, List.getElem?_eq_getElem _⟩, fun x H3 y => ?_⟩, fun hi => ⟨xs, s2, by rw [al.length]; exact hi⟩⟩
  obtain ⟨rfl, y⟩ := y
  obtain ⟨d, hd, iv⟩ := al.getV (y xs s2)
  exact ⟨I2, d, hd, Later.refl ok, iv.mono e⟩
theorem Walks.tup {I : Hp} {a : Addr} {xs : List V} {ds : List D} (sq : SqT K I a xs) (al : IsAll K I xs ds) : Walks K W (Itt K a) I ds := fun i I2 H2 e ok => by
  have s2 : SqT K H2 a xs := Same.seqT (W.ex ok) (Same.seqT e sq)
  refine ⟨fun hi => ⟨⟨xs, xs[i]'(by rw [al.length]; exact hi), s2, List.getElem?_eq_getElem _⟩, fun x H3 y => ?_⟩, fun hi => ⟨xs, s2, by rw [al.length]; exact hi⟩⟩
  obtain ⟨rfl, y⟩ := y
  obtain ⟨d, hd, iv⟩ := al.getV (y xs s2)
  exact ⟨I2, d, hd, Later.refl ok, iv.mono e⟩
/-- a text's signs, each a text -/
def signs (z : Str) : List D := z.cps.toList.map fun c => D.str ⟨#[c]⟩
theorem Walks.str {I : Hp} {z : Str} : Walks K W (Its z) I (signs z) := fun i I2 H2 e ok => by
  have hl : (signs z).length = z.cps.size := by unfold signs; rw [List.length_map, Array.length_toList]
  refine ⟨fun hi => ⟨by rw [hl] at hi; exact hi, fun x H3 y => ?_⟩, fun hi => by rw [hl] at hi; exact hi⟩
  obtain ⟨rfl, c, hc, rfl⟩ := y
  refine ⟨I2, D.str ⟨#[c]⟩, ?_, Later.refl ok, .v _⟩
  unfold signs
  rw [List.getElem?_map, Array.getElem?_toList, hc]
  rfl
def numsD (lo : Int) (n : Nat) : List D := (List.range n).map fun i => D.int (lo + (i : Nat))
theorem Walks.rng {I : Hp} {lo : Int} {n : Nat} : Walks K W (Itr lo n) I (numsD lo n) := fun i I2 H2 e ok => by
  have hl : (numsD lo n).length = n := by unfold numsD; rw [List.length_map, List.length_range]
  refine ⟨fun hi => ⟨by rw [hl] at hi; exact hi, fun x H3 y => ?_⟩, fun hi => by rw [hl] at hi; exact hi⟩
  obtain ⟨rfl, rfl⟩ := y
  refine ⟨I2, D.int (lo + (i : Nat)), ?_, Later.refl ok, .v _⟩
  unfold numsD
  rw [List.getElem?_map, List.getElem?_range (by rw [hl] at hi; exact hi)]
  rfl
/-- over a list, a tuple, a text -/
def items (d : D) (Q : List D → Prop) : Prop := match d with
  | .lst ds => Q ds
  | .tup ds => Q ds
  | .v (.str z) => Q (signs z)
  | _ => False
@[simp] theorem items_lst {ds : List D} {Q : List D → Prop} : items (.lst ds) Q = Q ds := rfl
@[simp] theorem items_tup {ds : List D} {Q : List D → Prop} : items (.tup ds) Q = Q ds := rfl
@[simp] theorem items_str {z : Str} {Q : List D → Prop} : items (.v (.str z)) Q = Q (signs z) := rfl
@[simp] def idAny (t : TDE) : TDI := fun τ Q R => t τ (fun d => items d Q) R
def iAny (K : PySem.W.Frag) (te : TE) : TI := fun σ H R => te σ H fun x H1 => (∃ a, x = .ref a ∧ (∃ xs, SqL K H1 a xs) ∧ R (Itl K a) H1) ∨ (∃ a, x = .ref a ∧ (∃ xs, SqT K H1 a xs) ∧ R (Itt K a) H1) ∨ ∃ z, x = .str z ∧ R (Its z) H1
/-- an iterator just laid -/
theorem laid_it {pins : List (Addr × Obj)} {σ : St} {H1 : Hp} {s1 : Shared} {tg : Expr} {J : It} {G : It → Hp → Prop} {tn : Nat → Heap → Prop} (o : Obj) (I1 : Inv X pins σ H1 s1) (T : Turn X.prog X.w X.K tg J [s1.heap.objs.size] s1.heap.objs.size tn)
    (h0 : tn 0 (s1.heap.push o)) (q : G J H1) : PIE X pins σ tg G (.ref s1.heap.objs.size) { s1 with heap := s1.heap.push o } := by
  have I2 : Inv X pins σ H1 { s1 with heap := s1.heap.push o, toks := s1.toks } := I1.kept fun b o e => Heap.get?_push_of_some _ e
  exact ⟨_, _, tn, J, H1, rfl, I2, T, h0, fun b hb => by
    cases List.mem_singleton.mp hb
    exact I1.fpOk (Nat.le_refl _) (I1.hok.fresh (Nat.le_refl _)), q⟩
theorem pi_any {tg : Expr} (he : PE X e te) : PI X tg e (iAny X.K te) := by
  refine ⟨fun pins s σ H R I h => thn (he.run pins s σ H _ I h) ?_⟩
  rintro v s1 ⟨x, H1, I1, r1, (⟨a, rfl, ⟨xs, hq⟩, q⟩ | ⟨a, rfl, ⟨xs, hq⟩, q⟩ | ⟨z, rfl, q⟩)⟩
  · cases r1
    obtain ⟨its, _, p, _⟩ := I1.list hq
    exact wpAny_pyIter_list p.isList (laid_it _ I1 (turn_list a _) ⟨_, Heap.get?_push_size _ rfl, rfl, rfl⟩ q)
  · cases r1
    obtain ⟨its, _, p, _⟩ := I1.tuple hq
    exact wpAny_pyIter_tuple p (laid_it _ I1 (turn_tuple a _) ⟨_, Heap.get?_push_size _ rfl, rfl, rfl⟩ q)
  · obtain ⟨t, rfl⟩ := r1
    cases hc : z.cps.all (· < 128)
    · exact wpAny_pyIter_wide hc (laid_it _ I1 (turn_str _ z t "str_iterator" (.inr rfl)) ⟨_, Heap.get?_push_size _ rfl, rfl, rfl⟩ q)
    · exact wpAny_pyIter_ascii hc (laid_it _ I1 (turn_str _ z t "str_ascii_iterator" (.inl rfl)) ⟨_, Heap.get?_push_size _ rfl, rfl, rfl⟩ q)
theorem SimI.any (h : SimE K W Wx te de) : SimI K W Wx (iAny K te) (idAny de) := fun I H σ τ Q R G ok rp t hq hx =>
  h I H σ τ _ R _ ok rp t (fun v d I1 H1 q1 i1 l1 => by
    unfold items at q1
    split at q1
    · obtain ⟨a, xs, rfl, sq, al⟩ := is_lst i1
      exact .inl ⟨a, rfl, ⟨xs, (W.ex l1.ok).seq sq⟩, hq _ _ I1 H1 q1 (Walks.lst' sq al) l1⟩
    · obtain ⟨a, xs, rfl, sq, al⟩ := is_tup i1
      exact .inr (.inl ⟨a, rfl, ⟨xs, Same.seqT (W.ex l1.ok) sq⟩, hq _ _ I1 H1 q1 (Walks.tup sq al) l1⟩)
    · cases i1
      exact .inr (.inr ⟨_, rfl, hq _ _ I1 H1 q1 Walks.str l1⟩)
    · exact q1.elim) hx
theorem di_any {tg : Expr} (h : DE X K W Wx e te de) : DI X K W Wx tg e (iAny K te) (idAny de) := by
  have hk := h.k; subst hk
  exact ⟨rfl, pi_any h.pe, .any h.sim⟩
/-- range(n), range(a, b) -/
def rng1 (ds : List D) (Q : List D → Prop) : Prop := match ds with
  | [.v (.int j)] => j < 2 ^ 62 ∧ -(2 ^ 62) ≤ j ∧ Q (numsD 0 j.toNat)
  | _ => False
def rng2 (ds : List D) (Q : List D → Prop) : Prop := match ds with
  | [.v (.int i), .v (.int j)] => (-(2 ^ 62) ≤ i ∧ i < 2 ^ 62 ∧ -(2 ^ 62) ≤ j ∧ j < 2 ^ 62) ∧ Q (numsD i (j - i).toNat)
  | _ => False
@[simp] theorem rng1_int {j : Int} {Q : List D → Prop} : rng1 [.v (.int j)] Q = (j < 2 ^ 62 ∧ -(2 ^ 62) ≤ j ∧ Q (numsD 0 j.toNat)) := rfl
@[simp] theorem rng2_int {i j : Int} {Q : List D → Prop} : rng2 [.v (.int i), .v (.int j)] Q = ((-(2 ^ 62) ≤ i ∧ i < 2 ^ 62 ∧ -(2 ^ 62) ≤ j ∧ j < 2 ^ 62) ∧ Q (numsD i (j - i).toNat)) := rfl
@[simp] def idR1 (u : TDA) : TDI := fun τ Q R => u τ (fun ds => rng1 ds Q) R
@[simp] def idR2 (u : TDA) : TDI := fun τ Q R => u τ (fun ds => rng2 ds Q) R
variable {tr : TA} {dr : TDA} {p : Pos} {tg : Expr}
theorem isAll1 {I : Hp} {vs : List V} {d : D} (h : IsAll K I vs [d]) : ∃ v, vs = [v] ∧ Is K I v d := by
  cases h with
  | cons h r => cases r; exact ⟨_, rfl, h⟩
theorem isAll2 {I : Hp} {vs : List V} {d d' : D} (h : IsAll K I vs [d, d']) : ∃ v v', vs = [v, v'] ∧ Is K I v d ∧ Is K I v' d' := by
  cases h with
  | cons h r =>
    obtain ⟨v', rfl, h'⟩ := isAll1 r
    exact ⟨_, _, rfl, h, h'⟩
theorem di_range1 (hg : Gl X "range") (hm : X.mg "range" = none) (ha : DA X K W Wx [a] tr dr) (hs : starEach [a] X.env = [(false, eval a X.env)] := by rfl) : DI X K W Wx tg (.Call (.Name "range" p) [a] [] pos) (iRng1 tr) (idR1 dr) := by
  have hk := ha.k; subst hk
  exact ⟨rfl, pi_range1 hg hm ha.pa hs, fun I H σ τ Q R G ok rp t hq hx => ha.sim I H σ τ _ R _ ok rp t (fun vs ds I1 H1 q1 i1 l1 => by
    unfold rng1 at q1
    split at q1
    · obtain ⟨v, rfl, h⟩ := isAll1 i1
      cases h
      exact ⟨_, rfl, q1.2.1, q1.1, hq _ _ I1 H1 q1.2.2 Walks.rng l1⟩
    · exact q1.elim) hx⟩
@[simp] def wipeT (τ : Tau) : List Nat → Tau
  | [] => τ
  | v :: vs => (wipeT τ vs).set v none
/-- the items of a comprehension -/
def compD (g : TDG) (tt : TDT) (te : TDE) (vs : List Nat) (τ : Tau) : List D → (List D → Prop) → Prop
  | [], Q => Q []
  | d :: ds, Q => g d (wipeT τ vs) fun τ2 => tt τ2 (fun b => if b = true then te τ2 (fun y => compD g tt te vs τ ds fun ys => Q (y :: ys)) (fun _ => False) else compD g tt te vs τ ds Q) (fun _ => False)
theorem Rep.wipe {I H : Hp} {σ : St} {τ : Tau} (r : Rep K W I H σ τ) : ∀ vs : List Nat, Rep K W I H (wipe σ vs) (wipeT τ vs)
  | [] => r
  | v :: vs => by
    have h := Rep.wipe r vs
    unfold L2.wipe wipeT
    have ne : ∀ {m : Nat} {s : SD}, ((wipeT τ vs).set v none)[m]? = some (some s) → v ≠ m := fun {m s} q z => by
      subst z
      by_cases hv : v < (wipeT τ vs).length
      · rw [List.getElem?_set_self hv] at q; cases q
      · rw [List.getElem?_eq_none (by simpa using hv)] at q; cases q
    refine ⟨by simpa using h.len, fun j s e => ?_, fun j k s t v w a e1 e2 e3 e4 => ?_⟩
    · have n1 := ne e
      rw [List.getElem?_set_ne n1] at e ⊢
      exact h.at_ j s e
    · have n1 := ne e1
      have n2 := ne e2
      rw [List.getElem?_set_ne n1] at e1 e3
      rw [List.getElem?_set_ne n2] at e2 e4
      exact h.inj j k s t v w a e1 e2 e3 e4
theorem wipe_in {σ : St} {i : Nat} : ∀ {vs : List Nat}, i ∈ vs → i < σ.length → (L2.wipe σ vs)[i]? = some none
  | [], h, _ => by cases h
  | v :: vs, h, hl => by
    unfold L2.wipe
    by_cases e : v = i
    · subst e
      exact List.getElem?_set_self (by rw [wipe_length]; exact hl)
    · rw [List.getElem?_set_ne e]
      exact wipe_in ((List.mem_cons.mp h).resolve_left fun z => e z.symm) hl
theorem wipe_wipe (σ : St) (vs : List Nat) : L2.wipe (L2.wipe σ vs) vs = L2.wipe σ vs := by
  refine List.ext_getElem? fun i => ?_
  by_cases hl : i < σ.length
  · by_cases hi : i ∈ vs
    · rw [wipe_in hi (by rw [wipe_length]; exact hl), wipe_in hi hl]
    · rw [wipe_out hi]
  · rw [List.getElem?_eq_none (by rw [wipe_length, wipe_length]; omega), List.getElem?_eq_none (by rw [wipe_length]; omega)]
/-- a comprehension's tests -/
structure DTs (X : Cx) (K : PySem.W.Frag) (W : Wd) (ifs : List Expr) (tt : TT) (t : TDT) : Prop where
  k : X.K = K
  pt : PTs X ifs tt
  sim : SimT K W (fun _ _ _ _ => False) tt t
@[simp] def tdYes : TDT := fun _ Q _ => Q true
theorem dts_nil (hk : X.K = K := by rfl) : DTs X K W [] tYes tdYes := by
  subst hk
  exact ⟨rfl, pts_nil, fun I H σ τ Q R G ok rp q hq _ => hq true I H q (Later.refl ok)⟩
theorem dts_one {c : Expr} {tt : TT} {t : TDT} (h : DT X K W (fun _ _ _ _ => False) c tt t) : DTs X K W [c] tt t := by
  have hk := h.k; subst hk
  exact ⟨rfl, pts_one h.pt, h.sim⟩
@[simp] def tdLc (ti : TDI) (g : TDG) (tt : TDT) (te : TDE) (vs : List Nat) : TDO := fun τ Q R => ti τ (fun ds => ds.length ≤ sizeLine ∧ compD g tt te vs τ ds Q) R
theorem xok_false {I H : Hp} {σ : St} : XOk K W (fun _ _ _ _ => False) (fun _ => False) I H σ := fun _ _ _ _ _ z _ _ => z
theorem SimO.lc {wi : TI} {ti : TDI} {g : TG} {gd : TDG} {idx : List Nat} {tt : TT} {td : TDT} {te : TE} {de : TDE} {vs : List Nat} (hi : SimI K W Wx wi ti) (hg : SimG K W g gd idx) (ht : SimT K W (fun _ _ _ _ => False) tt td) (he : SimE K W (fun _ _ _ _ => False) te de)
    (hv : ∀ i ∈ idx, i ∈ vs) : SimO K W Wx (tLc wi g tt te vs) (tdLc ti gd td de vs) := fun I H σ τ Q R G ok rp t hq hx =>
  hi I H σ τ _ R _ ok rp t (fun J ds I1 H1 q1 wk l1 LL hD => by
    have hD0 : H LL = none := Later.back l1 hD
    have fD : W.free LL := W.fr l1.ok hD
    refine ⟨fun i m H2 => ∃ (I2 : Hp) (acc : List V) (ys : List D), m = ds.length - i ∧ i ≤ ds.length ∧ Later W I H I2 H2 ∧ Same I1 I2 ∧ H2 LL = some (.lst acc) ∧ I2 LL = none ∧ IsAll K I2 acc ys ∧ ys.length ≤ i ∧
      compD gd td de vs τ (ds.drop i) (fun zs => Q (ys ++ zs)), ⟨ds.length, I1, [], [], by simp, Nat.zero_le _, l1.trans (Later.allocO l1.ok hD), Same.refl _, upd_same, Same.non (W.ex l1.ok) hD, .nil, Nat.le_refl _, q1.2⟩, ?_⟩
    rintro i m H2 ⟨I2, acc, ys, rfl, hil, l2, e2, hacc, hI, al, hy, c⟩
    obtain ⟨w1, w2⟩ := wk i I2 H2 e2 l2.ok
    by_cases hlt : i < ds.length
    · obtain ⟨go, yl⟩ := w1 hlt
      refine .inr ⟨go, fun H3 => ∃ (I3 : Hp) (acc : List V) (ys : List D), Later W I H I3 H3 ∧ Same I1 I3 ∧ H3 LL = some (.lst acc) ∧ I3 LL = none ∧ IsAll K I3 acc ys ∧ ys.length ≤ i + 1 ∧ compD gd td de vs τ (ds.drop (i + 1)) (fun zs => Q (ys ++ zs)), ?_, ?_⟩
      · rintro H3 ⟨I3, acc, ys, h1, h2, h3, h4, h5, h6, h7⟩
        exact ⟨ds.length - (i + 1), by omega, I3, acc, ys, rfl, hlt, h1, h2, h3, h4, h5, h6, h7⟩
      · intro x H3 y
        obtain ⟨I3, d, hd, l3, ix⟩ := yl x H3 y
        have hdrop : ds.drop i = d :: ds.drop (i + 1) := by
          obtain ⟨h1, h2⟩ := List.getElem?_eq_some_iff.mp hd
          rw [← h2]; exact List.drop_eq_getElem_cons h1
        rw [hdrop] at c
        have lH3 := l2.trans l3
        have keepD : ∀ {I4 H4 : Hp}, Later W I2 H2 I4 H4 → H4 LL = some (.lst acc) ∧ I4 LL = none := fun {I4 H4} l => ⟨l.fr LL _ fD (fun z => z) hacc, by
          cases q : I4 LL with
          | none => rfl
          | some o =>
            rcases l.nw LL hI (by rw [q]; intro z; cases z) with z | z
            · rw [hacc] at z; cases z
            · exact z.elim⟩
        refine hg I3 H3 (wipe σ vs) (wipeT τ vs) x d _ _ l3.ok ((rp.later lH3).wipe vs) ix c fun σ2 τ2 q2 rp2 _ wz => ⟨(wz vs hv).trans (wipe_wipe σ vs), ?_⟩
        refine ht I3 H3 σ2 τ2 _ _ _ l3.ok rp2 q2 (fun b I4 H4 q4 l4 => ?_) xok_false
        cases b with
        | true =>
          rw [if_pos rfl] at q4 ⊢
          refine he I4 H4 σ2 τ2 _ _ _ l4.ok (rp2.later l4) q4 (fun v dy I5 H5 q5 i5 l5 => ?_) xok_false
          have l25 := (l3.trans l4).trans l5
          obtain ⟨k1, k2⟩ := keepD l25
          have hlen : acc.length < sizeLine := by
            have := al.length
            have := q1.1
            omega
          refine ⟨acc, k1, hlen, I5, acc ++ [v], ys ++ [dy], ?_, (e2.trans l25.ex), upd_same, k2, (al.mono l25.ex).append (.cons i5 .nil), by simp; omega, by simpa [List.append_assoc] using q5⟩
          have l5' := l2.trans l25
          exact ⟨l5'.ex, W.mu l5'.ok k2 fD, fun a o f n e => by
            have : a ≠ LL := fun z => by rw [z, hD0] at e; cases e
            rw [upd_ne this]; exact l5'.fr a o f n e, l5'.nw, l5'.ow⟩
        | false =>
          rw [if_neg Bool.false_ne_true] at q4 ⊢
          have l24 := l3.trans l4
          obtain ⟨k1, k2⟩ := keepD l24
          exact ⟨I4, acc, ys, l2.trans l24, e2.trans l24.ex, k1, k2, al.mono l24.ex, by omega, q4⟩
    · have e : i = ds.length := by omega
      subst e
      refine .inl ⟨w2 (Nat.le_refl _), ?_⟩
      rw [List.drop_length] at c
      exact hq LL acc ys I2 H2 (by simpa [compD] using c) hD0 hacc hI al l2) hx
theorem do_lc {elt tg iter : Expr} {ifs : List Expr} {scope : Scope} {own : List (Str × Nat)} {pos : Pos} {wi : TI} {ti : TDI} {g : TG} {gd : TDG} {idx : List Nat} {tt : TT} {td : TDT} {te : TE} {de : TDE} (hc : X.calm = true) (hN : X.N.Nodup) (hi : DI X K W Wx tg iter wi ti) (ok : BlkOk X.N X.env.scope scope own)
    (hg : ∀ (s : Shared) (H : Hp) (C : Addr) (cl : List (Str × Addr)) (fp : List Addr), DG (X.blk s H scope (compEnvC scope cl C X.env) fp) K W tg g gd idx) (ht : ∀ (s : Shared) (H : Hp) (C : Addr) (cl : List (Str × Addr)) (fp : List Addr), DTs (X.blk s H scope (compEnvC scope cl C X.env) fp) K W ifs tt td)
    (he : ∀ (s : Shared) (H : Hp) (C : Addr) (cl : List (Str × Addr)) (fp : List Addr), DE (X.blk s H scope (compEnvC scope cl C X.env) fp) K W (fun _ _ _ _ => False) elt te de) (hv : ∀ i ∈ idx, i ∈ own.map (·.2) := by decide) (hs : ∀ x, foldedSetIterable iter X.env x = pure x := by intro _; rfl) :
    DO X K W Wx (.ListComp elt [⟨tg, iter, ifs, 0⟩] scope pos) (tLc wi g tt te (own.map (·.2))) (tdLc ti gd td de (own.map (·.2))) := by
  have hk := hi.k; subst hk
  exact ⟨rfl, pe_lc hc hN hi.pi ok (fun s H C cl fp => (hg s H C cl fp).pg) (fun s H C cl fp => (ht s H C cl fp).pt) (fun s H C cl fp => (he s H C cl fp).pe) hs,
    .lc hi.sim (hg { heap := { objs := #[] } } (fun _ => none) 0 [] []).sim (ht { heap := { objs := #[] } } (fun _ => none) 0 [] []).sim (he { heap := { objs := #[] } } (fun _ => none) 0 [] []).sim hv⟩
end
end D3
set_option Elab.async false
set_option linter.all false
set_option maxRecDepth 100000
set_option maxHeartbeats 2000000
namespace D3
open PySem L2
section
variable {K : PySem.W.Frag} {W : Wd} {Wx : WX} {X : Cx} {a b e : Expr} {es : List Expr} {ta tb te : TE} {da db de : TDE} {tr : TA} {dr : TDA} {pos p : Pos} {x : Str}
abbrev FD := List D → (D → Prop) → Prop
def CallSim (K : PySem.W.Frag) (W : Wd) (r : List V → Hp → VK → Prop) (f : FD) : Prop := ∀ (I H : Hp) (vs : List V) (ds : List D) (Q : D → Prop) (G : VK), W.ok I H → IsAll K I vs ds → f ds Q →
  (∀ v d I' H', Q d → Is K I' v d → Later W I H I' H' → G v H') → r vs H G
def CallSimO (K : PySem.W.Frag) (W : Wd) (r : List V → Hp → VK → Prop) (f : List D → (List D → Prop) → Prop) : Prop := ∀ (I H : Hp) (vs : List V) (ds : List D) (Q : List D → Prop) (G : VK), W.ok I H → IsAll K I vs ds → f ds Q →
  (∀ p ws es I' H', Q es → H p = none → H' p = some (.lst ws) → I' p = none → IsAll K I' ws es → Later W I H I' H' → G (.ref p) H') → r vs H G
@[simp] def tdCB (f : FD) (u : TDA) : TDE := fun τ Q R => u τ (fun ds => f ds Q) R
@[simp] def tdCBO (f : List D → (List D → Prop) → Prop) (u : TDA) : TDO := fun τ Q R => u τ (fun ds => f ds Q) R
theorem SimE.cb {r : List V → Hp → VK → Prop} {f : FD} (hr : CallSim K W r f) (h : SimA K W Wx tr dr) : SimE K W Wx (tCB r tr) (tdCB f dr) := fun I H σ τ Q R G ok rp t hq hx =>
  h I H σ τ _ R _ ok rp t (fun vs ds I1 H1 q1 i1 l1 => hr I1 H1 vs ds Q G l1.ok i1 q1 fun v d I2 H2 q2 i2 l2 => hq v d I2 H2 q2 i2 (l1.trans l2)) hx
theorem SimO.cb {r : List V → Hp → VK → Prop} {f : List D → (List D → Prop) → Prop} (hr : CallSimO K W r f) (h : SimA K W Wx tr dr) : SimO K W Wx (tCB r tr) (tdCBO f dr) := fun I H σ τ Q R G ok rp t hq hx =>
  h I H σ τ _ R _ ok rp t (fun vs ds I1 H1 q1 i1 l1 => hr I1 H1 vs ds Q G l1.ok i1 q1 fun p ws es I2 H2 q2 n2 h2 f2 i2 l2 => hq p ws es I2 H2 q2 (Later.back' l1 n2) h2 f2 i2 (l1.trans l2)) hx
theorem de_cb {r : List V → Hp → VK → Prop} {f : FD} {id : String} (hc : CallR X (.builtin id) r) (hr : CallSim K W r f) (hg : Gl X x) (hm : X.mg x = none) (hv : bootBuiltins x = some (.builtin id)) (ha : DA X K W Wx (e :: es) tr dr) (hn : x ≠ "__name__" := by decide) (hdb : (x == ("__debug__" : Str)) = false := by decide)
    (he : starEach (e :: es) X.env = (false, eval e X.env) :: starEach es X.env := by rfl) (hpl : (backTo pos (starEach es X.env)).any (·.1) = false := by rfl) : DE X K W Wx (.Call (.Name x p) (e :: es) [] pos) (tCB r tr) (tdCB f dr) := by
  have hk := ha.k; subst hk
  exact ⟨rfl, pe_callB hc hg hm hv ha.pa hn hdb he hpl, .cb hr ha.sim⟩
theorem de_cty {r : List V → Hp → VK → Prop} {f : FD} {T : String} (hc : CallR X (.type T) r) (hr : CallSim K W r f) (hg : Gl X x) (hm : X.mg x = none) (hv : bootBuiltins x = some (.type T)) (ha : DA X K W Wx (e :: es) tr dr) (hn : x ≠ "__name__" := by decide) (hdb : (x == ("__debug__" : Str)) = false := by decide)
    (he : starEach (e :: es) X.env = (false, eval e X.env) :: starEach es X.env := by rfl) (hpl : (backTo pos (starEach es X.env)).any (·.1) = false := by rfl) : DE X K W Wx (.Call (.Name x p) (e :: es) [] pos) (tCB r tr) (tdCB f dr) := by
  have hk := ha.k; subst hk
  exact ⟨rfl, pe_callTy hc hg hm hv ha.pa hn hdb he hpl, .cb hr ha.sim⟩
theorem do_cty {r : List V → Hp → VK → Prop} {f : List D → (List D → Prop) → Prop} {T : String} (hc : CallR X (.type T) r) (hr : CallSimO K W r f) (hg : Gl X x) (hm : X.mg x = none) (hv : bootBuiltins x = some (.type T)) (ha : DA X K W Wx (e :: es) tr dr) (hn : x ≠ "__name__" := by decide) (hdb : (x == ("__debug__" : Str)) = false := by decide)
    (he : starEach (e :: es) X.env = (false, eval e X.env) :: starEach es X.env := by rfl) (hpl : (backTo pos (starEach es X.env)).any (·.1) = false := by rfl) : DO X K W Wx (.Call (.Name x p) (e :: es) [] pos) (tCB r tr) (tdCBO f dr) := by
  have hk := ha.k; subst hk
  exact ⟨rfl, pe_callTy hc hg hm hv ha.pa hn hdb he hpl, .cb hr ha.sim⟩
/-- len -/
def fLen : FD := fun ds Q => match ds with
  | [.lst xs] => Q (.int xs.length)
  | [.tup xs] => Q (.int xs.length)
  | [.v (.str z)] => z.length ≤ sizeLine ∧ Q (.int z.length)
  | _ => False
@[simp] theorem fLen_lst {xs : List D} {Q : D → Prop} : fLen [.lst xs] Q = Q (.int xs.length) := rfl
@[simp] theorem fLen_tup {xs : List D} {Q : D → Prop} : fLen [.tup xs] Q = Q (.int xs.length) := rfl
@[simp] theorem fLen_str {z : Str} {Q : D → Prop} : fLen [.v (.str z)] Q = (z.length ≤ sizeLine ∧ Q (.int z.length)) := rfl
theorem CallSim.len : CallSim K W (fun xs H Q => ∃ x n, xs = [x] ∧ LenV K x H n ∧ Q (.int n) H) fLen := fun I H vs ds Q G ok al q hq => by
  unfold fLen at q
  split at q
  · obtain ⟨v, rfl, h⟩ := isAll1 al
    obtain ⟨p, ys, rfl, sq, al2⟩ := is_lst h
    exact ⟨_, _, rfl, .inl ⟨ys, (W.ex ok).seq sq, al2.length.symm⟩, hq _ _ I H q (.v _) (Later.refl ok)⟩
  · obtain ⟨v, rfl, h⟩ := isAll1 al
    obtain ⟨p, ys, rfl, sq, al2⟩ := is_tup h
    exact ⟨_, _, rfl, .inr ⟨ys, Same.seqT (W.ex ok) sq, al2.length.symm⟩, hq _ _ I H q (.v _) (Later.refl ok)⟩
  · obtain ⟨v, rfl, h⟩ := isAll1 al
    cases h
    exact ⟨_, _, rfl, ⟨q.1, rfl⟩, hq _ _ I H q.2 (.v _) (Later.refl ok)⟩
  · exact q.elim
theorem de_len (hm : X.mg "len" = none) (ha : DA X K W Wx [a] tr dr) (hg : Gl X "len" := by rfl) (he : starEach [a] X.env = (false, eval a X.env) :: starEach [] X.env := by rfl) : DE X K W Wx (.Call (.Name "len" p) [a] [] pos) (tCB (fun xs H Q => ∃ x n, xs = [x] ∧ LenV K x H n ∧ Q (.int n) H) tr) (tdCB fLen dr) := by
  have hk := ha.k; subst hk
  exact de_cb call_len .len hg hm PySem.boot_len ha (by decide) (by decide) he rfl
/-- all, any of a list of bools -/
def fAll : FD := fun ds Q => match ds with
  | [.lst xs] => ∃ bs : List Bool, xs = bs.map D.bl ∧ Q (.bl (bs.all id))
  | _ => False
def fAny : FD := fun ds Q => match ds with
  | [.lst xs] => ∃ bs : List Bool, xs = bs.map D.bl ∧ Q (.bl (bs.any id))
  | _ => False
@[simp] theorem fAll_lst {xs : List D} {Q : D → Prop} : fAll [.lst xs] Q = ∃ bs : List Bool, xs = bs.map D.bl ∧ Q (.bl (bs.all id)) := rfl
@[simp] theorem fAny_lst {xs : List D} {Q : D → Prop} : fAny [.lst xs] Q = ∃ bs : List Bool, xs = bs.map D.bl ∧ Q (.bl (bs.any id)) := rfl
theorem isAll_bl {I : Hp} : ∀ {bs : List Bool} {vs : List V}, IsAll K I vs (bs.map D.bl) → vs = bs.map V.bl
  | [], _, h => by cases h; rfl
  | b :: bs, _, h => by
    cases h with
    | cons h r =>
      cases h
      rw [isAll_bl r]
      rfl
theorem isAll_str {I : Hp} : ∀ {bs : List Str} {vs : List V}, IsAll K I vs (bs.map D.str) → vs = bs.map V.str
  | [], _, h => by cases h; rfl
  | b :: bs, _, h => by
    cases h with
    | cons h r =>
      cases h
      rw [isAll_str r]
      rfl
theorem isAll_int {I : Hp} : ∀ {bs : List Int} {vs : List V}, IsAll K I vs (bs.map D.int) → vs = bs.map V.int
  | [], _, h => by cases h; rfl
  | b :: bs, _, h => by
    cases h with
    | cons h r =>
      cases h
      rw [isAll_int r]
      rfl
theorem CallSim.all : CallSim K W (rAll K) fAll := fun I H vs ds Q G ok al q hq => by
  unfold fAll at q
  split at q
  · obtain ⟨v, rfl, h⟩ := isAll1 al
    obtain ⟨p, ys, rfl, sq, al2⟩ := is_lst h
    obtain ⟨bs, rfl, q⟩ := q
    cases isAll_bl al2
    exact ⟨p, bs, rfl, (W.ex ok).seq sq, hq _ _ I H q (.v _) (Later.refl ok)⟩
  · exact q.elim
theorem CallSim.any : CallSim K W (rAny K) fAny := fun I H vs ds Q G ok al q hq => by
  unfold fAny at q
  split at q
  · obtain ⟨v, rfl, h⟩ := isAll1 al
    obtain ⟨p, ys, rfl, sq, al2⟩ := is_lst h
    obtain ⟨bs, rfl, q⟩ := q
    cases isAll_bl al2
    exact ⟨p, bs, rfl, (W.ex ok).seq sq, hq _ _ I H q (.v _) (Later.refl ok)⟩
  · exact q.elim
theorem de_all (hm : X.mg "all" = none) (ha : DA X K W Wx [a] tr dr) (hc : X.calm = true := by rfl) (hg : Gl X "all" := by rfl) (he : starEach [a] X.env = (false, eval a X.env) :: starEach [] X.env := by rfl) : DE X K W Wx (.Call (.Name "all" p) [a] [] pos) (tCB (rAll K) tr) (tdCB fAll dr) := by
  have hk := ha.k; subst hk
  exact de_cb (cr_all hc) .all hg hm (by decide +kernel) ha (by decide) (by decide) he rfl
/-- list(..) of a list or a tuple -/
def fList : List D → (List D → Prop) → Prop := fun ds Q => match ds with
  | [.lst xs] => Q xs
  | [.tup xs] => Q xs
  | _ => False
@[simp] theorem fList_lst {xs : List D} {Q : List D → Prop} : fList [.lst xs] Q = Q xs := rfl
@[simp] theorem fList_tup {xs : List D} {Q : List D → Prop} : fList [.tup xs] Q = Q xs := rfl
theorem CallSimO.list : CallSimO K W (fun xs H Q => ∃ p ys, xs = [.ref p] ∧ (SqL K H p ys ∨ SqT K H p ys) ∧ ∀ l, H l = none → Q (.ref l) (upd H l (.lst ys))) fList := fun I H vs ds Q G ok al q hq => by
  unfold fList at q
  split at q
  · obtain ⟨v, rfl, h⟩ := isAll1 al
    obtain ⟨p, ys, rfl, sq, al2⟩ := is_lst h
    exact ⟨p, ys, rfl, .inl ((W.ex ok).seq sq), fun l hl => hq l _ _ I _ q hl upd_same (Same.non (W.ex ok) hl) al2 (Later.allocO ok hl)⟩
  · obtain ⟨v, rfl, h⟩ := isAll1 al
    obtain ⟨p, ys, rfl, sq, al2⟩ := is_tup h
    exact ⟨p, ys, rfl, .inr (Same.seqT (W.ex ok) sq), fun l hl => hq l _ _ I _ q hl upd_same (Same.non (W.ex ok) hl) al2 (Later.allocO ok hl)⟩
  · exact q.elim
theorem do_list (hm : X.mg "list" = none) (ha : DA X K W Wx [a] tr dr) (hg : Gl X "list" := by rfl) (he : starEach [a] X.env = (false, eval a X.env) :: starEach [] X.env := by rfl) :
    DO X K W Wx (.Call (.Name "list" p) [a] [] pos) (tCB (fun xs H Q => ∃ p ys, xs = [.ref p] ∧ (SqL K H p ys ∨ SqT K H p ys) ∧ ∀ l, H l = none → Q (.ref l) (upd H l (.lst ys))) tr) (tdCBO fList dr) := by
  have hk := ha.k; subst hk
  exact do_cty call_list_of .list hg hm (by decide +kernel) ha (by decide) (by decide) he rfl
/-- tuple(..) -/
def fTuple : FD := fun ds Q => match ds with
  | [.lst xs] => Q (.tup xs)
  | [.tup xs] => Q (.tup xs)
  | _ => False
@[simp] theorem fTuple_lst {xs : List D} {Q : D → Prop} : fTuple [.lst xs] Q = Q (.tup xs) := rfl
@[simp] theorem fTuple_tup {xs : List D} {Q : D → Prop} : fTuple [.tup xs] Q = Q (.tup xs) := rfl
theorem CallSim.tuple : CallSim K W (rTupleN K) fTuple := fun I H vs ds Q G ok al q hq => by
  unfold fTuple at q
  split at q
  · obtain ⟨v, rfl, h⟩ := isAll1 al
    obtain ⟨p, ys, rfl, sq, al2⟩ := is_lst h
    exact ⟨p, ys, rfl, .inl ⟨(W.ex ok).seq sq, fun l o hl hd => hq _ _ (upd I l (.frz o (.tup ys))) _ q (.tup (SqN.of upd_same hd) (al2.mono (Same.new (Same.non (W.ex ok) hl)))) (Later.alloc ok hl)⟩⟩
  · obtain ⟨v, rfl, h⟩ := isAll1 al
    obtain ⟨p, ys, rfl, sq, al2⟩ := is_tup h
    exact ⟨p, ys, rfl, .inr ⟨Same.seqT (W.ex ok) sq, hq _ _ I H q h (Later.refl ok)⟩⟩
  · exact q.elim
/-- isinstance(x, T), T a built-in class -/
def tyD : D → Option String
  | .v .non => some "NoneType"
  | .v (.bl _) => some "bool"
  | .v (.int _) => some "int"
  | .v (.str _) => some "str"
  | .lst _ => some "list"
  | .tup _ => some "tuple"
  | .dic _ => some "dict"
  | .dt _ _ => some "dict"
  | _ => none
@[simp] theorem tyD_dic {gs : List (Key × D)} : tyD (.dic gs) = some "dict" := rfl
@[simp] theorem tyD_dt {g : PGw} {gs : List (List Key × D)} : tyD (.dt g gs) = some "dict" := rfl
@[simp] theorem tyD_non : tyD (.v .non) = some "NoneType" := rfl
@[simp] theorem tyD_bl {b : Bool} : tyD (.v (.bl b)) = some "bool" := rfl
@[simp] theorem tyD_int {i : Int} : tyD (.v (.int i)) = some "int" := rfl
@[simp] theorem tyD_str {s : Str} : tyD (.v (.str s)) = some "str" := rfl
@[simp] theorem tyD_lst {ds : List D} : tyD (.lst ds) = some "list" := rfl
@[simp] theorem tyD_tup {ds : List D} : tyD (.tup ds) = some "tuple" := rfl
def tyL : List String := ["NoneType", "bool", "int", "str", "list", "tuple", "dict"]
def isTy (t n : String) : Bool := t == n || (t == "bool" && n == "int")
theorem kit_tys : ∀ t ∈ tyL, ∀ n ∈ tyL, kitB t n = some (isTy t n) := by decide +kernel
def fIsi : FD := fun ds Q => match ds with
  | [x, .v (.ty n)] => n ∈ tyL ∧ ∃ t, tyD x = some t ∧ Q (.bl (isTy t n))
  | _ => False
@[simp] theorem fIsi_ty {x : D} {n : String} {Q : D → Prop} : fIsi [x, .v (.ty n)] Q = (n ∈ tyL ∧ ∃ t, tyD x = some t ∧ Q (.bl (isTy t n))) := rfl
/-- .. of a dict that is pinned, too -/
def rIsiP (K : PySem.W.Frag) : List V → Hp → VK → Prop := fun xs H Q => rIsi K xs H Q ∨ ∃ (a : Addr) (o : Obj) (c : V) (u : Value) (b : Bool), xs = [.ref a, c] ∧ ClsV c u ∧ H a = some (pinO a o) ∧ o.cls = .type "dict" ∧ PySem.W.kitOne K (.type "dict") u = some b ∧ Q (.bl b) H
theorem call_isiP {X : Cx} : CallR X (.builtin "isinstance") (rIsiP X.K) := by
  intro pins s σ H xs us Q I r h
  rcases h with h | ⟨a, o, c, u, b, rfl, k, e, ec, ek, q⟩
  · exact call_isi pins s σ H xs us Q I r h
  obtain ⟨u1, u2, rfl, r1, r2⟩ := vals2 r
  have e2 := k.eq r2
  subst e2
  cases (show u1 = Value.ref a from r1)
  exact PySem.W.kia_one PySem.W.kitx_dict I.kIn ⟨o, (I.hok a _ e).1, ec⟩ ek (fun z => nomatch z) fun tk => ⟨.bl b, H, I.tok tk, rfl, q⟩
theorem Is.ty {I H : Hp} (e : Same I H) {v : V} {d : D} {t : String} (h : Is K I v d) (ht : tyD d = some t) : (TyX K H v (.type t) ∨ ∃ a o, v = .ref a ∧ H a = some (pinO a o) ∧ o.cls = .type "dict" ∧ t = "dict") ∧ t ∈ tyL := by
  have sL : ∀ {a : Addr} {xs : List V}, SqL K H a xs → TyX K H (.ref a) (.type "list") := fun {a xs} s => by
    rcases s with (s | ⟨o, s⟩) | ⟨o, its, n, k, c, _⟩
    · exact .base (.lst s)
    · exact .base (.frz s)
    · exact .kList k c
  have sT : ∀ {a : Addr} {xs : List V}, SqT K H a xs → TyX K H (.ref a) (.type "tuple") := fun {a xs} s => by
    rcases s with (s | ⟨o, s⟩) | ⟨o, its, n, k, c, _⟩
    · exact .base (.tup s)
    · exact .fTuple s
    · exact .kTuple k c
  cases h with
  | v =>
    cases v with
    | non => cases ht; exact ⟨.inl (.base .non), by decide⟩
    | bl b => cases ht; exact ⟨.inl (.base (.bl b)), by decide⟩
    | int b => cases ht; exact ⟨.inl (.base (.int b)), by decide⟩
    | str b => cases ht; exact ⟨.inl (.base (.str b)), by decide⟩
    | byt b => cases ht
    | flt b => cases ht
    | ref b => cases ht
    | ty b => cases ht
  | dic s _ => cases ht; exact ⟨.inl (.base (.dK (e _ _ s))), by decide⟩
  | lst s _ => cases ht; exact ⟨.inl (sL (SqL.of (e _ _ s))), by decide⟩
  | tup s _ => cases ht; exact ⟨.inl (sT (Same.seqT e s.t)), by decide⟩
  | ins _ _ => cases ht
  | exc0 => cases ht
  | exc1 _ _ => cases ht
  | lent _ => cases ht
  | dt s _ ob _ => cases ht; exact ⟨.inr ⟨_, _, rfl, e _ _ s, ob.ex.1, rfl⟩, by decide⟩
theorem CallSim.isi : CallSim K W (rIsiP K) fIsi := fun I H vs ds Q G ok al q hq => by
  unfold fIsi at q
  split at q
  · obtain ⟨v, v', rfl, h, h'⟩ := isAll2 al
    cases h'
    obtain ⟨hn, t, ht, q⟩ := q
    obtain ⟨ty, hm⟩ := h.ty (W.ex ok) ht
    rcases ty with ty | ⟨a, o, rfl, ea, eo, rfl⟩
    · exact .inl ⟨v, _, _, _, _, rfl, .ty _, ty, kit_ty (kit_tys t hm _ hn), hq _ _ I H q (.v _) (Later.refl ok)⟩
    · exact .inr ⟨a, o, _, _, _, rfl, .ty _, ea, eo, kit_ty (kit_tys _ hm _ hn), hq _ _ I H q (.v _) (Later.refl ok)⟩
  · exact q.elim
theorem de_isi (hm : X.mg "isinstance" = none) (ha : DA X K W Wx [a, b] tr dr) (hg : Gl X "isinstance" := by rfl) (he : starEach [a, b] X.env = (false, eval a X.env) :: starEach [b] X.env := by rfl) (hpl : (backTo pos (starEach [b] X.env)).any (·.1) = false := by rfl) :
    DE X K W Wx (.Call (.Name "isinstance" p) [a, b] [] pos) (tCB (rIsiP K) tr) (tdCB fIsi dr) := by
  have hk := ha.k; subst hk
  exact de_cb call_isiP .isi hg hm (by decide +kernel) ha (by decide) (by decide) he hpl
theorem de_ty (n : String) {pos : Pos} {x : Str} (hm : X.mg x = none) (hg : Gl X x := by rfl) (hv : bootBuiltins x = some (.type n) := by decide +kernel) (hn : x ≠ "__name__" := by decide) (hd : (x == ("__debug__" : Str)) = false := by decide) (hk : X.K = K := by rfl) : DE X K W Wx (.Name x pos) (tC (.ty n)) (tdC (.v (.ty n))) := by
  subst hk
  exact de_bltn hg hm hv rfl hn hd
def fJoin (x : D) (y : D) (Q : D → Prop) : Prop := match x, y with
  | .v (.str s), .lst ds => ∃ ys : List Str, ds = ys.map D.str ∧ (ys.map (·.length)).sum + ys.length * s.length ≤ 16777216 ∧ Q (.str (Txt.join s ys))
  | .v (.str s), .tup ds => ∃ ys : List Str, ds = ys.map D.str ∧ (ys.map (·.length)).sum + ys.length * s.length ≤ 16777216 ∧ Q (.str (Txt.join s ys))
  | _, _ => False
@[simp] theorem fJoin_lst {s : Str} {ds : List D} {Q : D → Prop} : fJoin (.v (.str s)) (.lst ds) Q = ∃ ys : List Str, ds = ys.map D.str ∧ (ys.map (·.length)).sum + ys.length * s.length ≤ 16777216 ∧ Q (.str (Txt.join s ys)) := rfl
@[simp] theorem fJoin_tup {s : Str} {ds : List D} {Q : D → Prop} : fJoin (.v (.str s)) (.tup ds) Q = ∃ ys : List Str, ds = ys.map D.str ∧ (ys.map (·.length)).sum + ys.length * s.length ≤ 16777216 ∧ Q (.str (Txt.join s ys)) := rfl
def rJoin (K : PySem.W.Frag) : V → List V → Hp → VK → Prop := fun x xs H Q => ∃ a p, ∃ ys : List Str, x = .str a ∧ xs = [.ref p] ∧ (SqL K H p (ys.map V.str) ∨ SqT K H p (ys.map V.str)) ∧
    (ys.map (·.length)).sum + ys.length * a.length ≤ 16777216 ∧ Q (.str (Txt.join a ys)) H
@[simp] def tdJoin (t u : TDE) : TDE := fun τ Q R => t τ (fun x => onStr x fun _ => u τ (fun y => fJoin x y Q) R) R
theorem de_join {o : Expr} {to : TE} {dO : TDE} {apos : Pos} (ho : DE X K W Wx o to dO) (he : DE X K W Wx e te de) (hs : starEach [e] X.env = [(false, eval e X.env)] := by rfl) (hbase : attributeBase o "join" X.env (eval o X.env) = eval o X.env := by rfl) (hline : (apos.endLine == pos.line) = true := by rfl) :
    DE X K W Wx (.Call (.Attribute o "join" apos) [e] [] pos) (tM1 (rJoin K) to te) (tdJoin dO de) := by
  have hk := ho.k; subst hk
  exact ⟨rfl, pe_join ho.pe he.pe hs hbase hline, fun I H σ τ Q R G ok rp t hq hx => ho.sim I H σ τ _ R _ ok rp t (fun v d I1 H1 q1 i1 l1 => by
    have q0 := q1
    obtain ⟨z, rfl, q1⟩ := str_of1 i1 q1
    cases i1
    · refine ⟨⟨_, rfl⟩, he.sim I1 H1 σ τ _ R _ l1.ok (rp.later l1) q1 (fun v2 d2 I2 H2 q2 i2 l2 => ?_) (hx.later l1)⟩
      unfold fJoin at q2
      split at q2
      · rename_i e1
        cases e1
        obtain ⟨ys, rfl, hz, q2⟩ := q2
        obtain ⟨p, xs, rfl, sq, al⟩ := is_lst i2
        cases isAll_str al
        exact ⟨_, p, ys, rfl, rfl, .inl ((W.ex l2.ok).seq sq), hz, hq _ _ I2 H2 q2 (.v _) (l1.trans l2)⟩
      · rename_i e1
        cases e1
        obtain ⟨ys, rfl, hz, q2⟩ := q2
        obtain ⟨p, xs, rfl, sq, al⟩ := is_tup i2
        cases isAll_str al
        exact ⟨_, p, ys, rfl, rfl, .inr (Same.seqT (W.ex l2.ok) sq), hz, hq _ _ I2 H2 q2 (.v _) (l1.trans l2)⟩
      · exact q2.elim) hx⟩
abbrev TF := Wd → List D → (D → Prop) → (Exc → Prop) → Prop
abbrev TFO := Wd → List D → (List D → Prop) → (Exc → Prop) → Prop
/-- a def that hands back data -/
def spD (K : PySem.W.Frag) (n : Nat) (t : TF) : Sp := fun vs H Q E => ∃ (W : Wd) (I : Hp) (ds : List D) (Qd : D → Prop) (R : Exc → Prop), W.ok I H ∧ IsAll K I vs ds ∧ ds.length = n ∧ t W ds Qd R ∧
  (∀ v d I' H', Qd d → Is K I' v d → Later W I H I' H' → Q v H') ∧ ∀ cls da x I' H', R x → IsX K I' cls da x → Later W I H I' H' → E cls da H'
/-- a def that hands back a new list -/
def spO (K : PySem.W.Frag) (n : Nat) (t : TFO) : Sp := fun vs H Q E => ∃ (W : Wd) (I : Hp) (ds : List D) (Qd : List D → Prop) (R : Exc → Prop), W.ok I H ∧ IsAll K I vs ds ∧ ds.length = n ∧ t W ds Qd R ∧
  (∀ p ws es I' H', Qd es → H p = none → H' p = some (.lst ws) → I' p = none → IsAll K I' ws es → Later W I H I' H' → Q (.ref p) H') ∧ ∀ cls da x I' H', R x → IsX K I' cls da x → Later W I H I' H' → E cls da H'
/-- a def that hands back a thing of the caller's own -/
abbrev TFX := Wd → List D → (SD → Prop) → (Exc → Prop) → Prop
def spX (K : PySem.W.Frag) (n : Nat) (t : TFX) : Sp := fun vs H Q E => ∃ (W : Wd) (I : Hp) (ds : List D) (Qd : SD → Prop) (R : Exc → Prop), W.ok I H ∧ IsAll K I vs ds ∧ ds.length = n ∧ t W ds Qd R ∧
  (∀ v s I' H', Qd s → At K W I' H' v s → (∀ a, OwnV v s a → H a = none) → Later W I H I' H' → Q v H') ∧ ∀ cls da x I' H', R x → IsX K I' cls da x → Later W I H I' H' → E cls da H'
theorem spD_len {n : Nat} {t : TF} {vs : List V} {H : Hp} {Q : VK} {E : XK} (h : spD K n t vs H Q E) : vs.length = n := by
  obtain ⟨_, _, _, _, _, _, al, hl, _⟩ := h
  rw [al.length, hl]
theorem spO_len {n : Nat} {t : TFO} {vs : List V} {H : Hp} {Q : VK} {E : XK} (h : spO K n t vs H Q E) : vs.length = n := by
  obtain ⟨_, _, _, _, _, _, al, hl, _⟩ := h
  rw [al.length, hl]
@[simp] def tdCall (n : Nat) (t : TF) (W : Wd) (u : TDA) : TDE := fun τ Q R => u τ (fun ds => ds.length = n ∧ t W ds Q fun _ => False) R
@[simp] def tdCallO (n : Nat) (t : TFO) (W : Wd) (u : TDA) : TDO := fun τ Q R => u τ (fun ds => ds.length = n ∧ t W ds Q fun _ => False) R
@[simp] def tdCallN (n : Nat) (t : TFX) (W : Wd) (u : TDA) : TDX := fun τ Q R => u τ (fun ds => ds.length = n ∧ t W ds Q fun _ => False) R
@[simp] def tdCallNX (n : Nat) (t : TFX) (W : Wd) (u : TDA) : TDX := fun τ Q R => u τ (fun ds => ds.length = n ∧ t W ds Q R) R
/-- .. what is raised is let through -/
@[simp] def tdCallX (n : Nat) (t : TF) (W : Wd) (u : TDA) : TDE := fun τ Q R => u τ (fun ds => ds.length = n ∧ t W ds Q R) R
@[simp] def tdCallOX (n : Nat) (t : TFO) (W : Wd) (u : TDA) : TDO := fun τ Q R => u τ (fun ds => ds.length = n ∧ t W ds Q R) R
section
variable {n k : Nat} {t : TF} {tO : TFO} {f : Addr} {fd : FuncData} {ps : List Str} {CX : CXT}
theorem SimE.call (h : SimA K W Wx tr dr) : SimE K W Wx (tCallS (spD K n t) (fun _ => E0) tr) (tdCall n t W dr) := fun I H σ τ Q R G ok rp q hq hx =>
  h I H σ τ _ R _ ok rp q (fun vs ds I1 H1 q1 i1 l1 => by
    exact ⟨W, I1, ds, Q, _, l1.ok, i1, q1.1, q1.2, fun v d I2 H2 q2 i2 l2 => hq v d I2 H2 q2 i2 (l1.trans l2), fun _ _ _ _ _ z _ _ => z.elim⟩) hx
theorem SimO.call (h : SimA K W Wx tr dr) : SimO K W Wx (tCallS (spO K n tO) (fun _ => E0) tr) (tdCallO n tO W dr) := fun I H σ τ Q R G ok rp q hq hx =>
  h I H σ τ _ R _ ok rp q (fun vs ds I1 H1 q1 i1 l1 => by
    exact ⟨W, I1, ds, Q, _, l1.ok, i1, q1.1, q1.2, fun p ws es I2 H2 q2 n2 h2 f2 i2 l2 => hq p ws es I2 H2 q2 (Later.back' l1 n2) h2 f2 i2 (l1.trans l2), fun _ _ _ _ _ z _ _ => z.elim⟩) hx
theorem SimE.callX (h : SimA K W Wx tr dr) : SimE K W Wx (tCallS (spD K n t) (WE Wx) tr) (tdCallX n t W dr) := fun I H σ τ Q R G ok rp q hq hx =>
  h I H σ τ _ R _ ok rp q (fun vs ds I1 H1 q1 i1 l1 =>
    ⟨W, I1, ds, Q, R, l1.ok, i1, q1.1, q1.2, fun v d I2 H2 q2 i2 l2 => hq v d I2 H2 q2 i2 (l1.trans l2), fun cls da x I2 H2 r ix l2 => hx cls da x I2 H2 r ix (l1.trans l2)⟩) hx
theorem SimO.callX (h : SimA K W Wx tr dr) : SimO K W Wx (tCallS (spO K n tO) (WE Wx) tr) (tdCallOX n tO W dr) := fun I H σ τ Q R G ok rp q hq hx =>
  h I H σ τ _ R _ ok rp q (fun vs ds I1 H1 q1 i1 l1 =>
    ⟨W, I1, ds, Q, R, l1.ok, i1, q1.1, q1.2, fun p ws es I2 H2 q2 n2 h2 f2 i2 l2 => hq p ws es I2 H2 q2 (Later.back' l1 n2) h2 f2 i2 (l1.trans l2), fun cls da x I2 H2 r ix l2 => hx cls da x I2 H2 r ix (l1.trans l2)⟩) hx
theorem de_call (F : FnG X.prog X.w X.K X.mg X.base CX k f fd ps (spD K n t)) (hr : RoomG k X.A) (hm : X.mg x = some (.ref f)) (hk : PySem.W.keepIn X.K (.ref f) = true) (hb : Binds K fd ps []) (hx : Passes CX X E0) (ha : DA X K W Wx (e :: es) tr dr)
    (hg : Gl X x := by rfl) (hdb : (x == ("__debug__" : Str)) = false := by decide) (he : starEach (e :: es) X.env = (false, eval e X.env) :: starEach es X.env := by rfl) (hpl : (backTo pos (starEach es X.env)).any (·.1) = false := by rfl) :
    DE X K W Wx (.Call (.Name x p) (e :: es) [] pos) (tCallS (spD K n t) (fun _ => E0) tr) (tdCall n t W dr) := by
  have hk := ha.k; subst hk
  exact ⟨rfl, pe_callG F hr hg hm hk hb (fun σ pins H s e s' I => hx pins σ H s e s' I) ha.pa hdb he hpl, .call ha.sim⟩
theorem do_call (F : FnG X.prog X.w X.K X.mg X.base CX k f fd ps (spO K n tO)) (hr : RoomG k X.A) (hm : X.mg x = some (.ref f)) (hk : PySem.W.keepIn X.K (.ref f) = true) (hb : Binds K fd ps []) (hx : Passes CX X E0) (ha : DA X K W Wx (e :: es) tr dr)
    (hg : Gl X x := by rfl) (hdb : (x == ("__debug__" : Str)) = false := by decide) (he : starEach (e :: es) X.env = (false, eval e X.env) :: starEach es X.env := by rfl) (hpl : (backTo pos (starEach es X.env)).any (·.1) = false := by rfl) :
    DO X K W Wx (.Call (.Name x p) (e :: es) [] pos) (tCallS (spO K n tO) (fun _ => E0) tr) (tdCallO n tO W dr) := by
  have hk := ha.k; subst hk
  exact ⟨rfl, pe_callG F hr hg hm hk hb (fun σ pins H s e s' I => hx pins σ H s e s' I) ha.pa hdb he hpl, .call ha.sim⟩
theorem de_callX (F : FnG X.prog X.w X.K X.mg X.base (L2.CX X.prog X.w) k f fd ps (spD K n t)) (hr : RoomG k X.A) (hm : X.mg x = some (.ref f)) (hk : PySem.W.keepIn X.K (.ref f) = true) (hb : Binds K fd ps []) (tk : Takes X Wx) (ha : DA X K W Wx (e :: es) tr dr)
    (hg : Gl X x := by rfl) (hdb : (x == ("__debug__" : Str)) = false := by decide) (he : starEach (e :: es) X.env = (false, eval e X.env) :: starEach es X.env := by rfl) (hpl : (backTo pos (starEach es X.env)).any (·.1) = false := by rfl) :
    DE X K W Wx (.Call (.Name x p) (e :: es) [] pos) (tCallS (spD K n t) (WE Wx) tr) (tdCallX n t W dr) := by
  have hk := ha.k; subst hk
  exact ⟨rfl, pe_callG F hr hg hm hk hb (fun σ => passAt tk σ) ha.pa hdb he hpl, .callX ha.sim⟩
variable {tX : TFX}
theorem SimX.call (h : SimA K W Wx tr dr) : SimX K W Wx (tCallS (spX K n tX) (fun _ => E0) tr) (tdCallN n tX W dr) := fun I H σ τ Q R G ok rp q hq hx =>
  h I H σ τ _ R _ ok rp q (fun vs ds I1 H1 q1 i1 l1 => by
    exact ⟨W, I1, ds, Q, _, l1.ok, i1, q1.1, q1.2, fun v s I2 H2 q2 a2 n2 l2 => hq v s I2 H2 q2 a2 (fun a o => Later.back' l1 (n2 a o)) (l1.trans l2), fun _ _ _ _ _ z _ _ => z.elim⟩) hx
theorem SimX.callX (h : SimA K W Wx tr dr) : SimX K W Wx (tCallS (spX K n tX) (WE Wx) tr) (tdCallNX n tX W dr) := fun I H σ τ Q R G ok rp q hq hx =>
  h I H σ τ _ R _ ok rp q (fun vs ds I1 H1 q1 i1 l1 =>
    ⟨W, I1, ds, Q, R, l1.ok, i1, q1.1, q1.2, fun v s I2 H2 q2 a2 n2 l2 => hq v s I2 H2 q2 a2 (fun a o => Later.back' l1 (n2 a o)) (l1.trans l2), fun cls da x I2 H2 r ix l2 => hx cls da x I2 H2 r ix (l1.trans l2)⟩) hx
end
end
end D3
set_option Elab.async false
set_option linter.all false
set_option maxRecDepth 100000
set_option maxHeartbeats 2000000
namespace D3
open PySem L2
/-- the things that slots own, as data that stands still -/
@[simp] def frz (τ : Tau) : Tau := τ.map fun s => match s with
  | some (.own ds) => some (.dat (.lst ds))
  | some (.obj _ C fs) => some (.dat (.ins C fs))
  | some (.tupo _ pre ds post) => some (.dat (.tup (pre ++ .lst ds :: post)))
  | some (.dk gs) => some (.dat (.dic gs))
  | some (.dt g gs) => some (.dat (.dt g gs))
  | some (.wd _ pre k post g gs) => some (.dat (.dic (pre ++ (k, .dt g gs) :: post)))
  | s => s
section
variable {K : PySem.W.Frag} {W : Wd} {Wx : WX} {X : Cx}
/-- what a thing of one's own is as data, by any heap that keeps it -/
theorem At.frz {I I' H : Hp} {v : V} {s : SD} (h : At K W I H v s) (e : Same I I') (k : ∀ a, OwnV v s a → I' a = H a) : ∃ d, Is K I' v d ∧ (match some s with
  | some (.own ds) => some (.dat (.lst ds))
  | some (.obj _ C fs) => some (.dat (.ins C fs))
  | some (.tupo _ pre ds post) => some (.dat (.tup (pre ++ .lst ds :: post)))
  | some (.dk gs) => some (.dat (.dic gs))
  | some (.dt g gs) => some (.dat (.dt g gs))
  | some (.wd _ pre k post g gs) => some (.dat (.dic (pre ++ (k, .dt g gs) :: post)))
  | s => s) = some (SD.dat d) := by
  cases s with
  | dat d => exact ⟨d, Is.mono e h, rfl⟩
  | own ds =>
    obtain ⟨p, vs, rfl, hp, hi, hf, al⟩ := h
    exact ⟨.lst ds, .lst ((k p rfl).trans hp) (al.mono e), rfl⟩
  | obj p C fs =>
    obtain ⟨dx, vs, rfl, hp, hi, hf, al⟩ := h
    exact ⟨.ins C fs, .ins ((k p rfl).trans hp) (al.mono e), rfl⟩
  | tupo p pre ds post =>
    obtain ⟨t, us, ws, vs, rfl, st, h1, h2, hp, hi, hf, al⟩ := h
    exact ⟨.tup (pre ++ .lst ds :: post), .tup (Same.seqN e st) ((h1.mono e).append (.cons (.lst ((k p rfl).trans hp) (al.mono e)) (h2.mono e))), rfl⟩
  | dk gs =>
    obtain ⟨p, vs, rfl, hp, hi, hf, al⟩ := h
    exact ⟨.dic gs, .dic ((k p rfl).trans hp) (IsKv.mono e al), rfl⟩
  | dt g gs =>
    obtain ⟨p, ob, us, rfl, hp, hi, hf, y, o, al⟩ := h
    exact ⟨.dt g gs, .dt ((k p rfl).trans hp) y o (IsT.mono e al), rfl⟩
  | wd q pre kk post g gs =>
    obtain ⟨p, ob, us, as, bs, rfl, hp, hi, hf, r1, r2, hq, hiq, hfq, y, o, al⟩ := h
    exact ⟨.dic (pre ++ (kk, .dt g gs) :: post), .dic ((k p (.inl rfl)).trans hp) ((IsKv.mono e r1).app (.cons (.dt ((k q (.inr rfl)).trans hq) y o (IsT.mono e al)) (IsKv.mono e r2))), rfl⟩
theorem frz_get {τ : Tau} {i : Nat} {s : SD} (h : (frz τ)[i]? = some (some s)) : ∃ t d, τ[i]? = some (some t) ∧ s = .dat d ∧ (match some t with
  | some (.own ds) => some (.dat (.lst ds))
  | some (.obj _ C fs) => some (.dat (.ins C fs))
  | some (.tupo _ pre ds post) => some (.dat (.tup (pre ++ .lst ds :: post)))
  | some (.dk gs) => some (.dat (.dic gs))
  | some (.dt g gs) => some (.dat (.dt g gs))
  | some (.wd _ pre k post g gs) => some (.dat (.dic (pre ++ (k, .dt g gs) :: post)))
  | s => s) = some (SD.dat d) := by
  unfold frz at h
  rw [List.getElem?_map] at h
  cases q : τ[i]? with
  | none => rw [q] at h; cases h
  | some so =>
    rw [q] at h
    cases so with
    | none => cases h
    | some sd => cases sd <;> cases h <;> exact ⟨_, _, rfl, rfl, rfl⟩
theorem own_frz {σ : St} {τ : Tau} {a : Addr} (h : Own σ (D3.frz τ) a) : False := by
  obtain ⟨i, s, v, e1, _, o⟩ := h
  obtain ⟨_, d, _, rfl, _⟩ := frz_get e1
  exact o
open Classical in
theorem Rep.frz {I H : Hp} {σ : St} {τ : Tau} (r : Rep K W I H σ τ) (ok : W.ok I H) : ∃ I', Same I I' ∧ W.ok I' H ∧ Rep K W I' H σ (D3.frz τ) ∧ (∀ a, I a = none → I' a ≠ none → Own σ τ a) := by
  have up : Same I (fun a => if Own σ τ a then H a else I a) := by
    intro a o e
    have : ¬ Own σ τ a := fun z => by
      rw [(r.owned z).1] at e; cases e
    show (if Own σ τ a then H a else I a) = some o
    rw [if_neg this]; exact e
  refine ⟨fun a => if Own σ τ a then H a else I a, up, ?_, ?_, ?_⟩
  · refine W.fzs ok fun a => ?_
    by_cases h : Own σ τ a
    · exact .inr ⟨(r.owned h).1, r.free a h, if_pos h⟩
    · exact .inl (if_neg h)
  · refine ⟨by unfold D3.frz; rw [List.length_map]; exact r.len, fun i s e => ?_, fun i j s t v w a e1 e2 e3 e4 o1 o2 => ?_⟩
    · obtain ⟨t, d, q, rfl, ed⟩ := frz_get e
      obtain ⟨v, h1, h2⟩ := r.at_ i t q
      obtain ⟨d', h3, e3⟩ := h2.frz up fun a o => if_pos ⟨i, t, v, q, h1, o⟩
      have : d' = d := by
        have := e3.symm.trans ed
        cases this; rfl
      subst this
      exact ⟨v, h1, h3⟩
    · exact (own_frz ⟨i, s, v, e1, e3, o1⟩).elim
  · intro a n h
    have h : (if Own σ τ a then H a else I a) ≠ none := h
    by_cases z : Own σ τ a
    · exact z
    · rw [if_neg z] at h; exact absurd n h
def Ret (K : PySem.W.Frag) (W : Wd) (O0 : Addr → Prop) (H0 I H : Hp) (v : V) (s : SD) : Prop := At K W I H v s ∧ ∀ a, OwnV v s a → H0 a = none ∨ O0 a
structure Rel (K : PySem.W.Frag) (W : Wd) (Wx : WX) (O0 : Addr → Prop) (I0 H0 : Hp) (E : DEnds) (D : Ends) : Prop where
  nx : ∀ σ τ I H, E.nx τ → Rep K W I H σ τ → Lat W O0 I0 H0 (Own σ τ) I H → D.nx σ H
  bk : ∀ σ τ I H, E.bk τ → Rep K W I H σ τ → Lat W O0 I0 H0 (Own σ τ) I H → D.bk σ H
  ct : ∀ σ τ I H, E.ct τ → Rep K W I H σ τ → Lat W O0 I0 H0 (Own σ τ) I H → D.ct σ H
  rt : ∀ v s I H, E.rt s → Ret K W O0 H0 I H v s → Lat W O0 I0 H0 N0 I H → D.rt v H
  ex : ∀ (cls : Value) (da : Option Addr) (x : Exc) (σ : St) (τ : Tau) (I H : Hp), E.ex x τ → IsX K I cls da x → Rep K W I H σ τ → Lat W O0 I0 H0 (Own σ τ) I H → Wx cls da σ H
section
variable {O0 O1 O2 : Addr → Prop} {I0 H0 I1 H1 I2 H2 : Hp} {E : DEnds} {D : Ends}
/-- what an owner gives up -/
theorem Lat.drop (a : Lat W O0 I0 H0 O1 I1 H1) (h : ∀ p, O2 p → O1 p) : Lat W O0 I0 H0 O2 I1 H1 := ⟨a.ex, a.ok, a.fr, a.nw, fun p o => a.ow p (h p o)⟩
theorem Rel.later (r : Rel K W Wx O0 I0 H0 E D) (l : Lat W O0 I0 H0 O1 I1 H1) : Rel K W Wx O1 I1 H1 E D where
  nx := fun σ τ I H q rp l2 => r.nx σ τ I H q rp (l.trans l2)
  bk := fun σ τ I H q rp l2 => r.bk σ τ I H q rp (l.trans l2)
  ct := fun σ τ I H q rp l2 => r.ct σ τ I H q rp (l.trans l2)
  rt := fun v s I H q rv l2 => r.rt v s I H q ⟨rv.1, fun p o => by
    obtain ⟨_, hf, _⟩ := rv.1.owned o
    rcases rv.2 p o with hn | hn
    · cases hc : H0 p with
      | none => exact .inl rfl
      | some u =>
        by_cases ho : O0 p
        · exact .inr ho
        · rw [l.fr p u hf ho hc] at hn; cases hn
    · exact (l.ow p hn).2⟩ (l.trans l2)
  ex := fun cls da x σ τ I H q ix rp l2 => r.ex cls da x σ τ I H q ix rp (l.trans l2)
theorem Rel.xok {σ : St} {τ : Tau} (r : Rel K W Wx (Own σ τ) I0 H0 E D) (rp : Rep K W I0 H0 σ τ) : XOk K W Wx (fun x => E.ex x τ) I0 H0 σ := fun cls da x I' H' q ix l => r.ex cls da x σ τ I' H' q ix (rp.later l) (rp.own l)
end
def SimS (K : PySem.W.Frag) (W : Wd) (Wx : WX) (ts : TS) (t : TDS) : Prop := ∀ (I H : Hp) (σ : St) (τ : Tau) (E : DEnds) (D : Ends), W.ok I H → Rep K W I H σ τ → t τ E → Rel K W Wx (Own σ τ) I H E D → ts D σ H
structure DS (X : Cx) (K : PySem.W.Frag) (W : Wd) (Wx : WX) (s : Stmt) (ts : TS) (t : TDS) : Prop where
  k : X.K = K
  ps : PS X s ts
  sim : SimS K W Wx ts t
structure DSs (X : Cx) (K : PySem.W.Frag) (W : Wd) (Wx : WX) (s : List Stmt) (ts : TS) (t : TDS) : Prop where
  k : X.K = K
  ps : PSs X s ts
  sim : SimS K W Wx ts t
variable {s : Stmt} {rest : List Stmt} {t1 t2 : TS} {d1 d2 : TDS} {e a b : Expr} {te ta tb : TE} {de da db : TDE} {pos : Pos}
@[simp] def tdNext : TDS := fun τ E => E.nx τ
@[simp] def tdSeq (t u : TDS) : TDS := fun τ E => t τ { E with nx := fun τ' => u τ' E }
theorem SimS.seq (h1 : SimS K W Wx t1 d1) (h2 : SimS K W Wx t2 d2) : SimS K W Wx (tSeq t1 t2) (tdSeq d1 d2) := fun I H σ τ E D ok rp t r =>
  h1 I H σ τ _ _ ok rp t ⟨fun σ' τ' I' H' q rp' l => h2 I' H' σ' τ' E D l.ok rp' q (r.later l), r.bk, r.ct, r.rt, r.ex⟩
theorem SimS.next : SimS K W Wx tNext tdNext := fun I H σ τ E D ok rp t r => r.nx σ τ I H t rp (rp.refl ok)
theorem dss_nil (hk : X.K = K := by rfl) : DSs X K W Wx [] tNext tdNext := by
  subst hk
  exact ⟨rfl, pss_nil, .next⟩
theorem dss_cons (h1 : DS X K W Wx s t1 d1) (h2 : DSs X K W Wx rest t2 d2) : DSs X K W Wx (s :: rest) (tSeq t1 t2) (tdSeq d1 d2) := by
  have hk := h1.k; subst hk
  exact ⟨rfl, pss_cons h1.ps h2.ps, .seq h1.sim h2.sim⟩
theorem dss_one (h1 : DS X K W Wx s t1 d1) : DSs X K W Wx [s] t1 d1 := by
  have hk := h1.k; subst hk
  exact ⟨rfl, pss_one h1.ps, h1.sim⟩
@[simp] def tdBreak : TDS := fun τ E => E.bk τ
@[simp] def tdCont : TDS := fun τ E => E.ct τ
theorem ds_never (hk : X.K = K := by rfl) : DS X K W Wx s tNever (fun _ _ => False) := by
  subst hk
  exact ⟨rfl, ps_never, fun _ _ _ _ _ _ _ _ h _ => h.elim⟩
/-- one's own lists stand still from here on -/
theorem SimS.freeze (h : SimS K W Wx t1 d1) : SimS K W Wx t1 (fun τ E => d1 (frz τ) E) := fun I H σ τ E D ok rp t r => by
  obtain ⟨I', e, ok', rp', nw⟩ := rp.frz ok
  refine h I' H σ (frz τ) E D ok' rp' t (r.later ⟨e, ok', fun _ _ _ _ q => q, fun p n q => .inr (nw p n q), fun p o => (own_frz o).elim⟩)
theorem DS.freeze (h : DS X K W Wx s t1 d1) : DS X K W Wx s t1 (fun τ E => d1 (frz τ) E) := by
  have hk := h.k; subst hk
  exact ⟨rfl, h.ps, h.sim.freeze⟩
theorem DSs.freeze (h : DSs X K W Wx rest t1 d1) : DSs X K W Wx rest t1 (fun τ E => d1 (frz τ) E) := by
  have hk := h.k; subst hk
  exact ⟨rfl, h.ps, h.sim.freeze⟩
/-- behind an expression that was read with one's own lists standing still: only what is flat is kept -/
theorem Lat.revert {I I1 H I2 H2 : Hp} {σ : St} {τ : Tau} (rp : Rep K W I H σ τ) (e : Same I I1) (nw : ∀ a, I a = none → I1 a ≠ none → Own σ τ a) (l : Later W I1 H I2 H2) :
    Lat W (Own σ τ) I H (Own σ τ) I H2 ∧ Rep K W I H2 σ τ := by
  refine ⟨⟨Same.refl I, W.anti l.ok (e.trans l.ex), fun a o f _ q => l.fr a o f (fun z => z) q, fun a n q => absurd n q, fun a o => ⟨rp.free a o, .inr o⟩⟩, rp.len, fun i s q => ?_, rp.inj⟩
  obtain ⟨v, h1, h2⟩ := rp.at_ i s q
  refine ⟨v, h1, h2.keep (Same.refl I) (fun a o => (h2.owned o).1) fun a o => ?_⟩
  obtain ⟨_, hf, u, hp⟩ := h2.owned o
  rw [hp]
  exact l.fr a _ hf (fun z => z) hp
/-- exceptions raised there -/
theorem Rel.xokF {I I1 H : Hp} {σ : St} {τ : Tau} {E : DEnds} {D : Ends} (r : Rel K W Wx (Own σ τ) I H E D) (rpf : Rep K W I1 H σ (frz τ)) (e : Same I I1) (ok : W.ok I1 H) (nw : ∀ a, I a = none → I1 a ≠ none → Own σ τ a) : XOk K W Wx (fun x => E.ex x (frz τ)) I1 H σ :=
  fun cls da x I' H' q ix l => r.ex cls da x σ (frz τ) I' H' q ix (rpf.later l) ⟨e.trans l.ex, l.ok, fun a o f _ q => l.fr a o f (fun z => z) q, fun a n q => by
    by_cases h : I1 a = none
    · exact (l.nw a h q).elim .inl fun z => z.elim
    · exact .inr (nw a n h), fun _ z => (own_frz z).elim⟩
@[simp] def tdAsg (t : TDE) (g : TDG) : TDS := fun τ E => t τ (fun d => g d τ E.nx) (fun x => E.ex x τ)
theorem SimS.asg {g : TG} {gd : TDG} {idx : List Nat} (h : SimE K W Wx te de) (hg : SimG K W g gd idx) : SimS K W Wx (tAsg te g) (tdAsg de gd) := fun I H σ τ E D ok rp t r =>
  h I H σ τ _ _ _ ok rp t (fun v d I1 H1 q1 i1 l1 => hg I1 H1 σ τ v d _ _ l1.ok (rp.later l1) i1 q1 fun σ' τ' q2 rp2 o2 _ => r.nx σ' τ' I1 H1 q2 rp2 ((rp.own l1).drop o2)) (r.xok rp)
theorem ds_asg {tg : Expr} {g : TG} {gd : TDG} {idx : List Nat} (h : DE X K W Wx e te de) (hg : DG X K W tg g gd idx) (hs : swapsWithSole [tg] e pos.line X.env = pure false := by rfl) (hw : swappedStores [tg] e X.env = pure none := by rfl)
    (h1 : (assignEach [tg] X.env).map (·.2) = [assign tg X.env] := by rfl) : DS X K W Wx (.Assign [tg] e pos) (tAsg te g) (tdAsg de gd) := by
  have hk := h.k; subst hk
  exact ⟨rfl, ps_asg h.pe hg.pg hs hw h1, .asg h.sim hg.sim⟩
theorem ds_set {i : Nat} {x : Str} {pos' : Pos} (hN : X.N.Nodup) (h : DE X K W Wx e te de) (hi : X.N[i]? = some x := by rfl) (hx : Loc X.env.scope x := by first | exact Or.inl rfl | exact Or.inr rfl) (hs : swapsWith e (some (.Name x pos')) pos.line X.env = pure false := by rfl)
    (hf : X.fn x = true ∨ X.env.scope.names.lookup x = some .local := by first | exact .inl rfl | exact .inr rfl | assumption) : DS X K W Wx (.Assign [.Name x pos'] e pos) (tAsg te (gName i)) (tdAsg de (gdName i)) := by
  have hk := h.k; subst hk
  exact ⟨rfl, ps_set hN hi hx h.pe hs hf, .asg h.sim .name⟩
def flatD (d : D) : Prop := match d with | .v _ => True | _ => False
@[simp] theorem flatD_v {x : V} : flatD (.v x) = True := rfl
/-- a flat value, while one's own lists are read -/
@[simp] def tdSetF (t : TDE) (i : Nat) : TDS := fun τ E => t (frz τ) (fun d => flatD d ∧ E.nx (τ.set i (some (.dat d)))) (fun x => E.ex x (frz τ))
theorem SimS.setF {i : Nat} (h : SimE K W Wx te de) : SimS K W Wx (tAsg te (gName i)) (tdSetF de i) := fun I H σ τ E D ok rp t r => by
  obtain ⟨I1, e, ok1, rp1, nw⟩ := rp.frz ok
  refine h I1 H σ (frz τ) _ _ _ ok1 rp1 t (fun v d I2 H2 q2 i2 l2 => ?_) (r.xokF rp1 e ok1 nw)
  obtain ⟨fl, q2⟩ := q2
  obtain ⟨la, rp2⟩ := Lat.revert rp e nw l2
  unfold flatD at fl
  split at fl
  · cases i2
    exact r.nx _ _ I H2 q2 (rp2.set_dat (.v _)) (la.drop fun p o => o.set_dat rp.len)
  · exact fl.elim
theorem ds_setF {i : Nat} {x : Str} {pos' : Pos} (hN : X.N.Nodup) (h : DE X K W Wx e te de) (hi : X.N[i]? = some x := by rfl) (hx : Loc X.env.scope x := by first | exact Or.inl rfl | exact Or.inr rfl) (hs : swapsWith e (some (.Name x pos')) pos.line X.env = pure false := by rfl)
    (hf : X.fn x = true ∨ X.env.scope.names.lookup x = some .local := by first | exact .inl rfl | exact .inr rfl | assumption) : DS X K W Wx (.Assign [.Name x pos'] e pos) (tAsg te (gName i)) (tdSetF de i) := by
  have hk := h.k; subst hk
  exact ⟨rfl, ps_set hN hi hx h.pe hs hf, .setF h.sim⟩
variable {dO : TDO}
/-- a new list of one's own -/
@[simp] def tdSetO (t : TDO) (i : Nat) : TDS := fun τ E => t τ (fun ds => E.nx (τ.set i (some (.own ds)))) (fun x => E.ex x τ)
theorem not_own_new {I H : Hp} {σ : St} {τ : Tau} {p : Addr} (rp : Rep K W I H σ τ) (hp : H p = none) : ¬ Own σ τ p := fun o => by
  obtain ⟨_, _, u, h⟩ := rp.owned o
  rw [hp] at h; cases h
/-- .. a thing of one's own -/
@[simp] def tdSetX (t : TDX) (i : Nat) : TDS := fun τ E => t τ (fun s => E.nx (τ.set i (some s))) (fun x => E.ex x τ)
theorem SimS.setO {i : Nat} (h : SimO K W Wx te dO) : SimS K W Wx (tAsg te (gName i)) (tdSetO dO i) := fun I H σ τ E D ok rp t r =>
  h I H σ τ _ _ _ ok rp t (fun p vs ds I1 H1 q1 hp hp1 hi al l1 => by
    have hn : ¬ Own σ τ p := not_own_new rp hp
    have hf : W.free p := W.fr ok hp
    refine r.nx _ _ I1 H1 q1 ((rp.later l1).set_own hn hp1 hi hf al) ⟨l1.ex, l1.ok, fun a o f _ q => l1.fr a o f (fun z => z) q, fun a n q => (l1.nw a n q).elim .inl fun z => z.elim, fun a o => ?_⟩
    rcases o.set_own with rfl | o
    · exact ⟨hf, .inl hp⟩
    · exact ⟨rp.free a o, .inr o⟩) (r.xok rp)
theorem ds_setO {i : Nat} {x : Str} {pos' : Pos} (hN : X.N.Nodup) (h : DO X K W Wx e te dO) (hi : X.N[i]? = some x := by rfl) (hx : Loc X.env.scope x := by first | exact Or.inl rfl | exact Or.inr rfl) (hs : swapsWith e (some (.Name x pos')) pos.line X.env = pure false := by rfl)
    (hf : X.fn x = true ∨ X.env.scope.names.lookup x = some .local := by first | exact .inl rfl | exact .inr rfl | assumption) : DS X K W Wx (.Assign [.Name x pos'] e pos) (tAsg te (gName i)) (tdSetO dO i) := by
  have hk := h.k; subst hk
  exact ⟨rfl, ps_set hN hi hx h.pe hs hf, .setO h.sim⟩
def two (ds : List D) (P : D → D → Prop) : Prop := match ds with
  | [x, y] => P x y
  | _ => False
@[simp] theorem two_two {x y : D} {P : D → D → Prop} : two [x, y] P = P x y := rfl
/-- a, b = x, y -/
@[simp] def tdPar (i j : Nat) (u : TDA) : TDS := fun τ E => u τ (fun ds => two ds fun x y => E.nx ((τ.set i (some (.dat x))).set j (some (.dat y)))) (fun x => E.ex x τ)
theorem ds_par {i j : Nat} {x y : Str} {tr : TA} {dr : TDA} {px py pt : Pos} {kt k2 pt2} (hc : X.calm = true) (hN : X.N.Nodup) (ha : DA X K W Wx [a, b] tr dr) (hi : X.N[i]? = some x := by rfl) (hj : X.N[j]? = some y := by rfl) (hij : i ≠ j := by decide)
    (hx : X.env.scope.names.lookup x = some .local := by rfl) (hy : X.env.scope.names.lookup y = some .local := by rfl)
    (hw : swappedStores [.Tuple [.Name x px, .Name y py] kt pt] (.Tuple [a, b] k2 pt2) X.env = pure (some [x, y]) := by rfl)
    (hs : swapsWithSole [.Tuple [.Name x px, .Name y py] kt pt] (.Tuple [a, b] k2 pt2) pos.line X.env = pure false := by rfl) :
    DS X K W Wx (.Assign [.Tuple [.Name x px, .Name y py] kt pt] (.Tuple [a, b] k2 pt2) pos) (tPar i j tr) (tdPar i j dr) := by
  have hk := ha.k; subst hk
  exact ⟨rfl, ps_par hc hN hi hj hij hx hy ha.pa hw hs, fun I H σ τ E D ok rp t r => ha.sim I H σ τ _ _ _ ok rp t (fun vs ds I1 H1 q1 al l1 => by
    unfold two at q1
    split at q1
    · obtain ⟨v, v', rfl, h1, h2⟩ := isAll2 al
      refine ⟨v, v', rfl, r.nx _ _ I1 H1 q1 (((rp.later l1).set_dat h1).set_dat h2) ((rp.own l1).drop fun p o => (o.set_dat (by simpa using rp.len)).set_dat rp.len)⟩
    · exact q1.elim) (r.xok rp)⟩
/-- x op= e, ints -/
@[simp] def tdAug (i : Nat) (t : TDE) (f : TD2) : TDS := fun τ E => ∃ d, τ[i]? = some (some (.dat d)) ∧ t τ (fun y => f d y fun z => E.nx (τ.set i (some (.dat z)))) (fun x => E.ex x τ)
variable {c : Expr} {tc : TT} {dc : TDT} {A B : List Stmt}
@[simp] def tdIfS (c : TDT) (t u : TDS) : TDS := fun τ E => c (frz τ) (fun b => if b = true then t τ E else u τ E) (fun x => E.ex x (frz τ))
theorem SimS.ite (hc : SimT K W Wx tc dc) (h1 : SimS K W Wx t1 d1) (h2 : SimS K W Wx t2 d2) : SimS K W Wx (tIfS tc t1 t2) (tdIfS dc d1 d2) := fun I H σ τ E D ok rp t r => by
  obtain ⟨I1, e, ok1, rp1, nw⟩ := rp.frz ok
  refine hc I1 H σ (frz τ) _ _ _ ok1 rp1 t (fun b I2 H2 q2 l2 => ?_) (r.xokF rp1 e ok1 nw)
  obtain ⟨la, rp2⟩ := Lat.revert rp e nw l2
  cases b with
  | true =>
    rw [if_pos rfl] at q2 ⊢
    exact h1 I H2 σ τ E D la.ok rp2 q2 (r.later la)
  | false =>
    rw [if_neg Bool.false_ne_true] at q2 ⊢
    exact h2 I H2 σ τ E D la.ok rp2 q2 (r.later la)
theorem ds_if (hc : DT X K W Wx c tc dc) (h1 : DSs X K W Wx A t1 d1) (h2 : DSs X K W Wx B t2 d2) : DS X K W Wx (.If c A B pos) (tIfS tc t1 t2) (tdIfS dc d1 d2) := by
  have hk := hc.k; subst hk
  exact ⟨rfl, ps_if hc.pt h1.ps h2.ps, .ite hc.sim h1.sim h2.sim⟩
@[simp] def tdRet (t : TDE) : TDS := fun τ E => t (frz τ) (fun d => E.rt (.dat d)) (fun x => E.ex x (frz τ))
theorem SimS.ret (h : SimE K W Wx te de) : SimS K W Wx (tRet te) (tdRet de) := fun I H σ τ E D ok rp t r => by
  obtain ⟨I1, e, ok1, rp1, nw⟩ := rp.frz ok
  refine h I1 H σ (frz τ) _ _ _ ok1 rp1 t (fun v d I2 H2 q2 i2 l2 => ?_) (r.xokF rp1 e ok1 nw)
  exact r.rt v (.dat d) I2 H2 q2 ⟨i2, fun _ z => z.elim⟩ ⟨e.trans l2.ex, l2.ok, fun a o f _ q => l2.fr a o f (fun z => z) q, fun a n q => by
    by_cases h : I1 a = none
    · exact (l2.nw a h q).elim .inl fun z => z.elim
    · exact .inr (nw a n h), fun _ z => z.elim⟩
theorem ds_ret (h : DE X K W Wx e te de) : DS X K W Wx (.Return (some e) pos) (tRet te) (tdRet de) := by
  have hk := h.k; subst hk
  exact ⟨rfl, ps_ret h.pe, .ret h.sim⟩
@[simp] def tdRetO (t : TDO) : TDS := fun τ E => t (frz τ) (fun ds => E.rt (.own ds)) (fun x => E.ex x (frz τ))
/-- return x, x a list of one's own -/
@[simp] def tdRetV (i : Nat) : TDS := fun τ E => ∃ ds, τ[i]? = some (some (.own ds)) ∧ E.rt (.own ds)
theorem SimS.retV {i : Nat} : SimS K W Wx (tRet (tVar i)) (tdRetV i) := fun I H σ τ E D ok rp t r => by
  obtain ⟨ds, e, q⟩ := t
  obtain ⟨v, h1, h2⟩ := rp.at_ i _ e
  exact ⟨_, h1, r.rt _ (.own ds) I H q ⟨h2, fun a o => .inr ⟨i, _, v, e, h1, o⟩⟩ ((rp.refl ok).drop fun _ z => z.elim)⟩
@[simp] def tdRetX (t : TDX) : TDS := fun τ E => t (frz τ) (fun s => E.rt s) (fun x => E.ex x (frz τ))
theorem SimS.retX {dX : TDX} (h : SimX K W Wx te dX) : SimS K W Wx (tRet te) (tdRetX dX) := fun I H σ τ E D ok rp t r => by
  obtain ⟨I1, e, ok1, rp1, nw⟩ := rp.frz ok
  refine h I1 H σ (frz τ) _ _ _ ok1 rp1 t (fun v s I2 H2 q2 hs hn l2 => ?_) (r.xokF rp1 e ok1 nw)
  exact r.rt v s I2 H2 q2 ⟨hs, fun a o => .inl (hn a o)⟩ ⟨e.trans l2.ex, l2.ok, fun a o f _ q => l2.fr a o f (fun z => z) q, fun a n q => by
    by_cases h : I1 a = none
    · exact (l2.nw a h q).elim .inl fun z => z.elim
    · exact .inr (nw a n h), fun _ z => z.elim⟩
theorem ds_retX {dX : TDX} (h : DX X K W Wx e te dX) : DS X K W Wx (.Return (some e) pos) (tRet te) (tdRetX dX) := by
  have hk := h.k; subst hk
  exact ⟨rfl, ps_ret h.pe, .retX h.sim⟩
theorem ds_retV (i : Nat) {x : Str} {pos' : Pos} (hN : X.N[i]? = some x := by rfl) (hv : Vis X.env.scope x := by first | exact Or.inl rfl | exact Or.inr (Or.inl rfl) | exact Or.inr (Or.inr rfl)) (hd : (x == ("__debug__" : Str)) = false := by decide)
    (hcd : (x == ("__classdict__" : Str)) = false := by decide) (hk : X.K = K := by rfl) : DS X K W Wx (.Return (some (.Name x pos')) pos) (tRet (tVar i)) (tdRetV i) := by
  subst hk
  exact ⟨rfl, ps_ret (pe_var hN hv hd hcd), .retV⟩
/-- an expression whose value is dropped -/
@[simp] def tdDrop (t : TDE) : TDS := fun τ E => t (frz τ) (fun _ => E.nx τ) (fun x => E.ex x (frz τ))
theorem SimS.drop (h : SimE K W Wx te de) : SimS K W Wx (tDrop te) (tdDrop de) := fun I H σ τ E D ok rp t r => by
  obtain ⟨I1, e, ok1, rp1, nw⟩ := rp.frz ok
  refine h I1 H σ (frz τ) _ _ _ ok1 rp1 t (fun v d I2 H2 q2 i2 l2 => ?_) (r.xokF rp1 e ok1 nw)
  obtain ⟨la, rp2⟩ := Lat.revert rp e nw l2
  exact r.nx σ τ I H2 q2 rp2 la
theorem ds_drop (h : DE X K W Wx e te de) (hs : swapsWith e none pos.line X.env = pure false := by rfl) : DS X K W Wx (.Expr e pos) (tDrop te) (tdDrop de) := by
  have hk := h.k; subst hk
  exact ⟨rfl, ps_expr h.pe hs, .drop h.sim⟩
/-- what slot i owns at p is changed, while nothing else is read -/
theorem Rep.changed {I H : Hp} {σ : St} {τ : Tau} {i : Nat} {s s' : SD} {v : V} {p : Addr} {u : HO} (rp : Rep K W I H σ τ) (ok : W.ok I H) (e : τ[i]? = some (some s)) (hv : σ[i]? = some (some v)) (o : OwnV v s p) (h : At K W I (upd H p u) v s') (k : ∀ a, OwnV v s' a → OwnV v s a) :
    Rep K W I (upd H p u) σ (τ.set i (some s')) ∧ Lat W (Own σ τ) I H (Own σ (τ.set i (some s'))) I (upd H p u) := by
  have hiτ : i < τ.length := (List.getElem?_eq_some_iff.mp e).1
  have own_same : ∀ {j : Nat} {t : SD} {w : V} {a : Addr}, (τ.set i (some s'))[j]? = some (some t) → σ[j]? = some (some w) → OwnV w t a → ∃ t', τ[j]? = some (some t') ∧ OwnV w t' a := fun {j t w a} e1 e2 o1 => by
    rcases getSet e1 with ⟨rfl, _, rfl⟩ | ⟨hj, e1⟩
    · rw [hv] at e2
      cases e2
      exact ⟨s, e, k a o1⟩
    · exact ⟨t, e1, o1⟩
  have os : ∀ a, Own σ (τ.set i (some s')) a → Own σ τ a := fun a ⟨j, t, w, e1, e2, o1⟩ => by
    obtain ⟨t', e1, o1⟩ := own_same e1 e2 o1
    exact ⟨j, t', w, e1, e2, o1⟩
  have ip : Own σ τ p := ⟨i, s, v, e, hv, o⟩
  obtain ⟨hi, hf, _, hp⟩ := rp.owned ip
  refine ⟨⟨by rw [List.length_set]; exact rp.len, fun j t q => ?_, fun j l t t' w w' a e1 e2 e3 e4 o1 o2 => ?_⟩, ⟨Same.refl I, W.mu ok hi hf, fun a o f n q => ?_, fun a n q => absurd n q, fun a o => ⟨rp.free a (os a o), .inr (os a o)⟩⟩⟩
  · rcases getSet q with ⟨rfl, _, rfl⟩ | ⟨hj, q⟩
    · exact ⟨v, hv, h⟩
    · obtain ⟨w, h1, h2⟩ := rp.at_ j t q
      refine ⟨w, h1, h2.keep (Same.refl I) (fun a o => (h2.owned o).1) fun a o1 => upd_ne fun z => ?_⟩
      subst z
      exact hj (rp.inj i j s t v w a e q hv h1 o o1)
  · obtain ⟨u1, e1, o1⟩ := own_same e1 e3 o1
    obtain ⟨u2, e2, o2⟩ := own_same e2 e4 o2
    exact rp.inj j l u1 u2 w w' a e1 e2 e3 e4 o1 o2
  · have ne : a ≠ p := fun z => by
      subst z
      exact n ip
    rw [upd_ne ne]; exact q
/-- slot i's list becomes what f tells of it, while nothing else is read -/
theorem Rep.change {I H : Hp} {σ : St} {τ : Tau} {i : Nat} {ds es : List D} (rp : Rep K W I H σ τ) (ok : W.ok I H) (e : τ[i]? = some (some (.own ds))) :
    ∃ p vs, σ[i]? = some (some (.ref p)) ∧ H p = some (.lst vs) ∧ IsAll K I vs ds ∧ ∀ ws, IsAll K I ws es → Rep K W I (upd H p (.lst ws)) σ (τ.set i (some (.own es))) ∧ Lat W (Own σ τ) I H (Own σ (τ.set i (some (.own es)))) I (upd H p (.lst ws)) := by
  obtain ⟨v, h1, p, vs, rfl, hp, hi, hf, al⟩ := rp.at_ i _ e
  exact ⟨p, vs, h1, hp, al, fun ws aw => rp.changed ok e h1 rfl ⟨p, ws, rfl, upd_same, hi, hf, aw⟩ fun a o => o⟩
/-- x.append(e) -/
@[simp] def tdApp (i : Nat) (t : TDE) : TDS := fun τ E => ∃ ds, τ[i]? = some (some (.own ds)) ∧ ds.length < sizeLine ∧ t τ (fun d => E.nx (τ.set i (some (.own (ds ++ [d]))))) (fun x => E.ex x τ)
theorem tyV_lst {H : Hp} {p : Addr} {vs : List V} (h : H p = some (.lst vs)) : tyV K "list" (.ref p) H := .inl ⟨rfl, vs, SqL.of h⟩
theorem SimS.app {i : Nat} (h : SimE K W Wx te de) : SimS K W Wx (tDrop (tBM K "list" rAppend (tVar i) (tCons te tNil))) (tdApp i de) := fun I H σ τ E D ok rp t r => by
  obtain ⟨ds, e, hz, t⟩ := t
  obtain ⟨v0, h0, p0, vs0, rfl, hp0, hi0, hf0, al0⟩ := rp.at_ i _ e
  refine ⟨_, h0, tyV_lst hp0, h I H σ τ _ _ _ ok rp t (fun v d I1 H1 q1 i1 l1 => ?_) (r.xok rp)⟩
  have rp1 := rp.later l1
  obtain ⟨p, vs, h1, h2, al, k⟩ := rp1.change (es := ds ++ [d]) l1.ok e
  rw [h0] at h1
  cases h1
  obtain ⟨rp2, la⟩ := k (vs ++ [v]) (al.append (.cons i1 .nil))
  exact ⟨_, vs, v, rfl, rfl, h2, by rw [al.length]; exact hz, r.nx _ _ I1 _ q1 rp2 ((rp.own l1).trans la)⟩
theorem ds_app (i : Nat) {x : Str} {p p2 apos : Pos} (he : DE X K W Wx e te de) (hN : X.N[i]? = some x := by rfl) (hv : Vis X.env.scope x := by first | exact Or.inl rfl | exact Or.inr (Or.inl rfl) | exact Or.inr (Or.inr rfl)) (hd : (x == ("__debug__" : Str)) = false := by decide)
    (hcd : (x == ("__classdict__" : Str)) = false := by decide) (hbase : attributeBase (.Name x p) "append" X.env (eval (.Name x p) X.env) = eval (.Name x p) X.env := by rfl)
    (hfew : ((backTo p2 (starEach [e] X.env)).all (fun x => !x.1) && (backToKw p2 (keywordEach [] X.env)).all (fun x => x.1.isSome) && decide ([e].length + ([] : List Keyword).length + (if ([] : List Keyword).isEmpty then 0 else 1) < 30)) = true := by rfl)
    (hline : (apos.endLine == p2.line) = true := by rfl) (hs : starEach [e] X.env = (false, eval e X.env) :: starEach [] X.env := by rfl) (hpl : (backTo p2 (starEach [] X.env)).any (·.1) = false := by rfl) (hsw : swapsWith (.Call (.Attribute (.Name x p) "append" apos) [e] [] p2) none pos.line X.env = pure false := by rfl) :
    DS X K W Wx (.Expr (.Call (.Attribute (.Name x p) "append" apos) [e] [] p2) pos) (tDrop (tBM K "list" rAppend (tVar i) (tCons te tNil))) (tdApp i de) := by
  have hk := he.k; subst hk
  exact ⟨rfl, ps_expr (pe_bm PySem.F.plainAttrs_list PySem.F.slot_list_append PySem.F.type_list_append mt_append (pe_var hN hv hd hcd) (pa_cons he.pe pa_nil hs) hbase hfew hline hs hpl) hsw, .app he.sim⟩
/-- x.reverse(), x.clear() -/
@[simp] def tdUpd (i : Nat) (f : List D → List D) : TDS := fun τ E => ∃ ds, τ[i]? = some (some (.own ds)) ∧ E.nx (τ.set i (some (.own (f ds))))
/-- x.extend(a new list) -/
@[simp] def tdExt (i : Nat) (t : TDO) : TDS := fun τ E => ∃ ds, τ[i]? = some (some (.own ds)) ∧ t τ (fun es => ds.length + es.length ≤ sizeLine ∧ E.nx (τ.set i (some (.own (ds ++ es))))) (fun x => E.ex x τ)
theorem SimS.ext {i : Nat} (h : SimO K W Wx te dO) : SimS K W Wx (tDrop (tBM K "list" rExtend (tVar i) (tCons te tNil))) (tdExt i dO) := fun I H σ τ E D ok rp t r => by
  obtain ⟨ds, e, t⟩ := t
  obtain ⟨v0, h0, p0, vs0, rfl, hp0, hi0, hf0, al0⟩ := rp.at_ i _ e
  refine ⟨_, h0, tyV_lst hp0, h I H σ τ _ _ _ ok rp t (fun b ws es I1 H1 q1 hb hb1 hbi alb l1 => ?_) (r.xok rp)⟩
  have rp1 := rp.later l1
  obtain ⟨p, vs, h1, h2, al, k⟩ := rp1.change (es := ds ++ es) l1.ok e
  rw [h0] at h1
  cases h1
  obtain ⟨rp2, la⟩ := k (vs ++ ws) (al.append alb)
  exact ⟨_, b, vs, ws, rfl, rfl, h2, hb1, by rw [al.length, alb.length]; exact q1.1, r.nx _ _ I1 _ q1.2 rp2 ((rp.own l1).trans la)⟩
theorem ds_ext (i : Nat) {x : Str} {p p2 apos : Pos} (he : DO X K W Wx e te dO) (hN : X.N[i]? = some x := by rfl) (hv : Vis X.env.scope x := by first | exact Or.inl rfl | exact Or.inr (Or.inl rfl) | exact Or.inr (Or.inr rfl)) (hd : (x == ("__debug__" : Str)) = false := by decide)
    (hcd : (x == ("__classdict__" : Str)) = false := by decide) (hbase : attributeBase (.Name x p) "extend" X.env (eval (.Name x p) X.env) = eval (.Name x p) X.env := by rfl)
    (hfew : ((backTo p2 (starEach [e] X.env)).all (fun x => !x.1) && (backToKw p2 (keywordEach [] X.env)).all (fun x => x.1.isSome) && decide ([e].length + ([] : List Keyword).length + (if ([] : List Keyword).isEmpty then 0 else 1) < 30)) = true := by rfl)
    (hline : (apos.endLine == p2.line) = true := by rfl) (hs : starEach [e] X.env = (false, eval e X.env) :: starEach [] X.env := by rfl) (hpl : (backTo p2 (starEach [] X.env)).any (·.1) = false := by rfl) (hsw : swapsWith (.Call (.Attribute (.Name x p) "extend" apos) [e] [] p2) none pos.line X.env = pure false := by rfl) :
    DS X K W Wx (.Expr (.Call (.Attribute (.Name x p) "extend" apos) [e] [] p2) pos) (tDrop (tBM K "list" rExtend (tVar i) (tCons te tNil))) (tdExt i dO) := by
  have hk := he.k; subst hk
  exact ⟨rfl, ps_expr (pe_bm PySem.F.plainAttrs_list PySem.F.slot_list_extend PySem.F.type_list_extend mt_extend (pe_var hN hv hd hcd) (pa_cons he.pe pa_nil hs) hbase hfew hline hs hpl) hsw, .ext he.sim⟩
/-- x[j] = e, x a list of one's own -/
@[simp] def tdSetI (i : Nat) (t u : TDE) : TDS := fun τ E => ∃ ds, τ[i]? = some (some (.own ds)) ∧ t τ (fun d => u τ (fun k => onI k fun k => ∃ j, ixN ds.length k = some j ∧ E.nx (τ.set i (some (.own (ds.set j d))))) (fun x => E.ex x τ)) (fun x => E.ex x τ)
theorem ds_setI (i : Nat) {x : Str} {p pos' : Pos} (he : DE X K W Wx e te de) (hb : DE X K W Wx b tb db) (hN : X.N[i]? = some x := by rfl) (hv : Vis X.env.scope x := by first | exact Or.inl rfl | exact Or.inr (Or.inl rfl) | exact Or.inr (Or.inr rfl)) (hd : (x == ("__debug__" : Str)) = false := by decide)
    (hcd : (x == ("__classdict__" : Str)) = false := by decide) (ha : ∀ v, assign (.Subscript (.Name x p) b pos') X.env v = (do
      let ov ← holding [v] (eval (.Name x p) X.env)
      let iv ← holding [v, ov] (eval b X.env)
      standAt pos'
      holding [v, ov, iv] (setItem ov iv v)
      release [v, ov, iv] []) := by intro _; rfl) (hs : swapsWithSole [.Subscript (.Name x p) b pos'] e pos.line X.env = pure false := by rfl) (hw : swappedStores [.Subscript (.Name x p) b pos'] e X.env = pure none := by rfl)
    (h1 : (assignEach [.Subscript (.Name x p) b pos'] X.env).map (·.2) = [assign (.Subscript (.Name x p) b pos') X.env] := by rfl) :
    DS X K W Wx (.Assign [.Subscript (.Name x p) b pos'] e pos) (tAsg te (gSub (tVar i) tb rSetL)) (tdSetI i de db) := by
  have hk := he.k; subst hk
  exact ⟨rfl, ps_asg he.pe (pg_sub (pe_var hN hv hd hcd) hb.pe set_list ha) hs hw h1, fun I H σ τ E D ok rp t r => by
    obtain ⟨ds, e, t⟩ := t
    obtain ⟨v0, h0, p0, vs0, rfl, hp0, hi0, hf0, al0⟩ := rp.at_ i _ e
    refine he.sim I H σ τ _ _ _ ok rp t (fun v d I1 H1 q1 i1 l1 => ?_) (r.xok rp)
    have rp1 := rp.later l1
    refine ⟨_, h0, hb.sim I1 H1 σ τ _ _ _ l1.ok rp1 q1 (fun iv dk I2 H2 q2 i2 l2 => ?_) ((r.xok rp).later l1)⟩
    obtain ⟨k, rfl, j, hj, q⟩ := i_of i2 q2
    have rp2 := rp1.later l2
    obtain ⟨p, vs, h1, h2, al, kk⟩ := rp2.change (es := ds.set j d) l2.ok e
    rw [h0] at h1
    cases h1
    obtain ⟨rp3, la⟩ := kk (vs.set j v) (IsAll.set (i1.mono l2.ex) j al)
    exact ⟨_, vs, k, j, rfl, rfl, h2, by rw [al.length]; exact hj, r.nx _ _ I2 _ q rp3 ((rp.own (l1.trans l2)).trans la)⟩⟩
/-- the turns of a loop -/
def forD (g : TDG) (tb : TDS) : List D → Tau → DEnds → Prop
  | [], τ, E => E.nx τ
  | d :: ds, τ, E => g d τ fun τ1 => tb τ1 { E with nx := fun τ2 => forD g tb ds τ2 E, ct := fun τ2 => forD g tb ds τ2 E, bk := E.nx }
@[simp] def tdFor (ti : TDI) (g : TDG) (tb : TDS) : TDS := fun τ E => ti τ (fun ds => forD g tb ds τ E) (fun x => E.ex x τ)
theorem SimS.for_ {wi : TI} {ti : TDI} {g : TG} {gd : TDG} {idx : List Nat} {tb : TS} {db : TDS} (hi : SimI K W Wx wi ti) (hg : SimG K W g gd idx) (hb : SimS K W Wx tb db) : SimS K W Wx (tFor wi g tb) (tdFor ti gd db) := fun I H σ τ E D ok rp t r =>
  hi I H σ τ _ _ _ ok rp t (fun J ds I1 H1 q1 wk l1 => by
    refine ⟨fun i m σ' H' => ∃ (I' : Hp) (τ' : Tau), m = ds.length - i ∧ i ≤ ds.length ∧ Same I1 I' ∧ Rep K W I' H' σ' τ' ∧ Lat W (Own σ τ) I H (Own σ' τ') I' H' ∧ forD gd db (ds.drop i) τ' E, ⟨ds.length, I1, τ, by simp, Nat.zero_le _, Same.refl _, rp.later l1, rp.own l1, q1⟩, ?_⟩
    rintro i m σ2 H2 ⟨I2, τ2, rfl, hil, e2, rp2, la2, c⟩
    obtain ⟨w1, w2⟩ := wk i I2 H2 e2 la2.ok
    by_cases hlt : i < ds.length
    · obtain ⟨go, yl⟩ := w1 hlt
      refine .inr ⟨go, fun σ' H' => ∃ (I' : Hp) (τ' : Tau), Same I1 I' ∧ Rep K W I' H' σ' τ' ∧ Lat W (Own σ τ) I H (Own σ' τ') I' H' ∧ forD gd db (ds.drop (i + 1)) τ' E, ?_, ?_⟩
      · rintro σ' H' ⟨I', τ', h1, h2, h3, h4⟩
        exact ⟨ds.length - (i + 1), by omega, I', τ', rfl, hlt, h1, h2, h3, h4⟩
      · intro x H3 y
        obtain ⟨I3, d, hd, l3, ix⟩ := yl x H3 y
        have hdrop : ds.drop i = d :: ds.drop (i + 1) := by
          obtain ⟨h1, h2⟩ := List.getElem?_eq_some_iff.mp hd
          rw [← h2]; exact List.drop_eq_getElem_cons h1
        rw [hdrop] at c
        have la3 := la2.trans (rp2.own l3)
        refine hg I3 H3 σ2 τ2 x d _ _ l3.ok (rp2.later l3) ix c fun σ4 τ4 q4 rp4 o4 _ => ?_
        have la4 := la3.drop o4
        refine hb I3 H3 σ4 τ4 _ _ l3.ok rp4 q4 ?_
        have r4 := r.later la4
        have nx : ∀ σ5 τ5 I5 H5, forD gd db (ds.drop (i + 1)) τ5 E → Rep K W I5 H5 σ5 τ5 → Lat W (Own σ4 τ4) I3 H3 (Own σ5 τ5) I5 H5 → ∃ (I' : Hp) (τ' : Tau), Same I1 I' ∧ Rep K W I' H5 σ5 τ' ∧ Lat W (Own σ τ) I H (Own σ5 τ') I' H5 ∧ forD gd db (ds.drop (i + 1)) τ' E :=
          fun σ5 τ5 I5 H5 q5 rp5 l5 => ⟨I5, τ5, (e2.trans l3.ex).trans l5.ex, rp5, la4.trans l5, q5⟩
        exact ⟨nx, r4.nx, nx, r4.rt, r4.ex⟩
    · have e : i = ds.length := by omega
      subst e
      refine .inl ⟨w2 (Nat.le_refl _), ?_⟩
      rw [List.drop_length] at c
      exact r.nx σ2 τ2 I2 H2 c rp2 la2) (r.xok rp)
theorem ds_for {iter tg : Expr} {body : List Stmt} {wi : TI} {ti : TDI} {g : TG} {gd : TDG} {idx : List Nat} {tb : TS} {db : TDS} (hp : PassesOwn (model X.prog X.w) X.A X.env X.xe) (hc : X.calm = true) (hi : DI X K W Wx tg iter wi ti) (hg : DG X K W tg g gd idx) (hb : DSs X K W Wx body tb db)
    (hs : ∀ x, foldedSetIterable iter X.env x = pure x := by intro _; rfl) : DS X K W Wx (.For tg iter body [] pos) (tFor wi g tb) (tdFor ti gd db) := by
  have hk := hi.k; subst hk
  exact ⟨rfl, ps_for hp hc hi.pi hg.pg hb.ps hs, .for_ hi.sim hg.sim hb.sim⟩
end
/-- the slots at a def's entry -/
@[simp] def startT (n : Nat) (ds : List D) : Tau := ds.map (fun d => some (.dat d)) ++ List.replicate (n - ds.length) none
section
variable {K : PySem.W.Frag} {W : Wd} {Wx : WX}
theorem start_rep {I H : Hp} {N : List Str} {vs : List V} {ds : List D} (al : IsAll K I vs ds) : Rep K W I H (start N vs) (startT N.length ds) := by
  have hl := al.length
  refine ⟨by unfold L2.start startT; simp [hl], fun i s e => ?_, fun i j s t v w a e1 _ _ _ o1 => ?_⟩
  · unfold startT at e
    unfold L2.start
    by_cases hi : i < ds.length
    · rw [List.getElem?_append_left (by simpa using hi)] at e
      rw [List.getElem?_append_left (by simpa [hl] using hi)]
      rw [List.getElem?_map] at e ⊢
      rw [List.getElem?_eq_getElem hi] at e
      cases e
      obtain ⟨v, h1, h2⟩ := al.get (List.getElem?_eq_getElem hi)
      exact ⟨v, by rw [h1]; rfl, h2⟩
    · rw [List.getElem?_append_right (by simpa using Nat.le_of_not_lt hi), List.getElem?_replicate] at e
      split at e <;> cases e
  · exfalso
    unfold startT at e1
    by_cases hi : i < ds.length
    · rw [List.getElem?_append_left (by simpa using hi), List.getElem?_map, List.getElem?_eq_getElem hi] at e1
      cases e1
      exact o1
    · rw [List.getElem?_append_right (by simpa using Nat.le_of_not_lt hi), List.getElem?_replicate] at e1
      split at e1 <;> cases e1
theorem own_start {N : List Str} {vs : List V} {ds : List D} {n : Nat} {a : Addr} (h : Own (start N vs) (startT n ds) a) : False := by
  obtain ⟨i, s, v, e1, _, o⟩ := h
  unfold startT at e1
  by_cases hi : i < ds.length
  · rw [List.getElem?_append_left (by simpa using hi), List.getElem?_map, List.getElem?_eq_getElem hi] at e1
    cases e1
    exact o
  · rw [List.getElem?_append_right (by simpa using Nat.le_of_not_lt hi), List.getElem?_replicate] at e1
    split at e1 <;> cases e1
/-- what a def's caller wants, at the def's entry -/
@[simp] def endsD (Q : D → Prop) (R : Exc → Prop) : DEnds := { nx := fun _ => Q .non, rt := fun s => match s with | .dat d => Q d | .own ds => Q (.lst ds) | .obj _ C fs => Q (.ins C fs) | .tupo _ pre ds post => Q (.tup (pre ++ .lst ds :: post)) | .dk gs => Q (.dic gs) | .dt g gs => Q (.dt g gs) | .wd _ pre k post g gs => Q (.dic (pre ++ (k, .dt g gs) :: post)), ex := fun x _ => R x }
@[simp] def endsO (Q : List D → Prop) (R : Exc → Prop) : DEnds := { nx := fun _ => False, rt := fun s => match s with | .own ds => Q ds | _ => False, ex := fun x _ => R x }
@[simp] def endsX (Q : SD → Prop) (R : Exc → Prop) : DEnds := { nx := fun _ => Q (.dat .non), rt := Q, ex := fun x _ => R x }
/-- a dict with a dict in it is data from now on -/
theorem At.wdFrz {I H I' H' : Hp} {v : V} {q : Addr} {pre post : List (Key × D)} {k : Key} {g : PGw} {gs : List (List Key × D)} (ok : W.ok I H) (h : At K W I' H' v (.wd q pre k post g gs)) (hn : ∀ a, OwnV v (.wd q pre k post g gs) a → H a = none) (l : Later W I H I' H') :
    ∃ I2, Is K I2 v (.dic (pre ++ (k, .dt g gs) :: post)) ∧ Later W I H I2 H' := by
  obtain ⟨p, ob, us, as, bs, rfl, hp, hi, hf, r1, r2, hq, hiq, hfq, y, o, al⟩ := h
  have hpq : p ≠ q := ne_of hp hq (by intro z; cases z)
  have s1 : Same I' (upd I' q (pinO q ob)) := Same.new hiq
  have i2 : (upd I' q (pinO q ob)) p = none := by rw [upd_ne hpq]; exact hi
  have s2 : Same (upd I' q (pinO q ob)) (upd (upd I' q (pinO q ob)) p (.dK (as ++ (k, .ref q) :: bs))) := Same.new i2
  have s12 := s1.trans s2
  refine ⟨_, .dic upd_same ((IsKv.mono s12 r1).app (.cons (.dt (s2 _ _ upd_same) y o (IsT.mono s12 al)) (IsKv.mono s12 r2))), ?_⟩
  exact Later.freeze ok (Later.freeze ok l hiq (hn q (.inr rfl)) hq) i2 (hn p (.inl rfl)) hp
theorem relD {I H : Hp} {N : List Str} {vs : List V} {ds : List D} {Q : D → Prop} {R : Exc → Prop} {G : VK} {E : XK} (ok : W.ok I H) (hq : ∀ v d I' H', Q d → Is K I' v d → Later W I H I' H' → G v H')
    (hx : ∀ cls da x I' H', R x → IsX K I' cls da x → Later W I H I' H' → E cls da H') : Rel K W (fun cls d _ H => E cls d H) (Own (start N vs) (startT N.length ds)) I H (endsD Q R) { nx := fun _ H' => G .non H', rt := G } := by
  have lt : ∀ {O I' H'}, Lat W (Own (start N vs) (startT N.length ds)) I H O I' H' → Later W I H I' H' := fun l =>
    ⟨l.ex, l.ok, fun a o f _ e => l.fr a o f (fun z => own_start z) e, fun a n e => (l.nw a n e).elim .inl fun z => (own_start z).elim, fun _ z => z.elim⟩
  refine ⟨fun σ τ I' H' q _ l => hq .non _ I' H' q (.v _) (lt l), fun _ _ _ _ z _ _ => z, fun _ _ _ _ z _ _ => z, fun v s I' H' q rv l => ?_, fun cls da x σ τ I' H' q ix _ l => hx cls da x I' H' q ix (lt l)⟩
  obtain ⟨ha, hn⟩ := rv
  have hn : ∀ a, OwnV v s a → H a = none := fun a o => (hn a o).elim id fun z => (own_start z).elim
  cases s with
  | dat d => exact hq v d I' H' q ha (lt l)
  | own es =>
    obtain ⟨p, ws, rfl, hp, hi, hf, al⟩ := ha
    exact hq _ _ (upd I' p (.lst ws)) H' q (.lst upd_same (al.mono (Same.new hi))) (Later.freeze ok (lt l) hi (hn p rfl) hp)
  | obj p C fs =>
    obtain ⟨dx, ws, rfl, hp, hi, hf, al⟩ := ha
    exact hq _ _ (upd I' p (.ins C dx ws)) H' q (.ins upd_same (al.mono (Same.new hi))) (Later.freeze ok (lt l) hi (hn p rfl) hp)
  | tupo p pre es post =>
    obtain ⟨t, us, zs, ws, rfl, st, h1, h2, hp, hi, hf, al⟩ := ha
    have sm := Same.new (o := .lst ws) hi
    exact hq _ _ (upd I' p (.lst ws)) H' q (.tup (Same.seqN sm st) ((h1.mono sm).append (.cons (.lst upd_same (al.mono sm)) (h2.mono sm)))) (Later.freeze ok (lt l) hi (hn p rfl) hp)
  | dk gs =>
    obtain ⟨p, ws, rfl, hp, hi, hf, al⟩ := ha
    exact hq _ _ (upd I' p (.dK ws)) H' q (.dic upd_same (IsKv.mono (Same.new hi) al)) (Later.freeze ok (lt l) hi (hn p rfl) hp)
  | dt g gs =>
    obtain ⟨p, ob, us, rfl, hp, hi, hf, y, o, al⟩ := ha
    exact hq _ _ (upd I' p (pinO p ob)) H' q (.dt upd_same y o (IsT.mono (Same.new hi) al)) (Later.freeze ok (lt l) hi (hn p rfl) hp)
  | wd qq pre k post g gs =>
    obtain ⟨_, i, l2⟩ := At.wdFrz ok ha hn (lt l)
    exact hq _ _ _ H' q i l2
theorem relO {I H : Hp} {N : List Str} {vs : List V} {ds : List D} {Q : List D → Prop} {R : Exc → Prop} {G : VK} {E : XK} (ok : W.ok I H) (hq : ∀ p ws es I' H', Q es → H p = none → H' p = some (.lst ws) → I' p = none → IsAll K I' ws es → Later W I H I' H' → G (.ref p) H')
    (hx : ∀ cls da x I' H', R x → IsX K I' cls da x → Later W I H I' H' → E cls da H') : Rel K W (fun cls d _ H => E cls d H) (Own (start N vs) (startT N.length ds)) I H (endsO Q R) { nx := fun _ H' => G .non H', rt := G } := by
  have lt : ∀ {O I' H'}, Lat W (Own (start N vs) (startT N.length ds)) I H O I' H' → Later W I H I' H' := fun l =>
    ⟨l.ex, l.ok, fun a o f _ e => l.fr a o f (fun z => own_start z) e, fun a n e => (l.nw a n e).elim .inl fun z => (own_start z).elim, fun _ z => z.elim⟩
  refine ⟨fun _ _ _ _ z _ _ => z.elim, fun _ _ _ _ z _ _ => z, fun _ _ _ _ z _ _ => z, fun v s I' H' q rv l => ?_, fun cls da x σ τ I' H' q ix _ l => hx cls da x I' H' q ix (lt l)⟩
  obtain ⟨ha, hn⟩ := rv
  have hn : ∀ a, OwnV v s a → H a = none := fun a o => (hn a o).elim id fun z => (own_start z).elim
  cases s with
  | dat d => exact q.elim
  | own es =>
    obtain ⟨p, ws, rfl, hp, hi, hf, al⟩ := ha
    exact hq p ws es I' H' q (hn p rfl) hp hi al (lt l)
  | obj p C fs => exact q.elim
  | tupo p pre es post => exact q.elim
  | dk gs => exact q.elim
  | dt g gs => exact q.elim
  | wd _ _ _ _ _ _ => exact q.elim
end
section
variable {P : Program} {w : World} {K : PySem.W.Frag} {mg : Str → Option Value} {base : Heap}
/-- THE RULE for a def that raises nothing, handing back data -/
theorem okD {x qual : Str} {st : Stmt} {f : Addr} {fd : FuncData} {N ps : List Str} {k : Nat} {t : TF} (F : Fun K x qual st f fd) (S : FnScope N ps (defScope st))
    (hbody : ∀ (cdv : Value) (A : Around) (outer : List Env) (s : Shared) (H : Hp) (E : XK), RoomG k (A.deeper (PyProof.Rows.envOfC qual (defScope st) s.heap.objs.size f cdv)) →
      ∃ (ts : TS) (td : Wd → TDS), (∀ W, DSs (cxOf CX0 P w K mg base N qual (defScope st) f cdv A outer s H E).nox K W (fun _ _ _ _ => False) (defBody st) ts (td W)) ∧
        ∀ (W : Wd) (ds : List D) (Q : D → Prop), ds.length = ps.length → t W ds Q (fun _ => False) → td W (startT N.length ds) (endsD Q fun _ => False))
    (hR : ∀ W ds Q R, t W ds Q R → t W ds Q fun _ => False) : FnG P w K mg base CX0 (k + 1) f fd ps (spD K ps.length t) := by
  refine fnG0 F S (fun vs H Q E h => spD_len h) fun cdv A outer s H vs Q E hr h => ?_
  obtain ⟨W, I, ds, Qd, R, ok, al, hl, ht, hq, hx⟩ := h
  obtain ⟨ts, td, hd, hm⟩ := hbody cdv A outer s H E hr
  refine ⟨ts, (hd W).ps, (hd W).sim I H _ _ _ _ ok (start_rep al) (hm W ds Qd hl (hR _ _ _ _ ht)) ?_⟩
  have r := relD (N := N) (vs := vs) (ds := ds) (Q := Qd) (R := fun _ => False) (G := Q) (E := fun _ _ _ => False) ok hq (fun _ _ _ _ _ z _ _ => z)
  exact r
theorem okO {x qual : Str} {st : Stmt} {f : Addr} {fd : FuncData} {N ps : List Str} {k : Nat} {t : TFO} (F : Fun K x qual st f fd) (S : FnScope N ps (defScope st))
    (hbody : ∀ (cdv : Value) (A : Around) (outer : List Env) (s : Shared) (H : Hp) (E : XK), RoomG k (A.deeper (PyProof.Rows.envOfC qual (defScope st) s.heap.objs.size f cdv)) →
      ∃ (ts : TS) (td : Wd → TDS), (∀ W, DSs (cxOf CX0 P w K mg base N qual (defScope st) f cdv A outer s H E).nox K W (fun _ _ _ _ => False) (defBody st) ts (td W)) ∧
        ∀ (W : Wd) (ds : List D) (Q : List D → Prop), ds.length = ps.length → t W ds Q (fun _ => False) → td W (startT N.length ds) (endsO Q fun _ => False))
    (hR : ∀ W ds Q R, t W ds Q R → t W ds Q fun _ => False) : FnG P w K mg base CX0 (k + 1) f fd ps (spO K ps.length t) := by
  refine fnG0 F S (fun vs H Q E h => spO_len h) fun cdv A outer s H vs Q E hr h => ?_
  obtain ⟨W, I, ds, Qd, R, ok, al, hl, ht, hq, hx⟩ := h
  obtain ⟨ts, td, hd, hm⟩ := hbody cdv A outer s H E hr
  refine ⟨ts, (hd W).ps, (hd W).sim I H _ _ _ _ ok (start_rep al) (hm W ds Qd hl (hR _ _ _ _ ht)) ?_⟩
  exact relO (N := N) (vs := vs) (ds := ds) (Q := Qd) (R := fun _ => False) (G := Q) (E := fun _ _ _ => False) ok hq (fun _ _ _ _ _ z _ _ => z)
/-- .. for a def that may raise -/
theorem okDX {x qual : Str} {st : Stmt} {f : Addr} {fd : FuncData} {N ps : List Str} {k : Nat} {t : TF} (F : Fun K x qual st f fd) (S : FnScope N ps (defScope st))
    (hbody : ∀ (cdv : Value) (A : Around) (outer : List Env) (s : Shared) (H : Hp) (E : XK), RoomG k (A.deeper (PyProof.Rows.envOfC qual (defScope st) s.heap.objs.size f cdv)) →
      ∃ (ts : TS) (td : Wd → TDS), (∀ W, DSs (cxOf (L2.CX P w) P w K mg base N qual (defScope st) f cdv A outer s H E) K W (fun cls d _ H => E cls d H) (defBody st) ts (td W)) ∧
        ∀ (W : Wd) (ds : List D) (Q : D → Prop) (R : Exc → Prop), ds.length = ps.length → t W ds Q R → td W (startT N.length ds) (endsD Q R)) : FnG P w K mg base (L2.CX P w) (k + 1) f fd ps (spD K ps.length t) := by
  refine fnG F S (fun vs H Q E h => spD_len h) fun cdv A outer s H vs Q E hr h => ?_
  obtain ⟨W, I, ds, Qd, R, ok, al, hl, ht, hq, hx⟩ := h
  obtain ⟨ts, td, hd, hm⟩ := hbody cdv A outer s H E hr
  exact ⟨ts, (hd W).ps, (hd W).sim I H _ _ _ _ ok (start_rep al) (hm W ds Qd R hl ht) (relD ok hq hx)⟩
end
end D3
set_option Elab.async false
set_option linter.all false
set_option maxRecDepth 100000
set_option maxHeartbeats 2000000
namespace D3
open PySem L2
/-- the bag stands at b, its cells at c -/
def bagW (b c : Addr) (cells : List Int) : Wd where
  ok := fun I H => Same I H ∧ I b = none ∧ I c = none ∧ b ≠ c ∧ (∀ x ∈ cells, 0 ≤ x) ∧ cells.length ≤ 63 ∧ H c = some (.lst (cells.map V.int)) ∧ ∃ n m k : Int, 0 ≤ n ∧ 0 ≤ k ∧ H b = some (.lst [.int n, .int m, .int k, .ref c])
  free := fun a => a ≠ b ∧ a ≠ c
  ex := fun h => h.1
  alo := fun {I H p o} ⟨h1, h2, h3, h4, h5, h6, h7, n, m, k, h8, h9, h10⟩ hp => ⟨Same.up h1 (Same.non h1 hp), h2, h3, h4, h5, h6, by rw [upd_ne (ne_of_none h7 hp)]; exact h7, n, m, k, h8, h9, by rw [upd_ne (ne_of_none h10 hp)]; exact h10⟩
  fr := fun {I H p} ⟨h1, h2, h3, h4, h5, h6, h7, n, m, k, h8, h9, h10⟩ hp => ⟨(ne_of_none h10 hp).symm, (ne_of_none h7 hp).symm⟩
  mu := fun {I H p o} ⟨h1, h2, h3, h4, h5, h6, h7, n, m, k, h8, h9, h10⟩ hi ⟨f1, f2⟩ => ⟨Same.up h1 hi, h2, h3, h4, h5, h6, by rw [upd_ne (Ne.symm f2)]; exact h7, n, m, k, h8, h9, by rw [upd_ne (Ne.symm f1)]; exact h10⟩
  fzs := fun {I I' H} ⟨h1, h2, h3, h4, h5, h6, h7⟩ hk => ⟨fun a o e => by
    rcases hk a with q | ⟨_, _, q⟩
    · rw [q] at e; exact h1 a o e
    · rw [q] at e; exact e, by
    rcases hk b with q | ⟨_, f, _⟩
    · rw [q]; exact h2
    · exact absurd rfl f.1, by
    rcases hk c with q | ⟨_, f, _⟩
    · rw [q]; exact h3
    · exact absurd rfl f.2, h4, h5, h6, h7⟩
  nb := fun {I H a} ⟨h1, h2, h3, _⟩ f => by
    by_cases e : a = b
    · rw [e]; exact h2
    · by_cases e2 : a = c
      · rw [e2]; exact h3
      · exact absurd ⟨e, e2⟩ f
  anti := fun {I I' H} ⟨h1, h2, h3, h4⟩ e => ⟨e.trans h1, Same.non e h2, Same.non e h3, h4⟩
/-- a[i] of a list, for op= -/
def rGetL (K : PySem.W.Frag) : V → V → Hp → VK → Prop := fun x y H Q => ∃ p xs i v, x = .ref p ∧ y = .int i ∧ SqL K H p xs ∧ 0 ≤ i ∧ i < 2 ^ 63 ∧ xs[i.toNat]? = some v ∧ Q v H
theorem get_list {X : Cx} : PGet X (rGetL X.K) := by
  intro pins s σ H o i ov iv Q I ro ri h
  obtain ⟨p, xs, j, v, rfl, rfl, hq, h0, h1, he, q⟩ := h
  cases ro
  obtain ⟨t, rfl⟩ := ri
  obtain ⟨its, r, pl, hz⟩ := I.list hq
  obtain ⟨w, ew, rw'⟩ := r.get he
  exact PySem.wpAny_getItem_list pl.isList h0 h1 (by simpa using ew) ⟨v, H, I, rw', q⟩
theorem atI_some {α : Type} {xs : List α} {k : Int} (h0 : 0 ≤ k) (h1 : k < xs.length) : ∃ v, atI xs k = some v ∧ v ∈ xs := by
  have h2 : k.toNat < xs.length := by omega
  refine ⟨xs[k.toNat], ?_, List.getElem_mem h2⟩
  have e : (k.toNat : Int) = k := by omega
  have q : atI xs (k.toNat : Int) = some xs[k.toNat] := atI_nat (List.getElem?_eq_getElem h2)
  rw [e] at q
  exact q
/-- what the law's draw tells: a number below so many; the bag goes on -/
def tTake : TF := fun W ds Q _ => ∃ (b c : Addr) (cells : List Int) (n : Int), W = bagW b c cells ∧ ds = [.v (.ref b), .int n] ∧ 0 < n ∧ n ≤ 10000000000000000000000000000000000000000 ∧ ∀ v : Int, 0 ≤ v → v < n → Q (.int v)
theorem take_i {b c : Addr} {cells : List Int} {n : Int} {Q : D → Prop} {R : Exc → Prop} (h0 : 0 < n) (h1 : n ≤ 10000000000000000000000000000000000000000) (h : ∀ v : Int, 0 ≤ v → v < n → Q (.int v)) : tTake (bagW b c cells) [.v (.ref b), .int n] Q R := ⟨b, c, cells, n, rfl, rfl, h0, h1, h⟩
/-- the bag as it stands -/
def BagAt (b c : Addr) (cells : List Int) (I H0 H : Hp) (n m k : Int) : Prop := Later (bagW b c cells) I H0 I H ∧ 0 ≤ n ∧ 0 ≤ k ∧ H b = some (.lst [.int n, .int m, .int k, .ref c])
theorem BagAt.cells {b c : Addr} {cells : List Int} {I H0 H : Hp} {n m k : Int} (h : BagAt b c cells I H0 H n m k) : H c = some (.lst (cells.map V.int)) ∧ (∀ x ∈ cells, 0 ≤ x) ∧ cells.length ≤ 63 := ⟨h.1.ok.2.2.2.2.2.2.1, h.1.ok.2.2.2.2.1, h.1.ok.2.2.2.2.2.1⟩
theorem BagAt.set {b c : Addr} {cells : List Int} {I H0 H : Hp} {n m k n' m' k' : Int} (h : BagAt b c cells I H0 H n m k) (hn : 0 ≤ n') (hk : 0 ≤ k') : BagAt b c cells I H0 (upd H b (.lst [.int n', .int m', .int k', .ref c])) n' m' k' := by
  obtain ⟨l, h1, h2, h3⟩ := h
  obtain ⟨o1, o2, o3, o4, o5, o6, o7, _⟩ := l.ok
  refine ⟨⟨l.ex, ⟨Same.up o1 o2, o2, o3, o4, o5, o6, by rw [upd_ne (Ne.symm o4)]; exact o7, n', m', k', hn, hk, upd_same⟩, fun a o f z e => ?_, l.nw, l.ow⟩, hn, hk, upd_same⟩
  rw [upd_ne f.1]
  exact l.fr a o f z e
/-- draws, for all places where the text is such -/
theorem read_take {K : PySem.W.Frag} {t : TS} {W : Wd} {I H : Hp} {vs : List V} {ds : List D} {Q : D → Prop} {R : Exc → Prop} {G : VK} (ok : W.ok I H) (al : IsAll K I vs ds) (ht : tTake W ds Q R) (hq : ∀ v d I' H', Q d → Is K I' v d → Later W I H I' H' → G v H')
    (h : ∀ (b c : Addr) (cells : List Int) (n0 m0 k0 many : Int), BagAt b c cells I H H n0 m0 k0 → 0 < many → many ≤ 10000000000000000000000000000000000000000 → (∀ (v : Int) (n m k : Int) (H' : Hp), 0 ≤ v → v < many → BagAt b c cells I H H' n m k → G (.int v) H') → vs = [.ref b, .int many] → t { nx := fun _ H' => G .non H', rt := G } (L2.start ["a", "b", "c", "d", "e", "f"] vs) H) :
    t { nx := fun _ H' => G .non H', rt := G } (L2.start ["a", "b", "c", "d", "e", "f"] vs) H := by
  obtain ⟨b, c, cells, n, rfl, rfl, h0, h1, kk⟩ := ht
  obtain ⟨v1, v2, rfl, i1, i2⟩ := isAll2 al
  cases i1; cases i2
  obtain ⟨o1, o2, o3, o4, o5, o6, o7, n0, m0, k0, p1, p2, p3⟩ := id ok
  exact h b c cells n0 m0 k0 n ⟨Later.refl ok, p1, p2, p3⟩ h0 h1 (fun v n m k H' q1 q2 B => hq _ _ I H' (kk v q1 q2) (.v _) B.1) rfl
theorem of_seq {t u : TS} {D : Ends} {σ : St} {H : Hp} (P : St → Hp → Prop) (h2 : ∀ σ H, P σ H → u D σ H) (h1 : (∀ σ H, P σ H → u D σ H) → t { D with nx := u D } σ H) : tSeq t u D σ H := h1 h2
theorem seq_c {u : TS} {D : Ends} {σ : St} {H : Hp} {i : Nat} {v : V} (h : u D (σ.set i (some v)) H) : tSeq (tAsg (tC v) (gName i)) u D σ H := h
end D3
set_option Elab.async false
set_option linter.all false
set_option maxRecDepth 100000
set_option maxHeartbeats 2000000
namespace D3
open PySem L2
/-- a text the other way about -/
def revS (z : Str) : Str := ⟨z.cps.toList.reverse.toArray⟩
section
variable {X : Cx} {e st : Expr} {te ts : TE} {to : TO} {p2 pos : Pos}
variable {W : Wd} {Wx : WX} {de : TDE} {dp : TDO2}
/-- of a list -/
@[simp] def tdRevL (t : TDE) (u : TDO2) : TDO := fun τ Q R => t τ (fun x => u τ (fun o => o = some (-1) ∧ onLst x fun ds => Q ds.reverse) R) R
/-- of a text -/
@[simp] def tdRevS (t : TDE) (u : TDO2) : TDE := fun τ Q R => t τ (fun x => u τ (fun o => o = some (-1) ∧ onStr x fun z => z.length ≤ sizeLine ∧ Q (.str (revS z))) R) R
/-- -a -/
@[simp] def tdNeg (t : TDE) : TDE := fun τ Q R => t τ (fun x => onI x fun i => Q (.int (-i))) R
theorem de_neg (he : DE X K W Wx e te de) : DE X K W Wx (.UnaryOp .USub e pos) (tUn (rU fun i => .int (-i)) te) (tdNeg de) := by
  have hk := he.k; subst hk
  exact ⟨rfl, pe_un un_neg he.pe, fun I H σ τ Q R G ok rp t hq hx => he.sim I H σ τ _ R _ ok rp t (fun v d I1 H1 q1 i1 l1 => by
    obtain ⟨i, rfl, q⟩ := i_of i1 q1
    exact ⟨i, rfl, hq _ _ I1 H1 q (.v _) l1⟩) hx⟩
end
end D3
set_option Elab.async false
set_option linter.all false
set_option maxRecDepth 100000
set_option maxHeartbeats 2000000
namespace D3
open PySem L2
/-- a def of the top -/
structure HasFn (K : PySem.W.Frag) (mg : Str → Option Value) (x : Str) (st : Stmt) (ps : List Str) (f : Addr) (fd : FuncData) : Prop where
  F : Fun K x x st f fd
  g : mg x = some (.ref f)
  b : Binds K fd ps []
theorem HasFn.k {K : PySem.W.Frag} {mg : Str → Option Value} {x : Str} {st : Stmt} {ps : List Str} {f : Addr} {fd : FuncData} (h : HasFn K mg x st ps f fd) : PySem.W.keepIn K (.ref f) = true := h.F.kp
/-- a flat constant of the top -/
def HasC (mg : Str → Option Value) (x : Str) (v : V) : Prop := ∃ u, mg x = some u ∧ RelV v u
theorem hasFn_mk {K : PySem.W.Frag} {h : Heap} {mg : Str → Option Value} {x : Str} {st : Stmt} {ps : List Str} {f : Addr} {oc : Value} {od an : Option Addr} {osl : Array (Option Value)} {kV doc pm cdv ct : Value} (X : K.In h) (G : h.Ns mainGlobals mg)
    (a : PySem.W.nsIn K mainGlobals x = some (some (.ref f))) (l : K.lookup f = some ⟨oc, od, .func (PySem.W.fnOf x x (defArgs st) (defBody st) (defScope st) .none kV doc pm an cdv ct), osl⟩) (c : PySem.W.codeIn K cdv x = true) (k : PySem.W.keepIn K (.ref f) = true)
    (hb : ∀ us : List Value, us.length = ps.length → bindArgs (PySem.W.fnOf x x (defArgs st) (defBody st) (defScope st) .none kV doc pm an cdv ct) ⟨us, []⟩ = pure (ps.zip us)) :
    HasFn K mg x st ps f (PySem.W.fnOf x x (defArgs st) (defBody st) (defScope st) .none kV doc pm an cdv ct) := ⟨fun_mk l c k, PySem.W.mg_of X G a, Binds.all hb⟩
theorem hasC_str {K : PySem.W.Frag} {h : Heap} {mg : Str → Option Value} {x s : Str} {t : Tok} (X : K.In h) (G : h.Ns mainGlobals mg) (a : PySem.W.nsIn K mainGlobals x = some (some (.str s t))) : HasC mg x (.str s) := ⟨_, PySem.W.mg_of X G a, t, rfl⟩
theorem hasC_int {K : PySem.W.Frag} {h : Heap} {mg : Str → Option Value} {x : Str} {s : Int} {t : Tok} (X : K.In h) (G : h.Ns mainGlobals mg) (a : PySem.W.nsIn K mainGlobals x = some (some (.int s t))) : HasC mg x (.int s) := ⟨_, PySem.W.mg_of X G a, t, rfl⟩
def absI (x : Int) : Int := if x < 0 then -x else x
def spBag (K : PySem.W.Frag) : Sp := fun vs H Q _ => ∃ (a : Addr) (ns : List Int), vs = [.ref a] ∧ SqL K H a (ns.map V.int) ∧ ns.length ≤ 63 ∧
  ∀ p c H', Same H H' → H p = none → H c = none → p ≠ c → H' p = some (.lst [.int 0, .int 1234567891, .int 0, .ref c]) → H' c = some (.lst ((ns.map absI).map V.int)) → Q (.ref p) H'
theorem cut63 {xs : List V} (h : xs.length ≤ 63) : cutV xs none (some 63) = xs := by
  unfold cutV
  have e1 : HT.sIx xs.length 0 none = 0 := rfl
  have e2 : HT.sIx xs.length xs.length (some 63) = xs.length := by
    have := HT.sIx_nat xs.length xs.length 63
    rw [show ((63 : Nat) : Int) = 63 from rfl] at this
    rw [this]; omega
  rw [e1, e2, List.drop_zero, Nat.sub_zero, List.take_length]
/-- the reading of its one row -/
theorem read_bag {K : PySem.W.Frag} {σ : St} {a : Addr} {ns : List Int} {H : Hp} {D : Ends} (hσ : σ[0]? = some (some (.ref a))) (h1 : ∀ (v : Option V), (σ.set 1 v)[1]? = some v) (hq : SqL K H a (ns.map V.int)) (hl : ns.length ≤ 63)
    (hk : ∀ p c H', Same H H' → H p = none → H c = none → p ≠ c → H' p = some (.lst [.int 0, .int 1234567891, .int 0, .ref c]) → H' c = some (.lst ((ns.map absI).map V.int)) → D.rt (.ref p) H') :
    tRet (tLst (tCons (tC (.int 0)) (tCons (tC (.int 1234567891)) (tCons (tC (.int 0)) (tCons (tLc (iList K (tSl (rSlL K) (tVar 0) tNoPart (tPart (tC (.int 63))))) (gName 1) tYes
      (tCB (fun xs H Q => ∃ i, xs = [.int i] ∧ Q (.int (if i < 0 then -i else i)) H) (tCons (tVar 1) tNil)) [1]) tNil))))) D σ H := by
  have hl' : (ns.map V.int).length ≤ 63 := by rw [List.length_map]; exact hl
  refine ⟨_, hσ, 63, rfl, a, _, rfl, hq, fun q hq0 => ?_⟩
  rw [cut63 hl']
  refine ⟨q, rfl, ⟨_, SqL.of upd_same⟩, fun c hc => ?_⟩
  have qc : q ≠ c := fun z => by subst z; rw [upd_same] at hc; cases hc
  have hc0 : H c = none := by rw [upd_ne (Ne.symm qc)] at hc; exact hc
  refine lc_list (K := K) (a := q) (xs := ns.map V.int) (fun i H' => Same H H' ∧ H' q = some (.lst (ns.map V.int)) ∧ H' c = some (.lst (((ns.take i).map absI).map V.int))) ⟨fun b o e => ?_, ?_, upd_same⟩ (fun i H' _ h => SqL.of h.2.1) (fun i x H' hx h => ?_) (fun H' h => ?_)
  · rw [upd_ne (ne_of_none e hc0), upd_ne (ne_of_none e hq0)]; exact e
  · rw [upd_ne qc]; exact upd_same
  · obtain ⟨s, hq', hc'⟩ := h
    rw [List.getElem?_map] at hx
    cases hz : ns[i]? with
    | none => rw [hz] at hx; cases hx
    | some z =>
      rw [hz] at hx
      cases hx
      refine ⟨?_, _, ?_, z, rfl, _, hc', ?_, fun b o e => ?_, ?_, ?_⟩
      · show wipe ((wipe σ [1]).set 1 (some (V.int z))) [1] = wipe σ [1]
        show ((σ.set 1 none).set 1 (some (V.int z))).set 1 none = σ.set 1 none
        rw [List.set_set, List.set_set]
      · show ((σ.set 1 none).set 1 (some (V.int z)))[1]? = some (some (V.int z))
        rw [List.set_set]; exact h1 _
      · rw [List.length_map, List.length_map, List.length_take]
        exact Nat.lt_of_le_of_lt (Nat.le_trans (Nat.min_le_right _ _) hl) (by decide)
      · have : b ≠ c := fun q => by subst q; rw [hc0] at e; cases e
        rw [upd_ne this]; exact s b o e
      · rw [upd_ne qc]; exact hq'
      · rw [upd_same]
        have e2 : ns.take (i + 1) = ns.take i ++ [z] := by
          rw [List.take_add_one, hz]; rfl
        rw [e2, List.map_append, List.map_append]
        rfl
  · obtain ⟨s, _, hc'⟩ := h
    rw [List.length_map, List.take_length] at hc'
    refine ⟨by show 4 ≤ sizeLine; decide, fun p hp => ?_⟩
    have pc : p ≠ c := fun z => by subst z; rw [hc'] at hp; cases hp
    refine hk p c _ (fun b o e => ?_) (s.free hp) hc0 pc upd_same ?_
    · rw [upd_ne (ne_of_none (s b o e) hp)]; exact s b o e
    · rw [upd_ne (Ne.symm pc)]; exact hc'
/-- what a law promises -/
def spLaw (K : PySem.W.Frag) : Sp := fun vs H Q _ => ∃ (a : Addr) (ns : List Int), vs = [.ref a] ∧ SqL K H a (ns.map V.int) ∧ ns.length ≤ 63 ∧ ∀ H', Q (.bl true) H'
def endsL : DEnds := { nx := fun _ => False, rt := fun s => s = .dat (.bl true) }
/-- a law: the bag is made, then the rest, by data -/
theorem read_law {K : PySem.W.Frag} {N : List Str} {vs : List V} {H : Hp} {Q : VK} {E : XK} {trest : TS} {td : Wd → TDS} (h : spLaw K vs H Q E) (hn : 2 ≤ N.length) (hs : ∀ W, SimS K W (fun _ _ _ _ => False) trest (td W))
    (hm : ∀ (b c : Addr) (cells : List Int), td (bagW b c cells) (none :: some (.dat (.v (.ref b))) :: List.replicate (N.length - 2) none) endsL) :
    tSeq (tAsg (tCallS (spBag K) (fun _ => E0) (tCons (tVar 0) tNil)) (gName 1)) trest { nx := fun _ H' => Q .non H', rt := Q } (L2.start N vs) H := by
  obtain ⟨a, ns, rfl, sq, hl, k⟩ := h
  have hσ : (L2.start N [V.ref a])[0]? = some (some (.ref a)) := rfl
  have hlen : (L2.start N [V.ref a]).length = N.length := by unfold L2.start; simp; omega
  refine ⟨_, hσ, a, ns, rfl, sq, hl, fun p c H' s hp hc pc e1 e2 => ?_⟩
  have cN : ∀ x ∈ ns.map absI, 0 ≤ x := fun x hx => by
    obtain ⟨y, _, rfl⟩ := List.mem_map.mp hx
    unfold absI
    split <;> omega
  have ok : (bagW p c (ns.map absI)).ok (fun _ => none) H' := ⟨(fun _ _ e => by cases e), rfl, rfl, pc, cN, by rw [List.length_map]; exact hl, e2, 0, 1234567891, 0, Int.le_refl _, Int.le_refl _, e1⟩
  have rp : Rep K (bagW p c (ns.map absI)) (fun _ => none) H' ((L2.start N [V.ref a]).set 1 (some (.ref p))) (none :: some (.dat (.v (.ref p))) :: List.replicate (N.length - 2) none) := by
    refine ⟨by rw [List.length_set, hlen]; simp; omega, fun i s e => ?_, fun i j s t v w q e1 _ _ _ o1 => ?_⟩
    · match i, e with
      | 0, e => cases e
      | 1, e =>
        cases e
        exact ⟨_, List.getElem?_set_self (by rw [hlen]; omega), .v _⟩
      | i + 2, e =>
        have e : (List.replicate (N.length - 2) (none : Option SD))[i]? = some (some s) := e
        rw [List.getElem?_replicate] at e
        split at e <;> cases e
    · exfalso
      match i, e1 with
      | 0, e => cases e
      | 1, e => cases e; exact o1
      | i + 2, e =>
        have e : (List.replicate (N.length - 2) (none : Option SD))[i]? = some (some s) := e
        rw [List.getElem?_replicate] at e
        split at e <;> cases e
  refine hs _ _ H' _ _ endsL _ ok rp (hm p c _) ⟨fun _ _ _ _ z _ _ => z.elim, fun _ _ _ _ z _ _ => z, fun _ _ _ _ z _ _ => z, fun v s I H2 e rv _ => ?_, fun _ _ _ _ _ _ _ z _ _ _ => z⟩
  cases e
  cases (show Is K I v (.bl true) from rv.1)
  exact k H2
theorem spLaw_len {K : PySem.W.Frag} {vs : List V} {H : Hp} {Q : VK} {E : XK} (h : spLaw K vs H Q E) : vs.length = 1 := by
  obtain ⟨a, ns, rfl, _⟩ := h
  rfl
end D3
set_option Elab.async false
set_option linter.all false
set_option maxRecDepth 100000
set_option maxHeartbeats 2000000
namespace D3
open PySem L2
/-- a text by its signs' numbers -/
def mk (l : List Nat) : Str := ⟨l.toArray⟩
abbrev sD (l : List Nat) : D := .str (mk l)
@[simp] theorem mk_length (l : List Nat) : (mk l).length = l.length := by show (mk l).cps.size = _; simp [mk]
@[simp] theorem mk_cps' (l : List Nat) : (mk l).cps = l.toArray := rfl
@[simp] theorem mk_cps (l : List Nat) : (mk l).cps.toList = l := by simp [mk]
theorem mk_inj {a b : List Nat} (h : mk a = mk b) : a = b := by
  have := congrArg (fun z : Str => z.cps.toList) h
  simpa using this
@[simp] theorem mk_eq {a b : List Nat} : (mk a = mk b) = (a = b) := propext ⟨mk_inj, fun h => by rw [h]⟩
theorem one_mk (c : Nat) : (⟨#[c]⟩ : Str) = mk [c] := rfl
@[simp] theorem signs_mk (l : List Nat) : signs (mk l) = l.map fun c => sD [c] := by unfold signs; simp; intro c _; rfl
theorem mk_of (s : Str) : s = mk s.cps.toList := by cases s; simp [mk]
@[simp] theorem revS_mk (l : List Nat) : revS (mk l) = mk l.reverse := by unfold revS; simp [mk]
theorem app_mk (a b : List Nat) : mk a ++ mk b = mk (a ++ b) := by
  show (⟨(mk a).cps ++ (mk b).cps⟩ : Str) = _
  simp [mk]
theorem join_mk (ys : List (List Nat)) : Txt.join (mk []) (ys.map mk) = mk ys.flatten := by
  rw [TL.join_eq]
  have h := TL.tl_join (mk []) (ys.map mk)
  have e : ∀ parts : List (List Nat), TL.joinL [] parts = parts.flatten := by
    intro parts
    induction parts with
    | nil => rfl
    | cons p r ih =>
      cases r with
      | nil => simp [TL.joinL]
      | cons q r => simp only [TL.joinL, List.nil_append] at ih ⊢; rw [ih]; rfl
  have t1 : ∀ l, TL.tl (mk l) = l := fun l => mk_cps l
  rw [t1, e, List.map_map] at h
  have h2 : (List.map (TL.tl ∘ mk) ys) = ys := by
    conv => rhs; rw [← List.map_id ys]
    apply List.map_congr_left
    intro a _
    exact t1 a
  rw [h2] at h
  rw [mk_of (Str.join (mk []) (List.map mk ys))]
  congr 1
@[simp] theorem inS_one (c : Nat) (z : List Nat) : inS (mk [c]) (mk z) = decide (c ∈ z) := by
  have h := PySem.StrLaws.found_one (mk z) c
  unfold inS
  rw [← one_mk]
  rw [h]
  exact decide_eq_decide.mpr (by rw [mk_cps])
def isStrD : D → Bool
  | .v (.str _) => true
  | _ => false
theorem atI_zero {α : Type} (x : α) (xs : List α) : atI (x :: xs) 0 = some x := by
  have := atI_nat (xs := x :: xs) (j := 0) (v := x) rfl
  simpa using this
@[simp] theorem atI_0 {α : Type} (x : α) (xs : List α) : atI (x :: xs) 0 = some x := atI_zero x xs
@[simp] theorem atI_1 {α : Type} (x y : α) (xs : List α) : atI (x :: y :: xs) 1 = some y := atI_nat (j := 1) rfl
@[simp] theorem atI_2 {α : Type} (x y z : α) (xs : List α) : atI (x :: y :: z :: xs) 2 = some z := atI_nat (j := 2) rfl
@[simp] theorem atI_3 {α : Type} (x y z a : α) (xs : List α) : atI (x :: y :: z :: a :: xs) 3 = some a := atI_nat (j := 3) rfl
theorem atI_of {α : Type} {xs : List α} {k : Nat} {v : α} (h : xs[k]? = some v) : atI xs (k : Int) = some v := atI_nat h
theorem join_ones {α : Type} (l : List α) (f : α → Nat) : Txt.join (mk []) (l.map fun a => mk [f a]) = mk (l.map f) := by
  have h := join_mk (l.map fun a => [f a])
  rw [List.map_map] at h
  have e : (l.map fun a => [f a]).flatten = l.map f := by
    induction l with
    | nil => rfl
    | cons a l ih =>
      rw [List.map_cons, List.flatten_cons, List.map_cons]
      rw [ih (by
        have := join_mk (l.map fun a => [f a])
        rw [List.map_map] at this
        exact this)]
      rfl
  rw [e] at h
  exact h
theorem sum_ones {α : Type} (l : List α) (f : α → Nat) : ((l.map fun a => mk [f a]).map (·.length)).sum = l.length := by
  induction l with
  | nil => rfl
  | cons a l ih => rw [List.map_cons, List.map_cons, List.sum_cons, ih]; simp; omega
/-- a comprehension whose items hang on the source's alone -/
theorem compD_map {i : Nat} {te : TDE} {vs : List Nat} {τ : Tau} {Q : List D → Prop} (f : D → D) : ∀ {ds : List D}, (∀ d ∈ ds, ∀ K : D → Prop, K (f d) → te ((wipeT τ vs).set i (some (.dat d))) K (fun _ => False)) → Q (ds.map f) → compD (gdName i) tdYes te vs τ ds Q
  | [], _, q => q
  | d :: ds, h, q => by
    show (if true = true then te ((wipeT τ vs).set i (some (.dat d))) (fun y => compD (gdName i) tdYes te vs τ ds fun ys => Q (y :: ys)) (fun _ => False) else compD (gdName i) tdYes te vs τ ds Q)
    rw [if_pos rfl]
    refine h d List.mem_cons_self _ ?_
    exact compD_map f (Q := fun ys => Q (f d :: ys)) (fun e he => h e (List.mem_cons_of_mem _ he)) q
/-- .. whose items are such -/
theorem compD_rel {i : Nat} {te : TDE} {vs : List Nat} {τ : Tau} (P : D → D → Prop) : ∀ {ds : List D} {Q : List D → Prop}, (∀ d ∈ ds, ∀ K : D → Prop, (∀ e, P d e → K e) → te ((wipeT τ vs).set i (some (.dat d))) K (fun _ => False)) →
    (∀ es : List D, es.length = ds.length → (∀ (k : Nat) (d e : D), ds[k]? = some d → es[k]? = some e → P d e) → Q es) → compD (gdName i) tdYes te vs τ ds Q
  | [], Q, _, q => q [] rfl fun k d e h => by cases h
  | d :: ds, Q, h, q => by
    show (if true = true then te ((wipeT τ vs).set i (some (.dat d))) (fun y => compD (gdName i) tdYes te vs τ ds fun ys => Q (y :: ys)) (fun _ => False) else compD (gdName i) tdYes te vs τ ds Q)
    rw [if_pos rfl]
    refine h d List.mem_cons_self _ fun y hy => ?_
    refine compD_rel P (Q := fun ys => Q (y :: ys)) (fun e he => h e (List.mem_cons_of_mem _ he)) fun es hl hp => q (y :: es) (by simp [hl]) fun k => ?_
    cases k with
    | zero => intro d' e' h1 h2; cases h1; cases h2; exact hy
    | succ k => intro d' e' h1 h2; exact hp k d' e' (by simpa using h1) (by simpa using h2)
theorem compD_all {i : Nat} {te : TDE} {vs : List Nat} {τ : Tau} (P : D → Prop) {ds : List D} {Q : List D → Prop} (h : ∀ d ∈ ds, ∀ K : D → Prop, (∀ e, P e → K e) → te ((wipeT τ vs).set i (some (.dat d))) K (fun _ => False))
    (q : ∀ es : List D, es.length = ds.length → (∀ e ∈ es, P e) → Q es) : compD (gdName i) tdYes te vs τ ds Q :=
  compD_rel (fun _ => P) h fun es hl hp => q es hl fun e he => by
    obtain ⟨k, hk, rfl⟩ := List.getElem_of_mem he
    exact hp k (ds[k]'(by omega)) _ (List.getElem?_eq_getElem _) (List.getElem?_eq_getElem hk)
/-- such items, as what they are made of -/
theorem all_map {α : Type} (mkD : α → D) (P : α → Prop) : ∀ {es : List D}, (∀ e ∈ es, ∃ a, e = mkD a ∧ P a) → ∃ l : List α, es = l.map mkD ∧ ∀ a ∈ l, P a
  | [], _ => ⟨[], rfl, fun _ h => by cases h⟩
  | e :: es, h => by
    obtain ⟨a, rfl, pa⟩ := h e List.mem_cons_self
    obtain ⟨l, rfl, pl⟩ := all_map mkD P (es := es) fun x hx => h x (List.mem_cons_of_mem _ hx)
    refine ⟨a :: l, rfl, fun x hx => ?_⟩
    rcases List.mem_cons.mp hx with rfl | hx
    · exact pa
    · exact pl x hx
/-- a block cut in two by a word -/
theorem tdSeq_cut {t u : TDS} {τ : Tau} {E : DEnds} (P : Tau → Prop) (h1 : ∀ nx : Tau → Prop, (∀ τ, P τ → nx τ) → t τ { E with nx := nx }) (h2 : ∀ τ, P τ → u τ E) : tdSeq t u τ E := h1 _ h2
/-- a loop by a word over the turns: the body is read for whatever comes behind -/
theorem forD_word {g : TDG} {tb : TDS} {E : DEnds} (P : List D → Tau → Prop) (ds : List D) (hg : ∀ d τ (Q Q' : Tau → Prop), (∀ τ', Q τ' → Q' τ') → g d τ Q → g d τ Q')
    (hs : ∀ (pre : List D) (d : D) (post : List D) (τ : Tau), ds = pre ++ d :: post → P pre τ → g d τ fun τ1 => ∀ nx : Tau → Prop, (∀ τ', P (pre ++ [d]) τ' → nx τ') → tb τ1 { E with nx := nx, ct := nx, bk := E.nx })
    (hd : ∀ τ, P ds τ → E.nx τ) : ∀ (pre post : List D) (τ : Tau), ds = pre ++ post → P pre τ → forD g tb post τ E
  | pre, [], τ, e, p => hd τ (by rw [e, List.append_nil]; exact p)
  | pre, d :: post, τ, e, p => by
    refine hg d τ _ _ (fun τ1 q => ?_) (hs pre d post τ e p)
    exact q _ fun τ2 q2 => forD_word P ds hg hs hd (pre ++ [d]) post τ2 (by rw [e, List.append_assoc]; rfl) q2
theorem gdName_mono {i : Nat} : ∀ d τ (Q Q' : Tau → Prop), (∀ τ', Q τ' → Q' τ') → gdName i d τ Q → gdName i d τ Q' := fun _ _ _ _ h q => h _ q
@[simp] theorem numsD_length (lo : Int) (n : Nat) : (numsD lo n).length = n := by simp [numsD]
theorem sz {n : Nat} (h : n ≤ 16777216) : n ≤ sizeLine := h
@[simp] theorem sizeLine_le {n : Nat} : (n ≤ sizeLine) = (n ≤ 16777216) := rfl
def SIG : List Nat := [46, 97, 98, 99, 100, 101, 102, 103, 104, 105, 106, 107, 108, 109, 110, 111, 112, 113, 114, 115, 116, 117, 118, 119, 120, 121, 122]
def SIGP : List Nat := SIG ++ [95]
theorem sig_eq : (".abcdefghijklmnopqrstuvwxyz" : Str) = mk SIG := by decide +kernel
theorem us_eq : ("_" : Str) = mk [95] := by decide +kernel
theorem empty_eq : ("" : Str) = mk [] := by decide +kernel
abbrev Rows := List (List Nat)
abbrev rowsD (rows : Rows) : D := .lst (rows.map sD)
structure Rect (rows : Rows) (n : Nat) : Prop where
  len : ∀ r ∈ rows, r.length = n
  ne : 1 ≤ rows.length
  le : rows.length ≤ 100
  n1 : 1 ≤ n
  n2 : n ≤ 100
def ent (rows : Rows) (x y : Nat) : Nat := (rows.getD y []).getD x 0
/-- a picture by its entries -/
def pic (w h : Nat) (f : Nat → Nat → Nat) : Rows := (List.range h).map fun y => (List.range w).map fun x => f x y
theorem Rect.pic {rows : Rows} {n : Nat} (r : Rect rows n) : rows = pic n rows.length (ent rows) := by
  unfold D3.pic ent
  refine List.ext_getElem (by simp) fun y h1 h2 => ?_
  rw [List.getElem_map, List.getElem_range]
  have hl : rows[y].length = n := r.len _ (List.getElem_mem h1)
  refine List.ext_getElem (by simp [hl]) fun x h3 h4 => ?_
  rw [List.getElem_map, List.getElem_range]
  simp [List.getD_eq_getElem?_getD, h1, h3]
def dOk (n : Nat) (d : D) : Prop := pyOk d = true ∧ (toPy d).canLay0 = true ∧ (toPy d).depth ≤ n
theorem dOk.cmp {n : Nat} {d : D} (h : dOk n d) (hn : n ≤ 64 := by decide) : cmpOk d := ⟨h.1, by unfold SeqAt.shaped; rw [h.2.1, decide_eq_true (Nat.le_trans h.2.2 hn)]; rfl⟩
theorem dOks {n : Nat} : ∀ {ds : List D}, (∀ d ∈ ds, dOk n d) → pyOks ds = true ∧ PyData.canLayAll0 (toPys ds) = true ∧ PyData.depthAll (toPys ds) ≤ n
  | [], _ => ⟨by simp [pyOks], by simp [toPys, PyData.canLayAll0], by simp [toPys, PyData.depthAll]⟩
  | d :: ds, h => by
    obtain ⟨a, b, c⟩ := h d List.mem_cons_self
    obtain ⟨a', b', c'⟩ := dOks (ds := ds) fun x hx => h x (List.mem_cons_of_mem _ hx)
    refine ⟨by simp [pyOks, a, a'], by simp [toPys, PyData.canLayAll0, b, b'], ?_⟩
    simp only [toPys, PyData.depthAll]
    exact Nat.max_le.mpr ⟨c, c'⟩
theorem dOk.lst {n : Nat} {ds : List D} (h : ∀ d ∈ ds, dOk n d) : dOk (n + 1) (.lst ds) := by
  obtain ⟨a, b, c⟩ := dOks h
  exact ⟨by simp [pyOk, a], by simp [toPy, PyData.canLay0, b], by simp only [toPy, PyData.depth]; omega⟩
theorem dOk.tup {n : Nat} {ds : List D} (h : ∀ d ∈ ds, dOk n d) : dOk (n + 1) (.tup ds) := by
  obtain ⟨a, b, c⟩ := dOks h
  exact ⟨by simp [pyOk, a], by simp [toPy, PyData.canLay0, b], by simp only [toPy, PyData.depth]; omega⟩
theorem dOk.int {i : Int} : dOk 1 (.int i) := ⟨by simp [pyOk], by simp [toPy, PyData.canLay0], by simp [toPy, PyData.depth]⟩
theorem dOk.bl {b : Bool} : dOk 1 (.bl b) := ⟨by simp [pyOk], by simp [toPy, PyData.canLay0], by simp [toPy, PyData.depth]⟩
theorem dOk.non : dOk 1 (.v .non) := ⟨by simp [pyOk], by simp [toPy, PyData.canLay0], by simp [toPy, PyData.depth]⟩
theorem dOk.str {l : List Nat} (h : ∀ c ∈ l, c < 0x110000) : dOk 1 (sD l) := ⟨by simp [pyOk], by
  simp only [toPy, PyData.canLay0, PyData.strOk]
  rw [← Array.all_toList, List.all_eq_true]
  exact fun c hc => decide_eq_true (h c (by simpa using hc)), by simp [toPy, PyData.depth]⟩
@[simp] theorem eqD_str {a b : List Nat} : eqD (sD a) (sD b) = decide (a = b) := by
  simp only [eqD, toPy, PyData.eqv]
  by_cases h : a = b
  · subst h; simp
  · have : mk a ≠ mk b := fun z => h (mk_inj z)
    rw [decide_eq_false h]
    exact beq_eq_false_iff_ne.mpr this
@[simp] theorem eqD_int {a b : Int} : eqD (.int a) (.int b) = decide (a = b) := by
  simp only [eqD, toPy, PyData.eqv]
  by_cases h : a = b <;> simp [h]
theorem eqvAll_map {α : Type} [DecidableEq α] (f : α → D) (h : ∀ a b, eqD (f a) (f b) = decide (a = b)) : ∀ as bs : List α, PyData.eqvAll (toPys (as.map f)) (toPys (bs.map f)) = decide (as = bs)
  | [], [] => by simp [toPys, PyData.eqvAll]
  | [], _ :: _ => by simp [toPys, PyData.eqvAll]
  | _ :: _, [] => by simp [toPys, PyData.eqvAll]
  | a :: as, b :: bs => by
    simp only [List.map_cons, toPys, PyData.eqvAll]
    rw [eqvAll_map f h as bs]
    have := h a b
    unfold eqD at this
    rw [this]
    by_cases h1 : a = b <;> by_cases h2 : as = bs <;> simp [h1, h2]
theorem eqD_map {α : Type} [DecidableEq α] {f : α → D} (h : ∀ a b, eqD (f a) (f b) = decide (a = b)) {as bs : List α} : eqD (.lst (as.map f)) (.lst (bs.map f)) = decide (as = bs) := by
  unfold eqD; simp only [toPy, PyData.eqv]; exact eqvAll_map f h as bs
@[simp] theorem eqD_rows {a b : Rows} : eqD (rowsD a) (rowsD b) = decide (a = b) := eqD_map fun _ _ => eqD_str
end D3
set_option Elab.async false
set_option linter.all false
set_option maxRecDepth 100000
set_option maxHeartbeats 4000000
namespace D3S
open PySem PySem.Spec
/-- the first i texts, asked for k -/
def seen (xs : List Str) (i : Nat) (k : Str) : Bool := (xs.take i).any (· == k)
/-- how many of the first i are unlike -/
def unlike (xs : List Str) : Nat → Nat
  | 0 => 0
  | i + 1 => if seen xs i (xs.getD i Str.empty) = true then unlike xs i else unlike xs i + 1
section
variable {P : Program} {w : World} {A : Around} {E : Value → Shared → Prop} {s : Shared}
/-- a set just laid -/
abbrev bare (led : Bool) : Obj := { cls := .type "set", dict := none, data := .set #[] 0 (.fresh 0 0 led) }
end
end D3S
namespace D3
open PySem PySem.Spec PyProof.Rows L2
/-- the texts among data -/
def txts : List D → Option (List Str)
  | [] => some []
  | .v (.str z) :: ds => (txts ds).map (z :: ·)
  | _ => none
/-- len(set(d)) -/
def fLenSet (d : D) (Q : D → Prop) : Prop := match d with
  | .lst ds => ∃ xs, txts ds = some xs ∧ xs.length + 1 < PySem.scanBound ∧ Q (.int (D3S.unlike xs xs.length))
  | .tup ds => ∃ xs, txts ds = some xs ∧ xs.length + 1 < PySem.scanBound ∧ Q (.int (D3S.unlike xs xs.length))
  | _ => False
@[simp] theorem fLenSet_lst {ds : List D} {Q : D → Prop} : fLenSet (.lst ds) Q = ∃ xs, txts ds = some xs ∧ xs.length + 1 < PySem.scanBound ∧ Q (.int (D3S.unlike xs xs.length)) := rfl
@[simp] theorem fLenSet_tup {ds : List D} {Q : D → Prop} : fLenSet (.tup ds) Q = ∃ xs, txts ds = some xs ∧ xs.length + 1 < PySem.scanBound ∧ Q (.int (D3S.unlike xs xs.length)) := rfl
@[simp] def tdLenSet (t : TDE) : TDE := fun τ Q R => t τ (fun d => fLenSet d Q) R
end D3
set_option Elab.async false
set_option linter.all false
set_option maxRecDepth 100000
set_option maxHeartbeats 4000000
namespace D3
open PySem PySem.Spec PyProof.Rows L2
section
variable {K : PySem.W.Frag} {W : Wd} {Wx : WX} {X : Cx} {a b e : Expr} {te : TE} {de : TDE} {p pos tpos : Pos} {tr : TA} {dr : TDA} {es : List Expr}
/-- divmod(a, b) -/
def fDivmod : FD := fun ds Q => match ds with
  | [.v (.int i), .v (.int j)] => CDiv i j ∧ Q (.tup [.int (i / j), .int (i % j)])
  | _ => False
@[simp] theorem fDivmod_int {i j : Int} {Q : D → Prop} : fDivmod [.v (.int i), .v (.int j)] Q = (CDiv i j ∧ Q (.tup [.int (i / j), .int (i % j)])) := rfl
/-- numbered -/
def nums (i : Nat) : List D → List D
  | [] => []
  | d :: ds => .tup [.int (i : Nat), d] :: nums (i + 1) ds
theorem nums_at : ∀ {ds : List D} {k i : Nat} {d : D}, ds[i]? = some d → (nums k ds)[i]? = some (.tup [.int ((k + i : Nat) : Int), d])
  | d :: ds, k, 0, _, h => by cases h; rfl
  | d :: ds, k, i + 1, _, h => by
    have := nums_at (ds := ds) (k := k + 1) (i := i) (by simpa using h)
    have e : k + 1 + i = k + (i + 1) := by omega
    rw [e] at this
    simpa [nums] using this
@[simp] theorem nums_len : ∀ {ds : List D} {k : Nat}, (nums k ds).length = ds.length
  | [], _ => rfl
  | d :: ds, k => by simp [nums, nums_len]
end
end D3
set_option Elab.async false
set_option linter.all false
set_option maxRecDepth 100000
set_option maxHeartbeats 4000000
namespace D3
open PySem L2
end D3
set_option Elab.async false
set_option linter.all false
set_option maxRecDepth 100000
set_option maxHeartbeats 4000000
namespace D3
open PySem PySem.Spec PyProof.Rows L2
def keySh : Key → Bool
  | .inl i => decide (i.natAbs.log2 < 1920)
  | .inr _ => true
mutual
/-- data that may be shown -/
def shOk : D → Bool
  | .v .non => true
  | .v (.bl _) => true
  | .v (.int i) => decide (i.natAbs.log2 < 1920)
  | .v (.str _) => true
  | .lst ds => shOks ds
  | .tup ds => shOks ds
  | .dt _ gs => shTv gs
  | .dic gs => shKv gs
  | _ => false
def shOks : List D → Bool
  | [] => true
  | d :: ds => shOk d && shOks ds
def shKv : List (Key × D) → Bool
  | [] => true
  | (.inl i, d) :: ds => decide (i.natAbs.log2 < 1920) && (shOk d && shKv ds)
  | (.inr _, d) :: ds => shOk d && shKv ds
def shTv : List (List Key × D) → Bool
  | [] => true
  | (k, d) :: ds => k.all keySh && (shOk d && shTv ds)
end
section
variable {X : Cx} {pins : List (Addr × Obj)} {σ : L2.St} {H J : Hp} {s : Shared}
abbrev Sh (X : Cx) (s : Shared) (u : Value) (d : PyData) : Prop := ∃ as bs, Reads s.heap u d as ∧ ReadAtMost s.heap d.depth bs ∧ ReprK X.prog X.w bs s.heap d.depth u d.shown
abbrev Shs (X : Cx) (s : Shared) (us : List Value) (ds : List PyData) : Prop := ∃ as bs, ReadsAll s.heap us ds as ∧ ReadAtMost s.heap (PyData.depthAll ds) bs ∧ ReprAllK X.prog X.w bs s.heap (PyData.depthAll ds) us (PyData.shownAll ds)
theorem Shs.cons {u : Value} {us : List Value} {d : PyData} {ds : List PyData} (h : Sh X s u d) (hs : Shs X s us ds) : Shs X s (u :: us) (d :: ds) := by
  obtain ⟨as, bs, r, b, k⟩ := h
  obtain ⟨as2, bs2, r2, b2, k2⟩ := hs
  refine ⟨_, bs ++ bs2, .cons r r2, ReadAtMost.append (b.mono ?_) (b2.mono ?_), ?_⟩
  · simp only [PyData.depthAll]; exact Nat.le_max_left _ _
  · simp only [PyData.depthAll]; exact Nat.le_max_right _ _
  · simp only [PyData.depthAll, PyData.shownAll]
    exact .cons ((k.more fun x hx => List.mem_append_left _ hx).level_le (Nat.le_max_left _ _)) (k2.more_le (fun x hx => List.mem_append_right _ hx) (Nat.le_max_right _ _))
/-- a list, from its items -/
theorem Sh.list {a : Addr} {o : Obj} {its : List Value} {n : Nat} {ds : List PyData} (h1 : s.heap.get? a = some o) (h2 : o.cls = .type "list") (h3 : o.data = .seq its.toArray n) (h : Shs X s its ds) : Sh X s (.ref a) (.list ds) := by
  obtain ⟨as, bs, r, b, k⟩ := h
  have R : Reads s.heap (.ref a) (.list ds) _ := .list h1 h2 h3 (by simpa using r)
  have na : a ∉ bs := not_mem_of_deeper R (by simp only [PyData.depth]; omega) b
  refine ⟨_, a :: bs, R, ReadAtMost.cons R (by simp only [PyData.depth]; omega) b, ?_⟩
  simp only [PyData.depth, PyData.shown]
  cases its with
  | nil =>
    cases r
    simp only [PyData.shownAll, listText_nil]
    exact ReprK.listEmpty h1 h2 h3
  | cons x l => exact ReprK.list h1 h2 h3 na (by simpa using k.length_eq) fun i y e => k.item i y (by simpa using e)
theorem Sh.tuple {a : Addr} {o : Obj} {its : List Value} {n : Nat} {ds : List PyData} (h1 : s.heap.get? a = some o) (h2 : o.cls = .type "tuple") (h3 : o.data = .seq its.toArray n) (h : Shs X s its ds) : Sh X s (.ref a) (.tuple ds) := by
  obtain ⟨as, bs, r, b, k⟩ := h
  have R : Reads s.heap (.ref a) (.tuple ds) _ := .tuple h1 h2 h3 (by simpa using r)
  have na : a ∉ bs := not_mem_of_deeper R (by simp only [PyData.depth]; omega) b
  refine ⟨_, a :: bs, R, ReadAtMost.cons R (by simp only [PyData.depth]; omega) b, ?_⟩
  simp only [PyData.depth, PyData.shown]
  exact ReprK.tuple h1 h2 h3 na (by simpa using k)
theorem Sh.dict {a : Addr} {o : Obj} {es : Array DictEntry} {n : Nat} {kvs : List (PyData × PyData)} (h1 : s.heap.get? a = some o) (h2 : o.cls = .type "dict") (h3 : o.data = .dict es n) (hm : (a == sysModules) = false)
    (hk : Shs X s (es.toList.map (·.key)) (kvs.map (·.1))) (hv : Shs X s (es.toList.map (·.val)) (kvs.map (·.2))) : Sh X s (.ref a) (.dict kvs) := by
  obtain ⟨as, bs, r, b, k⟩ := hk
  obtain ⟨as2, bs2, r2, b2, k2⟩ := hv
  have R : Reads s.heap (.ref a) (.dict kvs) _ := .dict h1 h2 h3 r r2
  have B : ReadAtMost s.heap (PyData.depthKv kvs) (bs ++ bs2) := (b.mono (PyData.depthAll_keys_le kvs)).append (b2.mono (PyData.depthAll_vals_le kvs))
  have na : a ∉ bs ++ bs2 := not_mem_of_deeper R (by simp only [PyData.depth]; omega) B
  refine ⟨_, a :: (bs ++ bs2), R, ReadAtMost.cons R (by simp only [PyData.depth]; omega) B, ?_⟩
  simp only [PyData.depth, PyData.shown, PyData.shownKv_eq]
  exact ReprK.dict h1 h2 h3 hm na (ReprEntriesK.of_two es.toList _ _ (k.more_le (fun x hx => List.mem_append_left _ hx) (PyData.depthAll_keys_le kvs)) (k2.more_le (fun x hx => List.mem_append_right _ hx) (PyData.depthAll_vals_le kvs)))
theorem key_sh {k : Key} {u : Value} (h : keyIs k u = true) : (match k with | .inl i => decide (i.natAbs.log2 < 1920) | .inr x => decide ((reprText x).length ≤ sizeLine)) = true → Sh X s u (match k with | .inl i => .int i | .inr x => .str x) := by
  rcases keyIs_shape h with ⟨i, t, rfl, rfl⟩ | ⟨x, t, rfl, rfl⟩
  · intro z
    exact ⟨_, [], .int i t, (fun _ h => nomatch h), by simp only [PyData.shown]; exact .of_is (ReprIs.int t (of_decide_eq_true z)) _ _ _⟩
  · intro z
    exact ⟨_, [], .str x t, (fun _ h => nomatch h), by simp only [PyData.shown]; exact .of_is (ReprIs.str x t (of_decide_eq_true z)) _ _ _⟩
theorem kv_split {P : Program} {w : World} : ∀ {kvs : List (Key × V)} {vs : List (Key × Value)} {es : List DictEntry}, KV kvs vs → Pairs (mixKind P w) es vs → (List.length kvs = es.length) ∧ Paired (fun (p : Key × V) (e : DictEntry) => keyIs p.1 e.key = true ∧ RelV p.2 e.val) kvs es
  | _, _, _, .nil, .nil => ⟨rfl, .nil⟩
  | _, _, _, .cons h t, .cons a b c => by
    obtain ⟨l, p⟩ := kv_split t c
    refine ⟨by simp [l], .cons ⟨?_, ?_⟩ p⟩
    · rw [h.1]; exact a
    · rw [b]; exact h.2
theorem flatK_sh {k : Key} {u : Value} (r : RelV (kV k) u) (ok : keySh k = true) (z : (keyPy k).shown.length ≤ sizeLine) : Sh X s u (keyPy k) := by
  cases k with
  | inl i =>
    obtain ⟨t, rfl⟩ := r
    simp only [keySh, decide_eq_true_eq] at ok
    simp only [keyPy] at z ⊢
    exact ⟨_, [], .int i t, (fun _ h => nomatch h), by simp only [PyData.shown]; exact .of_is (ReprIs.int t ok) _ _ _⟩
  | inr x =>
    obtain ⟨t, rfl⟩ := r
    simp only [keyPy, PyData.shown] at z ⊢
    exact ⟨_, [], .str x t, (fun _ h => nomatch h), by simp only [PyData.shown]; exact .of_is (ReprIs.str x t z) _ _ _⟩
theorem flatKs_sh : ∀ {k : List Key} {us : List Value}, Vals (k.map kV) us → k.all keySh = true → (∀ t ∈ PyData.shownAll (k.map keyPy), t.length ≤ sizeLine) → Shs X s us (k.map keyPy)
  | [], _, .nil, _, _ => ⟨_, [], .nil, (fun _ h => nomatch h), by simp only [List.map_nil, PyData.shownAll]; exact .nil⟩
  | k :: ks, _, .cons r rs, ok, z => by
    simp only [List.all_cons, Bool.and_eq_true] at ok
    simp only [List.map_cons, PyData.shownAll, List.mem_cons, forall_eq_or_imp] at z ⊢
    exact Shs.cons (flatK_sh r ok.1 z.1) (flatKs_sh rs ok.2 z.2)
mutual
theorem Is.sh (I : Inv X pins σ H s) (e : Same J H) : ∀ {v : V} {d : D}, Is X.K J v d → ∀ {u : Value}, RelV v u → shOk d = true → (toPy d).shown.length ≤ sizeLine → Sh X s u (toPy d)
  | _, _, .v x, u, r, ok, z => by
    cases x with
    | non => cases r; simp only [toPy] at z ⊢; exact ⟨_, [], .none, (fun _ h => nomatch h), by simp only [PyData.shown]; exact .of_is ReprIs.none _ _ _⟩
    | bl b => cases r; simp only [toPy] at z ⊢; exact ⟨_, [], .bool b, (fun _ h => nomatch h), by simp only [PyData.shown]; exact .of_is (ReprIs.bool b) _ _ _⟩
    | int i =>
      obtain ⟨t, rfl⟩ := r
      simp only [shOk, decide_eq_true_eq] at ok
      simp only [toPy] at z ⊢
      exact ⟨_, [], .int i t, (fun _ h => nomatch h), by simp only [PyData.shown]; exact .of_is (ReprIs.int t ok) _ _ _⟩
    | str x =>
      obtain ⟨t, rfl⟩ := r
      simp only [toPy, PyData.shown] at z ⊢
      exact ⟨_, [], .str x t, (fun _ h => nomatch h), by simp only [PyData.shown]; exact .of_is (ReprIs.str x t z) _ _ _⟩
    | _ => simp [shOk] at ok
  | _, _, .lst h q, u, r, ok, z => by
    cases r
    obtain ⟨its, rv, ⟨o, n, ho, hc, _, hd⟩, _⟩ := I.list (SqL.of (e _ _ h))
    simp only [toPy, PyData.shown] at z ⊢
    exact Sh.list ho hc hd (IsAll.sh I e q rv (by simpa [shOk] using ok) fun t ht => Nat.le_trans (listText_mem_le ht) z)
  | _, _, .tup h q, u, r, ok, z => by
    cases r
    obtain ⟨its, rv, ⟨o, ho, hc, n, hd⟩, _⟩ := I.tuple (Same.seqT e h.t)
    simp only [toPy, PyData.shown] at z ⊢
    exact Sh.tuple ho hc hd (IsAll.sh I e q rv (by simpa [shOk] using ok) fun t ht => Nat.le_trans (tupleText_mem_le ht) z)
  | _, _, .dic h q, u, r, ok, z => by
    cases r
    obtain ⟨_, hm, vs, kv, o, es, ep, ho, ex, hd, _, pr, _⟩ := dk_of I.hok (e _ _ h)
    obtain ⟨_, pp⟩ := kv_split kv pr
    simp only [toPy, PyData.shown] at z ⊢
    obtain ⟨h1, h2⟩ := IsKv.sh I e q pp (by simpa [shOk] using ok) fun t ht => Nat.le_trans (dictText_mem_le ht) z
    exact Sh.dict ho ex.1 hd hm h1 h2
  | _, _, .ins h q, u, r, ok, z => absurd ok (by simp [shOk])
  | _, _, .exc0, u, r, ok, z => absurd ok (by simp [shOk])
  | _, _, .exc1 _ _, u, r, ok, z => absurd ok (by simp [shOk])
  | _, _, .lent _, u, r, ok, z => absurd ok (by simp [shOk])
  | _, _, .dt (a := a) (o := o) (gs := gs) h hm ob q, u, r, ok, z => by
    cases r
    have ho : s.heap.get? a = some o := (I.hok a _ (e _ _ h)).1
    obtain ⟨es, ep, hd, he⟩ := ob.dat
    simp only [toPy, PyData.shown] at z ⊢
    obtain ⟨h1, h2⟩ := IsT.sh I e q (by simpa [shOk] using ok) fun t ht => Nat.le_trans (dictText_mem_le ht) z
    have h1 : Shs X s (es.toList.map (·.key)) ((toTv gs).map (·.1)) := by rw [he, List.map_map]; exact h1
    have h2 : Shs X s (es.toList.map (·.val)) ((toTv gs).map (·.2)) := by rw [he, List.map_map]; exact h2
    exact Sh.dict ho ob.ex.1 hd hm h1 h2
termination_by structural _ _ h => h
theorem IsT.sh (I : Inv X pins σ H s) (e : Same J H) : ∀ {us : List (List Key × Addr × Value)} {gs : List (List Key × D)}, IsT X.K J us gs → shTv gs = true → (∀ t ∈ PyData.shownKv (toTv gs), t.length ≤ sizeLine) →
    Shs X s (us.map fun x => Value.ref x.2.1) ((toTv gs).map (·.1)) ∧ Shs X s (us.map fun x => x.2.2) ((toTv gs).map (·.2))
  | _, _, .nil, _, _ => ⟨⟨_, [], .nil, (fun _ h => nomatch h), .nil⟩, ⟨_, [], .nil, (fun _ h => nomatch h), .nil⟩⟩
  | _, _, .cons hk r h q, ok, z => by
    simp only [shTv, Bool.and_eq_true] at ok
    simp only [toTv, PyData.shownKv, List.mem_cons, forall_eq_or_imp, List.map_cons] at z ⊢
    obtain ⟨h1, h2⟩ := IsT.sh I e q ok.2.2 z.2
    have z1 := z.1
    rw [strLen_append, strLen_append] at z1
    obtain ⟨its, rv, ⟨o, ho, hc, n, hd⟩, _⟩ := I.tuple (Same.seqT e hk.t)
    simp only [PyData.shown] at z1
    exact ⟨Shs.cons (Sh.tuple ho hc hd (flatKs_sh rv ok.1 fun t ht => Nat.le_trans (tupleText_mem_le ht) (by omega))) h1, Shs.cons (Is.sh I e h r ok.2.1 (by omega)) h2⟩
termination_by structural _ _ h => h
theorem IsAll.sh (I : Inv X pins σ H s) (e : Same J H) : ∀ {vs : List V} {ds : List D}, IsAll X.K J vs ds → ∀ {us : List Value}, Vals vs us → shOks ds = true → (∀ t ∈ PyData.shownAll (toPys ds), t.length ≤ sizeLine) → Shs X s us (toPys ds)
  | _, _, .nil, _, .nil, _, _ => ⟨_, [], .nil, (fun _ h => nomatch h), by simp only [toPys, PyData.shownAll]; exact .nil⟩
  | _, _, .cons h q, _, .cons r rs, ok, z => by
    simp only [shOks, Bool.and_eq_true] at ok
    simp only [toPys, PyData.shownAll, List.mem_cons, forall_eq_or_imp] at z ⊢
    exact Shs.cons (Is.sh I e h r ok.1 z.1) (IsAll.sh I e q rs ok.2 z.2)
termination_by structural _ _ h => h
theorem IsKv.sh (I : Inv X pins σ H s) (e : Same J H) : ∀ {kvs : List (Key × V)} {gs : List (Key × D)}, IsKv X.K J kvs gs → ∀ {es : List DictEntry}, Paired (fun (p : Key × V) (e : DictEntry) => keyIs p.1 e.key = true ∧ RelV p.2 e.val) kvs es → shKv gs = true →
    (∀ t ∈ PyData.shownKv (toKv gs), t.length ≤ sizeLine) → Shs X s (es.map (·.key)) ((toKv gs).map (·.1)) ∧ Shs X s (es.map (·.val)) ((toKv gs).map (·.2))
  | _, _, .nil, _, .nil, _, _ => ⟨⟨_, [], .nil, (fun _ h => nomatch h), .nil⟩, ⟨_, [], .nil, (fun _ h => nomatch h), .nil⟩⟩
  | _, _, .cons (k := .inl i) h q, _, .cons r rs, ok, z => by
    simp only [shKv, Bool.and_eq_true] at ok
    simp only [toKv, PyData.shownKv, List.mem_cons, forall_eq_or_imp, List.map_cons] at z ⊢
    obtain ⟨h1, h2⟩ := IsKv.sh I e q rs ok.2.2 z.2
    have z1 := z.1
    rw [strLen_append, strLen_append] at z1
    exact ⟨Shs.cons (key_sh (k := .inl i) r.1 ok.1) h1, Shs.cons (Is.sh I e h r.2 ok.2.1 (by omega)) h2⟩
  | _, _, .cons (k := .inr x) h q, _, .cons r rs, ok, z => by
    simp only [shKv, Bool.and_eq_true] at ok
    simp only [toKv, PyData.shownKv, List.mem_cons, forall_eq_or_imp, List.map_cons] at z ⊢
    obtain ⟨h1, h2⟩ := IsKv.sh I e q rs ok.2 z.2
    have z1 := z.1
    rw [strLen_append, strLen_append] at z1
    exact ⟨Shs.cons (key_sh (k := .inr x) r.1 (decide_eq_true (by simp only [PyData.shown] at z1; omega))) h1, Shs.cons (Is.sh I e h r.2 ok.1 (by omega)) h2⟩
termination_by structural _ _ h => h
end
/-- repr(d) -/
theorem Is.repr_call (I : Inv X pins σ H s) (e : Same J H) {v : V} {d : D} (h : Is X.K J v d) {u : Value} (r : RelV v u) (ok : shOk d = true) (z : (toPy d).shown.length ≤ sizeLine) (hg : X.A.guards = some []) (hu : X.A.units + ((toPy d).depth + 1) < cLine) {Q : Value → Shared → Prop}
    (hQ : ∀ h' t tk, (∀ b o, s.heap.get? b = some o → h'.get? b = some o) → Q (.str (toPy d).shown t) { s with heap := h', toks := tk }) : wpAny (model X.prog X.w) X.A (call (.builtin "repr") [u]) Q X.xe s := by
  have h1 : X.A.units + 1 < cLine := by omega
  cases h with
  | v =>
    cases v with
    | non => cases r; simp only [toPy, PyData.shown] at hQ; exact PySem.P.repr_of_none (hQ s.heap _ _ fun _ _ q => q)
    | bl b => cases r; simp only [toPy, PyData.shown] at hQ; exact PySem.P.repr_of_bool (hQ s.heap _ _ fun _ _ q => q)
    | int i =>
      obtain ⟨t, rfl⟩ := r
      simp only [shOk, decide_eq_true_eq] at ok
      simp only [toPy, PyData.shown] at hQ
      exact PySem.P.repr_of_int ok (hQ s.heap _ _ fun _ _ q => q)
    | str x =>
      obtain ⟨t, rfl⟩ := r
      simp only [toPy, PyData.shown] at hQ z
      exact PySem.P.repr_of_str (hQ s.heap _ _ fun _ _ q => q) z
    | _ => simp [shOk] at ok
  | lst h q =>
    cases r
    obtain ⟨its, rv, ⟨o, n, ho, hc, _, hd⟩, _⟩ := I.list (SqL.of (e _ _ h))
    simp only [toPy, PyData.shown, PyData.depth] at z hu hQ
    obtain ⟨as, bs, R, B, k⟩ := IsAll.sh I e q rv (by simpa [shOk] using ok) fun t ht => Nat.le_trans (listText_mem_le ht) z
    have na := not_mem_of_deeper (.list ho hc hd (by simpa using R)) (by simp only [PyData.depth]; omega) B
    refine call_repr_slot h1 ⟨o, ho, hc⟩ F.slot_list_repr.toG ?_
    cases its with
    | nil =>
      have e0 : ∀ {xs : List PyData} {as : List Addr}, ReadsAll s.heap [] xs as → xs = [] := fun q => by cases q; rfl
      rw [e0 R] at hQ
      simp only [PyData.shownAll, listText_nil] at hQ
      exact call_list_repr_empty ⟨o, ho, hc⟩ ho hd ⟨_, _, rfl, hQ s.heap _ _ fun _ _ q => q⟩
    | cons x l => exact call_list_reprK ho hc hd na (by simpa using k.length_eq) (fun i y q => k.item i y (by simpa using q)) hg (fun b _ => Clear.nil b) (by show X.A.units + 1 + _ < cLine; omega) (fun _ _ q => q) (fun h' t tk hk => ⟨_, _, rfl, hQ h' t tk hk⟩) z
  | tup h q =>
    cases r
    obtain ⟨its, rv, ⟨o, ho, hc, n, hd⟩, _⟩ := I.tuple (Same.seqT e h.t)
    simp only [toPy, PyData.shown, PyData.depth] at z hu hQ
    obtain ⟨as, bs, R, B, k⟩ := IsAll.sh I e q rv (by simpa [shOk] using ok) fun t ht => Nat.le_trans (tupleText_mem_le ht) z
    have na := not_mem_of_deeper (.tuple ho hc hd (by simpa using R)) (by simp only [PyData.depth]; omega) B
    exact call_repr_slot h1 ⟨o, ho, hc⟩ F.slot_tuple_repr (call_tuple_reprK ho hc hd na (by simpa using k) hg (fun b _ => Clear.nil b) (by show X.A.units + 1 + _ < cLine; omega) (fun _ _ q => q) (fun h' t tk hk => ⟨_, _, rfl, hQ h' t tk hk⟩) z)
  | dic h q =>
    cases r
    obtain ⟨_, hm, vs, kv, o, es, ep, ho, ex, hd, _, pr, _⟩ := dk_of I.hok (e _ _ h)
    obtain ⟨_, pp⟩ := kv_split kv pr
    simp only [toPy, PyData.shown, PyData.depth, PyData.shownKv_eq] at z hu hQ
    obtain ⟨⟨as, bs, R, B, k⟩, ⟨as2, bs2, R2, B2, k2⟩⟩ := IsKv.sh I e q pp (by simpa [shOk] using ok) fun t ht => by
      rw [PyData.shownKv_eq] at ht
      exact Nat.le_trans (dictText_mem_le ht) z
    have BB : ReadAtMost s.heap (PyData.depthKv (toKv _)) (bs ++ bs2) := (B.mono (PyData.depthAll_keys_le _)).append (B2.mono (PyData.depthAll_vals_le _))
    have na := not_mem_of_deeper (.dict ho ex.1 hd R R2) (by simp only [PyData.depth]; omega) BB
    exact call_repr_slot h1 ⟨o, ho, ex.1⟩ F.slot_dict_repr (call_dict_reprK ho ex.1 hd hm na (ReprEntriesK.of_two es.toList _ _ (k.more_le (fun x hx => List.mem_append_left _ hx) (PyData.depthAll_keys_le _)) (k2.more_le (fun x hx => List.mem_append_right _ hx) (PyData.depthAll_vals_le _)))
      hg (fun b _ => Clear.nil b) (by show X.A.units + 1 + _ < cLine; omega) (fun _ _ q => q) (fun h' t tk hk => ⟨_, _, rfl, hQ h' t tk hk⟩) z)
  | ins h q => simp [shOk] at ok
  | exc0 => simp [shOk] at ok
  | exc1 h q => simp [shOk] at ok
  | lent q => simp [shOk] at ok
  | @dt a o _ _ gs h hm ob q =>
    cases r
    have ho : s.heap.get? a = some o := (I.hok a _ (e _ _ h)).1
    obtain ⟨es, ep, hd, he⟩ := ob.dat
    simp only [toPy, PyData.shown, PyData.depth, PyData.shownKv_eq] at z hu hQ
    obtain ⟨g1, g2⟩ := IsT.sh I e q (by simpa [shOk] using ok) fun t ht => by
      rw [PyData.shownKv_eq] at ht
      exact Nat.le_trans (dictText_mem_le ht) z
    have g1 : Shs X s (es.toList.map (·.key)) ((toTv gs).map (·.1)) := by rw [he, List.map_map]; exact g1
    have g2 : Shs X s (es.toList.map (·.val)) ((toTv gs).map (·.2)) := by rw [he, List.map_map]; exact g2
    obtain ⟨as, bs, R, B, k⟩ := g1
    obtain ⟨as2, bs2, R2, B2, k2⟩ := g2
    have BB : ReadAtMost s.heap (PyData.depthKv (toTv gs)) (bs ++ bs2) := (B.mono (PyData.depthAll_keys_le _)).append (B2.mono (PyData.depthAll_vals_le _))
    have na := not_mem_of_deeper (.dict ho ob.ex.1 hd R R2) (by simp only [PyData.depth]; omega) BB
    exact call_repr_slot h1 ⟨o, ho, ob.ex.1⟩ F.slot_dict_repr (call_dict_reprK ho ob.ex.1 hd hm na (ReprEntriesK.of_two es.toList _ _ (k.more_le (fun x hx => List.mem_append_left _ hx) (PyData.depthAll_keys_le _)) (k2.more_le (fun x hx => List.mem_append_right _ hx) (PyData.depthAll_vals_le _)))
      hg (fun b _ => Clear.nil b) (by show X.A.units + 1 + _ < cLine; omega) (fun _ _ q => q) (fun h' t tk hk => ⟨_, _, rfl, hQ h' t tk hk⟩) z)
end
/-- repr(e) -/
def tRepr (K : PySem.W.Frag) (te : TE) : TE := fun σ H Q => te σ H fun x H1 => ∃ J d, Same J H1 ∧ Is K J x d ∧ shOk d = true ∧ (toPy d).depth ≤ 150 ∧ (toPy d).shown.length ≤ sizeLine ∧ Q (.str (toPy d).shown) H1
/-- such as may be shown -/
def reprOk (d : D) : Prop := shOk d = true ∧ (toPy d).depth ≤ 150 ∧ (toPy d).shown.length ≤ sizeLine
def reprD (d : D) : Str := (toPy d).shown
@[simp] def tdRepr (t : TDE) : TDE := fun τ Q R => t τ (fun d => reprOk d ∧ Q (.str (reprD d))) R
section
variable {K : PySem.W.Frag} {W : Wd} {Wx : WX} {X : Cx} {e : Expr} {te : TE} {de : TDE} {p pos : Pos} {k : Nat}
theorem pe_reprD (hr : RoomG k X.A) (hg : Gl X "repr") (hm : X.mg "repr" = none) (he : PE X e te) (na : starEach [e] X.env = (false, eval e X.env) :: starEach [] X.env := by rfl) : PE X (.Call (.Name "repr" p) [e] [] pos) (tRepr X.K te) := by
  refine ⟨fun pins s σ H Q I h => Call_ (ld_blt I hg hm (by rfl) (PyProof.Rows.callWith_builtin1 (PyProof.Rows.args_cons (thn (he.run pins s σ H _ I h) fun u s1 ⟨x, H1, I1, r1, q1⟩ => PyProof.Rows.args_nil ?_) na) na rfl))⟩
  obtain ⟨J, d, sm, hd, ok, dp, z, q⟩ := q1
  have := hr.r.un
  exact Is.repr_call I1 sm hd r1 ok z hr.g (by omega) fun h' t tk hk => ⟨.str (toPy d).shown, H1, I1.kept hk, ⟨t, rfl⟩, q⟩
theorem de_repr (hr : RoomG k X.A) (hm : X.mg "repr" = none) (h : DE X K W Wx e te de) (hg : Gl X "repr" := by rfl) (na : starEach [e] X.env = (false, eval e X.env) :: starEach [] X.env := by rfl) :
    DE X K W Wx (.Call (.Name "repr" p) [e] [] pos) (tRepr K te) (tdRepr de) := by
  have hk := h.k; subst hk
  exact ⟨rfl, pe_reprD hr hg hm h.pe na, fun I H σ τ Q R G ok rp t hq hx => h.sim I H σ τ _ R _ ok rp t (fun v d I1 H1 q1 i1 l1 => ⟨I1, d, W.ex l1.ok, i1, q1.1.1, q1.1.2.1, q1.1.2.2, hq _ _ I1 H1 q1.2 (.v _) l1⟩) hx⟩
end
end D3
set_option Elab.async false
set_option linter.all false
set_option maxRecDepth 100000
set_option maxHeartbeats 4000000
namespace D3
open PySem PySem.Spec PyProof.Rows L2
section
variable {K : PySem.W.Frag} {W : Wd} {Wx : WX} {X : Cx} {a b e : Expr} {ta tb te : TE} {da db de : TDE} {p pos : Pos} {tr : TA} {dr : TDA} {es : List Expr}
@[simp] def tdCat (t u : TDE) : TDO := fun τ Q R => t τ (fun x => u τ (fun y => match x, y with | .lst ds, .lst es => ds.length + es.length ≤ sizeLine ∧ Q (ds ++ es) | _, _ => False) R) R
theorem do_cat (ha : DE X K W Wx a ta da) (hb : DE X K W Wx b tb db) : DO X K W Wx (.BinOp a .Add b pos) (tOp rCat ta tb) (tdCat da db) := by
  have hk := ha.k; subst hk
  refine ⟨rfl, pe_op op_cat ha.pe hb.pe, fun I H σ τ Q R G ok rp t hq hx => ha.sim I H σ τ _ R _ ok rp t (fun x dx I1 H1 q1 i1 l1 => hb.sim I1 H1 σ τ _ R _ l1.ok (rp.later l1) q1 (fun y dy I2 H2 q2 i2 l2 => ?_) (hx.later l1)) hx⟩
  split at q2
  · obtain ⟨l, xs, rfl, h1, r1⟩ := is_lstM i1
    obtain ⟨m, ys, rfl, h2, r2⟩ := is_lstM i2
    refine ⟨l, m, xs, ys, rfl, rfl, W.ex l2.ok _ _ (l2.ex _ _ h1), W.ex l2.ok _ _ h2, by rw [r1.length, r2.length]; exact q2.1, fun p hp => ?_⟩
    exact hq p (xs ++ ys) _ I2 _ q2.2 (Later.back' (l1.trans l2) hp) upd_same (Same.non (W.ex l2.ok) hp) ((r1.mono l2.ex).append r2) ((l1.trans l2).trans (Later.allocO l2.ok hp))
  · exact q2.elim
theorem IsAll.rep {I : Hp} {xs : List V} {ds : List D} (h : IsAll K I xs ds) : ∀ n : Nat, IsAll K I (List.replicate n xs).flatten (List.replicate n ds).flatten
  | 0 => .nil
  | n + 1 => by
    rw [List.replicate_succ, List.replicate_succ, List.flatten_cons, List.flatten_cons]
    exact h.append (IsAll.rep h n)
@[simp] def tdLmul (t u : TDE) : TDO := fun τ Q R => t τ (fun x => u τ (fun y => match x, y with | .lst ds, .v (.int k) => (-(2 ^ 63) ≤ k ∧ k < 2 ^ 63) ∧ ds.length * k.toNat ≤ sizeLine ∧ Q (List.replicate k.toNat ds).flatten | _, _ => False) R) R
theorem do_lmul (ha : DE X K W Wx a ta da) (hb : DE X K W Wx b tb db) : DO X K W Wx (.BinOp a .Mult b pos) (tOp rRep ta tb) (tdLmul da db) := by
  have hk := ha.k; subst hk
  refine ⟨rfl, pe_op op_rep ha.pe hb.pe, fun I H σ τ Q R G ok rp t hq hx => ha.sim I H σ τ _ R _ ok rp t (fun x dx I1 H1 q1 i1 l1 => hb.sim I1 H1 σ τ _ R _ l1.ok (rp.later l1) q1 (fun y dy I2 H2 q2 i2 l2 => ?_) (hx.later l1)) hx⟩
  split at q2
  · obtain ⟨l, xs, rfl, h1, r1⟩ := is_lstM i1
    cases i2
    refine ⟨l, _, xs, rfl, rfl, W.ex l2.ok _ _ (l2.ex _ _ h1), q2.1.1, q2.1.2, by rw [r1.length]; exact q2.2.1, fun p hp => ?_⟩
    exact hq p _ _ I2 _ q2.2.2 (Later.back' (l1.trans l2) hp) upd_same (Same.non (W.ex l2.ok) hp) ((r1.mono l2.ex).rep _) ((l1.trans l2).trans (Later.allocO l2.ok hp))
  · exact q2.elim
def fInt : FD := fun ds Q => match ds with
  | [.v (.int i)] => Q (.int i)
  | [.v (.bl b)] => Q (.int (if b then 1 else 0))
  | _ => False
@[simp] theorem fInt_int {i : Int} {Q : D → Prop} : fInt [.v (.int i)] Q = Q (.int i) := rfl
@[simp] theorem fInt_bl {b : Bool} {Q : D → Prop} : fInt [.v (.bl b)] Q = Q (.int (if b then 1 else 0)) := rfl
theorem CallSim.int : CallSim K W (fun xs H Q => (∃ i, xs = [.int i] ∧ Q (.int i) H) ∨ ∃ k, xs = [.bl k] ∧ Q (.int (if k then 1 else 0)) H) fInt := fun I H vs ds Q G ok al q hq => by
  unfold fInt at q
  split at q
  · obtain ⟨v, rfl, h⟩ := isAll1 al
    cases h
    exact .inl ⟨_, rfl, hq _ _ I H q (.v _) (Later.refl ok)⟩
  · obtain ⟨v, rfl, h⟩ := isAll1 al
    cases h
    exact .inr ⟨_, rfl, hq _ _ I H q (.v _) (Later.refl ok)⟩
  · exact q.elim
theorem de_toint (hm : X.mg "int" = none) (ha : DA X K W Wx [a] tr dr) (hg : Gl X "int" := by rfl) (he : starEach [a] X.env = (false, eval a X.env) :: starEach [] X.env := by rfl) :
    DE X K W Wx (.Call (.Name "int" p) [a] [] pos) (tCB (fun xs H Q => (∃ i, xs = [.int i] ∧ Q (.int i) H) ∨ ∃ k, xs = [.bl k] ∧ Q (.int (if k then 1 else 0)) H) tr) (tdCB fInt dr) :=
  de_cty call_int1 .int hg hm (by rfl) ha (by decide) (by decide) he rfl
theorem de_tuple (hm : X.mg "tuple" = none) (ha : DA X K W Wx [a] tr dr) (hg : Gl X "tuple" := by rfl) (he : starEach [a] X.env = (false, eval a X.env) :: starEach [] X.env := by rfl) :
    DE X K W Wx (.Call (.Name "tuple" p) [a] [] pos) (tCB (rTupleN K) tr) (tdCB fTuple dr) := by
  have hk := ha.k; subst hk
  exact de_cty call_tuple_ofN .tuple hg hm (by rfl) ha (by decide) (by decide) he rfl
theorem de_pow (ha : DE X K W Wx a ta da) (hb : DE X K W Wx b tb db) : DE X K W Wx (.BinOp a .Pow b pos) (tOp (rI CPow fun i j => .int (i ^ j.toNat)) ta tb) (tdOp (fIC CPow fun i j => .int (i ^ j.toNat)) da db) := by
  have hk := ha.k; subst hk
  exact de_op op_pow .i1 ha hb
@[simp] def tdDict1 (t u : TDE) : TDE := fun τ Q R => t τ (fun x => u τ (fun y => match x with | .v (.str z) => Q (.dic [(.inr z, y)]) | _ => False) R) R
theorem Later.mutateFresh {W : Wd} {I H I' H' : Hp} {p : Addr} {o : HO} (ok : W.ok I H) (hp : H p = none) (l : Later W I (upd H p o) I' H') {o' : HO} : Later W I H (upd I' p o') (upd H' p o') := by
  have fp : W.free p := W.fr ok hp
  have ip : I p = none := Same.non (W.ex ok) hp
  have ip' : I' p = none := Classical.byContradiction fun z => (l.nw p ip z).elim (fun q => by rw [upd_same] at q; cases q) fun q => q.elim
  refine ⟨l.ex.trans (Same.new ip'), W.fz (W.mu l.ok ip' fp) ip' fp upd_same, fun c u f n q => ?_, fun c hc q => ?_, fun _ z => z.elim⟩
  · have hc : c ≠ p := fun z => by subst z; rw [hp] at q; cases q
    rw [upd_ne hc]
    exact l.fr c u f n (by rw [upd_ne hc]; exact q)
  · by_cases h : c = p
    · subst h; exact .inl hp
    · rw [upd_ne h] at q
      exact (l.nw c hc q).elim (fun z => .inl (by rw [upd_ne h] at z; exact z)) .inr
def repS (z : Str) (n : Nat) : Str := ⟨((List.replicate n z.cps.toList).flatten).toArray⟩
@[simp] theorem repS_mk (l : List Nat) (n : Nat) : repS (mk l) n = mk (List.replicate n l).flatten := by unfold repS; simp [mk]
theorem repS_length (z : Str) (n : Nat) : (repS z n).length = n * z.length := by
  show (repS z n).cps.size = n * z.cps.size
  unfold repS
  simp
theorem fold_arr : ∀ (n : Nat) (acc x : Array Nat), (List.replicate n x).foldl (· ++ ·) acc = acc ++ ((List.replicate n x.toList).flatten).toArray
  | 0, acc, x => by simp
  | n + 1, acc, x => by
    rw [List.replicate_succ, List.foldl_cons, fold_arr n, List.replicate_succ, List.flatten_cons]
    apply Array.ext'
    simp
def rSmul : R2 := fun x y H Q => ∃ z n, x = .str z ∧ y = .int n ∧ -(2 ^ 62) ≤ n ∧ n < 2 ^ 62 ∧ z.length * n.toNat ≤ 16777216 ∧ Q (.str (repS z n.toNat)) H
theorem op_smul : OpR X (binaryOp .Mult) rSmul := by
  intro pins s σ H x y v u Q I rx ry h
  obtain ⟨z, n, rfl, rfl, h1, h2, h3, q⟩ := h
  obtain ⟨t, rfl⟩ := rx
  obtain ⟨t2, rfl⟩ := ry
  refine PySem.P.mul_str (by rw [decide_eq_false (by omega), decide_eq_false (by omega)]; rfl) (fun a b => ?_) (fun a b => ?_) ?_
  · have e : (z.length : Int) * n ≤ 16777216 := by
      have : ((z.length * n.toNat : Nat) : Int) ≤ 16777216 := by omega
      rw [Int.natCast_mul, Int.toNat_of_nonneg (by omega)] at this
      exact this
    have : (z.length : Int) ≤ (2 ^ 63 - 1) / n := (Int.le_ediv_iff_mul_le (by omega)).mpr (Int.le_trans e (by decide))
    omega
  · exact decide_eq_false (Nat.not_lt.mpr h3)
  · by_cases c1 : n < 1
    · rw [if_pos c1]
      have e : repS z n.toNat = Str.empty := by
        have : n.toNat = 0 := by omega
        rw [this]; rfl
      rw [e] at q
      exact ⟨by decide, ⟨.str Str.empty, H, I.tok _, ⟨_, rfl⟩, q⟩⟩
    · rw [if_neg c1]
      by_cases c2 : (n == 1 || z.length == 0) = true
      · rw [if_pos c2]
        have e : repS z n.toNat = z := by
          unfold repS
          rcases Bool.or_eq_true_iff.mp c2 with c | c
          · have : n = 1 := by simpa using c
            subst this
            show (⟨((List.replicate 1 z.cps.toList).flatten).toArray⟩ : Str) = z
            simp
          · have c0 : z.cps.size = 0 := eq_of_beq (show (z.length == 0) = true from c)
            have : z.cps.toList = [] := List.eq_nil_of_length_eq_zero (by rw [Array.length_toList]; exact c0)
            rw [this]
            have e2 : z.cps = #[] := by apply Array.ext'; rw [this]
            obtain ⟨cps⟩ := z
            cases e2
            simp
        rw [e] at q
        exact ⟨.str z, H, I, ⟨t, rfl⟩, q⟩
      · rw [if_neg c2]
        have e : (⟨List.foldl (fun x1 x2 => x1 ++ x2) #[] (List.replicate n.toNat z.cps)⟩ : Str) = repS z n.toNat := by
          rw [fold_arr]
          unfold repS
          simp
        rw [e]
        exact ⟨by rw [repS_length, Nat.mul_comm]; exact h3, ⟨.str _, H, I.tok _, ⟨_, rfl⟩, q⟩⟩
def fSmul : TD2 := fun x y Q => match x, y with
  | .v (.str z), .v (.int n) => (-(2 ^ 62) ≤ n ∧ n < 2 ^ 62) ∧ z.length * n.toNat ≤ 16777216 ∧ Q (.str (repS z n.toNat))
  | _, _ => False
@[simp] theorem fSmul_str {z : Str} {n : Int} {Q : D → Prop} : fSmul (.v (.str z)) (.v (.int n)) Q = ((-(2 ^ 62) ≤ n ∧ n < 2 ^ 62) ∧ z.length * n.toNat ≤ 16777216 ∧ Q (.str (repS z n.toNat))) := rfl
theorem R2Sim.smul : R2Sim K W rSmul fSmul := fun I H x y dx dy Q G ok hx hy q hq => by
  unfold fSmul at q
  split at q
  · cases hx
    cases hy
    exact ⟨_, _, rfl, rfl, q.1.1, q.1.2, q.2.1, hq _ _ I H q.2.2 (.v _) (Later.refl ok)⟩
  · exact q.elim
theorem de_smul (ha : DE X K W Wx a ta da) (hb : DE X K W Wx b tb db) : DE X K W Wx (.BinOp a .Mult b pos) (tOp rSmul ta tb) (tdOp fSmul da db) := by
  have hk := ha.k; subst hk
  exact de_op op_smul .smul ha hb
end
end D3
set_option Elab.async false
set_option linter.all false
set_option maxRecDepth 100000
set_option maxHeartbeats 4000000
namespace D3
open PySem PySem.Spec PyProof.Rows L2
section
variable {K : PySem.W.Frag} {W : Wd} {Wx : WX} {X : Cx} {a b e : Expr} {ta tb te : TE} {da db de : TDE} {p pos : Pos}
/-- x[j] = e, e flat, one's own lists are read in it -/
@[simp] def tdSetIF (i : Nat) (t u : TDE) : TDS := fun τ E => ∃ ds, τ[i]? = some (some (.own ds)) ∧ t (frz τ) (fun d => flatD d ∧ u τ (fun k => onI k fun k => ∃ j, ixN ds.length k = some j ∧ E.nx (τ.set i (some (.own (ds.set j d))))) (fun x => E.ex x τ)) (fun x => E.ex x (frz τ))
def fListS : List D → (List D → Prop) → Prop := fun ds Q => match ds with
  | [.v (.str z)] => z.length ≤ sizeLine ∧ Q (signs z)
  | _ => False
@[simp] theorem fListS_str {z : Str} {Q : List D → Prop} : fListS [.v (.str z)] Q = (z.length ≤ sizeLine ∧ Q (signs z)) := rfl
theorem isAll_signs {I : Hp} : ∀ l : List Nat, IsAll K I (l.map fun c => V.str ⟨#[c]⟩) (l.map fun c => D.str ⟨#[c]⟩)
  | [] => .nil
  | _ :: l => .cons (.v _) (isAll_signs l)
end
end D3
set_option Elab.async false
set_option linter.all false
set_option maxRecDepth 100000
set_option maxHeartbeats 4000000
namespace D3
open PySem PySem.Spec PyProof.Rows L2
section
variable {K : PySem.W.Frag} {W : Wd} {Wx : WX} {X : Cx} {a b e : Expr} {es : List Expr} {ta tb te : TE} {da db de : TDE} {dO : TDO} {tr : TA} {dr : TDA} {p pos : Pos}
theorem SimO.x (h : SimO K W Wx te dO) : SimX K W Wx te (fun τ Q R => dO τ (fun ds => Q (.own ds)) R) := fun I H σ τ Q R G ok rp t hq hx =>
  h I H σ τ _ R G ok rp t (fun p vs ds I1 H1 q1 hp hp1 hi al l1 => hq _ (.own ds) I1 H1 q1 ⟨p, vs, rfl, hp1, hi, W.fr ok hp, al⟩ (fun a o => by cases o; exact hp) l1) hx
theorem DO.x (h : DO X K W Wx e te dO) : DX X K W Wx e te (fun τ Q R => dO τ (fun ds => Q (.own ds)) R) := by
  have hk := h.k; subst hk
  exact ⟨rfl, h.pe, h.sim.x⟩
theorem SimE.x (h : SimE K W Wx te de) : SimX K W Wx te (fun τ Q R => de τ (fun d => Q (.dat d)) R) := fun I H σ τ Q R G ok rp t hq hx =>
  h I H σ τ _ R G ok rp t (fun v d I1 H1 q1 i1 l1 => hq _ (.dat d) I1 H1 q1 i1 (fun a o => o.elim) l1) hx
theorem DE.x (h : DE X K W Wx e te de) : DX X K W Wx e te (fun τ Q R => de τ (fun d => Q (.dat d)) R) := by
  have hk := h.k; subst hk
  exact ⟨rfl, h.pe, h.sim.x⟩
/-- as data -/
def sdD : SD → D
  | .dat d => d
  | .own ds => .lst ds
  | .obj _ C fs => .ins C fs
  | .tupo _ pre ds post => .tup (pre ++ .lst ds :: post)
  | .dk gs => .dic gs
  | .dt g gs => .dt g gs
  | .wd _ pre k post g gs => .dic (pre ++ (k, .dt g gs) :: post)
@[simp] theorem sdD_dt {g : PGw} {gs : List (List Key × D)} : sdD (.dt g gs) = .dt g gs := rfl
@[simp] theorem sdD_wd {q : Addr} {pre post : List (Key × D)} {k : Key} {g : PGw} {gs : List (List Key × D)} : sdD (.wd q pre k post g gs) = .dic (pre ++ (k, .dt g gs) :: post) := rfl
@[simp] theorem sdD_dk {gs : List (Key × D)} : sdD (.dk gs) = .dic gs := rfl
@[simp] theorem sdD_dat {d : D} : sdD (.dat d) = d := rfl
@[simp] theorem sdD_own {ds : List D} : sdD (.own ds) = .lst ds := rfl
@[simp] theorem sdD_tupo {p : Addr} {pre ds post : List D} : sdD (.tupo p pre ds post) = .tup (pre ++ .lst ds :: post) := rfl
@[simp] theorem sdD_obj {p C : Addr} {fs : List (Str × D)} : sdD (.obj p C fs) = .ins C fs := rfl
theorem SimX.dat {dX : TDX} (h : SimX K W Wx te dX) : SimE K W Wx te (fun τ Q R => dX τ (fun s => Q (sdD s)) R) := fun I H σ τ Q R G ok rp t hq hx =>
  h I H σ τ _ R G ok rp t (fun v s I' H' q ha hn l => by
    cases s with
    | dat d => exact hq v d I' H' q ha l
    | own es =>
      obtain ⟨p, ws, rfl, hp, hi, hf, al⟩ := ha
      exact hq _ _ (upd I' p (.lst ws)) H' q (.lst upd_same (al.mono (Same.new hi))) (Later.freeze ok l hi (hn p rfl) hp)
    | obj p C fs =>
      obtain ⟨dx, ws, rfl, hp, hi, hf, al⟩ := ha
      exact hq _ _ (upd I' p (.ins C dx ws)) H' q (.ins upd_same (al.mono (Same.new hi))) (Later.freeze ok l hi (hn p rfl) hp)
    | tupo p pre es post =>
      obtain ⟨t, us, zs, ws, rfl, st, h1, h2, hp, hi, hf, al⟩ := ha
      have sm := Same.new (o := .lst ws) hi
      exact hq _ _ (upd I' p (.lst ws)) H' q (.tup (Same.seqN sm st) ((h1.mono sm).append (.cons (.lst upd_same (al.mono sm)) (h2.mono sm)))) (Later.freeze ok l hi (hn p rfl) hp)
    | dk gs =>
      obtain ⟨p, ws, rfl, hp, hi, hf, al⟩ := ha
      exact hq _ _ (upd I' p (.dK ws)) H' q (.dic upd_same (IsKv.mono (Same.new hi) al)) (Later.freeze ok l hi (hn p rfl) hp)
    | dt g gs =>
      obtain ⟨p, ob, us, rfl, hp, hi, hf, y, o, al⟩ := ha
      exact hq _ _ (upd I' p (pinO p ob)) H' q (.dt upd_same y o (IsT.mono (Same.new hi) al)) (Later.freeze ok l hi (hn p rfl) hp)
    | wd qq pre k post g gs =>
      obtain ⟨_, i, l2⟩ := At.wdFrz ok ha hn l
      exact hq _ _ _ H' q i l2) hx
theorem DX.dat {dX : TDX} (h : DX X K W Wx e te dX) : DE X K W Wx e te (fun τ Q R => dX τ (fun s => Q (sdD s)) R) := by
  have hk := h.k; subst hk
  exact ⟨rfl, h.pe, h.sim.dat⟩
/-- arguments of which one is a new list -/
abbrev TDAX := Tau → (List D → List D → List D → Prop) → (Exc → Prop) → Prop
def SimAX (K : PySem.W.Frag) (W : Wd) (Wx : WX) (tr : TA) (t : TDAX) : Prop := ∀ (I H : Hp) (σ : L2.St) (τ : Tau) (Q : List D → List D → List D → Prop) (R : Exc → Prop) (G : List V → Hp → Prop), W.ok I H → Rep K W I H σ τ → t τ Q R →
  (∀ us ws p vs pre ds post I' H', Q pre ds post → H p = none → H' p = some (.lst vs) → I' p = none → IsAll K I' us pre → IsAll K I' vs ds → IsAll K I' ws post → Later W I H I' H' → G (us ++ .ref p :: ws) H') → XOk K W Wx R I H σ → tr σ H G
@[simp] def tdaOwn (t : TDO) (u : TDA) : TDAX := fun τ Q R => t τ (fun ds => u τ (fun post => Q [] ds post) R) R
@[simp] def tdaCons (t : TDE) (u : TDAX) : TDAX := fun τ Q R => t τ (fun d => u τ (fun pre ds post => Q (d :: pre) ds post) R) R
theorem Later.keepN {I H I' H' : Hp} {p : Addr} {u : HO} (l : Later W I H I' H') (hp : H p = some u) (hf : W.free p) (hi : I p = none) : H' p = some u ∧ I' p = none := by
  refine ⟨l.fr p u hf (fun z => z) hp, ?_⟩
  cases q : I' p with
  | none => rfl
  | some o =>
    rcases l.nw p hi (by rw [q]; intro z; cases z) with z | z
    · rw [hp] at z; cases z
    · exact z.elim
theorem SimAX.own (h : SimO K W Wx te dO) (hr : SimA K W Wx tr dr) : SimAX K W Wx (tCons te tr) (tdaOwn dO dr) := fun I H σ τ Q R G ok rp t hq hx =>
  h I H σ τ _ R _ ok rp t (fun p vs ds I1 H1 q1 hp hp1 hi al l1 => hr I1 H1 σ τ _ R _ l1.ok (rp.later l1) q1 (fun ws post I2 H2 q2 i2 l2 => by
    obtain ⟨h2, n2⟩ := l2.keepN hp1 (W.fr ok hp) hi
    exact hq [] ws p vs [] ds post I2 H2 q2 hp h2 n2 .nil (al.mono l2.ex) i2 (l1.trans l2)) (hx.later l1)) hx
theorem SimAX.cons {dX : TDAX} (h : SimE K W Wx te de) (hr : SimAX K W Wx tr dX) : SimAX K W Wx (tCons te tr) (tdaCons de dX) := fun I H σ τ Q R G ok rp t hq hx =>
  h I H σ τ _ R _ ok rp t (fun v d I1 H1 q1 i1 l1 => hr I1 H1 σ τ _ R _ l1.ok (rp.later l1) q1 (fun us ws p vs pre ds post I2 H2 q2 hp hp2 n2 a1 a2 a3 l2 =>
    hq (v :: us) ws p vs (d :: pre) ds post I2 H2 q2 (Later.back' l1 hp) hp2 n2 (.cons (i1.mono l2.ex) a1) a2 a3 (l1.trans l2)) (hx.later l1)) hx
@[simp] def tdTupX (u : TDAX) : TDX := fun τ Q R => u τ (fun pre ds post => pre.length + post.length + 1 ≤ sizeLine ∧ ∀ p, Q (.tupo p pre ds post)) R
theorem SimX.tup {dX : TDAX} (h : SimAX K W Wx tr dX) : SimX K W Wx (tTupN tr) (tdTupX dX) := fun I H σ τ Q R G ok rp t hq hx =>
  h I H σ τ _ R _ ok rp t (fun us ws p vs pre ds post I1 H1 q1 hp hp1 n1 a1 a2 a3 l1 => ⟨by
      have h1 := a1.length
      have h2 := a3.length
      have := q1.1
      rw [List.length_append, List.length_cons]; omega, fun t o ht hd => by
    have sm := Same.new (o := .frz o (.tup (us ++ .ref p :: ws))) (Same.non (W.ex l1.ok) ht)
    have pt : p ≠ t := ne_of_none hp1 ht
    exact hq _ _ (upd I1 t (.frz o (.tup (us ++ .ref p :: ws)))) _ (q1.2 p) ⟨t, us, ws, vs, rfl, SqN.of upd_same hd, a1.mono sm, a3.mono sm, (upd_ne pt).trans hp1, (upd_ne pt).trans n1, W.fr ok hp, a2.mono sm⟩ (fun a o => by cases o; exact hp) (l1.trans (Later.alloc l1.ok ht))⟩) hx
def SimAV (K : PySem.W.Frag) (W : Wd) (Wx : WX) (i : Nat) (tr : TA) (t : TDA) : Prop := ∀ (I H : Hp) (σ : L2.St) (τ : Tau) (Q : List D → Prop) (R : Exc → Prop) (G : List V → Hp → Prop), W.ok I H → Rep K W I H σ τ → t τ Q R →
  (∀ us ds v I' H', Q ds → IsAll K I' us ds → σ[i]? = some (some v) → Later W I H I' H' → G (us ++ [v]) H') → XOk K W Wx R I H σ → tr σ H G
@[simp] def tdvNil (i : Nat) : TDA := fun τ Q _ => (∃ s, τ[i]? = some (some s)) ∧ Q []
theorem SimAV.cons {i : Nat} (h : SimE K W Wx te de) (hr : SimAV K W Wx i tr dr) : SimAV K W Wx i (tCons te tr) (tdCons de dr) := fun I H σ τ Q R G ok rp t hq hx =>
  h I H σ τ _ R _ ok rp t (fun v d I1 H1 q1 i1 l1 => hr I1 H1 σ τ _ R _ l1.ok (rp.later l1) q1 (fun us ds w I2 H2 q2 a2 h2 l2 =>
    hq (v :: us) (d :: ds) w I2 H2 q2 (.cons (i1.mono l2.ex) a2) h2 (l1.trans l2)) (hx.later l1)) hx
@[simp] def tdRetTV (i : Nat) (u : TDA) : TDS := fun τ E => ∃ es, τ[i]? = some (some (.own es)) ∧ u (frz τ) (fun ds => (∀ d ∈ ds, flatD d) ∧ ds.length + 1 ≤ sizeLine ∧ ∀ p, E.rt (.tupo p ds es [])) (fun x => E.ex x (frz τ))
@[simp] def tdAppT (i : Nat) (k : Int) (t : TDE) : TDS := fun τ E => ∃ p pre ds post, τ[i]? = some (some (.tupo p pre ds post)) ∧ k = pre.length ∧ ds.length < sizeLine ∧ t τ (fun d => E.nx (τ.set i (some (.tupo p pre (ds ++ [d]) post)))) (fun x => E.ex x τ)
end
end D3
set_option Elab.async false
set_option linter.all false
set_option maxRecDepth 100000
set_option maxHeartbeats 4000000
namespace D3
open PySem L2
def Sz (n k : Nat) (d : D) : Prop := shOk d = true ∧ (toPy d).depth ≤ k ∧ (toPy d).shown.length ≤ n
theorem Sz.reprOk {n k : Nat} {d : D} (h : Sz n k d) (hn : n ≤ 16777216) (hk : k ≤ 150) : reprOk d := ⟨h.1, Nat.le_trans h.2.1 hk, Nat.le_trans h.2.2 hn⟩
theorem Sz.mono {n k n' k' : Nat} {d : D} (h : Sz n k d) (hn : n ≤ n') (hk : k ≤ k') : Sz n' k' d := ⟨h.1, Nat.le_trans h.2.1 hk, Nat.le_trans h.2.2 hn⟩
theorem szs {n k : Nat} : ∀ {ds : List D}, (∀ d ∈ ds, Sz n k d) → shOks ds = true ∧ PyData.depthAll (toPys ds) ≤ k ∧ (∀ t ∈ PyData.shownAll (toPys ds), t.length ≤ n) ∧ (PyData.shownAll (toPys ds)).length = ds.length
  | [], _ => ⟨by simp [shOks], by simp [toPys, PyData.depthAll], by simp [toPys, PyData.shownAll], by simp [toPys, PyData.shownAll]⟩
  | d :: ds, h => by
    obtain ⟨a, b, c⟩ := h d List.mem_cons_self
    obtain ⟨a', b', c', l⟩ := szs (ds := ds) fun x hx => h x (List.mem_cons_of_mem _ hx)
    refine ⟨by simp [shOks, a, a'], ?_, ?_, by simp [toPys, PyData.shownAll, l]⟩
    · simp only [toPys, PyData.depthAll]
      exact Nat.max_le.mpr ⟨b, b'⟩
    · simp only [toPys, PyData.shownAll, List.mem_cons, forall_eq_or_imp]
      exact ⟨c, c'⟩
theorem piled_le {n : Nat} : ∀ {ts : List Str}, (∀ t ∈ ts, t.length ≤ n) → piled ts ≤ ts.length * (n + 2)
  | [], _ => by simp [piled]
  | t :: ts, h => by
    have h1 := h t List.mem_cons_self
    have h2 := piled_le (ts := ts) fun x hx => h x (List.mem_cons_of_mem _ hx)
    have e : piled (t :: ts) = t.length + 2 + piled ts := by simp [piled]
    rw [e, List.length_cons, Nat.succ_mul]
    omega
theorem listText_le {n : Nat} {ts : List Str} (h : ∀ t ∈ ts, t.length ≤ n) : (listText ts).length ≤ ts.length * (n + 2) + 2 := by
  have e : (listText ts).length = (textFrom 0 "[" ts).length + 1 := by
    show (textFrom 0 "[" ts ++ "]").length = _
    rw [strLen_append]; rfl
  rw [e]
  cases ts with
  | nil => show (1 : Nat) + 1 ≤ _; omega
  | cons t ts =>
    show (textFrom 1 (("[" : Str) ++ ("" : String) ++ t) ts).length + 1 ≤ _
    rw [textFrom_length_pos _ _ _ (by decide), strLen_append, strLen_append]
    have h1 := h t List.mem_cons_self
    have h2 := piled_le (ts := ts) fun x hx => h x (List.mem_cons_of_mem _ hx)
    have e1 : ("[" : Str).length = 1 := rfl
    have e2 : (("" : String) : Str).length = 0 := rfl
    rw [List.length_cons, Nat.succ_mul]
    omega
theorem join_le {n : Nat} {ts : List Str} (h : ∀ t ∈ ts, t.length ≤ n) : (Str.join ", " ts).length ≤ ts.length * (n + 2) := by
  cases ts with
  | nil => exact Nat.zero_le _
  | cons t ts =>
    have := join_length_add (t :: ts) (by simp)
    have h2 := piled_le h
    omega
theorem tupleText_le {n : Nat} {ts : List Str} (h : ∀ t ∈ ts, t.length ≤ n) : (tupleText ts).length ≤ ts.length * (n + 2) + 3 := by
  unfold tupleText
  rw [strLen_append, strLen_append]
  have := join_le h
  have e1 : ("(" : Str).length = 1 := rfl
  split
  · have e2 : ((",)" : String) : Str).length = 2 := rfl
    omega
  · have e2 : ((")" : String) : Str).length = 1 := rfl
    omega
theorem Sz.lst {n k m : Nat} {ds : List D} (h : ∀ d ∈ ds, Sz n k d) (hm : ds.length ≤ m) : Sz (m * (n + 2) + 2) (k + 1) (.lst ds) := by
  obtain ⟨a, b, c, l⟩ := szs h
  refine ⟨by simp [shOk, a], by simp only [toPy, PyData.depth]; omega, ?_⟩
  simp only [toPy, PyData.shown]
  have := listText_le c
  rw [l] at this
  have := Nat.mul_le_mul_right (n + 2) hm
  omega
theorem Sz.tup {n k m : Nat} {ds : List D} (h : ∀ d ∈ ds, Sz n k d) (hm : ds.length ≤ m) : Sz (m * (n + 2) + 3) (k + 1) (.tup ds) := by
  obtain ⟨a, b, c, l⟩ := szs h
  refine ⟨by simp [shOk, a], by simp only [toPy, PyData.depth]; omega, ?_⟩
  simp only [toPy, PyData.shown]
  have := tupleText_le c
  rw [l] at this
  have := Nat.mul_le_mul_right (n + 2) hm
  omega
theorem Sz.str {l : List Nat} (h : ∀ c ∈ l, c < 0x110000) : Sz (10 * l.length + 2) 1 (sD l) := by
  refine ⟨by simp [shOk], by simp [toPy, PyData.depth], ?_⟩
  simp only [toPy, PyData.shown]
  have := StrLaws.reprText_len (mk l) fun c hc => Nat.lt_trans (h c (by simpa using hc)) (by decide)
  simpa using this
theorem Sz.non : Sz 4 1 (.v .non) := ⟨by simp [shOk], by simp [toPy, PyData.depth], by simp only [toPy, PyData.shown]; decide +kernel⟩
theorem Sz.bl {b : Bool} : Sz 5 1 (.bl b) := ⟨by simp [shOk], by simp [toPy, PyData.depth], by simp only [toPy, PyData.shown]; cases b <;> decide +kernel⟩
end D3
set_option Elab.async false
set_option linter.all false
set_option maxRecDepth 100000
set_option maxHeartbeats 4000000
namespace D3
open PySem PySem.Spec PyProof.Rows L2
inductive Kd where
  | s | l | t
def signsV (z : Str) : List V := z.cps.toList.map fun c => V.str ⟨#[c]⟩
def Src (K : PySem.W.Frag) (v : V) (xs : List V) (H : Hp) : Kd → Prop
  | .s => ∃ z, v = .str z ∧ xs = signsV z
  | .l => ∃ a, v = .ref a ∧ SqL K H a xs
  | .t => ∃ a, v = .ref a ∧ SqT K H a xs
def ISt (u : Value) (it : Addr) (h : Heap) (i : Nat) : Kd → Prop
  | .s => ∃ x t, u = .str x t ∧ h.IsStrIter it (strIterType x) x t i
  | .l => ∃ a, u = .ref a ∧ a ≠ it ∧ h.IsListIter it a i
  | .t => ∃ a, u = .ref a ∧ a ≠ it ∧ h.IsTupleIter it a i
def fpOf (u : Value) : List Addr := match u with
  | .ref a => [a]
  | _ => []
theorem drawsOf {X : Cx} {pins : List (Addr × Obj)} {s : Shared} {σ : L2.St} {H : Hp} {A : Around} (I : L2.Inv X pins σ H s) (hh : A.handled = none) {k : Kd} {v : V} {u : Value} {xs : List V} {it : Addr} {i : Nat} (hs : Src X.K v xs H k) (r : L2.RelV v u) (st : ISt u it s.heap i k) :
    ∃ (P : Nat → Value → Prop) (St : Nat → Heap → Prop), Draws X.prog X.w A it (it :: fpOf u) xs.length P St ∧ St i s.heap ∧ (∀ j x, P j x → ∃ y, xs[j]? = some y ∧ L2.RelV y x) ∧ (∀ j h, St j h → ISt u it h j k) := by
  cases k with
  | s =>
    obtain ⟨z, rfl, rfl⟩ := hs
    obtain ⟨x, t, rfl, st⟩ := st
    obtain ⟨t', e⟩ := r
    cases e
    refine ⟨_, _, by unfold signsV; rw [List.length_map, Array.length_toList]; exact Draws.text hh it z t, st, fun j y h => ?_, fun j h q => ⟨z, t, rfl, q⟩⟩
    obtain ⟨c, w, e1, e2⟩ := h
    exact ⟨.str ⟨#[c]⟩, by unfold signsV; rw [List.getElem?_map, Array.getElem?_toList, e1]; rfl, w, e2⟩
  | l =>
    obtain ⟨a, rfl, sq⟩ := hs
    cases r
    obtain ⟨b, e, ne, st⟩ := st
    cases e
    obtain ⟨its, rv, p, _⟩ := I.list sq
    have D := Draws.list (prog := X.prog) (w := X.w) hh it a ne its.toArray
    have hl : its.toArray.size = xs.length := by rw [List.size_toArray, ← rv.length]
    rw [hl] at D
    refine ⟨_, _, D, ⟨st, p.isList⟩, fun j y h => ?_, fun j h q => ⟨a, rfl, ne, q.1⟩⟩
    have hj : j < xs.length := by rw [← hl]; exact (Array.getElem?_eq_some_iff.mp h).1
    obtain ⟨w, hw, rw'⟩ := rv.get (List.getElem?_eq_getElem hj)
    have : its.toArray[j]? = some w := by simpa using hw
    rw [this] at h
    cases h
    exact ⟨_, List.getElem?_eq_getElem hj, rw'⟩
  | t =>
    obtain ⟨a, rfl, sq⟩ := hs
    cases r
    obtain ⟨b, e, ne, st⟩ := st
    cases e
    obtain ⟨its, rv, p, _⟩ := I.tuple sq
    have D := Draws.tuple (prog := X.prog) (w := X.w) hh it a ne its.toArray
    have hl : its.toArray.size = xs.length := by rw [List.size_toArray, ← rv.length]
    rw [hl] at D
    refine ⟨_, _, D, ⟨st, p⟩, fun j y h => ?_, fun j h q => ⟨a, rfl, ne, q.1⟩⟩
    have hj : j < xs.length := by rw [← hl]; exact (Array.getElem?_eq_some_iff.mp h).1
    obtain ⟨w, hw, rw'⟩ := rv.get (List.getElem?_eq_getElem hj)
    have : its.toArray[j]? = some w := by simpa using hw
    rw [this] at h
    cases h
    exact ⟨_, List.getElem?_eq_getElem hj, rw'⟩
theorem src_inj {X : Cx} {pins : List (Addr × Obj)} {s : Shared} {σ : L2.St} {H : Hp} (I : L2.Inv X pins σ H s) {k : Kd} {v : V} {xs ys : List V} (h1 : Src X.K v xs H k) (h2 : Src X.K v ys H k) : xs = ys := by
  cases k with
  | s =>
    obtain ⟨z, rfl, rfl⟩ := h1
    obtain ⟨w, e, rfl⟩ := h2
    cases e; rfl
  | l =>
    obtain ⟨a, rfl, q1⟩ := h1
    obtain ⟨b, e, q2⟩ := h2
    cases e
    exact I.list_inj q1 q2
  | t =>
    obtain ⟨a, rfl, q1⟩ := h1
    obtain ⟨b, e, q2⟩ := h2
    cases e
    exact I.tuple_inj q1 q2
theorem ISt.obj {k : Kd} {u : Value} {it : Addr} {h : Heap} {i : Nat} (st : ISt u it h i k) : ∃ o, h.get? it = some o ∧ ∀ v, o.data ≠ .cell v := by
  cases k with
  | s => obtain ⟨x, t, _, o, e, _, d⟩ := st; exact ⟨o, e, fun v q => by rw [d] at q; cases q⟩
  | l => obtain ⟨a, _, _, o, e, _, d⟩ := st; exact ⟨o, e, fun v q => by rw [d] at q; cases q⟩
  | t => obtain ⟨a, _, _, o, e, _, d⟩ := st; exact ⟨o, e, fun v q => by rw [d] at q; cases q⟩
theorem ISt.keep {k : Kd} {u : Value} {it : Addr} {h h' : Heap} {i : Nat} (st : ISt u it h i k) (e : ∀ o, h.get? it = some o → h'.get? it = some o) : ISt u it h' i k := by
  cases k with
  | s => obtain ⟨x, t, q, o, a, r⟩ := st; exact ⟨x, t, q, o, e o a, r⟩
  | l => obtain ⟨a, q, n, o, b, r⟩ := st; exact ⟨a, q, n, o, e o b, r⟩
  | t => obtain ⟨a, q, n, o, b, r⟩ := st; exact ⟨a, q, n, o, e o b, r⟩
def itemsOf : D → Option (List D)
  | .lst ds => some ds
  | .tup ds => some ds
  | .v (.str z) => some (signs z)
  | _ => none
def pairsD : List D → List D → List D
  | a :: as, b :: bs => .tup [a, b] :: pairsD as bs
  | _, _ => []
section
variable {K : PySem.W.Frag} {W : Wd} {Wx : WX} {X : Cx} {a b : Expr} {p pos tpos : Pos} {tr : TA} {dr : TDA}
@[simp] def idZip (u : TDA) : TDI := fun τ Q R => u τ (fun ds => two ds fun x y => ∃ as bs, itemsOf x = some as ∧ itemsOf y = some bs ∧ Q (pairsD as bs)) R
@[simp] theorem itemsOf_lst {ds : List D} : itemsOf (.lst ds) = some ds := rfl
@[simp] theorem itemsOf_tup {ds : List D} : itemsOf (.tup ds) = some ds := rfl
@[simp] theorem itemsOf_str {z : Str} : itemsOf (.v (.str z)) = some (signs z) := rfl
end
section
variable {K : PySem.W.Frag} {W : Wd} {Wx : WX} {X : Cx} {a b : Expr} {ta tb : TE} {da db : TDE} {pos : Pos}
def fLtS : TD2 := fun x y Q => match x, y with
  | .v (.str i), .v (.str j) => Q (.bl (decide (i.cps.toList < j.cps.toList)))
  | _, _ => False
def fGeS : TD2 := fun x y Q => match x, y with
  | .v (.str i), .v (.str j) => Q (.bl (!decide (i.cps.toList < j.cps.toList)))
  | _, _ => False
@[simp] theorem fLtS_str {i j : Str} {Q : D → Prop} : fLtS (.v (.str i)) (.v (.str j)) Q = Q (.bl (decide (i.cps.toList < j.cps.toList))) := rfl
@[simp] theorem fGeS_str {i j : Str} {Q : D → Prop} : fGeS (.v (.str i)) (.v (.str j)) Q = Q (.bl (!decide (i.cps.toList < j.cps.toList))) := rfl
end
end D3
set_option Elab.async false
set_option linter.all false
set_option maxRecDepth 100000
set_option maxHeartbeats 4000000
namespace D3
open PySem PySem.Spec PyProof.Rows L2
def IteG (K : PySem.W.Frag) (k : Kd) (v : V) (n : Nat) : It :=
  ⟨fun i H => ∃ xs, Src K v xs H k ∧ xs.length = n ∧ i < n,
    fun i H u H' => ∃ T x, ∃ o : Obj, u = .ref T ∧ H T = none ∧ o.dict = none ∧ H' = upd H T (.frz o (.tup [.int (i : Nat), x])) ∧ ∀ xs, Src K v xs H k → xs[i]? = some x,
    fun i H => ∃ xs, Src K v xs H k ∧ xs.length = n ∧ n ≤ i⟩
theorem turn_enumG {P : Program} {w : World} {K : PySem.W.Frag} {elts : List Expr} {kk : Nat} {tpos : Pos} {k : Kd} {v : V} {u : Value} {n : Nat} {e it : Addr} (hne : e ≠ it) (hef : e ∉ it :: fpOf u) (r : L2.RelV v u) :
    Turn P w K (.Tuple elts kk tpos) (IteG K k v n) [e, it] e (fun i h => i ≤ n ∧ (∃ old, IsEnum h e it ((i : Nat) : Int) old) ∧ ISt u it h i k) where
  mem := by simp
  obj := fun i h st c hc => by
    obtain ⟨_, ⟨old, he⟩, s1⟩ := st
    rcases (by simpa using hc : c = e ∨ c = it) with rfl | rfl
    · exact ⟨_, he, fun v q => nomatch q⟩
    · exact s1.obj
  keep := fun i h h' st k => let ⟨b, ⟨old, he⟩, s1⟩ := st; ⟨b, ⟨old, k e (by simp) _ he⟩, s1.keep (k it (by simp))⟩
  item := by
    intro X hP hw hK hc i pins s σ H E I hf st hg
    subst hP hw hK
    obtain ⟨_, ⟨old, he⟩, s1⟩ := st
    obtain ⟨xs, g1, rfl, lt⟩ := hg
    have hh : X.A.in1.handled = none := I.ok.hd hc
    obtain ⟨P1, St1, D1, a1, b1, c1⟩ := drawsOf I hh g1 r s1
    have hel : e < s.heap.objs.size := Heap.lt_size he
    have hil : it < s.heap.objs.size := by obtain ⟨_, q, _⟩ := s1.obj; exact Heap.lt_size q
    refine wpAny_pyNext_enum_itemD D1 he a1 lt hne hef fun x h' tk px ho hst hT hsz hk => ?_
    obtain ⟨y, e1, q1⟩ := b1 i x px
    have t1 := c1 _ _ hst
    refine ⟨_, rfl, wpAny_letOwnedTupleGo_enum (s := { s with heap := h', toks := tk + 1 }) ho fun h'' he' sb => ?_⟩
    have hT2 : h''.get? s.heap.objs.size = some { cls := .type "tuple", data := .seq #[.int i tk, x] } := (sb.2 _ (Nat.ne_of_gt hel)).trans hT
    have I1 : L2.Inv X pins σ (upd H s.heap.objs.size (.frz _ (.tup [.int (i : Nat), y]))) { s with heap := h'', toks := tk + 1 } :=
      I.turnedNew (t' := tk + 1) (ch := [e, it]) (fun b ob hb q => (sb.2 b (fun z => hb (by simp [z]))).trans (hk b ob (fun z => hb (by simp [z])) (fun z => hb (by simp [z])) q)) hf (Nat.le_refl _) (ObjOk.tupN (xs := [V.int (i : Nat), y]) (us := [.int i tk, x]) hT2 rfl rfl (by show 2 ≤ sizeLine; decide) (.cons ⟨_, rfl⟩ (.cons q1 .nil)))
    refine ⟨.ref s.heap.objs.size, _, I1, rfl, ⟨_, y, _, rfl, I.hok.fresh (Nat.le_refl _), rfl, rfl, fun ys hy => by rw [src_inj I hy g1]; exact e1⟩, ⟨lt, ⟨x, ?_⟩, t1.keep fun o q => (sb.2 it (Ne.symm hne)).trans q⟩, fun b hb => ?_⟩
    · have e1 : ((i + 1 : Nat) : Int) = (i : Int) + 1 := by omega
      rw [e1]; exact he'
    · have hb' : b < s.heap.objs.size := by
        rcases (by simpa using hb : b = e ∨ b = it) with z | z
        · rw [z]; exact hel
        · rw [z]; exact hil
      rw [upd_ne (Nat.ne_of_lt hb')]
      exact (hf b hb).1
  done := by
    intro X hP hw hK hc i pins s σ H E I hf st hg
    subst hP hw hK
    obtain ⟨j1, ⟨old, he⟩, s1⟩ := st
    obtain ⟨xs, g1, rfl, le⟩ := hg
    have hh : X.A.in1.handled = none := I.ok.hd hc
    obtain ⟨P1, St1, D1, a1, b1, c1⟩ := drawsOf I hh g1 r s1
    have ei : i = xs.length := Nat.le_antisymm j1 le
    subst ei
    exact wpAny_pyNext_enum_endD D1 he a1 fun h' eb => ⟨rfl, I.turnedL (t' := s.toks) (ch := [e, it]) (fun b o nb q => eb b o (fun z => nb (by simp [z])) q) hf⟩
  self := fun A i s Q E st h => let ⟨_, ⟨_, he⟩, _⟩ := st; wpAny_pyIter_enum he h
def iEnumG (K : PySem.W.Frag) (ta : TA) : TI := fun σ H R => ta σ H fun vs H1 => ∃ k v xs, vs = [v] ∧ k ≠ Kd.t ∧ Src K v xs H1 k ∧ R (IteG K k v xs.length) H1
theorem pi_enumG {X : Cx} {e : Expr} {ta : TA} {p pos tpos : Pos} {elts : List Expr} {kk : Nat} (hg : Gl X "enumerate") (hm : X.mg "enumerate" = none) (ha : PA X [e] ta) (hs : starEach [e] X.env = [(false, eval e X.env)] := by rfl) :
    PI X (.Tuple elts kk tpos) (.Call (.Name "enumerate" p) [e] [] pos) (iEnumG X.K ta) := by
  refine ⟨fun pins s σ H R I h => ?_⟩
  refine Call_ (ld_blt I hg hm boot_enumerate (PyProof.Rows.callWith_type1 (thn (ha.run pos pins s σ H _ I h) fun us s1 ⟨vs, H1, I1, r1, q1⟩ => ?_) hs rfl))
  obtain ⟨k, v, xs, ex, hk, hq, q⟩ := q1
  subst ex
  cases r1 with
  | @cons _ u _ _ r rr =>
    cases rr
    have fin : ∀ (h' : Heap), IsEnum h' (s1.heap.objs.size + 1) s1.heap.objs.size 0 .none → ISt u s1.heap.objs.size h' 0 k → (∀ b ∈ fpOf u, b < s1.heap.objs.size) → (∀ b o, s1.heap.get? b = some o → h'.get? b = some o) →
        wpAny (model X.prog X.w) X.A (pyIter (.ref (s1.heap.objs.size + 1))) (PIE X pins σ (.Tuple elts kk tpos) R) X.xe { s1 with heap := h' } := fun h' he hit hb hk2 => by
      refine wpAny_pyIter_enum he ?_
      have I2 : L2.Inv X pins σ H1 { s1 with heap := h' } := I1.kept (t' := s1.toks) hk2
      refine ⟨s1.heap.objs.size + 1, [s1.heap.objs.size + 1, s1.heap.objs.size], _, _, H1, rfl, I2, turn_enumG (Nat.succ_ne_self _) (fun z => ?_) r, ⟨Nat.zero_le _, ⟨.none, he⟩, hit⟩, fun b hb => ?_, q⟩
      · rcases List.mem_cons.mp z with z | z
        · exact Nat.succ_ne_self _ z
        · exact absurd (hb _ z) (Nat.not_lt_of_le (Nat.le_succ _))
      · have hle : s1.heap.objs.size ≤ b := by
          rcases (by simpa using hb : b = s1.heap.objs.size + 1 ∨ b = s1.heap.objs.size) with z | z
          · rw [z]; exact Nat.le_add_right _ _
          · rw [z]; exact Nat.le_refl _
        exact I1.fpOk hle (I1.hok.fresh hle)
    cases k with
    | t => exact absurd rfl hk
    | s =>
      obtain ⟨z, rfl, rfl⟩ := id hq
      obtain ⟨t, rfl⟩ := r
      exact call_enumerate_str fun h' he hit hsz hk2 => fin h' he ⟨z, t, rfl, hit⟩ (fun b hb => nomatch hb) hk2
    | l =>
      obtain ⟨a, rfl, sq⟩ := id hq
      cases r
      obtain ⟨its, rv, p', hz⟩ := I1.list sq
      exact call_enumerate_list p'.isList fun h' he hit hsz hk2 => fin h' he ⟨a, rfl, Nat.ne_of_lt p'.lt, hit⟩ (fun b hb => by cases List.mem_singleton.mp hb; exact p'.lt) hk2
section
variable {K : PySem.W.Frag} {W : Wd} {Wx : WX} {X : Cx} {e : Expr} {p pos tpos : Pos} {tr : TA} {dr : TDA}
theorem Walks.enumG {I : Hp} {k : Kd} {v : V} {xs : List V} {ds : List D} (s1 : ∀ I2 H2, Same I I2 → W.ok I2 H2 → Src K v xs H2 k) (a1 : IsAll K I xs ds) : Walks K W (IteG K k v xs.length) I (nums 0 ds) := fun i I2 H2 sm ok => by
  have g1 := s1 I2 H2 sm ok
  have l1 := a1.length
  refine ⟨fun hi => ?_, fun hi => ⟨xs, g1, rfl, by rw [nums_len] at hi; omega⟩⟩
  rw [nums_len] at hi
  refine ⟨⟨xs, g1, rfl, by omega⟩, fun x H3 y => ?_⟩
  obtain ⟨t, u, o, rfl, hn, hd0, rfl, hu⟩ := y
  obtain ⟨d, hd, iv⟩ := a1.getV (hu xs g1)
  refine ⟨upd I2 t (.frz o (.tup [.int (i : Nat), u])), _, nums_at hd, Later.alloc ok hn, .tup (SqN.of upd_same hd0) (.cons ?_ (.cons ((iv.mono sm).mono (Same.new (Same.non (W.ex ok) hn))) .nil))⟩
  rw [Nat.zero_add]
  exact .v _
def enumOf : D → Option (List D)
  | .lst ds => some ds
  | .v (.str z) => some (signs z)
  | _ => none
@[simp] theorem enumOf_lst {ds : List D} : enumOf (.lst ds) = some ds := rfl
@[simp] theorem enumOf_str {z : Str} : enumOf (.v (.str z)) = some (signs z) := rfl
theorem src_ofE {I : Hp} {v : V} {d : D} {ds : List D} (h : Is K I v d) (e : enumOf d = some ds) : ∃ k xs, k ≠ Kd.t ∧ (∀ I2 H2, Same I I2 → W.ok I2 H2 → Src K v xs H2 k) ∧ IsAll K I xs ds := by
  cases h with
  | v x =>
    cases v with
    | str z =>
      cases e
      refine ⟨.s, signsV z, (fun z => nomatch z), fun _ _ _ _ => ⟨z, rfl, rfl⟩, ?_⟩
      unfold signsV signs
      exact isAll_signs _
    | _ => cases e
  | lst h r => cases e; exact ⟨.l, _, (fun z => nomatch z), fun I2 H2 sm ok => ⟨_, rfl, SqL.of (W.ex ok _ _ (sm _ _ h))⟩, r⟩
  | tup h r => cases e
  | dic h r => cases e
  | ins h r => cases e
  | exc0 => cases e
  | exc1 h r => cases e
  | lent r => cases e
  | dt _ _ _ _ => cases e
def one1 (ds : List D) (P : D → Prop) : Prop := match ds with
  | [x] => P x
  | _ => False
@[simp] theorem one1_one {x : D} {P : D → Prop} : one1 [x] P = P x := rfl
@[simp] def idEnumG (u : TDA) : TDI := fun τ Q R => u τ (fun ds => one1 ds fun x => ∃ as, enumOf x = some as ∧ Q (nums 0 as)) R
theorem di_enumG {elts : List Expr} {kk : Nat} (hm : X.mg "enumerate" = none) (ha : DA X K W Wx [e] tr dr) (hg : Gl X "enumerate" := by rfl) (hs : starEach [e] X.env = [(false, eval e X.env)] := by rfl) :
    DI X K W Wx (.Tuple elts kk tpos) (.Call (.Name "enumerate" p) [e] [] pos) (iEnumG K tr) (idEnumG dr) := by
  have hk := ha.k; subst hk
  refine ⟨rfl, pi_enumG hg hm ha.pa hs, fun I H σ τ Q R G ok rp t hq hx => ha.sim I H σ τ _ R _ ok rp t (fun vs ds I1 H1 q1 i1 l1 => ?_) hx⟩
  unfold one1 at q1
  split at q1
  · obtain ⟨as, e1, q2⟩ := q1
    obtain ⟨w1, rfl, h1⟩ := isAll1 i1
    obtain ⟨k1, xs, nk, s1, r1⟩ := src_ofE (W := W) h1 e1
    exact ⟨k1, w1, xs, rfl, nk, s1 _ _ (Same.refl _) l1.ok, hq _ _ I1 H1 q2 (Walks.enumG s1 r1) l1⟩
  · exact q1.elim
end
theorem compD_mapG {g : TDG} {te : TDE} {vs : List Nat} {τ : Tau} (f : D → D) : ∀ {ds : List D} {Q : List D → Prop}, (∀ d ∈ ds, ∀ K : D → Prop, K (f d) → g d (wipeT τ vs) fun τ2 => te τ2 K (fun _ => False)) → Q (ds.map f) → compD g tdYes te vs τ ds Q
  | [], _, _, q => q
  | d :: ds, Q, h, q => by
    have e : (fun τ2 => (tdYes τ2 (fun b => if b = true then te τ2 (fun y => compD g tdYes te vs τ ds fun ys => Q (y :: ys)) (fun _ => False) else compD g tdYes te vs τ ds Q) (fun _ => False))) = fun τ2 => te τ2 (fun y => compD g tdYes te vs τ ds fun ys => Q (y :: ys)) (fun _ => False) := by
      funext τ2; simp
    unfold compD
    rw [e]
    exact h d List.mem_cons_self _ (compD_mapG f (Q := fun ys => Q (f d :: ys)) (fun x hx => h x (List.mem_cons_of_mem _ hx)) q)
/-- with tests; g a target of any kind -/
theorem compD_filterG {g : TDG} {te : TDE} {td : TDT} {vs : List Nat} {τ : Tau} (p : D → Bool) (f : D → D) : ∀ {ds : List D} {Q : List D → Prop},
    (∀ d ∈ ds, ∀ (Kt : Prop) (K : D → Prop), (p d = true → K (f d)) → (p d = false → Kt) → g d (wipeT τ vs) fun τ2 => td τ2 (fun b => if b = true then te τ2 K (fun _ => False) else Kt) (fun _ => False)) → Q ((ds.filter p).map f) → compD g td te vs τ ds Q
  | [], _, _, q => q
  | d :: ds, Q, h, q => by
    have ih : ∀ {Q : List D → Prop}, Q ((ds.filter p).map f) → compD g td te vs τ ds Q := fun {Q} q => compD_filterG p f (fun x hx => h x (List.mem_cons_of_mem _ hx)) q
    unfold compD
    refine h d List.mem_cons_self _ _ (fun hp => ih ?_) (fun hp => ih ?_)
    · rw [List.filter_cons, if_pos hp] at q
      exact q
    · rw [List.filter_cons, if_neg (by rw [hp]; decide)] at q
      exact q
theorem nums_map {α : Type} (f : α → D) : ∀ (l : List α) (k : Nat), nums k (l.map f) = (l.zipIdx k).map fun p => .tup [.int (p.2 : Nat), f p.1]
  | [], _ => rfl
  | a :: l, k => by simp [nums, nums_map f l (k + 1), List.zipIdx_cons]
def cutN (l : List Nat) (lo hi : Option Int) : List Nat := (l.drop (HT.sIx l.length 0 lo)).take (HT.sIx l.length l.length hi - HT.sIx l.length 0 lo)
@[simp] theorem cutS_mk (l : List Nat) (lo hi : Option Int) : cutS (mk l) lo hi = mk (cutN l lo hi) := by
  unfold cutS cutN
  rw [mk_length, mk_cps]
  rfl
theorem cutN_to {l : List Nat} {a : Nat} : cutN l none (some (a : Int)) = l.take a := by
  unfold cutN
  rw [HT.sIx_nat, show HT.sIx l.length 0 none = 0 from rfl]
  simp only [List.drop_zero, Nat.sub_zero]
  by_cases h : a ≤ l.length
  · rw [Nat.min_eq_left h]
  · rw [Nat.min_eq_right (by omega), List.take_of_length_le (Nat.le_refl _), List.take_of_length_le (by omega)]
theorem cutN_mem {l : List Nat} {lo hi : Option Int} {c : Nat} (h : c ∈ cutN l lo hi) : c ∈ l := List.mem_of_mem_drop (List.mem_of_mem_take h)
theorem cutN_len {l : List Nat} {lo hi : Option Int} : (cutN l lo hi).length ≤ l.length := by
  unfold cutN
  rw [List.length_take, List.length_drop]
  omega
/-- .. of lists -/
theorem cutD_map {α : Type} (f : α → D) (l : List α) (lo hi : Option Int) : cutD (l.map f) lo hi = ((l.drop (HT.sIx l.length 0 lo)).take (HT.sIx l.length l.length hi - HT.sIx l.length 0 lo)).map f := by
  unfold cutD
  rw [List.length_map, ← List.map_drop, ← List.map_take]
theorem Sz.int {i : Int} (h : i.natAbs.log2 < 1920) : Sz 1921 1 (.int i) := by
  refine ⟨by simp [shOk, h], by simp [toPy, PyData.depth], ?_⟩
  simp only [toPy, PyData.shown_int]
  exact PyProof.Rows.int_text_len_1921 h
theorem log2_of {i : Int} (h : i.natAbs < 2 ^ 1919) : i.natAbs.log2 < 1920 := by
  have : i.natAbs.log2 < 1919 := PySem.Flt.log2_lt_of (by decide) h
  omega
end D3
namespace D3
open PySem PySem.Spec PyProof.Rows L2
@[simp] theorem fIn_tup {n : Bool} {a : V} {ds : List D} {Q : D → Prop} : fIn n (.v a) (.tup ds) Q = (flatV a = true ∧ ∃ xs : List V, ds = xs.map D.v ∧ xs.all flatV = true ∧ Q (.bl (n ^^ inV a xs))) := by cases a <;> rfl
@[simp] theorem fIn_lst {n : Bool} {a : V} {ds : List D} {Q : D → Prop} : fIn n (.v a) (.lst ds) Q = (flatV a = true ∧ ∃ xs : List V, ds = xs.map D.v ∧ xs.all flatV = true ∧ Q (.bl (n ^^ inV a xs))) := by cases a <;> rfl
@[simp] theorem flatV_str {s : Str} : flatV (.str s) = true := rfl
@[simp] theorem flatV_int {i : Int} : flatV (.int i) = true := rfl
@[simp] theorem flatV_bl {i : Bool} : flatV (.bl i) = true := rfl
@[simp] theorem flatV_non : flatV .non = true := rfl
end D3
namespace D3
open PySem PySem.Spec PyProof.Rows L2
theorem eqD_nil (ds : List D) : eqD (.lst ds) (.lst []) = ds.isEmpty := by
  cases ds <;> simp [eqD, toPy, toPys, PyData.eqv, PyData.eqvAll]
theorem tdSeq_asg {i : Nat} {t : TDE} {u : TDS} {τ : Tau} {E : DEnds} (d : D) (h : ∀ (Q : D → Prop) (R : Exc → Prop), Q d → t τ Q R) (k : u (τ.set i (some (.dat d))) E) : tdSeq (tdAsg t (gdName i)) u τ E := h _ _ k
theorem tdSeq_asgP {i : Nat} {t : TDE} {u : TDS} {τ : Tau} {E : DEnds} (P : D → Prop) (h : ∀ (Q : D → Prop) (R : Exc → Prop), (∀ d, P d → Q d) → t τ Q R) (k : ∀ d, P d → u (τ.set i (some (.dat d))) E) : tdSeq (tdAsg t (gdName i)) u τ E := h _ _ k
theorem tdSeq_setO {i : Nat} {t : TDO} {u : TDS} {τ : Tau} {E : DEnds} (P : List D → Prop) (h : ∀ (Q : List D → Prop) (R : Exc → Prop), (∀ d, P d → Q d) → t τ Q R) (k : ∀ d, P d → u (τ.set i (some (.own d))) E) : tdSeq (tdSetO t i) u τ E := h _ _ k
theorem tdSeq_setF {i : Nat} {t : TDE} {u : TDS} {τ : Tau} {E : DEnds} (d : D) (h : ∀ (Q : D → Prop) (R : Exc → Prop), Q d → t (frz τ) Q R) (f : flatD d) (k : u (τ.set i (some (.dat d))) E) : tdSeq (tdSetF t i) u τ E := h _ _ ⟨f, k⟩
/-- an if that tells b -/
theorem tdSeq_if {c : TDT} {t1 t2 u : TDS} {τ : Tau} {E : DEnds} (b : Bool) (h : ∀ (Q : Bool → Prop) (R : Exc → Prop), Q b → c (frz τ) Q R) (k1 : b = true → t1 τ { E with nx := fun τ' => u τ' E }) (k2 : b = false → t2 τ { E with nx := fun τ' => u τ' E }) : tdSeq (tdIfS c t1 t2) u τ E := by
  refine h _ _ ?_
  cases b with
  | true => rw [if_pos rfl]; exact k1 rfl
  | false => rw [if_neg Bool.false_ne_true]; exact k2 rfl
/-- .. without else -/
theorem tdSeq_if1 {c : TDT} {t1 u : TDS} {τ : Tau} {E : DEnds} (b : Bool) (h : ∀ (Q : Bool → Prop) (R : Exc → Prop), Q b → c (frz τ) Q R) (k1 : b = true → t1 τ { E with nx := fun τ' => u τ' E }) (k2 : b = false → u τ E) : tdSeq (tdIfS c t1 tdNext) u τ E := by
  refine h _ _ ?_
  cases b with
  | true => rw [if_pos rfl]; exact k1 rfl
  | false => rw [if_neg Bool.false_ne_true]; exact k2 rfl
theorem tdIf_by {c : TDT} {t1 t2 : TDS} {τ : Tau} {E : DEnds} (b : Bool) (h : ∀ (Q : Bool → Prop) (R : Exc → Prop), Q b → c (frz τ) Q R) (k1 : b = true → t1 τ E) (k2 : b = false → t2 τ E) : tdIfS c t1 t2 τ E := by
  refine h _ _ ?_
  cases b with
  | true => rw [if_pos rfl]; exact k1 rfl
  | false => rw [if_neg Bool.false_ne_true]; exact k2 rfl
theorem tdRet_by {t : TDE} {τ : Tau} {E : DEnds} (d : D) (h : ∀ (Q : D → Prop) (R : Exc → Prop), Q d → t (frz τ) Q R) (k : E.rt (.dat d)) : tdRet t τ E := h _ _ k
/-- a first value, then another one if it is true -/
theorem tdAndV_by {ta tb : TDE} {τ : Tau} {Q : D → Prop} {R : Exc → Prop} (a b : Bool) (h1 : ∀ (Q : D → Prop) (R : Exc → Prop), Q (.bl a) → ta τ Q R) (h2 : a = true → ∀ (Q : D → Prop) (R : Exc → Prop), Q (.bl b) → tb τ Q R) (q : Q (.bl (a && b))) : tdAndV ta tb τ Q R := by
  refine h1 _ _ ?_
  cases a with
  | true => exact h2 rfl _ _ q
  | false => exact q
theorem tdAnd_by {ta tb : TDT} {τ : Tau} {Q : Bool → Prop} {R : Exc → Prop} (a b : Bool) (h1 : ∀ (Q : Bool → Prop) (R : Exc → Prop), Q a → ta τ Q R) (h2 : a = true → ∀ (Q : Bool → Prop) (R : Exc → Prop), Q b → tb τ Q R) (q : Q (a && b)) : tdAnd ta tb τ Q R := by
  refine h1 _ _ ?_
  cases a with
  | true => exact h2 rfl _ _ q
  | false => exact q
theorem tdOr_by {ta tb : TDT} {τ : Tau} {Q : Bool → Prop} {R : Exc → Prop} (a b : Bool) (h1 : ∀ (Q : Bool → Prop) (R : Exc → Prop), Q a → ta τ Q R) (h2 : a = false → ∀ (Q : Bool → Prop) (R : Exc → Prop), Q b → tb τ Q R) (q : Q (a || b)) : tdOr ta tb τ Q R := by
  refine h1 _ _ ?_
  cases a with
  | true => exact q
  | false => exact h2 rfl _ _ q
theorem tdNot_by {ta : TDT} {τ : Tau} {Q : Bool → Prop} {R : Exc → Prop} (a : Bool) (h1 : ∀ (Q : Bool → Prop) (R : Exc → Prop), Q a → ta τ Q R) (q : Q (!a)) : tdNot ta τ Q R := h1 _ _ q
theorem tdTest_by {t : TDE} {τ : Tau} {Q : Bool → Prop} {R : Exc → Prop} (a : Bool) (h : ∀ (Q : D → Prop) (R : Exc → Prop), Q (.bl a) → t τ Q R) (q : Q a) : tdTest t τ Q R := h _ _ q
end D3
set_option Elab.async false
set_option linter.all false
set_option maxRecDepth 100000
set_option maxHeartbeats 4000000
namespace D3
open PySem PySem.Spec PyProof.Rows L2
def bmVE : List Value := [.type "ValueError", .type "Exception", .type "BaseException", .type "object"]
/-- its instances may be asked for their class -/
structure ExcK (K : PySem.W.Frag) (C : Addr) : Prop where
  ga : PySem.W.findIn K (.ref C) "__getattribute__" = some (some (.builtin "BaseException.__getattribute__"))
  gg : PySem.W.findIn K (.ref C) "__getattr__" = some none
  ex : PySem.W.subIn K (.ref C) (.type "BaseException") = some true
  hd : PySem.W.hasDictIn K C = true
  ca : PySem.W.findIn K (.ref C) "__class__" = some (some (.builtin "object.__class__"))
  cn : PySem.W.specialIn K (.builtin "object.__class__") "__get__" = some (some (.builtin "getset_descriptor.__get__"))
  ct : PySem.W.takesIn K (.builtin "object.__class__") = some true
  mo : PySem.W.mroIn K C (.type "object") = some true
  ty : PySem.W.typeIn K (.ref C) = some (.type "type")
  kC : PySem.W.keepIn K (.ref C) = true
theorem ExcK.xf {K : PySem.W.Frag} {C : Addr} (h : ExcK K C) : XfC K C := ⟨h.ga, h.gg, h.ex, h.hd⟩
/-- a class without an __init__ of its own -/
structure PlainX (K : PySem.W.Frag) (mg : Str → Option Value) (x : Str) (C : Addr) : Prop where
  g : mg x = some (.ref C)
  E : ExcK K C
  q : PySem.W.excIn K C bmVE "ValueError.__new__" = true
/-- the class whose __init__ is called by name -/
structure BaseX (K : PySem.W.Frag) (mg : Str → Option Value) (x : Str) (C : Addr) : Prop where
  g : mg x = some (.ref C)
  sp : PySem.W.specialIn K (.ref C) "__getattribute__" = some (some (.builtin "type.__getattribute__"))
  rd : PySem.W.readsIn K C (.type "type") = true
  fi : PySem.W.findCls K (.ref C) (.type "type") "__init__" = some (.val (.builtin "ValueError.__init__"))
/-- a class with an __init__ of its own -/
structure InitX (K : PySem.W.Frag) (mg : Str → Option Value) (x : Str) (C fI : Addr) (st : Stmt) (qual : Str) (ps : List Str) (fd : FuncData) : Prop where
  g : mg x = some (.ref C)
  E : ExcK K C
  o : OexC K C
  i : PySem.W.findIn K (.ref C) "__init__" = some (some (.ref fI))
  t : PySem.W.typeIn K (.ref fI) = some (.type "function")
  F : Fun K "__init__" qual st fI fd
  b : Binds K fd ps []
section
variable {X : Cx} {x : Str} {C : Addr} {p p1 p2 pos : Pos} {e : Expr} {es : List Expr} {ta : TA}
/-- C.__init__(self, ..), C a class of the program without one -/
theorem pe_clsinit {pl : Sem Bool} (hg : Gl X x) (B : BaseX X.K X.mg x C) (ha : PA X (e :: es) ta)
    (hdb : (x == ("__debug__" : Str)) = false := by decide)
    (hc : eval (.Call (.Attribute (.Name x p1) "__init__" p2) (e :: es) [] pos) X.env = (do
      let ov ← eval (.Name x p1) X.env
      standAt p2.atName
      let (f, first) ← holding [ov] (getMethod ov "__init__" pl)
      callWith pos f first (backTo pos (starEach (e :: es) X.env)) (backToKw pos (keywordEach [] X.env))) := by rfl)
    (he : starEach (e :: es) X.env = (false, eval e X.env) :: starEach es X.env := by rfl) (hpl : (backTo pos (starEach es X.env)).any (·.1) = false := by rfl) :
    PE X (.Call (.Attribute (.Name x p1) "__init__" p2) (e :: es) [] pos) (tVeI X.K ta) := by
  refine ⟨fun pins s σ H Q I h => ?_⟩
  refine PySem.W.methodCall_KW (ld_glob I hg B.g ?_ hdb) hc
  refine PySem.W.method_cls I.kIn B.sp (PySem.W.cls_value I.kIn B.rd B.fi (by decide +kernel) ?_)
  show wpAny _ _ (callWith pos (Value.builtin "ValueError.__init__") [] (backTo pos (starEach (e :: es) X.env)) []) _ _ _
  refine PyProof.Rows.callWith_method1 (thn (ha.run pos pins _ σ H _ (I.tok _) h) fun us s1 ⟨vs, H1, I1, r1, a, C, ws, ev, hl, T, ea, q⟩ => ?_) he hpl
  subst ev
  cases r1 with
  | @cons _ u0 _ ur ra rw' =>
    obtain rfl : u0 = Value.ref a := ra
    have hlen : ur.length ≤ sizeLine := by
      rw [← Paired.length rw', sizeLine_eq]
      omega
    exact oinit_ok T I1 ea hlen fun s' J => ⟨.non, H1, J, rfl, q⟩
end
/-- an __init__ that stores its one thing -/
def spInit1 (K : PySem.W.Frag) (f : Str) : Sp := fun vs H Q _ => ∃ (a : Addr) (v : V) (C : Addr), vs = [.ref a, v] ∧ OexC K C ∧ PySem.W.findIn K (.ref C) f = some none ∧ H a = some (exo a C none) ∧
  ∀ dx, H dx = none → dx ≠ a → Q .non (upd (upd H dx (exd dx [(f, v)])) a (exo a C (some dx)))
theorem spInit1_len {K : PySem.W.Frag} {f : Str} {vs : List V} {H : Hp} {Q : VK} {E : XK} (h : spInit1 K f vs H Q E) : vs.length = 2 := by obtain ⟨_, _, _, rfl, _⟩ := h; rfl
theorem read_init1 {K : PySem.W.Frag} {f m : Str} {vs : List V} {H : Hp} {Q : VK} {E : XK} (h : spInit1 K f vs H Q E) :
    tSeq (tDrop (tVeI K (tCons (tVar 0) (tCons (tC (.str m)) tNil)))) (tOst K f (tVar 0) (tVar 1)) { nx := fun _ H' => Q .non H', rt := Q } (L2.start ["self", "a"] vs) H := by
  obtain ⟨a, v, C, rfl, oC, nf, ha, hq⟩ := h
  exact ⟨_, rfl, a, C, [.str m], rfl, by show 1 ≤ 1000; decide, oC, ha, _, rfl, _, rfl, a, C, rfl, oC, nf, .inl ⟨ha, fun dx h1 h2 => hq dx h1 h2⟩⟩
abbrev TDM := Tau → (Exc → Prop) → Prop
structure DMk (X : Cx) (K : PySem.W.Frag) (W : Wd) (Wx : WX) (e : Expr) (tm : L2.St → Hp → XK → Prop) (td : TDM) : Prop where
  k : X.K = K
  pm : PMk X e tm
  sim : ∀ (I H : Hp) (σ : L2.St) (τ : Tau) (R : Exc → Prop), W.ok I H → Rep K W I H σ τ → td τ R → XOk K W Wx R I H σ → tm σ H fun cls d H' => Wx cls d σ H'
section
variable {K : PySem.W.Frag} {W : Wd} {Wx : WX} {X : Cx} {x : Str} {C : Addr} {p pos : Pos} {e e2 : Expr} {tr : TA} {dr : TDA}
theorem ds_raise {tm : L2.St → Hp → XK → Prop} {td : TDM} (hc : X.calm = true) (tk : Takes X Wx) (h : DMk X K W Wx e tm td) : DS X K W Wx (.Raise (some e) none pos) (fun _ σ H => tm σ H fun cls d H' => Wx cls d σ H') (fun τ E => td (frz τ) (fun x => E.ex x (frz τ))) := by
  have hk := h.k; subst hk
  refine ⟨rfl, ps_raise hc tk h.pm, fun I H σ τ E D ok rp t r => ?_⟩
  obtain ⟨I1, sm, ok1, rp1, nw⟩ := rp.frz ok
  exact h.sim I1 H σ (frz τ) _ ok1 rp1 t (r.xokF rp1 sm ok1 nw)
@[simp] def tdMk0 (C : Addr) : TDM := fun _ R => R (.ref C, [])
@[simp] def tdMk1 (C : Addr) (f : Str) (u : TDA) : TDM := fun τ R => u τ (fun ds => one1 ds fun d => R (.ref C, [(f, d)])) R
@[simp] def tdMk2 (C : Addr) (f g : Str) (u : TDA) : TDM := fun τ R => u τ (fun ds => two ds fun d d' => R (.ref C, [(g, d'), (f, d)])) R
theorem made_eq {H : Hp} {a d C : Addr} {o1 : HO} {fs : List (Str × V)} (ha : H a = none) (hda : d ≠ a) : upd (del (upd (upd (upd H a (exo a C none)) d o1) a (exo a C (some d))) a) d (.xd fs) = upd H d (.xd fs) := by
  funext b
  by_cases h1 : b = d
  · rw [h1, upd_same, upd_same]
  · rw [upd_ne h1, upd_ne h1]
    by_cases h2 : b = a
    · rw [h2, del_same, ha]
    · rw [del_ne h2, upd_ne h2, upd_ne h1, upd_ne h2]
theorem dmk_init1 {f qual : Str} {st : Stmt} {fI : Addr} {fd : FuncData} {ps : List Str} {k j : Nat} (T : InitX X.K X.mg x C fI st qual ps fd) (G : FnOk X.prog X.w X.K X.mg X.base CX0 k fI fd ps (spInit1 X.K f)) (hr : RoomG j X.A) (hj : k + 1 ≤ j) (nf : PySem.W.findIn X.K (.ref C) f = some none)
    (ha : DA X K W Wx [e] tr dr) (hg : Gl X x := by rfl) (hdb : (x == ("__debug__" : Str)) = false := by decide) (he : starEach [e] X.env = (false, eval e X.env) :: starEach [] X.env := by rfl) (hpl : (backTo pos (starEach [] X.env)).any (·.1) = false := by rfl) :
    DMk X K W Wx (.Call (.Name x p) [e] [] pos) (tMkO C (spInit1 K f) [] tr) (tdMk1 C f dr) := by
  have hk := ha.k; subst hk
  refine ⟨rfl, pmk_oex T.o T.i T.t G (hr.r.mono hj) T.b .nil pass0 hg T.g ha.pa hdb he hpl, fun I H σ τ R ok rp t hx => ?_⟩
  refine ha.sim I H σ τ _ R _ ok rp t (fun vs ds I1 H1 q1 al l1 => ?_) hx
  unfold one1 at q1
  split at q1
  · obtain ⟨v, rfl, h1⟩ := isAll1 al
    refine ⟨by show 1 ≤ 1000; decide, fun a ha0 => ⟨a, v, C, rfl, T.o, nf, upd_same, fun d hd hda => ⟨rfl, d, [(f, v)], upd_same, by rw [upd_ne hda, upd_same], ?_, ?_⟩⟩⟩
    · rw [upd_ne hda] at hd; exact hd
    · rw [upd_ne hda] at hd
      rw [made_eq ha0 hda]
      have n0 := Same.non (W.ex l1.ok) hd
      exact hx _ _ (.ref C, [(f, _)]) (upd I1 d (.xd [(f, v)])) _ q1 ⟨rfl, .inr ⟨d, _, rfl, upd_same, .cons (h1.mono (Same.new n0)) .nil⟩⟩ (l1.trans (Later.alloc l1.ok hd))
  · exact q1.elim
@[simp] def tdTry (K : PySem.W.Frag) (c : Value) (i : Nat) (tb : TDS) (ts : Addr → Value → Option Addr → TDS) : TDS := fun τ E => tb τ { E with ex := fun x τ' => ∃ b, PySem.W.exmOne K x.1 c = some b ∧
  (b = true → ∀ a d, ts a x.1 d (τ'.set i (some (.dat (.exc a d x.2)))) { nx := fun τ2 => E.nx (τ2.set i none), rt := E.rt, bk := fun τ2 => E.bk (τ2.set i none), ct := fun τ2 => E.ct (τ2.set i none) }) ∧ (b = false → E.ex x τ') }
theorem own_clear {σ : L2.St} {τ : Tau} {i : Nat} {a : Addr} (hl : σ.length = τ.length) (h : Own (σ.set i none) (τ.set i none) a) : Own σ τ a := by
  obtain ⟨j, s, v, e1, e2, o⟩ := h
  by_cases hj : i = j
  · subst hj
    by_cases hv : i < τ.length
    · rw [List.getElem?_set_self hv] at e1; cases e1
    · rw [List.getElem?_eq_none (by simpa using hv)] at e1; cases e1
  · rw [List.getElem?_set_ne hj] at e1 e2
    exact ⟨j, s, v, e1, e2, o⟩
theorem takes_never {Y : Cx} {o : Obj} {xe : Value → Shared → Prop} {W' : WX} : Takes (Y.tr [(Y.env.locals, o)] xe) W' := fun u s' x => by
  obtain ⟨a, B, sI, pins, σ, H, cls, d, e, I, _⟩ := x
  exact absurd rfl (I.pin (Y.env.locals, o) (List.mem_append_left _ List.mem_cons_self)).2.2.1
theorem ds_try_as {n : Str} {c : Value} {i : Nat} {body suite : List Stmt} {b₀ : Stmt} {np pos' : Pos} {tb : WX → TS} {ts : Addr → Value → Option Addr → TS} {tdb : TDS} {tds : Addr → Value → Option Addr → TDS} (hN : X.N.Nodup) (hc : Names X x c) (tk : Takes X Wx)
    (hb : ∀ (W' : WX) (pn : List (Addr × Obj)) (xe : Value → Shared → Prop), Takes (X.tr pn xe) W' → PassesOwn (model X.prog X.w) X.A X.env xe → DSs (X.tr pn xe) K W W' body (tb W') tdb)
    (hsu : ∀ (a : Addr) (oe : Obj) (cls : Value) (d : Option Addr) (pn : List (Addr × Obj)), Zc cls d oe → (∃ vs, oe.data = .fields vs) → DSs (X.suite a ((a, oe) :: pn)) K W (fun _ _ _ _ => False) (b₀ :: suite) (ts a cls d) (tds a cls d))
    (hi : X.N[i]? = some n := by rfl) (hln : X.env.kindOf n = some .local := by rfl) (hs : X.stack = X.env :: X.outer := by rfl) (hf : X.env.frame = some X.env.locals := by rfl) (hk : X.K = K := by rfl) :
    DS X K W Wx (.Try body [.ExceptHandler (some (.Name x np)) (some n) (b₀ :: suite) pos'] [] [] pos) (fun D σ H => tb (wAs K c i ts Wx D) D σ H) (tdTry K c i tdb tds) := by
  subst hk
  refine ⟨rfl, ps_try_as hs hf hN hi hln hc tk (fun W' pn xe h1 h2 => (hb W' pn xe h1 h2).ps) (fun a oe cls d pn h1 h2 => (hsu a oe cls d pn h1 h2).ps), fun I H σ τ E D ok rp t r => ?_⟩
  have hb' := (hb (wAs X.K c i ts Wx D) [(X.env.locals, { cls := .none, data := .fields #[] })] (fun _ _ => False) takes_never PassesOwn.never).sim
  refine hb' I H σ τ _ D ok rp t ⟨r.nx, r.bk, r.ct, r.rt, fun cls da x σ' τ' I' H' q ix rp' l => ?_⟩
  obtain ⟨b, hb1, q1, q2⟩ := q
  obtain ⟨rfl, ix⟩ := ix
  refine ⟨b, hb1, fun e a na => ?_, fun e => r.ex _ _ x σ' τ' I' H' (q2 e) ⟨rfl, ix⟩ rp' l⟩
  have isx : Is X.K I' (.ref a) (.exc a da x.2) := by
    rcases ix with ⟨e1, e2⟩ | ⟨d, vs, e1, e2, e3⟩
    · rw [e1, e2]; exact .exc0
    · rw [e1]; exact .exc1 e2 e3
  have hsu' := (hsu a { cls := x.1, dict := da, data := .fields #[] } x.1 da [] ⟨rfl, rfl⟩ ⟨_, rfl⟩).sim
  have rp1 := rp'.set_dat (i := i) isx
  have r1 := r.later (l.drop fun p (o : Own (σ'.set i (some (.ref a))) (τ'.set i (some (.dat (.exc a da x.2)))) p) => o.set_dat rp'.len)
  have cl : ∀ {σ2 : L2.St} {τ2 : Tau} {I2 H2 : Hp}, Rep X.K W I2 H2 σ2 τ2 → Rep X.K W I2 H2 (σ2.set i none) (τ2.set i none) := fun h => h.wipe [i]
  refine hsu' I' H' _ _ _ _ l.ok rp1 (q1 e a da) ⟨fun σ2 τ2 I2 H2 q rp2 l2 => ?_, fun σ2 τ2 I2 H2 q rp2 l2 => ?_, fun σ2 τ2 I2 H2 q rp2 l2 => ?_, r1.rt, fun _ _ _ _ _ _ _ z _ _ _ => z⟩
  · exact r1.nx _ _ I2 H2 q (cl rp2) (l2.drop fun p o => own_clear rp2.len o)
  · exact r1.bk _ _ I2 H2 q (cl rp2) (l2.drop fun p o => own_clear rp2.len o)
  · exact r1.ct _ _ I2 H2 q (cl rp2) (l2.drop fun p o => own_clear rp2.len o)
/-- except c: without a name -/
@[simp] def tdTryO (K : PySem.W.Frag) (c : Value) (tb : TDS) (ts : Addr → Value → Option Addr → TDS) : TDS := fun τ E => tb τ { E with ex := fun x τ' => ∃ b, PySem.W.exmOne K x.1 c = some b ∧
  (b = true → ∀ a d, ts a x.1 d τ' { E with ex := fun _ _ => False }) ∧ (b = false → E.ex x τ') }
/-- the class that a clause names -/
theorem names_own {C : Addr} (h : X.mg x = some (.ref C)) (hg : Gl X x := by rfl) (hdb : (x == ("__debug__" : Str)) = false := by decide) : Names X x (.ref C) := ⟨hg, hdb, .inl h⟩
end
def valOf : V → Option Value
  | .ref a => some (.ref a)
  | .ty n => some (.type n)
  | _ => none
def valsOf : List V → Option (List Value)
  | [] => some []
  | v :: vs => (valOf v).bind fun x => (valsOf vs).map (x :: ·)
theorem valOf_rel {v : V} {u x : Value} (r : RelV v u) (e : valOf v = some x) : u = x := by
  cases v <;> cases e
  · cases r; rfl
  · cases r; rfl
theorem valsOf_rel : ∀ {vs : List V} {us xs : List Value}, Vals vs us → valsOf vs = some xs → us = xs
  | [], _, _, .nil, e => by cases e; rfl
  | v :: vs, _, xs, .cons r rs, e => by
    unfold valsOf at e
    obtain ⟨x, e1, e⟩ := Option.bind_eq_some_iff.mp e
    obtain ⟨ys, e2, rfl⟩ := Option.map_eq_some_iff.mp e
    rw [valOf_rel r e1, valsOf_rel rs e2]
def rIsX (K : PySem.W.Frag) (a : Addr) (cls : Value) (d : Option Addr) : List V → Hp → VK → Prop := fun xs H Q => ∃ (c : V) (b : Bool) (D : Addr), xs = [.ref a, c] ∧ cls = .ref D ∧ ExcK K D ∧ (∀ dd, d = some dd → ∃ fs, H dd = some (.xd fs)) ∧
  ((∃ cv, valOf c = some cv ∧ PySem.W.kitOne K (.ref D) cv = some b) ∨ ∃ p vs cvs, c = .ref p ∧ SqT K H p vs ∧ valsOf vs = some cvs ∧ PySem.W.kitAny K (.ref D) cvs = some b) ∧ Q (.bl b) H
theorem inst_of {X : Cx} {pins : List (Addr × Obj)} {s : Shared} {σ : L2.St} {H : Hp} {a D : Addr} {oe : Obj} {d : Option Addr} (I : L2.Inv X pins σ H s) (hget : s.heap.get? a = some oe) (hz : Zc (.ref D) d oe) (hf : ∃ vs, oe.data = .fields vs) (hd : ∀ dd, d = some dd → ∃ fs, H dd = some (.xd fs)) :
    ∃ od, PySem.W.InstAt s.heap a oe D od := by
  obtain ⟨vs, hv⟩ := hf
  cases d with
  | none => exact ⟨none, hget, hz.1, by unfold PySem.W.notCls; rw [hv] <;> rfl, by rw [hz.2]; exact trivial⟩
  | some dd =>
    obtain ⟨fs, ea⟩ := hd dd rfl
    have hx : ObjOk X.prog X.w H s.heap dd (.xd fs) := I.hok dd _ ea
    obtain ⟨mA, hns, hr⟩ := hx
    obtain ⟨od, ho, hl⟩ := lookIn_ns hns
    exact ⟨some od, hget, hz.1, by unfold PySem.W.notCls; rw [hv] <;> rfl, by rw [hz.2]; exact ho⟩
def valsD : List D → Option (List Value)
  | [] => some []
  | .v v :: ds => (valOf v).bind fun x => (valsD ds).map (x :: ·)
  | _ => none
/-- whether of a class, of one of some classes -/
def clsIsD (K : PySem.W.Frag) (cls : Value) : D → Option Bool
  | .v v => (valOf v).bind (PySem.W.kitOne K cls)
  | .tup ds => (valsD ds).bind (PySem.W.kitAny K cls)
  | _ => none
@[simp] theorem clsIsD_ref {K : PySem.W.Frag} {cls : Value} {C : Addr} : clsIsD K cls (.v (.ref C)) = PySem.W.kitOne K cls (.ref C) := rfl
@[simp] theorem clsIsD_ty {K : PySem.W.Frag} {cls : Value} {n : String} : clsIsD K cls (.v (.ty n)) = PySem.W.kitOne K cls (.type n) := rfl
@[simp] theorem clsIsD_tup {K : PySem.W.Frag} {cls : Value} {ds : List D} : clsIsD K cls (.tup ds) = (valsD ds).bind (PySem.W.kitAny K cls) := rfl
@[simp] theorem valsD_nil : valsD [] = some [] := rfl
@[simp] theorem valsD_ref {C : Addr} {ds : List D} : valsD (.v (.ref C) :: ds) = (valsD ds).map (.ref C :: ·) := rfl
@[simp] theorem valsD_ty {n : String} {ds : List D} : valsD (.v (.ty n) :: ds) = (valsD ds).map (.type n :: ·) := rfl
@[simp] theorem kitAny_nil {K : PySem.W.Frag} {t : Value} : PySem.W.kitAny K t [] = some false := rfl
theorem valsD_of {K : PySem.W.Frag} {I : Hp} : ∀ {ds : List D} {vs : List V} {xs : List Value}, IsAll K I vs ds → valsD ds = some xs → valsOf vs = some xs
  | [], _, _, .nil, e => e
  | d :: ds, _, xs, .cons h r, e => by
    unfold valsD at e
    split at e
    · cases ‹_ = []›
    · rename_i v ds' q
      cases q
      cases h
      obtain ⟨x, e1, e⟩ := Option.bind_eq_some_iff.mp e
      obtain ⟨ys, e2, rfl⟩ := Option.map_eq_some_iff.mp e
      unfold valsOf
      rw [e1, valsD_of r e2]
      rfl
    · cases e
def fIsX (K : PySem.W.Frag) (a : Addr) (cls : Value) (d : Option Addr) : FD := fun ds Q => match ds with
  | [.exc a' d' _, c] => a' = a ∧ d' = d ∧ ∃ D b, cls = .ref D ∧ ExcK K D ∧ clsIsD K cls c = some b ∧ Q (.bl b)
  | _ => False
@[simp] theorem fIsX_exc {K : PySem.W.Frag} {a a' : Addr} {cls : Value} {d d' : Option Addr} {gs : List (Str × D)} {c : D} {Q : D → Prop} : fIsX K a cls d [.exc a' d' gs, c] Q = (a' = a ∧ d' = d ∧ ∃ D b, cls = .ref D ∧ ExcK K D ∧ clsIsD K cls c = some b ∧ Q (.bl b)) := rfl
theorem exc_dict {K : PySem.W.Frag} {I H : Hp} {v : V} {a : Addr} {d : Option Addr} {gs : List (Str × D)} (sm : Same I H) (h : Is K I v (.exc a d gs)) : v = .ref a ∧ ∀ dd, d = some dd → ∃ fs, H dd = some (.xd fs) := by
  cases h with
  | exc0 => exact ⟨rfl, fun _ z => nomatch z⟩
  | exc1 h1 _ => exact ⟨rfl, fun dd z => by cases z; exact ⟨_, sm _ _ h1⟩⟩
theorem CallSim.isX {K : PySem.W.Frag} {W : Wd} {a : Addr} {cls : Value} {d : Option Addr} : CallSim K W (rIsX K a cls d) (fIsX K a cls d) := fun I H vs ds Q G ok al q hq => by
  unfold fIsX at q
  split at q
  · obtain ⟨v, v', rfl, h, h'⟩ := isAll2 al
    obtain ⟨rfl, rfl, D, b, rfl, C, e, q⟩ := q
    obtain ⟨rfl, hd⟩ := exc_dict (W.ex ok) h
    refine ⟨v', b, D, rfl, rfl, C, hd, ?_, hq _ _ I H q (.v _) (Later.refl ok)⟩
    unfold clsIsD at e
    split at e
    · cases h'
      obtain ⟨x, e1, e2⟩ := Option.bind_eq_some_iff.mp e
      exact .inl ⟨x, e1, e2⟩
    · obtain ⟨p, ys, rfl, sq, al2⟩ := is_tup h'
      obtain ⟨xs, e1, e2⟩ := Option.bind_eq_some_iff.mp e
      exact .inr ⟨p, ys, xs, rfl, Same.seqT (W.ex ok) sq, valsD_of al2 e1, e2⟩
    · cases e
  · exact q.elim
def tXa (K : PySem.W.Frag) (a : Addr) (cls : Value) (d : Option Addr) (n : Str) (te : TE) : TE := fun σ H Q => te σ H fun x H1 => ∃ (C dd : Addr) (fs : List (Str × V)) (v : V), x = .ref a ∧ cls = .ref C ∧ XfC K C ∧ PySem.W.findIn K (.ref C) n = some none ∧ d = some dd ∧ H1 dd = some (.xd fs) ∧ fs.lookup n = some v ∧ Q v H1
def fXa (K : PySem.W.Frag) (a : Addr) (cls : Value) (d : Option Addr) (n : Str) (x : D) (Q : D → Prop) : Prop := match x with
  | .exc a' d' gs => a' = a ∧ d' = d ∧ ∃ C y, cls = .ref C ∧ ExcK K C ∧ PySem.W.findIn K (.ref C) n = some none ∧ gs.lookup n = some y ∧ Q y
  | _ => False
@[simp] theorem fXa_exc {K : PySem.W.Frag} {a a' : Addr} {cls : Value} {d d' : Option Addr} {n : Str} {gs : List (Str × D)} {Q : D → Prop} : fXa K a cls d n (.exc a' d' gs) Q = (a' = a ∧ d' = d ∧ ∃ C y, cls = .ref C ∧ ExcK K C ∧ PySem.W.findIn K (.ref C) n = some none ∧ gs.lookup n = some y ∧ Q y) := rfl
@[simp] def tdXa (K : PySem.W.Frag) (a : Addr) (cls : Value) (d : Option Addr) (n : Str) (t : TDE) : TDE := fun τ Q R => t τ (fun x => fXa K a cls d n x Q) R
end D3
set_option Elab.async false
set_option linter.all false
set_option maxRecDepth 100000
set_option maxHeartbeats 4000000
namespace D3
open PySem PySem.Spec PyProof.Rows L2
/-- a class by its name -/
theorem de_cls {K : PySem.W.Frag} {W : Wd} {Wx : WX} {X : Cx} {x : Str} {C : Addr} {pos : Pos} (hm : X.mg x = some (.ref C)) (hg : Gl X x := by rfl) (hd : (x == ("__debug__" : Str)) = false := by decide) (hk : X.K = K := by rfl) : DE X K W Wx (.Name x pos) (tC (.ref C)) (tdC (.v (.ref C))) :=
  de_glob (v := .ref C) hm rfl hg hd hk
/-- a class's statements -/
def clsBody : Stmt → List Stmt
  | .ClassDef _ _ _ body _ _ _ _ _ _ _ => body
  | _ => []
def meth (st : Stmt) (j : Nat) : Stmt := (clsBody st).getD j (.Pass ⟨0, 0, 0, 0⟩)
/-- a class without an __init__ -/
theorem plainX_mk {K : PySem.W.Frag} {h : Heap} {mg : Str → Option Value} {x : Str} {C : Addr} (X : K.In h) (G : h.Ns mainGlobals mg) (a : PySem.W.nsIn K mainGlobals x = some (some (.ref C))) (E : ExcK K C) (q : PySem.W.excIn K C bmVE "ValueError.__new__" = true) : PlainX K mg x C :=
  ⟨PySem.W.mg_of X G a, E, q⟩
/-- one whose __init__ is called by name -/
theorem baseX_mk {K : PySem.W.Frag} {h : Heap} {mg : Str → Option Value} {x : Str} {C : Addr} (X : K.In h) (G : h.Ns mainGlobals mg) (a : PySem.W.nsIn K mainGlobals x = some (some (.ref C)))
    (s : PySem.W.specialIn K (.ref C) "__getattribute__" = some (some (.builtin "type.__getattribute__"))) (r : PySem.W.readsIn K C (.type "type") = true)
    (f : PySem.W.findCls K (.ref C) (.type "type") "__init__" = some (.val (.builtin "ValueError.__init__"))) : BaseX K mg x C := ⟨PySem.W.mg_of X G a, s, r, f⟩
/-- what the written part holds of a class with an __init__, at fI -/
structure OexK (K : PySem.W.Frag) (C fI : Addr) : Prop where
  cls : ∃ nm q N bs bm sn sub ab col dd k0 k1 k2 k3 k5, K.lookup C = some (excClassObj nm q C N bs bm true sn sub ab col dd k0 k1 k2 k3 k5 "ValueError.__new__") ∧ PySem.HandSPX.refsVE bm = true
  sa : PySem.W.findIn K (.ref C) "__setattr__" = some (some (.builtin "object.__setattr__"))
  fi : PySem.W.findIn K (.ref C) "__init__" = some (some (.ref fI))
  ti : PySem.W.typeIn K (.ref fI) = some (.type "function")
theorem oexK_of {K : PySem.W.Frag} {C fI N : Addr} {nm q : Str} {bs bm : List Value} {sn : List Str} {sub : List Value} {ab : Bool} {col : Option Bool} {dd : Option Addr} {k0 k1 k2 k3 k5 : Option Value} (l : K.lookup C = some (excClassObj nm q C N bs bm true sn sub ab col dd k0 k1 k2 k3 k5 "ValueError.__new__")) (r : PySem.HandSPX.refsVE bm = true)
    (s : PySem.W.findIn K (.ref C) "__setattr__" = some (some (.builtin "object.__setattr__"))) (f : PySem.W.findIn K (.ref C) "__init__" = some (some (.ref fI))) (t : PySem.W.typeIn K (.ref fI) = some (.type "function")) : OexK K C fI := ⟨⟨nm, q, N, bs, bm, sn, sub, ab, col, dd, k0, k1, k2, k3, k5, l, r⟩, s, f, t⟩
theorem initX_mk {K : PySem.W.Frag} {h : Heap} {mg : Str → Option Value} {x qual : Str} {C fI : Addr} {st : Stmt} {ps : List Str} {oc : Value} {od an : Option Addr} {osl : Array (Option Value)} {kV doc pm cdv ct : Value} (X : K.In h) (G : h.Ns mainGlobals mg) (a : PySem.W.nsIn K mainGlobals x = some (some (.ref C))) (E : ExcK K C) (q : OexK K C fI)
    (l : K.lookup fI = some ⟨oc, od, .func (PySem.W.fnOf "__init__" qual (defArgs st) (defBody st) (defScope st) .none kV doc pm an cdv ct), osl⟩) (c : PySem.W.codeIn K cdv qual = true) (k : PySem.W.keepIn K (.ref fI) = true)
    (hb : ∀ us : List Value, us.length = ps.length → bindArgs (PySem.W.fnOf "__init__" qual (defArgs st) (defBody st) (defScope st) .none kV doc pm an cdv ct) ⟨us, []⟩ = pure (ps.zip us)) :
    InitX K mg x C fI st qual ps (PySem.W.fnOf "__init__" qual (defArgs st) (defBody st) (defScope st) .none kV doc pm an cdv ct) :=
  ⟨PySem.W.mg_of X G a, E, ⟨q.cls, q.sa, E.ex, E.ty, E.kC⟩, q.fi, q.ti, fun_mk l c k, Binds.all hb⟩
end D3
set_option Elab.async false
set_option linter.all false
set_option maxRecDepth 100000
set_option maxHeartbeats 4000000
namespace D3
open PySem PySem.Spec PyProof.Rows L2
structure Hd where
  c : Value
  i : Option Nat
  ts : Addr → Value → Option Addr → TS
inductive HdsN (X : Cx) : List ExceptHandler → List Hd → Prop
  | nil : HdsN X [] []
  | cons {x : Str} {c : Value} {ts : Addr → Value → Option Addr → TS} {b₀ : Stmt} {suite : List Stmt} {np pos' : Pos} {hds : List ExceptHandler} {l : List Hd} (hc : Names X x c)
      (hsu : ∀ (a : Addr) (oe : Obj) (cls : Value) (d : Option Addr) (pn : List (Addr × Obj)), Zc cls d oe → (∃ vs, oe.data = .fields vs) → PSs (X.suite a ((a, oe) :: pn)) (b₀ :: suite) (ts a cls d)) (r : HdsN X hds l) :
      HdsN X (.ExceptHandler (some (.Name x np)) none (b₀ :: suite) pos' :: hds) (⟨c, none, ts⟩ :: l)
  | name {x n : Str} {i : Nat} {c : Value} {ts : Addr → Value → Option Addr → TS} {b₀ : Stmt} {suite : List Stmt} {np pos' : Pos} {hds : List ExceptHandler} {l : List Hd} (hi : X.N[i]? = some n) (hln : X.env.kindOf n = some .local) (hc : Names X x c)
      (hsu : ∀ (a : Addr) (oe : Obj) (cls : Value) (d : Option Addr) (pn : List (Addr × Obj)), Zc cls d oe → (∃ vs, oe.data = .fields vs) → PSs (X.suite a ((a, oe) :: pn)) (b₀ :: suite) (ts a cls d)) (r : HdsN X hds l) :
      HdsN X (.ExceptHandler (some (.Name x np)) (some n) (b₀ :: suite) pos' :: hds) (⟨c, some i, ts⟩ :: l)
structure DHd where
  c : Value
  i : Option Nat
  ts : Addr → Value → Option Addr → TDS
/-- what the clauses make of an exception -/
def exMany (K : PySem.W.Frag) (E : DEnds) : List DHd → Exc → Tau → Prop
  | [] => E.ex
  | h :: r => fun x τ' => ∃ b, PySem.W.exmOne K x.1 h.c = some b ∧ (b = true → ∀ a d, match h.i with
      | none => h.ts a x.1 d τ' { E with ex := fun _ _ => False }
      | some i => h.ts a x.1 d (τ'.set i (some (.dat (.exc a d x.2)))) { nx := fun τ2 => E.nx (τ2.set i none), rt := E.rt, bk := fun τ2 => E.bk (τ2.set i none), ct := fun τ2 => E.ct (τ2.set i none) }) ∧ (b = false → exMany K E r x τ')
@[simp] def tdTryM (K : PySem.W.Frag) (l : List DHd) (tb : TDS) : TDS := fun τ E => tb τ { E with ex := exMany K E l }
section
variable {K : PySem.W.Frag} {W : Wd} {Wx : WX} {X : Cx}
inductive DHds (X : Cx) (K : PySem.W.Frag) (W : Wd) : List ExceptHandler → List Hd → List DHd → Prop
  | nil : DHds X K W [] [] []
  | cons {x : Str} {c : Value} {ts : Addr → Value → Option Addr → TS} {tds : Addr → Value → Option Addr → TDS} {b₀ : Stmt} {suite : List Stmt} {np pos' : Pos} {hds : List ExceptHandler} {l : List Hd} {dl : List DHd} (hc : Names X x c)
      (hsu : ∀ (a : Addr) (oe : Obj) (cls : Value) (d : Option Addr) (pn : List (Addr × Obj)), Zc cls d oe → (∃ vs, oe.data = .fields vs) → DSs (X.suite a ((a, oe) :: pn)) K W (fun _ _ _ _ => False) (b₀ :: suite) (ts a cls d) (tds a cls d)) (r : DHds X K W hds l dl) :
      DHds X K W (.ExceptHandler (some (.Name x np)) none (b₀ :: suite) pos' :: hds) (⟨c, none, ts⟩ :: l) (⟨c, none, tds⟩ :: dl)
  | name {x n : Str} {i : Nat} {c : Value} {ts : Addr → Value → Option Addr → TS} {tds : Addr → Value → Option Addr → TDS} {b₀ : Stmt} {suite : List Stmt} {np pos' : Pos} {hds : List ExceptHandler} {l : List Hd} {dl : List DHd} (hc : Names X x c)
      (hsu : ∀ (a : Addr) (oe : Obj) (cls : Value) (d : Option Addr) (pn : List (Addr × Obj)), Zc cls d oe → (∃ vs, oe.data = .fields vs) → DSs (X.suite a ((a, oe) :: pn)) K W (fun _ _ _ _ => False) (b₀ :: suite) (ts a cls d) (tds a cls d)) (r : DHds X K W hds l dl)
      (hi : X.N[i]? = some n) (hln : X.env.kindOf n = some .local) :
      DHds X K W (.ExceptHandler (some (.Name x np)) (some n) (b₀ :: suite) pos' :: hds) (⟨c, some i, ts⟩ :: l) (⟨c, some i, tds⟩ :: dl)
theorem DHds.ps : ∀ {hds : List ExceptHandler} {l : List Hd} {dl : List DHd}, DHds X K W hds l dl → HdsN X hds l
  | _, _, _, .nil => .nil
  | _, _, _, .cons hc hsu r => .cons hc (fun a oe cls d pn h1 h2 => (hsu a oe cls d pn h1 h2).ps) r.ps
  | _, _, _, .name hc hsu r hi hln => .name hi hln hc (fun a oe cls d pn h1 h2 => (hsu a oe cls d pn h1 h2).ps) r.ps
@[simp] theorem exMany_nil {E : DEnds} : exMany K E [] = E.ex := rfl
end
end D3
set_option Elab.async false
set_option linter.all false
set_option maxRecDepth 100000
set_option maxHeartbeats 4000000
namespace D3
open PySem PySem.Spec PyProof.Rows L2
section
variable {K : PySem.W.Frag} {W : Wd} {Wx : WX} {X : Cx} {a b c e : Expr} {p pos : Pos} {tr : TA} {dr : TDA} {tg : Expr}
def stepsD (lo c : Int) (n : Nat) : List D := (List.range n).map fun i => D.int (lo + (i : Nat) * c)
@[simp] theorem stepsD_length {lo c : Int} {n : Nat} : (stepsD lo c n).length = n := by simp [stepsD]
/-- downwards by ones -/
def rngDn (ds : List D) (Q : List D → Prop) : Prop := match ds with
  | [.v (.int i), .v (.int j), .v (.int k)] => k = -1 ∧ (-(2 ^ 62) ≤ i ∧ i < 2 ^ 62 ∧ -(2 ^ 62) ≤ j ∧ j < 2 ^ 62) ∧ Q (stepsD i (-1) (i - j).toNat)
  | _ => False
@[simp] theorem rngDn_int {i j k : Int} {Q : List D → Prop} : rngDn [.v (.int i), .v (.int j), .v (.int k)] Q = (k = -1 ∧ (-(2 ^ 62) ≤ i ∧ i < 2 ^ 62 ∧ -(2 ^ 62) ≤ j ∧ j < 2 ^ 62) ∧ Q (stepsD i (-1) (i - j).toNat)) := rfl
@[simp] def idRDn (u : TDA) : TDI := fun τ Q R => u τ (fun ds => rngDn ds Q) R
/-- the least, the greatest of a list of whole numbers -/
def fMin : FD := fun ds Q => match ds with
  | [.lst xs] => ∃ ns : List Int, xs = ns.map D.int ∧ 0 < ns.length ∧ ∀ m, m ∈ ns → (∀ y, y ∈ ns → m ≤ y) → Q (.int m)
  | _ => False
def fMax : FD := fun ds Q => match ds with
  | [.lst xs] => ∃ ns : List Int, xs = ns.map D.int ∧ 0 < ns.length ∧ ∀ m, m ∈ ns → (∀ y, y ∈ ns → y ≤ m) → Q (.int m)
  | _ => False
@[simp] theorem fMin_lst {xs : List D} {Q : D → Prop} : fMin [.lst xs] Q = ∃ ns : List Int, xs = ns.map D.int ∧ 0 < ns.length ∧ ∀ m, m ∈ ns → (∀ y, y ∈ ns → m ≤ y) → Q (.int m) := rfl
@[simp] theorem fMax_lst {xs : List D} {Q : D → Prop} : fMax [.lst xs] Q = ∃ ns : List Int, xs = ns.map D.int ∧ 0 < ns.length ∧ ∀ m, m ∈ ns → (∀ y, y ∈ ns → y ≤ m) → Q (.int m) := rfl
end
def rowOf : D → List Nat
  | .v (.str s) => s.cps.toList
  | _ => []
def rowsOf : D → Rows
  | .lst xs => xs.map rowOf
  | _ => []
def numOf : D → Int
  | .v (.int i) => i
  | _ => 0
@[simp] theorem rowOf_sD {l : List Nat} : rowOf (sD l) = l := by simp [rowOf]
@[simp] theorem rowsOf_rows {rows : Rows} : rowsOf (rowsD rows) = rows := by
  simp [rowsOf, Function.comp_def]
@[simp] theorem numOf_int {i : Int} : numOf (.int i) = i := rfl
end D3
set_option Elab.async false
set_option linter.all false
set_option maxRecDepth 100000
set_option maxHeartbeats 4000000
namespace D3
open PySem PySem.Spec PyProof.Rows L2
theorem fIx_sign {r : List Nat} {k c : Nat} {Q : D → Prop} (hl : r.length ≤ 16777216) (h : r[k]? = some c) (q : Q (sD [c])) : fIx (sD r) (.int (k : Nat)) Q := ⟨by simpa using hl, c, by rw [mk_cps]; exact atI_of h, q⟩
theorem pickP {L : List D} {k : Int} {P Q : D → Prop} (h0 : 0 ≤ k) (h1 : k < L.length) (hb : ∀ d ∈ L, P d) (hq : ∀ d, P d → Q d) : ∃ d, atI L k = some d ∧ Q d := by
  obtain ⟨d, e1, e2⟩ := atI_some h0 h1
  exact ⟨d, e1, hq d (hb d e2)⟩
@[simp] theorem cpow {i j : Int} : CPow i j = (0 ≤ j ∧ j ≤ 1000000 ∧ i.natAbs < 2 ^ 64) := rfl
def isNonD : D → Bool
  | .v .non => true
  | _ => false
@[simp] theorem isNonD_non : isNonD (.v .non) = true := rfl
@[simp] theorem isNonD_lst {ds : List D} : isNonD (.lst ds) = false := rfl
@[simp] theorem isNonD_tup {ds : List D} : isNonD (.tup ds) = false := rfl
@[simp] theorem isNonD_int {i : Int} : isNonD (.int i) = false := rfl
@[simp] theorem isNonD_str {i : Str} : isNonD (.str i) = false := rfl
theorem Is.non {K : PySem.W.Frag} {I : Hp} {x : V} {d : D} (h : Is K I x d) : decide (x = .non) = isNonD d := by
  cases h with
  | v => cases x <;> rfl
  | _ => rfl
def fIsN (n : Bool) : TD2 := fun x y Q => match y with
  | .v .non => Q (.bl (n ^^ isNonD x))
  | _ => False
@[simp] theorem fIsN_non {n : Bool} {x : D} {Q : D → Prop} : fIsN n x (.v .non) Q = Q (.bl (n ^^ isNonD x)) := rfl
section
variable {K : PySem.W.Frag} {W : Wd} {Wx : WX} {X : Cx} {a : Expr} {ta : TE} {da : TDE} {pos : Pos}
theorem R2Sim.notN : R2Sim K W (fun x y H Q => y = .non ∧ Q (.bl (!decide (x = .non))) H) (fIsN true) := fun I H x y dx dy Q G ok hx hy q hq => by
  unfold fIsN at q
  split at q
  · cases hy
    exact ⟨rfl, hq _ _ I H q (by rw [hx.non, Bool.true_xor]; exact .v _) (Later.refl ok)⟩
  · exact q.elim
theorem dt_notN {j : Nat} {p : Pos} (ha : DE X K W Wx a ta da) : DT X K W Wx (.Compare a [.IsNot] [.Constant .none j p] pos) (tTest (tOp (fun x y H Q => y = .non ∧ Q (.bl (!decide (x = .non))) H) ta (tC .non))) (tdTest (tdOp (fIsN true) da (tdC (.v .non)))) := by
  have hk := ha.k; subst hk
  exact dt_cmp op_notN .notN ha de_non (nomark _)
end
end D3
set_option Elab.async false
set_option linter.all false
set_option maxRecDepth 100000
set_option maxHeartbeats 4000000
namespace D3
open PySem PySem.Spec PyProof.Rows L2
theorem joinL_len (s : Nat) : ∀ rows : List (List Nat), (TL.joinL [s] rows).length ≤ (rows.map List.length).sum + rows.length
  | [] => by simp [TL.joinL]
  | [r] => by simp [TL.joinL]
  | r :: q :: rs => by
    have := joinL_len s (q :: rs)
    show (r ++ ([s] ++ TL.joinL [s] (q :: rs))).length ≤ _
    simp at this ⊢
    omega
theorem joinS_mk (s : Nat) (rows : Rows) : Txt.join (mk [s]) (rows.map mk) = mk (TL.joinL [s] rows) := by
  have h := TL.tl_join (mk [s]) (rows.map mk)
  rw [TL.join_eq]
  have t1 : ∀ l, TL.tl (mk l) = l := fun l => mk_cps l
  have h2 : List.map (TL.tl ∘ mk) rows = rows := by
    conv => rhs; rw [← List.map_id rows]
    exact List.map_congr_left fun a _ => t1 a
  rw [t1, List.map_map, h2] at h
  rw [mk_of (Str.join (mk [s]) (rows.map mk))]
  congr 1
section
variable {K : PySem.W.Frag} {W : Wd} {Wx : WX} {X : Cx} {o e : Expr} {to te : TE} {dO de : TDE} {pos : Pos}
@[simp] def tdSplit (t u : TDE) : TDO := fun τ Q R => t τ (fun x => onStr x fun a => u τ (fun y => onStr y fun b => (b.length == 0) = false ∧ a.length + 2 ≤ sizeLine ∧ Q ((Txt.split a b).map D.str)) R) R
end
end D3
set_option Elab.async false
set_option linter.all false
set_option maxRecDepth 100000
set_option maxHeartbeats 4000000
namespace D3
open PySem PySem.Spec PyProof.Rows L2
section
variable {X : Cx} {CX : CXT} {k : Nat} {f C : Addr} {fd : FuncData} {ps : List Str} {sp : Sp} {E : L2.St → XK} {x m : Str} {p pos apos : Pos} {e o : Expr} {es : List Expr} {ta : TE} {t : TA}
theorem RoomG.make {A : Around} (r : RoomG (k + 1) A) (C : Addr) (us : List Value) (kw : List (Str × Value)) : RoomG k (A.under (.builtin "type.__call__" ⟨.ref C :: us, kw⟩)) := ⟨r.r.make C us kw, r.g⟩
theorem run_fnG {pins : List (Addr × Obj)} {σ : L2.St} {H : Hp} {s : Shared} {Q : VK} {us : List Value} {vs : List V} (F : FnG X.prog X.w X.K X.mg X.base CX k f fd ps sp) (hr : RoomG k X.A) (hb : Binds X.K fd ps []) (hx : ∀ σ, PassesAt CX X σ (E σ))
    (I : L2.Inv X pins σ H s) (r : Vals vs us) (h : sp vs H Q (E σ)) : wpAny (model X.prog X.w) X.A (call (.ref f) us) (EP X pins σ Q) X.xe s := by
  have hl : us.length = ps.length := r.length.symm.trans (F.len _ _ _ _ h)
  have b := hb s us I.kIn (by rw [List.append_nil]; exact hl)
  rw [List.append_nil] at b
  refine wpAny_call (codeAny_mono (F.run X.A X.stack s H ⟨us, []⟩ us vs Q (E σ) hr I.env0 b r h) fun r z hz => ?_)
  match r, hz with
  | .error e, hz => exact hx σ pins H s e z I hz
  | .ok (.ret u), hz => exact I.after hz
def tMethE (C : Addr) (m : Str) (sp : Sp) (E : L2.St → XK) (ta : TE) (t : TA) : TE := fun σ H Q => ta σ H fun x H1 => ∃ a dx fs, x = .ref a ∧ H1 a = some (.ins C dx fs) ∧ fs.lookup m = none ∧ t σ H1 fun vs H2 => sp (x :: vs) H2 Q (E σ)
theorem pe_methG0 {pl : Sem Bool} (he : PE X o ta) (c : Cls X.K C) (hm : Meth X.K C m f) (F : FnG X.prog X.w X.K X.mg X.base CX k f fd ps sp) (hr : RoomG k X.A) (hb : Binds X.K fd ps []) (hx : ∀ σ, PassesAt CX X σ (E σ))
    (ht : eval (.Call (.Attribute o m apos) [] [] pos) X.env = (do
      let ov ← eval o X.env
      standAt apos.atName
      let (f, first) ← holding [ov] (getMethod ov m pl)
      callWith pos f first (backTo pos (starEach [] X.env)) (backToKw pos (keywordEach [] X.env))) := by rfl) :
    PE X (.Call (.Attribute o m apos) [] [] pos) (tMethE C m sp E ta tNil) := by
  refine ⟨fun pins s σ H Q I h => ?_⟩
  refine PySem.W.methodCall_KW (pl := pl) (thn (he.run pins s σ H _ I h) fun u s1 ⟨x, H1, I1, rx, a, dx, fs, ex, ea, l, q⟩ => ?_) ht
  subst ex
  obtain rfl : u = Value.ref a := rx
  refine getmeth_ok I1 ea c hm l ?_
  exact PySem.W.callWith_K0 (first := [.ref a]) I1.kIn hm.kp (run_fnG (us := [.ref a]) (vs := [.ref a]) F hr hb hx I1 (.cons rfl .nil) q)
def tMakeE (C : Addr) (sp : Sp) (E : L2.St → XK) (t : TA) : TE := fun σ H Q => t σ H fun vs H1 => ∀ x dx, H1 x = none → H1 dx = none → dx ≠ x →
  sp (.ref x :: vs) (upd (upd H1 dx (.own x)) x (.ins C dx [])) (fun v H2 => v = .non ∧ Q (.ref x) H2) (E σ)
theorem run_makeG {pins : List (Addr × Obj)} {σ : L2.St} {H : Hp} {s : Shared} {Q : VK} {us : List Value} {vs : List V} (M : Mk X.K C f) (F : FnG X.prog X.w X.K X.mg X.base CX k f fd ps sp) (hr : RoomG (k + 1) X.A) (hb : Binds X.K fd ps [])
    (hx : ∀ σ, PassesAt CX X σ (E σ)) (I : L2.Inv X pins σ H s) (r : Vals vs us)
    (h : ∀ x dx, H x = none → H dx = none → dx ≠ x → sp (.ref x :: vs) (upd (upd H dx (.own x)) x (.ins C dx [])) (fun v H2 => v = .non ∧ Q (.ref x) H2) (E σ)) :
    wpAny (model X.prog X.w) X.A (call (.ref C) us) (EP X pins σ Q) X.xe s := by
  have hq := h (s.heap.objs.size + 1) s.heap.objs.size (I.hok.fresh (Nat.le_succ _)) (I.hok.fresh (Nat.le_refl _)) (Nat.ne_of_lt (Nat.lt_succ_self _))
  have I2 := L2.Inv.made (C := C) I
  have r2 : Vals (V.ref (s.heap.objs.size + 1) :: vs) (Value.ref (s.heap.objs.size + 1) :: us) := .cons rfl r
  have hl : (Value.ref (s.heap.objs.size + 1) :: us).length = ps.length := by
    have e := r2.length
    rw [F.len _ _ _ _ hq] at e
    exact e.symm
  have b := hb _ (Value.ref (s.heap.objs.size + 1) :: us) I2.kIn (by rw [List.append_nil]; exact hl)
  rw [List.append_nil] at b
  refine wpAny_call (make_map (f := f) I.kIn M.makes M.init (beq_iff_eq.mp M.fn) (codeAny_mono (F.run _ X.stack _ _ ⟨Value.ref (s.heap.objs.size + 1) :: us, []⟩ (Value.ref (s.heap.objs.size + 1) :: us) _ _ (E σ) (hr.make C us [])
    (I2.env0.make C us []) b r2 hq) fun r s' hq' => ?_))
  cases r with
  | error e => exact hx σ pins _ _ e s' I2 hq'
  | ok fl =>
    cases fl with
    | ret u =>
      obtain ⟨v, H', I3, rv, ev, q3⟩ := I2.after hq'
      subst ev
      exact ⟨rv, ⟨V.ref (s.heap.objs.size + 1), H', I3, rfl, q3⟩⟩
    | next => exact False.elim hq'
    | brk => exact False.elim hq'
    | cont => exact False.elim hq'
theorem pe_makeG (M : Mk X.K C f) (F : FnG X.prog X.w X.K X.mg X.base CX k f fd ps sp) (hr : RoomG (k + 1) X.A) (hg : Gl X x) (hm : X.mg x = some (.ref C)) (hb : Binds X.K fd ps []) (hx : ∀ σ, PassesAt CX X σ (E σ))
    (ha : PA X (e :: es) t) (hdb : (x == ("__debug__" : Str)) = false := by decide) (he : starEach (e :: es) X.env = (false, eval e X.env) :: starEach es X.env := by rfl) (hpl : (backTo pos (starEach es X.env)).any (·.1) = false := by rfl) :
    PE X (.Call (.Name x p) (e :: es) [] pos) (tMakeE C sp E t) := by
  refine ⟨fun pins s σ H Q I h => wpAny_Call_Name_kw (ld_glob I hg hm (PySem.W.callWith_K (h₀ := X.base) I.ok.mod.kin M.kp (thn (ha.run pos pins s σ H _ I h) fun us s1 ⟨vs, H1, J, rv, q⟩ => ⟨J.kIn, ?_⟩) he hpl) hdb)⟩
  exact run_makeG M F hr hb hx J rv q
end
def putD (f : Str) (d : D) : List (Str × D) → List (Str × D)
  | [] => [(f, d)]
  | (g, x) :: r => if g = f then (g, d) :: r else (g, x) :: putD f d r
section
variable {K : PySem.W.Frag} {W : Wd} {Wx : WX} {X : Cx} {a b e o : Expr} {es : List Expr} {ta te to : TE} {da de dO : TDE} {tr : TA} {dr : TDA} {p pos apos : Pos} {C f : Addr} {x m : Str}
theorem IsFs.put {I : Hp} {f : Str} {v : V} {d : D} (h : Is K I v d) : ∀ {vs : List (Str × V)} {ds : List (Str × D)}, IsFs K I vs ds → IsFs K I (putF f v vs) (putD f d ds)
  | [], _, .nil => .cons h .nil
  | (g, y) :: vs, _, .cons h1 r => by
    unfold putF putD
    split
    · exact .cons h r
    · exact .cons h1 (IsFs.put h r)
def onIns (C : Addr) (x : D) (P : List (Str × D) → Prop) : Prop := match x with
  | .ins C' fs => C' = C ∧ P fs
  | _ => False
@[simp] theorem onIns_ins {C : Addr} {fs : List (Str × D)} {P : List (Str × D) → Prop} : onIns C (.ins C fs) P = P fs := by simp [onIns]
theorem ins_of {I : Hp} {v : V} {d : D} {P : List (Str × D) → Prop} (h : Is K I v d) (q : onIns C d P) : ∃ a dx vs fs, v = .ref a ∧ d = .ins C fs ∧ I a = some (.ins C dx vs) ∧ IsFs K I vs fs ∧ P fs := by
  unfold onIns at q
  split at q
  · obtain ⟨rfl, q⟩ := q
    obtain ⟨a, dx, vs, rfl, h1, h2⟩ := is_ins h
    exact ⟨a, dx, vs, _, rfl, rfl, h1, h2, q⟩
  · exact q.elim
/-- o.f -/
@[simp] def tdFld (C : Addr) (f : Str) (t : TDE) : TDE := fun τ Q R => t τ (fun x => onIns C x fun fs => ∃ d, fs.lookup f = some d ∧ Q d) R
theorem de_fld {f : Str} (c : Cls K C) (n : NoAttr K C f) (ho : DE X K W Wx o to dO) (hb : attributeBase o f X.env (eval o X.env) = eval o X.env := by rfl) : DE X K W Wx (.Attribute o f pos) (tFld K to f) (tdFld C f dO) := by
  have hk := ho.k; subst hk
  exact ⟨rfl, pe_fld ho.pe hb, fun I H σ τ Q R G ok rp t hq hx => ho.sim I H σ τ _ R _ ok rp t (fun v d I1 H1 q1 i1 l1 => by
    obtain ⟨a, dx, vs, fs, rfl, rfl, h1, h2, d2, h3, q⟩ := ins_of i1 q1
    obtain ⟨w, h4, h5⟩ := h2.look h3
    exact ⟨a, C, dx, vs, w, rfl, W.ex l1.ok _ _ h1, c, n, h4, hq w d2 I1 H1 q h5 l1⟩) hx⟩
/-- self.f = e -/
@[simp] def tdSetFld (i : Nat) (C : Addr) (f : Str) (t : TDE) : TDS := fun τ E => ∃ p fs, τ[i]? = some (some (.obj p C fs)) ∧ fs.length < 1000 ∧ t τ (fun d => E.nx (τ.set i (some (.obj p C (putD f d fs))))) (fun x => E.ex x τ)
theorem ds_setFld (i : Nat) {f : Str} {pos' px : Pos} (c : Cls K C) (n : NoAttr K C f) (he : DE X K W Wx e te de) (hN : X.N[i]? = some x := by rfl) (hv : Vis X.env.scope x := by first | exact Or.inl rfl | exact Or.inr (Or.inl rfl) | exact Or.inr (Or.inr rfl)) (hd : (x == ("__debug__" : Str)) = false := by decide)
    (hcd : (x == ("__classdict__" : Str)) = false := by decide) (hs : swapsWith e (some (.Attribute (.Name x px) f pos')) pos.line X.env = pure false := by rfl) :
    DS X K W Wx (.Assign [.Attribute (.Name x px) f pos'] e pos) (sFld K (tVar i) te f) (tdSetFld i C f de) := by
  have hk := he.k; subst hk
  refine ⟨rfl, ps_fld (pe_var hN hv hd hcd) he.pe hs, fun I H σ τ E D ok rp t r => ?_⟩
  obtain ⟨p, fs, e0, hl, t⟩ := t
  refine he.sim I H σ τ _ _ _ ok rp t (fun v d I1 H1 q1 i1 l1 => ?_) (r.xok rp)
  have rp1 := rp.later l1
  obtain ⟨w, h1, dx, vs, rfl, hp, hi, hf, al⟩ := rp1.at_ i _ e0
  obtain ⟨rp2, la⟩ := rp1.changed (u := .ins C dx (putF f v vs)) (s' := .obj p C (putD f d fs)) l1.ok e0 h1 rfl ⟨dx, putF f v vs, rfl, upd_same, hi, hf, al.put i1⟩ fun a o => o
  exact ⟨_, h1, p, C, dx, vs, rfl, hp, c, n, by rw [al.len]; exact hl, r.nx _ _ I1 _ q1 rp2 ((rp.own l1).trans la)⟩
@[simp] def tdMeth (C : Addr) (m : Str) (n : Nat) (t : TF) (W : Wd) (tO : TDE) (u : TDA) : TDE := fun τ Q R => tO τ (fun x => onIns C x fun fs => fs.lookup m = none ∧ u τ (fun ds => (x :: ds).length = n ∧ t W (x :: ds) Q fun _ => False) R) R
@[simp] def tdMethX (C : Addr) (m : Str) (n : Nat) (t : TF) (W : Wd) (tO : TDE) (u : TDA) : TDE := fun τ Q R => tO τ (fun x => onIns C x fun fs => fs.lookup m = none ∧ u τ (fun ds => (x :: ds).length = n ∧ t W (x :: ds) Q R) R) R
@[simp] def tdMethO (C : Addr) (m : Str) (n : Nat) (t : TFO) (W : Wd) (tO : TDE) (u : TDA) : TDO := fun τ Q R => tO τ (fun x => onIns C x fun fs => fs.lookup m = none ∧ u τ (fun ds => (x :: ds).length = n ∧ t W (x :: ds) Q fun _ => False) R) R
@[simp] def tdMethOX (C : Addr) (m : Str) (n : Nat) (t : TFO) (W : Wd) (tO : TDE) (u : TDA) : TDO := fun τ Q R => tO τ (fun x => onIns C x fun fs => fs.lookup m = none ∧ u τ (fun ds => (x :: ds).length = n ∧ t W (x :: ds) Q R) R) R
variable {n k : Nat} {t : TF} {tO : TFO} {fd : FuncData} {ps : List Str} {CX : CXT} {pl : Sem Bool}
theorem SimE.meth (ho : SimE K W Wx to dO) (h : SimA K W Wx tr dr) : SimE K W Wx (tMethE C m (spD K n t) (fun _ => E0) to tr) (tdMeth C m n t W dO dr) := fun I H σ τ Q R G ok rp q hq hx =>
  ho I H σ τ _ R _ ok rp q (fun v d I1 H1 q1 i1 l1 => by
    obtain ⟨a, dx, vs, fs, rfl, rfl, h1, h2, h3, q⟩ := ins_of i1 q1
    exact ⟨a, dx, vs, rfl, W.ex l1.ok _ _ h1, h2.lookN h3, h I1 H1 σ τ _ R _ l1.ok (rp.later l1) q (fun vs2 ds I2 H2 q2 i2 l2 =>
      ⟨W, I2, _ :: ds, Q, _, l2.ok, .cons (i1.mono l2.ex) i2, q2.1, q2.2, fun v d I3 H3 q3 i3 l3 => hq v d I3 H3 q3 i3 ((l1.trans l2).trans l3), fun _ _ _ _ _ z _ _ => z.elim⟩) (hx.later l1)⟩) hx
theorem SimO.meth (ho : SimE K W Wx to dO) (h : SimA K W Wx tr dr) : SimO K W Wx (tMethE C m (spO K n tO) (fun _ => E0) to tr) (tdMethO C m n tO W dO dr) := fun I H σ τ Q R G ok rp q hq hx =>
  ho I H σ τ _ R _ ok rp q (fun v d I1 H1 q1 i1 l1 => by
    obtain ⟨a, dx, vs, fs, rfl, rfl, h1, h2, h3, q⟩ := ins_of i1 q1
    exact ⟨a, dx, vs, rfl, W.ex l1.ok _ _ h1, h2.lookN h3, h I1 H1 σ τ _ R _ l1.ok (rp.later l1) q (fun vs2 ds I2 H2 q2 i2 l2 =>
      ⟨W, I2, _ :: ds, Q, _, l2.ok, .cons (i1.mono l2.ex) i2, q2.1, q2.2, fun p ws es I3 H3 q3 n3 h3 f3 i3 l3 => hq p ws es I3 H3 q3 (Later.back' (l1.trans l2) n3) h3 f3 i3 ((l1.trans l2).trans l3), fun _ _ _ _ _ z _ _ => z.elim⟩) (hx.later l1)⟩) hx
/-- a def of a class -/
structure HasMt (K : PySem.W.Frag) (C : Addr) (m qual : Str) (st : Stmt) (ps : List Str) (f : Addr) (fd : FuncData) : Prop where
  F : Fun K m qual st f fd
  m : Meth K C m f
  b : Binds K fd ps []
variable {qual : Str} {st : Stmt}
theorem de_meth0 (c : Cls K C) (T : HasMt K C m qual st ps f fd) (F : FnG X.prog X.w X.K X.mg X.base CX k f fd ps (spD K n t)) (hr : RoomG k X.A) (hx : Passes CX X E0) (ho : DE X K W Wx o to dO)
    (ht : eval (.Call (.Attribute o m apos) [] [] pos) X.env = (do
      let ov ← eval o X.env
      standAt apos.atName
      let (f, first) ← holding [ov] (getMethod ov m pl)
      callWith pos f first (backTo pos (starEach [] X.env)) (backToKw pos (keywordEach [] X.env))) := by rfl) :
    DE X K W Wx (.Call (.Attribute o m apos) [] [] pos) (tMethE C m (spD K n t) (fun _ => E0) to tNil) (tdMeth C m n t W dO tdNil) := by
  have hk := ho.k; subst hk
  exact ⟨rfl, pe_methG0 ho.pe c T.m F hr T.b (fun σ pins H s e s' I => hx pins σ H s e s' I) ht, .meth ho.sim .nil⟩
/-- an __init__: what it is given, the fields that it leaves -/
abbrev TFI := Wd → List D → (List (Str × D) → Prop) → (Exc → Prop) → Prop
def spI (K : PySem.W.Frag) (C : Addr) (n : Nat) (t : TFI) : Sp := fun vs H Q E => ∃ (W : Wd) (I : Hp) (p dx : Addr) (us : List V) (ds : List D) (Qd : List (Str × D) → Prop) (R : Exc → Prop), vs = .ref p :: us ∧ W.ok I H ∧ H p = some (.ins C dx []) ∧ I p = none ∧ W.free p ∧ IsAll K I us ds ∧ ds.length + 1 = n ∧ t W ds Qd R ∧
  (∀ fs dx' ws I' H', Qd fs → H' p = some (.ins C dx' ws) → I' p = none → IsFs K I' ws fs → Lat W (fun a => a = p) I H (fun a => a = p) I' H' → Q .non H') ∧ ∀ cls da x O' I' H', R x → IsX K I' cls da x → Lat W (fun a => a = p) I H O' I' H' → E cls da H'
theorem spI_len {n : Nat} {t : TFI} {vs : List V} {H : Hp} {Q : VK} {E : XK} (h : spI K C n t vs H Q E) : vs.length = n := by
  obtain ⟨_, _, _, _, us, ds, _, _, rfl, _, _, _, _, al, hl, _⟩ := h
  rw [List.length_cons, al.length, hl]
variable {tI : TFI}
@[simp] def tdMake (C : Addr) (n : Nat) (t : TFI) (W : Wd) (u : TDA) : TDE := fun τ Q R => u τ (fun ds => ds.length + 1 = n ∧ t W ds (fun fs => Q (.ins C fs)) fun _ => False) R
@[simp] def tdMakeX (C : Addr) (n : Nat) (t : TFI) (W : Wd) (u : TDA) : TDE := fun τ Q R => u τ (fun ds => ds.length + 1 = n ∧ t W ds (fun fs => Q (.ins C fs)) R) R
theorem later_made {I1 H1 I' H' : Hp} {O' : Addr → Prop} {x dx : Addr} {o o' : HO} (ok : W.ok I1 H1) (hx : H1 x = none) (hdx : H1 dx = none) (ne : dx ≠ x) (l : Lat W (fun a => a = x) I1 (upd (upd H1 dx o) x o') O' I' H') : Later W I1 H1 I' H' where
  ex := l.ex
  ok := l.ok
  fr := fun a u f _ e => by
    have n1 : a ≠ x := ne_of_none e hx
    have n2 : a ≠ dx := ne_of_none e hdx
    exact l.fr a u f n1 (by rw [upd_ne n1, upd_ne n2]; exact e)
  nw := fun a n e => .inl (by
    rcases l.nw a n e with z | z
    · by_cases n1 : a = x
      · rw [n1]; exact hx
      · rw [upd_ne n1] at z
        by_cases n2 : a = dx
        · rw [n2]; exact hdx
        · rw [upd_ne n2] at z; exact z
    · rw [z]; exact hx)
  ow := fun _ z => z.elim
theorem SimE.make (h : SimA K W Wx tr dr) : SimE K W Wx (tMakeE C (spI K C n tI) (fun _ => E0) tr) (tdMake C n tI W dr) := fun I H σ τ Q R G ok rp q hq hx =>
  h I H σ τ _ R _ ok rp q (fun vs ds I1 H1 q1 i1 l1 => by
    intro x dx hx0 hdx ne
    have ok2 : W.ok I1 (upd (upd H1 dx (.own x)) x (.ins C dx [])) := W.alo (W.alo l1.ok hdx) (by rw [upd_ne (Ne.symm ne)]; exact hx0)
    refine ⟨W, I1, x, dx, vs, ds, _, _, rfl, ok2, upd_same, Same.non (W.ex l1.ok) hx0, W.fr l1.ok hx0, i1, q1.1, q1.2, fun fs dx' ws I' H' qf h1 h2 h3 l => ⟨rfl, ?_⟩, fun _ _ _ _ _ _ z _ _ => z.elim⟩
    exact hq _ _ (upd I' x (.ins C dx' ws)) H' qf (.ins upd_same (h3.mono (Same.new h2))) (l1.trans (Later.freeze l1.ok (later_made l1.ok hx0 hdx ne l) h2 hx0 h1))) hx
theorem de_make (M : Mk K C f) (T : HasMt K C m qual st ps f fd) (F : FnG X.prog X.w X.K X.mg X.base CX k f fd ps (spI K C n tI)) (hr : RoomG (k + 1) X.A) (hm : X.mg x = some (.ref C)) (hx : Passes CX X E0) (ha : DA X K W Wx (e :: es) tr dr)
    (hg : Gl X x := by rfl) (hdb : (x == ("__debug__" : Str)) = false := by decide) (he : starEach (e :: es) X.env = (false, eval e X.env) :: starEach es X.env := by rfl) (hpl : (backTo pos (starEach es X.env)).any (·.1) = false := by rfl) :
    DE X K W Wx (.Call (.Name x p) (e :: es) [] pos) (tMakeE C (spI K C n tI) (fun _ => E0) tr) (tdMake C n tI W dr) := by
  have hk := ha.k; subst hk
  exact ⟨rfl, pe_makeG M F hr hg hm T.b (fun σ pins H s e s' I => hx pins σ H s e s' I) ha.pa hdb he hpl, .make ha.sim⟩
end
@[simp] def startI (p C : Addr) (n : Nat) (ds : List D) : Tau := some (.obj p C []) :: (ds.map (fun d => some (.dat d)) ++ List.replicate (n - (ds.length + 1)) none)
@[simp] def endsI (p C : Addr) (Q : List (Str × D) → Prop) (R : Exc → Prop) : DEnds := { nx := fun τ => ∃ fs, τ[0]? = some (some (.obj p C fs)) ∧ Q fs, rt := fun _ => False, ex := fun x _ => R x }
section
variable {K : PySem.W.Frag} {W : Wd} {C : Addr}
theorem getI {p : Addr} {n : Nat} {ds : List D} {i : Nat} {s : SD} (h : (startI p C n ds)[i]? = some (some s)) : (i = 0 ∧ s = .obj p C []) ∨ ∃ j d, i = j + 1 ∧ ds[j]? = some d ∧ s = .dat d := by
  unfold startI at h
  cases i with
  | zero => cases h; exact .inl ⟨rfl, rfl⟩
  | succ j =>
    rw [List.getElem?_cons_succ] at h
    by_cases hj : j < ds.length
    · rw [List.getElem?_append_left (by simpa using hj), List.getElem?_map, List.getElem?_eq_getElem hj] at h
      cases h
      exact .inr ⟨j, _, rfl, List.getElem?_eq_getElem hj, rfl⟩
    · rw [List.getElem?_append_right (by simpa using Nat.le_of_not_lt hj), List.getElem?_replicate] at h
      split at h <;> cases h
theorem startI_rep {I H : Hp} {N : List Str} {p dx : Addr} {us : List V} {ds : List D} (hl0 : ds.length + 1 ≤ N.length) (al : IsAll K I us ds) (hp : H p = some (.ins C dx [])) (hi : I p = none) (hf : W.free p) : Rep K W I H (start N (.ref p :: us)) (startI p C N.length ds) := by
  have hl := al.length
  refine ⟨by unfold L2.start startI; simp [hl], fun i s e => ?_, fun i j s t v w a e1 e2 _ _ o1 o2 => ?_⟩
  · rcases getI e with ⟨rfl, rfl⟩ | ⟨j, d, rfl, hd, rfl⟩
    · exact ⟨.ref p, rfl, dx, [], rfl, hp, hi, hf, .nil⟩
    · obtain ⟨v, h1, h2⟩ := al.get hd
      refine ⟨v, ?_, h2⟩
      unfold L2.start
      rw [List.map_cons, List.cons_append, List.getElem?_cons_succ]
      rw [List.getElem?_append_left (by rw [List.length_map]; exact (List.getElem?_eq_some_iff.mp h1).1), List.getElem?_map, h1]
      rfl
  · rcases getI e1 with ⟨rfl, rfl⟩ | ⟨_, _, _, _, rfl⟩
    · rcases getI e2 with ⟨rfl, rfl⟩ | ⟨_, _, _, _, rfl⟩
      · rfl
      · exact o2.elim
    · exact o1.elim
theorem own_startI {N : List Str} {p : Addr} {us : List V} {ds : List D} {n : Nat} {a : Addr} (h : Own (start N (.ref p :: us)) (startI p C n ds) a) : a = p := by
  obtain ⟨i, s, v, e1, e2, o⟩ := h
  rcases getI e1 with ⟨rfl, rfl⟩ | ⟨_, _, _, _, rfl⟩
  · exact o
  · exact o.elim
theorem relI {I H : Hp} {N : List Str} {p dx : Addr} {us : List V} {ds : List D} {Q : List (Str × D) → Prop} {R : Exc → Prop} {G : VK} {E : XK} (hp : H p = some (.ins C dx [])) (hf : W.free p)
    (hq : ∀ fs dx' ws I' H', Q fs → H' p = some (.ins C dx' ws) → I' p = none → IsFs K I' ws fs → Lat W (fun a => a = p) I H (fun a => a = p) I' H' → G .non H')
    (hx : ∀ cls da x O' I' H', R x → IsX K I' cls da x → Lat W (fun a => a = p) I H O' I' H' → E cls da H') :
    Rel K W (fun cls d _ H => E cls d H) (Own (start N (.ref p :: us)) (startI p C N.length ds)) I H (endsI p C Q R) { nx := fun _ H' => G .non H', rt := G } := by
  have lt : ∀ {O I' H'}, Lat W (Own (start N (.ref p :: us)) (startI p C N.length ds)) I H O I' H' → Lat W (fun a => a = p) I H O I' H' := fun l =>
    ⟨l.ex, l.ok, fun a o f n e => l.fr a o f (fun z => n (own_startI z)) e, fun a n e => (l.nw a n e).elim .inl fun z => .inr (own_startI z), fun a z => let ⟨f, q⟩ := l.ow a z; ⟨f, q.elim .inl fun z => .inr (own_startI z)⟩⟩
  refine ⟨fun σ τ I' H' q rp l => ?_, fun _ _ _ _ z _ _ => z.elim, fun _ _ _ _ z _ _ => z.elim, fun _ _ _ _ z _ _ => z.elim, fun cls da x σ τ I' H' q ix rp l => hx cls da x _ I' H' q ix (lt l)⟩
  obtain ⟨fs, e, qf⟩ := q
  obtain ⟨v, h1, dx', ws, rfl, h2, h3, h4, h5⟩ := rp.at_ 0 _ e
  exact hq fs dx' ws I' H' qf h2 h3 h5 ((lt l).drop fun a (z : a = p) => by subst z; exact ⟨0, _, _, e, h1, rfl⟩)
end
section
variable {P : Program} {w : World} {K : PySem.W.Frag} {mg : Str → Option Value} {base : Heap} {C : Addr}
/-- .. that never does -/
theorem okI {x qual : Str} {st : Stmt} {f : Addr} {fd : FuncData} {N ps : List Str} {k : Nat} {t : TFI} (F : Fun K x qual st f fd) (S : FnScope N ps (defScope st)) (hN : ps.length ≤ N.length)
    (hbody : ∀ (cdv : Value) (A : Around) (outer : List Env) (s : Shared) (H : Hp) (E : XK), RoomG k (A.deeper (PyProof.Rows.envOfC qual (defScope st) s.heap.objs.size f cdv)) →
      ∃ (ts : TS) (td : Wd → TDS), (∀ W, DSs (cxOf CX0 P w K mg base N qual (defScope st) f cdv A outer s H E).nox K W (fun _ _ _ _ => False) (defBody st) ts (td W)) ∧
        ∀ (W : Wd) (p : Addr) (ds : List D) (Q : List (Str × D) → Prop), ds.length + 1 = ps.length → t W ds Q (fun _ => False) → td W (startI p C N.length ds) (endsI p C Q fun _ => False))
    (hR : ∀ W ds Q R, t W ds Q R → t W ds Q fun _ => False) : FnG P w K mg base CX0 (k + 1) f fd ps (spI K C ps.length t) := by
  refine fnG0 F S (fun vs H Q E h => spI_len h) fun cdv A outer s H vs Q E hr h => ?_
  obtain ⟨W, I, p, dx, us, ds, Qd, R, rfl, ok, hp, hi, hf, al, hl, ht, hq, hx⟩ := h
  obtain ⟨ts, td, hd, hm⟩ := hbody cdv A outer s H E hr
  refine ⟨ts, (hd W).ps, (hd W).sim I H _ _ _ _ ok (startI_rep (by omega) al hp hi hf) (hm W p ds Qd hl (hR _ _ _ _ ht)) ?_⟩
  exact relI (N := N) (us := us) (ds := ds) (Q := Qd) (R := fun _ => False) (G := Q) (E := fun _ _ _ => False) hp hf hq (fun _ _ _ _ _ _ z _ _ => z)
end
theorem hasMt_mk {K : PySem.W.Frag} {C f : Addr} {m qual : Str} {st : Stmt} {ps : List Str} {oc : Value} {od an : Option Addr} {osl : Array (Option Value)} {kV doc pm cdv ct : Value} (a : PySem.W.findIn K (.ref C) m = some (some (.ref f))) (i : PySem.W.isFn K (.ref f) = true)
    (l : K.lookup f = some ⟨oc, od, .func (PySem.W.fnOf m qual (defArgs st) (defBody st) (defScope st) .none kV doc pm an cdv ct), osl⟩) (c : PySem.W.codeIn K cdv qual = true) (k : PySem.W.keepIn K (.ref f) = true)
    (hb : ∀ us : List Value, us.length = ps.length → bindArgs (PySem.W.fnOf m qual (defArgs st) (defBody st) (defScope st) .none kV doc pm an cdv ct) ⟨us, []⟩ = pure (ps.zip us)) :
    HasMt K C m qual st ps f (PySem.W.fnOf m qual (defArgs st) (defBody st) (defScope st) .none kV doc pm an cdv ct) := ⟨fun_mk l c k, ⟨a, i, k⟩, Binds.all hb⟩
end D3
set_option Elab.async false
set_option linter.all false
set_option maxRecDepth 100000
set_option maxHeartbeats 4000000
namespace D3
open PySem PySem.Spec PyProof.Rows L2
def truD : D → Option Bool
  | .v .non => some false
  | .v (.bl b) => some b
  | .v (.int i) => some (i != 0)
  | .v (.str s) => if s.length ≤ sizeLine then some ((s.length : Int) != 0) else none
  | .lst ds => some (!ds.isEmpty)
  | .tup ds => some (!ds.isEmpty)
  | _ => none
section
variable {K : PySem.W.Frag} {W : Wd} {Wx : WX} {X : Cx} {a b e : Expr} {ta tb te : TE} {da db de : TDE} {rest : List Expr} {pos : Pos}
theorem IsAll.empty {I : Hp} {vs : List V} {ds : List D} (h : IsAll K I vs ds) : vs.isEmpty = ds.isEmpty := by cases h <;> rfl
/-- x or y, by x's truth -/
@[simp] def tdOrT (t u : TDE) : TDE := fun τ Q R => t τ (fun x => ∃ k, truD x = some k ∧ if k = true then Q x else u τ Q R) R
end
theorem gdPair_mono {i j : Nat} : ∀ d τ (Q Q' : Tau → Prop), (∀ τ', Q τ' → Q' τ') → gdTup 2 (gdCons (gdName i) (gdCons (gdName j) gdNil)) d τ Q → gdTup 2 (gdCons (gdName i) (gdCons (gdName j) gdNil)) d τ Q' := fun d τ Q Q' h q => by
  unfold gdTup at q ⊢
  split at q
  · rename_i ds
    obtain ⟨q1, q⟩ := q
    match ds, q1, q with
    | [x, y], _, q => exact ⟨rfl, q.1, h _ q.2⟩
  · exact q.elim
theorem tdSeq_tup3 {i j l : Nat} {t : TDE} {u : TDS} {τ : Tau} {E : DEnds} (x y z : D) (h : ∀ (Q : D → Prop) (R : Exc → Prop), Q (.tup [x, y, z]) → t τ Q R) (k : u (((τ.set i (some (.dat x))).set j (some (.dat y))).set l (some (.dat z))) E) : tdSeq (tdAsg t (gdTup 3 (gdCons (gdName i) (gdCons (gdName j) (gdCons (gdName l) gdNil))))) u τ E := h _ _ ⟨rfl, rfl, k⟩
/-- a field stored -/
theorem tdSeq_fld {i : Nat} {p C : Addr} {f : Str} {fs : List (Str × D)} {t : TDE} {u : TDS} {τ : Tau} {E : DEnds} (d : D) (e : τ[i]? = some (some (.obj p C fs))) (hl : fs.length < 1000) (h : ∀ (Q : D → Prop) (R : Exc → Prop), Q d → t τ Q R) (k : u (τ.set i (some (.obj p C (putD f d fs)))) E) : tdSeq (tdSetFld i C f t) u τ E := ⟨p, fs, e, hl, h _ _ k⟩
end D3
set_option Elab.async false
set_option linter.all false
set_option maxRecDepth 100000
set_option maxHeartbeats 4000000
namespace D3
open PySem PySem.Spec PyProof.Rows L2
section
variable {X : Cx} {K : PySem.W.Frag} {W : Wd} {Wx : WX} {e : Expr} {te : TE} {de : TDE} {pos : Pos}
@[simp] def tdStar (i j : Nat) (t : TDE) : TDS := fun τ E => t τ (fun d => ∃ x xs, d = .tup (x :: xs) ∧ xs.length < 16384 ∧ E.nx ((τ.set i (some (.dat x))).set j (some (.dat (.lst xs))))) (fun x => E.ex x τ)
def gdLst (n : Nat) (u : TDGs) : TDG := fun d τ Q => match d with
  | .lst ds => ds.length = n ∧ u ds τ Q
  | _ => False
@[simp] theorem gdLst_lst {n : Nat} {u : TDGs} {ds : List D} {τ : Tau} {Q : Tau → Prop} : gdLst n u (.lst ds) τ Q = (ds.length = n ∧ u ds τ Q) := rfl
/-- t.index(text), the first place -/
def fTix : TD2 := fun x y Q => match x, y with
  | .tup ds, .v (.str z) => ∃ (ys : List Str) (j : Nat), ds = ys.map D.str ∧ ys[j]? = some z ∧ (∀ m, m < j → ys[m]? ≠ some z) ∧ Q (.int (j : Nat))
  | _, _ => False
@[simp] theorem fTix_tup {ds : List D} {z : Str} {Q : D → Prop} : fTix (.tup ds) (.v (.str z)) Q = ∃ (ys : List Str) (j : Nat), ds = ys.map D.str ∧ ys[j]? = some z ∧ (∀ m, m < j → ys[m]? ≠ some z) ∧ Q (.int (j : Nat)) := rfl
@[simp] def tdTix (t : TDE) (u : TDA) : TDE := fun τ Q R => t τ (fun x => (∃ ds, x = .tup ds) ∧ u τ (fun ys => one1 ys fun y => fTix x y Q) R) R
/-- x.insert(k, e), all flat, x itself may be read in it -/
@[simp] def tdIns (i : Nat) (u : TDA) : TDS := fun τ E => ∃ ds, τ[i]? = some (some (.own ds)) ∧ ds.length < sizeLine ∧ u (frz τ) (fun es => two es fun k d => onI k fun k => 0 ≤ k ∧ k < 2 ^ 63 ∧ flatD d ∧ E.nx (τ.set i (some (.own (ds.take k.toNat ++ [d] ++ ds.drop k.toNat))))) (fun x => E.ex x (frz τ))
def rIns : V → List V → Hp → VK → Prop := fun x vs H Q => ∃ (l : Addr) (xs : List V) (i : Int) (y : V), x = .ref l ∧ vs = [.int i, y] ∧ H l = some (.lst xs) ∧ xs.length < sizeLine ∧ 0 ≤ i ∧ i < 2 ^ 63 ∧ Q .non (upd H l (.lst (xs.take i.toNat ++ [y] ++ xs.drop i.toNat)))
theorem flat_of {d : D} (h : flatD d) : ∃ y, d = .v y := by cases d <;> first | exact ⟨_, rfl⟩ | exact h.elim
theorem SimS.ins {i : Nat} {tr : TA} {dr : TDA} (h : SimA K W Wx tr dr) : SimS K W Wx (tDrop (tBM K "list" rIns (tVar i) tr)) (tdIns i dr) := fun I H σ τ E D ok rp t r => by
  obtain ⟨ds, e, hz, t⟩ := t
  obtain ⟨v0, h0, p0, vs0, rfl, hp0, hi0, hf0, al0⟩ := rp.at_ i _ e
  obtain ⟨I1, sm, ok1, rp1, nw⟩ := rp.frz ok
  refine ⟨_, h0, tyV_lst hp0, h I1 H σ (frz τ) _ _ _ ok1 rp1 t (fun us es I2 H2 q2 i2 l2 => ?_) (r.xokF rp1 sm ok1 nw)⟩
  unfold two at q2
  split at q2
  · obtain ⟨v1, v2, rfl, a1, a2⟩ := isAll2 i2
    obtain ⟨k, rfl, k0, k1, fl, q⟩ := i_of a1 q2
    obtain ⟨la, rp2⟩ := Lat.revert rp sm nw l2
    obtain ⟨y, ey⟩ := flat_of fl
    subst ey
    · cases a2
      obtain ⟨p, vs, h1, h2, al, kk⟩ := rp2.change (es := ds.take k.toNat ++ [.v v2] ++ ds.drop k.toNat) la.ok e
      rw [h0] at h1
      cases h1
      obtain ⟨rp4, lb⟩ := kk (vs.take k.toNat ++ [v2] ++ vs.drop k.toNat) (((al.take _).append (.cons (.v _) .nil)).append (al.drop _))
      exact ⟨_, vs, k, v2, rfl, rfl, h2, by rw [al.length]; exact hz, k0, k1, r.nx _ _ I _ q rp4 (la.trans lb)⟩
  · exact q2.elim
/-- comprehensions over what is made of a list -/
theorem compD_mapL {α : Type} {g : TDG} {te : TDE} {vs : List Nat} {τ : Tau} (f h : α → D) : ∀ {l : List α} {Q : List D → Prop}, (∀ a ∈ l, ∀ K : D → Prop, K (h a) → g (f a) (wipeT τ vs) fun τ2 => te τ2 K (fun _ => False)) → Q (l.map h) → compD g tdYes te vs τ (l.map f) Q
  | [], _, _, q => q
  | a :: l, Q, k, q => by
    have e : (fun τ2 => (tdYes τ2 (fun b => if b = true then te τ2 (fun y => compD g tdYes te vs τ (l.map f) fun ys => Q (y :: ys)) (fun _ => False) else compD g tdYes te vs τ (l.map f) Q) (fun _ => False))) = fun τ2 => te τ2 (fun y => compD g tdYes te vs τ (l.map f) fun ys => Q (y :: ys)) (fun _ => False) := by
      funext τ2; simp
    rw [List.map_cons]
    unfold compD
    rw [e]
    exact k a List.mem_cons_self _ (compD_mapL f h (Q := fun ys => Q (h a :: ys)) (fun x hx => k x (List.mem_cons_of_mem _ hx)) q)
theorem all_bools {α : Type} {l : List α} {p : α → Bool} {Q : D → Prop} (q : Q (.bl (l.all p))) : ∃ bs : List Bool, (l.map fun a => D.bl (p a)) = bs.map D.bl ∧ Q (.bl (bs.all id)) :=
  ⟨l.map p, by rw [List.map_map]; rfl, by rw [List.all_map]; exact q⟩
/-- tests that may tell this or that -/
theorem tdSeq_if1P {c : TDT} {t1 u : TDS} {τ : Tau} {E : DEnds} (P : Bool → Prop) (h : ∀ (Q : Bool → Prop) (R : Exc → Prop), (∀ b, P b → Q b) → c (frz τ) Q R) (k1 : P true → t1 τ { E with nx := fun τ' => u τ' E }) (k2 : P false → u τ E) : tdSeq (tdIfS c t1 tdNext) u τ E := by
  refine h _ _ fun b p => ?_
  cases b with
  | true => rw [if_pos rfl]; exact k1 p
  | false => rw [if_neg Bool.false_ne_true]; exact k2 p
theorem tdIf_P {c : TDT} {t1 t2 : TDS} {τ : Tau} {E : DEnds} (P : Bool → Prop) (h : ∀ (Q : Bool → Prop) (R : Exc → Prop), (∀ b, P b → Q b) → c (frz τ) Q R) (k1 : P true → t1 τ E) (k2 : P false → t2 τ E) : tdIfS c t1 t2 τ E := by
  refine h _ _ fun b p => ?_
  cases b with
  | true => rw [if_pos rfl]; exact k1 p
  | false => rw [if_neg Bool.false_ne_true]; exact k2 p
/-- a <= b <= c -/
theorem tdChain_le {ta tb tc : TDE} {τ : Tau} {Q : D → Prop} {R : Exc → Prop} (a b c : Int) (h1 : ∀ (Q : D → Prop) (R : Exc → Prop), Q (.int a) → ta τ Q R) (h2 : ∀ (Q : D → Prop) (R : Exc → Prop), Q (.int b) → tb τ Q R) (h3 : ∀ (Q : D → Prop) (R : Exc → Prop), Q (.int c) → tc τ Q R)
    (q : Q (.bl (decide (a ≤ b ∧ b ≤ c)))) : tdChain fLe fLe ta tb tc τ Q R := by
  refine h1 _ _ (h2 _ _ ?_)
  show (if decide (a ≤ b) = true then tc τ (fun w => fLe (.int b) w Q) R else Q (.bl false))
  by_cases h : a ≤ b
  · rw [if_pos (decide_eq_true h)]
    refine h3 _ _ ?_
    show Q (.bl (decide (b ≤ c)))
    rw [show decide (b ≤ c) = decide (a ≤ b ∧ b ≤ c) from by simp [h]]
    exact q
  · rw [if_neg (by simp [h]), show false = decide (a ≤ b ∧ b ≤ c) from by simp [h]]
    exact q
end
end D3
set_option Elab.async false
set_option linter.all false
set_option maxRecDepth 100000
set_option maxHeartbeats 4000000
namespace D3
open PySem PySem.Spec PyProof.Rows L2
/-- a class's facts for these -/
structure OwnW (K : PySem.W.Frag) (C : Addr) (m : Str) (f : Addr) : Prop where
  fi : PySem.W.findIn K (.ref C) m = some (some (.ref f))
  fn : PySem.W.isFn K (.ref f) = true
structure OwnNe (K : PySem.W.Frag) (C : Addr) : Prop where
  fi : PySem.W.findIn K (.ref C) "__ne__" = some (some (.builtin "object.__ne__"))
  mro : PySem.W.mroIn K C (.type "object") = some true
theorem RoomG.in1 {k : Nat} {A : Around} (r : RoomG (k + 1) A) : RoomG k A.in1 := ⟨r.r.in1, r.g⟩
section
variable {X : Cx} {CX : CXT} {k : Nat} {f C : Addr} {fd : FuncData} {ps : List Str} {sp : Sp} {E : L2.St → XK} {pos : Pos} {a b : Expr} {ta tb : TE}
/-- an instance on either side -/
def insP (C : Addr) (x : V) (H : Hp) : Prop := ∃ a dx fs, x = .ref a ∧ H a = some (.ins C dx fs)
theorem insP.at_ {pins : List (Addr × Obj)} {σ : L2.St} {H : Hp} {s : Shared} {x : V} {u : Value} (I : L2.Inv X pins σ H s) (h : insP C x H) (r : RelV x u) : ∃ a ox od, u = .ref a ∧ x = .ref a ∧ PySem.W.InstAt s.heap a ox C od := by
  obtain ⟨a, dx, fs, rfl, e⟩ := h
  obtain rfl : u = Value.ref a := r
  obtain ⟨mA, J, _⟩ := ins_get I.hok e
  obtain ⟨od, J, _⟩ := J.look
  exact ⟨a, _, od, rfl, rfl, J⟩
end
section
variable {K : PySem.W.Frag} {W : Wd} {Wx : WX} {X : Cx} {a b e : Expr} {ta tb te : TE} {da db de : TDE} {tr : TA} {dr : TDA} {p pos : Pos} {CX : CXT} {k : Nat} {f C : Addr} {fd : FuncData} {ps : List Str} {t : TF} {m qual : Str} {st : Stmt}
theorem HasMt.own (T : HasMt K C m qual st ps f fd) : OwnW K C m f := ⟨T.m.at_, T.m.fn⟩
/-- isinstance(x, C), x an instance of C -/
structure IsC (K : PySem.W.Frag) (C : Addr) : Prop where
  ha : PySem.W.findIn K (.ref C) "__class__" = some (some (.builtin "object.__class__"))
  hn : PySem.W.specialIn K (.builtin "object.__class__") "__get__" = some (some (.builtin "getset_descriptor.__get__"))
  htk : PySem.W.takesIn K (.builtin "object.__class__") = some true
  hm : PySem.W.mroIn K C (.type "object") = some true
def fIsiC (C : Addr) : FD := fun ds Q => match ds with
  | [.ins C' _, .v (.ref c)] => C' = C ∧ c = C ∧ Q (.bl true)
  | _ => False
@[simp] theorem fIsiC_ins {C C' c : Addr} {fs : List (Str × D)} {Q : D → Prop} : fIsiC C [.ins C' fs, .v (.ref c)] Q = (C' = C ∧ c = C ∧ Q (.bl true)) := rfl
def fFmt (x : D) (Q : D → Prop) : Prop := match x with
  | .v (.str y) => y.length ≤ sizeLine ∧ Q (.str y)
  | .v (.int i) => i.natAbs.log2 < 1920 ∧ Q (.str (toString i))
  | _ => False
@[simp] theorem fFmt_str {y : Str} {Q : D → Prop} : fFmt (.v (.str y)) Q = (y.length ≤ sizeLine ∧ Q (.str y)) := rfl
@[simp] theorem fFmt_int {i : Int} {Q : D → Prop} : fFmt (.v (.int i)) Q = (i.natAbs.log2 < 1920 ∧ Q (.str (toString i))) := rfl
@[simp] def tdFmt (u : TDE) : TDE := fun τ Q R => u τ (fun x => fFmt x Q) R
@[simp] def tdJs : List TDE → Str → TDE
  | [], acc => fun _ Q _ => Q (.str acc)
  | u :: us, acc => fun τ Q R => u τ (fun d => onStr d fun y => (acc ++ y).length ≤ sizeLine ∧ tdJs us (acc ++ y) τ Q R) R
inductive DJ (X : Cx) (K : PySem.W.Frag) (W : Wd) (Wx : WX) : List Expr → List TE → List TDE → Prop where
  | nil : DJ X K W Wx [] [] []
  | cons {e : Expr} {te : TE} {de : TDE} {es : List Expr} {ts : List TE} {us : List TDE} (h : DE X K W Wx e te de) (r : DJ X K W Wx es ts us) : DJ X K W Wx (e :: es) (te :: ts) (de :: us)
theorem DJ.sim {es : List Expr} {ts : List TE} {us : List TDE} (h : DJ X K W Wx es ts us) : ∀ (acc : Str), SimE K W Wx (fun σ H Q => tJs ts acc σ H fun out H1 => Q (.str out) H1) (tdJs us acc) := by
  induction h with
  | nil => exact fun acc I H σ τ Q R G ok rp t hq hx => hq _ _ I H t (.v _) (.refl ok)
  | cons h r ih =>
    intro acc I H σ τ Q R G ok rp t hq hx
    refine h.sim I H σ τ _ R _ ok rp t (fun v d I1 H1 q1 i1 l1 => ?_) hx
    obtain ⟨y, rfl, q1⟩ := str_of1 i1 q1
    exact ⟨y, rfl, q1.1, ih (acc ++ y) I1 H1 σ τ Q R G l1.ok (rp.later l1) q1.2 (fun v d I2 H2 q2 i2 l2 => hq v d I2 H2 q2 i2 (l1.trans l2)) (hx.later l1)⟩
def fToStr : FD := fun ds Q => match ds with
  | [.v (.int i)] => i.natAbs.log2 < 1920 ∧ Q (.str (toString i))
  | _ => False
@[simp] theorem fToStr_int {i : Int} {Q : D → Prop} : fToStr [.v (.int i)] Q = (i.natAbs.log2 < 1920 ∧ Q (.str (toString i))) := rfl
def fSindex (x y : D) (Q : D → Prop) : Prop := match x, y with
  | .v (.str a), .v (.str b) => ∃ (k : Nat) (r : List Nat), Builtin.Str.occurrences a b 0 a.length 1 = k :: r ∧ Q (.int (k : Nat))
  | _, _ => False
@[simp] theorem fSindex_str {a b : Str} {Q : D → Prop} : fSindex (.v (.str a)) (.v (.str b)) Q = ∃ (k : Nat) (r : List Nat), Builtin.Str.occurrences a b 0 a.length 1 = k :: r ∧ Q (.int (k : Nat)) := rfl
@[simp] def tdSindex (u : TDE) (v : TDA) : TDE := fun τ Q R => u τ (fun x => onStr x fun _ => v τ (fun ys => one1 ys fun y => fSindex x y Q) R) R
@[simp] def tdIxDic (l : List (Str × List V)) (u : TDE) : TDE := fun τ Q R => u τ (fun y => onStr y fun z => ∃ vs, l.lookup z = some vs ∧ Q (.tup (vs.map D.v))) R
end
end D3
set_option Elab.async false
set_option linter.all false
set_option maxRecDepth 100000
set_option maxHeartbeats 4000000
namespace D3
open PySem PySem.Spec PyProof.Rows L2
end D3
set_option Elab.async false
set_option linter.all false
set_option maxRecDepth 100000
set_option maxHeartbeats 4000000
namespace D3
open PySem PySem.Spec PyProof.Rows L2
section
variable {K : PySem.W.Frag} {W : Wd} {Wx : WX} {X : Cx} {a b e : Expr} {ta tb te : TE} {da db de : TDE} {p pos : Pos} {x : Str}
/-- one's own lists stand still, something flat comes of it -/
@[simp] def tdFrzE (t : TDE) : TDE := fun τ Q _ => t (frz τ) (fun d => flatD d ∧ Q d) (fun _ => False)
theorem SimE.frzE (h : SimE K W Wx te de) : SimE K W Wx te (tdFrzE de) := fun I H σ τ Q R G ok rp t hq hx => by
  obtain ⟨I1, sm, ok1, rp1, nw⟩ := rp.frz ok
  refine h I1 H σ (frz τ) _ (fun _ => False) _ ok1 rp1 t (fun v d I2 H2 q2 i2 l2 => ?_) (fun _ _ _ _ _ z _ _ => z.elim)
  obtain ⟨fl, q⟩ := q2
  obtain ⟨y, ey⟩ := flat_of fl
  subst ey
  cases i2
  exact hq _ _ I H2 q (.v _) ⟨Same.refl I, W.anti l2.ok (sm.trans l2.ex), l2.fr, fun a n e => absurd n e, fun _ z => z.elim⟩
theorem de_frzE (h : DE X K W Wx e te de) : DE X K W Wx e te (tdFrzE de) := by
  have hk := h.k; subst hk
  exact ⟨rfl, h.pe, h.sim.frzE⟩
/-- x[k], x one's own list -/
@[simp] def tdIxO (i : Nat) (t : TDE) : TDE := fun τ Q R => ∃ ds, τ[i]? = some (some (.own ds)) ∧ t τ (fun k => onI k fun k => ∃ d, atI ds k = some d ∧ Q d) R
theorem IsAll.atIO {I : Hp} {vs : List V} {ds : List D} {k : Int} {d : D} (h : IsAll K I vs ds) (e : L2.atI ds k = some d) : ∃ v, L2.atI vs k = some v ∧ Is K I v d := by
  unfold L2.atI at e ⊢
  rw [h.length]
  obtain ⟨j, e1, e2⟩ := Option.bind_eq_some_iff.mp e
  obtain ⟨v, e3, e4⟩ := h.get e2
  exact ⟨v, by rw [e1]; exact e3, e4⟩
theorem SimE.ixO {i : Nat} (hb : SimE K W Wx tb db) : SimE K W Wx (tOp (rIx K) (tVar i) tb) (tdIxO i db) := fun I H σ τ Q R G ok rp t hq hx => by
  obtain ⟨ds, e, t⟩ := t
  obtain ⟨v0, h0, p0, vs0, rfl, hp0, hi0, hf0, al0⟩ := rp.at_ i _ e
  refine ⟨_, h0, hb I H σ τ _ R _ ok rp t (fun v d I1 H1 q1 i1 l1 => ?_) hx⟩
  obtain ⟨k, rfl, d2, e2, q2⟩ := i_of i1 q1
  obtain ⟨w, e3, e4⟩ := al0.atIO e2
  exact .inl ⟨p0, vs0, k, w, rfl, rfl, SqL.of (l1.fr p0 _ hf0 (fun z => z) hp0), e3, hq w d2 I1 H1 q2 (e4.mono l1.ex) l1⟩
theorem de_ixO (i : Nat) {x : Str} {px : Pos} (hb : DE X K W Wx b tb db) (hN : X.N[i]? = some x := by rfl) (hv : Vis X.env.scope x := by first | exact Or.inl rfl | exact Or.inr (Or.inl rfl) | exact Or.inr (Or.inr rfl)) (hd : (x == ("__debug__" : Str)) = false := by decide)
    (hcd : (x == ("__classdict__" : Str)) = false := by decide) (hs : PlainIx b := by exact fun _ _ => rfl) : DE X K W Wx (.Subscript (.Name x px) b pos) (tOp (rIx K) (tVar i) tb) (tdIxO i db) := by
  have hk := hb.k; subst hk
  exact ⟨rfl, pe_ix ix_seq (pe_var hN hv hd hcd) hb.pe hs, .ixO hb.sim⟩
end
end D3
namespace D3
open PySem PySem.Spec PyProof.Rows L2
end D3
set_option Elab.async false
set_option linter.all false
set_option maxRecDepth 100000
set_option maxHeartbeats 4000000
namespace D3
open PySem PySem.Spec PyProof.Rows L2
/-- the world in which the list at p is somebody's, and stays -/
def lentW (W : Wd) (p : Addr) (ws : List V) : Wd where
  ok I H := W.ok I H ∧ I p = none ∧ H p = some (.lst ws)
  free a := W.free a ∧ a ≠ p
  ex h := W.ex h.1
  alo := fun {I H q o} h n => ⟨W.alo h.1 n, h.2.1, by
    have : p ≠ q := fun z => by rw [← z, h.2.2] at n; cases n
    rw [upd_ne this]; exact h.2.2⟩
  fr := fun {I H q} h n => ⟨W.fr h.1 n, fun z => by rw [z, h.2.2] at n; cases n⟩
  mu := fun {I H q o} h n f => ⟨W.mu h.1 n f.1, h.2.1, by rw [upd_ne (Ne.symm f.2)]; exact h.2.2⟩
  fzs := fun {I I' H} h k => ⟨W.fzs h.1 fun a => (k a).imp id fun ⟨x, y, z⟩ => ⟨x, y.1, z⟩, by
    rcases k p with q | ⟨_, f, _⟩
    · rw [q]; exact h.2.1
    · exact absurd rfl f.2, h.2.2⟩
  nb := fun {I H a} h n => by
    by_cases z : a = p
    · rw [z]; exact h.2.1
    · exact W.nb h.1 fun f => n ⟨f, z⟩
  anti := fun {I I' H} h e => ⟨W.anti h.1 e, (by
    cases q : I p with
    | none => rfl
    | some o =>
      have := e p o q
      rw [h.2.1] at this
      cases this), h.2.2⟩
section
variable {K : PySem.W.Frag} {W : Wd} {Wx : WX} {X : Cx} {a b e : Expr} {es : List Expr} {ta te : TE} {da de : TDE} {tr : TA} {dr : TDA} {p pos : Pos} {x : Str}
def flatX (x : Exc) : Prop := ∀ f ∈ x.2, flatD f.2
/-- read as a list that stands still; something flat comes of it, or something flat is raised -/
@[simp] def tdFrzL (W : Wd) (i : Nat) (t : Wd → TDE) : TDE := fun τ Q R => ∃ W0 p ws ds, W = lentW W0 p ws ∧ τ[i]? = some (some (.dat (.lent p ws ds))) ∧ W0.free p ∧ t W0 (τ.set i (some (.dat (.lst ds)))) (fun d => flatD d ∧ Q d) (fun x => flatX x ∧ R x)
/-- list(x) -/
@[simp] def tdListL (W : Wd) (i : Nat) : TDO := fun τ Q _ => ∃ W0 p ws ds, W = lentW W0 p ws ∧ τ[i]? = some (some (.dat (.lent p ws ds))) ∧ Q ds
/-- enumerate(x), x itself gone through -/
@[simp] def idEnumL (W : Wd) (i : Nat) : TDI := fun τ Q _ => ∃ W0 p ws ds, W = lentW W0 p ws ∧ τ[i]? = some (some (.dat (.lent p ws ds))) ∧ Q (nums 0 ds)
@[simp] def idAnyL (W : Wd) (i : Nat) : TDI := fun τ Q _ => ∃ W0 p ws ds, W = lentW W0 p ws ∧ τ[i]? = some (some (.dat (.lent p ws ds))) ∧ Q ds
theorem Walks.lent {W0 : Wd} {I : Hp} {p : Addr} {ws : List V} {ds : List D} (al : IsAll K I ws ds) : Walks K (lentW W0 p ws) (Itl K p) I ds := fun i I2 H2 e ok => by
  have s2 : SqL K H2 p ws := SqL.of ok.2.2
  refine ⟨fun hi => ⟨⟨ws, ws[i]'(by rw [al.length]; exact hi), s2, List.getElem?_eq_getElem _⟩, fun x H3 y => ?_⟩, fun hi => ⟨ws, s2, by rw [al.length]; exact hi⟩⟩
  obtain ⟨rfl, y⟩ := y
  obtain ⟨d, hd, iv⟩ := al.getV (y ws s2)
  exact ⟨I2, d, hd, Later.refl ok, iv.mono e⟩
abbrev TDAL := Tau → (List D → List D → List D → Prop) → (Exc → Prop) → Prop
@[simp] def tdalOwn (i : Nat) (u : TDA) : TDAL := fun τ Q R => ∃ es, τ[i]? = some (some (.own es)) ∧ u τ (fun post => Q [] es post) R
@[simp] def tdalCons (t : TDE) (u : TDAL) : TDAL := fun τ Q R => t τ (fun d => u τ (fun pre es post => Q (d :: pre) es post) R) R
variable {C f : Addr} {n k : Nat} {t : TF} {tO : TFO} {tI : TFI} {fd : FuncData} {ps : List Str} {CX : CXT} {qual : Str} {st : Stmt} {dL : TDAL}
@[simp] def tdMakeL (C : Addr) (n : Nat) (t : TFI) (W : Wd) (u : TDAL) : TDE := fun τ Q R => u τ (fun pre es post => ∀ p ws, W.free p → (pre ++ .lent p ws es :: post).length + 1 = n ∧ t (lentW W p ws) (pre ++ .lent p ws es :: post) (fun fs => Q (.ins C fs)) R) R
@[simp] def tdMakeL0 (C : Addr) (n : Nat) (t : TFI) (W : Wd) (u : TDAL) : TDE := fun τ Q R => u τ (fun pre es post => ∀ p ws, W.free p → (pre ++ .lent p ws es :: post).length + 1 = n ∧ t (lentW W p ws) (pre ++ .lent p ws es :: post) (fun fs => Q (.ins C fs)) (fun _ => False)) R
/-- f(.., x, ..) -/
@[simp] def tdCallL (n : Nat) (t : TF) (W : Wd) (u : TDAL) : TDE := fun τ Q R => u τ (fun pre es post => ∀ p ws, W.free p → (pre ++ .lent p ws es :: post).length = n ∧ t (lentW W p ws) (pre ++ .lent p ws es :: post) Q (fun _ => False)) R
@[simp] def tdCallLX (n : Nat) (t : TF) (W : Wd) (u : TDAL) : TDE := fun τ Q R => u τ (fun pre es post => ∀ p ws, W.free p → (pre ++ .lent p ws es :: post).length = n ∧ t (lentW W p ws) (pre ++ .lent p ws es :: post) Q R) R
end
end D3
set_option Elab.async false
set_option linter.all false
set_option maxRecDepth 100000
set_option maxHeartbeats 4000000
namespace D3
open PySem PySem.Spec PyProof.Rows L2
section
variable {K : PySem.W.Frag} {W : Wd} {Wx : WX} {X : Cx} {a b e : Expr} {es : List Expr} {ta tb te : TE} {da db de : TDE} {tr : TA} {dr : TDA} {p pos : Pos} {x : Str}
def LV (K : PySem.W.Frag) (W : Wd) (I H : Hp) (v : V) (ds : List D) : Prop := ∃ p vs, v = .ref p ∧ (I p = some (.lst vs) ∨ (W.free p ∧ I p = none ∧ H p = some (.lst vs))) ∧ IsAll K I vs ds
theorem LV.at_ {I H : Hp} {v : V} {ds : List D} (h : LV K W I H v ds) (ok : W.ok I H) : ∃ p vs, v = .ref p ∧ H p = some (.lst vs) ∧ IsAll K I vs ds := by
  obtain ⟨p, vs, e, h | h, al⟩ := h
  · exact ⟨p, vs, e, W.ex ok _ _ h, al⟩
  · exact ⟨p, vs, e, h.2.2, al⟩
theorem LV.later {I H I' H' : Hp} {v : V} {ds : List D} (h : LV K W I H v ds) (l : Later W I H I' H') : LV K W I' H' v ds := by
  obtain ⟨p, vs, e, h | h, al⟩ := h
  · exact ⟨p, vs, e, .inl (l.ex _ _ h), al.mono l.ex⟩
  · obtain ⟨k1, k2⟩ := l.keepN h.2.2 h.1 h.2.1
    exact ⟨p, vs, e, .inr ⟨h.1, k2, k1⟩, al.mono l.ex⟩
abbrev TDV := Tau → (List D → Prop) → (Exc → Prop) → Prop
@[simp] def tdvOwn (i : Nat) : TDV := fun τ Q _ => ∃ ds, τ[i]? = some (some (.own ds)) ∧ Q ds
@[simp] def tdvDat (t : TDE) : TDV := fun τ Q R => t τ (fun d => onLst d Q) R
@[simp] def tdCatV (t u : TDV) : TDO := fun τ Q R => t τ (fun ds => u τ (fun es => ds.length + es.length ≤ sizeLine ∧ Q (ds ++ es)) R) R
@[simp] def tdRevV (t : TDV) (u : TDO2) : TDO := fun τ Q R => t τ (fun ds => u τ (fun o => o = some (-1) ∧ Q ds.reverse) R) R
@[simp] def tdSlV (t : TDV) (l h : TDO2) : TDO := fun τ Q R => t τ (fun ds => l τ (fun lo => h τ (fun hi => Q (cutD ds lo hi)) R) R) R
@[simp] def tdListV (t : TDV) : TDO := fun τ Q R => t τ Q R
end
end D3
namespace D3
open PySem PySem.Spec PyProof.Rows L2
end D3
set_option Elab.async false
set_option linter.all false
set_option maxRecDepth 100000
set_option maxHeartbeats 4000000
namespace D3
open PySem PySem.Spec PyProof.Rows L2
section
variable {X : Cx}
def rSlN (K : PySem.W.Frag) : V → Option Int → Option Int → Hp → VK → Prop := fun x lo hi H Q => ∃ a xs, x = .ref a ∧ SqT K H a xs ∧
  (HT.sIx xs.length 0 lo = 0 ∧ HT.sIx xs.length xs.length hi = xs.length → Q (.ref a) H) ∧ (¬ (HT.sIx xs.length 0 lo = 0 ∧ HT.sIx xs.length xs.length hi = xs.length) → ∀ (p : Addr) (o : Obj), H p = none → o.dict = none → Q (.ref p) (upd H p (.frz o (.tup (cutV xs lo hi)))))
theorem sl_tupN : SlR X (rSlN X.K) := by
  intro pins s σ H x v vl vu lo hi sl Q I rx hs pl pu h
  obtain ⟨a, xs, rfl, hx, q1, q2⟩ := h
  cases rx
  obtain ⟨its, r, ht, hz⟩ := I.tuple hx
  have hlen : its.toArray.size = xs.length := by rw [List.size_toArray]; exact r.length.symm
  refine ⟨"tuple", _, PyProof.Rows.slot_tuple_getitem.lookup, ht.typeIs, ?_⟩
  by_cases hw : HT.sIx xs.length 0 lo = 0 ∧ HT.sIx xs.length xs.length hi = xs.length
  · exact getItem_tuple_whole ht hs pl pu (by rw [hlen]; exact hw) ⟨.ref a, H, I, rfl, q1 hw⟩
  · refine HT.getItem_tuple_cut ht hs pl pu (by rw [hlen]; exact hw) ?_ (by rw [hlen]; exact hz)
    rw [hlen]
    exact ⟨.ref s.heap.objs.size, _, I.laid (t' := s.toks) (h' := s.heap.push { cls := .type "tuple", data := .seq ((its.drop (HT.sIx xs.length 0 lo)).take (HT.sIx xs.length xs.length hi - HT.sIx xs.length 0 lo)).toArray }) (fun b ob q => Heap.get?_push_of_some _ q) (Nat.le_refl _)
      (ObjOk.tupN (xs := cutV xs lo hi) (us := (its.drop (HT.sIx xs.length 0 lo)).take (HT.sIx xs.length xs.length hi - HT.sIx xs.length 0 lo)) (Heap.get?_push_size _ rfl) rfl rfl (Nat.le_trans (cutV_length xs lo hi) hz) ((r.drop _).take _)), rfl, q2 hw _ _ (I.hok.fresh (Nat.le_refl _)) rfl⟩
end
section
variable {K : PySem.W.Frag} {W : Wd} {Wx : WX} {X : Cx} {a b e : Expr} {es : List Expr} {ta tb te : TE} {da db de : TDE} {tr : TA} {dr : TDA} {p pos : Pos} {x : Str}
/-- t + u -/
def fCatT : TD2 := fun x y Q => match x, y with
  | .tup ds, .tup es => ds.length + es.length ≤ sizeLine ∧ Q (.tup (ds ++ es))
  | _, _ => False
@[simp] theorem fCatT_tup {ds es : List D} {Q : D → Prop} : fCatT (.tup ds) (.tup es) Q = (ds.length + es.length ≤ sizeLine ∧ Q (.tup (ds ++ es))) := rfl
variable {lo hi : Option Expr} {tl th : TO} {dl dh : TDO2} {p2 : Pos}
def onTup (d : D) (Q : List D → Prop) : Prop := match d with
  | .tup ds => Q ds
  | _ => False
@[simp] theorem onTup_tup {ds : List D} {Q : List D → Prop} : onTup (.tup ds) Q = Q ds := rfl
@[simp] def tdSlT (t : TDE) (l h : TDO2) : TDE := fun τ Q R => t τ (fun x => l τ (fun lo => h τ (fun hi => onTup x fun ds => Q (.tup (cutD ds lo hi))) R) R) R
theorem de_slT (he : DE X K W Wx e te de) (hl : DP X K W Wx lo tl dl) (hh : DP X K W Wx hi th dh) : DE X K W Wx (.Subscript e (.Slice lo hi none p2) pos) (tSl (rSlN K) te tl th) (tdSlT de dl dh) := by
  have hk := he.k; subst hk
  exact ⟨rfl, pe_slice sl_tupN he.pe hl.po hh.po, fun I H σ τ Q R G ok rp t hq hx => he.sim I H σ τ _ R _ ok rp t (fun v d I1 H1 q1 i1 l1 =>
    hl.sim I1 H1 σ τ _ R _ l1.ok (rp.later l1) q1 (fun lo I2 H2 q2 l2 => hh.sim I2 H2 σ τ _ R _ l2.ok ((rp.later l1).later l2) q2 (fun hi I3 H3 q3 l3 => by
      unfold onTup at q3
      split at q3
      · rename_i ds
        obtain ⟨p, xs, rfl, sq, al⟩ := is_tupN i1
        have l := (l1.trans l2).trans l3
        have sm := l2.ex.trans l3.ex
        refine ⟨p, xs, rfl, Same.seqT (W.ex l3.ok) (Same.seqT sm sq.t), fun z => ?_, fun _ n o hn ho => ?_⟩
        · have e : cutD ds lo hi = ds := by
            unfold cutD
            rw [al.length] at z
            rw [z.1, z.2, List.drop_zero, Nat.sub_zero, List.take_length]
          rw [e] at q3
          exact hq _ _ I3 H3 q3 (.tup (Same.seqN sm sq) (al.mono sm)) l
        · exact hq _ _ (upd I3 n (.frz o (.tup (cutV xs lo hi)))) _ q3 (.tup (SqN.of upd_same ho) ((al.cut lo hi).mono (sm.trans (Same.new (Same.non (W.ex l3.ok) hn))))) (l.trans (Later.alloc l3.ok hn))
      · exact q3.elim) (hx.later (l1.trans l2))) (hx.later l1)) hx⟩
/-- int(text) -/
def fIntS : FD := fun ds Q => match ds with
  | [.v (.str s)] => ∃ n, PySem.intText? s = some n ∧ s.length ≤ 640 ∧ Q (.int n)
  | _ => False
@[simp] theorem fIntS_str {s : Str} {Q : D → Prop} : fIntS [.v (.str s)] Q = ∃ n, PySem.intText? s = some n ∧ s.length ≤ 640 ∧ Q (.int n) := rfl
def putKD (gs : List (Key × D)) (k : Key) (d : D) : List (Key × D) := if (gs.any fun g => decide (g.1 = k)) = true then gs.map (fun g => if g.1 = k then (g.1, d) else g) else gs ++ [(k, d)]
theorem IsKv.any {I : Hp} {k : Key} : ∀ {vs : List (Key × V)} {gs : List (Key × D)}, IsKv K I vs gs → (vs.any fun g => decide (g.1 = k)) = gs.any fun g => decide (g.1 = k)
  | _, _, .nil => rfl
  | _, _, .cons h r => by simp only [List.any_cons]; rw [IsKv.any r]
theorem IsKv.append {I : Hp} : ∀ {vs ws : List (Key × V)} {gs hs : List (Key × D)}, IsKv K I vs gs → IsKv K I ws hs → IsKv K I (vs ++ ws) (gs ++ hs)
  | _, _, _, _, .nil, s => s
  | _, _, _, _, .cons h r, s => .cons h (IsKv.append r s)
theorem IsKv.store {I : Hp} {k : Key} {v : V} {d : D} (h : Is K I v d) : ∀ {vs : List (Key × V)} {gs : List (Key × D)}, IsKv K I vs gs → IsKv K I (vs.map fun g => if g.1 = k then (g.1, v) else g) (gs.map fun g => if g.1 = k then (g.1, d) else g)
  | _, _, .nil => .nil
  | _, _, .cons (k := k') q r => by
    simp only [List.map_cons]
    by_cases e : k' = k
    · rw [if_pos e, if_pos e]; exact .cons h (IsKv.store h r)
    · rw [if_neg e, if_neg e]; exact .cons q (IsKv.store h r)
theorem IsKv.put {I : Hp} {k : Key} {v : V} {d : D} {vs : List (Key × V)} {gs : List (Key × D)} (r : IsKv K I vs gs) (h : Is K I v d) : IsKv K I (putK vs k v) (putKD gs k d) := by
  unfold putK putKD
  rw [IsKv.any r]
  split
  · exact IsKv.store h r
  · exact r.append (.cons h .nil)
def valD (gs : List (Key × D)) (k : Key) : Option D := (gs.find? fun g => decide (g.1 = k)).map (·.2)
theorem IsKv.val {I : Hp} {k : Key} {d : D} : ∀ {vs : List (Key × V)} {gs : List (Key × D)}, IsKv K I vs gs → valD gs k = some d → ∃ v, valV vs k = some v ∧ Is K I v d
  | _, _, .nil, e => by cases e
  | _, _, .cons (k := k') (v := v') q r, e => by
    unfold valD at e
    rw [List.find?_cons] at e
    by_cases h : k' = k
    · subst h
      rw [decide_eq_true rfl] at e
      cases e
      exact ⟨_, valV_pos rfl, q⟩
    · rw [decide_eq_false h] at e
      obtain ⟨v, h1, h2⟩ := IsKv.val r e
      exact ⟨v, (valV_neg h).trans h1, h2⟩
def fDictP : FD := fun ds Q => match ds with
  | [.lst xs] => ∃ gs : List (Str × D), xs = gs.map (fun g => .tup [.str g.1, g.2]) ∧ (gs.map (·.1)).Nodup ∧ Q (.dic (gs.map fun g => (.inr g.1, g.2)))
  | _ => False
@[simp] theorem fDictP_lst {xs : List D} {Q : D → Prop} : fDictP [.lst xs] Q = ∃ gs : List (Str × D), xs = gs.map (fun g => .tup [.str g.1, g.2]) ∧ (gs.map (·.1)).Nodup ∧ Q (.dic (gs.map fun g => (.inr g.1, g.2))) := rfl
/-- d[text] -/
def onDic (d : D) (Q : List (Key × D) → Prop) : Prop := match d with
  | .dic gs => Q gs
  | _ => False
@[simp] theorem onDic_dic {gs : List (Key × D)} {Q : List (Key × D) → Prop} : onDic (.dic gs) Q = Q gs := rfl
@[simp] def tdDGet (t u : TDE) : TDE := fun τ Q R => t τ (fun x => u τ (fun y => onDic x fun gs => onStr y fun z => ∃ d, valD gs (.inr z) = some d ∧ Q d) R) R
/-- names.index(text), names a list of flat things -/
def fLix (x y : D) (Q : D → Prop) : Prop := match x, y with
  | .lst ds, .v (.str z) => ∃ (ys : List Str) (j : Nat), ds = ys.map D.str ∧ ys[j]? = some z ∧ (∀ m, m < j → ys[m]? ≠ some z) ∧ Q (.int (j : Nat))
  | _, _ => False
@[simp] theorem fLix_lst {ds : List D} {z : Str} {Q : D → Prop} : fLix (.lst ds) (.v (.str z)) Q = ∃ (ys : List Str) (j : Nat), ds = ys.map D.str ∧ ys[j]? = some z ∧ (∀ m, m < j → ys[m]? ≠ some z) ∧ Q (.int (j : Nat)) := rfl
@[simp] def tdLix (u : TDE) (v : TDA) : TDE := fun τ Q R => u τ (fun x => onLst x fun _ => v τ (fun ys => one1 ys fun y => fLix x y Q) R) R
end
end D3
set_option Elab.async false
set_option linter.all false
set_option maxRecDepth 100000
set_option maxHeartbeats 4000000
namespace D3
open PySem PySem.Spec PyProof.Rows PyProof.Rows.G L2
abbrev Tri := Int × Int × Str
def triK (t : Tri) : List (Int ⊕ List Nat) := [.inl t.1, .inl t.2.1, .inr t.2.2.cps.toList]
def triD (t : Tri) : D := .tup [.int t.1, .int t.2.1, .str t.2.2]
def triLe (a b : Tri) : Prop := lexLt itemOrd (triK b) (triK a) = false
variable {X : Cx} {K : PySem.W.Frag} {W : Wd} {Wx : WX}
def fSortT : List D → (List D → Prop) → Prop := fun ds Q => match ds with
  | [.lst xs] => ∃ ks : List Tri, xs = ks.map triD ∧ ∀ ls : List Tri, ls.Perm ks → ls.Pairwise triLe → Q (ls.map triD)
  | _ => False
@[simp] theorem fSortT_lst {xs : List D} {Q : List D → Prop} : fSortT [.lst xs] Q = ∃ ks : List Tri, xs = ks.map triD ∧ ∀ ls : List Tri, ls.Perm ks → ls.Pairwise triLe → Q (ls.map triD) := rfl
end D3
set_option Elab.async false
set_option linter.all false
set_option maxRecDepth 100000
set_option maxHeartbeats 4000000
namespace D3
open PySem PySem.Spec PySem.W PySem.Calls PyProof.Rows L2
section
variable {X : Cx} {K : PySem.W.Frag} {W : Wd} {Wx : WX} {e o : Expr} {te to : TE} {de dO : TDE} {pos : Pos}
@[simp] def tdStarL (n i : Nat) (u : TDGs) (t : TDE) : TDS := fun τ E => t τ (fun d => onLst d fun xs => i < n ∧ n ≤ xs.length + 1 ∧ xs.length ≤ 16384 ∧ u (xs.take i ++ [.lst ((xs.drop i).take (xs.length + 1 - n))] ++ (xs.drop i).drop (xs.length + 1 - n)) τ E.nx) (fun x => E.ex x τ)
@[simp] def tdDead : TDS := fun _ _ => False
@[simp] def tdTryC (tdb : TDS) : TDS := fun τ E => tdb τ { E with ex := fun _ _ => False }
def fPart (a b : Str) (Q : D → Prop) : Prop := (b.length == 0) = false ∧ a.length ≤ sizeLine ∧ Q (.tup [.str (Txt.partition a b).1, .str (Txt.partition a b).2.1, .str (Txt.partition a b).2.2])
@[simp] def tdPartn (t u : TDE) : TDE := fun τ Q R => t τ (fun x => onStr x fun a => u τ (fun y => onStr y fun b => fPart a b Q) R) R
end
end D3
set_option Elab.async false
set_option linter.all false
set_option maxRecDepth 100000
set_option maxHeartbeats 4000000
namespace D3
open PySem PySem.Spec PySem.W PySem.Calls PyProof.Rows L2
section
variable {X : Cx} {K : PySem.W.Frag} {W : Wd} {Wx : WX} {pos : Pos}
/-- x = {} -/
@[simp] def tdNewK (i : Nat) : TDS := fun τ E => E.nx (τ.set i (some (.dk [])))
theorem IsKv.len {I : Hp} : ∀ {vs : List (Key × V)} {gs : List (Key × D)}, IsKv K I vs gs → vs.length = gs.length
  | _, _, .nil => rfl
  | _, _, .cons _ r => by rw [List.length_cons, List.length_cons, IsKv.len r]
/-- if x.setdefault(y, z) != z: what is never come to -/
@[simp] def tdSetd (i j m : Nat) : TDS := fun τ E => ∃ gs kz vz, τ[i]? = some (some (.dk gs)) ∧ τ[j]? = some (some (.dat (.str kz))) ∧ τ[m]? = some (some (.dat (.str vz))) ∧ gs.length < sizeLine ∧
  (∀ d, valD gs (.inr kz) = some d → d = .str vz ∧ E.nx τ) ∧ (valD gs (.inr kz) = none → E.nx (τ.set i (some (.dk (putKD gs (.inr kz) (.str vz))))))
end
end D3
set_option Elab.async false
set_option linter.all false
set_option maxRecDepth 100000
set_option maxHeartbeats 4000000
namespace D3
open PySem PySem.Spec PyProof.Rows L2
def TS : List String := ["NoneType", "int", "str", "bool", "list", "tuple"]
section
variable {X : Cx} {e st : Expr} {te ts : TE} {to : TO} {p2 pos : Pos}
variable {K : PySem.W.Frag} {W : Wd} {Wx : WX} {de : TDE} {dp : TDO2}
@[simp] def tdRevT (t : TDE) (u : TDO2) : TDE := fun τ Q R => t τ (fun x => u τ (fun o => o = some (-1) ∧ onTup x fun ds => Q (.tup ds.reverse)) R) R
end
end D3
set_option Elab.async false
set_option linter.all false
set_option maxRecDepth 100000
set_option maxHeartbeats 4000000
namespace D3
open PySem PySem.Spec PyProof.Rows L2
variable {K : PySem.W.Frag} {W : Wd} {Wx : WX} {X : Cx} {a b c : Expr} {pos : Pos} {n : Nat}
def three (ds : List D) (P : D → D → D → Prop) : Prop := match ds with
  | [x, y, z] => P x y z
  | _ => False
@[simp] theorem three_three {x y z : D} {P : D → D → D → Prop} : three [x, y, z] P = P x y z := rfl
@[simp] def tdPar3 (i j l : Nat) (u : TDA) : TDS := fun τ E => u τ (fun ds => three ds fun x y z => E.nx (((τ.set i (some (.dat x))).set j (some (.dat y))).set l (some (.dat z)))) (fun x => E.ex x τ)
end D3
set_option Elab.async false
set_option linter.all false
set_option maxRecDepth 100000
set_option maxHeartbeats 4000000
namespace D3
open PySem L2
/-- signs that a text shows as they are -/
def SH : List Nat := 46 :: (List.range 26).map (· + 97)
theorem sh_ch : ∀ c ∈ SH, Builtin.Str.reprChar 39 c = [c] := by decide +kernel
theorem sh_no : 39 ∉ SH ∧ 34 ∉ SH := by decide +kernel
theorem sh_fold : ∀ (l acc : List Nat), (∀ c ∈ l, c ∈ SH) → l.foldl (fun (out : Array Nat) c => out ++ (Builtin.Str.reprChar 39 c).toArray) acc.toArray = (acc ++ l).toArray
  | [], acc, _ => by simp
  | c :: l, acc, h => by
    rw [List.foldl_cons, sh_ch c (h c List.mem_cons_self)]
    have e : acc.toArray ++ [c].toArray = (acc ++ [c]).toArray := by simp
    rw [e, sh_fold l (acc ++ [c]) fun x hx => h x (List.mem_cons_of_mem _ hx)]
    simp
theorem repr_mk {l : List Nat} (h : ∀ c ∈ l, c ∈ SH) : reprText (mk l) = mk (39 :: (l ++ [39])) := by
  have q : reprQuote (mk l) = 39 := by
    unfold reprQuote
    have n : (mk l).cps.contains 39 = false := by
      simp only [mk_cps', List.contains_toArray]
      simp only [List.contains_eq_mem, decide_eq_false_iff_not]
      exact fun z => sh_no.1 (h _ z)
    rw [n]; rfl
  unfold reprText
  rw [q]
  simp only [mk_cps']
  have e : (#[39] : Array Nat) = [39].toArray := rfl
  rw [e]
  have f := sh_fold l [39] h
  rw [List.foldl_toArray', f] <;> simp [mk]
def jn : List (List Nat) → List Nat
  | [] => []
  | [x] => x
  | x :: r => x ++ 44 :: 32 :: jn r
theorem comma_mk : (", " : Str) = mk [44, 32] := by decide +kernel
theorem join_jn : ∀ ls : List (List Nat), Str.join ", " (ls.map mk) = mk (jn ls)
  | [] => by decide +kernel
  | [x] => rfl
  | x :: y :: r => by
    show mk x ++ (", " : Str) ++ Str.join ", " ((y :: r).map mk) = mk (x ++ 44 :: 32 :: jn (y :: r))
    rw [join_jn (y :: r), comma_mk, app_mk, app_mk]
    simp
/-- how data is shown, by its signs' numbers -/
def shL (d : D) : List Nat := (reprD d).cps.toList
theorem shL_mk (d : D) : reprD d = mk (shL d) := mk_of _
theorem shown_all : ∀ ds : List D, PyData.shownAll (toPys ds) = (ds.map shL).map mk
  | [] => by simp [toPys, PyData.shownAll]
  | d :: ds => by
    simp only [toPys, PyData.shownAll, List.map_cons, shown_all ds]
    exact congrArg (· :: _) (shL_mk d)
theorem toPys_len : ∀ ds : List D, (toPys ds).length = ds.length
  | [] => by simp [toPys]
  | d :: ds => by simp [toPys, toPys_len ds]
theorem br_mk : ("[" : Str) = mk [91] ∧ ("]" : Str) = mk [93] ∧ ("(" : Str) = mk [40] ∧ ((")" : String) : Str) = mk [41] ∧ ((",)" : String) : Str) = mk [44, 41] := by decide +kernel
theorem shL_lst (ds : List D) : shL (.lst ds) = 91 :: (jn (ds.map shL) ++ [93]) := by
  have e : reprD (.lst ds) = mk (91 :: (jn (ds.map shL) ++ [93])) := by
    show (toPy (.lst ds)).shown = _
    rw [toPy, PyData.shown_list, shown_all, join_jn, br_mk.1, br_mk.2.1, app_mk, app_mk]
    rfl
  unfold shL
  rw [e, mk_cps]
  rfl
def tEnd (n : Nat) : List Nat := if n = 1 then [44, 41] else [41]
theorem shL_tup (ds : List D) : shL (.tup ds) = 40 :: (jn (ds.map shL) ++ tEnd ds.length) := by
  have e : reprD (.tup ds) = mk (40 :: (jn (ds.map shL) ++ tEnd ds.length)) := by
    show (toPy (.tup ds)).shown = _
    rw [toPy, PyData.shown_tuple, shown_all, join_jn, br_mk.2.2.1, toPys_len]
    unfold tEnd
    by_cases h : ds.length = 1
    · rw [if_pos h, if_pos (by simpa using h), br_mk.2.2.2.2, app_mk, app_mk]; rfl
    · rw [if_neg h, if_neg (by simpa using h), br_mk.2.2.2.1, app_mk, app_mk]; rfl
  unfold shL
  rw [e, mk_cps]
  rfl
theorem shL_str {l : List Nat} (h : ∀ c ∈ l, c ∈ SH) : shL (sD l) = 39 :: (l ++ [39]) := by
  have e : reprD (sD l) = mk (39 :: (l ++ [39])) := by
    show (toPy (sD l)).shown = _
    simp only [toPy, PyData.shown_str]
    exact repr_mk h
  unfold shL
  rw [e, mk_cps]
def sdig (n : Nat) : List Nat := (Str.ofString (toString (n : Int))).cps.toList
theorem shL_int (n : Nat) : shL (.int n) = sdig n := rfl
theorem dig_ok : ∀ n ∈ List.range 100, sdig n ≠ [] ∧ (∀ c ∈ sdig n, 48 ≤ c ∧ c ≤ 57) ∧ (sdig n).foldl (fun a c => a * 10 + (c - 48)) 0 = n := by decide +kernel
inductive Nice : D → Prop
  | s {l : List Nat} (h : ∀ c ∈ l, c ∈ SH) : Nice (sD l)
  | i {n : Nat} (h : n < 100) : Nice (.int n)
  | t {ds : List D} (h : ∀ d ∈ ds, Nice d) : Nice (.tup ds)
  | l {ds : List D} (h : ∀ d ∈ ds, Nice d) : Nice (.lst ds)
theorem cut_inj {p : Nat → Bool} : ∀ {l l' r r' : List Nat}, (∀ c ∈ l, p c = true) → (∀ c ∈ l', p c = true) → (∀ c, r.head? = some c → p c = false) → (∀ c, r'.head? = some c → p c = false) → l ++ r = l' ++ r' → l = l' ∧ r = r'
  | [], [], r, r', _, _, _, _, h => ⟨rfl, by simpa using h⟩
  | [], c :: l', r, r', _, h2, h3, _, h => by
    have e : r = c :: (l' ++ r') := by simpa using h
    have := h3 c (by rw [e]; rfl)
    rw [h2 c List.mem_cons_self] at this
    exact nomatch this
  | c :: l, [], r, r', h1, _, _, h4, h => by
    have e : r' = c :: (l ++ r) := by simpa using h.symm
    have := h4 c (by rw [e]; rfl)
    rw [h1 c List.mem_cons_self] at this
    exact nomatch this
  | c :: l, c' :: l', r, r', h1, h2, h3, h4, h => by
    have h : c = c' ∧ l ++ r = l' ++ r' := by simpa using h
    obtain ⟨e1, e2⟩ := cut_inj (fun x hx => h1 x (List.mem_cons_of_mem _ hx)) (fun x hx => h2 x (List.mem_cons_of_mem _ hx)) h3 h4 h.2
    exact ⟨by rw [h.1, e1], e2⟩
def Dl (r : List Nat) : Prop := ∀ c, r.head? = some c → c = 44 ∨ c = 41 ∨ c = 93
/-- what an item begins with -/
theorem Nice.head {d : D} (h : Nice d) : ∃ c t, shL d = c :: t ∧ ((c = 39 ∧ ∃ l, d = sD l) ∨ (48 ≤ c ∧ c ≤ 57 ∧ ∃ n : Nat, d = .int n) ∨ (c = 40 ∧ ∃ ds, d = .tup ds) ∨ (c = 91 ∧ ∃ ds, d = .lst ds)) := by
  cases h with
  | s h => exact ⟨_, _, shL_str h, .inl ⟨rfl, _, rfl⟩⟩
  | @i n h =>
    obtain ⟨h1, h2, _⟩ := dig_ok n (List.mem_range.mpr h)
    rw [shL_int]
    cases e : sdig n with
    | nil => exact absurd e h1
    | cons c t =>
      have := h2 c (by rw [e]; exact List.mem_cons_self)
      exact ⟨c, t, rfl, .inr (.inl ⟨this.1, this.2, _, rfl⟩)⟩
  | t h => exact ⟨_, _, shL_tup _, .inr (.inr (.inl ⟨rfl, _, rfl⟩))⟩
  | l h => exact ⟨_, _, shL_lst _, .inr (.inr (.inr ⟨rfl, _, rfl⟩))⟩
def InjAt (d : D) : Prop := ∀ e, Nice e → ∀ r r', Dl r → Dl r' → shL d ++ r = shL e ++ r' → d = e ∧ r = r'
def Cl (x : List Nat) : Prop := ∃ t, x = 41 :: t ∨ x = 93 :: t ∨ x = 44 :: 41 :: t
theorem Cl.dl {x : List Nat} (h : Cl x) : Dl x := fun c hc => by
  obtain ⟨t, rfl | rfl | rfl⟩ := h <;> simp at hc <;> omega
theorem Dl.more {x : List Nat} : Dl (44 :: x) := fun c hc => by
  simp at hc; omega
theorem Cl.not_item {x t : List Nat} {d : D} (h : Cl x) (hd : Nice d) (e : x = shL d ++ t) : False := by
  obtain ⟨c, u, e1, k⟩ := hd.head
  rw [e1] at e
  obtain ⟨t', rfl | rfl | rfl⟩ := h <;> simp at e <;> omega
theorem Cl.not_sep {x t : List Nat} (h : Cl x) (e : x = 44 :: 32 :: t) : False := by
  obtain ⟨t', rfl | rfl | rfl⟩ := h <;> simp at e
theorem jn_inj : ∀ (ds es : List D), (∀ d ∈ ds, InjAt d) → (∀ d ∈ ds, Nice d) → (∀ e ∈ es, Nice e) → ∀ x y, Cl x → Cl y → jn (ds.map shL) ++ x = jn (es.map shL) ++ y → ds = es ∧ x = y
  | [], [], _, _, _, x, y, _, _, h => ⟨rfl, by simpa [jn] using h⟩
  | [], [e], _, _, he, x, y, hx, hy, h => (hx.not_item (he e List.mem_cons_self) (t := y) (by simpa [jn] using h)).elim
  | [], e :: e' :: es, _, _, he, x, y, hx, hy, h => (hx.not_item (he e List.mem_cons_self) (t := 44 :: 32 :: (jn ((e' :: es).map shL) ++ y)) (by simpa [jn] using h)).elim
  | [d], [], _, hd, _, x, y, hx, hy, h => (hy.not_item (hd d List.mem_cons_self) (t := x) (by simpa [jn] using h.symm)).elim
  | d :: d' :: ds, [], _, hd, _, x, y, hx, hy, h => (hy.not_item (hd d List.mem_cons_self) (t := 44 :: 32 :: (jn ((d' :: ds).map shL) ++ x)) (by simpa [jn] using h.symm)).elim
  | [d], [e], hi, _, he, x, y, hx, hy, h => by
    obtain ⟨rfl, rfl⟩ := hi d List.mem_cons_self e (he e List.mem_cons_self) x y hx.dl hy.dl (by simpa [jn] using h)
    exact ⟨rfl, rfl⟩
  | [d], e :: e' :: es, hi, _, he, x, y, hx, hy, h => by
    have k := hi d List.mem_cons_self e (he e List.mem_cons_self) x (44 :: 32 :: (jn ((e' :: es).map shL) ++ y)) hx.dl Dl.more (by simpa [jn] using h)
    exact (hx.not_sep k.2).elim
  | d :: d' :: ds, [e], hi, _, he, x, y, hx, hy, h => by
    have k := hi d List.mem_cons_self e (he e List.mem_cons_self) (44 :: 32 :: (jn ((d' :: ds).map shL) ++ x)) y Dl.more hy.dl (by simpa [jn] using h)
    exact (hy.not_sep k.2.symm).elim
  | d :: d' :: ds, e :: e' :: es, hi, hd, he, x, y, hx, hy, h => by
    have k := hi d List.mem_cons_self e (he e List.mem_cons_self) (44 :: 32 :: (jn ((d' :: ds).map shL) ++ x)) (44 :: 32 :: (jn ((e' :: es).map shL) ++ y)) Dl.more Dl.more (by simpa [jn] using h)
    have k2 : jn ((d' :: ds).map shL) ++ x = jn ((e' :: es).map shL) ++ y := by simpa using k.2
    obtain ⟨e1, e2⟩ := jn_inj (d' :: ds) (e' :: es) (fun z hz => hi z (List.mem_cons_of_mem _ hz)) (fun z hz => hd z (List.mem_cons_of_mem _ hz)) (fun z hz => he z (List.mem_cons_of_mem _ hz)) x y hx hy k2
    exact ⟨by rw [k.1, e1], e2⟩
theorem cl_end (n : Nat) (r : List Nat) : Cl (tEnd n ++ r) := by
  unfold tEnd
  split
  · exact ⟨r, .inr (.inr rfl)⟩
  · exact ⟨r, .inl rfl⟩
theorem Nice.inj {d : D} (h : Nice d) : InjAt d := by
  induction h with
  | @s l h =>
    intro e he r r' hr hr' q
    rw [shL_str h] at q
    obtain ⟨c, t, e1, k⟩ := he.head
    cases he with
    | @s l' h' =>
      rw [shL_str h'] at q
      have q : l ++ 39 :: r = l' ++ 39 :: r' := by simpa using q
      obtain ⟨rfl, e2⟩ := cut_inj (p := fun c => c != 39) (fun c hc => by simp only [bne_iff_ne]; exact fun z => sh_no.1 (by rw [← z]; exact h c hc)) (fun c hc => by simp only [bne_iff_ne]; exact fun z => sh_no.1 (by rw [← z]; exact h' c hc)) (fun c hc => by simp at hc; simp [← hc]) (fun c hc => by simp at hc; simp [← hc]) q
      exact ⟨rfl, by simpa using e2⟩
    | i h' =>
      rw [e1] at q
      rcases k with ⟨_, _, k⟩ | ⟨k1, k2, _⟩ | ⟨_, _, k⟩ | ⟨_, _, k⟩ <;> first | (cases k; done) | skip
      have q : 39 = c := by simpa using (List.cons.inj q).1
      omega
    | t h' => rw [shL_tup] at q; exact absurd (List.cons.inj q).1 (by decide)
    | l h' => rw [shL_lst] at q; exact absurd (List.cons.inj q).1 (by decide)
  | @i n h =>
    intro e he r r' hr hr' q
    obtain ⟨c, t, e1, k⟩ := (Nice.i h).head
    have k : 48 ≤ c ∧ c ≤ 57 := by rcases k with ⟨_, _, k⟩ | ⟨k1, k2, _⟩ | ⟨_, _, k⟩ | ⟨_, _, k⟩ <;> first | (cases k; done) | exact ⟨k1, k2⟩
    cases he with
    | @s l' h' => rw [e1, shL_str h'] at q; have := (List.cons.inj q).1; omega
    | @i m h' =>
      rw [shL_int, shL_int] at q
      obtain ⟨_, g2, g3⟩ := dig_ok n (List.mem_range.mpr h)
      obtain ⟨_, g2', g3'⟩ := dig_ok m (List.mem_range.mpr h')
      have nd : ∀ {r : List Nat}, Dl r → ∀ c, r.head? = some c → (decide (48 ≤ c) && decide (c ≤ 57)) = false := fun hr c hc => by
        rcases hr c hc with rfl | rfl | rfl <;> rfl
      obtain ⟨e2, e3⟩ := cut_inj (p := fun c => decide (48 ≤ c) && decide (c ≤ 57)) (fun c hc => by have := g2 c hc; simp [this]) (fun c hc => by have := g2' c hc; simp [this]) (nd hr) (nd hr') q
      rw [e2, g3'] at g3
      exact ⟨by rw [g3], e3⟩
    | t h' => rw [e1, shL_tup] at q; have := (List.cons.inj q).1; omega
    | l h' => rw [e1, shL_lst] at q; have := (List.cons.inj q).1; omega
  | @t ds h ih =>
    intro e he r r' hr hr' q
    rw [shL_tup] at q
    obtain ⟨c, t, e1, k⟩ := he.head
    cases he with
    | @s l' h' => rw [shL_str h'] at q; exact absurd (List.cons.inj q).1 (by decide)
    | i h' =>
      rw [e1] at q
      rcases k with ⟨_, _, k⟩ | ⟨k1, k2, _⟩ | ⟨_, _, k⟩ | ⟨_, _, k⟩ <;> first | (cases k; done) | skip
      have := (List.cons.inj q).1
      omega
    | @t es h' =>
      rw [shL_tup] at q
      have q : jn (ds.map shL) ++ (tEnd ds.length ++ r) = jn (es.map shL) ++ (tEnd es.length ++ r') := by simpa using q
      obtain ⟨rfl, e2⟩ := jn_inj ds es ih h h' _ _ (cl_end _ _) (cl_end _ _) q
      exact ⟨rfl, by simpa using e2⟩
    | l h' => rw [shL_lst] at q; exact absurd (List.cons.inj q).1 (by decide)
  | @l ds h ih =>
    intro e he r r' hr hr' q
    rw [shL_lst] at q
    obtain ⟨c, t, e1, k⟩ := he.head
    cases he with
    | @s l' h' => rw [shL_str h'] at q; exact absurd (List.cons.inj q).1 (by decide)
    | i h' =>
      rw [e1] at q
      rcases k with ⟨_, _, k⟩ | ⟨k1, k2, _⟩ | ⟨_, _, k⟩ | ⟨_, _, k⟩ <;> first | (cases k; done) | skip
      have := (List.cons.inj q).1
      omega
    | t h' => rw [shL_tup] at q; exact absurd (List.cons.inj q).1 (by decide)
    | @l es h' =>
      rw [shL_lst] at q
      have q : jn (ds.map shL) ++ 93 :: r = jn (es.map shL) ++ 93 :: r' := by simpa using q
      obtain ⟨rfl, e2⟩ := jn_inj ds es ih h h' _ _ ⟨r, .inr (.inl rfl)⟩ ⟨r', .inr (.inl rfl)⟩ q
      exact ⟨rfl, by simpa using e2⟩
end D3
set_option Elab.async false
set_option linter.all false
set_option maxRecDepth 100000
set_option maxHeartbeats 2000000
namespace D3
open PySem PySem.Spec PySem.W PySem.Calls PyProof.Rows L2
abbrev TK := List L2.Key
abbrev DtE := List (TK × Addr × Value)
section
variable {α : Type}
/-- what a list of pairs tells of a key -/
def valT (gs : List (TK × α)) (k : TK) : Option α := (gs.find? fun g => decide (g.1 = k)).map (·.2)
def putT (gs : List (TK × α)) (k : TK) (d : α) : List (TK × α) := if (valT gs k).isSome then gs.map (fun g => if g.1 = k then (g.1, d) else g) else gs ++ [(k, d)]
@[simp] theorem valT_nil {k : TK} : valT ([] : List (TK × α)) k = none := rfl
theorem valT_cons {k : TK} {g : TK × α} {gs : List (TK × α)} : valT (g :: gs) k = if g.1 = k then some g.2 else valT gs k := by
  unfold valT
  rw [List.find?_cons]
  by_cases e : g.1 = k
  · simp [e]
  · simp [e]
end
theorem atKey_cons {k : TK} {g : TK × Addr × Value} {gs : DtE} : atKey (g :: gs) k = if g.1 = k then some g.2 else atKey gs k := by
  unfold atKey
  rw [List.find?_cons]
  by_cases e : g.1 = k
  · simp [e]
  · simp [e]
section
variable {K : PySem.W.Frag} {I : Hp} {us : DtE} {gs : List (TK × D)} {k : TK}
theorem IsT.ks : ∀ {us : DtE} {gs : List (TK × D)}, IsT K I us gs → ∀ x ∈ us, SqN K I x.2.1 (x.1.map kV)
  | _, _, .nil, _, h => nomatch h
  | _, _, .cons s _ _ r, x, h => by
    rcases List.mem_cons.mp h with e | h
    · subst e; exact s
    · exact IsT.ks r x h
theorem IsT.len : ∀ {us : DtE} {gs : List (TK × D)}, IsT K I us gs → us.length = gs.length
  | _, _, .nil => rfl
  | _, _, .cons _ _ _ r => by rw [List.length_cons, List.length_cons, IsT.len r]
theorem IsT.some_ : ∀ {us : DtE} {gs : List (TK × D)}, IsT K I us gs → ∀ {d : D}, valT gs k = some d → ∃ p v, atKey us k = some p ∧ RelV v p.2 ∧ Is K I v d
  | _, _, .nil, _, e => nomatch e
  | _, _, .cons (k := k') _ r i t, d, e => by
    rw [valT_cons] at e
    rw [atKey_cons]
    by_cases h : k' = k
    · rw [if_pos h] at e
      cases e
      exact ⟨_, _, if_pos h, r, i⟩
    · rw [if_neg h] at e
      rw [if_neg h]
      exact IsT.some_ t e
theorem IsT.none_ : ∀ {us : DtE} {gs : List (TK × D)}, IsT K I us gs → valT gs k = none → atKey us k = none
  | _, _, .nil, _ => rfl
  | _, _, .cons (k := k') _ r i t, e => by
    rw [valT_cons] at e
    rw [atKey_cons]
    by_cases h : k' = k
    · rw [if_pos h] at e
      cases e
    · rw [if_neg h] at e
      rw [if_neg h]
      exact IsT.none_ t e
theorem IsT.isSome (h : IsT K I us gs) : (atKey us k).isSome = (valT gs k).isSome := by
  cases e : valT gs k with
  | none => rw [h.none_ e]; rfl
  | some d => obtain ⟨p, _, e1, _⟩ := h.some_ e; rw [e1]; rfl
theorem IsT.app : ∀ {us ws : DtE} {gs hs : List (TK × D)}, IsT K I us gs → IsT K I ws hs → IsT K I (us ++ ws) (gs ++ hs)
  | _, _, _, _, .nil, s => s
  | _, _, _, _, .cons a b c r, s => .cons a b c (IsT.app r s)
theorem IsT.store {v : V} {u : Value} {d : D} (r : RelV v u) (i : Is K I v d) : ∀ {us : DtE} {gs : List (TK × D)}, IsT K I us gs → IsT K I (us.map (putAt k u)) (gs.map fun g => if g.1 = k then (g.1, d) else g)
  | _, _, .nil => .nil
  | _, _, .cons (k := k') s r' i' t => by
    rw [List.map_cons, List.map_cons]
    unfold putAt
    by_cases h : k' = k
    · rw [if_pos h, if_pos h]; exact .cons s r i (IsT.store r i t)
    · rw [if_neg h, if_neg h]; exact .cons s r' i' (IsT.store r i t)
theorem IsT.put {b : Addr} {v : V} {u : Value} {d : D} (h : IsT K I us gs) (s : SqN K I b (k.map kV)) (r : RelV v u) (i : Is K I v d) : IsT K I (storedH us k b u) (putT gs k d) := by
  unfold storedH putT
  rw [h.isSome]
  split
  · exact IsT.store r i h
  · exact h.app (.cons s r i .nil)
theorem IsT.get : ∀ {us : DtE} {gs : List (TK × D)}, IsT K I us gs → ∀ {i : Nat} {g : TK × D}, gs[i]? = some g → ∃ b u v, us[i]? = some (g.1, b, u) ∧ SqN K I b (g.1.map kV) ∧ RelV v u ∧ Is K I v g.2
  | _, _, .nil, _, _, e => by simp at e
  | _, _, .cons s r i t, 0, _, e => by simp at e; subst e; exact ⟨_, _, _, rfl, s, r, i⟩
  | _, _, .cons s r i t, j + 1, _, e => by simpa using IsT.get t (i := j) (by simpa using e)
end
/-- a key's tuple -/
def keyD1 : D → Option L2.Key
  | .v (.int i) => some (.inl i)
  | .v (.str z) => some (.inr z)
  | _ => none
def keysD : List D → Option TK
  | [] => some []
  | d :: ds => (keyD1 d).bind fun a => (keysD ds).map fun b => a :: b
def keyD : D → Option TK
  | .tup ds => keysD ds
  | _ => none
def dOfK : L2.Key → D
  | .inl i => .v (.int i)
  | .inr z => .v (.str z)
def dOfT (k : TK) : D := .tup (k.map dOfK)
abbrev k2 (x y : Int) : TK := [.inl x, .inl y]
@[simp] theorem keyD_2 {x y : Int} : keyD (.tup [.v (.int x), .v (.int y)]) = some (k2 x y) := rfl
@[simp] theorem dOfT_2 {x y : Int} : dOfT (k2 x y) = .tup [.v (.int x), .v (.int y)] := rfl
theorem is_key1 {K : PySem.W.Frag} {I : Hp} {v : V} {d : D} {k : L2.Key} (h : Is K I v d) (e : keyD1 d = some k) : v = kV k := by
  unfold keyD1 at e
  split at e
  · cases h; cases e; rfl
  · cases h; cases e; rfl
  · cases e
theorem is_keys {K : PySem.W.Frag} {I : Hp} : ∀ {vs : List V} {ds : List D} {k : TK}, IsAll K I vs ds → keysD ds = some k → vs = k.map kV
  | _, _, _, .nil, e => by cases e; rfl
  | _, _, _, .cons (ds := ds) h r, e => by
    unfold keysD at e
    obtain ⟨a, h1, e⟩ := Option.bind_eq_some_iff.mp e
    obtain ⟨b, h2, rfl⟩ := Option.map_eq_some_iff.mp e
    rw [List.map_cons, is_key1 h h1, is_keys r h2]
theorem is_key {K : PySem.W.Frag} {I : Hp} {v : V} {d : D} {k : TK} (h : Is K I v d) (e : keyD d = some k) : ∃ b, v = .ref b ∧ SqN K I b (k.map kV) := by
  unfold keyD at e
  split at e
  · obtain ⟨b, xs, rfl, s, al⟩ := is_tupN h
    rw [is_keys al e] at s
    exact ⟨b, rfl, s⟩
  · cases e
theorem dOfK_is {K : PySem.W.Frag} {I : Hp} : ∀ k : L2.Key, Is K I (kV k) (dOfK k)
  | .inl i => .v _
  | .inr z => .v _
theorem dOfT_all {K : PySem.W.Frag} {I : Hp} : ∀ k : TK, IsAll K I (k.map kV) (k.map dOfK)
  | [] => .nil
  | a :: r => .cons (dOfK_is a) (dOfT_all r)
theorem dOfT_is {K : PySem.W.Frag} {I : Hp} {b : Addr} {k : TK} (s : SqN K I b (k.map kV)) : Is K I (.ref b) (dOfT k) := .tup s (dOfT_all k)
theorem keyD1_of : ∀ k : L2.Key, keyD1 (dOfK k) = some k
  | .inl _ => rfl
  | .inr _ => rfl
@[simp] theorem keyD_of (k : TK) : keyD (dOfT k) = some k := by
  show keysD (k.map dOfK) = some k
  induction k with
  | nil => rfl
  | cons a r ih => rw [List.map_cons]; unfold keysD; rw [keyD1_of, ih]; rfl
/-- at a stands, pinned, a dict with these entries, the tuples of whose keys are read -/
structure DtAt (K : PySem.W.Frag) (g : PGw) (H : Hp) (a : Addr) (o : Obj) (us : DtE) : Prop where
  pin : H a = some (pinO a o)
  sm : (a == sysModules) = false
  ob : DtOb g o us
  ks : ∀ x ∈ us, SqT K H x.2.1 (x.1.map kV)
theorem is_dtAt {K : PySem.W.Frag} {I H : Hp} {v : V} {g : PGw} {gs : List (TK × D)} (e : Same I H) (h : Is K I v (.dt g gs)) : ∃ a o us, v = .ref a ∧ DtAt K g H a o us ∧ IsT K I us gs := by
  obtain ⟨a, o, us, rfl, p, y, ob, r⟩ := is_dt h
  exact ⟨a, o, us, rfl, ⟨e _ _ p, y, ob, fun x hx => Same.seqT e (r.ks x hx).t⟩, r⟩
abbrev gOf (X : Cx) : PGw := ⟨X.prog, X.w⟩
abbrev kndX (X : Cx) := tupleKind (mixKind X.prog X.w)
section
variable {X : Cx} {pins : List (Addr × Obj)} {σ : L2.St} {H : Hp} {s : Shared} {a b : Addr} {o : Obj} {us : DtE} {k : TK}
theorem key_isT (I : L2.Inv X pins σ H s) (h : SqT X.K H b (k.map kV)) : (kndX X).is s.heap k b := by
  obtain ⟨its, rv, ⟨o, ho, hc, n, hd⟩, _⟩ := I.tuple h
  exact ⟨o, its.toArray, n, ho, hc, hd, by simpa using items_are rv⟩
theorem pin_get (I : L2.Inv X pins σ H s) (h : H a = some (pinO a o)) : s.heap.get? a = some o := (I.hok a _ h).1
theorem DtAt.of (I : L2.Inv X pins σ H s) (h : DtAt X.K (gOf X) H a o us) : s.heap.DictOfH (kndX X) a us := by
  obtain ⟨es, ep, h1, h2⟩ := h.ob.dat
  exact ⟨o, es, ep, pin_get I h.pin, h.ob.ex, h1, h2, fun x hx => key_isT I (h.ks x hx), h.ob.nd⟩
theorem DtAt.ty (I : L2.Inv X pins σ H s) (h : DtAt X.K (gOf X) H a o us) : s.TypeIs (.ref a) "dict" ∧ ∀ b, Value.ref a = .ref b → ∃ ob, s.heap.get? b = some ob ∧ ob.dict = none := by
  refine ⟨(h.of I).typeIs, fun b q => ?_⟩
  cases q
  exact ⟨o, pin_get I h.pin, h.ob.ex.2.1⟩
end
end D3
set_option Elab.async false
set_option linter.all false
set_option maxRecDepth 100000
set_option maxHeartbeats 2000000
namespace D3
open PySem PySem.Spec PySem.W PySem.Calls PyProof.Rows L2
def onDt (g : PGw) (d : D) (Q : List (TK × D) → Prop) : Prop := match d with
  | .dt g' gs => g' = g ∧ Q gs
  | _ => False
@[simp] theorem onDt_dt {g g' : PGw} {gs : List (TK × D)} {Q : List (TK × D) → Prop} : onDt g (.dt g' gs) Q = (g' = g ∧ Q gs) := rfl
section
variable {K : PySem.W.Frag} {W : Wd} {Wx : WX} {X : Cx} {a b e f : Expr} {es : List Expr} {ta tb te tf : TE} {da db de df : TDE} {tr : TA} {dr : TDA} {p pos : Pos} {x : Str} {g : PGw}
/-- d[k] -/
def fTIx (g : PGw) : TD2 := fun x y Q => onDt g x fun gs => ∃ k, keyD y = some k ∧ ∃ d, valT gs k = some d ∧ Q d
@[simp] theorem fTIx_dt {g g' : PGw} {gs : List (TK × D)} {y : D} {Q : D → Prop} : fTIx g (.dt g' gs) y Q = (g' = g ∧ ∃ k, keyD y = some k ∧ ∃ d, valT gs k = some d ∧ Q d) := rfl
/-- k in d -/
def fTIn (g : PGw) (neg : Bool) : TD2 := fun y x Q => onDt g x fun gs => ∃ k, keyD y = some k ∧ Q (.bl (neg ^^ (valT gs k).isSome))
@[simp] theorem fTIn_dt {g g' : PGw} {neg : Bool} {gs : List (TK × D)} {y : D} {Q : D → Prop} : fTIn g neg y (.dt g' gs) Q = (g' = g ∧ ∃ k, keyD y = some k ∧ Q (.bl (neg ^^ (valT gs k).isSome))) := rfl
/-- d.get(k, x) -/
@[simp] def tdTGet (g : PGw) (t u v : TDE) : TDE := fun τ Q R => t τ (fun x => onDt g x fun gs => u τ (fun y => v τ (fun z => ∃ k, keyD y = some k ∧ Q ((valT gs k).getD z)) R) R) R
/-- len(d) -/
def fLenT (g : PGw) : FD := fun ds Q => match ds with
  | [d] => onDt g d fun gs => Q (.int (gs.length : Nat))
  | _ => False
@[simp] theorem fLenT_dt {g g' : PGw} {gs : List (TK × D)} {Q : D → Prop} : fLenT g [.dt g' gs] Q = (g' = g ∧ Q (.int (gs.length : Nat))) := rfl
/-- the pinned dict's entries -/
structure Ents (g : PGw) (o : Obj) (us : DtE) (es : Array DictEntry) (ep : Nat) : Prop where
  dat : o.data = .dict es ep
  sz : es.size = us.length
  at_ : ∀ (i : Nat) (k : TK) (b : Addr) (u : Value), us[i]? = some (k, b, u) → ∃ en, es[i]? = some en ∧ en.key = .ref b ∧ en.val = u
theorem DtOb.ents {o : Obj} {us : DtE} (h : DtOb g o us) : ∃ es ep, Ents g o us es ep := by
  obtain ⟨es, ep, h1, h2⟩ := h.dat
  refine ⟨es, ep, h1, size_of_entries h2, fun i k b u e => ?_⟩
  have q := entry_at h2 i
  rw [e] at q
  exact ⟨_, q, rfl, rfl⟩
/-- the keys' tuples -/
def ItTk (d : Addr) (o : Obj) (us : DtE) : It :=
  ⟨fun i H => H d = some (pinO d o) ∧ i < us.length, fun i H x H' => H' = H ∧ ∃ k b u, us[i]? = some (k, b, u) ∧ x = .ref b, fun i H => H d = some (pinO d o) ∧ us.length ≤ i⟩
/-- the pairs, each a new tuple -/
def ItTi (d : Addr) (o : Obj) (us : DtE) : It :=
  ⟨fun i H => H d = some (pinO d o) ∧ i < us.length ∧ ∀ k b u, us[i]? = some (k, b, u) → ∃ v, RelV v u, fun i H x H' => ∃ T k b u v, ∃ ob : Obj, us[i]? = some (k, b, u) ∧ RelV v u ∧ x = .ref T ∧ H T = none ∧ ob.dict = none ∧ H' = upd H T (.frz ob (.tup [.ref b, v])), fun i H => H d = some (pinO d o) ∧ us.length ≤ i⟩
theorem turn_tk {P : Program} {w : World} {tg : Expr} {d it : Addr} {o : Obj} {us : DtE} {es : Array DictEntry} {ep : Nat} (h : Ents g o us es ep) : Turn P w K tg (ItTk d o us) [it] it (fun i h => h.IsKeyIter it d i us.length ep) where
  mem := by simp
  obj := fun i h st b hb => by
    have e : b = it := by simpa using hb
    subst e
    obtain ⟨oi, e, c, dd⟩ := st
    exact ⟨oi, e, fun v z => by rw [dd] at z; cases z⟩
  keep := fun i h h' st k => st.at fun oi e => k it (by simp) oi e
  item := by
    intro X hP hw hK hc i pins s σ H E I hf st hg
    subst hP hw hK
    obtain ⟨hd, hi⟩ := hg
    obtain ⟨f0, f1, f2, f3, f4, f5⟩ := hf it (by simp)
    have hgd := pin_get I hd
    obtain ⟨⟨k, b, u⟩, hkv⟩ : ∃ p, us[i]? = some p := ⟨us[i], List.getElem?_eq_getElem hi⟩
    obtain ⟨en, hen, hkey, _⟩ := h.at_ i k b u hkv
    refine next_key_item st hgd h.dat h.sz hen fun h' st' sb => ?_
    have I1 : L2.Inv X pins σ H { s with heap := h' } := I.turned (t' := s.toks) (fun b ob hb e => (sb.2 b hb).trans e) f0 f1 f3 f4 f5
    obtain ⟨oi, e, c, dd⟩ := id st'
    exact ⟨en.key, rfl, go_of (s := { s with heap := h' }) e c dd (by decide) ⟨.ref b, H, I1, hkey, ⟨rfl, k, b, u, hkv, rfl⟩, st', fun b hb => (hf b hb).1⟩⟩
  done := by
    intro X hP hw hK hc i pins s σ H E I hf st hg
    subst hP hw hK
    obtain ⟨hd, hi⟩ := hg
    obtain ⟨f0, f1, f2, f3, f4, f5⟩ := hf it (by simp)
    exact next_key_end (I.ok.hd hc) st (pin_get I hd) h.dat h.sz hi fun h' eb => ⟨rfl, I.turned (t' := s.toks) (fun b ob hb e => eb b ob hb e) f0 f1 f3 f4 f5⟩
  self := fun A i s Q E st h => by
    refine wpAny_pyIter_slot st.typeIs F.slot_dict_keyiterator_iter (wpAny_call_entry F.slot_dict_keyiterator_iter st.typeIs F.entry_dict_keyiterator_iter ?_ (F.args_dict_keyiterator_iter_1 _))
    show wpAny _ _ (ret (.ref it)) _ _ s
    exact wpAny_pure ⟨_, rfl, "dict_keyiterator", _, st.typeIs, F.slot_dict_keyiterator_next.lookup, h⟩
/-- for .. in d -/
def iTk (K : PySem.W.Frag) (g : PGw) (td : TE) : TI := fun σ H R => td σ H fun x H1 => ∃ a o us, x = .ref a ∧ DtAt K g H1 a o us ∧ R (ItTk a o us) H1
theorem pi_tk {tg : Expr} (he : PE X e te) : PI X tg e (iTk X.K (gOf X) te) := by
  refine ⟨fun pins s σ H R I h => ?_⟩
  refine thn (he.run pins s σ H _ I h) fun u s1 ⟨x, H1, I1, rx, a, o, us, ex, d, q⟩ => ?_
  subst ex
  obtain rfl : u = Value.ref a := rx
  obtain ⟨es, ep, h⟩ := d.ob.ents
  refine iter_keys d.sm (pin_get I1 d.pin) d.ob.ex h.dat (pi_one (tk := s1.toks) I1 _ (turn_tk h) ⟨_, Heap.get?_push_size _ rfl, rfl, ?_⟩ q)
  rw [h.sz] <;> rfl
def pairsT (gs : List (TK × D)) : List D := gs.map fun g => .tup [dOfT g.1, g.2]
def keysT (gs : List (TK × D)) : List D := gs.map fun g => dOfT g.1
@[simp] theorem pairsT_len {gs : List (TK × D)} : (pairsT gs).length = gs.length := by simp [pairsT]
@[simp] theorem keysT_len {gs : List (TK × D)} : (keysT gs).length = gs.length := by simp [keysT]
theorem Walks.tk {I : Hp} {a : Addr} {o : Obj} {us : DtE} {gs : List (TK × D)} (h : I a = some (pinO a o)) (r : IsT K I us gs) : D3.Walks K W (ItTk a o us) I (keysT gs) := fun i I2 H2 e ok => by
  refine ⟨fun hi => ?_, fun hi => ⟨W.ex ok _ _ (e _ _ h), by rw [r.len]; simpa using hi⟩⟩
  have hi' : i < gs.length := by simpa using hi
  refine ⟨⟨W.ex ok _ _ (e _ _ h), by rw [r.len]; exact hi'⟩, fun x H3 y => ?_⟩
  obtain ⟨rfl, k, b, u, e1, rfl⟩ := y
  obtain ⟨b', u', v, e2, sk, rv, iv⟩ := r.get (List.getElem?_eq_getElem hi')
  rw [e1] at e2
  cases e2
  exact ⟨I2, _, by unfold keysT; rw [List.getElem?_map, List.getElem?_eq_getElem hi']; rfl, Later.refl ok, dOfT_is (Same.seqN e sk)⟩
theorem Walks.ti {I : Hp} {a : Addr} {o : Obj} {us : DtE} {gs : List (TK × D)} (h : I a = some (pinO a o)) (r : IsT K I us gs) : D3.Walks K W (ItTi a o us) I (pairsT gs) := fun i I2 H2 e ok => by
  refine ⟨fun hi => ?_, fun hi => ⟨W.ex ok _ _ (e _ _ h), by rw [r.len]; simpa using hi⟩⟩
  have hi' : i < gs.length := by simpa using hi
  obtain ⟨b', u', v', e2, sk, rv, iv⟩ := r.get (List.getElem?_eq_getElem hi')
  refine ⟨⟨W.ex ok _ _ (e _ _ h), by rw [r.len]; exact hi', fun k b u e1 => by rw [e1] at e2; cases e2; exact ⟨_, rv⟩⟩, fun x H3 y => ?_⟩
  obtain ⟨T, k, b, u, v, ob, e1, rv2, rfl, hT, hd, rfl⟩ := y
  rw [e1] at e2
  cases e2
  have ev := rv.inj rv2
  subst ev
  have sm : Same I2 (upd I2 T (.frz ob (.tup [.ref b', v']))) := Same.new (Same.non (W.ex ok) hT)
  exact ⟨_, _, by unfold pairsT; rw [List.getElem?_map, List.getElem?_eq_getElem hi']; rfl, Later.alloc ok hT, .tup (SqN.of upd_same hd) (.cons (dOfT_is (Same.seqN (e.trans sm) sk)) (.cons (iv.mono (e.trans sm)) .nil))⟩
@[simp] def idTk (g : PGw) (t : TDE) : TDI := fun τ Q R => t τ (fun d => onDt g d fun gs => Q (keysT gs)) R
@[simp] def idTi (g : PGw) (t : TDE) : TDI := fun τ Q R => t τ (fun d => onDt g d fun gs => Q (pairsT gs)) R
theorem di_tk (g : PGw) {tg : Expr} (h : DE X K W Wx e te de) (hg : gOf X = g := by rfl) : DI X K W Wx tg e (iTk K g te) (idTk g de) := by
  have hk := h.k; subst hk hg
  exact ⟨rfl, pi_tk h.pe, fun I H σ τ Q R G ok rp t hq hx => h.sim I H σ τ _ R _ ok rp t (fun v d I1 H1 q1 i1 l1 => by
    unfold onDt at q1
    split at q1
    · obtain ⟨rfl, q1⟩ := q1
      obtain ⟨a, o, us, rfl, p, y, ob, r⟩ := is_dt i1
      exact ⟨a, o, us, rfl, ⟨W.ex l1.ok _ _ p, y, ob, fun x hx => Same.seqT (W.ex l1.ok) (r.ks x hx).t⟩, hq _ _ I1 H1 q1 (Walks.tk p r) l1⟩
    · exact q1.elim) hx⟩
end
end D3
set_option Elab.async false
set_option linter.all false
set_option maxRecDepth 100000
set_option maxHeartbeats 4000000
namespace D3
open PySem PySem.Spec PySem.W PySem.Calls PyProof.Rows L2
abbrev dict0 : Obj := { cls := .type "dict", data := .dict #[] }
theorem dtOb_nil {g : PGw} : DtOb g dict0 [] := ⟨⟨rfl, rfl, rfl⟩, ⟨#[], 0, rfl, rfl⟩, List.nodup_nil, Nat.zero_le _⟩
theorem pinOk {P : Program} {w : World} {H : Hp} {h : Heap} {a : Addr} {o : Obj} (e : h.get? a = some o) : ObjOk P w H h a (pinO a o) := ⟨e, ⟨o, e⟩, fun _ _ q k => k _ q⟩
section
variable {X : Cx} {pins : List (Addr × Obj)} {σ : L2.St} {H : Hp} {s : Shared} {a b D : Addr} {o : Obj} {us : DtE} {k : TK} {z : V} {r : Value}
/-- what stands behind a store -/
theorem store_pin {h' : Heap} {t' : Nat} (I : L2.Inv X pins σ H s) (d : DtAt X.K (gOf X) H D o us) (hl : us.length < sizeLine) (dd : h'.DictOfH (kndX X) D (storedH us k b r)) (hs : Heap.SameBut D s.heap h') : ∃ o', DtOb (gOf X) o' (storedH us k b r) ∧ L2.Inv X pins σ (upd H D (pinO D o')) { s with heap := h', toks := t' } := by
  obtain ⟨q, es, ep, hq, h2, h3, h4, _, h5⟩ := dd
  have len : (storedH us k b r).length ≤ sizeLine := by
    unfold storedH
    split
    · rw [List.length_map]; exact d.ob.sz
    · rw [List.length_append]; exact hl
  exact ⟨q, ⟨h2, ⟨es, ep, h3, h4⟩, h5, len⟩, d_write I (by rw [d.pin]; exact True.intro) hs ⟨q, hq⟩ (pinOk hq)⟩
/-- the entry by a comprehension -/
theorem t_dictSet {E : Value → Shared → Prop} {Q : Unit → Shared → Prop} (hu : X.A.units + 1 < cLine) (I : L2.Inv X pins σ H s) (d : DtAt X.K (gOf X) H D o us) (hl : us.length < sizeLine) (sk : SqT X.K H b (k.map kV))
    (h : ∀ o' s', DtOb (gOf X) o' (storedH us k b r) → L2.Inv X pins σ (upd H D (pinO D o')) s' → Q () s') : wpAny (model X.prog X.w) X.A (dictSet D (.ref b) r) Q E s := by
  refine wpAny_dictSet_heap (hsz := Nat.le_of_lt hl) (show (kndX X).room X.A from (by show X.A.units < cLine; omega)) (key_isT I sk) (d.of I) fun h' dd' hs => ?_
  obtain ⟨o', ob, J⟩ := store_pin (t' := s.toks + (kndX X).draws k) I d hl dd' hs
  exact h o' _ ob J
/-- {k: v for target in iter if ..}: D the new dict -/
def tTc (K : PySem.W.Frag) (g : PGw) (wi : TI) (G : TG) (tt : TT) (tk tv : TE) (vs : List Nat) : TE := fun σ H Q => wi σ H fun J H1 => ∀ D, H1 D = none → (D == sysModules) = false → ∃ W : Nat → Nat → Hp → Prop, (∃ m, W 0 m (upd H1 D (pinO D dict0))) ∧ ∀ i m H, W i m H →
  (J.stop i H ∧ Q (.ref D) H) ∨ (J.go i H ∧ ∃ Nx : Hp → Prop, (∀ H', Nx H' → ∃ m', m' < m ∧ W (i + 1) m' H') ∧ ∀ x H', J.yld i H x H' → G x (wipe σ vs) H' fun σ2 H2 => wipe σ2 vs = wipe σ vs ∧ tt σ2 H2 fun b H3 =>
    if b = true then tk σ2 H3 fun y H4 => tv σ2 H4 fun z H5 => ∃ o us k b, y = .ref b ∧ DtAt K g H5 D o us ∧ SqT K H5 b (k.map kV) ∧ us.length < sizeLine ∧ ∀ o' u, RelV z u → DtOb g o' (storedH us k b u) → Nx (upd H5 D (pinO D o')) else Nx H3)
theorem tc_core {pins : List (Addr × Obj)} {s : Shared} {σ : L2.St} {H : Hp} {Q : VK} {use : Option (Value → Sem Unit)} {Qf : Value → Shared → Prop} {pos' : Pos} {kx vx tg iter : Expr} {ifs : List Expr} {scope : Scope} {own : List (Str × Nat)} {pos : Pos} {wi : TI} {G : TG} {tt : TT} {tk tv : TE} (hu : X.A.units + 1 < cLine) (hc : X.calm = true) (hN : X.N.Nodup) (I : L2.Inv X pins σ H s) (hi : PI X tg iter wi) (ok : BlkOk X.N X.env.scope scope own)
    (hg : ∀ (s : Shared) (H : Hp) (C : Addr) (cl : List (Str × Addr)) (fp : List Addr), PG (X.blk s H scope (compEnvC scope cl C X.env) fp) tg G)
    (ht : ∀ (s : Shared) (H : Hp) (C : Addr) (cl : List (Str × Addr)) (fp : List Addr), PTs (X.blk s H scope (compEnvC scope cl C X.env) fp) ifs tt)
    (hk : ∀ (s : Shared) (H : Hp) (C : Addr) (cl : List (Str × Addr)) (fp : List Addr), PE (X.blk s H scope (compEnvC scope cl C X.env) fp) kx tk)
    (he : ∀ (s : Shared) (H : Hp) (C : Addr) (cl : List (Str × Addr)) (fp : List Addr), PE (X.blk s H scope (compEnvC scope cl C X.env) fp) vx tv) (hs : ∀ x, foldedSetIterable iter X.env x = pure x)
    (h : tTc X.K (gOf X) wi G tt tk tv (own.map (·.2)) σ H Q)
    (hRR : ∀ D C s' m H', L2.Inv X pins σ H' s' → Q (.ref D) H' → s'.heap.Ns C m → FpOk X pins H' C → compPost (model X.prog X.w) X.A X.xe use Qf (.ref D) C (.ok .next) s') :
    wpAny (model X.prog X.w) X.A (comprehension (.DictComp kx vx [⟨tg, iter, ifs, 0⟩] scope pos) scope X.env pos' newDict false (eval iter X.env) use) Qf X.xe s := by
  have hfree : ∀ y ∈ scope.names, y.2 = .free → ∃ c, X.env.cells.lookup y.1 = some c := fun y hy e => (ok.free y hy e).elim (fun k => I.ok.has _ (.inl k)) fun k => I.ok.has _ (.inr k)
  refine wpAny_comprehension_free (use := use) rfl hs (closure_ok hfree) ok.kind (fun y hy e => by rw [ok.uniq y hy, e]) (thn (hi.run pins s σ H _ I h) fun xv s1 hx => thn hx fun itv s2 h2 => ?_)
  obtain ⟨it, fp, tn, J, H2, e, I2, T, st2, f2, q⟩ := h2
  subst e
  refine wpAny_newObj_type (newEnv_comp ?_)
  generalize hD : s2.heap.objs.size = D
  have hDn : H2 D = none := I2.hok.fresh (Nat.le_of_eq hD)
  have hsys : (D == sysModules) = false := by
    rw [← hD]
    exact beq_eq_false_iff_ne.mpr (Ne.symm (Nat.ne_of_lt I2.big))
  obtain ⟨W, ⟨m0, w0⟩, turn⟩ := q D hDn hsys
  generalize hs3 : ({ s2 with heap := s2.heap.push dict0 } : Shared) = s3
  have h3 : s3.heap = s2.heap.push dict0 := by rw [← hs3]
  have I3 : L2.Inv X pins σ (upd H2 D (pinO D dict0)) s3 := by
    rw [← hs3, ← hD]
    exact I2.laid (t' := s2.toks) (fun b o e => Heap.get?_push_of_some _ e) (Nat.le_refl _) (pinOk (Heap.get?_push_size _ rfl))
  have sz : ∀ b ∈ fp, b < s2.heap.objs.size := fun b hb => let ⟨o, e, _⟩ := T.obj _ _ st2 b hb; Heap.lt_size e
  have f3 : ∀ b ∈ fp, FpOk X pins (upd H2 D (pinO D dict0)) b ∧ b < s3.heap.objs.size := fun b hb => by
    have hlt := sz b hb
    refine ⟨⟨?_, (f2 b hb).2⟩, by rw [h3, Heap.size_push]; exact Nat.lt_succ_of_lt hlt⟩
    rw [upd_ne (by rw [← hD]; exact Nat.ne_of_lt hlt)]
    exact (f2 b hb).1
  have st3 : tn 0 s3.heap := T.keep _ _ _ st2 fun b _ o e => by rw [h3]; exact Heap.get?_push_of_some _ e
  have I4 := block_start I3 ok hN f3
  generalize hcl : cellsFrom (s3.heap.objs.size + 1) scope.names (cloFrom X.env.cells scope.names []) = cl at I4 ⊢
  have pg := hg s3 (upd H2 D (pinO D dict0)) s3.heap.objs.size cl fp
  have pt := ht s3 (upd H2 D (pinO D dict0)) s3.heap.objs.size cl fp
  have pk := hk s3 (upd H2 D (pinO D dict0)) s3.heap.objs.size cl fp
  have pe := he s3 (upd H2 D (pinO D dict0)) s3.heap.objs.size cl fp
  show codeAny _ _ (.compStart (.DictComp kx vx [⟨tg, iter, ifs, 0⟩] scope pos) 0 (.ref it) (.ref D) (compEnvC scope cl s3.heap.objs.size X.env)) (compPost (model X.prog X.w) X.A X.xe use Qf (.ref D) s3.heap.objs.size) { s3 with heap := pushCells (s3.heap.push dict0) scope.names }
  have nfp : ∀ b ∈ fp, (upd H2 D (pinO D dict0)) b = none := fun b hb => (f3 b hb).1.1
  generalize hce : compEnvC scope cl s3.heap.objs.size X.env = ce at I4 pg pt pk pe ⊢
  have cL : ce.locals = s3.heap.objs.size := by subst hce; rfl
  generalize hH3 : upd H2 D (pinO D dict0) = H3 at I3 I4 pg pt pk pe w0 nfp f3
  generalize hs4 : ({ s3 with heap := pushCells (s3.heap.push dict0) scope.names } : Shared) = s4 at I4 ⊢
  have st4 : tn 0 s4.heap := T.keep _ _ _ st3 fun b _ o e => by rw [← hs4]; exact pushCells_keeps _ _ _ _ (Heap.get?_push_of_some _ e)
  have stat : ∀ {σ' : L2.St} {H' : Hp} {s' : Shared}, L2.Inv (X.blk s3 H3 scope ce fp) [] σ' H' s' → (∀ b ∈ fp, H' b = none) → ∀ b ∈ fp, FpOk (X.blk s3 H3 scope ce fp) [] H' b := fun {σ' H' s'} I' hn b hb =>
    ⟨hn b hb, (I'.ok.exf b hb).1, I'.ok.exfs b hb, .inl hb, fun x c e => (I'.ok.exf b hb).2 x c e, fun p hp => absurd (show p ∈ ([] : List (Addr × Obj)) ++ [] from hp) (by simp)⟩
  have loop : codeAny (model X.prog X.w) X.A (.compLoop (.DictComp kx vx [⟨tg, iter, ifs, 0⟩] scope pos) 0 (.ref it) (.ref D) ce) (compPost (model X.prog X.w) X.A X.xe use Qf (.ref D) s3.heap.objs.size) s4 := by
    refine compLoop_anyD (fun n s' => ∃ i H', L2.Inv (X.blk s3 H3 scope ce fp) [] (wipe σ (own.map (·.2))) H' s' ∧ tn i s'.heap ∧ (∀ b ∈ fp, H' b = none) ∧ W i n H') ?_ m0 ⟨0, H3, I4, st4, nfp, w0⟩
    rintro n s5 ⟨i, H5, I5, st5, n5, w5⟩
    rcases turn i n H5 w5 with ⟨stop, qq⟩ | ⟨go, Nx, hNx, step⟩
    · refine thnF (T.done (X.blk s3 H3 scope ce fp) rfl rfl rfl hc i [] s5 _ H5 (fun _ _ => False) I5 (stat I5 n5) st5 stop) fun r s6 ⟨hr, I6⟩ => ?_
      subst hr
      have I7 : L2.Inv X pins σ H5 s6 := I3.call' (ch := fp) I6.os I6.base I6.hok I6.bare fun b hb => ⟨(f3 b hb).1.2.2.2.1, (f3 b hb).1.2.1, (f3 b hb).1.2.2.2.2.1, (f3 b hb).1.2.2.2.2.2⟩
      have nC : H5 s3.heap.objs.size = none := by
        have z : H5 ce.locals = none := I6.free
        rwa [cL] at z
      obtain ⟨m, hn, _⟩ := I6.loc
      have hn : s6.heap.Ns ce.locals m := hn
      rw [cL] at hn
      exact hRR D _ s6 m H5 I7 qq hn (I3.fpOk (Nat.le_refl _) nC)
    · refine thnF (T.item (X.blk s3 H3 scope ce fp) rfl rfl rfl hc i [] s5 _ H5 (fun _ _ => False) I5 (stat I5 n5) st5 go) fun r s6 ⟨u, hr, h6⟩ => ?_
      subst hr
      refine thnF h6 fun _ s7 ⟨x, H7, I7, r7, y7, st7, n7⟩ => ?_
      refine thnF (pg.run _ s7 _ H7 x u _ (I7.pinned (stat I7 n7) (T.obj _ _ st7)) r7 (step x H7 y7)) fun _ s8 ⟨σ8, H8, I8, hw8, q8⟩ => ?_
      refine thnF (pt.run _ s8 σ8 H8 _ I8 q8) fun b s9 ⟨H9, I9, q9⟩ => ?_
      have fin : ∀ {s' : Shared} {H' : Hp}, L2.Inv (X.blk s3 H3 scope ce fp) ([] ++ pinsAt fp s7.heap) σ8 H' s' → Nx H' → ∃ m, m < n ∧ ∃ i H', L2.Inv (X.blk s3 H3 scope ce fp) [] (wipe σ (own.map (·.2))) H' s' ∧ tn i s'.heap ∧ (∀ b ∈ fp, H' b = none) ∧ W i m H' := fun {s' H'} I' nx => by
        obtain ⟨m', hm, w'⟩ := hNx H' nx
        have pin' : ∀ b ∈ fp, ∀ o, s7.heap.get? b = some o → s'.heap.get? b = some o ∧ H' b = none := fun b hb o e =>
          let z := I'.pin (b, o) (List.mem_append_right _ (List.mem_append_right _ (mem_pinsAt hb e)))
          ⟨z.1, z.2.1⟩
        have hl : (wipe σ (own.map (·.2))).length = σ8.length := by rw [← hw8, wipe_length]
        refine ⟨m', hm, i + 1, H', (I'.unpinned (pins := [])).weak hl (fun j v e => ?_), T.keep _ _ _ st7 fun b hb o e => (pin' b hb o e).1, fun b hb => ?_, w'⟩
        · rw [← hw8] at e
          exact (wipe_some e).1
        · obtain ⟨o, e, _⟩ := T.obj _ _ st7 b hb
          exact (pin' b hb o e).2
      cases b with
      | false =>
        simp only [Bool.false_eq_true, if_false] at q9 ⊢
        exact fin I9 q9
      | true =>
        simp only [if_true] at q9 ⊢
        refine thnF (pk.run _ s9 σ8 H9 _ I9 q9) fun z s10 ⟨yk, H10, I10, r10, q10⟩ => ?_
        refine thnF (pe.run _ s10 σ8 H10 _ I10 q10) fun z2 s11 ⟨yv, H11, I11, r11, o, us, k, b, ek, d11, sk, hz11, nx⟩ => ?_
        subst ek
        obtain rfl : z = Value.ref b := r10
        exact t_dictSet (X := X.blk s3 H3 scope ce fp) hu I11 d11 hz11 sk fun o' s12 ob I12 => fin I12 (nx o' z2 r11 ob)
  exact codeAny_compStart_dict loop (T.self X.A 0 _ _ _ st4 loop)
theorem pe_tc {kx vx tg iter : Expr} {ifs : List Expr} {scope : Scope} {own : List (Str × Nat)} {pos : Pos} {wi : TI} {G : TG} {tt : TT} {tk tv : TE} (hu : X.A.units + 1 < cLine) (hc : X.calm = true) (hN : X.N.Nodup) (hi : PI X tg iter wi) (ok : BlkOk X.N X.env.scope scope own)
    (hg : ∀ (s : Shared) (H : Hp) (C : Addr) (cl : List (Str × Addr)) (fp : List Addr), PG (X.blk s H scope (compEnvC scope cl C X.env) fp) tg G)
    (ht : ∀ (s : Shared) (H : Hp) (C : Addr) (cl : List (Str × Addr)) (fp : List Addr), PTs (X.blk s H scope (compEnvC scope cl C X.env) fp) ifs tt)
    (hk : ∀ (s : Shared) (H : Hp) (C : Addr) (cl : List (Str × Addr)) (fp : List Addr), PE (X.blk s H scope (compEnvC scope cl C X.env) fp) kx tk)
    (he : ∀ (s : Shared) (H : Hp) (C : Addr) (cl : List (Str × Addr)) (fp : List Addr), PE (X.blk s H scope (compEnvC scope cl C X.env) fp) vx tv) (hs : ∀ x, foldedSetIterable iter X.env x = pure x := by intro _; rfl) :
    PE X (.DictComp kx vx [⟨tg, iter, ifs, 0⟩] scope pos) (tTc X.K (gOf X) wi G tt tk tv (own.map (·.2))) := by
  refine ⟨fun pins s σ H Q I h => ?_⟩
  rw [arm_eval_DictComp]
  refine tc_core hu hc hN I hi ok hg ht hk he hs h fun D C s' m H' I' q hn f => ⟨m, hn, fun h'' sb => ?_⟩
  obtain ⟨g0, g1, g2, g3, g4, g5⟩ := f
  exact ⟨.ref D, H', I'.turned (t' := s'.toks) (fun b o hb e => (sb.2 b hb).trans e) g0 g1 g3 g4 g5, rfl, q⟩
end
end D3
set_option Elab.async false
set_option linter.all false
set_option maxRecDepth 100000
set_option maxHeartbeats 4000000
namespace D3
open PySem PySem.Spec PySem.W PySem.Calls PyProof.Rows L2
/-- the entries that a comprehension makes -/
def compT (g : TDG) (tt : TDT) (tk tv : TDE) (vs : List Nat) (τ : Tau) : List D → List (TK × D) → (List (TK × D) → Prop) → Prop
  | [], acc, Q => Q acc
  | d :: ds, acc, Q => g d (wipeT τ vs) fun τ2 => tt τ2 (fun b => if b = true then tk τ2 (fun y => tv τ2 (fun z => ∃ k, keyD y = some k ∧ compT g tt tk tv vs τ ds (putT acc k z) Q) (fun _ => False)) (fun _ => False) else compT g tt tk tv vs τ ds acc Q) (fun _ => False)
@[simp] def tdTc (g : PGw) (ti : TDI) (G : TDG) (tt : TDT) (tk tv : TDE) (vs : List Nat) : TDX := fun τ Q R => ti τ (fun ds => ds.length ≤ sizeLine ∧ compT G tt tk tv vs τ ds [] fun gs => Q (.dt g gs)) R
theorem putT_len {α : Type} (gs : List (TK × α)) (k : TK) (d : α) : (putT gs k d).length ≤ gs.length + 1 := by
  unfold putT
  split
  · rw [List.length_map]; omega
  · rw [List.length_append]; simp
section
variable {K : PySem.W.Frag} {W : Wd} {Wx : WX} {X : Cx} {g : PGw}
theorem SimX.tc {wi : TI} {ti : TDI} {G : TG} {gd : TDG} {idx : List Nat} {tt : TT} {td : TDT} {tk tv : TE} {dk dv : TDE} {vs : List Nat} (hi : SimI K W Wx wi ti) (hg : SimG K W G gd idx) (ht : SimT K W (fun _ _ _ _ => False) tt td) (hk : SimE K W (fun _ _ _ _ => False) tk dk) (he : SimE K W (fun _ _ _ _ => False) tv dv)
    (hv : ∀ i ∈ idx, i ∈ vs) : SimX K W Wx (tTc K g wi G tt tk tv vs) (tdTc g ti gd td dk dv vs) := fun I H σ τ Q R GG ok rp t hq hx =>
  hi I H σ τ _ R _ ok rp t (fun J ds I1 H1 q1 wk l1 LL hD hsys => by
    have hD0 : H LL = none := Later.back l1 hD
    have fD : W.free LL := W.fr l1.ok hD
    have put : ∀ {I3 H3 : Hp} {o : HO}, Later W I H I3 H3 → I3 LL = none → Later W I H I3 (upd H3 LL o) := fun {I3 H3 o} l n =>
      ⟨l.ex, W.mu l.ok n fD, fun a o f m e => by
        have : a ≠ LL := fun z => by rw [z, hD0] at e; cases e
        rw [upd_ne this]; exact l.fr a o f m e, l.nw, l.ow⟩
    refine ⟨fun i m H2 => ∃ (I2 : Hp) (ob : Obj) (us : DtE) (acc : List (TK × D)), m = ds.length - i ∧ i ≤ ds.length ∧ Later W I H I2 H2 ∧ Same I1 I2 ∧ H2 LL = some (pinO LL ob) ∧ I2 LL = none ∧ DtOb g ob us ∧ IsT K I2 us acc ∧ acc.length ≤ i ∧
      compT gd td dk dv vs τ (ds.drop i) acc (fun gs => Q (.dt g gs)), ⟨ds.length, I1, dict0, [], [], by simp, Nat.zero_le _, put l1 (Same.non (W.ex l1.ok) hD), Same.refl _, upd_same, Same.non (W.ex l1.ok) hD, dtOb_nil, .nil, Nat.le_refl _, q1.2⟩, ?_⟩
    rintro i m H2 ⟨I2, ob, us, acc, rfl, hil, l2, e2, hacc, hI, hob, al, hy, c⟩
    obtain ⟨w1, w2⟩ := wk i I2 H2 e2 l2.ok
    by_cases hlt : i < ds.length
    · obtain ⟨go, yl⟩ := w1 hlt
      refine .inr ⟨go, fun H3 => ∃ (I3 : Hp) (ob : Obj) (us : DtE) (acc : List (TK × D)), Later W I H I3 H3 ∧ Same I1 I3 ∧ H3 LL = some (pinO LL ob) ∧ I3 LL = none ∧ DtOb g ob us ∧ IsT K I3 us acc ∧ acc.length ≤ i + 1 ∧ compT gd td dk dv vs τ (ds.drop (i + 1)) acc (fun gs => Q (.dt g gs)), ?_, ?_⟩
      · rintro H3 ⟨I3, ob, us, acc, h1, h2, h3, h4, h5, h6, h7, h8⟩
        exact ⟨ds.length - (i + 1), by omega, I3, ob, us, acc, rfl, hlt, h1, h2, h3, h4, h5, h6, h7, h8⟩
      · intro x H3 y
        obtain ⟨I3, d, hd, l3, ix⟩ := yl x H3 y
        have hdrop : ds.drop i = d :: ds.drop (i + 1) := by
          obtain ⟨h1, h2⟩ := List.getElem?_eq_some_iff.mp hd
          rw [← h2]; exact List.drop_eq_getElem_cons h1
        rw [hdrop] at c
        have keepD : ∀ {I4 H4 : Hp}, Later W I2 H2 I4 H4 → H4 LL = some (pinO LL ob) ∧ I4 LL = none := fun {I4 H4} l => l.keepN hacc fD hI
        refine hg I3 H3 (wipe σ vs) (wipeT τ vs) x d _ _ l3.ok ((rp.later (l2.trans l3)).wipe vs) ix c fun σ2 τ2 q2 rp2 _ wz => ⟨(wz vs hv).trans (wipe_wipe σ vs), ?_⟩
        refine ht I3 H3 σ2 τ2 _ _ _ l3.ok rp2 q2 (fun b I4 H4 q4 l4 => ?_) xok_false
        cases b with
        | true =>
          rw [if_pos rfl] at q4 ⊢
          refine hk I4 H4 σ2 τ2 _ _ _ l4.ok (rp2.later l4) q4 (fun vk dy I5 H5 q5 i5 l5 => ?_) xok_false
          refine he I5 H5 σ2 τ2 _ _ _ l5.ok ((rp2.later l4).later l5) q5 (fun vv dz I6 H6 q6 i6 l6 => ?_) xok_false
          obtain ⟨k, ek, q6⟩ := q6
          have l26 := ((l3.trans l4).trans l5).trans l6
          obtain ⟨k1, k2⟩ := keepD l26
          obtain ⟨b, rfl, sk⟩ := is_key (i5.mono l6.ex) ek
          have sm6 := W.ex l26.ok
          have al6 := IsT.mono l26.ex al
          have hlen : us.length < sizeLine := by
            have := al.len
            have := q1.1
            omega
          refine ⟨ob, us, k, b, rfl, ⟨k1, hsys, hob, fun x hx => Same.seqT sm6 (al6.ks x hx).t⟩, Same.seqT sm6 sk.t, hlen, fun o' u ru ob' => ⟨I6, o', _, putT acc k dz, put (l2.trans l26) k2, e2.trans l26.ex, upd_same, k2, ob', al6.put sk ru i6, ?_, q6⟩⟩
          have := putT_len acc k dz
          omega
        | false =>
          rw [if_neg Bool.false_ne_true] at q4 ⊢
          have l24 := l3.trans l4
          obtain ⟨k1, k2⟩ := keepD l24
          exact ⟨I4, ob, us, acc, l2.trans l24, e2.trans l24.ex, k1, k2, hob, IsT.mono l24.ex al, by omega, q4⟩
    · have e : i = ds.length := by omega
      subst e
      refine .inl ⟨w2 (Nat.le_refl _), ?_⟩
      rw [List.drop_length] at c
      exact hq (.ref LL) (.dt g acc) I2 H2 c ⟨LL, ob, us, rfl, hacc, hI, fD, hsys, hob, al⟩ (fun a o => by cases o; exact hD0) l2) hx
theorem dx_tc (g : PGw) {kx vx tg iter : Expr} {ifs : List Expr} {scope : Scope} {own : List (Str × Nat)} {pos : Pos} {wi : TI} {ti : TDI} {G : TG} {gd : TDG} {idx : List Nat} {tt : TT} {td : TDT} {tk tv : TE} {dk dv : TDE} (hu : X.A.units + 64 < cLine) (hc : X.calm = true) (hN : X.N.Nodup) (hi : DI X K W Wx tg iter wi ti) (ok : BlkOk X.N X.env.scope scope own)
    (hg : ∀ (s : Shared) (H : Hp) (C : Addr) (cl : List (Str × Addr)) (fp : List Addr), DG (X.blk s H scope (compEnvC scope cl C X.env) fp) K W tg G gd idx) (ht : ∀ (s : Shared) (H : Hp) (C : Addr) (cl : List (Str × Addr)) (fp : List Addr), DTs (X.blk s H scope (compEnvC scope cl C X.env) fp) K W ifs tt td)
    (hk : ∀ (s : Shared) (H : Hp) (C : Addr) (cl : List (Str × Addr)) (fp : List Addr), DE (X.blk s H scope (compEnvC scope cl C X.env) fp) K W (fun _ _ _ _ => False) kx tk dk)
    (he : ∀ (s : Shared) (H : Hp) (C : Addr) (cl : List (Str × Addr)) (fp : List Addr), DE (X.blk s H scope (compEnvC scope cl C X.env) fp) K W (fun _ _ _ _ => False) vx tv dv) (hv : ∀ i ∈ idx, i ∈ own.map (·.2) := by decide) (hs : ∀ x, foldedSetIterable iter X.env x = pure x := by intro _; rfl) (hgg : gOf X = g := by rfl) :
    DX X K W Wx (.DictComp kx vx [⟨tg, iter, ifs, 0⟩] scope pos) (tTc K g wi G tt tk tv (own.map (·.2))) (tdTc g ti gd td dk dv (own.map (·.2))) := by
  have hkk := hi.k; subst hkk hgg
  exact ⟨rfl, pe_tc (by omega) hc hN hi.pi ok (fun s H C cl fp => (hg s H C cl fp).pg) (fun s H C cl fp => (ht s H C cl fp).pt) (fun s H C cl fp => (hk s H C cl fp).pe) (fun s H C cl fp => (he s H C cl fp).pe) hs,
    .tc hi.sim (hg { heap := { objs := #[] } } (fun _ => none) 0 [] []).sim (ht { heap := { objs := #[] } } (fun _ => none) 0 [] []).sim (hk { heap := { objs := #[] } } (fun _ => none) 0 [] []).sim (he { heap := { objs := #[] } } (fun _ => none) 0 [] []).sim hv⟩
/-- {} -/
def tNewT : TE := fun _ H Q => ∀ p, H p = none → (p == sysModules) = false → Q (.ref p) (upd H p (pinO p dict0))
theorem pe_newT {pos : Pos} : PE X (.Dict [] [] pos) tNewT := ⟨fun pins s σ H Q I h =>
  wpAny_Dict_empty ⟨.ref s.heap.objs.size, _, I.laid (t' := s.toks) (fun _ _ q => Heap.get?_push_of_some _ q) (Nat.le_refl _) (pinOk (Heap.get?_push_size _ rfl)), rfl, h _ (I.hok.fresh (Nat.le_refl _)) (beq_eq_false_iff_ne.mpr (Ne.symm (Nat.ne_of_lt I.big)))⟩⟩
theorem dx_newT (g : PGw) {pos : Pos} (hk : X.K = K := by rfl) : DX X K W Wx (.Dict [] [] pos) tNewT (fun _ Q _ => Q (.dt g [])) := by
  subst hk
  exact ⟨rfl, pe_newT, fun I H σ τ Q R G ok rp t hq hx p hp hs => hq _ _ I _ t ⟨p, dict0, [], rfl, upd_same, Same.non (W.ex ok) hp, W.fr ok hp, hs, dtOb_nil, .nil⟩ (fun a o => by cases o; exact hp) (Later.allocO ok hp)⟩
/-- .. in a slot -/
@[simp] def tdTput (g : PGw) (i : Nat) (u v : TDE) : TDS := fun τ E => ∃ gs, τ[i]? = some (some (.dt g gs)) ∧ v τ (fun z => u τ (fun y => ∃ k, keyD y = some k ∧ gs.length < sizeLine ∧ E.nx (τ.set i (some (.dt g (putT gs k z))))) (fun x => E.ex x τ)) (fun x => E.ex x τ)
end
end D3
set_option Elab.async false
set_option linter.all false
set_option maxRecDepth 100000
set_option maxHeartbeats 4000000
namespace D3
open PySem PySem.Spec PySem.W PySem.Calls PyProof.Rows L2
/-- texts and data as pairs -/
def kvD (ks : List Str) (ds : List D) : List (L2.Key × D) := List.zipWith (fun k d => (.inr k, d)) ks ds
@[simp] theorem kvD_nil {ds : List D} : kvD [] ds = [] := rfl
@[simp] theorem kvD_nil' {ks : List Str} : kvD ks [] = [] := by cases ks <;> rfl
@[simp] theorem kvD_cons {k : Str} {ks : List Str} {d : D} {ds : List D} : kvD (k :: ks) (d :: ds) = (.inr k, d) :: kvD ks ds := rfl
def mergeD (gs more : List (L2.Key × D)) : List (L2.Key × D) := more.foldl (fun acc kv => putKD acc kv.1 kv.2) gs
@[simp] theorem mergeD_nil {gs : List (L2.Key × D)} : mergeD gs [] = gs := rfl
@[simp] theorem mergeD_cons {gs more : List (L2.Key × D)} {k : L2.Key} {d : D} : mergeD gs ((k, d) :: more) = mergeD (putKD gs k d) more := rfl
section
variable {K : PySem.W.Frag} {W : Wd} {Wx : WX} {X : Cx} {g : PGw} {pos : Pos}
@[simp] def tdPn : TDA := fun _ Q _ => Q []
@[simp] def tdPc (t : TDE) (u : TDA) : TDA := fun τ Q R => t τ (fun d => u τ (fun ds => Q (d :: ds)) R) R
/-- {k: v, ..} -/
@[simp] def tdDisp (ks : List Str) (t : TDA) : TDX := fun τ Q R => t τ (fun ds => ks.Nodup ∧ ks.length ≤ 15 ∧ Q (.dk (kvD ks ds))) R
/-- x = {.., k: {}} -/
@[simp] def tdDispW (g : PGw) (ks : List Str) (kc : Str) (t : TDA) : TDX := fun τ Q R => t τ (fun ds => (ks ++ [kc]).Nodup ∧ ks.length < 15 ∧ ∀ q, Q (.wd q (kvD ks ds) (.inr kc) [] g [])) R
theorem IsKv.none_ {I : Hp} {k : L2.Key} : ∀ {vs : List (L2.Key × V)} {gs : List (L2.Key × D)}, IsKv K I vs gs → valD gs k = none → valV vs k = none
  | _, _, .nil, _ => rfl
  | _, _, .cons (k := k') q r, e => by
    unfold valD at e
    rw [List.find?_cons] at e
    by_cases h : k' = k
    · subst h
      rw [decide_eq_true rfl] at e
      cases e
    · rw [decide_eq_false h] at e
      exact (valV_neg h).trans (IsKv.none_ r e)
/-- x["cells"][k] = v -/
@[simp] def tdWput (g : PGw) (i : Nat) (kc : Str) (u v : TDE) : TDS := fun τ E => ∃ q pre post gs, τ[i]? = some (some (.wd q pre (.inr kc) post g gs)) ∧ valD pre (.inr kc) = none ∧ v τ (fun z => u τ (fun y => ∃ k, keyD y = some k ∧ gs.length < sizeLine ∧ E.nx (τ.set i (some (.wd q pre (.inr kc) post g (putT gs k z))))) (fun x => E.ex x τ)) (fun x => E.ex x τ)
/-- the dict within is data from now on -/
def meltS : SD → SD
  | .wd _ pre k post g gs => .dk (pre ++ (k, .dt g gs) :: post)
  | s => s
@[simp] theorem meltS_wd {q : Addr} {pre post : List (L2.Key × D)} {k : L2.Key} {gs : List (TK × D)} : meltS (.wd q pre k post g gs) = .dk (pre ++ (k, .dt g gs) :: post) := rfl
@[simp] theorem meltS_dk {gs : List (L2.Key × D)} : meltS (.dk gs) = .dk gs := rfl
@[simp] def tdMelt (i : Nat) (t : TDS) : TDS := fun τ E => ∃ s, τ[i]? = some (some s) ∧ t (τ.set i (some (meltS s))) E
/-- x[k] = v, by texts -/
@[simp] def tdKput (i : Nat) (u v : TDE) : TDS := fun τ E => ∃ gs, τ[i]? = some (some (.dk gs)) ∧ v τ (fun z => u τ (fun y => onStr y fun kz => gs.length < sizeLine ∧ E.nx (τ.set i (some (.dk (putKD gs (.inr kz) z))))) (fun x => E.ex x τ)) (fun x => E.ex x τ)
@[simp] def tdKupd (i : Nat) (u : TDX) : TDS := fun τ E => ∃ gs, τ[i]? = some (some (.dk gs)) ∧ u τ (fun s => ∃ hs, s = .dk hs ∧ gs.length + hs.length ≤ sizeLine ∧ E.nx (τ.set i (some (.dk (mergeD gs hs))))) (fun x => E.ex x τ)
end
end D3
set_option Elab.async false
set_option linter.all false
set_option maxRecDepth 100000
set_option maxHeartbeats 4000000
namespace D3
open PySem PySem.Spec PySem.W PySem.Calls PyProof.Rows L2
section
variable {P : Program} {w : World} {A : Around} {E : Value → Shared → Prop} {s : Shared} {a b : Addr} {us ws : DtE}
abbrev kT (P : Program) (w : World) := tupleKind (mixKind P w)
/-- which of a's entries stand in b alike -/
theorem pairs_alike {nm : String} {r : Bool} {Q : Bool → Shared → Prop} (hr : (kT P w).room A) (ha : (a == sysModules) = false) (hb : (b == sysModules) = false) (da : s.heap.DictOfH (kT P w) a us) (db : s.heap.DictOfH (kT P w) b ws)
    (hits : us.length = ws.length → KeqHits A s (pairsH ws) (pairsH us) r) (h : Q (us.length == ws.length && r) s) : wpAny (model P w) A (Builtin.Dict.samePairs nm a b) Q E s := by
  obtain ⟨oa, es, ep, hoa, _, hda, hea, hia, hna⟩ := da
  obtain ⟨ob, fs, ep', hob, _, hdb, heb, hib, hnb⟩ := db
  have la : us.length = es.size := (size_of_entries hea).symm
  have lb : ws.length = fs.size := (size_of_entries heb).symm
  rw [la, lb] at h
  unfold Builtin.Dict.samePairs Builtin.Dict.showsAll
  rw [if_neg (by rw [ha]; exact Bool.false_ne_true), if_neg (by rw [hb]; exact Bool.false_ne_true)]
  refine wpAny_bind (wpAny_pure (wpAny_bind (wpAny_pure (wpAny_bind (wpAny_dictEntries hoa hda ?_)))))
  dsimp only
  refine wpAny_bind (wpAny_dictEntries hob hdb ?_)
  by_cases hsz : es.size = fs.size
  case neg =>
    have z : (es.size == fs.size) = false := by simpa using hsz
    rw [if_pos (by simpa using hsz)]
    rw [z, Bool.false_and] at h
    exact wpAny_bind (wpAny_rule (wpAny_pure h))
  case pos =>
    have h' : Q r s := by simpa [hsz] using h
    have hits' := hits (by rw [la, lb]; exact hsz)
    rw [if_neg (by rw [hsz]; simp)]
    refine wpAny_bind (wpAny_dictEpoch hoa hda (wpAny_bind ?_))
    rw [Std.Legacy.Range.forIn_eq_forIn_range']
    simp only [Std.Legacy.Range.size, Nat.sub_zero, Nat.add_sub_cancel, Nat.div_one]
    refine wpAny_forIn_list _ (fun rest q t => t = s ∧ q = (none, ()) ∧ ∃ i, rest = List.range' i (es.size - i) ∧ i ≤ es.size ∧ KeqHits A s (pairsH ws) ((pairsH us).drop i) r) _ ?_ ?_ _ _ ⟨rfl, rfl, 0, by simp, Nat.zero_le _, hits'⟩
    · rintro x rest q t ⟨rfl, rfl, i, hrest, hi, hh⟩
      have lt : i < es.size := by
        rcases Nat.lt_or_ge i es.size with l | l
        · exact l
        · rw [Nat.sub_eq_zero_of_le l] at hrest; simp at hrest
      obtain ⟨rfl, hrest⟩ : x = i ∧ rest = List.range' (i + 1) (es.size - (i + 1)) := by
        have e : es.size - i = (es.size - (i + 1)) + 1 := by omega
        rw [e, List.range'_succ] at hrest
        injection hrest with h1 h2
        exact ⟨h1, h2⟩
      refine wpAny_bind (wpAny_dictEntries hoa hda ?_)
      rw [Array.getElem?_eq_getElem lt]
      have lu : x < us.length := by rw [la]; exact lt
      obtain ⟨k, c, v, eu⟩ : ∃ k c v, us[x] = (k, c, v) := ⟨_, _, _, rfl⟩
      have ent : es[x] = entryOfKey (kT P w) (k, c, v) := by
        have q := entry_at hea x
        rw [List.getElem?_eq_getElem lu, eu, Array.getElem?_eq_getElem lt] at q
        exact Option.some.inj q
      have isk : (kT P w).is t.heap k c := hia (k, c, v) (by rw [← eu]; exact List.getElem_mem lu)
      have dr : (pairsH us).drop x = (k, v) :: (pairsH us).drop (x + 1) := by
        have l2 : x < (pairsH us).length := by rw [pairsH_length]; exact lu
        rw [List.drop_eq_getElem_cons l2]
        have : (pairsH us)[x] = (k, v) := by simp [pairsH, eu]
        rw [this]
      rw [dr] at hh
      rw [ent]
      show wpAny _ _ (holding [Value.ref c, v] _ >>= _) _ _ _
      refine wpAny_bind (wpAny_holding (wpAny_bind ?_))
      show wpAny _ _ (dictFind b (.ref c) ((kT P w).hash k)) _ _ _
      refine wpAny_dictFind_heap hr isk hob hdb heb hib hnb (fun none_ => ?_) fun j p hj => ?_
      · have hn : valueAt (pairsH ws) k = none := by
          rw [valueAt_pairsH, atKey_none_of_get none_]; rfl
        rcases hh.inv with ⟨_, er⟩ | ⟨y, _, _, hy, _⟩
        · rw [er] at h'
          refine wpAny_pure ?_
          show wpAny _ _ (if (!false) = true then _ else _) _ _ _
          rw [if_pos (by decide)]
          exact wpAny_pure (wpAny_pure h')
        · rw [hn] at hy; exact nomatch hy
      · have hv : valueAt (pairsH ws) k = some p.2 := by
          rw [valueAt_pairsH, atKey_of_get hnb hj]; rfl
        have fj : fs[j]? = some (entryOfKey (kT P w) (k, p)) := by
          have q := entry_at heb j
          rw [hj] at q
          exact q
        refine wpAny_bind (wpAny_dictEntries hob hdb ?_)
        rw [fj]
        rcases hh.inv with ⟨hn, _⟩ | ⟨y, e, b', hy, he, hrr, er⟩
        · rw [hv] at hn; exact nomatch hn
        · rw [hv] at hy
          cases hy
          refine wpAny_holding (he P w _ _ ?_)
          cases e with
          | false =>
            rw [er, Bool.false_and] at h'
            show wpAny _ _ (if (!false) = true then _ else _) _ _ _
            rw [if_pos (by decide)]
            exact wpAny_pure (wpAny_pure h')
          | true =>
            rw [Bool.true_and] at er
            rw [← er] at hrr
            show wpAny _ _ (if (!true) = true then _ else _) _ _ _
            rw [if_neg (by decide)]
            refine wpAny_bind (wpAny_dictEpoch hoa hda ?_)
            rw [if_neg (by simp)]
            exact wpAny_pure ⟨rfl, rfl, x + 1, hrest, lt, hrr⟩
    · rintro q t ⟨rfl, rfl, i, hrest, hi, hh⟩
      have ie : i = es.size := by
        rcases Nat.lt_or_ge i es.size with l | l
        · have e : es.size - i = (es.size - (i + 1)) + 1 := by omega
          rw [e, List.range'_succ] at hrest; exact nomatch hrest
        · exact Nat.le_antisymm hi l
      refine wpAny_pure ?_
      rw [ie, ← la, ← pairsH_length us, List.drop_length] at hh
      cases hh
      exact h'
theorem eq_alike {r : Bool} {Q : Value → Shared → Prop} (hu : A.units + 1 < cLine) (ha : (a == sysModules) = false) (hb : (b == sysModules) = false) (da : s.heap.DictOfH (kT P w) a us) (db : s.heap.DictOfH (kT P w) b ws)
    (hits : us.length = ws.length → KeqHits A.in1 s (pairsH ws) (pairsH us) r) (h : Q (.bool (us.length == ws.length && r)) s) : wpAny (model P w) A (compareOp .Eq (.ref a) (.ref b)) Q E s := by
  refine wpAny_richCompare_same_room (op := .Eq) da.typeIs db.typeIs PySem.F.slot_dict_eq (wpAny_call_entry PySem.F.slot_dict_eq da.typeIs PySem.F.entry_dict_eq ?_ (PySem.F.args_dict_eq_2 _ _)) (by omega)
  show wpAny _ _ (Builtin.Dict.dictSlotArgs "__eq__" ⟨[.ref a, .ref b], []⟩ >>= _) _ _ s
  refine wpAny_bind ?_
  unfold Builtin.Dict.dictSlotArgs
  refine wpAny_bind (wpAny_notOrdered_dict da.typeIs ?_)
  show wpAny _ _ (pure (Value.ref a, Value.ref b)) _ _ s
  refine wpAny_pure (wpAny_bind (wpAny_isInstance (T := "dict") db.typeIs PySem.F.sub_dict_dict ?_))
  simp only [Bool.not_true, Bool.false_eq_true, if_false]
  refine wpAny_bind (wpAny_pure (wpAny_bind (wpAny_pure (wpAny_bind (pairs_alike (tupleKind_room_in1 hu) ha hb da db hits (wpAny_pure ⟨_, rfl, (fun x => nomatch x), ?_⟩))))))
  simpa using h
end
section
variable {K : PySem.W.Frag} {W : Wd} {Wx : WX} {X : Cx} {g : PGw} {pos : Pos} {a b e : Expr} {ta tb te : TE} {da db de : TDE}
/-- the same keys with the same texts -/
def eqT (as bs : List (TK × Str)) : Bool := as.length == bs.length && as.all fun p => decide (valT bs p.1 = some p.2)
/-- texts by tuples, as data -/
def laidD (as : List (TK × Str)) : List (TK × D) := as.map fun p => (p.1, .str p.2)
theorem valT_laid {as : List (TK × Str)} {k : TK} : valT (laidD as) k = (valT as k).map D.str := by
  induction as with
  | nil => rfl
  | cons p r ih =>
    show valT ((p.1, D.str p.2) :: laidD r) k = _
    rw [valT_cons, valT_cons]
    by_cases h : p.1 = k
    · rw [if_pos h, if_pos h]; rfl
    · rw [if_neg h, if_neg h]; exact ih
theorem IsT.texts {I : Hp} : ∀ {us : DtE} {as : List (TK × Str)}, IsT K I us (laidD as) → ∀ k, (∀ z, valT as k = some z → ∃ t, valueAt (pairsH us) k = some (.str z t)) ∧ (valT as k = none → valueAt (pairsH us) k = none) := fun {us as} h k => by
  refine ⟨fun z e => ?_, fun e => ?_⟩
  · obtain ⟨p, v, e1, e2, e3⟩ := h.some_ (k := k) (d := .str z) (by rw [valT_laid, e]; rfl)
    cases e3
    obtain ⟨t, e2⟩ := e2
    exact ⟨t, by rw [valueAt_pairsH, e1, Option.map_some, e2]⟩
  · rw [valueAt_pairsH, h.none_ (k := k) (by rw [valT_laid, e]; rfl)]; rfl
theorem hits_texts {I : Hp} {A : Around} {s : Shared} {ws : DtE} {bs : List (TK × Str)} (hb : IsT K I ws (laidD bs)) : ∀ {us : DtE} {as : List (TK × Str)}, IsT K I us (laidD as) → KeqHits A s (pairsH ws) (pairsH us) (as.all fun p => decide (valT bs p.1 = some p.2))
  | _, [], h => by cases h; exact .nil
  | _, (k, z) :: as, h => by
    cases h with
    | cons s1 r1 i1 t1 =>
      rename_i b u v us
      have i1 : Is K I v (.v (.str z)) := i1
      cases i1
      obtain ⟨t, rfl⟩ := r1
      have ih := hits_texts hb t1 (A := A) (s := s)
      obtain ⟨f1, f2⟩ := hb.texts k
      rw [List.all_cons]
      show KeqHits A s (pairsH ws) ((k, Value.str z t) :: pairsH us) _
      cases e : valT bs k with
      | none =>
        have f3 := f2 e
        simp only [reduceCtorEq, decide_false, Bool.false_and]
        exact .miss f3
      | some y =>
        obtain ⟨t', q⟩ := f1 y e
        have d : (decide (some y = some z)) = PyData.eqv (.str z) (.str y) := by
          simp only [Option.some.injEq]
          by_cases h : y = z
          · subst h; simp [PyData.eqv]
          · have : ¬ z = y := fun z => h z.symm
            simp [PyData.eqv, h, this]
        rw [d]
        refine .hit q ?_ ih
        exact SeqAt.EqAt.str_str z t y t'
def rTEq (K : PySem.W.Frag) (g : PGw) : R2 := fun x y H Q => ∃ J a o us as b o' ws bs, x = .ref a ∧ y = .ref b ∧ DtAt K g H a o us ∧ DtAt K g H b o' ws ∧ IsT K J us (laidD as) ∧ IsT K J ws (laidD bs) ∧ Q (.bl (eqT as bs)) H
theorem op_teq (hu : X.A.units + 1 < cLine) : OpR X (compareOp .Eq) (rTEq X.K (gOf X)) := by
  intro pins s σ H x y v u Q I rx ry h
  obtain ⟨J, a, o, us, as, b, o', ws, bs, rfl, rfl, d1, d2, t1, t2, q⟩ := h
  cases rx
  cases ry
  refine eq_alike hu d1.sm d2.sm (d1.of I) (d2.of I) (fun _ => hits_texts t2 t1) ⟨.bl (eqT as bs), H, I, ?_, q⟩
  have e1 : us.length = as.length := by have := t1.len; simpa [laidD] using this
  have e2 : ws.length = bs.length := by have := t2.len; simpa [laidD] using this
  show Value.bool _ = Value.bool _
  rw [e1, e2]; rfl
/-- d == d2, of texts -/
def fTEq (g : PGw) : TD2 := fun x y Q => onDt g x fun gs => onDt g y fun hs => ∃ as bs, gs = laidD as ∧ hs = laidD bs ∧ Q (.bl (eqT as bs))
@[simp] theorem fTEq_dt {g g' g'' : PGw} {gs hs : List (TK × D)} {Q : D → Prop} : fTEq g (.dt g' gs) (.dt g'' hs) Q = (g' = g ∧ g'' = g ∧ ∃ as bs, gs = laidD as ∧ hs = laidD bs ∧ Q (.bl (eqT as bs))) := rfl
theorem R2Sim.teq : R2Sim K W (rTEq K g) (fTEq g) := fun I H x y dx dy Q G ok hx hy q hq => by
  unfold fTEq onDt at q
  split at q
  · obtain ⟨rfl, q⟩ := q
    split at q
    · obtain ⟨rfl, as, bs, rfl, rfl, q⟩ := q
      obtain ⟨a, o, us, rfl, a1, r1⟩ := is_dtAt (W.ex ok) hx
      obtain ⟨b, o', ws, rfl, a2, r2⟩ := is_dtAt (W.ex ok) hy
      exact ⟨I, a, o, us, as, b, o', ws, bs, rfl, rfl, a1, a2, r1, r2, hq _ _ I H q (.v _) (Later.refl ok)⟩
    · exact q.elim
  · exact q.elim
theorem dt_tEq (g : PGw) (hu : X.A.units + 64 < cLine) (ha : DE X K W Wx a ta da) (hb : DE X K W Wx b tb db) (hg : gOf X = g := by rfl) : DT X K W Wx (.Compare a [.Eq] [b] pos) (tTest (tOp (rTEq K g) ta tb)) (tdTest (tdOp (fTEq g) da db)) := by
  have hk := ha.k; subst hk hg
  exact dt_cmp (op_teq (by omega)) .teq ha hb (nobehind _ (by decide) (by decide))
end
end D3
set_option Elab.async false
set_option linter.all false
set_option maxRecDepth 100000
set_option maxHeartbeats 2000000
namespace D3
open PySem L2
mutual
def noLst : D → Bool
  | .v _ => true
  | .tup ds => noLsts ds
  | .ins _ fs => noLstF fs
  | .dic gs => noLstK gs
  | .dt _ gs => noLstT gs
  | .lst _ => false
  | .exc _ _ _ => false
  | .lent _ _ _ => false
def noLsts : List D → Bool
  | [] => true
  | d :: ds => noLst d && noLsts ds
def noLstF : List (Str × D) → Bool
  | [] => true
  | (_, d) :: ds => noLst d && noLstF ds
def noLstK : List (L2.Key × D) → Bool
  | [] => true
  | (_, d) :: ds => noLst d && noLstK ds
def noLstT : List (List L2.Key × D) → Bool
  | [] => true
  | (_, d) :: ds => noLst d && noLstT ds
end
@[simp] theorem noLst_v {x : V} : noLst (.v x) = true := by simp [noLst]
@[simp] theorem noLst_tup {ds : List D} : noLst (.tup ds) = noLsts ds := by simp [noLst]
@[simp] theorem noLst_ins {C : Addr} {fs : List (Str × D)} : noLst (.ins C fs) = noLstF fs := by simp [noLst]
@[simp] theorem noLst_dt {g : PGw} {fs : List (List L2.Key × D)} : noLst (.dt g fs) = noLstT fs := by simp [noLst]
@[simp] theorem noLsts_nil : noLsts [] = true := by simp [noLsts]
@[simp] theorem noLsts_cons {d : D} {ds : List D} : noLsts (d :: ds) = (noLst d && noLsts ds) := by simp [noLsts]
@[simp] theorem noLstF_nil : noLstF [] = true := by simp [noLstF]
@[simp] theorem noLstF_cons {k : Str} {d : D} {ds : List (Str × D)} : noLstF ((k, d) :: ds) = (noLst d && noLstF ds) := by simp [noLstF]
/-- J has all of I but lists -/
def ButL (I J : Hp) : Prop := ∀ a o, I a = some o → J a = some o ∨ ∃ xs, o = .lst xs
section
variable {K : PySem.W.Frag} {I J : Hp}
theorem SqN.but {a : Addr} {xs : List V} (e : ButL I J) (h : SqN K I a xs) : SqN K J a xs := by
  rcases h with ⟨o, h, d⟩ | h
  · rcases e a _ h with z | ⟨_, z⟩
    · exact .inl ⟨o, z, d⟩
    · cases z
  · exact .inr h
mutual
theorem Is.but (e : ButL I J) : ∀ {v : V} {d : D}, Is K I v d → noLst d = true → Is K J v d
  | _, _, .v x, _ => .v x
  | _, _, .lst h r, n => absurd n (by simp [noLst])
  | _, _, .tup h r, n => .tup (SqN.but e h) (IsAll.but e r (by simpa [noLst] using n))
  | _, _, .ins h r, n => .ins ((e _ _ h).resolve_right fun ⟨_, z⟩ => by cases z) (IsFs.but e r (by simpa [noLst] using n))
  | _, _, .dic h r, n => .dic ((e _ _ h).resolve_right fun ⟨_, z⟩ => by cases z) (IsKv.but e r (by simpa [noLst] using n))
  | _, _, .exc0, n => absurd n (by simp [noLst])
  | _, _, .exc1 _ _, n => absurd n (by simp [noLst])
  | _, _, .lent _, n => absurd n (by simp [noLst])
  | _, _, .dt h y o r, n => .dt ((e _ _ h).resolve_right fun ⟨_, z⟩ => by cases z) y o (IsT.but e r (by simpa [noLst] using n))
termination_by structural _ _ h => h
theorem IsAll.but (e : ButL I J) : ∀ {v : List V} {d : List D}, IsAll K I v d → noLsts d = true → IsAll K J v d
  | _, _, .nil, _ => .nil
  | _, _, .cons h r, n => .cons (Is.but e h (by simp [noLsts] at n; exact n.1)) (IsAll.but e r (by simp [noLsts] at n; exact n.2))
termination_by structural _ _ h => h
theorem IsFs.but (e : ButL I J) : ∀ {v : List (Str × V)} {d : List (Str × D)}, IsFs K I v d → noLstF d = true → IsFs K J v d
  | _, _, .nil, _ => .nil
  | _, _, .cons h r, n => .cons (Is.but e h (by simp [noLstF] at n; exact n.1)) (IsFs.but e r (by simp [noLstF] at n; exact n.2))
termination_by structural _ _ h => h
theorem IsKv.but (e : ButL I J) : ∀ {v : List (L2.Key × V)} {d : List (L2.Key × D)}, IsKv K I v d → noLstK d = true → IsKv K J v d
  | _, _, .nil, _ => .nil
  | _, _, .cons h r, n => .cons (Is.but e h (by simp [noLstK] at n; exact n.1)) (IsKv.but e r (by simp [noLstK] at n; exact n.2))
termination_by structural _ _ h => h
theorem IsT.but (e : ButL I J) : ∀ {v : List (List L2.Key × Addr × Value)} {d : List (List L2.Key × D)}, IsT K I v d → noLstT d = true → IsT K J v d
  | _, _, .nil, _ => .nil
  | _, _, .cons h q r t, n => .cons (SqN.but e h) q (Is.but e r (by simp [noLstT] at n; exact n.1)) (IsT.but e t (by simp [noLstT] at n; exact n.2))
termination_by structural _ _ h => h
end
end
/-- no other things of one's own than lists -/
def onlyL1 : Option SD → Bool
  | none => true
  | some (.dat _) => true
  | some (.own _) => true
  | _ => false
@[simp] theorem onlyL1_none : onlyL1 none = true := rfl
@[simp] theorem onlyL1_dat {d : D} : onlyL1 (some (.dat d)) = true := rfl
@[simp] theorem onlyL1_own {d : List D} : onlyL1 (some (.own d)) = true := rfl
section
variable {K : PySem.W.Frag} {W : Wd} {Wx : WX} {X : Cx} {e : Expr} {te : TE} {de : TDE} {pos : Pos}
@[simp] def tdSetN (t : TDE) (i : Nat) : TDS := fun τ E => τ.all onlyL1 = true ∧ t (frz τ) (fun d => noLst d = true ∧ E.nx (τ.set i (some (.dat d)))) (fun x => E.ex x (frz τ))
/-- .. a new list of one's own, made while the others stand still -/
@[simp] def tdSetON (t : TDO) (i : Nat) : TDS := fun τ E => τ.all onlyL1 = true ∧ t (frz τ) (fun ds => noLsts ds = true ∧ E.nx (τ.set i (some (.own ds)))) (fun x => E.ex x (frz τ))
open Classical in
theorem SimS.setON {i : Nat} {dO : TDO} (h : SimO K W Wx te dO) : SimS K W Wx (tAsg te (gName i)) (tdSetON dO i) := fun I H σ τ E D ok rp t r => by
  obtain ⟨I1, e, ok1, rp1, nw⟩ := rp.frz ok
  obtain ⟨ol, t⟩ := t
  refine h I1 H σ (frz τ) _ _ _ ok1 rp1 t (fun p vs ds I2 H2 q2 hp hp1 hi al l2 => ?_) (r.xokF rp1 e ok1 nw)
  obtain ⟨nl, q2⟩ := q2
  have own_lst : ∀ a, Own σ τ a → ∃ xs, H a = some (.lst xs) := fun a ⟨j, s, v, e1, e2, o⟩ => by
    have z := List.all_eq_true.mp ol (some s) (List.mem_of_getElem? e1)
    obtain ⟨w, f1, f2⟩ := rp.at_ j s e1
    rw [e2] at f1
    cases f1
    cases s with
    | dat d => exact o.elim
    | own ds =>
      obtain ⟨p, vs, e3, hp, _⟩ := f2
      subst e3
      cases o
      exact ⟨vs, hp⟩
    | _ => simp [onlyL1] at z
  let J : Hp := fun a => if Own σ τ a then none else I2 a
  have sIJ : Same I J := fun a o f => by
    have : ¬ Own σ τ a := fun z => by rw [(rp.owned z).1] at f; cases f
    show (if Own σ τ a then none else I2 a) = some o
    rw [if_neg this]
    exact l2.ex a o (e a o f)
  have sJ2 : Same J I2 := fun a o f => by
    have f : (if Own σ τ a then none else I2 a) = some o := f
    by_cases z : Own σ τ a
    · rw [if_pos z] at f; cases f
    · rw [if_neg z] at f; exact f
  have but : ButL I2 J := fun a o f => by
    by_cases z : Own σ τ a
    · obtain ⟨xs, hx⟩ := own_lst a z
      obtain ⟨_, hf, _⟩ := rp.owned z
      have h2 := l2.fr a _ hf (fun z => z) hx
      have := W.ex l2.ok a o f
      rw [h2] at this
      cases this
      exact .inr ⟨xs, rfl⟩
    · exact .inl (by show (if Own σ τ a then none else I2 a) = some o; rw [if_neg z]; exact f)
  have okJ : W.ok J H2 := W.anti l2.ok sJ2
  have la : Lat W (Own σ τ) I H (Own σ τ) J H2 := ⟨sIJ, okJ, fun a o f _ q => l2.fr a o f (fun z => z) q, fun a n q => by
    have q : (if Own σ τ a then none else I2 a) ≠ none := q
    by_cases z : Own σ τ a
    · exact .inr z
    · rw [if_neg z] at q
      by_cases h1 : I1 a = none
      · exact (l2.nw a h1 q).elim .inl fun z => z.elim
      · exact .inr (nw a n h1), fun a o => ⟨rp.free a o, .inr o⟩⟩
  have rp2 : Rep K W J H2 σ τ := ⟨rp.len, fun j s f => by
    obtain ⟨w, h1, h2⟩ := rp.at_ j s f
    refine ⟨w, h1, h2.keep sIJ (fun a o => ?_) fun a o => ?_⟩
    · show (if Own σ τ a then none else I2 a) = none
      rw [if_pos ⟨j, s, w, f, h1, o⟩]
    · obtain ⟨_, hf, u, hp⟩ := h2.owned o
      rw [hp]
      exact l2.fr a _ hf (fun z => z) hp, rp.inj⟩
  have hJ : J p = none := by
    show (if Own σ τ p then none else I2 p) = none
    split
    · rfl
    · exact hi
  refine r.nx _ _ J H2 q2 (rp2.set_own (not_own_new rp hp) hp1 hJ (W.fr ok hp) (IsAll.but but al nl)) ⟨la.1, la.2, la.3, la.4, fun a o => ?_⟩
  rcases o.set_own with rfl | o
  · exact ⟨W.fr ok hp, .inl hp⟩
  · exact ⟨rp.free a o, .inr o⟩
theorem ds_setON {i : Nat} {x : Str} {pos' : Pos} {dO : TDO} (hN : X.N.Nodup) (h : DO X K W Wx e te dO) (hi : X.N[i]? = some x := by rfl) (hx : Loc X.env.scope x := by first | exact Or.inl rfl | exact Or.inr rfl) (hs : swapsWith e (some (.Name x pos')) pos.line X.env = pure false := by rfl)
    (hf : X.fn x = true ∨ X.env.scope.names.lookup x = some .local := by first | exact .inl rfl | exact .inr rfl | assumption) : DS X K W Wx (.Assign [.Name x pos'] e pos) (tAsg te (gName i)) (tdSetON dO i) := by
  have hk := h.k; subst hk
  exact ⟨rfl, ps_set hN hi hx h.pe hs hf, .setON h.sim⟩
end
end D3
set_option Elab.async false
set_option linter.all false
set_option maxRecDepth 100000
set_option maxHeartbeats 2000000
namespace D3
open PySem PySem.Spec PyProof.Rows L2
structure HasKw (K : PySem.W.Frag) (mg : Str → Option Value) (x : Str) (st : Stmt) (ps : List Str) (n : Nat) (kw : Str) (dv : V) (f : Addr) (fd : FuncData) : Prop where
  F : Fun K x x st f fd
  g : mg x = some (.ref f)
  b1 : ∀ (s : Shared) (us : List Value) (w : Value), K.In s.heap → us.length = n → BindsTo s fd ⟨us, [(kw, w)]⟩ (ps.zip (us ++ [w]))
  b0 : ∃ u, RelV dv u ∧ ∀ (s : Shared) (us : List Value), K.In s.heap → us.length = n → BindsTo s fd ⟨us, []⟩ (ps.zip (us ++ [u]))
theorem HasKw.k {K : PySem.W.Frag} {mg : Str → Option Value} {x : Str} {st : Stmt} {ps : List Str} {n : Nat} {kw : Str} {dv : V} {f : Addr} {fd : FuncData} (h : HasKw K mg x st ps n kw dv f fd) : PySem.W.keepIn K (.ref f) = true := h.F.kp
theorem hasKw_mk {K : PySem.W.Frag} {h : Heap} {mg : Str → Option Value} {x kw : Str} {st : Stmt} {ps : List Str} {n : Nat} {dv : V} {f D : Addr} {oc u : Value} {od an : Option Addr} {osl : Array (Option Value)} {doc pm cdv ct : Value} (X : K.In h) (G : h.Ns mainGlobals mg)
    (a : PySem.W.nsIn K mainGlobals x = some (some (.ref f))) (l : K.lookup f = some ⟨oc, od, .func (PySem.W.fnOf x x (defArgs st) (defBody st) (defScope st) .none (.ref D) doc pm an cdv ct), osl⟩) (c : PySem.W.codeIn K cdv x = true) (k : PySem.W.keepIn K (.ref f) = true)
    (d : PySem.W.nsIn K D kw = some (some u)) (r : RelV dv u)
    (h1 : ∀ (us : List Value) (w : Value), us.length = n → bindArgs (PySem.W.fnOf x x (defArgs st) (defBody st) (defScope st) .none (.ref D) doc pm an cdv ct) ⟨us, [(kw, w)]⟩ = pure (ps.zip (us ++ [w])))
    (h0 : ∀ (us : List Value), us.length = n → KwChain D [(kw, u)] (bindArgs (PySem.W.fnOf x x (defArgs st) (defBody st) (defScope st) .none (.ref D) doc pm an cdv ct) ⟨us, []⟩) (ps.zip (us ++ [u]))) :
    HasKw K mg x st ps n kw dv f (PySem.W.fnOf x x (defArgs st) (defBody st) (defScope st) .none (.ref D) doc pm an cdv ct) :=
  ⟨fun_mk l c k, PySem.W.mg_of X G a, fun s us w _ hl => .of_eq (h1 us w hl), u, r, fun s us Y hl => BindsTo.of_looks fun M => KwChain.looks Y (fun q hq => by cases List.mem_singleton.mp hq; exact d) (h0 us hl)⟩
section
variable {K : PySem.W.Frag} {W : Wd} {Wx : WX} {X : Cx} {e v : Expr} {es : List Expr} {tv : TE} {dv' : TDE} {tr : TA} {dr : TDA} {p pos kp : Pos} {x kw : Str} {C : CXT} {k n m : Nat} {f : Addr} {fd : FuncData} {ps : List Str} {st : Stmt} {sp : Sp} {E : L2.St → XK} {t : TA} {dv : V}
def tCallKw (n : Nat) (sp : Sp) (E : L2.St → XK) (t tk : TA) : TE := fun σ H Q => t σ H fun vs H1 => tk σ H1 fun zs H2 => ∃ z, zs = [z] ∧ vs.length = n ∧ sp (vs ++ [z]) H2 Q (E σ)
theorem pe_callKw (F : FnG X.prog X.w X.K X.mg X.base C k f fd ps sp) (hr : RoomG k X.A) (T : HasKw X.K X.mg x st ps n kw dv f fd) (hx : ∀ σ, PassesAt C X σ (E σ)) (ha : PA X (e :: es) t) (hv : PE X v tv) (hg : Gl X x := by rfl)
    (hdb : (x == ("__debug__" : Str)) = false := by decide) (he : starEach (e :: es) X.env = (false, eval e X.env) :: starEach es X.env := by rfl)
    (hpl : ((backTo pos (starEach (e :: es) X.env)).any (·.1) || (backToKw pos (keywordEach [⟨some kw, v, kp⟩] X.env)).any (·.1.isNone)) = false := by rfl)
    (hall : (backToKw pos (keywordEach [⟨some kw, v, kp⟩] X.env)).all (·.1.isSome) = true := by rfl) (hks : (backToKw pos (keywordEach [⟨some kw, v, kp⟩] X.env)).filterMap (·.1) = [kw] := by rfl) :
    PE X (.Call (.Name x p) (e :: es) [⟨some kw, v, kp⟩] pos) (tCallKw n sp E t (tCons tv tNil)) := by
  refine ⟨fun pins s σ H Q I h => ?_⟩
  refine wpAny_Call_Name_kw (ld_glob I hg T.g ?_ hdb)
  refine PySem.W.callWith_KW (h₀ := X.base) I.ok.mod.kin T.k hall (thn (ha.run pos pins s σ H _ I h) fun us s1 ⟨vs, H1, I1, r, q⟩ => ?_) hpl he
  refine thn ((pk_cons (nm := some kw) (kpos := kp) hv pk_nil).run pos pins s1 σ H1 _ I1 q) fun ws s2 ⟨zs, H2, I2, rz, z, ez, hn, q2⟩ => ⟨I2.kIn, ?_⟩
  subst ez
  cases rz with
  | cons rz rn =>
    cases rn
    rw [hks]
    refine wpAny_call (codeAny_mono (F.run X.A X.stack s2 H2 ⟨us, [(kw, _)]⟩ _ (vs ++ [z]) Q (E σ) hr I2.env0 (T.b1 s2 us _ I2.kIn (r.length.symm.trans hn)) (r.append (.cons rz .nil)) q2) fun r z hz => ?_)
    match r, hz with
    | .error e, hz => exact hx σ pins H2 s2 e z I2 hz
    | .ok (.ret u), hz => exact I2.after hz
end
section
variable {K : PySem.W.Frag} {W : Wd} {Wx : WX} {X : Cx} {e v : Expr} {es : List Expr} {tv : TE} {de : TDE} {tr : TA} {dr : TDA} {p pos kp : Pos} {x kw : Str} {C : CXT} {k n m : Nat} {f : Addr} {fd : FuncData} {ps : List Str} {st : Stmt} {t : TF} {dv : V}
@[simp] def tdCallKw (n m : Nat) (t : TF) (W : Wd) (u : TDA) (v : TDE) : TDE := fun τ Q R => u τ (fun ds => v τ (fun d => ds.length = n ∧ ds.length + 1 = m ∧ t W (ds ++ [d]) Q fun _ => False) R) R
@[simp] def tdCallDf (n m : Nat) (dv : V) (t : TF) (W : Wd) (u : TDA) : TDE := fun τ Q R => u τ (fun ds => ds.length = n ∧ ds.length + 1 = m ∧ t W (ds ++ [.v dv]) Q fun _ => False) R
end
end D3
set_option Elab.async false
set_option linter.all false
set_option maxRecDepth 100000
set_option maxHeartbeats 4000000
namespace D3
open PySem PySem.Spec PySem.W PySem.Calls PyProof.Rows L2
section
variable {X : Cx} {pins : List (Addr × Obj)} {σ : L2.St} {H : Hp} {s : Shared} {a b D : Addr}
/-- {elt for target in iter if ..}, tuples of numbers: D the new set -/
def tScT (K : PySem.W.Frag) (g : PGw) (wi : TI) (G : TG) (tt : TT) (te : TE) (vs : List Nat) : TE := fun σ H Q => wi σ H fun J H1 => ∀ D, H1 D = none → ∃ W : Nat → Nat → Hp → Prop, (∃ m, W 0 m (upd H1 D (SetTO g.P g.w D []))) ∧ ∀ i m H, W i m H →
  (J.stop i H ∧ Q (.ref D) H) ∨ (J.go i H ∧ ∃ Nx : Hp → Prop, (∀ H', Nx H' → ∃ m', m' < m ∧ W (i + 1) m' H') ∧ ∀ x H', J.yld i H x H' → G x (wipe σ vs) H' fun σ2 H2 => wipe σ2 vs = wipe σ vs ∧ tt σ2 H2 fun b H3 =>
    if b = true then te σ2 H3 fun y H4 => ∃ L b k, y = .ref b ∧ H4 D = some (SetTO g.P g.w D L) ∧ (∀ p ∈ L, SqT K H4 p.1 (p.2.map V.int)) ∧ SqT K H4 b (k.map V.int) ∧ L.length + 1 < 64 ∧
      ∀ L', (k ∈ L.map (·.2) → L' = L) → (k ∉ L.map (·.2) → L'.Perm ((b, k) :: L)) → Nx (upd H4 D (SetTO g.P g.w D L')) else Nx H3)
abbrev set0 (w : World) : Obj := { cls := .type "set", dict := none, data := .set #[] 0 (.fresh 0 0 (!w.params.followText "set-order")) }
theorem t_setAdd {L : List (Addr × List Int)} {k : List Int} {E : Value → Shared → Prop} {Q : Value → Shared → Prop} (hu : X.A.units + 64 < cLine) (I : L2.Inv X pins σ H s) (hD : H D = some (SetTO X.prog X.w D L)) (hL : ∀ p ∈ L, SqT X.K H p.1 (p.2.map V.int)) (sk : SqT X.K H b (k.map V.int)) (few : L.length + 1 < 64)
    (h : ∀ L' s', (k ∈ L.map (·.2) → L' = L) → (k ∉ L.map (·.2) → L'.Perm ((b, k) :: L)) → L2.Inv X pins σ (upd H D (SetTO X.prog X.w D L')) s' → Q .none s') : wpAny (model X.prog X.w) X.A (call (.builtin "set.add") [.ref D, .ref b]) Q E s := by
  have t0 : SetT0 X.prog X.w s.heap D L := (I.hok D _ hD).1
  obtain ⟨es, ep, t, R⟩ := t0.full fun p hp => I.isT (hL p hp)
  have hx := I.isT sk
  obtain ⟨o, ho, hex, hd⟩ := R.ob
  refine wpAny_call_entry F.slot_set_add ⟨o, ho, hex.1⟩ F.entry_set_add ?_ (F.args_set_add_2 _ _)
  unfold Builtin.«set.add» Builtin.Frozenset.oneOther
  simp only [List.isEmpty_nil, bind_assoc]
  unfold Builtin.Frozenset.addrOf setAdd
  refine wpAny_bind (wpAny_pure ?_)
  try dsimp only
  refine wpAny_bind (wpAny_pure ?_)
  try dsimp only
  refine wpAny_bind (wpAny_holding (wpAny_bind (wpAny_pyHash_tuple (by show X.A.units + 1 < cLine; omega) hx ?_)))
  refine add_at (s := { s with toks := s.toks + (k.length + 1) }) R hx (by show X.A.units + 1 < cLine; omega) few fun _ h' L' es' ep' t' sb R' c1 c2 => ?_
  obtain ⟨o', ho', _⟩ := R'.ob
  refine wpAny_pure ⟨_, rfl, h L' _ c1 c2 (I.write (e := D) (t' := s.toks + (k.length + 1)) (by rw [hD]; trivial) (.inl rfl) (fun b u hb hu => (sb.2 b hb).trans hu) ⟨o', ho'⟩ (setTO_new R'.t0))⟩
theorem pe_scT {elt tg iter : Expr} {ifs : List Expr} {scope : Scope} {own : List (Str × Nat)} {pos : Pos} {wi : TI} {G : TG} {tt : TT} {te : TE} (hu : X.A.units + 64 < cLine) (hc : X.calm = true) (hN : X.N.Nodup) (hi : PI X tg iter wi) (ok : BlkOk X.N X.env.scope scope own)
    (hg : ∀ (s : Shared) (H : Hp) (C : Addr) (cl : List (Str × Addr)) (fp : List Addr), PG (X.blk s H scope (compEnvC scope cl C X.env) fp) tg G)
    (ht : ∀ (s : Shared) (H : Hp) (C : Addr) (cl : List (Str × Addr)) (fp : List Addr), PTs (X.blk s H scope (compEnvC scope cl C X.env) fp) ifs tt)
    (he : ∀ (s : Shared) (H : Hp) (C : Addr) (cl : List (Str × Addr)) (fp : List Addr), PE (X.blk s H scope (compEnvC scope cl C X.env) fp) elt te) (hs : ∀ x, foldedSetIterable iter X.env x = pure x := by intro _; rfl) :
    PE X (.SetComp elt [⟨tg, iter, ifs, 0⟩] scope pos) (tScT X.K (gOf X) wi G tt te (own.map (·.2))) := by
  refine ⟨fun pins s σ H Q I h => ?_⟩
  rw [PpSet.eval_SetComp]
  have hfree : ∀ y ∈ scope.names, y.2 = .free → ∃ c, X.env.cells.lookup y.1 = some c := fun y hy e => (ok.free y hy e).elim (fun k => I.ok.has _ (.inl k)) fun k => I.ok.has _ (.inr k)
  refine wpAny_comprehension_free (use := none) rfl hs (closure_ok hfree) ok.kind (fun y hy e => by rw [ok.uniq y hy, e]) (thn (hi.run pins s σ H _ I h) fun xv s1 hx => thn hx fun itv s2 h2 => ?_)
  obtain ⟨it, fp, tn, J, H2, e, I2, T, st2, f2, q⟩ := h2
  subst e
  refine PpSet.newSet_ok (newEnv_comp ?_)
  generalize hD : s2.heap.objs.size = D
  have hDn : H2 D = none := I2.hok.fresh (Nat.le_of_eq hD)
  obtain ⟨W, ⟨m0, w0⟩, turn⟩ := q D hDn
  generalize hs3 : ({ s2 with heap := s2.heap.push (set0 X.w) } : Shared) = s3
  have h3 : s3.heap = s2.heap.push (set0 X.w) := by rw [← hs3]
  have I3 : L2.Inv X pins σ (upd H2 D (SetTO X.prog X.w D [])) s3 := by
    rw [← hs3, ← hD]
    exact I2.laid (t' := s2.toks) (fun b o e => Heap.get?_push_of_some _ e) (Nat.le_refl _) (setTO_new (setTR_fresh (P := X.prog) (w := X.w) (Heap.get?_push_size _ rfl)).t0)
  have sz : ∀ b ∈ fp, b < s2.heap.objs.size := fun b hb => let ⟨o, e, _⟩ := T.obj _ _ st2 b hb; Heap.lt_size e
  have f3 : ∀ b ∈ fp, FpOk X pins (upd H2 D (SetTO X.prog X.w D [])) b ∧ b < s3.heap.objs.size := fun b hb => by
    have hlt := sz b hb
    refine ⟨⟨?_, (f2 b hb).2⟩, by rw [h3, Heap.size_push]; exact Nat.lt_succ_of_lt hlt⟩
    rw [upd_ne (by rw [← hD]; exact Nat.ne_of_lt hlt)]
    exact (f2 b hb).1
  have st3 : tn 0 s3.heap := T.keep _ _ _ st2 fun b _ o e => by rw [h3]; exact Heap.get?_push_of_some _ e
  have I4 := block_start I3 ok hN f3
  generalize hcl : cellsFrom (s3.heap.objs.size + 1) scope.names (cloFrom X.env.cells scope.names []) = cl at I4 ⊢
  have pg := hg s3 (upd H2 D (SetTO X.prog X.w D [])) s3.heap.objs.size cl fp
  have pt := ht s3 (upd H2 D (SetTO X.prog X.w D [])) s3.heap.objs.size cl fp
  have pe := he s3 (upd H2 D (SetTO X.prog X.w D [])) s3.heap.objs.size cl fp
  show codeAny _ _ (.compStart (.SetComp elt [⟨tg, iter, ifs, 0⟩] scope pos) 0 (.ref it) (.ref D) (compEnvC scope cl s3.heap.objs.size X.env)) (compPost (model X.prog X.w) X.A X.xe none (EP X pins σ Q) (.ref D) s3.heap.objs.size) { s3 with heap := pushCells (s3.heap.push dict0) scope.names }
  have nfp : ∀ b ∈ fp, (upd H2 D (SetTO X.prog X.w D [])) b = none := fun b hb => (f3 b hb).1.1
  generalize hce : compEnvC scope cl s3.heap.objs.size X.env = ce at I4 pg pt pe ⊢
  have cL : ce.locals = s3.heap.objs.size := by subst hce; rfl
  generalize hH3 : upd H2 D (SetTO X.prog X.w D []) = H3 at I3 I4 pg pt pe w0 nfp f3
  generalize hs4 : ({ s3 with heap := pushCells (s3.heap.push dict0) scope.names } : Shared) = s4 at I4 ⊢
  have st4 : tn 0 s4.heap := T.keep _ _ _ st3 fun b _ o e => by rw [← hs4]; exact pushCells_keeps _ _ _ _ (Heap.get?_push_of_some _ e)
  have stat : ∀ {σ' : L2.St} {H' : Hp} {s' : Shared}, L2.Inv (X.blk s3 H3 scope ce fp) [] σ' H' s' → (∀ b ∈ fp, H' b = none) → ∀ b ∈ fp, FpOk (X.blk s3 H3 scope ce fp) [] H' b := fun {σ' H' s'} I' hn b hb =>
    ⟨hn b hb, (I'.ok.exf b hb).1, I'.ok.exfs b hb, .inl hb, fun x c e => (I'.ok.exf b hb).2 x c e, fun p hp => absurd (show p ∈ ([] : List (Addr × Obj)) ++ [] from hp) (by simp)⟩
  have loop : codeAny (model X.prog X.w) X.A (.compLoop (.SetComp elt [⟨tg, iter, ifs, 0⟩] scope pos) 0 (.ref it) (.ref D) ce) (compPost (model X.prog X.w) X.A X.xe none (EP X pins σ Q) (.ref D) s3.heap.objs.size) s4 := by
    refine PpSet.compLoopS_any (fun n s' => ∃ i H', L2.Inv (X.blk s3 H3 scope ce fp) [] (wipe σ (own.map (·.2))) H' s' ∧ tn i s'.heap ∧ (∀ b ∈ fp, H' b = none) ∧ W i n H') ?_ m0 ⟨0, H3, I4, st4, nfp, w0⟩
    rintro n s5 ⟨i, H5, I5, st5, n5, w5⟩
    rcases turn i n H5 w5 with ⟨stop, qq⟩ | ⟨go, Nx, hNx, step⟩
    · refine thnF (T.done (X.blk s3 H3 scope ce fp) rfl rfl rfl hc i [] s5 _ H5 (fun _ _ => False) I5 (stat I5 n5) st5 stop) fun r s6 ⟨hr, I6⟩ => ?_
      subst hr
      have I7 : L2.Inv X pins σ H5 s6 := I3.call' (ch := fp) I6.os I6.base I6.hok I6.bare fun b hb => ⟨(f3 b hb).1.2.2.2.1, (f3 b hb).1.2.1, (f3 b hb).1.2.2.2.2.1, (f3 b hb).1.2.2.2.2.2⟩
      have nC : H5 s3.heap.objs.size = none := by
        have z : H5 ce.locals = none := I6.free
        rwa [cL] at z
      obtain ⟨m, hn, _⟩ := I6.loc
      have hn : s6.heap.Ns ce.locals m := hn
      rw [cL] at hn
      obtain ⟨g0, g1, g2, g3, g4, g5⟩ := I3.fpOk (Nat.le_refl _) nC
      exact ⟨m, hn, fun h'' sb => ⟨.ref D, H5, I7.turned (t' := s6.toks) (fun b o hb e => (sb.2 b hb).trans e) g0 g1 g3 g4 g5, rfl, qq⟩⟩
    · refine thnF (T.item (X.blk s3 H3 scope ce fp) rfl rfl rfl hc i [] s5 _ H5 (fun _ _ => False) I5 (stat I5 n5) st5 go) fun r s6 ⟨u, hr, h6⟩ => ?_
      subst hr
      refine thnF h6 fun _ s7 ⟨x, H7, I7, r7, y7, st7, n7⟩ => ?_
      refine thnF (pg.run _ s7 _ H7 x u _ (I7.pinned (stat I7 n7) (T.obj _ _ st7)) r7 (step x H7 y7)) fun _ s8 ⟨σ8, H8, I8, hw8, q8⟩ => ?_
      refine thnF (pt.run _ s8 σ8 H8 _ I8 q8) fun b s9 ⟨H9, I9, q9⟩ => ?_
      have fin : ∀ {s' : Shared} {H' : Hp}, L2.Inv (X.blk s3 H3 scope ce fp) ([] ++ pinsAt fp s7.heap) σ8 H' s' → Nx H' → ∃ m, m < n ∧ ∃ i H', L2.Inv (X.blk s3 H3 scope ce fp) [] (wipe σ (own.map (·.2))) H' s' ∧ tn i s'.heap ∧ (∀ b ∈ fp, H' b = none) ∧ W i m H' := fun {s' H'} I' nx => by
        obtain ⟨m', hm, w'⟩ := hNx H' nx
        have pin' : ∀ b ∈ fp, ∀ o, s7.heap.get? b = some o → s'.heap.get? b = some o ∧ H' b = none := fun b hb o e =>
          let z := I'.pin (b, o) (List.mem_append_right _ (List.mem_append_right _ (mem_pinsAt hb e)))
          ⟨z.1, z.2.1⟩
        have hl : (wipe σ (own.map (·.2))).length = σ8.length := by rw [← hw8, wipe_length]
        refine ⟨m', hm, i + 1, H', (I'.unpinned (pins := [])).weak hl (fun j v e => ?_), T.keep _ _ _ st7 fun b hb o e => (pin' b hb o e).1, fun b hb => ?_, w'⟩
        · rw [← hw8] at e
          exact (wipe_some e).1
        · obtain ⟨o, e, _⟩ := T.obj _ _ st7 b hb
          exact (pin' b hb o e).2
      cases b with
      | false =>
        simp only [Bool.false_eq_true, if_false] at q9 ⊢
        exact fin I9 q9
      | true =>
        simp only [if_true] at q9 ⊢
        refine thnF (pe.run _ s9 σ8 H9 _ I9 q9) fun z s10 ⟨yv, H10, I10, r10, L, b, k, ek, d10, hL, sk, few, nx⟩ => ?_
        subst ek
        obtain rfl : z = Value.ref b := r10
        exact t_setAdd (X := X.blk s3 H3 scope ce fp) hu I10 d10 hL sk few fun L' s11 c1 c2 I11 => fin I11 (nx L' c1 c2)
  exact PpSet.codeAny_compStart_set loop (T.self X.A 0 _ _ _ st4 loop)
/-- len of such a set -/
def rLenSet (K : PySem.W.Frag) (g : PGw) : List V → Hp → VK → Prop := fun xs H Q => ∃ a L, xs = [.ref a] ∧ H a = some (SetTO g.P g.w a L) ∧ (∀ p ∈ L, SqT K H p.1 (p.2.map V.int)) ∧ Q (.int (L.length : Nat)) H
theorem call_lenSetT : CallR X (.builtin "len") (rLenSet X.K (gOf X)) := by
  intro pins s σ H xs us' Q I r h
  obtain ⟨a, L, rfl, hD, hL, q⟩ := h
  rw [Vals.ref1 r]
  have t0 : SetT0 X.prog X.w s.heap a L := (I.hok a _ hD).1
  obtain ⟨es, ep, t, R⟩ := t0.full fun p hp => I.isT (hL p hp)
  obtain ⟨o, ho, hex, hd⟩ := R.ob
  have := R.few
  refine call_len_set ho hex hd R.fits (by rw [R.size]; omega) ⟨.int (L.length : Nat), H, I.tok _, ⟨_, by rw [R.size]⟩, q⟩
end
section
variable {K : PySem.W.Frag} {W : Wd} {Wx : WX} {X : Cx} {g : PGw} {a e : Expr} {tr : TA} {dr : TDA} {p pos : Pos}
/-- the tuples of numbers that a comprehension puts into a set -/
def compS (g : TDG) (tt : TDT) (te : TDE) (vs : List Nat) (τ : Tau) : List D → List (List Int) → (List (List Int) → Prop) → Prop
  | [], acc, Q => Q acc
  | d :: ds, acc, Q => g d (wipeT τ vs) fun τ2 => tt τ2 (fun b => if b = true then te τ2 (fun y => ∃ k : List Int, y = .tup (k.map D.int) ∧ compS g tt te vs τ ds (k :: acc) Q) (fun _ => False) else compS g tt te vs τ ds acc Q) (fun _ => False)
@[simp] def tdLenSc (ti : TDI) (G : TDG) (tt : TDT) (te : TDE) (vs : List Nat) : TDE := fun τ Q R => ti τ (fun ds => ds.length < 63 ∧ compS G tt te vs τ ds [] fun ks => ∀ L : List (List Int), L.Nodup → (∀ k, k ∈ L ↔ k ∈ ks) → Q (.int (L.length : Nat))) R
theorem SimE.lenSc {wi : TI} {ti : TDI} {G : TG} {gd : TDG} {idx : List Nat} {tt : TT} {td : TDT} {te : TE} {de : TDE} {vs : List Nat} (hi : SimI K W Wx wi ti) (hg : SimG K W G gd idx) (ht : SimT K W (fun _ _ _ _ => False) tt td) (he : SimE K W (fun _ _ _ _ => False) te de)
    (hv : ∀ i ∈ idx, i ∈ vs) : SimE K W Wx (tCB (rLenSet K g) (tCons (tScT K g wi G tt te vs) tNil)) (tdLenSc ti gd td de vs) := fun I H σ τ Q R GG ok rp t hq hx =>
  hi I H σ τ _ R _ ok rp t (fun J ds I1 H1 q1 wk l1 LL hD => by
    have hD0 : H LL = none := Later.back l1 hD
    have fD : W.free LL := W.fr l1.ok hD
    have put : ∀ {I3 H3 : Hp} {o : HO}, Later W I H I3 H3 → I3 LL = none → Later W I H I3 (upd H3 LL o) := fun {I3 H3 o} l n =>
      ⟨l.ex, W.mu l.ok n fD, fun a o f m e => by
        have : a ≠ LL := fun z => by rw [z, hD0] at e; cases e
        rw [upd_ne this]; exact l.fr a o f m e, l.nw, l.ow⟩
    refine ⟨fun i m H2 => ∃ (I2 : Hp) (L : List (Addr × List Int)) (acc : List (List Int)), m = ds.length - i ∧ i ≤ ds.length ∧ Later W I H I2 H2 ∧ Same I1 I2 ∧ H2 LL = some (SetTO g.P g.w LL L) ∧ I2 LL = none ∧ (∀ p ∈ L, SqT K I2 p.1 (p.2.map V.int)) ∧ (L.map (·.2)).Nodup ∧ (∀ k, k ∈ L.map (·.2) ↔ k ∈ acc) ∧ L.length ≤ i ∧
      compS gd td de vs τ (ds.drop i) acc (fun ks => ∀ L : List (List Int), L.Nodup → (∀ k, k ∈ L ↔ k ∈ ks) → Q (.int (L.length : Nat))), ⟨ds.length, I1, [], [], by simp, Nat.zero_le _, put l1 (Same.non (W.ex l1.ok) hD), Same.refl _, upd_same, Same.non (W.ex l1.ok) hD, (fun p hp => by cases hp), List.nodup_nil, (fun k => by simp), Nat.le_refl _, q1.2⟩, ?_⟩
    rintro i m H2 ⟨I2, L, acc, rfl, hil, l2, e2, hacc, hI, hks, hnd, hmem, hy, c⟩
    obtain ⟨w1, w2⟩ := wk i I2 H2 e2 l2.ok
    by_cases hlt : i < ds.length
    · obtain ⟨go, yl⟩ := w1 hlt
      refine .inr ⟨go, fun H3 => ∃ (I3 : Hp) (L : List (Addr × List Int)) (acc : List (List Int)), Later W I H I3 H3 ∧ Same I1 I3 ∧ H3 LL = some (SetTO g.P g.w LL L) ∧ I3 LL = none ∧ (∀ p ∈ L, SqT K I3 p.1 (p.2.map V.int)) ∧ (L.map (·.2)).Nodup ∧ (∀ k, k ∈ L.map (·.2) ↔ k ∈ acc) ∧ L.length ≤ i + 1 ∧
        compS gd td de vs τ (ds.drop (i + 1)) acc (fun ks => ∀ L : List (List Int), L.Nodup → (∀ k, k ∈ L ↔ k ∈ ks) → Q (.int (L.length : Nat))), ?_, ?_⟩
      · rintro H3 ⟨I3, L, acc, h1, h2, h3, h4, h5, h6, h7, h8, h9⟩
        exact ⟨ds.length - (i + 1), by omega, I3, L, acc, rfl, hlt, h1, h2, h3, h4, h5, h6, h7, h8, h9⟩
      · intro x H3 y
        obtain ⟨I3, d, hd, l3, ix⟩ := yl x H3 y
        have hdrop : ds.drop i = d :: ds.drop (i + 1) := by
          obtain ⟨h1, h2⟩ := List.getElem?_eq_some_iff.mp hd
          rw [← h2]; exact List.drop_eq_getElem_cons h1
        rw [hdrop] at c
        have keepD : ∀ {I4 H4 : Hp}, Later W I2 H2 I4 H4 → H4 LL = some (SetTO g.P g.w LL L) ∧ I4 LL = none := fun {I4 H4} l => l.keepN hacc fD hI
        refine hg I3 H3 (wipe σ vs) (wipeT τ vs) x d _ _ l3.ok ((rp.later (l2.trans l3)).wipe vs) ix c fun σ2 τ2 q2 rp2 _ wz => ⟨(wz vs hv).trans (wipe_wipe σ vs), ?_⟩
        refine ht I3 H3 σ2 τ2 _ _ _ l3.ok rp2 q2 (fun b I4 H4 q4 l4 => ?_) xok_false
        cases b with
        | true =>
          rw [if_pos rfl] at q4 ⊢
          refine he I4 H4 σ2 τ2 _ _ _ l4.ok (rp2.later l4) q4 (fun vk dy I5 H5 q5 i5 l5 => ?_) xok_false
          obtain ⟨k, ek, q5⟩ := q5
          subst ek
          have l25 := (l3.trans l4).trans l5
          obtain ⟨k1, k2⟩ := keepD l25
          have sm := W.ex l25.ok
          obtain ⟨b, xs, rfl, sk, al⟩ := is_tup i5
          cases isAll_int al
          have hlen : L.length + 1 < 64 := by have := q1.1; omega
          refine ⟨L, b, k, rfl, k1, fun p hp => Same.seqT sm (Same.seqT l25.ex (hks p hp)), Same.seqT sm sk, hlen, fun L' c1 c2 => ⟨I5, L', k :: acc, put (l2.trans l25) k2, e2.trans l25.ex, upd_same, k2, ?_, ?_, ?_, ?_, q5⟩⟩
          · intro p hp
            by_cases hm : k ∈ L.map (·.2)
            · rw [c1 hm] at hp
              exact Same.seqT l25.ex (hks p hp)
            · rcases List.mem_cons.mp ((c2 hm).mem_iff.mp hp) with z | z
              · rw [z]; exact sk
              · exact Same.seqT l25.ex (hks p z)
          · by_cases hm : k ∈ L.map (·.2)
            · rw [c1 hm]; exact hnd
            · exact ((c2 hm).map (·.2)).nodup_iff.mpr (List.nodup_cons.mpr ⟨hm, hnd⟩)
          · intro j
            by_cases hm : k ∈ L.map (·.2)
            · rw [c1 hm, List.mem_cons, hmem]
              constructor
              · exact .inr
              · rintro (z | z)
                · rw [z]; exact (hmem k).mp hm
                · exact z
            · rw [((c2 hm).map (·.2)).mem_iff, List.map_cons, List.mem_cons, List.mem_cons, hmem]
          · by_cases hm : k ∈ L.map (·.2)
            · rw [c1 hm]; omega
            · rw [(c2 hm).length_eq, List.length_cons]; omega
        | false =>
          rw [if_neg Bool.false_ne_true] at q4 ⊢
          have l24 := l3.trans l4
          obtain ⟨k1, k2⟩ := keepD l24
          exact ⟨I4, L, acc, l2.trans l24, e2.trans l24.ex, k1, k2, fun p hp => Same.seqT l24.ex (hks p hp), hnd, hmem, by omega, q4⟩
    · have e : i = ds.length := by omega
      subst e
      refine .inl ⟨w2 (Nat.le_refl _), ?_⟩
      rw [List.drop_length] at c
      have c := c (L.map (·.2)) hnd hmem
      rw [List.length_map] at c
      exact ⟨LL, L, rfl, hacc, fun p hp => Same.seqT (W.ex l2.ok) (hks p hp), hq _ _ I2 H2 c (.v _) l2⟩) hx
theorem de_lenSc (g : PGw) {elt tg iter : Expr} {ifs : List Expr} {scope : Scope} {own : List (Str × Nat)} {spos : Pos} {wi : TI} {ti : TDI} {G : TG} {gd : TDG} {idx : List Nat} {tt : TT} {td : TDT} {te : TE} {de : TDE} (hu : X.A.units + 64 < cLine) (hc : X.calm = true) (hN : X.N.Nodup) (hm : X.mg "len" = none) (hi : DI X K W Wx tg iter wi ti) (ok : BlkOk X.N X.env.scope scope own)
    (hg : ∀ (s : Shared) (H : Hp) (C : Addr) (cl : List (Str × Addr)) (fp : List Addr), DG (X.blk s H scope (compEnvC scope cl C X.env) fp) K W tg G gd idx) (ht : ∀ (s : Shared) (H : Hp) (C : Addr) (cl : List (Str × Addr)) (fp : List Addr), DTs (X.blk s H scope (compEnvC scope cl C X.env) fp) K W ifs tt td)
    (he : ∀ (s : Shared) (H : Hp) (C : Addr) (cl : List (Str × Addr)) (fp : List Addr), DE (X.blk s H scope (compEnvC scope cl C X.env) fp) K W (fun _ _ _ _ => False) elt te de) (hv : ∀ i ∈ idx, i ∈ own.map (·.2) := by decide) (hs : ∀ x, foldedSetIterable iter X.env x = pure x := by intro _; rfl) (hgl : Gl X "len" := by rfl)
    (hse : starEach [.SetComp elt [⟨tg, iter, ifs, 0⟩] scope spos] X.env = (false, eval (.SetComp elt [⟨tg, iter, ifs, 0⟩] scope spos) X.env) :: starEach [] X.env := by rfl) (hgg : gOf X = g := by rfl) :
    DE X K W Wx (.Call (.Name "len" p) [.SetComp elt [⟨tg, iter, ifs, 0⟩] scope spos] [] pos) (tCB (rLenSet K g) (tCons (tScT K g wi G tt te (own.map (·.2))) tNil)) (tdLenSc ti gd td de (own.map (·.2))) := by
  have hkk := hi.k; subst hkk hgg
  exact ⟨rfl, pe_callB call_lenSetT hgl hm PySem.boot_len (pa_cons (pe_scT hu hc hN hi.pi ok (fun s H C cl fp => (hg s H C cl fp).pg) (fun s H C cl fp => (ht s H C cl fp).pt) (fun s H C cl fp => (he s H C cl fp).pe) hs) pa_nil hse) (by decide) (by decide) hse rfl,
    .lenSc hi.sim (hg { heap := { objs := #[] } } (fun _ => none) 0 [] []).sim (ht { heap := { objs := #[] } } (fun _ => none) 0 [] []).sim (he { heap := { objs := #[] } } (fun _ => none) 0 [] []).sim hv⟩
/-- min(list), max(list) of numbers -/
def fMinL (le : Int → Int → Prop) : FD := fun ds Q => match ds with
  | [.lst xs] => ∃ ns : List Int, xs = ns.map D.int ∧ ns ≠ [] ∧ ∀ m, m ∈ ns → (∀ y, y ∈ ns → le m y) → Q (.int m)
  | _ => False
@[simp] theorem fMinL_lst {le : Int → Int → Prop} {xs : List D} {Q : D → Prop} : fMinL le [.lst xs] Q = ∃ ns : List Int, xs = ns.map D.int ∧ ns ≠ [] ∧ ∀ m, m ∈ ns → (∀ y, y ∈ ns → le m y) → Q (.int m) := rfl
theorem CallSim.minL : CallSim K W (rMin K) (fMinL (· ≤ ·)) := fun I H vs ds Q G ok al q hq => by
  unfold fMinL at q
  split at q
  · obtain ⟨v, rfl, h⟩ := isAll1 al
    obtain ⟨ns, rfl, ne, q⟩ := q
    obtain ⟨a, xs, rfl, sq, al2⟩ := is_lst h
    cases isAll_int al2
    exact ⟨a, ns, rfl, (W.ex ok).seq sq, List.length_pos_iff.mpr ne, fun m hm hy => hq _ _ I H (q m hm hy) (.v _) (Later.refl ok)⟩
  · exact q.elim
theorem CallSim.maxL : CallSim K W (rMax K) (fMinL (fun m y => y ≤ m)) := fun I H vs ds Q G ok al q hq => by
  unfold fMinL at q
  split at q
  · obtain ⟨v, rfl, h⟩ := isAll1 al
    obtain ⟨ns, rfl, ne, q⟩ := q
    obtain ⟨a, xs, rfl, sq, al2⟩ := is_lst h
    cases isAll_int al2
    exact ⟨a, ns, rfl, (W.ex ok).seq sq, List.length_pos_iff.mpr ne, fun m hm hy => hq _ _ I H (q m hm hy) (.v _) (Later.refl ok)⟩
  · exact q.elim
theorem de_minL (hc : X.calm = true) (hm : X.mg "min" = none) (ha : DA X K W Wx [a] tr dr) (hg : Gl X "min" := by rfl) (he : starEach [a] X.env = (false, eval a X.env) :: starEach [] X.env := by rfl) : DE X K W Wx (.Call (.Name "min" p) [a] [] pos) (tCB (rMin K) tr) (tdCB (fMinL (· ≤ ·)) dr) := by
  have hk := ha.k; subst hk
  exact de_cb (cr_min hc) .minL hg hm (by decide +kernel) ha (by decide) (by decide) he rfl
theorem de_maxL (hc : X.calm = true) (hm : X.mg "max" = none) (ha : DA X K W Wx [a] tr dr) (hg : Gl X "max" := by rfl) (he : starEach [a] X.env = (false, eval a X.env) :: starEach [] X.env := by rfl) : DE X K W Wx (.Call (.Name "max" p) [a] [] pos) (tCB (rMax K) tr) (tdCB (fMinL fun m y => y ≤ m) dr) := by
  have hk := ha.k; subst hk
  exact de_cb (cr_max hc) .maxL hg hm (by decide +kernel) ha (by decide) (by decide) he rfl
end
end D3
set_option Elab.async false
set_option linter.all false
set_option maxRecDepth 100000
set_option maxHeartbeats 4000000
namespace D3
open PySem L2
section
variable {K : PySem.W.Frag} {W : Wd} {Wx : WX} {X : Cx} {a b e : Expr} {ta tb te : TE} {da db de : TDE} {dO d1 d2 : TDO} {pos : Pos}
/-- one's own list stands still, as data -/
theorem Rep.frzAt {I H : Hp} {σ : L2.St} {τ : Tau} {i : Nat} {p : Addr} {vs : List V} {ds : List D} (rp : Rep K W I H σ τ) (e : τ[i]? = some (some (.own ds))) (hv : σ[i]? = some (some (.ref p))) (hp : H p = some (.lst vs)) (hi : I p = none) (al : IsAll K I vs ds) :
    Rep K W (upd I p (.lst vs)) H σ (τ.set i (some (.dat (.lst ds)))) := by
  have sm : Same I (upd I p (.lst vs)) := Same.new hi
  refine ⟨by simpa using rp.len, fun j s f => ?_, fun j l s t v w a f1 f2 f3 f4 o1 o2 => ?_⟩
  · rcases getSet f with ⟨rfl, _, rfl⟩ | ⟨hj, f⟩
    · exact ⟨.ref p, hv, .lst upd_same (al.mono sm)⟩
    · obtain ⟨w, g1, g2⟩ := rp.at_ j s f
      refine ⟨w, g1, g2.keep sm (fun a o => ?_) fun a _ => rfl⟩
      have : a ≠ p := fun z => by subst z; exact hj (rp.inj i j _ s _ w a e f hv g1 rfl o)
      rw [upd_ne this]
      exact (g2.owned o).1
  · rcases getSet f1 with ⟨rfl, _, rfl⟩ | ⟨_, g1⟩
    · exact o1.elim
    · rcases getSet f2 with ⟨rfl, _, rfl⟩ | ⟨_, g2⟩
      · exact o2.elim
      · exact rp.inj j l s t v w a g1 g2 f3 f4 o1 o2
/-- what is popped, turn by turn -/
def popD (g : TDG) (te : TDE) (vs : List Nat) (i : Nat) (τ : Tau) : List D → List D → List D → (List D → Prop) → Prop
  | [], _, acc, Q => Q acc
  | x :: xs, ds, acc, Q => g x (wipeT (τ.set i (some (.own ds))) vs) fun τ2 => τ2[i]? = some (some (.own ds)) ∧ te (τ2.set i (some (.dat (.lst ds)))) (fun y => ∃ (j : Nat) (d : D), y = .int (j : Nat) ∧ j < 2 ^ 62 ∧ ds[j]? = some d ∧ popD g te vs i τ xs (ds.eraseIdx j) (acc ++ [d]) Q) (fun _ => False)
@[simp] def tdRetPop (i : Nat) (ti : TDI) (g : TDG) (te : TDE) (vs : List Nat) : TDS := fun τ E => ∃ ds, τ[i]? = some (some (.own ds)) ∧ ti τ (fun xs => xs.length ≤ sizeLine ∧ popD g te vs i τ xs ds [] fun ys => E.rt (.own ys)) (fun x => E.ex x τ)
theorem IsAll.erase {I : Hp} : ∀ {vs : List V} {ds : List D} (j : Nat), IsAll K I vs ds → IsAll K I (vs.eraseIdx j) (ds.eraseIdx j)
  | _, _, _, .nil => by simpa using IsAll.nil
  | _, _, 0, .cons _ t => t
  | _, _, j + 1, .cons h t => .cons h (IsAll.erase j t)
/-- a new list by a condition -/
@[simp] def tdIfO (c : TDT) (t u : TDO) : TDO := fun τ Q R => c τ (fun b => if b = true then t τ Q R else u τ Q R) R
/-- a new list, changed and dropped: e.reverse() -/
@[simp] def tdDropO (t : TDO) : TDS := fun τ E => t (frz τ) (fun _ => E.nx τ) (fun x => E.ex x (frz τ))
/-- e.append(x) -/
@[simp] def tdDropApp (t : TDO) (u : TDE) : TDS := fun τ E => t (frz τ) (fun ds => ds.length < sizeLine ∧ u (frz τ) (fun _ => E.nx τ) (fun x => E.ex x (frz τ))) (fun x => E.ex x (frz τ))
/-- the greater, the less of two whole numbers -/
def fMax2 : FD := fun ds Q => match ds with
  | [.v (.int i), .v (.int j)] => Q (.int (if j > i then j else i))
  | _ => False
def fMin2 : FD := fun ds Q => match ds with
  | [.v (.int i), .v (.int j)] => Q (.int (if j < i then j else i))
  | _ => False
@[simp] theorem fMax2_int {i j : Int} {Q : D → Prop} : fMax2 [.int i, .int j] Q = Q (.int (if j > i then j else i)) := rfl
@[simp] theorem fMin2_int {i j : Int} {Q : D → Prop} : fMin2 [.int i, .int j] Q = Q (.int (if j < i then j else i)) := rfl
theorem CallSim.max2 : CallSim K W (fun xs H Q => ∃ i j, xs = [.int i, .int j] ∧ Q (.int (if j > i then j else i)) H) fMax2 := fun I H vs ds Q G ok al q hq => by
  unfold fMax2 at q
  split at q
  · obtain ⟨v, v', rfl, h1, h2⟩ := isAll2 al
    cases h1
    cases h2
    exact ⟨_, _, rfl, hq _ _ I H q (.v _) (Later.refl ok)⟩
  · exact q.elim
theorem de_max2 {tr : TA} {dr : TDA} (hm : X.mg "max" = none) (ha : DA X K W Wx [a, b] tr dr) (hc : X.calm = true := by rfl) (hg : Gl X "max" := by rfl) (he : starEach [a, b] X.env = (false, eval a X.env) :: starEach [b] X.env := by rfl) (hpl : (backTo pos (starEach [b] X.env)).any (·.1) = false := by rfl) : DE X K W Wx (.Call (.Name "max" p) [a, b] [] pos) (tCB (fun xs H Q => ∃ i j, xs = [.int i, .int j] ∧ Q (.int (if j > i then j else i)) H) tr) (tdCB fMax2 dr) :=
  de_cb (call_max2 hc) .max2 hg hm (by decide +kernel) ha (by decide) (by decide) he hpl
end
end D3
set_option Elab.async false
set_option linter.all false
set_option maxRecDepth 100000
set_option maxHeartbeats 4000000
namespace D3
open PySem PySem.Spec PyProof.Rows L2
theorem _root_.L2H.RoomH.units {k : Nat} {A : Around} (r : L2H.RoomH k A) : A.units + 64 < cLine := by have := r.un; omega
theorem roomE {k : Nat} {A : Around} {x : Option Value} (h : RoomG k A) : L2H.RoomH k (A.mark x) := ⟨h.r.dp, h.r.un⟩
/-- what such a def promises: a the refusal's place, its class, the dict of its fields -/
structure FnE (P : Program) (w : World) (K : PySem.W.Frag) (mg : Str → Option Value) (base : Heap) (k : Nat) (f : Addr) (fd : FuncData) (ps : List Str) (t : Addr → Value → Option Addr → TF) : Prop where
  run : ∀ (A : Around) (outer : List Env) (s : Shared) (H : Hp) (args : Args) (us : List Value) (vs : List V) (Q : VK) (p : Addr × Obj) (cls : Value) (d : Option Addr), L2H.RoomH k A → Zc cls d p.2 → (∃ xs, p.2.data = .fields xs) → L2H.PinOk outer H s p → Env0 P w K mg base A outer s H → BindsTo s fd args (ps.zip us) → Vals vs us → spD K ps.length (t p.1 cls d) vs H Q E0 →
    codeAny (model P w) A (.call (.ref f) args) (CR CX0 outer P w H s Q E0) s
section
variable {P : Program} {w : World} {K : PySem.W.Frag} {mg : Str → Option Value} {base : Heap} {k : Nat} {f : Addr} {fd : FuncData} {N ps : List Str} {t : Addr → Value → Option Addr → TF}
theorem okE {x qual : Str} {st : Stmt} (F : Fun K x qual st f fd) (S : FnScope N ps (defScope st))
    (hbody : ∀ (cdv : Value) (A : Around) (outer : List Env) (s : Shared) (H : Hp) (p : Addr × Obj) (cls : Value) (d : Option Addr), Zc cls d p.2 → (∃ xs, p.2.data = .fields xs) → L2H.RoomH k (A.deeper (PyProof.Rows.envOfC qual (defScope st) s.heap.objs.size f cdv)) →
      ∃ (ts : L2.TS) (td : Wd → TDS), (∀ W, DSs (L2H.cxH CX0 P w K mg base N qual (defScope st) f cdv A outer s H E0 p).nox K W (fun _ _ _ _ => False) (defBody st) ts (td W)) ∧
        ∀ (W : Wd) (ds : List D) (Q : D → Prop), ds.length = ps.length → t p.1 cls d W ds Q (fun _ => False) → td W (startT N.length ds) (endsD Q fun _ => False))
    (hR : ∀ a cls d W ds Q R, t a cls d W ds Q R → t a cls d W ds Q fun _ => False) : FnE P w K mg base (k + 1) f fd ps t := by
  obtain ⟨oc, od, kV, doc, pm, an, cdv, ct, osl, rfl, lk, hcd⟩ := F.ex
  refine ⟨fun A outer s H args us vs Q p cls d hr hz hf hpin e0 hb r hsp => ?_⟩
  have hl := spD_len hsp
  have inK : K.In s.heap := e0.mod.kin.keeps fun b o e => (e0.bs b o e).1
  have free : s.heap.NoLimit := e0.mod.nolimit.keeps fun b o e => (e0.bs b o e).1
  have kinds : ∀ y ∈ ps.zip us, (defScope st).names.lookup y.1 = some .local ∨ ((defScope st).names.lookup y.1 = some .cell ∧ ((cellsFrom (s.heap.objs.size + 1) (defScope st).names []).lookup y.1).isSome = true) := fun y hy =>
    (S.par y.1 (List.of_mem_zip (a := y.1) (b := y.2) hy).1).elim .inl fun q => .inr ⟨q, PySem.W.cellsFrom_some _ _ _ (.inl q)⟩
  refine codeAny_call_function hr.depth (inK _ _ lk) rfl S.co S.gen rfl (PySem.W.codeRec_of inK hcd) (hb _ _ _ _ (wpAny_newFunctionEnv_cells S.kind kinds fun env ee s1 ic => ?_))
  cases ee
  obtain ⟨ts, td, hd, hm⟩ := hbody cdv A outer s H p cls d hz hf (hr.deeper _)
  obtain ⟨W, I, ds, Qd, R, ok, al, hl2, ht, hq, hx⟩ := hsp
  have sim := (hd W).sim I H _ _ _ _ ok (start_rep al) (hm W ds Qd hl2 (hR _ _ _ _ _ _ _ ht)) (relD (N := N) (vs := vs) (ds := ds) (Q := Qd) (R := fun _ => False) (G := Q) (E := fun _ _ _ => False) ok hq (fun _ _ _ _ _ z _ _ => z))
  refine ⟨free.keeps ic.toInCall.keep, codeAny_func (wpAny_mono ((hd W).ps.nox.run [] s1 (L2.start N vs) H _ (L2H.inv_startH S hpin e0 hl r ic) sim) (fun fl z hz => ?_) fun _ _ hz => hz)⟩
  have ended : ∀ {σ' : L2.St} {H' : Hp} {v : V} {u : Value}, Inv (L2H.cxH CX0 P w K mg base N qual (defScope st) f cdv A outer s H E0 p) [] σ' H' z → RelV v u → Q v H' → CE outer P w H s Q u z := fun J ru q => ⟨_, _, J.os, J.bare, J.base, J.hok, ru, q⟩
  match fl, hz with
  | .ret u, ⟨v, σ', H', J, ru, q⟩ => exact ended J ru q
  | .next, ⟨σ', H', J, q⟩ => exact ended (v := .non) (u := .none) J rfl q
  | .brk, ⟨_, _, _, q⟩ => exact q.elim
  | .cont, ⟨_, _, _, q⟩ => exact q.elim
end
section
variable {K : PySem.W.Frag} {W : Wd} {Wx : WX} {X : Cx} {a : Addr} {oe : Obj} {cls : Value} {d : Option Addr} {pn : List (Addr × Obj)} {e e2 : Expr} {es : List Expr} {te : TE} {de : TDE} {pos p : Pos} {n : Str} {tr : TA} {dr : TDA}
theorem call_isXp (hp : (a, oe) ∈ X.pn) (hz : Zc cls d oe) (hf : ∃ vs, oe.data = .fields vs) : CallR X (.builtin "isinstance") (rIsX X.K a cls d) := by
  intro pins s σ H xs us Q I r h
  obtain ⟨c, b, D, rfl, rfl, C, hd, hc, q⟩ := h
  cases r with
  | cons rx rr =>
    cases rr with
    | cons rt rr =>
      cases rr
      cases rx
      obtain ⟨hget, _⟩ := I.pin (a, oe) (List.mem_append.mpr (.inl hp))
      obtain ⟨od, J⟩ := inst_of I hget hz hf hd
      have hcl : (PySem.W.clsIn X.K D).isSome = true := by
        obtain ⟨cd, hc, _⟩ := PySem.W.any_some C.hd
        rw [hc]; rfl
      have Z : PySem.W.KitX X.K (.ref a) (.ref D) (fun h => PySem.W.InstAt h a oe D od) := PySem.W.kitx_exc hcl C.ga C.gg C.ex C.ca C.cn C.ct C.mo
      rcases hc with ⟨cv, e1, e2⟩ | ⟨p, vs, cvs, rfl, sq, e1, e2⟩
      · rw [valOf_rel rt e1]
        exact PySem.W.kia_one Z I.kIn J e2 (fun z => nomatch z) fun tk => ⟨.bl b, H, I.kept (t' := tk) fun _ _ z => z, rfl, q⟩
      · cases rt
        obtain ⟨its, rv, ⟨o, hp, hoc, n, hod⟩, _⟩ := I.tuple sq
        have ei := valsOf_rel rv e1
        subst ei
        obtain ⟨oc, odd, oda, osl⟩ := o
        dsimp only at hoc hod
        subst hoc hod
        exact PySem.W.kia_tup (its := its) (n := n) Z I.kIn J hp e2 (fun z => nomatch z) fun tk => ⟨.bl b, H, I.kept (t' := tk) fun _ _ z => z, rfl, q⟩
theorem pe_xap (hp : (a, oe) ∈ X.pn) (hz : Zc cls d oe) (hf : ∃ vs, oe.data = .fields vs) (he : PE X e te) (hb : attributeBase e n X.env (eval e X.env) = eval e X.env := by rfl) : PE X (.Attribute e n pos) (tXa X.K a cls d n te) := by
  refine ⟨fun pins s σ H Q I h => ?_⟩
  refine attr_of hb (thn (he.run pins s σ H _ I h) fun u s1 hh => ?_)
  obtain ⟨x, H1, I1, rx, C, dd, fs, v, ex, ec, T, hno, ed, ea, l, q⟩ := hh
  subst ex
  obtain rfl : u = Value.ref a := rx
  subst ec
  subst ed
  obtain ⟨ha, _⟩ := I1.pin (a, oe) (List.mem_append_left _ hp)
  obtain ⟨vs, hd⟩ := hf
  have hx : ObjOk X.prog X.w H1 s1.heap dd (.xd fs) := I1.hok dd _ ea
  obtain ⟨mA, hns, hr⟩ := hx
  obtain ⟨od, ho, hl⟩ := lookIn_ns hns
  obtain ⟨u, hu, ru⟩ := RelO.some_of (v := v) (o := mA n) (by rw [← l]; exact hr n)
  have J : PySem.W.InstAt s1.heap a oe C (some od) := ⟨ha, hz.1, by unfold PySem.W.notCls; rw [hd] <;> rfl, by rw [hz.2]; exact ho⟩
  exact HandSPX.exc_get I1.kIn J T.ga T.gg T.exC (PySem.W.findObj_own T.hdC hno rfl (by rw [hl, hu])) (handed_of ru) ⟨v, H1, I1.tok _, ru, q⟩
theorem de_xap (hp : (a, oe) ∈ X.pn) (hz : Zc cls d oe) (hf : ∃ vs, oe.data = .fields vs) (he : DE X K W Wx e te de) (hb : attributeBase e n X.env (eval e X.env) = eval e X.env := by rfl) : DE X K W Wx (.Attribute e n pos) (tXa K a cls d n te) (tdXa K a cls d n de) := by
  have hk := he.k; subst hk
  refine ⟨rfl, pe_xap hp hz hf he.pe hb, fun I H σ τ Q R G ok rp t hq hx => he.sim I H σ τ _ R _ ok rp t (fun v x I1 H1 q1 i1 l1 => ?_) hx⟩
  unfold fXa at q1
  split at q1
  · obtain ⟨rfl, rfl, C, y, rfl, T, nf, e1, q⟩ := q1
    cases i1 with
    | exc0 => cases e1
    | exc1 h1 r =>
      obtain ⟨v, e2, iv⟩ := IsFs.look r e1
      exact ⟨C, _, _, v, rfl, rfl, T.xf, nf, rfl, W.ex l1.ok _ _ h1, e2, hq v y I1 H1 q iv l1⟩
  · exact q1.elim
theorem de_isXp (hp : (a, oe) ∈ X.pn) (hz : Zc cls d oe) (hf : ∃ vs, oe.data = .fields vs) (hm : X.mg "isinstance" = none) (ha : DA X K W Wx [e, e2] tr dr) (hg : Gl X "isinstance" := by rfl) (he : starEach [e, e2] X.env = (false, eval e X.env) :: starEach [e2] X.env := by rfl) (hpl : (backTo pos (starEach [e2] X.env)).any (·.1) = false := by rfl) :
    DE X K W Wx (.Call (.Name "isinstance" p) [e, e2] [] pos) (tCB (rIsX K a cls d) tr) (tdCB (fIsX K a cls d) dr) := by
  have hk := ha.k; subst hk
  exact de_cb (call_isXp hp hz hf) .isX hg hm (by decide +kernel) ha (by decide) (by decide) he hpl
theorem pe_callE {x : Str} {k : Nat} {f : Addr} {fd : FuncData} {ps : List Str} {t : Addr → Value → Option Addr → TF} {ta : TA} (hp : (a, oe) ∈ X.pn) (hz : Zc cls d oe) (hf : ∃ vs, oe.data = .fields vs) (F : FnE X.prog X.w X.K X.mg X.base k f fd ps t) (hr : L2H.RoomH k X.A) (hg : Gl X x) (hm : X.mg x = some (.ref f)) (hk : PySem.W.keepIn X.K (.ref f) = true) (hb : Binds X.K fd ps [])
    (ha : PA X (e :: es) ta) (hdb : (x == ("__debug__" : Str)) = false := by decide) (he : starEach (e :: es) X.env = (false, eval e X.env) :: starEach es X.env := by rfl) (hpl : (backTo pos (starEach es X.env)).any (·.1) = false := by rfl) :
    PE X (.Call (.Name x p) (e :: es) [] pos) (tCallS (spD X.K ps.length (t a cls d)) (fun _ => E0) ta) := by
  refine ⟨fun pins s σ H Q I h => wpAny_Call_Name_kw (ld_glob I hg hm (PySem.W.callWith_K (h₀ := X.base) I.ok.mod.kin hk (thn (ha.run pos pins s σ H _ I h) fun us s1 ⟨vs, H1, J, rv, q⟩ => ⟨J.kIn, ?_⟩) he hpl) hdb)⟩
  have hl : us.length = ps.length := rv.length.symm.trans (spD_len q)
  have b := hb s1 us J.kIn (by rw [List.append_nil]; exact hl)
  rw [List.append_nil] at b
  have P1 := J.pin (a, oe) (List.mem_append_left _ hp)
  have hpin : L2H.PinOk X.stack H1 s1 (a, oe) := ⟨P1.1, P1.2.1, fun hm => (List.mem_cons.mp (J.stkSub a hm)).elim P1.2.2.1 P1.2.2.2.1, P1.2.2.2.2⟩
  refine wpAny_call (codeAny_mono (F.run X.A X.stack s1 H1 ⟨us, []⟩ us vs Q (a, oe) cls d hr hz hf hpin J.env0 b rv q) fun r z hz => ?_)
  match r, hz with
  | .error e, hz => exact (show False from hz).elim
  | .ok (.ret u), hz => exact J.after hz
theorem de_callE {x : Str} {k : Nat} {f : Addr} {fd : FuncData} {ps : List Str} {t : Addr → Value → Option Addr → TF} (hp : (a, oe) ∈ X.pn) (hz : Zc cls d oe) (hf : ∃ vs, oe.data = .fields vs) (F : FnE X.prog X.w X.K X.mg X.base k f fd ps t) (hr : L2H.RoomH k X.A) (hm : X.mg x = some (.ref f)) (hk : PySem.W.keepIn X.K (.ref f) = true) (hb : Binds K fd ps [])
    (ha : DA X K W Wx (e :: es) tr dr) (hg : Gl X x := by rfl) (hdb : (x == ("__debug__" : Str)) = false := by decide) (he : starEach (e :: es) X.env = (false, eval e X.env) :: starEach es X.env := by rfl) (hpl : (backTo pos (starEach es X.env)).any (·.1) = false := by rfl) :
    DE X K W Wx (.Call (.Name x p) (e :: es) [] pos) (tCallS (spD K ps.length (t a cls d)) (fun _ => E0) tr) (tdCall ps.length (t a cls d) W dr) := by
  have hk := ha.k; subst hk
  exact ⟨rfl, pe_callE hp hz hf F hr hg hm ‹_› hb ha.pa hdb he hpl, .call ha.sim⟩
end
end D3
set_option Elab.async false
set_option linter.all false
set_option maxRecDepth 100000
set_option maxHeartbeats 4000000
namespace D3
open PySem PySem.Spec PySem.W PySem.Calls PyProof.Rows L2
section
variable {K : PySem.W.Frag} {W : Wd} {Wx : WX} {X : Cx} {a : Expr} {tr : TA} {dr : TDA} {pos p : Pos}
def fDictC (ds : List D) (Q : SD → Prop) : Prop := match ds with
  | [.dic gs] => Q (.dk gs)
  | _ => False
@[simp] theorem fDictC_dic {gs : List (L2.Key × D)} {Q : SD → Prop} : fDictC [.dic gs] Q = Q (.dk gs) := rfl
@[simp] def tdDictC (dr : TDA) : TDX := fun τ Q R => dr τ (fun ds => fDictC ds Q) R
/-- abs -/
def fAbs : FD := fun ds Q => match ds with
  | [.v (.int i)] => Q (.int (if i < 0 then -i else i))
  | _ => False
@[simp] theorem fAbs_int {i : Int} {Q : D → Prop} : fAbs [.int i] Q = Q (.int (if i < 0 then -i else i)) := rfl
theorem CallSim.abs : CallSim K W (fun xs H Q => ∃ i, xs = [.int i] ∧ Q (.int (if i < 0 then -i else i)) H) fAbs := fun I H vs ds Q G ok al q hq => by
  unfold fAbs at q
  split at q
  · obtain ⟨v, rfl, h1⟩ := isAll1 al
    cases h1
    exact ⟨_, rfl, hq _ _ I H q (.v _) (Later.refl ok)⟩
  · exact q.elim
variable {C f : Addr} {m qual : Str} {st : Stmt} {ps : List Str} {fd : FuncData} {o e : Expr} {es : List Expr} {to : TE} {dO : TDE} {apos : Pos} {k n : Nat} {tO : TFO} {pl : Sem Bool}
end
end D3
set_option Elab.async false
set_option linter.all false
set_option maxRecDepth 100000
set_option maxHeartbeats 4000000
namespace D3
open PySem PySem.Spec PySem.W PySem.Calls PyProof.Rows L2
section
variable {K : PySem.W.Frag} {W : Wd} {Wx : WX} {X : Cx} {a e : Expr} {te : TE} {de : TDE} {tr : TA} {dr : TDA} {pos p apos cpos : Pos}
def fListT (g : PGw) (ds : List D) (Q : List D → Prop) : Prop := match ds with
  | [.dt g' gs] => g' = g ∧ Q (keysT gs)
  | _ => False
@[simp] theorem fListT_dt {g g' : PGw} {gs : List (TK × D)} {Q : List D → Prop} : fListT g [.dt g' gs] Q = (g' = g ∧ Q (keysT gs)) := rfl
@[simp] def tdListVs (g : PGw) (t : TDE) : TDO := fun τ Q R => t τ (fun d => onDt g d fun gs => Q (gs.map (·.2))) R
end
section
variable {K : PySem.W.Frag} {W : Wd} {Wx : WX} {X : Cx}
def compD2 (g : TDG) (tt : TDT) (it1 : TDI) (g1 : TDG) (tt1 : TDT) (te : TDE) (vs vs1 : List Nat) (τ : Tau) : List D → Nat → (List D → Prop) → Prop
  | [], _, Q => Q []
  | d :: ds, n, Q => g d (wipeT τ vs) fun τ2 => tt τ2 (fun b => if b = true then it1 τ2 (fun es => n + es.length ≤ sizeLine ∧ compD g1 tt1 te vs1 τ2 es fun ys => compD2 g tt it1 g1 tt1 te vs vs1 τ ds (n + ys.length) fun zs => Q (ys ++ zs)) (fun _ => False) else compD2 g tt it1 g1 tt1 te vs vs1 τ ds n Q) (fun _ => False)
@[simp] def tdLc2 (ti : TDI) (g : TDG) (tt : TDT) (it1 : TDI) (g1 : TDG) (tt1 : TDT) (te : TDE) (vs vs1 : List Nat) : TDO := fun τ Q R => ti τ (fun ds => compD2 g tt it1 g1 tt1 te vs vs1 τ ds 0 Q) R
end
section
variable {K : PySem.W.Frag} {W : Wd} {Wx : WX} {X : Cx} {a v : Expr} {tv : TE} {dv : TDE} {tr : TA} {dr : TDA} {pos p kp : Pos}
@[simp] def tdMinD0 (u : TDA) (t : TDE) : TDE := fun τ Q R => u τ (fun ds => t τ (fun d => ds = [.lst []] ∧ Q d) R) R
end
end D3
set_option Elab.async false
set_option linter.all false
set_option maxRecDepth 100000
set_option maxHeartbeats 4000000
namespace D3
open PySem PySem.Spec PySem.W PySem.Calls PyProof.Rows L2
section
variable {K : PySem.W.Frag} {W : Wd} {Wx : WX} {X : Cx} {a b o e : Expr} {ta tb to : TE} {da db dO : TDE} {tr : TA} {dr : TDA} {apos cpos : Pos}
@[simp] def tdDGet2 (t u v : TDE) : TDE := fun τ Q R => t τ (fun x => onDic x fun gs => u τ (fun y => onStr y fun z => v τ (fun d => Q ((valD gs (.inr z)).getD d)) R) R) R
/-- things.index(x): any data -/
def fLixD (x y : D) (Q : D → Prop) : Prop := match x with
  | .lst ds => ∃ (j : Nat) (z : D), cmpOk (.lst ds) ∧ cmpOk y ∧ ds[j]? = some z ∧ eqD z y = true ∧ (∀ m z', m < j → ds[m]? = some z' → eqD z' y = false) ∧ Q (.int (j : Nat))
  | _ => False
@[simp] theorem fLixD_lst {ds : List D} {y : D} {Q : D → Prop} : fLixD (.lst ds) y Q = ∃ (j : Nat) (z : D), cmpOk (.lst ds) ∧ cmpOk y ∧ ds[j]? = some z ∧ eqD z y = true ∧ (∀ m z', m < j → ds[m]? = some z' → eqD z' y = false) ∧ Q (.int (j : Nat)) := rfl
@[simp] def tdLixD (u : TDE) (v : TDA) : TDE := fun τ Q R => u τ (fun x => onLst x fun _ => v τ (fun ys => one1 ys fun y => fLixD x y Q) R) R
theorem toPys_get : ∀ {ds : List D} {j : Nat}, (toPys ds)[j]? = (ds[j]?).map toPy
  | [], j => rfl
  | d :: ds, 0 => rfl
  | d :: ds, j + 1 => by
    simp only [toPys, List.getElem?_cons_succ]
    exact toPys_get
theorem de_lixD (hu : X.A.units + 66 < cLine) (ho : DE X K W Wx o to dO) (ha : DA X K W Wx [e] tr dr) (hbase : attributeBase o "index" X.env (eval o X.env) = eval o X.env := by rfl)
    (hfew : ((backTo cpos (starEach [e] X.env)).all (fun x => !x.1) && (backToKw cpos (keywordEach [] X.env)).all (fun x => x.1.isSome) && decide ([e].length + ([] : List Keyword).length + (if ([] : List Keyword).isEmpty then 0 else 1) < 30)) = true := by rfl)
    (hline : (apos.endLine == cpos.line) = true := by rfl) (hs : starEach [e] X.env = (false, eval e X.env) :: starEach [] X.env := by rfl) (hpl : (backTo cpos (starEach [] X.env)).any (·.1) = false := by rfl) :
    DE X K W Wx (.Call (.Attribute o "index" apos) [e] [] cpos) (tBM K "list" (rIndexD K) to tr) (tdLixD dO dr) := by
  have hk := ho.k; subst hk
  exact ⟨rfl, pe_bm PySem.F.plainAttrs_list PySem.F.slot_list_index PySem.F.type_list_index (mt_indexD (by omega)) ho.pe ha.pa hbase hfew hline hs hpl, fun I H σ τ Q R G ok rp t hq hx => ho.sim I H σ τ _ R _ ok rp t (fun v d I1 H1 q1 i1 l1 => by
    have q0 := q1
    unfold onLst at q1
    split at q1
    · obtain ⟨p, xs, rfl, sq, al⟩ := is_lst i1
      refine ⟨?_, ha.sim I1 H1 σ τ _ R _ l1.ok (rp.later l1) q1 (fun vs es I2 H2 q2 a2 l2 => ?_) (hx.later l1)⟩
      · obtain ⟨p2, xs2, e, h, _⟩ := is_lstM i1
        cases e
        exact tyV_lst (W.ex l1.ok _ _ h)
      · unfold one1 at q2
        split at q2
        · obtain ⟨y1, rfl, i2⟩ := isAll1 a2
          obtain ⟨j, z, c1, c2, h1, h2, h3, q2⟩ := q2
          obtain ⟨p1, s1⟩ := cmp_dp (W.ex l2.ok) (i1.mono l2.ex) c1
          obtain ⟨p2, s2⟩ := cmp_dp (W.ex l2.ok) i2 c2
          refine ⟨p, y1, _, _, j, toPy z, rfl, rfl, p1, p2, s1, s2, ?_, h2, fun m z' hm e => ?_, hq _ _ I2 H2 q2 (.v _) (l1.trans l2)⟩
          · rw [toPys_get, h1]; rfl
          · rw [toPys_get] at e
            obtain ⟨z2, e1, e2⟩ := Option.map_eq_some_iff.mp e
            rw [← e2]
            exact h3 m z2 hm e1
        · exact q2.elim
    · exact q1.elim) hx⟩
end
end D3
theorem D3.RoomG.units2 {k : Nat} {A : PySem.Around} (r : D3.RoomG k A) : A.units + 66 < PySem.cLine := by have := r.r.un; omega
set_option Elab.async false
set_option linter.all false
set_option maxRecDepth 100000
set_option maxHeartbeats 4000000
namespace D3
open PySem PySem.Spec PySem.W PySem.Calls PyProof.Rows L2
section
variable {K : PySem.W.Frag} {W : Wd} {Wx : WX} {X : Cx} {o : Expr} {to : TE} {dO : TDE} {apos pos : Pos}
@[simp] def tdLow (t : TDE) : TDE := fun τ Q R => t τ (fun x => onStr x fun a => a.length ≤ 5592405 ∧ Q (.str (Txt.lower a))) R
@[simp] def tdUpp (t : TDE) : TDE := fun τ Q R => t τ (fun x => onStr x fun a => a.length ≤ 5592405 ∧ Q (.str (Txt.upper a))) R
/-- list(range(a, b)) -/
def fRgL (x y : D) (Q : List D → Prop) : Prop := match x, y with
  | .v (.int i), .v (.int j) => RgOk i j ∧ Q (numsD i (j - i).toNat)
  | _, _ => False
@[simp] theorem fRgL_int {i j : Int} {Q : List D → Prop} : fRgL (.v (.int i)) (.v (.int j)) Q = (RgOk i j ∧ Q (numsD i (j - i).toNat)) := rfl
@[simp] def tdListRg (t u : TDE) : TDO := fun τ Q R => t τ (fun x => u τ (fun y => fRgL x y Q) R) R
end
end D3
set_option Elab.async false
set_option linter.all false
set_option maxRecDepth 100000
set_option maxHeartbeats 4000000
namespace D3
open PySem PySem.Spec PySem.W PySem.Calls PyProof.Rows L2
section
variable {K : PySem.W.Frag} {W : Wd} {Wx : WX} {X : Cx} {a b v o : Expr} {tv ta tb : TE} {dv da db : TDE} {tr : TA} {dr : TDA} {pos p kp : Pos}
def fMinDf (d z : D) (Q : D → Prop) : Prop := match d with
  | .lst xs => cmpOk (.lst xs) ∧ AlikeAll (toPys xs) ∧ (xs = [] → Q z) ∧ ∀ (i : Nat) d, xs[i]? = some d → (∀ e es, xs = e :: es → toPy d = minD (toPy e) (toPys es)) → Q d
  | _ => False
@[simp] theorem fMinDf_lst {xs : List D} {z : D} {Q : D → Prop} : fMinDf (.lst xs) z Q = (cmpOk (.lst xs) ∧ AlikeAll (toPys xs) ∧ (xs = [] → Q z) ∧ ∀ (i : Nat) d, xs[i]? = some d → (∀ e es, xs = e :: es → toPy d = minD (toPy e) (toPys es)) → Q d) := rfl
@[simp] def tdMinDf (u : TDA) (t : TDE) : TDE := fun τ Q R => u τ (fun ds => one1 ds fun x => t τ (fun d => fMinDf x d Q) R) R
/-- sorted(texts) -/
def fSortS : List D → (List D → Prop) → Prop := fun ds Q => match ds with
  | [.lst xs] => ∃ ks : List Str, xs = ks.map D.str ∧ ks.length < 64 ∧ ∀ ls : List Str, ls.Perm ks → sortedS ls = true → Q (ls.map D.str)
  | _ => False
@[simp] theorem fSortS_lst {xs : List D} {Q : List D → Prop} : fSortS [.lst xs] Q = ∃ ks : List Str, xs = ks.map D.str ∧ ks.length < 64 ∧ ∀ ls : List Str, ls.Perm ks → sortedS ls = true → Q (ls.map D.str) := rfl
/-- x[k], x a dict by texts of one's own -/
@[simp] def tdKix (i : Nat) (t : TDE) : TDE := fun τ Q R => ∃ gs, τ[i]? = some (some (.dk gs)) ∧ t τ (fun y => onStr y fun z => ∃ d, valD gs (.inr z) = some d ∧ Q d) R
/-- k in x, x a dict by texts -/
@[simp] def tdDin (t u : TDE) : TDE := fun τ Q R => t τ (fun y => u τ (fun x => onStr y fun z => onDic x fun gs => Q (.bl (valD gs (.inr z)).isSome)) R) R
end
/-- the entries that a comprehension makes, by texts -/
def compK (g : TDG) (tt : TDT) (tk tv : TDE) (vs : List Nat) (τ : Tau) : List D → List (Key × D) → (List (Key × D) → Prop) → Prop
  | [], acc, Q => Q acc
  | d :: ds, acc, Q => g d (wipeT τ vs) fun τ2 => tt τ2 (fun b => if b = true then tk τ2 (fun y => tv τ2 (fun z => onStr y fun k => compK g tt tk tv vs τ ds (putKD acc (.inr k) z) Q) (fun _ => False)) (fun _ => False) else compK g tt tk tv vs τ ds acc Q) (fun _ => False)
@[simp] def tdKc (ti : TDI) (G : TDG) (tt : TDT) (tk tv : TDE) (vs : List Nat) : TDX := fun τ Q R => ti τ (fun ds => ds.length ≤ sizeLine ∧ compK G tt tk tv vs τ ds [] fun gs => Q (.dk gs)) R
end D3
set_option Elab.async false
set_option linter.all false
set_option maxRecDepth 100000
set_option maxHeartbeats 4000000
namespace D3
open PySem PySem.Spec PySem.W PySem.Calls PyProof.Rows L2
section
variable {X : Cx} {K : PySem.W.Frag} {W : Wd} {Wx : WX} {fe e : Expr} {es : List Expr} {tf : TE} {df : TDE} {tr : TA} {dr : TDA} {pos : Pos} {n : Nat} {S : List (Addr × TF)}
def SelF (X : Cx) (n : Nat) (p : Addr × TF) : Prop := PySem.W.keepIn X.K (.ref p.1) = true ∧ ∃ (CX : CXT) (k : Nat) (fd : FuncData) (ps : List Str), FnG X.prog X.w X.K X.mg X.base CX k p.1 fd ps (spD X.K n p.2) ∧ RoomG k X.A ∧ Binds X.K fd ps [] ∧ Passes CX X E0
theorem selF {f : Addr} {t : TF} {CX : CXT} {k : Nat} {fd : FuncData} {ps : List Str} (F : FnG X.prog X.w X.K X.mg X.base CX k f fd ps (spD X.K n t)) (hr : RoomG k X.A) (hk : PySem.W.keepIn X.K (.ref f) = true) (hb : Binds X.K fd ps []) (hx : Passes CX X E0) : SelF X n (f, t) := ⟨hk, CX, k, fd, ps, F, hr, hb, hx⟩
theorem selNil : ∀ p ∈ ([] : List (Addr × TF)), SelF X n p := fun _ h => nomatch h
theorem selCons {p : Addr × TF} (h : SelF X n p) (r : ∀ q ∈ S, SelF X n q) : ∀ q ∈ p :: S, SelF X n q := fun q hq => by
  rcases List.mem_cons.mp hq with rfl | hq
  · exact h
  · exact r q hq
def tSel (K : PySem.W.Frag) (n : Nat) (S : List (Addr × TF)) (tf : TE) (t : TA) : TE := fun σ H Q => tf σ H fun x H1 => ∃ p ∈ S, x = .ref p.1 ∧ t σ H1 fun vs H2 => spD K n p.2 vs H2 Q E0
theorem pe_sel (hf : PE X fe tf) (hS : ∀ p ∈ S, SelF X n p) (ha : PA X (e :: es) tr)
    (ht : eval (.Call fe (e :: es) [] pos) X.env = (do callWith pos (← eval fe X.env) [] (backTo pos (starEach (e :: es) X.env)) (backToKw pos (keywordEach [] X.env))) := by rfl)
    (he : starEach (e :: es) X.env = (false, eval e X.env) :: starEach es X.env := by rfl) (hpl : (backTo pos (starEach es X.env)).any (·.1) = false := by rfl) : PE X (.Call fe (e :: es) [] pos) (tSel X.K n S tf tr) := by
  refine ⟨fun pins s σ H Q I h => ?_⟩
  rw [ht]
  refine wpAny_bind (thn (hf.run pins s σ H _ I h) fun u s1 ⟨y, H1, I1, ry, p, hp, ey, q⟩ => ?_)
  subst ey
  obtain rfl : u = Value.ref p.1 := ry
  obtain ⟨hk, CX, k, fd, ps, F, hr, hb, hx⟩ := hS p hp
  refine PySem.W.callWith_K (h₀ := X.base) I1.ok.mod.kin hk (thn (ha.run pos pins s1 σ H1 _ I1 q) fun us s2 ⟨vs, H2, J, rv, q2⟩ => ⟨J.kIn, ?_⟩) he hpl
  have hl : us.length = ps.length := rv.length.symm.trans (F.len _ _ _ _ q2)
  have b := hb s2 us J.kIn (by rw [List.append_nil]; exact hl)
  rw [List.append_nil] at b
  refine wpAny_call (codeAny_mono (F.run X.A X.stack s2 H2 ⟨us, []⟩ us vs Q E0 hr J.env0 b rv q2) fun r z hz => ?_)
  match r, hz with
  | .error e, hz => exact hx pins σ H2 s2 e z J hz
  | .ok (.ret u), hz => exact J.after hz
@[simp] def tdSel (n : Nat) (S : List (Addr × TF)) (W : Wd) (u : TDE) (v : TDA) : TDE := fun τ Q R => u τ (fun d => ∃ p ∈ S, d = .v (.ref p.1) ∧ v τ (fun ds => ds.length = n ∧ p.2 W ds Q fun _ => False) R) R
theorem de_sel (hf : DE X K W Wx fe tf df) (hS : ∀ p ∈ S, SelF X n p) (ha : DA X K W Wx (e :: es) tr dr)
    (ht : eval (.Call fe (e :: es) [] pos) X.env = (do callWith pos (← eval fe X.env) [] (backTo pos (starEach (e :: es) X.env)) (backToKw pos (keywordEach [] X.env))) := by rfl)
    (he : starEach (e :: es) X.env = (false, eval e X.env) :: starEach es X.env := by rfl) (hpl : (backTo pos (starEach es X.env)).any (·.1) = false := by rfl) : DE X K W Wx (.Call fe (e :: es) [] pos) (tSel K n S tf tr) (tdSel n S W df dr) := by
  have hk := ha.k; subst hk
  refine ⟨rfl, pe_sel hf.pe hS ha.pa ht he hpl, fun I H σ τ Q R G ok rp q hq hx => hf.sim I H σ τ _ R _ ok rp q (fun x d I1 H1 q1 i1 l1 => ?_) hx⟩
  obtain ⟨p, hp, rfl, q1⟩ := q1
  cases i1
  refine ⟨p, hp, rfl, ha.sim I1 H1 σ τ _ R _ l1.ok (rp.later l1) q1 (fun vs ds I2 H2 q2 i2 l2 => ?_) (hx.later l1)⟩
  exact ⟨W, I2, ds, Q, _, l2.ok, i2, q2.1, q2.2, fun v d I3 H3 q3 i3 l3 => hq v d I3 H3 q3 i3 ((l1.trans l2).trans l3), fun _ _ _ _ _ z _ _ => z.elim⟩
theorem de_call0 {x : Str} {p : Pos} {f : Addr} {t : TF} {CX : CXT} {k : Nat} {fd : FuncData} {ps : List Str} (F : FnG X.prog X.w X.K X.mg X.base CX k f fd ps (spD K 0 t)) (hr : RoomG k X.A) (hm : X.mg x = some (.ref f)) (hk : PySem.W.keepIn X.K (.ref f) = true) (hb : Binds K fd ps []) (hx : Passes CX X E0)
    (hg : Gl X x := by rfl) (hdb : (x == ("__debug__" : Str)) = false := by decide) (hkk : X.K = K := by rfl) : DE X K W Wx (.Call (.Name x p) [] [] pos) (tCallS (spD K 0 t) (fun _ => E0) tNil) (tdCall 0 t W tdNil) := by
  subst hkk
  refine ⟨rfl, ⟨fun pins s σ H Q I h => wpAny_Call_Name_kw (ld_glob I hg hm (PySem.W.callWith_K0 I.kIn hk ?_) hdb)⟩, SimE.call .nil⟩
  have h : spD X.K 0 t [] H Q E0 := h
  have hl : ([] : List Value).length = ps.length := (F.len _ _ _ _ h)
  have b := hb s [] I.kIn (by rw [List.append_nil]; exact hl)
  rw [List.append_nil] at b
  refine wpAny_call (codeAny_mono (F.run X.A X.stack s H ⟨[], []⟩ [] [] Q E0 hr I.env0 b .nil h) fun r z hz => ?_)
  match r, hz with
  | .error e, hz => exact hx pins σ H s e z I hz
  | .ok (.ret u), hz => exact I.after hz
end
section
variable {X : Cx} {K : PySem.W.Frag} {W : Wd} {Wx : WX} {a b : Expr} {ta tb : TE} {da db : TDE} {pos : Pos}
def rInAny (K : PySem.W.Frag) (neg : Bool) : R2 := fun x y H Q => ∃ d ds, Dp K H x d ∧ Dp K H y (.list ds) ∧ SeqAt.shaped d = true ∧ SeqAt.shaped (.list ds) = true ∧ Q (.bl (neg ^^ ds.any fun z => PyData.eqv z d)) H
theorem op_ninAny (hu : X.A.units + 65 < cLine) : OpR X (compareOp .NotIn) (rInAny X.K true) := by
  intro pins s σ H x y v u Q I rx ry q
  obtain ⟨d, ds, h1, h2, h3, h4, q⟩ := q
  rw [Bool.true_xor] at q
  exact op_notInD hu pins s σ H x y v u Q I rx ry ⟨d, ds, h1, h2, h3, h4, q⟩
def fInAny (neg : Bool) : TD2 := fun x y Q => match y with
  | .lst ds => cmpOk x ∧ cmpOk (.lst ds) ∧ Q (.bl (neg ^^ ds.any fun z => eqD z x))
  | _ => False
@[simp] theorem fInAny_lst {neg : Bool} {x : D} {ds : List D} {Q : D → Prop} : fInAny neg x (.lst ds) Q = (cmpOk x ∧ cmpOk (.lst ds) ∧ Q (.bl (neg ^^ ds.any fun z => eqD z x))) := rfl
theorem toPys_any {p : PyData → Bool} : ∀ {ds : List D}, (toPys ds).any p = ds.any fun z => p (toPy z)
  | [] => rfl
  | d :: ds => by simp only [toPys, List.any_cons]; rw [toPys_any]
theorem R2Sim.inAny {neg : Bool} : R2Sim K W (rInAny K neg) (fInAny neg) := fun I H x y dx dy Q G ok hx hy q hq => by
  unfold fInAny at q
  split at q
  · rename_i ds
    obtain ⟨c1, c2, q⟩ := q
    obtain ⟨p1, s1⟩ := cmp_dp (W.ex ok) hx c1
    obtain ⟨p2, s2⟩ := cmp_dp (W.ex ok) hy c2
    refine ⟨_, _, p1, p2, s1, s2, ?_⟩
    rw [toPys_any]
    exact hq _ _ I H q (.v _) (.refl ok)
  · exact q.elim
theorem dt_ninAny (hu : X.A.units + 66 < cLine) (ha : DE X K W Wx a ta da) (hb : DE X K W Wx b tb db) (hm : behindInMarks .NotIn b = false := by rfl) : DT X K W Wx (.Compare a [.NotIn] [b] pos) (tTest (tOp (rInAny K true) ta tb)) (tdTest (tdOp (fInAny true) da db)) := by
  have hk := ha.k; subst hk
  exact dt_cmp (op_ninAny (by omega)) .inAny ha hb hm
end
end D3
set_option Elab.async false
set_option linter.all false
namespace D3
open PySem L2
section
variable {K : PySem.W.Frag} {W : Wd} {Wx : WX} {X : Cx}
@[simp] def tdStill (i : Nat) (t : TDS) : TDS := fun τ E => ∃ ds, τ[i]? = some (some (.own ds)) ∧ t (τ.set i (some (.dat (.lst ds)))) E
theorem SimS.still {i : Nat} {ts : L2.TS} {t : TDS} (h : SimS K W Wx ts t) : SimS K W Wx ts (tdStill i t) := fun I H σ τ E D ok rp t r => by
  obtain ⟨ds, e, t⟩ := t
  obtain ⟨v, h1, h2⟩ := rp.at_ i _ e
  obtain ⟨p, vs, rfl, hp, hi, hf, al⟩ := h2
  have ok' : W.ok (upd I p (.lst vs)) H := W.fz ok hi hf hp
  have rp' := rp.frzAt e h1 hp hi al
  refine h _ H σ _ E D ok' rp' t (r.later ⟨Same.new hi, ok', fun _ _ _ _ q => q, fun a n q => ?_, fun a o => ?_⟩)
  · by_cases z : a = p
    · subst z
      exact .inr ⟨i, _, _, e, h1, rfl⟩
    · rw [upd_ne z] at q
      exact absurd n q
  · refine ⟨rp'.free a o, ?_⟩
    obtain ⟨j, s, w, f1, f2, o⟩ := o
    rcases getSet f1 with ⟨rfl, _, rfl⟩ | ⟨hj, f⟩
    · exact o.elim
    · exact .inr ⟨j, s, w, f, f2, o⟩
theorem DS.still {s : Stmt} {ts : L2.TS} {t : TDS} (i : Nat) (h : DS X K W Wx s ts t) : DS X K W Wx s ts (tdStill i t) := by
  have hk := h.k; subst hk
  exact ⟨rfl, h.ps, h.sim.still⟩
end
end D3
set_option Elab.async false
set_option linter.all false
set_option maxRecDepth 100000
set_option maxHeartbeats 4000000
namespace D3
open PySem PySem.Spec PySem.W PySem.Calls PyProof.Rows L2
section
variable {X : Cx} {pos : Pos}
/-- {k: v}, k a tuple -/
def tDisp1T (K : PySem.W.Frag) (g : PGw) (tk tv : TE) : TE := fun σ H Q => ∀ p, H p = none → (p == sysModules) = false → tk σ (upd H p (pinO p dict0)) fun x H1 => tv σ H1 fun y H2 => ∃ b k, x = .ref b ∧ H2 p = some (pinO p dict0) ∧ SqT K H2 b (k.map kV) ∧ ∀ o' u, RelV y u → DtOb g o' [(k, b, u)] → Q (.ref p) (upd H2 p (pinO p o'))
theorem pe_disp1T {kx vx : Expr} {tk tv : TE} (hu : X.A.units + 1 < cLine) (h1 : PE X kx tk) (h2 : PE X vx tv) : PE X (.Dict [some kx] [vx] pos) (tDisp1T X.K (gOf X) tk tv) := by
  refine ⟨fun pins s σ H Q I q => ?_⟩
  have hn := I.hok.fresh (Nat.le_refl s.heap.objs.size)
  have hsys : (s.heap.objs.size == sysModules) = false := beq_eq_false_iff_ne.mpr (Ne.symm (Nat.ne_of_lt I.big))
  have I1 := I.laid (a := s.heap.objs.size) (o := pinO s.heap.objs.size dict0) (h' := s.heap.push dict0) (t' := s.toks) (fun _ _ q => Heap.get?_push_of_some _ q) (Nat.le_refl _) (pinOk (Heap.get?_push_size _ rfl))
  refine wpAny_Dict_any rfl rfl (by simp) (by simp) (pairTrees_cons_walk (thn (h1.run pins _ σ _ _ I1 (q _ hn hsys)) fun kv s1 ⟨x, H1, J1, r1, q1⟩ => thn (h2.run pins s1 σ H1 _ J1 q1) fun vv s2 ⟨y, H2, J2, r2, b, k, ex, hp, sk, q2⟩ => pairTrees_nil_walk ?_))
  subst ex
  obtain rfl : kv = Value.ref b := r1
  unfold storeAll
  rw [List.forIn_cons]
  refine wpAny_bind (wpAny_bind (t_dictSet hu J2 ⟨hp, hsys, dtOb_nil, fun _ h => nomatch h⟩ (by decide) sk fun o' s3 ob J3 => wpAny_pure ?_))
  simp only [List.forIn_nil]
  exact wpAny_pure ⟨.ref _, _, J3, rfl, q2 o' vv r2 ob⟩
variable {K : PySem.W.Frag} {W : Wd} {Wx : WX}
@[simp] def tdDict1T (g : PGw) (t u : TDE) : TDE := fun τ Q R => t τ (fun x => u τ (fun y => ∃ k, keyD x = some k ∧ Q (.dt g [(k, y)])) R) R
theorem de_disp1T (g : PGw) {kx vx : Expr} {tk tv : TE} {dk dv : TDE} (hu : X.A.units + 64 < cLine) (h1 : DE X K W Wx kx tk dk) (h2 : DE X K W Wx vx tv dv) (hg : gOf X = g := by rfl) : DE X K W Wx (.Dict [some kx] [vx] pos) (tDisp1T K g tk tv) (tdDict1T g dk dv) := by
  have hk := h1.k; subst hk hg
  refine ⟨rfl, pe_disp1T (by omega) h1.pe h2.pe, fun I H σ τ Q R G ok rp q hq hx => fun p hp hs => ?_⟩
  have l0 := Later.allocO (o := pinO p dict0) ok hp
  refine h1.sim I _ σ τ _ R _ l0.ok (rp.later l0) q (fun x dx I1 H1 q1 i1 l1 => ?_) (hx.later l0)
  have l01 := l0.trans l1
  refine h2.sim I1 H1 σ τ _ R _ l1.ok (rp.later l01) q1 (fun y dy I2 H2 q2 i2 l2 => ?_) (hx.later l01)
  have l12 := l1.trans l2
  obtain ⟨k, ek, q2⟩ := q2
  obtain ⟨b, rfl, sk⟩ := is_key i1 ek
  have fp : W.free p := W.fr ok hp
  have hp2 : H2 p = some (pinO p dict0) := l12.fr p _ fp (fun z => z) upd_same
  have ip : I p = none := Same.non (W.ex ok) hp
  have ip2 : I2 p = none := Classical.byContradiction fun z => (l12.nw p ip z).elim (fun q => by rw [upd_same] at q; cases q) fun q => q.elim
  exact ⟨b, k, rfl, hp2, Same.seqT (W.ex l2.ok) (Same.seqT l2.ex sk.t), fun o' u ru ob => hq _ _ (upd I2 p (pinO p o')) _ q2 (.dt upd_same hs ob (.cons (Same.seqN (l2.ex.trans (Same.new ip2)) sk) ru (i2.mono (Same.new ip2)) .nil)) (Later.mutateFresh ok hp l12)⟩
/-- x.insert(k, e) -/
@[simp] def tdInsA (i : Nat) (u : TDA) : TDS := fun τ E => ∃ ds, τ[i]? = some (some (.own ds)) ∧ ds.length < sizeLine ∧ u τ (fun es => two es fun k d => onI k fun k => 0 ≤ k ∧ k < 2 ^ 63 ∧ E.nx (τ.set i (some (.own (ds.take k.toNat ++ [d] ++ ds.drop k.toNat))))) (fun x => E.ex x τ)
theorem SimS.insA {i : Nat} {tr : TA} {dr : TDA} (h : SimA K W Wx tr dr) : SimS K W Wx (tDrop (tBM K "list" rIns (tVar i) tr)) (tdInsA i dr) := fun I H σ τ E D ok rp t r => by
  obtain ⟨ds, e, hz, t⟩ := t
  obtain ⟨v0, h0, p0, vs0, rfl, hp0, hi0, hf0, al0⟩ := rp.at_ i _ e
  refine ⟨_, h0, tyV_lst hp0, h I H σ τ _ _ _ ok rp t (fun us es I1 H1 q1 i1 l1 => ?_) (r.xok rp)⟩
  have rp1 := rp.later l1
  unfold two at q1
  split at q1
  · obtain ⟨v1, v2, rfl, a1, a2⟩ := isAll2 i1
    obtain ⟨k, rfl, k0, k1, q⟩ := i_of a1 q1
    obtain ⟨p, vs, h1, h2, al, kk⟩ := rp1.change (es := ds.take k.toNat ++ [_] ++ ds.drop k.toNat) l1.ok e
    rw [h0] at h1
    cases h1
    obtain ⟨rp2, la⟩ := kk (vs.take k.toNat ++ [v2] ++ vs.drop k.toNat) (((al.take _).append (.cons a2 .nil)).append (al.drop _))
    exact ⟨_, vs, k, v2, rfl, rfl, h2, by rw [al.length]; exact hz, k0, k1, r.nx _ _ I1 _ q rp2 ((rp.own l1).trans la)⟩
  · exact q1.elim
theorem ds_insA (i : Nat) {a b : Expr} {tr : TA} {dr : TDA} {x : Str} {p p2 apos : Pos} (he : DA X K W Wx [a, b] tr dr) (hN : X.N[i]? = some x := by rfl) (hv : Vis X.env.scope x := by first | exact Or.inl rfl | exact Or.inr (Or.inl rfl) | exact Or.inr (Or.inr rfl)) (hd : (x == ("__debug__" : Str)) = false := by decide)
    (hcd : (x == ("__classdict__" : Str)) = false := by decide) (hbase : attributeBase (.Name x p) "insert" X.env (eval (.Name x p) X.env) = eval (.Name x p) X.env := by rfl)
    (hfew : ((backTo p2 (starEach [a, b] X.env)).all (fun x => !x.1) && (backToKw p2 (keywordEach [] X.env)).all (fun x => x.1.isSome) && decide ([a, b].length + ([] : List Keyword).length + (if ([] : List Keyword).isEmpty then 0 else 1) < 30)) = true := by rfl)
    (hline : (apos.endLine == p2.line) = true := by rfl) (hs : starEach [a, b] X.env = (false, eval a X.env) :: starEach [b] X.env := by rfl) (hpl : (backTo p2 (starEach [b] X.env)).any (·.1) = false := by rfl) (hsw : swapsWith (.Call (.Attribute (.Name x p) "insert" apos) [a, b] [] p2) none pos.line X.env = pure false := by rfl) :
    DS X K W Wx (.Expr (.Call (.Attribute (.Name x p) "insert" apos) [a, b] [] p2) pos) (tDrop (tBM K "list" rIns (tVar i) tr)) (tdInsA i dr) := by
  have hk := he.k; subst hk
  exact ⟨rfl, ps_expr (pe_bm PySem.F.plainAttrs_list PySem.F.slot_list_insert PySem.F.type_list_insert mt_insert (pe_var hN hv hd hcd) he.pa hbase hfew hline hs hpl) hsw, .insA he.sim⟩
end
section
variable {K : PySem.W.Frag} {W : Wd} {Wx : WX} {X : Cx} {e v : Expr} {es : List Expr} {tv : TE} {de : TDE} {tr : TA} {dr : TDA} {p pos kp : Pos} {x kw : Str} {k n m : Nat} {f : Addr} {fd : FuncData} {ps : List Str} {st : Stmt} {t : TF} {dv : V}
/-- f(.., k=v), what is raised is let through -/
@[simp] def tdCallKwX (n m : Nat) (t : TF) (W : Wd) (u : TDA) (v : TDE) : TDE := fun τ Q R => u τ (fun ds => v τ (fun d => ds.length = n ∧ ds.length + 1 = m ∧ t W (ds ++ [d]) Q R) R) R
theorem de_callKwX (F : FnG X.prog X.w X.K X.mg X.base (L2.CX X.prog X.w) k f fd ps (spD K m t)) (hr : RoomG k X.A) (T : HasKw K X.mg x st ps n kw dv f fd) (tk : Takes X Wx) (ha : DA X K W Wx (e :: es) tr dr) (hv : DE X K W Wx v tv de) (hg : Gl X x := by rfl)
    (hdb : (x == ("__debug__" : Str)) = false := by decide) (he : starEach (e :: es) X.env = (false, eval e X.env) :: starEach es X.env := by rfl)
    (hpl : ((backTo pos (starEach (e :: es) X.env)).any (·.1) || (backToKw pos (keywordEach [⟨some kw, v, kp⟩] X.env)).any (·.1.isNone)) = false := by rfl)
    (hall : (backToKw pos (keywordEach [⟨some kw, v, kp⟩] X.env)).all (·.1.isSome) = true := by rfl) (hks : (backToKw pos (keywordEach [⟨some kw, v, kp⟩] X.env)).filterMap (·.1) = [kw] := by rfl) :
    DE X K W Wx (.Call (.Name x p) (e :: es) [⟨some kw, v, kp⟩] pos) (tCallKw n (spD K m t) (WE Wx) tr (tCons tv tNil)) (tdCallKwX n m t W dr de) := by
  have hk := ha.k; subst hk
  refine ⟨rfl, pe_callKw F hr T (fun σ => passAt tk σ) ha.pa hv.pe hg hdb he hpl hall hks, fun I H σ τ Q R G ok rp q hq hx => ha.sim I H σ τ _ R _ ok rp q (fun vs ds I1 H1 q1 i1 l1 =>
    hv.sim I1 H1 σ τ _ R _ l1.ok (rp.later l1) q1 (fun z d I2 H2 q2 i2 l2 => ?_) (hx.later l1)) hx⟩
  obtain ⟨h1, h2, q2⟩ := q2
  refine ⟨z, rfl, by rw [i1.length]; exact h1, W, I2, ds ++ [d], Q, R, l2.ok, (i1.mono l2.ex).append (.cons i2 .nil), by rw [List.length_append]; exact h2, q2, fun v d I3 H3 q3 i3 l3 => hq v d I3 H3 q3 i3 ((l1.trans l2).trans l3), fun cls da x I3 H3 r ix l3 => hx cls da x I3 H3 r ix ((l1.trans l2).trans l3)⟩
end
end D3
set_option Elab.async false
set_option linter.all false
set_option maxRecDepth 100000
namespace D3
open PySem PySem.W PySem.Calls PyProof.Rows HeadRun
theorem left_two {p q : Program} {loose : List PySem.Str} {Xt : Shared → Bool} {K : Params → Frag} {as : List Addr} {ek : ∀ P, as = (K P).map (·.1)} {N M : Nat}
    (e : opening p = plainProg p.main.scope.names) (hN : Nat.ble 600 N = true) (f : ∀ s, fenceModules? p s = some s) (le : Nat.ble M N = true)
    (run0 : ∀ (w : World) (os : OsState), (endF (stepQ (denQ tabQ) p (w.withFollow "special-get-raises" false)) M p (w.withFollow "special-get-raises" false) os).map (fun s => (looksF p (boot_heap (w.withFollow "special-get-raises" false).params) s.abs, seenQ q loose (importedModules p.main.body) Xt s.abs, as.map (getT s))) = some (true, openGood q loose, (K (w.withFollow "special-get-raises" false).params).map fun x => some x.2))
    (run1 : ∀ (w : World) (os : OsState), (endF (stepQ (denQ tabQ) p (w.withFollow "special-get-raises" true)) M p (w.withFollow "special-get-raises" true) os).map (fun s => (looksF p (boot_heap (w.withFollow "special-get-raises" true).params) s.abs, seenQ q loose (importedModules p.main.body) Xt s.abs, as.map (getT s))) = some (true, openGood q loose, (K (w.withFollow "special-get-raises" true).params).map fun x => some x.2)) :
    LeftO p q loose Xt (Hook.obs (kHook K as ek)) (Hook.val (kHook K as ek)) N true :=
  left_oneK (M := M) e hN f le (byRow2 "special-get-raises" (P := fun w => ∀ os : OsState, (endF (stepQ (denQ tabQ) p w) M p w os).map (fun s => (looksF p (boot_heap w.params) s.abs, seenQ q loose (importedModules p.main.body) Xt s.abs, as.map (getT s))) = some (true, openGood q loose, (K w.params).map fun x => some x.2)) run0 run1)
end D3
set_option Elab.async false
set_option linter.all false
set_option maxRecDepth 100000
set_option maxHeartbeats 4000000
namespace Law
open PySem L2 D3
def top (i : Nat) : Stmt := PySem.Challenge.pw_cellscript_k32_made_refused.main.body.getD i (.Pass ⟨0, 0, 0, 0⟩)
abbrev s_Wrong : Stmt := meth (top 3) 0
theorem sc_Wrong : FnScope ["self", "at"] ["self", "at"] (defScope s_Wrong) := ⟨rfl, rfl, rfl, by decide +kernel, rfl, by decide +kernel, by decide +kernel⟩
abbrev s_TooFar : Stmt := meth (top 4) 0
theorem sc_TooFar : FnScope ["self", "most"] ["self", "most"] (defScope s_TooFar) := ⟨rfl, rfl, rfl, by decide +kernel, rfl, by decide +kernel, by decide +kernel⟩
abbrev s_NoCell : Stmt := meth (top 5) 0
abbrev s_is_whole : Stmt := top 12
abbrev n_is_whole : List Str := ["thing"]
abbrev p_is_whole : List Str := ["thing"]
theorem sc_is_whole : FnScope n_is_whole p_is_whole (defScope s_is_whole) := ⟨rfl, rfl, rfl, by decide +kernel, rfl, by decide +kernel, by decide +kernel⟩
abbrev s_is_from_to : Stmt := top 13
abbrev n_is_from_to : List Str := ["thing", "least", "most"]
abbrev p_is_from_to : List Str := ["thing", "least", "most"]
theorem sc_is_from_to : FnScope n_is_from_to p_is_from_to (defScope s_is_from_to) := ⟨rfl, rfl, rfl, by decide +kernel, rfl, by decide +kernel, by decide +kernel⟩
abbrev s_is_sign : Stmt := top 14
abbrev n_is_sign : List Str := ["thing"]
abbrev p_is_sign : List Str := ["thing"]
theorem sc_is_sign : FnScope n_is_sign p_is_sign (defScope s_is_sign) := ⟨rfl, rfl, rfl, by decide +kernel, rfl, by decide +kernel, by decide +kernel⟩
abbrev s_is_spot : Stmt := top 15
abbrev n_is_spot : List Str := ["thing"]
abbrev p_is_spot : List Str := ["thing"]
theorem sc_is_spot : FnScope n_is_spot p_is_spot (defScope s_is_spot) := ⟨rfl, rfl, rfl, by decide +kernel, rfl, by decide +kernel, by decide +kernel⟩
abbrev s_is_turn : Stmt := top 16
abbrev n_is_turn : List Str := ["thing"]
abbrev p_is_turn : List Str := ["thing"]
theorem sc_is_turn : FnScope n_is_turn p_is_turn (defScope s_is_turn) := ⟨rfl, rfl, rfl, by decide +kernel, rfl, by decide +kernel, by decide +kernel⟩
abbrev s_are_rows_of : Stmt := top 20
abbrev n_are_rows_of : List Str := ["thing", "signs", "row", "sign"]
abbrev p_are_rows_of : List Str := ["thing", "signs"]
theorem sc_are_rows_of : FnScope n_are_rows_of p_are_rows_of (defScope s_are_rows_of) := ⟨rfl, rfl, rfl, by decide +kernel, rfl, by decide +kernel, by decide +kernel⟩
abbrev s_is_picture : Stmt := top 21
abbrev n_is_picture : List Str := ["thing"]
abbrev p_is_picture : List Str := ["thing"]
theorem sc_is_picture : FnScope n_is_picture p_is_picture (defScope s_is_picture) := ⟨rfl, rfl, rfl, by decide +kernel, rfl, by decide +kernel, by decide +kernel⟩
abbrev s_is_piece : Stmt := top 22
abbrev n_is_piece : List Str := ["thing"]
abbrev p_is_piece : List Str := ["thing"]
theorem sc_is_piece : FnScope n_is_piece p_is_piece (defScope s_is_piece) := ⟨rfl, rfl, rfl, by decide +kernel, rfl, by decide +kernel, by decide +kernel⟩
abbrev s_spots_of : Stmt := top 23
abbrev n_spots_of : List Str := ["piece", "x", "y", "at", "spot", "found", "down", "row", "aside", "sign"]
abbrev p_spots_of : List Str := ["piece", "x", "y"]
theorem sc_spots_of : FnScope n_spots_of p_spots_of (defScope s_spots_of) := ⟨rfl, rfl, rfl, by decide +kernel, rfl, by decide +kernel, by decide +kernel⟩
abbrev s_need_good : Stmt := top 26
abbrev n_need_good : List Str := ["at", "good"]
abbrev p_need_good : List Str := ["at", "good"]
theorem sc_need_good : FnScope n_need_good p_need_good (defScope s_need_good) := ⟨rfl, rfl, rfl, by decide +kernel, rfl, by decide +kernel, by decide +kernel⟩
abbrev s_is_listed : Stmt := top 27
abbrev n_is_listed : List Str := ["thing", "x", "y", "sign"]
abbrev p_is_listed : List Str := ["thing"]
theorem sc_is_listed : FnScope n_is_listed p_is_listed (defScope s_is_listed) := ⟨rfl, rfl, rfl, by decide +kernel, rfl, by decide +kernel, by decide +kernel⟩
abbrev s_are_listed : Stmt := top 28
abbrev n_are_listed : List Str := ["thing", "x", "y", "sign", "cell"]
abbrev p_are_listed : List Str := ["thing"]
theorem sc_are_listed : FnScope n_are_listed p_are_listed (defScope s_are_listed) := ⟨rfl, rfl, rfl, by decide +kernel, rfl, by decide +kernel, by decide +kernel⟩
abbrev s_need_near : Stmt := top 29
abbrev n_need_near : List Str := ["field", "left", "top", "right", "bottom"]
abbrev p_need_near : List Str := ["field"]
theorem sc_need_near : FnScope n_need_near p_need_near (defScope s_need_near) := ⟨rfl, rfl, rfl, by decide +kernel, rfl, by decide +kernel, by decide +kernel⟩
abbrev s_endless : Stmt := top 31
abbrev n_endless : List Str := ["cells", "turn", "x", "y", "sign"]
abbrev p_endless : List Str := ["cells", "turn"]
theorem sc_endless : FnScope n_endless p_endless (defScope s_endless) := ⟨rfl, rfl, rfl, by decide +kernel, rfl, by decide +kernel, by decide +kernel⟩
abbrev s_laid_of : Stmt := top 32
abbrev n_laid_of : List Str := ["picture", "x", "y", "sign"]
abbrev p_laid_of : List Str := ["picture"]
theorem sc_laid_of : FnScope n_laid_of p_laid_of (defScope s_laid_of) := ⟨rfl, rfl, rfl, by decide +kernel, rfl, by decide +kernel, by decide +kernel⟩
abbrev s_torus : Stmt := top 33
abbrev n_torus : List Str := ["picture", "turn"]
abbrev p_torus : List Str := ["picture", "turn"]
theorem sc_torus : FnScope n_torus p_torus (defScope s_torus) := ⟨rfl, rfl, rfl, by decide +kernel, rfl, by decide +kernel, by decide +kernel⟩
abbrev s_box : Stmt := top 34
abbrev n_box : List Str := ["picture", "edge", "turn"]
abbrev p_box : List Str := ["picture", "edge", "turn"]
theorem sc_box : FnScope n_box p_box (defScope s_box) := ⟨rfl, rfl, rfl, by decide +kernel, rfl, by decide +kernel, by decide +kernel⟩
abbrev s_Lbag : Stmt := top 36
abbrev n_Lbag : List Str := ["_law_script", "_law_cell"]
abbrev p_Lbag : List Str := ["_law_script"]
theorem sc_Lbag : FnScope n_Lbag p_Lbag (defScope s_Lbag) := ⟨rfl, rfl, rfl, by decide +kernel, rfl, by decide +kernel, by decide +kernel⟩
abbrev s_Ltake : Stmt := top 37
abbrev n_Ltake : List Str := ["_law_bag_here", "_law_many", "_law_cell", "_law_value", "_law_first", "_law_second"]
abbrev p_Ltake : List Str := ["_law_bag_here", "_law_many"]
theorem sc_Ltake : FnScope n_Ltake p_Ltake (defScope s_Ltake) := ⟨rfl, rfl, rfl, by decide +kernel, rfl, by decide +kernel, by decide +kernel⟩
abbrev s_Lsigns : Stmt := top 38
abbrev n_Lsigns : List Str := ["_law_many"]
abbrev p_Lsigns : List Str := ["_law_many"]
theorem sc_Lsigns : FnScope n_Lsigns p_Lsigns (defScope s_Lsigns) := ⟨rfl, rfl, rfl, by decide +kernel, rfl, by decide +kernel, by decide +kernel⟩
abbrev s_Ldrawn_sign : Stmt := top 39
abbrev n_Ldrawn_sign : List Str := ["_law_bag_here", "_law_signs_here"]
abbrev p_Ldrawn_sign : List Str := ["_law_bag_here", "_law_signs_here"]
theorem sc_Ldrawn_sign : FnScope n_Ldrawn_sign p_Ldrawn_sign (defScope s_Ldrawn_sign) := ⟨rfl, rfl, rfl, by decide +kernel, rfl, by decide +kernel, by decide +kernel⟩
abbrev s_Lclass : Stmt := top 40
abbrev n_Lclass : List Str := ["_law_e"]
abbrev p_Lclass : List Str := ["_law_e"]
theorem sc_Lclass : FnScope n_Lclass p_Lclass (defScope s_Lclass) := ⟨rfl, rfl, rfl, by decide +kernel, rfl, by decide +kernel, by decide +kernel⟩
abbrev s_Lis_whole : Stmt := top 41
abbrev n_Lis_whole : List Str := ["_law_thing", "_law_low", "_law_high"]
abbrev p_Lis_whole : List Str := ["_law_thing", "_law_low", "_law_high"]
theorem sc_Lis_whole : FnScope n_Lis_whole p_Lis_whole (defScope s_Lis_whole) := ⟨rfl, rfl, rfl, by decide +kernel, rfl, by decide +kernel, by decide +kernel⟩
abbrev s_Lis_sign : Stmt := top 42
abbrev n_Lis_sign : List Str := ["_law_thing"]
abbrev p_Lis_sign : List Str := ["_law_thing"]
theorem sc_Lis_sign : FnScope n_Lis_sign p_Lis_sign (defScope s_Lis_sign) := ⟨rfl, rfl, rfl, by decide +kernel, rfl, by decide +kernel, by decide +kernel⟩
abbrev s_Lis_cell : Stmt := top 43
abbrev n_Lis_cell : List Str := ["_law_thing", "_law_good"]
abbrev p_Lis_cell : List Str := ["_law_thing"]
theorem sc_Lis_cell : FnScope n_Lis_cell p_Lis_cell (defScope s_Lis_cell) := ⟨rfl, rfl, rfl, by decide +kernel, rfl, by decide +kernel, by decide +kernel⟩
abbrev s_Lare_cells : Stmt := top 44
abbrev n_Lare_cells : List Str := ["_law_thing", "_law_spots", "_law_one", "_law_k"]
abbrev p_Lare_cells : List Str := ["_law_thing"]
theorem sc_Lare_cells : FnScope n_Lare_cells p_Lare_cells (defScope s_Lare_cells) := ⟨rfl, rfl, rfl, by decide +kernel, rfl, by decide +kernel, by decide +kernel⟩
abbrev s_Lis_picture : Stmt := top 45
abbrev n_Lis_picture : List Str := ["_law_thing", "_law_row", "_law_sign"]
abbrev p_Lis_picture : List Str := ["_law_thing"]
theorem sc_Lis_picture : FnScope n_Lis_picture p_Lis_picture (defScope s_Lis_picture) := ⟨rfl, rfl, rfl, by decide +kernel, rfl, by decide +kernel, by decide +kernel⟩
abbrev s_Lcells : Stmt := top 46
abbrev n_Lcells : List Str := ["_law_bag_here", "_law_left", "_law_some", "_law_k", "_law_far", "_law_found", "_law_one", "_law_other"]
abbrev p_Lcells : List Str := ["_law_bag_here"]
theorem sc_Lcells : FnScope n_Lcells p_Lcells (defScope s_Lcells) := ⟨rfl, rfl, rfl, by decide +kernel, rfl, by decide +kernel, by decide +kernel⟩
abbrev s_Ldeep : Stmt := top 47
abbrev n_Ldeep : List Str := ["_law_found", "_law_k"]
abbrev p_Ldeep : List Str := []
theorem sc_Ldeep : FnScope n_Ldeep p_Ldeep (defScope s_Ldeep) := ⟨rfl, rfl, rfl, by decide +kernel, rfl, by decide +kernel, by decide +kernel⟩
abbrev s_Lbent : Stmt := top 48
abbrev n_Lbent : List Str := ["_law_bag_here", "_law_some", "_law_found", "_law_k", "_law_good", "_law_x", "_law_y", "_law_sign", "_law_odd", "_law_one"]
abbrev p_Lbent : List Str := ["_law_bag_here", "_law_some"]
theorem sc_Lbent : FnScope n_Lbent p_Lbent (defScope s_Lbent) := ⟨rfl, rfl, rfl, by decide +kernel, rfl, by decide +kernel, by decide +kernel⟩
abbrev s_Lrows : Stmt := top 49
abbrev n_Lrows : List Str := ["_law_bag_here", "_law_signs_here", "_law_wide", "_law_high", "_law_y", "_law_x"]
abbrev p_Lrows : List Str := ["_law_bag_here"]
theorem sc_Lrows : FnScope n_Lrows p_Lrows (defScope s_Lrows) := ⟨rfl, rfl, rfl, by decide +kernel, rfl, by decide +kernel, by decide +kernel⟩
abbrev s_Lbent_rows : Stmt := top 50
abbrev n_Lbent_rows : List Str := ["_law_bag_here", "_law_rows_here", "_law_found", "_law_k", "_law_row", "_law_at", "_law_odd", "_law_more", "_law_sign"]
abbrev p_Lbent_rows : List Str := ["_law_bag_here", "_law_rows_here"]
theorem sc_Lbent_rows : FnScope n_Lbent_rows p_Lbent_rows (defScope s_Lbent_rows) := ⟨rfl, rfl, rfl, by decide +kernel, rfl, by decide +kernel, by decide +kernel⟩
abbrev s_Ltold : Stmt := top 51
abbrev n_Ltold : List Str := ["_law_door", "_law_things", "_law_e"]
abbrev p_Ltold : List Str := ["_law_door", "_law_things"]
theorem sc_Ltold : FnScope n_Ltold p_Ltold (defScope s_Ltold) := ⟨rfl, rfl, rfl, by decide +kernel, rfl, by decide +kernel, by decide +kernel⟩
abbrev s_Ldue : Stmt := top 52
abbrev n_Ldue : List Str := ["_law_door", "_law_things", "_law_good", "_law_across", "_law_down", "_law_one"]
abbrev p_Ldue : List Str := ["_law_door", "_law_things"]
theorem sc_Ldue : FnScope n_Ldue p_Ldue (defScope s_Ldue) := ⟨rfl, rfl, rfl, by decide +kernel, rfl, by decide +kernel, by decide +kernel⟩
abbrev s_law : Stmt := top 53
abbrev n_law : List Str := ["_law_script", "_law_bag_here", "_law_k", "_law_door", "_law_things", "_law_kept", "_law_due_here", "_law_again", "_law_found"]
abbrev p_law : List Str := ["_law_script"]
theorem sc_law : FnScope n_law p_law (defScope s_law) := ⟨rfl, rfl, rfl, by decide +kernel, rfl, by decide +kernel, by decide +kernel⟩
abbrev s_Field___init__ : Stmt := meth (top 30) 0
abbrev n_Field___init__ : List Str := ["self", "form", "laid", "now", "width", "height", "rim"]
abbrev p_Field___init__ : List Str := ["self", "form", "laid", "now", "width", "height", "rim"]
theorem sc_Field___init__ : FnScope n_Field___init__ p_Field___init__ (defScope s_Field___init__) := ⟨rfl, rfl, rfl, by decide +kernel, rfl, by decide +kernel, by decide +kernel⟩
abbrev s_Field_kind : Stmt := meth (top 30) 4
abbrev n_Field_kind : List Str := ["self"]
abbrev p_Field_kind : List Str := ["self"]
theorem sc_Field_kind : FnScope n_Field_kind p_Field_kind (defScope s_Field_kind) := ⟨rfl, rfl, rfl, by decide +kernel, rfl, by decide +kernel, by decide +kernel⟩
abbrev s_Field_frame : Stmt := meth (top 30) 9
abbrev n_Field_frame : List Str := ["self", "across", "down", "x", "y"]
abbrev p_Field_frame : List Str := ["self"]
theorem sc_Field_frame : FnScope n_Field_frame p_Field_frame (defScope s_Field_frame) := ⟨rfl, rfl, rfl, by decide +kernel, rfl, by decide +kernel, by decide +kernel⟩
structure Txt (K : PySem.W.Frag) (mg : Str → Option Value) (ad : Nat → Addr) (fd : Nat → FuncData) : Prop where
  m_isinstance : mg "isinstance" = none
  m_int : mg "int" = none
  m_bool : mg "bool" = none
  m_str : mg "str" = none
  m_len : mg "len" = none
  m_all : mg "all" = none
  m_list : mg "list" = none
  m_enumerate : mg "enumerate" = none
  m_tuple : mg "tuple" = none
  m_max : mg "max" = none
  m_abs : mg "abs" = none
  m_range : mg "range" = none
  m_min : mg "min" = none
  m_repr : mg "repr" = none
  c_SIGNS : HasC mg "SIGNS" (.str ".abcdefghijklmnopqrstuvwxyz")
  c_FARTHEST : HasC mg "FARTHEST" (.int 1000000)
  c_LATEST : HasC mg "LATEST" (.int 1000000000)
  c_MOST_SIDE : HasC mg "MOST_SIDE" (.int 32)
  c_LEFT_ALONE : HasC mg "LEFT_ALONE" (.str "_")
  c_GROUND : HasC mg "GROUND" (.str ".")
  c_MOST_FRAME : HasC mg "MOST_FRAME" (.int 200)
  x_CellError : PlainX K mg "CellError" (ad 2)
  x_Wrong : InitX K mg "Wrong" (ad 3) (ad 1003) s_Wrong "Wrong.__init__" ["self", "at"] (fd 1003)
  f_Wrong_at : PySem.W.findIn K (.ref (ad 3)) "at" = some none
  x_TooFar : InitX K mg "TooFar" (ad 4) (ad 1004) s_TooFar "TooFar.__init__" ["self", "most"] (fd 1004)
  f_TooFar_most : PySem.W.findIn K (.ref (ad 4)) "most" = some none
  x_NoCell : InitX K mg "NoCell" (ad 5) (ad 1005) s_NoCell "NoCell.__init__" ["self", "x", "y"] (fd 1005)
  f_NoCell_x : PySem.W.findIn K (.ref (ad 5)) "x" = some none
  f_NoCell_y : PySem.W.findIn K (.ref (ad 5)) "y" = some none
  x_Fixed : PlainX K mg "Fixed" (ad 6)
  b_CellError : BaseX K mg "CellError" (ad 2)
  e_Wrong_CellError : PySem.W.exmOne K (.ref (ad 3)) (.ref (ad 2)) = some true
  k_Wrong_Wrong : PySem.W.kitOne K (.ref (ad 3)) (.ref (ad 3)) = some true
  k_Wrong_TooFar : PySem.W.kitOne K (.ref (ad 3)) (.ref (ad 4)) = some false
  k_Wrong_NoCell : PySem.W.kitOne K (.ref (ad 3)) (.ref (ad 5)) = some false
  k_Wrong_Fixed : PySem.W.kitOne K (.ref (ad 3)) (.ref (ad 6)) = some false
  e_TooFar_CellError : PySem.W.exmOne K (.ref (ad 4)) (.ref (ad 2)) = some true
  k_TooFar_Wrong : PySem.W.kitOne K (.ref (ad 4)) (.ref (ad 3)) = some false
  k_TooFar_TooFar : PySem.W.kitOne K (.ref (ad 4)) (.ref (ad 4)) = some true
  k_TooFar_NoCell : PySem.W.kitOne K (.ref (ad 4)) (.ref (ad 5)) = some false
  k_TooFar_Fixed : PySem.W.kitOne K (.ref (ad 4)) (.ref (ad 6)) = some false
  cl_Field : Cls K (ad 30)
  mk_Field : Mk K (ad 30) (ad 3100)
  g_Field : mg "Field" = some (.ref (ad 30))
  is_Field : IsC K (ad 30)
  ne_Field : OwnNe K (ad 30)
  na_Field_form : NoAttr K (ad 30) "form"
  na_Field_laid : NoAttr K (ad 30) "laid"
  na_Field_when : NoAttr K (ad 30) "when"
  na_Field_width : NoAttr K (ad 30) "width"
  na_Field_height : NoAttr K (ad 30) "height"
  na_Field_rim : NoAttr K (ad 30) "rim"
  h_is_whole : HasFn K mg "is_whole" s_is_whole p_is_whole (ad 12) (fd 12)
  h_is_from_to : HasFn K mg "is_from_to" s_is_from_to p_is_from_to (ad 13) (fd 13)
  h_is_sign : HasFn K mg "is_sign" s_is_sign p_is_sign (ad 14) (fd 14)
  h_is_spot : HasFn K mg "is_spot" s_is_spot p_is_spot (ad 15) (fd 15)
  h_is_turn : HasFn K mg "is_turn" s_is_turn p_is_turn (ad 16) (fd 16)
  h_are_rows_of : HasFn K mg "are_rows_of" s_are_rows_of p_are_rows_of (ad 20) (fd 20)
  h_is_picture : HasFn K mg "is_picture" s_is_picture p_is_picture (ad 21) (fd 21)
  h_is_piece : HasFn K mg "is_piece" s_is_piece p_is_piece (ad 22) (fd 22)
  h_spots_of : HasFn K mg "spots_of" s_spots_of p_spots_of (ad 23) (fd 23)
  h_need_good : HasFn K mg "need_good" s_need_good p_need_good (ad 26) (fd 26)
  h_is_listed : HasFn K mg "is_listed" s_is_listed p_is_listed (ad 27) (fd 27)
  h_are_listed : HasFn K mg "are_listed" s_are_listed p_are_listed (ad 28) (fd 28)
  h_need_near : HasFn K mg "need_near" s_need_near p_need_near (ad 29) (fd 29)
  h_endless : HasKw K mg "endless" s_endless p_endless 1 "turn" (.int 0) (ad 31) (fd 31)
  h_laid_of : HasFn K mg "laid_of" s_laid_of p_laid_of (ad 32) (fd 32)
  h_torus : HasKw K mg "torus" s_torus p_torus 1 "turn" (.int 0) (ad 33) (fd 33)
  h_box : HasKw K mg "box" s_box p_box 2 "turn" (.int 0) (ad 34) (fd 34)
  h_Lbag : HasFn K mg "_law_bag" s_Lbag p_Lbag (ad 36) (fd 36)
  h_Ltake : HasFn K mg "_law_take" s_Ltake p_Ltake (ad 37) (fd 37)
  h_Lsigns : HasFn K mg "_law_signs" s_Lsigns p_Lsigns (ad 38) (fd 38)
  h_Ldrawn_sign : HasFn K mg "_law_drawn_sign" s_Ldrawn_sign p_Ldrawn_sign (ad 39) (fd 39)
  h_Lclass : HasFn K mg "_law_class" s_Lclass p_Lclass (ad 40) (fd 40)
  h_Lis_whole : HasFn K mg "_law_is_whole" s_Lis_whole p_Lis_whole (ad 41) (fd 41)
  h_Lis_sign : HasFn K mg "_law_is_sign" s_Lis_sign p_Lis_sign (ad 42) (fd 42)
  h_Lis_cell : HasFn K mg "_law_is_cell" s_Lis_cell p_Lis_cell (ad 43) (fd 43)
  h_Lare_cells : HasFn K mg "_law_are_cells" s_Lare_cells p_Lare_cells (ad 44) (fd 44)
  h_Lis_picture : HasFn K mg "_law_is_picture" s_Lis_picture p_Lis_picture (ad 45) (fd 45)
  h_Lcells : HasFn K mg "_law_cells" s_Lcells p_Lcells (ad 46) (fd 46)
  h_Ldeep : HasFn K mg "_law_deep" s_Ldeep p_Ldeep (ad 47) (fd 47)
  h_Lbent : HasFn K mg "_law_bent" s_Lbent p_Lbent (ad 48) (fd 48)
  h_Lrows : HasFn K mg "_law_rows" s_Lrows p_Lrows (ad 49) (fd 49)
  h_Lbent_rows : HasFn K mg "_law_bent_rows" s_Lbent_rows p_Lbent_rows (ad 50) (fd 50)
  h_Ltold : HasFn K mg "_law_told" s_Ltold p_Ltold (ad 51) (fd 51)
  h_Ldue : HasFn K mg "_law_due" s_Ldue p_Ldue (ad 52) (fd 52)
  h_law : HasFn K mg "law" s_law p_law (ad 53) (fd 53)
  h_Field___init__ : HasMt K (ad 30) "__init__" "Field.__init__" s_Field___init__ p_Field___init__ (ad 3100) (fd 3100)
  h_Field_kind : HasMt K (ad 30) "kind" "Field.kind" s_Field_kind p_Field_kind (ad 3104) (fd 3104)
  h_Field_frame : HasMt K (ad 30) "frame" "Field.frame" s_Field_frame p_Field_frame (ad 3109) (fd 3109)
section
variable {P : Program} {w : World} {K : PySem.W.Frag} {mg : Str → Option Value} {base : Heap} {ad : Nat → Addr} {fd : Nat → FuncData}
theorem okI_Wrong (T : Txt K mg ad fd) : FnOk P w K mg base CX0 1 (ad 1003) (fd 1003) ["self", "at"] (spInit1 K "at") :=
  Fun.ok T.x_Wrong.F sc_Wrong (fun vs H Q E h => spInit1_len h) fun cdv A outer s H vs Q E hr h => ⟨_, pss_cons (ps_expr (pe_clsinit (by rfl) T.b_CellError (pa_cons (pv 0) (pa_cons pe_str pa_nil)))) (pss_one (ps_ost (pv 0) (pv 1))), read_init1 h⟩
theorem okI_TooFar (T : Txt K mg ad fd) : FnOk P w K mg base CX0 1 (ad 1004) (fd 1004) ["self", "most"] (spInit1 K "most") :=
  Fun.ok T.x_TooFar.F sc_TooFar (fun vs H Q E h => spInit1_len h) fun cdv A outer s H vs Q E hr h => ⟨_, pss_cons (ps_expr (pe_clsinit (by rfl) T.b_CellError (pa_cons (pv 0) (pa_cons pe_str pa_nil)))) (pss_one (ps_ost (pv 0) (pv 1))), read_init1 h⟩
def isW : D → Bool
  | .v (.int _) => true
  | _ => false
def t_is_whole : TF := fun W ds Q _ => ∃ d t, ds = [d] ∧ tyD d = some t ∧ Q (.bl (isW d))
theorem ok_is_whole (T : Txt K mg ad fd) : FnG P w K mg base CX0 1 (ad 12) (fd 12) p_is_whole (spD K 1 t_is_whole) := by
  refine okD T.h_is_whole.F sc_is_whole (fun cdv A outer s H E hr => ⟨_, _, fun W => (dss_one (ds_ret (de_and (de_isi T.m_isinstance (da_cons (dv 0) (da_cons (de_ty "int" T.m_int) da_nil))) (de_one (de_not (de_isi T.m_isinstance (da_cons (dv 0) (da_cons (de_ty "bool" T.m_bool) da_nil)))))))), fun W ds Q hl ht => ?_⟩) (fun _ _ _ _ h => h)
  obtain ⟨d, t, rfl, ht, hq⟩ := ht
  simp only [isW] at hq
  rcases d with (_ | _ | _ | _ | _ | _ | _ | _) | _ | _ | _ | _ | _ <;> simp [isTy, tyL] at ht ⊢ <;> first | exact hq | cases ht
def t_is_from_to : TF := fun W ds Q _ => ∃ (d : D) (t : String) (a b : Int), ds = [d, .int a, .int b] ∧ tyD d = some t ∧ Q (.bl (match d with | .v (.int i) => decide (a ≤ i ∧ i ≤ b) | _ => false))
theorem ok_is_from_to (T : Txt K mg ad fd) : FnG P w K mg base CX0 2 (ad 13) (fd 13) p_is_from_to (spD K 3 t_is_from_to) := by
  have G_is_whole := ok_is_whole (P := P) (w := w) (base := base) T
  refine okD T.h_is_from_to.F sc_is_from_to (fun cdv A outer s H E hr => ⟨_, _, fun W => (dss_one (ds_ret (de_and (de_call G_is_whole (hr.mono (by decide)) T.h_is_whole.g T.h_is_whole.k T.h_is_whole.b pass0 (da_cons (dv 0) da_nil)) (de_one (de_chain op_le op_le .i0 .i0 (dv 1) (dv 0) (dv 2)))))), fun W ds Q hl ht => ?_⟩) (fun _ _ _ _ h => h)
  obtain ⟨d, t, a, b, rfl, ht, hq⟩ := ht
  simp [t_is_whole]
  refine ⟨⟨t, ht⟩, ?_⟩
  rcases d with (_ | _ | i | _ | _ | _ | _ | _) | _ | _ | _ | _ | _ <;> simp [isW] at hq ⊢ <;> first | exact hq | skip
  by_cases h1 : a ≤ i <;> simp [h1] at hq ⊢ <;> exact hq
def rowOkD (n : Nat) (S : List Nat) (d : D) : Bool := match d with
  | .v (.str s) => decide (s.length = n) && s.cps.toList.all fun c => decide (c ∈ S)
  | _ => false
theorem rowOkD_str {n : Nat} {S : List Nat} {s : Str} : rowOkD n S (.v (.str s)) = (decide (s.length = n) && s.cps.toList.all fun c => decide (c ∈ S)) := rfl
/-- rows of texts, within the bounds, alike long, of the signs S -/
def rowsB (xs : List D) (S : List Nat) : Bool :=
  decide (1 ≤ xs.length ∧ xs.length ≤ 32) && xs.all isStrD && match xs with
  | .v (.str z) :: _ => decide (1 ≤ z.length ∧ z.length ≤ 32) && xs.all (rowOkD z.length S)
  | _ => false
def thingsOk (xs : List D) : Prop := xs.length ≤ 16777216 ∧ (∀ x ∈ xs, ∃ t, tyD x = some t) ∧ ∀ s, .str s ∈ xs → s.length ≤ 16777216
def t_are_rows_of : TF := fun W ds Q _ => ∃ (d : D) (t : String) (S : List Nat), ds = [d, sD S] ∧ tyD d = some t ∧ (∀ xs, d = .lst xs → thingsOk xs) ∧ Q (.bl (match d with | .lst xs => rowsB xs S | _ => false))
theorem ok_are_rows_of (T : Txt K mg ad fd) : FnG P w K mg base CX0 1 (ad 20) (fd 20) p_are_rows_of (spD K 2 t_are_rows_of) := by
  obtain ⟨u_MOST_SIDE, g_MOST_SIDE, r_MOST_SIDE⟩ := T.c_MOST_SIDE
  refine okD T.h_are_rows_of.F sc_are_rows_of (fun cdv A outer s H E hr => ⟨_, _, fun W => (dss_cons (ds_if (DW.t (dw_or (dt_not (dt_val (de_isi T.m_isinstance (da_cons (dv 0) (da_cons (de_ty "list" T.m_list) da_nil))))) (dw_or1 (dt_not (dt_chain op_le op_le .i0 .i0 de_int (de_len T.m_len (da_cons (dv 0) da_nil)) (de_glob g_MOST_SIDE r_MOST_SIDE)))))) (dss_one (ds_ret de_bl)) dss_nil)
      (dss_cons (ds_if (DW.t (dw_or (dt_not (dt_val (de_all T.m_all (da_cons (DO.e (do_lc rfl sc_are_rows_of.nd (di_any (dv 0)) (blkOk_by (own := [("row", 2)]) (N := n_are_rows_of) (by kernel_rfl)) (fun _ _ _ _ _ => (dg_name (i := 2) sc_are_rows_of.nd)) (fun _ _ _ _ _ => dts_nil) (fun _ _ _ _ _ => (de_isi T.m_isinstance (da_cons (dv 2) (da_cons (de_ty "str" T.m_str) da_nil)))))) da_nil)))) (dw_or1 (dt_not (dt_chain op_le op_le .i0 .i0 de_int (de_len T.m_len (da_cons (de_ix (dv 0) de_int) da_nil)) (de_glob g_MOST_SIDE r_MOST_SIDE)))))) (dss_one (ds_ret de_bl)) dss_nil)
      (dss_one (ds_ret (de_all T.m_all (da_cons (DO.e (do_lc rfl sc_are_rows_of.nd (di_any (dv 0)) (blkOk_by (own := [("row", 2)]) (N := n_are_rows_of) (by kernel_rfl)) (fun _ _ _ _ _ => (dg_name (i := 2) sc_are_rows_of.nd)) (fun _ _ _ _ _ => dts_nil) (fun _ _ _ _ _ => (de_and (de_eq hr.units (de_len T.m_len (da_cons (dv 2) da_nil)) (de_len T.m_len (da_cons (de_ix (dv 0) de_int) da_nil))) (de_one (de_all T.m_all (da_cons (DO.e (do_lc rfl sc_are_rows_of.nd (di_any (dv 2)) (blkOk_by (own := [("sign", 3)]) (N := n_are_rows_of) (by kernel_rfl)) (fun _ _ _ _ _ => (dg_name (i := 3) sc_are_rows_of.nd)) (fun _ _ _ _ _ => dts_nil) (fun _ _ _ _ _ => (de_in (dv 3) (dv 1))))) da_nil))))))) da_nil)))))), fun W ds Q hl ht => ?_⟩) (fun _ _ _ _ h => h)
  obtain ⟨d, t, S, rfl, ht, hx, hq⟩ := ht
  by_cases hd : ∃ xs, d = .lst xs
  case neg =>
    rcases d with (_ | _ | _ | _ | _ | _ | _ | _) | xs | _ | _ | _ | _ <;> simp [isTy, tyL] at ht hq ⊢ <;> first | exact absurd ⟨_, rfl⟩ hd | exact hq | cases ht
  obtain ⟨xs, rfl⟩ := hd
  obtain ⟨hl1, hl2, hl3⟩ := hx xs rfl
  have hq : Q (.bl (rowsB xs S)) := hq
  simp [isTy, tyL]
  have nope : rowsB xs S = false → Q (D.bl false) := fun e => by rw [e] at hq; exact hq
  by_cases h1 : 1 ≤ xs.length
  case neg => rw [if_neg (by omega)]; exact nope (by simp [rowsB, h1])
  rw [if_pos (by omega)]
  by_cases h2 : xs.length ≤ 32
  case neg => rw [if_neg (by omega)]; exact nope (by simp [rowsB, h2])
  rw [if_pos (by omega)]
  refine ⟨hl1, compD_map (fun d => .bl (isStrD d)) (fun d hd Kk hk => ?_) ?_⟩
  · obtain ⟨t, ht⟩ := hl2 d hd
    rcases d with (_ | _ | _ | _ | _ | _ | _ | _) | _ | _ | _ | _ | _ <;> simp [isTy, tyL] at ht ⊢ <;> first | exact hk | cases ht
  refine ⟨xs.map isStrD, by simp, ?_⟩
  by_cases h3 : false ∈ xs.map isStrD
  · rw [if_pos h3]
    refine nope ?_
    obtain ⟨d, hd, e⟩ := List.mem_map.mp h3
    have : xs.all isStrD = false := by
      rw [List.all_eq_false]
      exact ⟨d, hd, by rw [e]; decide⟩
    simp [rowsB, this]
  rw [if_neg h3]
  have h4 : ∀ d ∈ xs, isStrD d = true := fun d hd => by
    cases e : isStrD d with
    | true => rfl
    | false => exact absurd (List.mem_map.mpr ⟨d, hd, e⟩) h3
  have h4' : xs.all isStrD = true := List.all_eq_true.mpr h4
  cases xs with
  | nil => simp at h1
  | cons x xs =>
    have hx := h4 x List.mem_cons_self
    rcases x with (_ | _ | _ | z | _ | _ | _ | _) | _ | _ | _ | _ | _ <;> simp [isStrD] at hx
    refine ⟨_, atI_zero _ _, ?_⟩
    have hz := hl3 z List.mem_cons_self
    simp [hz]
    by_cases h5 : 1 ≤ z.length
    case neg => rw [if_neg (by omega)]; exact nope (by simp [rowsB, h5])
    rw [if_pos (by omega)]
    by_cases h6 : z.length ≤ 32
    case neg => rw [if_neg (by omega)]; exact nope (by simp [rowsB, h6])
    rw [if_pos (by omega)]
    refine ⟨by simpa using hl1, compD_map (fun d => .bl (rowOkD z.length S d)) (fun d hd Kk hk => ?_) ?_⟩
    · have hs := h4 d hd
      rcases d with (_ | _ | _ | s | _ | _ | _ | _) | _ | _ | _ | _ | _ <;> simp [isStrD] at hs
      have hsz := hl3 s hd
      simp [hsz, hz, wipeT, atI_zero]
      by_cases h7 : s.length = z.length
      case neg =>
        rw [if_neg (by omega)]
        simpa [rowOkD_str, h7] using hk
      rw [if_pos (by omega)]
      have e7 : decide (s.length = z.length) = true := decide_eq_true h7
      rw [rowOkD_str, e7, Bool.true_and] at hk
      refine ⟨by rw [show (signs s).length = s.length by unfold signs; simp; rfl]; exact hsz, ?_⟩
      have hsg : signs s = s.cps.toList.map fun c => sD [c] := by rw [mk_of s, signs_mk]; simp
      rw [hsg]
      refine compD_map (fun d => .bl (match d with | .v (.str x) => inS x (mk S) | _ => false)) (fun d hd Kk hk => ?_) ⟨s.cps.toList.map fun c => decide (c ∈ S), ?_, ?_⟩
      · obtain ⟨c, _, rfl⟩ := List.mem_map.mp hd
        simp [wipeT] at hk ⊢
        exact hk
      · simp
      · have : (List.map (fun c => decide (c ∈ S)) s.cps.toList).all id = s.cps.toList.all fun c => decide (c ∈ S) := by simp [List.all_map]
        rw [this]; exact hk
    · refine ⟨(D.v (V.str z) :: xs).map (rowOkD z.length S), by simp, ?_⟩
      have e : rowsB (D.v (V.str z) :: xs) S = ((D.v (V.str z) :: xs).map (rowOkD z.length S)).all id := by
        have a1 : decide (1 ≤ (D.v (V.str z) :: xs).length ∧ (D.v (V.str z) :: xs).length ≤ 32) = true := decide_eq_true ⟨h1, h2⟩
        have a2 : decide (1 ≤ z.length ∧ z.length ≤ 32) = true := decide_eq_true ⟨h5, h6⟩
        unfold rowsB
        rw [a1, h4']
        simp only [a2, Bool.true_and, List.all_map]
        rfl
      rw [← e]; exact hq
def t_is_picture : TF := fun W ds Q _ => ∃ (d : D) (t : String), ds = [d] ∧ tyD d = some t ∧ (∀ xs, d = .lst xs → thingsOk xs) ∧ Q (.bl (match d with | .lst xs => rowsB xs SIG | _ => false))
theorem ok_is_picture (T : Txt K mg ad fd) : FnG P w K mg base CX0 2 (ad 21) (fd 21) p_is_picture (spD K 1 t_is_picture) := by
  have G_are_rows_of := ok_are_rows_of (P := P) (w := w) (base := base) T
  obtain ⟨u_SIGNS, g_SIGNS, r_SIGNS⟩ := T.c_SIGNS
  refine okD T.h_is_picture.F sc_is_picture (fun cdv A outer s H E hr => ⟨_, _, fun W => (dss_one (ds_ret (de_call G_are_rows_of (hr.mono (by decide)) T.h_are_rows_of.g T.h_are_rows_of.k T.h_are_rows_of.b pass0 (da_cons (dv 0) (da_cons (de_glob g_SIGNS r_SIGNS) da_nil))))), fun W ds Q hl ht => ?_⟩) (fun _ _ _ _ h => h)
  obtain ⟨d, t, rfl, ht, hx, hq⟩ := ht
  simp [sig_eq]
  exact ⟨d, t, _, rfl, ht, hx, hq⟩
def t_is_piece : TF := fun W ds Q _ => ∃ (d : D) (t : String), ds = [d] ∧ tyD d = some t ∧ (∀ xs, d = .lst xs → thingsOk xs) ∧ Q (.bl (match d with | .lst xs => rowsB xs SIGP | _ => false))
theorem ok_is_piece (T : Txt K mg ad fd) : FnG P w K mg base CX0 2 (ad 22) (fd 22) p_is_piece (spD K 1 t_is_piece) := by
  have G_are_rows_of := ok_are_rows_of (P := P) (w := w) (base := base) T
  obtain ⟨u_LEFT_ALONE, g_LEFT_ALONE, r_LEFT_ALONE⟩ := T.c_LEFT_ALONE
  obtain ⟨u_SIGNS, g_SIGNS, r_SIGNS⟩ := T.c_SIGNS
  refine okD T.h_is_piece.F sc_is_piece (fun cdv A outer s H E hr => ⟨_, _, fun W => (dss_one (ds_ret (de_call G_are_rows_of (hr.mono (by decide)) T.h_are_rows_of.g T.h_are_rows_of.k T.h_are_rows_of.b pass0 (da_cons (dv 0) (da_cons (de_add (de_glob g_SIGNS r_SIGNS) (de_glob g_LEFT_ALONE r_LEFT_ALONE)) da_nil))))), fun W ds Q hl ht => ?_⟩) (fun _ _ _ _ h => h)
  obtain ⟨d, t, rfl, ht, hx, hq⟩ := ht
  simp [sig_eq, us_eq, app_mk]
  exact ⟨by decide, d, t, _, rfl, ht, hx, hq⟩
def t_Ltake : TF := tTake
theorem ok_Ltake (T : Txt K mg ad fd) : FnG P w K mg base CX0 1 (ad 37) (fd 37) p_Ltake (spD K 2 t_Ltake) := by
  refine fnG0 T.h_Ltake.F sc_Ltake (fun vs H Q E h => spD_len h) fun cdv A outer s H vs Q E hr h => ?_
  obtain ⟨W, I, ds, Qd, R, ok, al, hl, ht, hq, hx⟩ := h
  refine ⟨_, pss_cons (ps_if (pt_cmpR op_eq (pe_ix ix_list (pv 0) pe_int (fun _ _ => rfl)) pe_int (nomark _))
      (pss_cons (ps_set (i := 2) sc_Ltake.nd rfl (Or.inl rfl) pe_int)
      (pss_cons (ps_if (pt_cmpR op_lt (pe_ix ix_list (pv 0) pe_int (fun _ _ => rfl)) (pe_callB call_len_seq (by rfl) T.m_len PySem.boot_len (pa_cons (pe_ix ix_list (pv 0) pe_int (fun _ _ => rfl)) pa_nil)) (nomark _))
          (pss_one (ps_set (i := 2) sc_Ltake.nd rfl (Or.inl rfl) (pe_ix ix_list (pe_ix ix_list (pv 0) pe_int (fun _ _ => rfl)) (pe_ix ix_list (pv 0) pe_int (fun _ _ => rfl)) (fun _ _ => rfl)))) pss_nil)
      (pss_cons (ps_augS (pv 0) pe_int get_list pe_int ip_add set_list)
      (pss_cons (ps_if (pt_cmpR op_ge (pv 2) pe_int (nomark _)) (pss_one (ps_asg (pv 2) (pg_sub (pv 0) pe_int set_list))) pss_nil)
      (pss_one (ps_asg (pe_op op_mod (pe_op op_add (pe_op op_add (pe_op op_mul (pe_ix ix_list (pv 0) pe_int (fun _ _ => rfl)) pe_int) (pe_op op_mod (pv 2) pe_int)) (pe_op op_mul pe_int (pe_ix ix_list (pv 0) pe_int (fun _ _ => rfl)))) pe_int) (pg_sub (pv 0) pe_int set_list)))))))
      pss_nil)
    (pss_cons (ps_if (pt_cmpR op_gt (pe_ix ix_list (pv 0) pe_int (fun _ _ => rfl)) pe_int (nomark _))
      (pss_cons (ps_set (i := 3) sc_Ltake.nd rfl (Or.inl rfl) (pe_op op_mod (pe_ix ix_list (pv 0) pe_int (fun _ _ => rfl)) (pv 1)))
      (pss_cons (ps_asg (pe_op op_fdivW (pe_ix ix_list (pv 0) pe_int (fun _ _ => rfl)) (pv 1)) (pg_sub (pv 0) pe_int set_list))
      (pss_one (ps_ret (pv 3))))) pss_nil)
    (pss_cons (ps_set (i := 4) sc_Ltake.nd rfl (Or.inl rfl) (pe_op op_mod (pe_op op_mul (pe_op op_add (pe_ix ix_list (pv 0) pe_int (fun _ _ => rfl)) pe_int) pe_int) pe_int))
    (pss_cons (ps_set (i := 5) sc_Ltake.nd rfl (Or.inl rfl) (pe_op op_mod (pe_op op_mul (pe_op op_mod (pe_op op_mul (pv 4) (pv 4)) pe_int) pe_int) pe_int))
    (pss_cons (ps_if (pt_cmpR op_gt (pv 1) pe_int (nomark _)) (pss_one (ps_ret (pe_op op_mod (pe_op op_add (pe_op op_mul (pv 5) pe_int) (pv 4)) (pv 1)))) pss_nil)
    (pss_one (ps_ret (pe_op op_mod (pe_op op_fdiv (pv 5) pe_int) (pv 1)))))))), ?_⟩
  refine read_take ok al ht hq fun b c cells n0 m0 k0 many B0 h0 h1 fin e => ?_
  subst e
  have lk : ∀ {n m k : Int}, atI [V.int n, .int m, .int k, .ref c] 0 = some (.int n) ∧ atI [V.int n, .int m, .int k, .ref c] 1 = some (.int m) ∧ atI [V.int n, .int m, .int k, .ref c] 2 = some (.int k) ∧ atI [V.int n, .int m, .int k, .ref c] 3 = some (.ref c) := ⟨rfl, rfl, rfl, rfl⟩
  refine of_seq (fun σ H' => ∃ (v2 : Option V) (n m k : Int), σ = [some (.ref b), some (.int many), v2, none, none, none] ∧ BagAt b c cells I H H' n m k) ?_ ?_
  · rintro σ H1 ⟨v2, n, m, k, rfl, B⟩
    have hB := B.2.2.2
    -- if bag[0] > 0: value = bag[0] % many; bag[0] = bag[0] // many; return value
    refine ⟨_, rfl, _, _, _, _, rfl, rfl, SqL.of hB, lk.1, _, _, rfl, rfl, _, rfl, ?_⟩
    refine ite2 (fun _ => ?_) (fun _ => ?_)
    · refine ⟨_, rfl, _, _, _, _, rfl, rfl, SqL.of hB, lk.1, _, rfl, _, _, rfl, rfl, h0, ?_⟩
      refine ⟨_, rfl, _, _, _, _, rfl, rfl, SqL.of hB, lk.1, _, rfl, _, _, rfl, rfl, ⟨h0, ?_⟩, ?_⟩
      · have : many.natAbs < 2 ^ 200 := by omega
        exact Nat.lt_of_lt_of_le (PySem.Flt.log2_lt_of (by decide) this) (by decide)
      refine ⟨_, rfl, _, _, _, 0, rfl, rfl, hB, rfl, ?_⟩
      refine ⟨_, rfl, fin _ _ _ _ _ (Int.emod_nonneg _ (by omega)) (Int.emod_lt_of_pos _ h0) (B.set (Int.ediv_nonneg B.2.1 (by omega)) B.2.2.1)⟩
    · refine ⟨_, rfl, _, _, _, _, rfl, rfl, SqL.of hB, lk.2.1, _, _, rfl, rfl, _, _, rfl, rfl, .inr ⟨by decide, by decide⟩, _, _, rfl, rfl, (by show (0 : Int) < 1000000007; decide), ?_⟩
      refine ⟨_, rfl, _, rfl, _, _, rfl, rfl, .inl ⟨?_, ?_⟩, _, _, rfl, rfl, (by show (0 : Int) < 998244353; decide), _, _, rfl, rfl, .inr ⟨by decide, by decide⟩, _, _, rfl, rfl, (by show (0 : Int) < 998244353; decide), ?_⟩
      · exact Int.lt_of_lt_of_le (by decide) (Int.emod_nonneg _ (by decide))
      · exact Int.lt_trans (Int.emod_lt_of_pos _ (by decide)) (by decide : (1000000007 : Int) < 2 ^ 64)
      refine ⟨_, rfl, _, _, rfl, rfl, _, rfl, ?_⟩
      refine ite2 (fun _ => ?_) (fun _ => ?_)
      · refine ⟨_, rfl, _, _, rfl, rfl, .inr ⟨by decide, by decide⟩, _, rfl, _, _, rfl, rfl, _, rfl, _, _, rfl, rfl, h0, ?_⟩
        exact fin _ _ _ _ _ (Int.emod_nonneg _ (by omega)) (Int.emod_lt_of_pos _ h0) B
      · refine ⟨_, rfl, _, _, rfl, rfl, ⟨by decide, by decide⟩, _, rfl, _, _, rfl, rfl, h0, ?_⟩
        exact fin _ _ _ _ _ (Int.emod_nonneg _ (by omega)) (Int.emod_lt_of_pos _ h0) B
  · intro rest
    have hB := B0.2.2.2
    refine ⟨_, rfl, _, _, _, _, rfl, rfl, SqL.of hB, lk.1, rfl, _, rfl, ?_⟩
    refine ite2 (fun _ => ?_) (fun _ => rest _ _ ⟨_, _, _, _, rfl, B0⟩)
    refine seq_c ?_
    refine of_seq (fun σ H' => ∃ (cell n m k : Int), σ = [some (.ref b), some (.int many), some (.int cell), none, none, none] ∧ 0 ≤ cell ∧ BagAt b c cells I H H' n m k) ?_ ?_
    · rintro σ H1 ⟨cell, n, m, k, rfl, hc, B⟩
      have hB := B.2.2.2
      have hc' := B.cells
      -- bag[2] += 1; if cell >= 10 ** 18: bag[0] = cell; bag[1] = (bag[1] * 48271 + cell % 2147483647 + 7919 * bag[2]) % 2147483647
      refine ⟨_, rfl, _, _, _, _, rfl, rfl, SqL.of hB, (by decide), (by decide), rfl, _, _, rfl, rfl, _, _, _, 2, rfl, rfl, hB, rfl, ?_⟩
      have B1 : BagAt b c cells I H (upd H1 b (.lst [.int n, .int m, .int (k + 1), .ref c])) n m (k + 1) := B.set B.2.1 (by have := B.2.2.1; omega)
      have hB1 := B1.2.2.2
      refine ⟨_, rfl, _, _, rfl, rfl, _, rfl, ?_⟩
      refine ite2 (fun hge => ?_) (fun _ => ?_)
      · refine ⟨_, rfl, _, rfl, _, _, _, 0, rfl, rfl, hB1, rfl, ?_⟩
        have B2 : BagAt b c cells I H _ cell m (k + 1) := B1.set hc B1.2.2.1
        have hB2 := B2.2.2.2
        refine ⟨_, rfl, _, _, _, _, rfl, rfl, SqL.of hB2, lk.2.1, _, _, rfl, rfl, .inr ⟨by decide, by decide⟩, _, rfl, _, _, rfl, rfl, (by show (0 : Int) < 2147483647; decide), _, _, rfl, rfl, _, rfl, _, _, _, _, rfl, rfl, SqL.of hB2, lk.2.2.1, _, _, rfl, rfl, .inl ⟨by decide, by decide⟩, _, _, rfl, rfl, _, _, rfl, rfl, (by show (0 : Int) < 2147483647; decide), ?_⟩
        refine ⟨_, rfl, _, _, _, 1, rfl, rfl, hB2, rfl, ?_⟩
        exact rest _ _ ⟨_, _, _, _, rfl, B2.set B2.2.1 B2.2.2.1⟩
      · refine ⟨_, rfl, _, _, _, _, rfl, rfl, SqL.of hB1, lk.2.1, _, _, rfl, rfl, .inr ⟨by decide, by decide⟩, _, rfl, _, _, rfl, rfl, (by show (0 : Int) < 2147483647; decide), _, _, rfl, rfl, _, rfl, _, _, _, _, rfl, rfl, SqL.of hB1, lk.2.2.1, _, _, rfl, rfl, .inl ⟨by decide, by decide⟩, _, _, rfl, rfl, _, _, rfl, rfl, (by show (0 : Int) < 2147483647; decide), ?_⟩
        refine ⟨_, rfl, _, _, _, 1, rfl, rfl, hB1, rfl, ?_⟩
        exact rest _ _ ⟨_, _, _, _, rfl, B1.set B1.2.1 B1.2.2.1⟩
    · intro rest2
      refine ⟨_, rfl, _, _, _, _, rfl, rfl, SqL.of hB, lk.2.2.1, _, rfl, _, _, _, _, rfl, rfl, SqL.of hB, lk.2.2.2, _, _, rfl, .inl (SqL.of B0.cells.1), _, _, rfl, rfl, _, rfl, ?_⟩
      refine ite2 (fun hlt => ?_) (fun _ => ?_)
      · obtain ⟨v, e1, e2⟩ := atI_some (xs := cells.map V.int) B0.2.2.1 (of_decide_eq_true hlt)
        obtain ⟨z, hz, rfl⟩ := List.mem_map.mp e2
        refine ⟨_, rfl, _, _, _, _, rfl, rfl, SqL.of hB, lk.2.2.2, _, rfl, _, _, _, _, rfl, rfl, SqL.of hB, lk.2.2.1, _, _, _, _, rfl, rfl, SqL.of B0.cells.1, e1, ?_⟩
        exact rest2 _ _ ⟨_, _, _, _, rfl, B0.cells.2.1 z hz, B0⟩
      · exact rest2 _ _ ⟨_, _, _, _, rfl, Int.le_refl 0, B0⟩
theorem ok_Lbag (T : Txt K mg ad fd) : FnG P w K mg base CX0 1 (ad 36) (fd 36) p_Lbag (spBag K) := by
  refine fnG0 T.h_Lbag.F sc_Lbag (fun vs H Q E h => ?_) fun cdv A outer s H vs Q E hr h => ?_
  · obtain ⟨a, ns, rfl, _⟩ := h
    rfl
  obtain ⟨a, ns, rfl, hq, hl, hk⟩ := h
  refine ⟨_, pss_one (ps_ret (pe_lst (pa_cons pe_int (pa_cons pe_int (pa_cons pe_int (pa_cons (pe_lc (own := [("_law_cell", 1)]) (g := gName 1) (tt := tYes) rfl sc_Lbag.nd (pi_list (pe_slice sl_list (pv 0) po_none (po_some pe_int))) (blkOk_by (by kernel_rfl)) (fun _ _ _ _ _ => pg_name (i := 1) sc_Lbag.nd rfl (Or.inl rfl)) (fun _ _ _ _ _ => pts_nil) (fun _ _ _ _ _ => pe_callB call_abs (by rfl) T.m_abs (by decide +kernel) (pa_cons (pv 1) pa_nil))) pa_nil)))))), ?_⟩
  exact read_bag (K := K) rfl (fun _ => rfl) hq hl hk
def strP (p : List Nat → Bool) : D → Bool
  | .v (.str s) => p s.cps.toList
  | _ => false
@[simp] theorem strP_sD {P : List Nat → Bool} {l : List Nat} : strP P (sD l) = P l := by simp [strP]
/-- whatever may be handed in: texts not too long -/
structure Arg (d : D) : Prop where
  ty : ∃ t, tyD d = some t
  len : ∀ s, d = .v (.str s) → s.length ≤ 16777216
  ch : ∀ s, d = .v (.str s) → ∀ c ∈ s.cps.toList, c < 0x110000
def allSig (l : List Nat) : Bool := l.all fun c => decide (c ∈ SIG)
def isSignL (l : List Nat) : Bool := decide (l.length = 1) && allSig l
def t_is_sign : TF := fun W ds Q _ => ∃ d, ds = [d] ∧ Arg d ∧ Q (.bl (strP isSignL d))
theorem ok_is_sign (T : Txt K mg ad fd) : FnG P w K mg base CX0 1 (ad 14) (fd 14) p_is_sign (spD K 1 t_is_sign) := by
  obtain ⟨u_SIGNS, g_SIGNS, r_SIGNS⟩ := T.c_SIGNS
  refine okD T.h_is_sign.F sc_is_sign (fun cdv A outer s H E hr => ⟨_, _, fun W => (dss_one (ds_ret (de_and (de_isi T.m_isinstance (da_cons (dv 0) (da_cons (de_ty "str" T.m_str) da_nil))) (de_and (de_eq hr.units (de_len T.m_len (da_cons (dv 0) da_nil)) de_int) (de_one (de_in (dv 0) (de_glob g_SIGNS r_SIGNS))))))), fun W ds Q hl ht => ?_⟩) (fun _ _ _ _ h => h)
  obtain ⟨d, rfl, ⟨⟨t, ht⟩, hl, hch⟩, hq⟩ := ht
  by_cases hd : ∃ s, d = .v (.str s)
  case neg =>
    rcases d with (_ | _ | _ | _ | _ | _ | _ | _) | _ | _ | _ | _ | _ <;> simp [isTy, tyL, strP] at ht hq ⊢ <;> first | exact absurd ⟨_, rfl⟩ hd | exact hq | cases ht
  obtain ⟨s, rfl⟩ := hd
  have hs := hl s rfl
  obtain ⟨l, rfl⟩ : ∃ l, s = mk l := ⟨_, mk_of s⟩
  simp at hs
  simp [isTy, tyL, strP, isSignL, allSig] at hq ⊢
  refine ⟨hs, ?_⟩
  match l, hq with
  | [], hq => simp at hq ⊢; exact hq
  | [c], hq => simp [sig_eq] at hq ⊢; exact hq
  | c :: c2 :: l, hq => simp at hq ⊢; rw [if_neg (by omega)]; exact hq
def inB (a b : Int) : D → Bool
  | .v (.int i) => decide (a ≤ i ∧ i ≤ b)
  | _ => false
def t_is_spot : TF := fun W ds Q _ => ∃ d, ds = [d] ∧ Arg d ∧ Q (.bl (inB (-1000000) 1000000 d))
theorem ok_is_spot (T : Txt K mg ad fd) : FnG P w K mg base CX0 3 (ad 15) (fd 15) p_is_spot (spD K 1 t_is_spot) := by
  have G_is_from_to := ok_is_from_to (P := P) (w := w) (base := base) T
  obtain ⟨u_FARTHEST, g_FARTHEST, r_FARTHEST⟩ := T.c_FARTHEST
  refine okD T.h_is_spot.F sc_is_spot (fun cdv A outer s H E hr => ⟨_, _, fun W => (dss_one (ds_ret (de_call G_is_from_to (hr.mono (by decide)) T.h_is_from_to.g T.h_is_from_to.k T.h_is_from_to.b pass0 (da_cons (dv 0) (da_cons (de_neg (de_glob g_FARTHEST r_FARTHEST)) (da_cons (de_glob g_FARTHEST r_FARTHEST) da_nil)))))), fun W ds Q hl ht => ?_⟩) (fun _ _ _ _ h => h)
  obtain ⟨d, rfl, ⟨⟨t, ht⟩, hl, hch⟩, hq⟩ := ht
  simp
  exact ⟨d, t, _, _, rfl, ht, hq⟩
def t_is_turn : TF := fun W ds Q _ => ∃ d, ds = [d] ∧ Arg d ∧ Q (.bl (inB 0 1000000000 d))
theorem ok_is_turn (T : Txt K mg ad fd) : FnG P w K mg base CX0 3 (ad 16) (fd 16) p_is_turn (spD K 1 t_is_turn) := by
  have G_is_from_to := ok_is_from_to (P := P) (w := w) (base := base) T
  obtain ⟨u_LATEST, g_LATEST, r_LATEST⟩ := T.c_LATEST
  refine okD T.h_is_turn.F sc_is_turn (fun cdv A outer s H E hr => ⟨_, _, fun W => (dss_one (ds_ret (de_call G_is_from_to (hr.mono (by decide)) T.h_is_from_to.g T.h_is_from_to.k T.h_is_from_to.b pass0 (da_cons (dv 0) (da_cons de_int (da_cons (de_glob g_LATEST r_LATEST) da_nil)))))), fun W ds Q hl ht => ?_⟩) (fun _ _ _ _ h => h)
  obtain ⟨d, rfl, ⟨⟨t, ht⟩, hl, hch⟩, hq⟩ := ht
  simp
  exact ⟨d, t, _, _, rfl, ht, hq⟩
theorem rowsB_of {rows : Rows} {n : Nat} (r : Rect rows n) (h1 : n ≤ 32) (h2 : rows.length ≤ 32) {S : List Nat} (hs : ∀ row ∈ rows, ∀ c ∈ row, c ∈ S) : rowsB (rows.map sD) S = true := by
  obtain ⟨r0, rest, rfl⟩ : ∃ r0 rest, rows = r0 :: rest := by
    cases rows with
    | nil => exact absurd r.ne (by simp)
    | cons a b => exact ⟨a, b, rfl⟩
  have hl := r.len
  have hn := r.n1
  have a0 : r0.length = n := hl r0 List.mem_cons_self
  have b1 : decide (1 ≤ ((r0 :: rest).map sD).length ∧ ((r0 :: rest).map sD).length ≤ 32) = true := decide_eq_true ⟨by simp, by simpa using h2⟩
  have b2 : ((r0 :: rest).map sD).all isStrD = true := List.all_eq_true.mpr fun d hd => by
    obtain ⟨row, _, rfl⟩ := List.mem_map.mp hd
    rfl
  have b3 : decide (1 ≤ (mk r0).length ∧ (mk r0).length ≤ 32) = true := decide_eq_true ⟨by simp; omega, by simp; omega⟩
  have b4 : ((r0 :: rest).map sD).all (rowOkD (mk r0).length S) = true := List.all_eq_true.mpr fun d hd => by
    obtain ⟨row, hr, rfl⟩ := List.mem_map.mp hd
    rw [rowOkD_str, decide_eq_true (by simp [hl row hr, a0]), Bool.true_and, List.all_eq_true]
    exact fun c hc => decide_eq_true (hs row hr c (by simpa using hc))
  unfold rowsB
  rw [b1, b2]
  simp only [List.map_cons] at b4 ⊢
  simp only [b3, b4, Bool.and_self]
structure GoodRows (r : Rows × Nat) (S : List Nat) : Prop where
  rect : Rect r.1 r.2
  n32 : r.2 ≤ 32
  h32 : r.1.length ≤ 32
  of : ∀ row ∈ r.1, ∀ c ∈ row, c ∈ S
theorem GoodRows.b {rows : Rows} {n : Nat} {S : List Nat} (g : GoodRows (rows, n) S) : rowsB (rows.map sD) S = true := rowsB_of g.rect g.n32 g.h32 g.of
structure PArg (d : D) : Prop where
  ty : ∃ t, tyD d = some t
  ls : ∀ xs, d = .lst xs → thingsOk xs
def isPic (S : List Nat) (d : D) : Bool := match d with | .lst xs => rowsB xs S | _ => false
theorem GoodRows.pic {rows : Rows} {n : Nat} {S : List Nat} (g : GoodRows (rows, n) S) : isPic S (rowsD rows) = true := g.b
theorem gdPair_mono {i j : Nat} : ∀ d τ (Q Q' : Tau → Prop), (∀ τ', Q τ' → Q' τ') → gdTup 2 (gdCons (gdName i) (gdCons (gdName j) gdNil)) d τ Q → gdTup 2 (gdCons (gdName i) (gdCons (gdName j) gdNil)) d τ Q' := fun d τ Q Q' h q => by
  unfold gdTup at q ⊢
  split at q
  · rename_i ds
    obtain ⟨q1, q⟩ := q
    match ds, q1, q with
    | [x, y], _, q => exact ⟨rfl, q.1, h _ q.2⟩
  · exact q.elim
theorem parg_rows {rows : Rows} {n : Nat} {S : List Nat} (g : GoodRows (rows, n) S) : PArg (rowsD rows) := by
  have hn := g.n32
  have hh := g.h32
  simp only at hn hh
  refine ⟨⟨_, rfl⟩, fun xs e => ?_⟩
  cases e
  refine ⟨by simp; omega, fun x hx => ?_, fun s hs => ?_⟩
  · obtain ⟨r, _, rfl⟩ := List.mem_map.mp hx
    exact ⟨_, rfl⟩
  · obtain ⟨r, hr, e⟩ := List.mem_map.mp hs
    cases e
    rw [mk_length, g.rect.len r hr]
    simp only; omega
theorem arg_int {i : Int} : Arg (.int i) := ⟨⟨_, rfl⟩, (fun s e => by cases e), (fun s e => by cases e)⟩
abbrev Spot := Int × Int × Nat
def spotD (s : Spot) : D := .tup [.int s.1, .int s.2.1, sD [s.2.2]]
def spotsRow (x y : Int) (j : Nat) (row : List Nat) : List Spot := (row.zipIdx.filter fun p => !decide (p.1 = 95)).map fun p => (x + p.2, y + j, p.1)
def spotsFrom (x y : Int) : Nat → Rows → List Spot
  | _, [] => []
  | j, row :: rows => spotsRow x y j row ++ spotsFrom x y (j + 1) rows
theorem spotsFrom_snoc (x y : Int) (row : List Nat) : ∀ (rows : Rows) (j : Nat), spotsFrom x y j (rows ++ [row]) = spotsFrom x y j rows ++ spotsRow x y (j + rows.length) row
  | [], j => by simp [spotsFrom]
  | r :: rows, j => by
    have := spotsFrom_snoc x y row rows (j + 1)
    rw [List.cons_append, spotsFrom, this, spotsFrom, List.append_assoc, List.length_cons]
    congr 3
    omega
theorem spotsRow_len (x y : Int) (j : Nat) (row : List Nat) : (spotsRow x y j row).length ≤ row.length := by
  unfold spotsRow
  rw [List.length_map]
  exact Nat.le_trans (List.length_filter_le _ _) (by simp)
theorem spotsFrom_len {n : Nat} (x y : Int) : ∀ (rows : Rows) (j : Nat), (∀ r ∈ rows, r.length = n) → (spotsFrom x y j rows).length ≤ rows.length * n
  | [], _, _ => by simp [spotsFrom]
  | r :: rows, j, h => by
    have h1 := spotsFrom_len x y rows (j + 1) fun q hq => h q (List.mem_cons_of_mem _ hq)
    have h2 := spotsRow_len x y j r
    rw [h r List.mem_cons_self] at h2
    rw [spotsFrom, List.length_append, List.length_cons, Nat.succ_mul]
    omega
def t_spots_of : TFO := fun W ds Q _ => ∃ (rows : Rows) (n : Nat) (x y : Int), ds = [rowsD rows, .int x, .int y] ∧ GoodRows (rows, n) SIGP ∧ (-1000000 ≤ x ∧ x ≤ 1000000) ∧ (-1000000 ≤ y ∧ y ≤ 1000000) ∧ Q ((spotsFrom x y 0 rows).map spotD)
theorem ok_spots_of (T : Txt K mg ad fd) : FnG P w K mg base CX0 4 (ad 23) (fd 23) p_spots_of (spO K 3 t_spots_of) := by
  have G_is_spot := ok_is_spot (P := P) (w := w) (base := base) T
  have G_is_piece := ok_is_piece (P := P) (w := w) (base := base) T
  obtain ⟨u_LEFT_ALONE, g_LEFT_ALONE, r_LEFT_ALONE⟩ := T.c_LEFT_ALONE
  refine okO T.h_spots_of.F sc_spots_of (fun cdv A outer s H E hr => ⟨_, _, fun W => (dss_cons (ds_if (dt_not (dt_val (de_call G_is_piece (hr.mono (by decide)) T.h_is_piece.g T.h_is_piece.k T.h_is_piece.b pass0 (da_cons (dv 0) da_nil)))) (dss_one ds_never) dss_nil)
      (dss_cons (ds_for PassesOwn.never rfl (di_enumG T.m_enumerate (da_cons (DO.e (do_lst (da_cons (dv 1) (da_cons (dv 2) da_nil)))) da_nil)) (dg_tup rfl (dgs_cons (dg_name (i := 3) sc_spots_of.nd) (dgs_cons (dg_name (i := 4) sc_spots_of.nd) dgs_nil))) (dss_one (ds_if (dt_not (dt_val (de_call G_is_spot (hr.mono (by decide)) T.h_is_spot.g T.h_is_spot.k T.h_is_spot.b pass0 (da_cons (dv 4) da_nil)))) (dss_one ds_never) dss_nil)))
      (dss_cons (ds_setO (i := 5) sc_spots_of.nd (do_lst da_nil))
      (dss_cons (ds_for PassesOwn.never rfl (di_enumG T.m_enumerate (da_cons (dv 0) da_nil)) (dg_tup rfl (dgs_cons (dg_name (i := 6) sc_spots_of.nd) (dgs_cons (dg_name (i := 7) sc_spots_of.nd) dgs_nil))) (dss_one (ds_ext 5 (do_lc rfl sc_spots_of.nd (di_enumG T.m_enumerate (da_cons (dv 7) da_nil)) (blkOk_by (own := [("aside", 8), ("sign", 9)]) (N := n_spots_of) (by kernel_rfl)) (fun _ _ _ _ _ => (dg_tup rfl (dgs_cons (dg_name (i := 8) sc_spots_of.nd) (dgs_cons (dg_name (i := 9) sc_spots_of.nd) dgs_nil)))) (fun _ _ _ _ _ => (dts_one (dt_ne hr.units (dv 9) (de_glob g_LEFT_ALONE r_LEFT_ALONE)))) (fun _ _ _ _ _ => (de_tup (da_cons (de_add (dv 1) (dv 8)) (da_cons (de_add (dv 2) (dv 6)) (da_cons (dv 9) da_nil)))))))))
      (dss_one (ds_retV 5)))))), fun W ds Q hl ht => ?_⟩) (fun _ _ _ _ h => h)
  obtain ⟨rows, n, x, y, rfl, g, hx, hy, hq⟩ := ht
  have hp := parg_rows g
  obtain ⟨t, ht⟩ := hp.ty
  refine tdSeq_if1 (!isPic SIGP (rowsD rows)) (fun Q R q => ⟨_, rfl, rfl, rowsD rows, t, rfl, ht, hp.ls, q⟩) (fun h => by rw [g.pic] at h; cases h) (fun h => ?_)
  refine tdSeq_cut (fun τ => ∃ z3 z4, τ = [some (.dat (rowsD rows)), some (.dat (.int x)), some (.dat (.int y)), z3, z4, none, none, none, none, none]) (fun nx hnx => ?_) ?_
  · refine ⟨_, rfl, _, rfl, by show 2 ≤ sizeLine; decide, _, rfl, ?_⟩
    have ex : inB (-1000000) 1000000 (.int x) = true := by simp [inB]; omega
    have ey : inB (-1000000) 1000000 (.int y) = true := by simp [inB]; omega
    refine ⟨rfl, rfl, ?_⟩
    refine tdIf_by (!inB (-1000000) 1000000 (.int x)) (fun Q R q => ⟨_, rfl, rfl, .int x, rfl, arg_int, q⟩) (fun h => by rw [ex] at h; cases h) (fun h => ?_)
    refine ⟨rfl, rfl, ?_⟩
    refine tdIf_by (!inB (-1000000) 1000000 (.int y)) (fun Q R q => ⟨_, rfl, rfl, .int y, rfl, arg_int, q⟩) (fun h => by rw [ey] at h; cases h) (fun h => ?_)
    exact hnx _ ⟨_, _, rfl⟩
  rintro τ ⟨z3, z4, rfl⟩
  have hn := g.n32
  have hh := g.h32
  simp only at hn hh
  refine tdSeq_setO (fun ds => ds = []) (fun Q R q => ⟨Nat.zero_le _, q _ rfl⟩) ?_
  rintro _ rfl
  refine ⟨_, rfl, _, rfl, ?_⟩
  refine forD_word (fun pre τ => ∃ z6 z7 z8 z9, τ = [some (.dat (rowsD rows)), some (.dat (.int x)), some (.dat (.int y)), z3, z4, some (.own ((spotsFrom x y 0 (rows.take pre.length)).map spotD)), z6, z7, z8, z9]) (nums 0 (rows.map sD)) gdPair_mono ?_ ?_ [] _ _ rfl ⟨_, _, _, _, rfl⟩
  · rintro pre d post τ he ⟨z6, z7, z8, z9, rfl⟩
    have hlen := congrArg List.length he
    simp at hlen
    have hd : (nums 0 (rows.map sD))[pre.length]? = some d := by rw [he]; simp
    have hr : rows[pre.length]? = some (rows[pre.length]'(by omega)) := List.getElem?_eq_getElem (by omega)
    have hd2 := nums_at (k := 0) (ds := rows.map sD) (i := pre.length) (d := sD (rows[pre.length]'(by omega))) (by rw [List.getElem?_map, hr]; rfl)
    rw [hd2] at hd
    cases hd
    generalize hrow : rows[pre.length]'(by omega) = row
    have hrl : row.length = n := by rw [← hrow]; exact g.rect.len _ (List.getElem_mem _)
    have htake : rows.take (pre.length + 1) = rows.take pre.length ++ [row] := by rw [List.take_add_one, hr, hrow]; rfl
    refine ⟨rfl, rfl, fun nx hnx => ⟨_, rfl, _, rfl, _, rfl, ?_⟩⟩
    refine ⟨by rw [nums_len]; simp; omega, ?_⟩
    rw [signs_mk, nums_map]
    refine compD_filterG (fun d => match d with | .tup [_, .v (.str s)] => !decide (s = mk [95]) | _ => false) (fun d => match d with | .tup [.v (.int i), c] => .tup [.int (x + i), .int (y + ((0 + pre.length : Nat) : Int)), c] | d => d) (fun d hd Kt K hK hKt => ?_) ?_
    · obtain ⟨⟨c, i⟩, _, rfl⟩ := List.mem_map.mp hd
      refine ⟨rfl, rfl, ?_⟩
      simp only at hK hKt
      simp [wipeT, us_eq] at hK hKt ⊢
      by_cases hc : c = 95
      · simp [hc] at hKt ⊢; exact hKt
      · simp [hc] at hK ⊢; exact hK
    · have e : (((row.zipIdx.map fun p => D.tup [.int ((p.2 : Nat) : Int), sD [p.1]]).filter (fun d => match d with | .tup [_, .v (.str s)] => !decide (s = mk [95]) | _ => false)).map (fun d => match d with | .tup [.v (.int i), c] => D.tup [.int (x + i), .int (y + ((0 + pre.length : Nat) : Int)), c] | d => d)) = (spotsRow x y pre.length row).map spotD := by
        unfold spotsRow
        rw [List.filter_map, List.map_map, List.map_map]
        have ef : ((fun d => match d with | D.tup [_, .v (.str s)] => !decide (s = mk [95]) | _ => false) ∘ fun p : Nat × Nat => D.tup [.int ((p.2 : Nat) : Int), sD [p.1]]) = fun p : Nat × Nat => !decide (p.1 = 95) := by
          funext p
          simp
        rw [ef]
        refine List.map_congr_left fun p _ => ?_
        simp [spotD]
      rw [e]
      have l1 : ((spotsFrom x y 0 (rows.take pre.length)).map spotD).length ≤ 32 * 32 := by
        rw [List.length_map]
        refine Nat.le_trans (spotsFrom_len (n := n) x y _ _ fun r hr => g.rect.len r (List.mem_of_mem_take hr)) ?_
        exact Nat.mul_le_mul (by rw [List.length_take]; omega) hn
      have l2 : ((spotsRow x y pre.length row).map spotD).length ≤ 32 := by
        rw [List.length_map]
        exact Nat.le_trans (spotsRow_len x y _ _) (by omega)
      refine ⟨by show _ ≤ 16777216; omega, hnx _ ⟨some (.dat (.int ((0 + pre.length : Nat) : Int))), some (.dat (sD row)), z8, z9, ?_⟩⟩
      rw [List.length_append, List.length_singleton, htake, spotsFrom_snoc]
      simp only [List.map_append]
      have e3 : 0 + (rows.take pre.length).length = pre.length := by rw [List.length_take]; omega
      rw [e3]
      rfl
  · rintro τ ⟨z6, z7, z8, z9, rfl⟩
    rw [nums_len, List.length_map, List.take_length]
    exact ⟨_, rfl, hq⟩
/-- a cell: x, y, its sign -/
abbrev Cell := Int × Int × Nat
def cellT (c : Cell) : Tri := (c.1, c.2.1, mk [c.2.2])
def cellK (c : Cell) : TK := k2 c.1 c.2.1
def cellS (c : Cell) : TK × Str := (cellK c, mk [c.2.2])
def cellE (c : Cell) : TK × D := (cellK c, sD [c.2.2])
abbrev laidT (cs : List Cell) : List (TK × D) := cs.map cellE
theorem laid_eq (cs : List Cell) : laidT cs = laidD (cs.map cellS) := by simp [laidT, laidD, Function.comp_def, cellE, cellS]
def optI : Option Nat → D
  | none => .non
  | some n => .int n
def optS : Option Nat → D
  | none => .non
  | some c => sD [c]
structure Fld where
  form : List Nat
  cs : List Cell
  now : Int
  wd : Option Nat
  hg : Option Nat
  rim : Option Nat
def Fld.fs (P : Program) (w : World) (f : Fld) : List (Str × D) := [("form", sD f.form), ("laid", .dt ⟨P, w⟩ (laidT f.cs)), ("when", .int f.now), ("width", optI f.wd), ("height", optI f.hg), ("rim", optS f.rim)]
def Fld.d (P : Program) (w : World) (ad : Nat → Addr) (f : Fld) : D := .ins (ad 30) (f.fs P w)
def endlessL : List Nat := [101, 110, 100, 108, 101, 115, 115]
def torusL : List Nat := [116, 111, 114, 117, 115]
def boxL : List Nat := [98, 111, 120]
theorem endless_eq : Str.ofString "endless" = mk endlessL := by decide +kernel
theorem torus_eq : Str.ofString "torus" = mk torusL := by decide +kernel
theorem box_eq : Str.ofString "box" = mk boxL := by decide +kernel
section
variable {f : Fld}
theorem fld_form : (f.fs P w).lookup (Str.ofString "form") = some (sD f.form) := rfl
theorem fld_laid : (f.fs P w).lookup (Str.ofString "laid") = some (.dt ⟨P, w⟩ (laidT f.cs)) := rfl
end
def t_Field___init__ (P : Program) (w : World) (_ : Nat → Addr) : TFI := fun W ds Q _ => ∃ f : Fld, ds = [sD f.form, .dt ⟨P, w⟩ (laidT f.cs), .int f.now, optI f.wd, optI f.hg, optS f.rim] ∧ Q (f.fs P w)
theorem ok_Field___init__ (T : Txt K mg ad fd) : FnG P w K mg base CX0 1 (ad 3100) (fd 3100) p_Field___init__ (spI K (ad 30) 7 (t_Field___init__ P w ad)) := by
  refine okI T.h_Field___init__.F sc_Field___init__ (by decide) (fun cdv A outer s H E hr => ⟨_, _, fun W => (dss_cons (ds_setFld 0 T.cl_Field T.na_Field_form (dv 1))
      (dss_cons (ds_setFld 0 T.cl_Field T.na_Field_laid (dv 2))
      (dss_cons (ds_setFld 0 T.cl_Field T.na_Field_when (dv 3))
      (dss_cons (ds_setFld 0 T.cl_Field T.na_Field_width (dv 4))
      (dss_cons (ds_setFld 0 T.cl_Field T.na_Field_height (dv 5))
      (dss_one (ds_setFld 0 T.cl_Field T.na_Field_rim (dv 6)))))))), fun W self_ ds Q hl ht => ?_⟩) (fun _ _ _ _ h => h)
  obtain ⟨f, rfl, hq⟩ := ht
  refine tdSeq_fld (sD f.form) rfl (by show (0 : Nat) < 1000; decide) (fun Q R q => ⟨_, rfl, q⟩) ?_
  refine tdSeq_fld (.dt ⟨P, w⟩ (laidT f.cs)) rfl (by show (1 : Nat) < 1000; decide) (fun Q R q => ⟨_, rfl, q⟩) ?_
  refine tdSeq_fld (.int f.now) rfl (by show (2 : Nat) < 1000; decide) (fun Q R q => ⟨_, rfl, q⟩) ?_
  refine tdSeq_fld (optI f.wd) rfl (by show (3 : Nat) < 1000; decide) (fun Q R q => ⟨_, rfl, q⟩) ?_
  refine tdSeq_fld (optI f.hg) rfl (by show (4 : Nat) < 1000; decide) (fun Q R q => ⟨_, rfl, q⟩) ?_
  exact ⟨_, _, rfl, by show (5 : Nat) < 1000; decide, _, rfl, _, rfl, hq⟩
def t_Field_kind (P : Program) (w : World) (ad : Nat → Addr) : TF := fun W ds Q _ => ∃ f : Fld, ds = [f.d P w ad] ∧ Q (sD f.form)
theorem ok_Field_kind (T : Txt K mg ad fd) : FnG P w K mg base CX0 1 (ad 3104) (fd 3104) p_Field_kind (spD K 1 (t_Field_kind P w ad)) := by
  refine okD T.h_Field_kind.F sc_Field_kind (fun cdv A outer s H E hr => ⟨_, _, fun W => (dss_one (ds_ret (de_fld T.cl_Field T.na_Field_form (dv 0)))), fun W ds Q hl ht => ?_⟩) (fun _ _ _ _ h => h)
  obtain ⟨f, rfl, hq⟩ := ht
  exact ⟨_, rfl, rfl, _, fld_form, hq⟩
def t_Field_frame (P : Program) (w : World) (ad : Nat → Addr) : TF := fun W ds Q _ => ∃ f : Fld, ds = [f.d P w ad] ∧ f.cs.length ≤ 1024 ∧ (f.cs = [] → Q .non) ∧ (f.cs ≠ [] → ∀ a b c d, a ∈ f.cs.map (·.1) → (∀ x ∈ f.cs.map (·.1), a ≤ x) → b ∈ f.cs.map (·.2.1) → (∀ x ∈ f.cs.map (·.2.1), b ≤ x) → c ∈ f.cs.map (·.1) → (∀ x ∈ f.cs.map (·.1), x ≤ c) → d ∈ f.cs.map (·.2.1) → (∀ x ∈ f.cs.map (·.2.1), x ≤ d) → Q (.tup [.int a, .int b, .int c, .int d]))
theorem ok_Field_frame (T : Txt K mg ad fd) : FnG P w K mg base CX0 1 (ad 3109) (fd 3109) p_Field_frame (spD K 1 (t_Field_frame P w ad)) := by
  refine okD T.h_Field_frame.F sc_Field_frame (fun cdv A outer s H E hr => ⟨_, _, fun W => (dss_cons (ds_if (dt_tEq ⟨P, w⟩ hr.units (de_fld T.cl_Field T.na_Field_laid (dv 0)) (DX.dat (dx_newT ⟨P, w⟩))) (dss_one (ds_ret de_non)) dss_nil)
      (dss_cons (ds_par (i := 1) (j := 2) rfl sc_Field_frame.nd (da_cons (DO.e (do_lc rfl sc_Field_frame.nd (di_tk ⟨P, w⟩ (de_fld T.cl_Field T.na_Field_laid (dv 0))) (blkOk_by (own := [("x", 3), ("y", 4)]) (N := n_Field_frame) (by kernel_rfl)) (fun _ _ _ _ _ => (dg_tup rfl (dgs_cons (dg_name (i := 3) sc_Field_frame.nd) (dgs_cons (dg_name (i := 4) sc_Field_frame.nd) dgs_nil)))) (fun _ _ _ _ _ => dts_nil) (fun _ _ _ _ _ => (dv 3)))) (da_cons (DO.e (do_lc rfl sc_Field_frame.nd (di_tk ⟨P, w⟩ (de_fld T.cl_Field T.na_Field_laid (dv 0))) (blkOk_by (own := [("x", 3), ("y", 4)]) (N := n_Field_frame) (by kernel_rfl)) (fun _ _ _ _ _ => (dg_tup rfl (dgs_cons (dg_name (i := 3) sc_Field_frame.nd) (dgs_cons (dg_name (i := 4) sc_Field_frame.nd) dgs_nil)))) (fun _ _ _ _ _ => dts_nil) (fun _ _ _ _ _ => (dv 4)))) da_nil)))
      (dss_one (ds_ret (de_tup (da_cons (de_minL rfl T.m_min (da_cons (dv 1) da_nil)) (da_cons (de_minL rfl T.m_min (da_cons (dv 2) da_nil)) (da_cons (de_maxL rfl T.m_max (da_cons (dv 1) da_nil)) (da_cons (de_maxL rfl T.m_max (da_cons (dv 2) da_nil)) da_nil))))))))), fun W ds Q hl ht => ?_⟩) (fun _ _ _ _ h => h)
  obtain ⟨f, rfl, hl, h0, h1⟩ := ht
  have ke : keysT (laidT f.cs) = f.cs.map fun c => dOfT (cellK c) := by simp [keysT, laidT, cellE, Function.comp_def]
  refine tdSeq_if1 (f.cs.isEmpty) (fun Q R q => ?_) (fun z => ?_) (fun z => ?_)
  · refine ⟨_, rfl, rfl, _, fld_laid, rfl, rfl, f.cs.map cellS, [], laid_eq _, rfl, ?_⟩
    have e : eqT (f.cs.map cellS) [] = f.cs.isEmpty := by cases f.cs <;> simp [eqT]
    rw [e]
    exact q
  · exact h0 (by simpa using z)
  have ne : f.cs ≠ [] := by simpa using z
  have hlen : (keysT (laidT f.cs)).length ≤ sizeLine := by rw [ke, List.length_map]; exact Nat.le_trans hl (by decide)
  have nm : ∀ {β : Type} (g : Cell → β), f.cs.map g ≠ [] := fun g h => ne (List.map_eq_nil_iff.mp h)
  refine ⟨_, rfl, rfl, _, fld_laid, rfl, hlen, ?_⟩
  rw [ke]
  refine compD_mapL (h := fun c => D.int c.1) _ (fun c hc Kk hk => ?_) ?_
  · simp [cellK, wipeT] at hk ⊢
    exact hk
  refine ⟨_, rfl, rfl, _, fld_laid, rfl, hlen, ?_⟩
  rw [ke]
  refine compD_mapL (h := fun c => D.int c.2.1) _ (fun c hc Kk hk => ?_) ?_
  · simp [cellK, wipeT] at hk ⊢
    exact hk
  have e1 : f.cs.map (fun c => D.int c.1) = (f.cs.map (·.1)).map D.int := by simp [Function.comp_def]
  have e2 : f.cs.map (fun c => D.int c.2.1) = (f.cs.map (·.2.1)).map D.int := by simp [Function.comp_def]
  refine ⟨_, rfl, _, e1, nm _, fun a a1 a2 => ⟨_, rfl, _, e2, nm _, fun b b1 b2 => ⟨_, rfl, _, e1, nm _, fun c c1 c2 => ⟨_, rfl, _, e2, nm _, fun d d1 d2 => ?_⟩⟩⟩⟩
  exact ⟨by show 4 ≤ sizeLine; decide, h1 ne a b c d a1 a2 b1 b2 c1 c2 d1 d2⟩
theorem compS_mapL {α : Type} {g : TDG} {te : TDE} {vs : List Nat} {τ : Tau} (f : α → D) (k : α → List Int) : ∀ {l : List α} {acc : List (List Int)} {Q : List (List Int) → Prop}, (∀ a ∈ l, ∀ K : D → Prop, K (.tup ((k a).map D.int)) → g (f a) (wipeT τ vs) fun τ2 => te τ2 K (fun _ => False)) → Q ((l.map k).reverse ++ acc) → compS g tdYes te vs τ (l.map f) acc Q
  | [], _, _, _, q => q
  | a :: l, acc, Q, h, q => by
    show g (f a) (wipeT τ vs) fun τ2 => te τ2 (fun y => ∃ z : List Int, y = .tup (z.map D.int) ∧ compS g tdYes te vs τ (l.map f) (z :: acc) Q) (fun _ => False)
    refine h a List.mem_cons_self _ ⟨_, rfl, compS_mapL f k (fun b hb => h b (List.mem_cons_of_mem _ hb)) ?_⟩
    simpa using q
theorem valT_none {α : Type} {gs : List (TK × α)} {k : TK} (h : k ∉ gs.map (·.1)) : valT gs k = none := by
  induction gs with
  | nil => rfl
  | cons g gs ih =>
    simp only [List.map_cons, List.mem_cons, not_or] at h
    rw [valT_cons, if_neg (fun e => h.1 e.symm), ih h.2]
theorem putT_new {α : Type} {gs : List (TK × α)} {k : TK} {d : α} (h : k ∉ gs.map (·.1)) : putT gs k d = gs ++ [(k, d)] := by
  unfold putT
  rw [valT_none h]
  rfl
theorem compT_mapL {α : Type} {g : TDG} {tt : TDT} {tk tv : TDE} {vs : List Nat} {τ : Tau} (f : α → D) (p : α → Bool) (k : α → TK) (v : α → D) : ∀ {l : List α} {acc : List (TK × D)} {Q : List (TK × D) → Prop},
    (∀ a ∈ l, ∀ (Kk : D → D → Prop) (Kn : Prop), (p a = true → Kk (dOfT (k a)) (v a)) → (p a = false → Kn) → g (f a) (wipeT τ vs) fun τ2 => tt τ2 (fun b => if b = true then tk τ2 (fun y => tv τ2 (fun z => Kk y z) (fun _ => False)) (fun _ => False) else Kn) (fun _ => False)) →
    (l.map k).Nodup → (∀ a ∈ l, k a ∉ acc.map (·.1)) → Q (acc ++ (l.filter p).map fun a => (k a, v a)) → compT g tt tk tv vs τ (l.map f) acc Q
  | [], _, _, _, _, _, q => by simpa [compT] using q
  | a :: l, acc, Q, h, nd, ac, q => by
    have nd1 : k a ∉ l.map k := (List.nodup_cons.mp nd).1
    have nd2 : (l.map k).Nodup := (List.nodup_cons.mp nd).2
    refine h a List.mem_cons_self (fun y z => ∃ kk, keyD y = some kk ∧ compT g tt tk tv vs τ (l.map f) (putT acc kk z) Q) (compT g tt tk tv vs τ (l.map f) acc Q) (fun e => ⟨k a, keyD_of _, ?_⟩) (fun e => ?_)
    · rw [putT_new (ac a List.mem_cons_self)]
      refine compT_mapL f p k v (fun b hb => h b (List.mem_cons_of_mem _ hb)) nd2 (fun b hb hm => ?_) ?_
      · rw [List.map_append, List.mem_append] at hm
        rcases hm with hm | hm
        · exact ac b (List.mem_cons_of_mem _ hb) hm
        · have e2 : k b = k a := by simpa using hm
          exact nd1 (e2 ▸ List.mem_map_of_mem hb)
      · rw [List.filter_cons_of_pos e] at q
        simpa using q
    · refine compT_mapL f p k v (fun b hb => h b (List.mem_cons_of_mem _ hb)) nd2 (fun b hb => ac b (List.mem_cons_of_mem _ hb)) ?_
      rw [List.filter_cons_of_neg (by simp [e])] at q
      exact q
theorem dot_eq : Str.ofString "." = mk [46] := by decide +kernel
def wrongE (ad : Nat → Addr) (i : Int) : Exc := (.ref (ad 3), [("at", .int i)])
def t_need_good (ad : Nat → Addr) : TF := fun W ds Q R => ∃ i : Int, (ds = [.int i, .bl true] ∧ Q .non) ∨ (ds = [.int i, .bl false] ∧ R (wrongE ad i))
theorem ok_need_good (T : Txt K mg ad fd) : FnG P w K mg base (L2.CX P w) 3 (ad 26) (fd 26) p_need_good (spD K 2 (t_need_good ad)) := by
  refine okDX T.h_need_good.F sc_need_good (fun cdv A outer s H E hr => ⟨_, _, fun W => (dss_one (ds_if (dt_not (dt_val (dv 1))) (dss_one (ds_raise rfl (takes_of rfl rfl rfl rfl) (dmk_init1 T.x_Wrong (okI_Wrong T) hr (by decide) T.f_Wrong_at (da_cons (dv 0) da_nil)))) dss_nil)), fun W ds Q R hl ht => ?_⟩)
  obtain ⟨i, ⟨rfl, hq⟩ | ⟨rfl, hr⟩⟩ := ht
  · exact tdIf_by false (fun Q R q => tdNot_by true (fun Q R q => ⟨_, rfl, q⟩) q) (fun z => nomatch z) (fun _ => hq)
  · refine tdIf_by true (fun Q R q => tdNot_by false (fun Q R q => ⟨_, rfl, q⟩) q) (fun _ => ?_) (fun z => nomatch z)
    exact ⟨_, rfl, hr⟩
structure CellOk (c : Cell) : Prop where
  x : -1000000 ≤ c.1 ∧ c.1 ≤ 1000000
  y : -1000000 ≤ c.2.1 ∧ c.2.1 ≤ 1000000
  s : c.2.2 ∈ SIG
  g : c.2.2 ≠ 46
def cellD (c : Cell) : D := triD (cellT c)
def NearOk2 (cs : List Cell) : Prop := ∀ c ∈ cs, ∀ e ∈ cs, c.1 - e.1 < 200 ∧ c.2.1 - e.2.1 < 200
theorem mem_spotsRow {x y : Int} {j : Nat} {r : List Nat} {p : Spot} : p ∈ spotsRow x y j r ↔ ∃ k c, r[k]? = some c ∧ c ≠ 95 ∧ p = (x + (k : Nat), y + (j : Nat), c) := by
  unfold spotsRow
  constructor
  · intro h
    obtain ⟨⟨c, k⟩, hm, rfl⟩ := List.mem_map.mp h
    obtain ⟨h1, h2⟩ := List.mem_filter.mp hm
    exact ⟨k, c, List.mem_zipIdx_iff_getElem?.mp h1, by simpa using h2, rfl⟩
  · rintro ⟨k, c, h1, h2, rfl⟩
    exact List.mem_map.mpr ⟨(c, k), List.mem_filter.mpr ⟨List.mem_zipIdx_iff_getElem?.mpr h1, by simpa using h2⟩, rfl⟩
theorem mem_spotsFrom {x y : Int} {p : Spot} : ∀ {rows : Rows} {j : Nat}, p ∈ spotsFrom x y j rows ↔ ∃ i r k c, rows[i]? = some r ∧ r[k]? = some c ∧ c ≠ 95 ∧ p = (x + (k : Nat), y + ((j + i : Nat) : Int), c)
  | [], j => by simp [spotsFrom]
  | r :: rows, j => by
    rw [spotsFrom, List.mem_append, mem_spotsRow, mem_spotsFrom]
    constructor
    · rintro (⟨k, c, h1, h2, rfl⟩ | ⟨i, r, k, c, h0, h1, h2, rfl⟩)
      · exact ⟨0, r, k, c, rfl, h1, h2, rfl⟩
      · exact ⟨i + 1, r, k, c, by simpa using h0, h1, h2, by rw [show j + 1 + i = j + (i + 1) from by omega]⟩
    · rintro ⟨i, r', k, c, h0, h1, h2, rfl⟩
      cases i with
      | zero => cases h0; exact .inl ⟨k, c, h1, h2, rfl⟩
      | succ i => exact .inr ⟨i, r', k, c, by simpa using h0, h1, h2, by rw [show j + 1 + i = j + (i + 1) from by omega]⟩
def spLt (p q : Spot) : Prop := p.2.1 < q.2.1 ∨ (p.2.1 = q.2.1 ∧ p.1 < q.1)
theorem spotsRow_pw (x y : Int) (j : Nat) (r : List Nat) : (spotsRow x y j r).Pairwise spLt := by
  unfold spotsRow
  rw [List.pairwise_map]
  refine List.Pairwise.filter _ ?_
  rw [List.pairwise_iff_getElem]
  intro a b ha hb hab
  rw [List.getElem_zipIdx, List.getElem_zipIdx]
  right
  exact ⟨rfl, by show x + ((0 + a : Nat) : Int) < x + ((0 + b : Nat) : Int); omega⟩
theorem spotsFrom_pw (x y : Int) : ∀ (rows : Rows) (j : Nat), (spotsFrom x y j rows).Pairwise spLt
  | [], _ => .nil
  | r :: rows, j => by
    rw [spotsFrom, List.pairwise_append]
    refine ⟨spotsRow_pw x y j r, spotsFrom_pw x y rows (j + 1), fun p hp q hq => ?_⟩
    obtain ⟨k, c, _, _, rfl⟩ := mem_spotsRow.mp hp
    obtain ⟨i, r', k', c', _, _, _, rfl⟩ := mem_spotsFrom.mp hq
    left
    show y + (j : Int) < y + ((j + 1 + i : Nat) : Int)
    omega
theorem spots_keys (x y : Int) (rows : Rows) (j : Nat) : ((spotsFrom x y j rows).map cellK).Nodup := by
  unfold List.Nodup
  rw [List.pairwise_map]
  refine (spotsFrom_pw x y rows j).imp fun {p q} h e => ?_
  have e1 : p.1 = q.1 := by simpa [cellK] using congrArg (fun k : TK => k.head?) e
  have e2 : p.2.1 = q.2.1 := by simpa [cellK] using congrArg (fun k : TK => k.getLast?) e
  unfold spLt at h
  omega
def noGround (cs : List Cell) : List Cell := cs.filter fun c => decide (c.2.2 ≠ 46)
abbrev picCells (rows : Rows) : List Cell := noGround (spotsFrom 0 0 0 rows)
def t_laid_of (P : Program) (w : World) (ad : Nat → Addr) : TF := fun W ds Q _ => ∃ (rows : Rows) (n : Nat), ds = [rowsD rows] ∧ GoodRows (rows, n) SIG ∧ Q (.dt ⟨P, w⟩ (laidT (picCells rows)))
theorem ok_laid_of (T : Txt K mg ad fd) : FnG P w K mg base CX0 5 (ad 32) (fd 32) p_laid_of (spD K 1 (t_laid_of P w ad)) := by
  have G_spots_of := ok_spots_of (P := P) (w := w) (base := base) T
  obtain ⟨u_GROUND, g_GROUND, r_GROUND⟩ := T.c_GROUND
  refine okD T.h_laid_of.F sc_laid_of (fun cdv A outer s H E hr => ⟨_, _, fun W => (dss_one (ds_retX (dx_tc ⟨P, w⟩ hr.units rfl sc_laid_of.nd (di_any (DO.e (do_call G_spots_of (hr.mono (by decide)) T.h_spots_of.g T.h_spots_of.k T.h_spots_of.b pass0 (da_cons (dv 0) (da_cons de_int (da_cons de_int da_nil)))))) (blkOk_by (own := [("x", 1), ("y", 2), ("sign", 3)]) (N := n_laid_of) (by kernel_rfl)) (fun _ _ _ _ _ => (dg_tup rfl (dgs_cons (dg_name (i := 1) sc_laid_of.nd) (dgs_cons (dg_name (i := 2) sc_laid_of.nd) (dgs_cons (dg_name (i := 3) sc_laid_of.nd) dgs_nil))))) (fun _ _ _ _ _ => (dts_one (dt_ne hr.units (dv 3) (de_glob g_GROUND r_GROUND)))) (fun _ _ _ _ _ => (de_tup (da_cons (dv 1) (da_cons (dv 2) da_nil)))) (fun _ _ _ _ _ => (dv 3))))), fun W ds Q hl ht => ?_⟩) (fun _ _ _ _ h => h)
  obtain ⟨rows, n, rfl, g, hq⟩ := ht
  have gp : GoodRows (rows, n) SIGP := ⟨g.rect, g.n32, g.h32, fun row hr c hc => (by decide +kernel : ∀ c ∈ SIG, c ∈ SIGP) c (g.of row hr c hc)⟩
  have hlen : (spotsFrom 0 0 0 rows).length ≤ 1024 := by
    refine Nat.le_trans (spotsFrom_len (n := n) 0 0 _ _ fun r hr => g.rect.len r hr) ?_
    exact Nat.mul_le_mul g.h32 g.n32
  refine ⟨_, rfl, rfl, rows, n, 0, 0, rfl, gp, by decide, by decide, ?_⟩
  refine ⟨by simp; exact Nat.le_trans hlen (by decide), ?_⟩
  refine compT_mapL spotD (fun c => decide (c.2.2 ≠ 46)) cellK (fun c => sD [c.2.2]) (fun c hc Kk Kn h1 h2 => ⟨rfl, rfl, ?_⟩) (spots_keys _ _ _ _) (fun c _ h => nomatch h) ?_
  · by_cases e : c.2.2 = 46
    · have h2 := h2 (by simp [e])
      simp [dot_eq, e]
      exact h2
    · have h1 := h1 (by simp [e])
      simp [dot_eq, e]
      exact h1
  have e2 : ([] ++ ((spotsFrom 0 0 0 rows).filter fun c => decide (c.2.2 ≠ 46)).map fun a => (cellK a, sD [a.2.2])) = laidT (picCells rows) := by simp [laidT, cellE, picCells, noGround]
  rw [e2]
  exact hq
theorem fNe_s {i j : Str} {Q : D → Prop} (q : Q (.bl (!decide (i = j)))) : fNe (.str i) (.str j) Q := by
  show fEqN true _ _ Q
  rw [fEqN_str]
  simpa using q
theorem tdIf_P {c : TDT} {t1 t2 : TDS} {τ : Tau} {E : DEnds} (P : Bool → Prop) (h : ∀ (Q : Bool → Prop) (R : Exc → Prop), (∀ b, P b → Q b) → c (frz τ) Q R) (k1 : P true → t1 τ E) (k2 : P false → t2 τ E) : tdIfS c t1 t2 τ E := by
  refine h _ _ fun b pb => ?_
  by_cases e : b = true
  · subst e
    rw [if_pos rfl]; exact k1 pb
  · have e : b = false := by simpa using e
    subst e
    rw [if_neg (by decide)]; exact k2 pb
theorem isX_step {K : PySem.W.Frag} {a : Addr} {d : Option Addr} {fs : List (Str × D)} {C D' : Addr} {b : Bool} {Q : D → Prop} (E : ExcK K D') (k : PySem.W.kitOne K (.ref D') (.ref C) = some b) (q : Q (.bl b)) : fIsX K a (.ref D') d [.exc a d fs, .v (.ref C)] Q := by
  rw [fIsX_exc]
  exact ⟨rfl, rfl, _, _, rfl, E, k, q⟩
theorem xa_step {K : PySem.W.Frag} {a : Addr} {d : Option Addr} {n : Str} {fs : List (Str × D)} {C : Addr} {y : D} {Q : D → Prop} (E : ExcK K C) (nf : PySem.W.findIn K (.ref C) n = some none) (l : fs.lookup n = some y) (q : Q y) : fXa K a (.ref C) d n (.exc a d fs) Q := by
  rw [fXa_exc]
  exact ⟨rfl, rfl, _, _, rfl, E, nf, l, q⟩
theorem tdFor_by {it : TDI} {g : TDG} {tb : TDS} {τ : Tau} {E : DEnds} (Ps : List D → Prop) (h1 : ∀ (Q : List D → Prop) (R : Exc → Prop), (∀ ds, Ps ds → Q ds) → it τ Q R) (h2 : ∀ ds, Ps ds → forD g tb ds τ E) : tdFor it g tb τ E := h1 _ _ h2
def signsN (n : Nat) : List Nat := SIG.take n
def t_Lsigns : TF := fun W ds Q _ => ∃ n : Nat, ds = [.int n] ∧ n ≤ 27 ∧ Q (sD (signsN n))
theorem ok_Lsigns (T : Txt K mg ad fd) : FnG P w K mg base CX0 1 (ad 38) (fd 38) p_Lsigns (spD K 1 t_Lsigns) := by
  refine okD T.h_Lsigns.F sc_Lsigns (fun cdv A outer s H E hr => ⟨_, _, fun W => (dss_one (ds_ret (de_sl de_str dp_none (dp_some (dv 0))))), fun W ds Q hl ht => ?_⟩) (fun _ _ _ _ h => h)
  obtain ⟨n, rfl, hn, hq⟩ := ht
  refine tdRet_by _ (fun Q R q => ?_) hq
  simp only [tdSlS, tdC, tdNoPart, tdPart, sig_eq, onStr_str, cutS_mk]
  refine ⟨_, rfl, ?_⟩
  show onI (.int (n : Nat)) _
  rw [onI_int, cutN_to]
  exact ⟨by simp [SIG], q⟩
def t_Ldrawn_sign : TF := fun W ds Q _ => ∃ (b c : Addr) (cells : List Int) (S : List Nat), W = bagW b c cells ∧ ds = [.v (.ref b), sD S] ∧ S ≠ [] ∧ S.length ≤ 27 ∧ (∀ c ∈ S, c ∈ SIG) ∧ ∀ c ∈ SIG, Q (sD [c])
theorem ok_Ldrawn_sign (T : Txt K mg ad fd) : FnG P w K mg base CX0 2 (ad 39) (fd 39) p_Ldrawn_sign (spD K 2 t_Ldrawn_sign) := by
  have G_Ltake := ok_Ltake (P := P) (w := w) (base := base) T
  refine okD T.h_Ldrawn_sign.F sc_Ldrawn_sign (fun cdv A outer s H E hr => ⟨_, _, fun W => (dss_one (ds_ret (de_ix (de_add (dv 1) (de_smul de_str (de_len T.m_len (da_cons (dv 1) da_nil)))) (de_call G_Ltake (hr.mono (by decide)) T.h_Ltake.g T.h_Ltake.k T.h_Ltake.b pass0 (da_cons (dv 0) (da_cons (de_mul de_int (de_len T.m_len (da_cons (dv 1) da_nil))) da_nil)))))), fun W ds Q hl ht => ?_⟩) (fun _ _ _ _ h => h)
  obtain ⟨b, c, cells, S, rfl, rfl, ne, hl, of, hq⟩ := ht
  have h0 : 0 < S.length := List.length_pos_iff.mpr ne
  have es : repS (Str.ofString ".") ((mk S).length : Int).toNat = mk (List.replicate S.length 46) := by
    rw [dot_eq, repS_mk, mk_length, Int.toNat_natCast]
    simp
  refine ⟨_, rfl, _, rfl, by rw [mk_length]; exact Nat.le_trans hl (by decide), ⟨by rw [mk_length]; omega, by rw [mk_length]; omega⟩, ?_⟩
  rw [es]
  refine ⟨by rw [dot_eq, mk_length, mk_length]; simp; omega, ?_⟩
  show fAdd (sD S) (sD (List.replicate S.length 46)) _
  rw [fAdd_str, app_mk, mk_length, mk_length, List.length_replicate]
  refine ⟨by show S.length + S.length ≤ 16777216; omega, ?_⟩
  refine ⟨_, rfl, _, rfl, by rw [mk_length]; exact Nat.le_trans hl (by decide), ?_⟩
  rw [mk_length]
  refine ⟨.inr ⟨by omega, by omega⟩, rfl, take_i (by omega) (by omega) fun v a1 a2 => ?_⟩
  obtain ⟨x, e1, e2⟩ := atI_some (xs := S ++ List.replicate S.length 46) a1 (by rw [List.length_append, List.length_replicate]; omega)
  refine ⟨by rw [mk_length, List.length_append, List.length_replicate]; show S.length + S.length ≤ 16777216; omega, x, by rw [mk_cps]; exact e1, ?_⟩
  refine hq x ?_
  rcases List.mem_append.mp e2 with h | h
  · exact of x h
  · rw [List.eq_of_mem_replicate h]; decide
/-- a thing, and the parts of a tuple -/
structure Cellish (d : D) : Prop where
  arg : Arg d
  parts : ∀ xs, d = .tup xs → xs.length ≤ 16777216 ∧ ∀ x ∈ xs, Arg x
def listedB : D → Bool
  | .tup [x, y, s] => inB (-1000000) 1000000 x && (inB (-1000000) 1000000 y && (strP isSignL s && !strP (fun l => decide (l = [46])) s))
  | _ => false
theorem listed3 {x y s : D} : listedB (.tup [x, y, s]) = (inB (-1000000) 1000000 x && (inB (-1000000) 1000000 y && (strP isSignL s && !strP (fun l => decide (l = [46])) s))) := rfl
theorem not_tup {d : D} {t : String} (h : tyD d = some t) (ht : ¬∃ xs, d = .tup xs) : isTy t "tuple" = false := by
  rcases d with (_ | _ | _ | _ | _ | _ | _ | _) | _ | _ | _ | _ | _ <;> first | exact absurd ⟨_, rfl⟩ ht | (cases h; done) | (cases h; decide)
theorem not_lst {d : D} {t : String} (h : tyD d = some t) (ht : ¬∃ xs, d = .lst xs) : isTy t "list" = false := by
  rcases d with (_ | _ | _ | _ | _ | _ | _ | _) | _ | _ | _ | _ | _ <;> first | exact absurd ⟨_, rfl⟩ ht | (cases h; done) | (cases h; decide)
theorem listed_no {d : D} (ht : ¬∃ xs, d = .tup xs) : listedB d = false := by
  unfold listedB
  split
  · exact absurd ⟨_, rfl⟩ ht
  · rfl
theorem listed_len {xs : List D} (h : xs.length ≠ 3) : listedB (.tup xs) = false := by
  match xs, h with
  | [], _ => rfl
  | [a], _ => rfl
  | [a, b], _ => rfl
  | [a, b, c], h => exact absurd rfl h
  | a :: b :: c :: d :: l, _ => rfl
theorem three {xs : List D} (h : xs.length = 3) : ∃ x y s, xs = [x, y, s] := by
  match xs, h with
  | [x, y, s], _ => exact ⟨x, y, s, rfl⟩
theorem fEq_i {i j : Int} {Q : D → Prop} (q : Q (.bl (decide (i = j)))) : fEq (.int i) (.int j) Q := by
  show fEqN false _ _ Q
  rw [fEqN_int]
  simpa using q
theorem fNe_i {i j : Int} {Q : D → Prop} (q : Q (.bl (!decide (i = j)))) : fNe (.int i) (.int j) Q := by
  show fEqN true _ _ Q
  rw [fEqN_int]
  simpa using q
theorem sign_one {d : D} (h : strP isSignL d = true) : ∃ c, d = sD [c] ∧ c ∈ SIG := by
  rcases d with (_ | _ | _ | s | _ | _ | _ | _) | _ | _ | _ | _ | _ <;> try (cases h; done)
  obtain ⟨l, rfl⟩ : ∃ l, s = mk l := ⟨_, mk_of s⟩
  rw [strP_sD] at h
  simp [isSignL, allSig] at h
  obtain ⟨h1, h2⟩ := h
  match l, h1, h2 with
  | [c], _, h2 => exact ⟨c, rfl, h2 c (by simp)⟩
def t_is_listed : TF := fun W ds Q _ => ∃ d, ds = [d] ∧ Cellish d ∧ Q (.bl (listedB d))
theorem ok_is_listed (T : Txt K mg ad fd) : FnG P w K mg base CX0 4 (ad 27) (fd 27) p_is_listed (spD K 1 t_is_listed) := by
  have G_is_sign := ok_is_sign (P := P) (w := w) (base := base) T
  have G_is_spot := ok_is_spot (P := P) (w := w) (base := base) T
  obtain ⟨u_GROUND, g_GROUND, r_GROUND⟩ := T.c_GROUND
  refine okD T.h_is_listed.F sc_is_listed (fun cdv A outer s H E hr => ⟨_, _, fun W => (dss_cons (ds_if (DW.t (dw_or (dt_not (dt_val (de_isi T.m_isinstance (da_cons (dv 0) (da_cons (de_ty "tuple" T.m_tuple) da_nil))))) (dw_or1 (dt_ne hr.units (de_len T.m_len (da_cons (dv 0) da_nil)) de_int)))) (dss_one (ds_ret de_bl)) dss_nil)
      (dss_cons (ds_asg (dv 0) (dg_tup rfl (dgs_cons (dg_name (i := 1) sc_is_listed.nd) (dgs_cons (dg_name (i := 2) sc_is_listed.nd) (dgs_cons (dg_name (i := 3) sc_is_listed.nd) dgs_nil)))))
      (dss_one (ds_ret (de_and (de_call G_is_spot (hr.mono (by decide)) T.h_is_spot.g T.h_is_spot.k T.h_is_spot.b pass0 (da_cons (dv 1) da_nil)) (de_and (de_call G_is_spot (hr.mono (by decide)) T.h_is_spot.g T.h_is_spot.k T.h_is_spot.b pass0 (da_cons (dv 2) da_nil)) (de_and (de_call G_is_sign (hr.mono (by decide)) T.h_is_sign.g T.h_is_sign.k T.h_is_sign.b pass0 (da_cons (dv 3) da_nil)) (de_one (de_ne hr.units (dv 3) (de_glob g_GROUND r_GROUND)))))))))), fun W ds Q hl ht => ?_⟩) (fun _ _ _ _ h => h)
  obtain ⟨d, rfl, hd, hq⟩ := ht
  by_cases ht : ∃ xs, d = .tup xs
  case neg =>
    obtain ⟨t, hty⟩ := hd.arg.ty
    rw [listed_no ht] at hq
    exact tdSeq_if1 true (fun Q R q => tdOr_by true true (fun Q R q => tdNot_by false (fun Q R q => tdTest_by _ (fun Q R q => ⟨_, rfl, by decide, t, hty, by rw [not_tup hty ht]; exact q⟩) q) q) (fun z => nomatch z) q) (fun _ => hq) (fun z => nomatch z)
  obtain ⟨xs, rfl⟩ := ht
  obtain ⟨xl, xa⟩ := hd.parts xs rfl
  refine tdSeq_if1 (!decide (xs.length = 3)) (fun Q R q => tdOr_by false (!decide (xs.length = 3)) (fun Q R q => tdNot_by true (fun Q R q => tdTest_by _ (fun Q R q => ⟨_, rfl, by decide, "tuple", rfl, q⟩) q) q) (fun _ Q R q => tdTest_by _ (fun Q R q => ⟨_, rfl, ?_⟩) q) q) (fun z => ?_) (fun z => ?_)
  · simp only [tdNil, fLen_tup, tdC]
    refine fNe_i ?_
    rw [show decide (((xs.length : Nat) : Int) = 3) = decide (xs.length = 3) from decide_eq_decide.mpr (by omega)]
    exact q
  · have z : xs.length ≠ 3 := by simpa using z
    rw [listed_len z] at hq
    exact hq
  obtain ⟨x, y, s, rfl⟩ := three (by simpa using z)
  have a1 := xa x (by simp)
  have a2 := xa y (by simp)
  have a3 := xa s (by simp)
  rw [listed3] at hq
  refine tdSeq_tup3 x y s (fun Q R q => ⟨_, rfl, q⟩) ?_
  refine tdRet_by _ (fun Q R q => ?_) hq
  refine tdAndV_by _ _ (fun Q R q => ⟨_, rfl, rfl, x, rfl, a1, q⟩) (fun _ Q R q => ?_) q
  refine tdAndV_by _ _ (fun Q R q => ⟨_, rfl, rfl, y, rfl, a2, q⟩) (fun _ Q R q => ?_) q
  refine tdAndV_by _ _ (fun Q R q => ⟨_, rfl, rfl, s, rfl, a3, q⟩) (fun hs Q R q => ?_) q
  obtain ⟨c, rfl, hc⟩ := sign_one hs
  rw [strP_sD] at q
  refine ⟨_, rfl, ?_⟩
  rw [dot_eq]
  show fEqN true (.str (mk [c])) (.str (mk [46])) Q
  rw [fEqN_str]
  simpa using q
def cellOf : D → Cell
  | .tup [.v (.int x), .v (.int y), .v (.str s)] => (x, y, s.cps.toList.headD 0)
  | _ => (0, 0, 0)
theorem listed_cell {d : D} (h : listedB d = true) : d = cellD (cellOf d) ∧ CellOk (cellOf d) := by
  by_cases ht : ∃ xs, d = .tup xs
  case neg => rw [listed_no ht] at h; cases h
  obtain ⟨xs, rfl⟩ := ht
  by_cases hl : xs.length = 3
  case neg => rw [listed_len hl] at h; cases h
  obtain ⟨x, y, s, rfl⟩ := three hl
  rw [listed3] at h
  simp only [Bool.and_eq_true] at h
  obtain ⟨h1, h2, h3, h4⟩ := h
  rcases x with (_ | _ | i | _ | _ | _ | _ | _) | _ | _ | _ | _ | _ <;> try (cases h1; done)
  rcases y with (_ | _ | j | _ | _ | _ | _ | _) | _ | _ | _ | _ | _ <;> try (cases h2; done)
  obtain ⟨c, rfl, hc⟩ := sign_one h3
  have k1 : -1000000 ≤ i ∧ i ≤ 1000000 := of_decide_eq_true h1
  have k2 : -1000000 ≤ j ∧ j ≤ 1000000 := of_decide_eq_true h2
  have k4 : c ≠ 46 := by
    intro e
    subst e
    simp at h4
  refine ⟨?_, k1, k2, ?_, ?_⟩
  · simp [cellOf, cellD, triD, cellT]
  · simpa [cellOf] using hc
  · simpa [cellOf] using k4
theorem nodup_le {α : Type} [DecidableEq α] : ∀ {ks L : List α}, L.Nodup → (∀ k ∈ L, k ∈ ks) → L.length ≤ ks.length
  | [], L, _, h => by
    cases L with
    | nil => exact Nat.le_refl _
    | cons a l => exact absurd (h a List.mem_cons_self) (by simp)
  | k :: ks, L, nd, h => by
    have h1 : (L.erase k).length ≤ ks.length := nodup_le (nd.erase k) fun x hx => by
      have hx := (nd.mem_erase_iff).mp hx
      rcases List.mem_cons.mp (h x hx.2) with e | h
      · exact absurd e hx.1
      · exact h
    have h2 : L.length ≤ (L.erase k).length + 1 := by
      by_cases hk : k ∈ L
      · rw [List.length_erase_of_mem hk]; omega
      · rw [List.erase_of_not_mem hk]; omega
    rw [List.length_cons]
    omega
theorem nodup_len {α : Type} [DecidableEq α] : ∀ {ks L : List α}, L.Nodup → (∀ k, k ∈ L ↔ k ∈ ks) → L.length = ks.length → ks.Nodup
  | [], _, _, _, _ => List.nodup_nil
  | k :: ks, L, nd, h, hl => by
    have hk : k ∉ ks := fun hk => by
      have := nodup_le (ks := ks) nd fun x hx => by
        rcases List.mem_cons.mp ((h x).mp hx) with e | h
        · rw [e]; exact hk
        · exact h
      rw [hl, List.length_cons] at this
      omega
    have hm : k ∈ L := (h k).mpr List.mem_cons_self
    refine List.nodup_cons.mpr ⟨hk, nodup_len (nd.erase k) (fun x => ?_) ?_⟩
    · rw [nd.mem_erase_iff, h x, List.mem_cons]
      constructor
      · rintro ⟨h1, h2 | h2⟩
        · exact absurd h2 h1
        · exact h2
      · intro hx
        exact ⟨fun e => hk (e ▸ hx), .inr hx⟩
    · rw [List.length_erase_of_mem hm, hl, List.length_cons]
      omega
def cellsB : D → Bool
  | .lst xs => xs.all listedB && decide (((xs.map cellOf).map cellK).Nodup)
  | _ => false
theorem cells_no {d : D} (h : ¬∃ xs, d = .lst xs) : cellsB d = false := by
  unfold cellsB
  split
  · exact absurd ⟨_, rfl⟩ h
  · rfl
theorem cells_back {xs : List D} (h : xs.all listedB = true) : xs = (xs.map cellOf).map cellD ∧ ∀ c ∈ xs.map cellOf, CellOk c := by
  rw [List.all_eq_true] at h
  refine ⟨?_, fun c hc => ?_⟩
  · rw [List.map_map]
    exact ((List.map_congr_left fun d hd => (listed_cell (h d hd)).1.symm).trans (List.map_id xs)).symm
  · obtain ⟨d, hd, rfl⟩ := List.mem_map.mp hc
    exact (listed_cell (h d hd)).2
/-- a thing, and the parts of a list -/
structure Listish (d : D) : Prop where
  arg : Arg d
  parts : ∀ xs, d = .lst xs → xs.length ≤ 16777216 ∧ (∀ x ∈ xs, Cellish x) ∧ (xs.all listedB = true → xs.length < 63)
def t_are_listed : TF := fun W ds Q _ => ∃ d, ds = [d] ∧ Listish d ∧ Q (.bl (cellsB d))
theorem ok_are_listed (T : Txt K mg ad fd) : FnG P w K mg base CX0 5 (ad 28) (fd 28) p_are_listed (spD K 1 t_are_listed) := by
  have G_is_listed := ok_is_listed (P := P) (w := w) (base := base) T
  refine okD T.h_are_listed.F sc_are_listed (fun cdv A outer s H E hr => ⟨_, _, fun W => (dss_cons (ds_if (DW.t (dw_or (dt_not (dt_val (de_isi T.m_isinstance (da_cons (dv 0) (da_cons (de_ty "list" T.m_list) da_nil))))) (dw_or1 (dt_not (dt_val (de_all T.m_all (da_cons (DO.e (do_lc rfl sc_are_listed.nd (di_any (dv 0)) (blkOk_by (own := [("cell", 4)]) (N := n_are_listed) (by kernel_rfl)) (fun _ _ _ _ _ => (dg_name (i := 4) sc_are_listed.nd)) (fun _ _ _ _ _ => dts_nil) (fun _ _ _ _ _ => (de_call G_is_listed (hr.mono (by decide)) T.h_is_listed.g T.h_is_listed.k T.h_is_listed.b pass0 (da_cons (dv 4) da_nil))))) da_nil))))))) (dss_one (ds_ret de_bl)) dss_nil)
      (dss_one (ds_ret (de_eq hr.units (de_lenSc ⟨P, w⟩ hr.units rfl sc_are_listed.nd T.m_len (di_any (dv 0)) (blkOk_by (own := [("x", 1), ("y", 2), ("sign", 3)]) (N := n_are_listed) (by kernel_rfl)) (fun _ _ _ _ _ => (dg_tup rfl (dgs_cons (dg_name (i := 1) sc_are_listed.nd) (dgs_cons (dg_name (i := 2) sc_are_listed.nd) (dgs_cons (dg_name (i := 3) sc_are_listed.nd) dgs_nil))))) (fun _ _ _ _ _ => dts_nil) (fun _ _ _ _ _ => (de_tup (da_cons (dv 1) (da_cons (dv 2) da_nil))))) (de_len T.m_len (da_cons (dv 0) da_nil)))))), fun W ds Q hl ht => ?_⟩) (fun _ _ _ _ h => h)
  obtain ⟨d, rfl, hd, hq⟩ := ht
  by_cases ht : ∃ xs, d = .lst xs
  case neg =>
    obtain ⟨t, hty⟩ := hd.arg.ty
    rw [cells_no ht] at hq
    exact tdSeq_if1 true (fun Q R q => tdOr_by true true (fun Q R q => tdNot_by false (fun Q R q => tdTest_by _ (fun Q R q => ⟨_, rfl, by decide, t, hty, by rw [not_lst hty ht]; exact q⟩) q) q) (fun z => nomatch z) q) (fun _ => hq) (fun z => nomatch z)
  obtain ⟨xs, rfl⟩ := ht
  obtain ⟨xl, xa, x63⟩ := hd.parts xs rfl
  have hq : Q (.bl (xs.all listedB && decide (((xs.map cellOf).map cellK).Nodup))) := hq
  refine tdSeq_if1 (!xs.all listedB) (fun Q R q => tdOr_by false (!xs.all listedB) (fun Q R q => tdNot_by true (fun Q R q => tdTest_by _ (fun Q R q => ⟨_, rfl, by decide, "list", rfl, q⟩) q) q) (fun _ Q R q => tdNot_by _ (fun Q R q => tdTest_by _ (fun Q R q => ?_) q) q) q) (fun z => ?_) (fun z => ?_)
  · exact ⟨_, rfl, xl, compD_mapG (fun d => .bl (listedB d)) (fun d hd K hK => ⟨_, rfl, rfl, d, rfl, xa d hd, hK⟩) (all_bools (l := xs) (p := listedB) q)⟩
  · have z : xs.all listedB = false := by simpa using z
    rw [z] at hq
    exact hq
  have z : xs.all listedB = true := by simpa using z
  rw [z, Bool.true_and] at hq
  have hq2 := hq
  clear hq
  obtain ⟨e, hc⟩ := cells_back z
  have h63 := x63 z
  generalize xs.map cellOf = cs at e hc hq2
  subst e
  rw [List.length_map] at h63
  refine tdRet_by (.bl (decide ((cs.map cellK).Nodup))) (fun Q R q => ?_) hq2
  refine ⟨_, rfl, by simpa using h63, compS_mapL cellD (fun c => [c.1, c.2.1]) (fun c hc Kk hk => ⟨rfl, rfl, _, rfl, _, rfl, by show 2 ≤ sizeLine; decide, hk⟩) ?_⟩
  intro L hL hm
  have hm2 : ∀ k, k ∈ L ↔ k ∈ cs.map fun c => [c.1, c.2.1] := fun k => by rw [hm]; simp
  have e2 : decide (((L.length : Nat) : Int) = ((cs.map cellD).length : Nat)) = decide ((cs.map cellK).Nodup) := by
    refine decide_eq_decide.mpr ⟨fun e => ?_, fun nd => ?_⟩
    · have h3 : (cs.map fun c => [c.1, c.2.1]).Nodup := nodup_len hL hm2 (by rw [List.length_map] at e ⊢; omega)
      unfold List.Nodup at h3 ⊢
      rw [List.pairwise_map] at h3 ⊢
      exact h3.imp fun {a b} h e => h (by simp [cellK] at e ⊢; exact e)
    · have nd2 : (cs.map fun c => [c.1, c.2.1]).Nodup := by
        unfold List.Nodup at nd ⊢
        rw [List.pairwise_map] at nd ⊢
        exact nd.imp fun {a b} h e => h (by simp [cellK] at e ⊢; exact e)
      have hp : L.Perm (cs.map fun c => [c.1, c.2.1]) := (List.perm_ext_iff_of_nodup hL nd2).mpr hm2
      have := hp.length_eq
      rw [List.length_map] at this ⊢
      omega
  refine ⟨_, rfl, ?_⟩
  simp only [tdNil, fLen_lst]
  refine fEq_i ?_
  rw [e2]
  exact q
def farE (ad : Nat → Addr) : Exc := (.ref (ad 4), [("most", .int 200)])
def t_need_near (P : Program) (w : World) (ad : Nat → Addr) : TF := fun W ds Q R => ∃ f : Fld, ds = [f.d P w ad] ∧ f.form = endlessL ∧ f.cs.length ≤ 1024 ∧ (NearOk2 f.cs → Q (f.d P w ad)) ∧ (¬NearOk2 f.cs → R (farE ad))
theorem ok_need_near (T : Txt K mg ad fd) : FnG P w K mg base (L2.CX P w) 3 (ad 29) (fd 29) p_need_near (spD K 1 (t_need_near P w ad)) := by
  have G_Field_frame := ok_Field_frame (P := P) (w := w) (base := base) T
  obtain ⟨u_MOST_FRAME, g_MOST_FRAME, r_MOST_FRAME⟩ := T.c_MOST_FRAME
  refine okDX T.h_need_near.F sc_need_near (fun cdv A outer s H E hr => ⟨_, _, fun W => (dss_cons (ds_if (DW.t (dw_and (dt_eq hr.units (de_fld T.cl_Field T.na_Field_form (dv 0)) de_str) (dw_and1 (dt_notN (de_meth0 T.cl_Field T.h_Field_frame G_Field_frame (hr.mono (by decide)) pass0 (dv 0)))))) (dss_cons (ds_asg (de_meth0 T.cl_Field T.h_Field_frame G_Field_frame (hr.mono (by decide)) pass0 (dv 0)) (dg_tup rfl (dgs_cons (dg_name (i := 1) sc_need_near.nd) (dgs_cons (dg_name (i := 2) sc_need_near.nd) (dgs_cons (dg_name (i := 3) sc_need_near.nd) (dgs_cons (dg_name (i := 4) sc_need_near.nd) dgs_nil))))))
      (dss_one (ds_if (dt_ge (de_max2 T.m_max (da_cons (de_sub (dv 3) (dv 1)) (da_cons (de_sub (dv 4) (dv 2)) da_nil))) (de_glob g_MOST_FRAME r_MOST_FRAME)) (dss_one (ds_raise rfl (takes_of rfl rfl rfl rfl) (dmk_init1 T.x_TooFar (okI_TooFar T) hr (by decide) T.f_TooFar_most (da_cons (de_glob g_MOST_FRAME r_MOST_FRAME) da_nil)))) dss_nil))) dss_nil)
      (dss_one (ds_ret (dv 0)))), fun W ds Q R hl ht => ?_⟩)
  obtain ⟨f, rfl, hf, hl, hq, hr⟩ := ht
  have fr : ∀ {Q : D → Prop} {R : Exc → Prop} {τ : Tau}, τ[0]? = some (some (.dat (f.d P w ad))) → (f.cs = [] → Q .non) → (f.cs ≠ [] → ∀ a b c d, a ∈ f.cs.map (·.1) → (∀ x ∈ f.cs.map (·.1), a ≤ x) → b ∈ f.cs.map (·.2.1) → (∀ x ∈ f.cs.map (·.2.1), b ≤ x) → c ∈ f.cs.map (·.1) → (∀ x ∈ f.cs.map (·.1), x ≤ c) → d ∈ f.cs.map (·.2.1) → (∀ x ∈ f.cs.map (·.2.1), x ≤ d) → Q (.tup [.int a, .int b, .int c, .int d])) → tdMeth (ad 30) (Str.ofString "frame") 1 (t_Field_frame P w ad) W (tdVar 0) tdNil τ Q R := fun e h0 h1 => ⟨_, e, rfl, rfl, rfl, f, rfl, hl, h0, h1⟩
  have ef : Str.ofString "endless" = mk f.form := by rw [hf]; exact endless_eq
  refine tdSeq_if1 (!f.cs.isEmpty) (fun Q R q => ?_) (fun z => ?_) (fun z => ⟨_, rfl, hq ?_⟩)
  · refine tdAnd_by true (!f.cs.isEmpty) (fun Q R q => tdTest_by true (fun Q R q => ⟨_, rfl, rfl, _, fld_form, ?_⟩) q) (fun _ Q R q => tdTest_by (!f.cs.isEmpty) (fun Q R q => fr rfl (fun e => ?_) (fun ne a b c d _ _ _ _ _ _ _ _ => ?_)) q) q
    · rw [ef]; simp; exact q
    · rw [e] at q; exact q
    · have e : f.cs.isEmpty = false := by simpa using ne
      rw [e] at q; exact q
  · have ne : f.cs ≠ [] := fun e => by rw [e] at z; cases z
    refine fr rfl (fun e => absurd e ne) (fun _ a b c d a1 a2 b1 b2 c1 c2 d1 d2 => ?_)
    have hnear : NearOk2 f.cs ↔ (c - a < 200 ∧ d - b < 200) := by
      constructor
      · intro h
        obtain ⟨ca, ha, rfl⟩ := List.mem_map.mp a1
        obtain ⟨cb, hb, rfl⟩ := List.mem_map.mp b1
        obtain ⟨cc, hc, rfl⟩ := List.mem_map.mp c1
        obtain ⟨cd, hd, rfl⟩ := List.mem_map.mp d1
        exact ⟨(h cc hc ca ha).1, (h cd hd cb hb).2⟩
      · intro h x hx y hy
        have k1 := a2 y.1 (List.mem_map_of_mem (f := fun c : Cell => c.1) hy)
        have k2 := c2 x.1 (List.mem_map_of_mem (f := fun c : Cell => c.1) hx)
        have k3 := b2 y.2.1 (List.mem_map_of_mem (f := fun c : Cell => c.2.1) hy)
        have k4 := d2 x.2.1 (List.mem_map_of_mem (f := fun c : Cell => c.2.1) hx)
        exact ⟨by omega, by omega⟩
    refine ⟨rfl, ?_⟩
    simp only [gdCons_cons, gdNil, gdName]
    refine ⟨trivial, ?_⟩
    refine tdIf_by (!decide (c - a < 200 ∧ d - b < 200)) (fun Q R q => tdTest_by _ (fun Q R q => ⟨_, rfl, _, rfl, ⟨_, rfl, _, rfl, ?_⟩⟩) q) (fun z => ?_) (fun z => ⟨_, rfl, hq (hnear.mpr (by simpa using z))⟩)
    · show Q (.bl (decide ((if d - b > c - a then d - b else c - a) ≥ (200 : Int))))
      have e : decide ((if d - b > c - a then d - b else c - a) ≥ (200 : Int)) = !decide (c - a < 200 ∧ d - b < 200) := by
        rw [Bool.eq_iff_iff]
        simp only [decide_eq_true_eq, Bool.not_eq_true', decide_eq_false_iff_not]
        split <;> omega
      rw [e]
      exact q
    · exact hr fun h => by
        have := hnear.mp h
        simp [this] at z
  · have ne : f.cs = [] := by simpa using z
    rw [ne]
    intro c hc
    cases hc
def t_endless (P : Program) (w : World) (ad : Nat → Addr) : TF := fun W ds Q R => ∃ d e : D, ds = [d, e] ∧ Listish d ∧ Arg e ∧ (cellsB d = false → R (wrongE ad 0)) ∧ (cellsB d = true → inB 0 1000000000 e = false → R (wrongE ad 1)) ∧
  ∀ (cs : List Cell) (t : Int), cellsB d = true → inB 0 1000000000 e = true → d = .lst (cs.map cellD) → e = .int t → (∀ c ∈ cs, CellOk c) → (cs.map cellK).Nodup → (NearOk2 cs → Q (Fld.d P w ad ⟨endlessL, cs, t, none, none, none⟩)) ∧ (¬NearOk2 cs → R (farE ad))
theorem ok_endless (T : Txt K mg ad fd) : FnG P w K mg base (L2.CX P w) 6 (ad 31) (fd 31) p_endless (spD K 2 (t_endless P w ad)) := by
  have G_is_turn := ok_is_turn (P := P) (w := w) (base := base) T
  have G_need_good := ok_need_good (P := P) (w := w) (base := base) T
  have G_are_listed := ok_are_listed (P := P) (w := w) (base := base) T
  have G_need_near := ok_need_near (P := P) (w := w) (base := base) T
  have G_Field___init__ := ok_Field___init__ (P := P) (w := w) (base := base) T
  refine okDX T.h_endless.F sc_endless (fun cdv A outer s H E hr => ⟨_, _, fun W => (dss_cons (ds_drop (de_callX G_need_good (hr.mono (by decide)) T.h_need_good.g T.h_need_good.k T.h_need_good.b (takes_of rfl rfl rfl rfl) (da_cons de_int (da_cons (de_call G_are_listed (hr.mono (by decide)) T.h_are_listed.g T.h_are_listed.k T.h_are_listed.b pass0 (da_cons (dv 0) da_nil)) da_nil))))
      (dss_cons (ds_drop (de_callX G_need_good (hr.mono (by decide)) T.h_need_good.g T.h_need_good.k T.h_need_good.b (takes_of rfl rfl rfl rfl) (da_cons de_int (da_cons (de_call G_is_turn (hr.mono (by decide)) T.h_is_turn.g T.h_is_turn.k T.h_is_turn.b pass0 (da_cons (dv 1) da_nil)) da_nil))))
      (dss_one (ds_ret (de_callX G_need_near (hr.mono (by decide)) T.h_need_near.g T.h_need_near.k T.h_need_near.b (takes_of rfl rfl rfl rfl) (da_cons (de_make T.mk_Field T.h_Field___init__ G_Field___init__ (hr.mono (by decide)) T.g_Field pass0 (da_cons de_str (da_cons (DX.dat (dx_tc ⟨P, w⟩ hr.units rfl sc_endless.nd (di_any (dv 0)) (blkOk_by (own := [("x", 2), ("y", 3), ("sign", 4)]) (N := n_endless) (by kernel_rfl)) (fun _ _ _ _ _ => (dg_tup rfl (dgs_cons (dg_name (i := 2) sc_endless.nd) (dgs_cons (dg_name (i := 3) sc_endless.nd) (dgs_cons (dg_name (i := 4) sc_endless.nd) dgs_nil))))) (fun _ _ _ _ _ => dts_nil) (fun _ _ _ _ _ => (de_tup (da_cons (dv 2) (da_cons (dv 3) da_nil)))) (fun _ _ _ _ _ => (dv 4)))) (da_cons (dv 1) (da_cons de_non (da_cons de_non (da_cons de_non da_nil))))))) da_nil)))))), fun W ds Q R hl ht => ?_⟩)
  obtain ⟨d, e, rfl, hd, he, h0, h1, hq⟩ := ht
  refine ⟨_, rfl, rfl, d, rfl, hd, rfl, 0, ?_⟩
  cases hc : cellsB d with
  | false => exact .inr ⟨rfl, h0 hc⟩
  | true =>
  refine .inl ⟨rfl, ?_⟩
  refine ⟨_, rfl, rfl, e, rfl, he, rfl, 1, ?_⟩
  cases hi : inB 0 1000000000 e with
  | false => exact .inr ⟨rfl, h1 hc hi⟩
  | true =>
  refine .inl ⟨rfl, ?_⟩
  have hq := fun cs t => hq cs t hc hi
  obtain ⟨xs, rfl⟩ : ∃ xs, d = .lst xs := Classical.byContradiction fun h => by rw [cells_no h] at hc; cases hc
  have hc : (xs.all listedB && decide (((xs.map cellOf).map cellK).Nodup)) = true := hc
  rw [Bool.and_eq_true] at hc
  obtain ⟨z, nd0⟩ := hc
  have nd := of_decide_eq_true nd0
  clear nd0
  have h63 := (hd.parts xs rfl).2.2 z
  obtain ⟨ex, hok⟩ := cells_back z
  clear z
  generalize xs.map cellOf = cs at ex nd hok
  subst ex
  rw [List.length_map] at h63
  obtain ⟨t, rfl⟩ : ∃ t, e = .int t := by
    rcases e with (_ | _ | i | _ | _ | _ | _ | _) | _ | _ | _ | _ | _ <;> first | exact ⟨_, rfl⟩ | (cases hi; done)
  obtain ⟨q1, q2⟩ := hq cs t rfl rfl hok nd
  refine ⟨_, rfl, by simp; exact Nat.le_trans (Nat.le_of_lt h63) (by decide), ?_⟩
  refine compT_mapL cellD (fun _ => true) cellK (fun c => sD [c.2.2]) (fun c hc Kk Kn h1 h2 => ⟨rfl, rfl, _, rfl, _, rfl, by show 2 ≤ sizeLine; decide, _, rfl, h1 rfl⟩) nd (fun c _ h => nomatch h) ?_
  have e2 : ([] ++ (cs.filter fun _ => true).map fun a => (cellK a, sD [a.2.2])) = laidT cs := by
    rw [List.filter_eq_self.mpr (fun _ _ => rfl)]
    rfl
  rw [e2]
  exact ⟨_, rfl, rfl, ⟨endlessL, cs, t, none, none, none⟩, by rw [endless_eq]; rfl, rfl, _, rfl, rfl, Nat.le_trans (Nat.le_of_lt h63) (by decide), q1, q2⟩
def picB (d : D) : Bool := match d with | .lst xs => rowsB xs SIG | _ => false
theorem pic_back {d : D} (h : picB d = true) : ∃ rows n, d = rowsD rows ∧ GoodRows (rows, n) SIG := by
  unfold picB at h
  split at h
  case h_2 => cases h
  rename_i xs
  unfold rowsB at h
  simp only [Bool.and_eq_true] at h
  obtain ⟨⟨h1, h2⟩, h3⟩ := h
  have h1 := of_decide_eq_true h1
  rw [List.all_eq_true] at h2
  match xs, h1, h2, h3 with
  | [], h1, _, _ => simp at h1
  | x :: xs, h1, h2, h3 =>
    have hx := h2 x List.mem_cons_self
    rcases x with (_ | _ | _ | z | _ | _ | _ | _) | _ | _ | _ | _ | _ <;> try (cases hx; done)
    simp only [Bool.and_eq_true] at h3
    obtain ⟨h4, h5⟩ := h3
    have h4 := of_decide_eq_true h4
    rw [List.all_eq_true] at h5
    have each : ∀ d ∈ D.v (V.str z) :: xs, ∃ l : List Nat, d = sD l ∧ l.length = z.length ∧ ∀ c ∈ l, c ∈ SIG := fun d hd => by
      have k := h5 d hd
      rcases d with (_ | _ | _ | s | _ | _ | _ | _) | _ | _ | _ | _ | _ <;> try (cases k; done)
      rw [rowOkD_str, Bool.and_eq_true] at k
      refine ⟨s.cps.toList, congrArg D.str (mk_of s), ?_, ?_⟩
      · have := of_decide_eq_true k.1
        rw [← this]
        exact (congrArg Str.length (mk_of s)).trans (mk_length _) |>.symm
      · have := k.2
        rw [List.all_eq_true] at this
        exact fun c hc => of_decide_eq_true (this c hc)
    obtain ⟨rows, e, hr⟩ : ∃ rows : Rows, D.v (V.str z) :: xs = rows.map sD ∧ ∀ r ∈ rows, r.length = z.length ∧ ∀ c ∈ r, c ∈ SIG := by
      generalize D.v (V.str z) :: xs = L at each
      clear h1 h2 h5 hx
      induction L with
      | nil => exact ⟨[], rfl, fun _ h => nomatch h⟩
      | cons d L ih =>
        obtain ⟨l, rfl, hl⟩ := each d List.mem_cons_self
        obtain ⟨rows, rfl, hr⟩ := ih fun d hd => each d (List.mem_cons_of_mem _ hd)
        refine ⟨l :: rows, rfl, fun r hr2 => ?_⟩
        rcases List.mem_cons.mp hr2 with rfl | hr2
        · exact hl
        · exact hr r hr2
    have hlen : (D.v (V.str z) :: xs).length = rows.length := by rw [e, List.length_map]
    rw [hlen] at h1
    exact ⟨rows, z.length, by rw [e], ⟨⟨fun r hr2 => (hr r hr2).1, h1.1, by show rows.length ≤ 100; omega, h4.1, by show z.length ≤ 100; omega⟩, h4.2, h1.2, fun r hr2 => (hr r hr2).2⟩⟩
/-- a thing, and the parts of a list of texts -/
structure Picish (d : D) : Prop where
  arg : Arg d
  parts : ∀ xs, d = .lst xs → thingsOk xs
def t_torus (P : Program) (w : World) (ad : Nat → Addr) : TF := fun W ds Q R => ∃ d e : D, ds = [d, e] ∧ Picish d ∧ Arg e ∧ (picB d = false → R (wrongE ad 0)) ∧ (picB d = true → inB 0 1000000000 e = false → R (wrongE ad 1)) ∧
  (picB d = true → inB 0 1000000000 e = true → ∀ f : Fld, f.form = torusL → Q (f.d P w ad))
theorem ok_torus (T : Txt K mg ad fd) : FnG P w K mg base (L2.CX P w) 6 (ad 33) (fd 33) p_torus (spD K 2 (t_torus P w ad)) := by
  have G_is_turn := ok_is_turn (P := P) (w := w) (base := base) T
  have G_is_picture := ok_is_picture (P := P) (w := w) (base := base) T
  have G_need_good := ok_need_good (P := P) (w := w) (base := base) T
  have G_laid_of := ok_laid_of (P := P) (w := w) (base := base) T
  have G_Field___init__ := ok_Field___init__ (P := P) (w := w) (base := base) T
  refine okDX T.h_torus.F sc_torus (fun cdv A outer s H E hr => ⟨_, _, fun W => (dss_cons (ds_drop (de_callX G_need_good (hr.mono (by decide)) T.h_need_good.g T.h_need_good.k T.h_need_good.b (takes_of rfl rfl rfl rfl) (da_cons de_int (da_cons (de_call G_is_picture (hr.mono (by decide)) T.h_is_picture.g T.h_is_picture.k T.h_is_picture.b pass0 (da_cons (dv 0) da_nil)) da_nil))))
      (dss_cons (ds_drop (de_callX G_need_good (hr.mono (by decide)) T.h_need_good.g T.h_need_good.k T.h_need_good.b (takes_of rfl rfl rfl rfl) (da_cons de_int (da_cons (de_call G_is_turn (hr.mono (by decide)) T.h_is_turn.g T.h_is_turn.k T.h_is_turn.b pass0 (da_cons (dv 1) da_nil)) da_nil))))
      (dss_one (ds_ret (de_make T.mk_Field T.h_Field___init__ G_Field___init__ (hr.mono (by decide)) T.g_Field pass0 (da_cons de_str (da_cons (de_call G_laid_of (hr.mono (by decide)) T.h_laid_of.g T.h_laid_of.k T.h_laid_of.b pass0 (da_cons (dv 0) da_nil)) (da_cons (dv 1) (da_cons (de_len T.m_len (da_cons (de_ix (dv 0) de_int) da_nil)) (da_cons (de_len T.m_len (da_cons (dv 0) da_nil)) (da_cons de_non da_nil))))))))))), fun W ds Q R hl ht => ?_⟩)
  obtain ⟨d, e, rfl, hd, he, h0, h1, hq⟩ := ht
  obtain ⟨ty, hty⟩ := hd.arg.ty
  refine ⟨_, rfl, rfl, d, ty, rfl, hty, hd.parts, rfl, 0, ?_⟩
  cases hp : picB d with
  | false => exact .inr ⟨by show [D.int 0, D.bl (picB d)] = _; rw [hp], h0 hp⟩
  | true =>
  refine .inl ⟨by show [D.int 0, D.bl (picB d)] = _; rw [hp], ?_⟩
  refine ⟨_, rfl, rfl, e, rfl, he, rfl, 1, ?_⟩
  cases hi : inB 0 1000000000 e with
  | false => exact .inr ⟨rfl, h1 hp hi⟩
  | true =>
  refine .inl ⟨rfl, ?_⟩
  obtain ⟨t, rfl⟩ : ∃ t, e = .int t := by
    rcases e with (_ | _ | i | _ | _ | _ | _ | _) | _ | _ | _ | _ | _ <;> first | exact ⟨_, rfl⟩ | (cases hi; done)
  obtain ⟨rows, n, rfl, g⟩ := pic_back hp
  refine ⟨_, rfl, rfl, rows, n, rfl, g, _, rfl, ?_⟩
  obtain ⟨r0, rest, rfl⟩ : ∃ r0 rest, rows = r0 :: rest := by
    cases rows with
    | nil => exact absurd g.rect.ne (by simp)
    | cons a b => exact ⟨a, b, rfl⟩
  have hn : r0.length = n := g.rect.len r0 List.mem_cons_self
  have hl : (mk r0).length = n := by simp [hn]
  have hn2 := g.n32
  refine ⟨_, rfl, _, atI_zero _ _, by show (mk r0).length ≤ sizeLine; rw [hl]; exact Nat.le_trans hn2 (by decide), _, rfl, rfl, ⟨torusL, picCells (r0 :: rest), t, some n, some (r0 :: rest).length, none⟩, ?_, hq hp hi _ rfl⟩
  rw [torus_eq]
  simp [optI, optS, hn]
def t_box (P : Program) (w : World) (ad : Nat → Addr) : TF := fun W ds Q R => ∃ d g e : D, ds = [d, g, e] ∧ Picish d ∧ Arg g ∧ Arg e ∧ (picB d = false → R (wrongE ad 0)) ∧ (picB d = true → strP isSignL g = false → R (wrongE ad 1)) ∧ (picB d = true → strP isSignL g = true → inB 0 1000000000 e = false → R (wrongE ad 2)) ∧
  (picB d = true → strP isSignL g = true → inB 0 1000000000 e = true → ∀ f : Fld, f.form = boxL → Q (f.d P w ad))
theorem ok_box (T : Txt K mg ad fd) : FnG P w K mg base (L2.CX P w) 6 (ad 34) (fd 34) p_box (spD K 3 (t_box P w ad)) := by
  have G_is_sign := ok_is_sign (P := P) (w := w) (base := base) T
  have G_is_turn := ok_is_turn (P := P) (w := w) (base := base) T
  have G_is_picture := ok_is_picture (P := P) (w := w) (base := base) T
  have G_need_good := ok_need_good (P := P) (w := w) (base := base) T
  have G_laid_of := ok_laid_of (P := P) (w := w) (base := base) T
  have G_Field___init__ := ok_Field___init__ (P := P) (w := w) (base := base) T
  refine okDX T.h_box.F sc_box (fun cdv A outer s H E hr => ⟨_, _, fun W => (dss_cons (ds_drop (de_callX G_need_good (hr.mono (by decide)) T.h_need_good.g T.h_need_good.k T.h_need_good.b (takes_of rfl rfl rfl rfl) (da_cons de_int (da_cons (de_call G_is_picture (hr.mono (by decide)) T.h_is_picture.g T.h_is_picture.k T.h_is_picture.b pass0 (da_cons (dv 0) da_nil)) da_nil))))
      (dss_cons (ds_drop (de_callX G_need_good (hr.mono (by decide)) T.h_need_good.g T.h_need_good.k T.h_need_good.b (takes_of rfl rfl rfl rfl) (da_cons de_int (da_cons (de_call G_is_sign (hr.mono (by decide)) T.h_is_sign.g T.h_is_sign.k T.h_is_sign.b pass0 (da_cons (dv 1) da_nil)) da_nil))))
      (dss_cons (ds_drop (de_callX G_need_good (hr.mono (by decide)) T.h_need_good.g T.h_need_good.k T.h_need_good.b (takes_of rfl rfl rfl rfl) (da_cons de_int (da_cons (de_call G_is_turn (hr.mono (by decide)) T.h_is_turn.g T.h_is_turn.k T.h_is_turn.b pass0 (da_cons (dv 2) da_nil)) da_nil))))
      (dss_one (ds_ret (de_make T.mk_Field T.h_Field___init__ G_Field___init__ (hr.mono (by decide)) T.g_Field pass0 (da_cons de_str (da_cons (de_call G_laid_of (hr.mono (by decide)) T.h_laid_of.g T.h_laid_of.k T.h_laid_of.b pass0 (da_cons (dv 0) da_nil)) (da_cons (dv 2) (da_cons (de_len T.m_len (da_cons (de_ix (dv 0) de_int) da_nil)) (da_cons (de_len T.m_len (da_cons (dv 0) da_nil)) (da_cons (dv 1) da_nil)))))))))))), fun W ds Q R hl ht => ?_⟩)
  obtain ⟨d, g, e, rfl, hd, hg, he, h0, h1, h2, hq⟩ := ht
  obtain ⟨ty, hty⟩ := hd.arg.ty
  refine ⟨_, rfl, rfl, d, ty, rfl, hty, hd.parts, rfl, 0, ?_⟩
  cases hp : picB d with
  | false => exact .inr ⟨by show [D.int 0, D.bl (picB d)] = _; rw [hp], h0 hp⟩
  | true =>
  refine .inl ⟨by show [D.int 0, D.bl (picB d)] = _; rw [hp], ?_⟩
  refine ⟨_, rfl, rfl, g, rfl, hg, rfl, 1, ?_⟩
  cases hs : strP isSignL g with
  | false => exact .inr ⟨rfl, h1 hp hs⟩
  | true =>
  refine .inl ⟨rfl, ?_⟩
  refine ⟨_, rfl, rfl, e, rfl, he, rfl, 2, ?_⟩
  cases hi : inB 0 1000000000 e with
  | false => exact .inr ⟨rfl, h2 hp hs hi⟩
  | true =>
  refine .inl ⟨rfl, ?_⟩
  obtain ⟨t, rfl⟩ : ∃ t, e = .int t := by
    rcases e with (_ | _ | i | _ | _ | _ | _ | _) | _ | _ | _ | _ | _ <;> first | exact ⟨_, rfl⟩ | (cases hi; done)
  obtain ⟨ed, rfl, hed⟩ := sign_one hs
  obtain ⟨rows, n, rfl, g⟩ := pic_back hp
  refine ⟨_, rfl, rfl, rows, n, rfl, g, _, rfl, ?_⟩
  obtain ⟨r0, rest, rfl⟩ : ∃ r0 rest, rows = r0 :: rest := by
    cases rows with
    | nil => exact absurd g.rect.ne (by simp)
    | cons a b => exact ⟨a, b, rfl⟩
  have hn : r0.length = n := g.rect.len r0 List.mem_cons_self
  have hl : (mk r0).length = n := by simp [hn]
  have hn2 := g.n32
  refine ⟨_, rfl, _, atI_zero _ _, by show (mk r0).length ≤ sizeLine; rw [hl]; exact Nat.le_trans hn2 (by decide), _, rfl, _, rfl, rfl, ⟨boxL, picCells (r0 :: rest), t, some n, some (r0 :: rest).length, some ed⟩, ?_, hq hp hs hi _ rfl⟩
  rw [box_eq]
  simp [optI, optS, hn]
theorem cutD_toL {α : Type} (f : α → D) (l : List α) (k : Nat) : cutD (l.map f) none (some (k : Int)) = (l.take k).map f := by
  rw [cutD_map, HT.sIx_nat, show HT.sIx l.length 0 none = 0 from rfl, List.drop_zero, Nat.sub_zero]
  congr 1
  by_cases h : k ≤ l.length
  · rw [Nat.min_eq_left h]
  · rw [Nat.min_eq_right (by omega), List.take_of_length_le (Nat.le_refl _), List.take_of_length_le (by omega)]
theorem cutD_toD (l : List D) (k : Nat) : cutD l none (some (k : Int)) = l.take k := by simpa using cutD_toL id l k
def t_Lclass (K : PySem.W.Frag) (ad : Nat → Addr) (a : Addr) (cls : Value) (d : Option Addr) : TF := fun W ds Q _ => ∃ fs, ds = [.exc a d fs] ∧ ((∃ i : Int, (cls, fs) = wrongE ad i ∧ Q (.tup [.str (Str.ofString "wrong"), .int i])) ∨ ((cls, fs) = farE ad ∧ Q (.tup [.str (Str.ofString "far"), .int 200])))
theorem ok_Lclass (T : Txt K mg ad fd) : FnE P w K mg base 1 (ad 40) (fd 40) p_Lclass (t_Lclass K ad) := by
  refine okE T.h_Lclass.F sc_Lclass (fun cdv A outer s H p cls d hz hf hr => ⟨_, _, fun W => (dss_cons (ds_if (dt_val (de_isXp (List.mem_singleton.mpr rfl) hz hf T.m_isinstance (da_cons (dv 0) (da_cons (de_cls T.x_Wrong.g) da_nil)))) (dss_one (ds_ret (de_tup (da_cons de_str (da_cons (de_xap (List.mem_singleton.mpr rfl) hz hf (dv 0)) da_nil))))) dss_nil)
      (dss_cons (ds_if (dt_val (de_isXp (List.mem_singleton.mpr rfl) hz hf T.m_isinstance (da_cons (dv 0) (da_cons (de_cls T.x_TooFar.g) da_nil)))) (dss_one (ds_ret (de_tup (da_cons de_str (da_cons (de_xap (List.mem_singleton.mpr rfl) hz hf (dv 0)) da_nil))))) dss_nil)
      (dss_cons (ds_if (dt_val (de_isXp (List.mem_singleton.mpr rfl) hz hf T.m_isinstance (da_cons (dv 0) (da_cons (de_cls T.x_NoCell.g) da_nil)))) (dss_one (ds_ret (de_tup (da_cons de_str (da_cons (de_tup (da_cons (de_xap (List.mem_singleton.mpr rfl) hz hf (dv 0)) (da_cons (de_xap (List.mem_singleton.mpr rfl) hz hf (dv 0)) da_nil))) da_nil))))) dss_nil)
      (dss_one (ds_ret (de_tup (da_cons (de_ix (DO.e (do_lst (da_cons de_str (da_cons de_str da_nil)))) (de_toint T.m_int (da_cons (de_isXp (List.mem_singleton.mpr rfl) hz hf T.m_isinstance (da_cons (dv 0) (da_cons (de_cls T.x_Fixed.g) da_nil))) da_nil))) (da_cons de_non da_nil)))))))), fun W ds Q hl ht => ?_⟩) (fun _ _ _ _ _ _ _ h => h)
  obtain ⟨fs, rfl, ⟨i, e, hq⟩ | ⟨e, hq⟩⟩ := ht
  · cases e
    refine tdSeq_if1 true (fun Q R q => tdTest_by _ (fun Q R q => ⟨_, rfl, isX_step (fs := [("at", .int i)]) T.x_Wrong.E T.k_Wrong_Wrong q⟩) q) (fun _ => ?_) (fun z => nomatch z)
    exact ⟨_, rfl, xa_step T.x_Wrong.E T.f_Wrong_at rfl ⟨by show 2 ≤ sizeLine; decide, hq⟩⟩
  · cases e
    refine tdSeq_if1 false (fun Q R q => tdTest_by _ (fun Q R q => ⟨_, rfl, isX_step (fs := [("most", .int 200)]) T.x_TooFar.E T.k_TooFar_Wrong q⟩) q) (fun z => nomatch z) (fun _ => ?_)
    refine tdSeq_if1 true (fun Q R q => tdTest_by _ (fun Q R q => ⟨_, rfl, isX_step (fs := [("most", .int 200)]) T.x_TooFar.E T.k_TooFar_TooFar q⟩) q) (fun _ => ?_) (fun z => nomatch z)
    exact ⟨_, rfl, xa_step T.x_TooFar.E T.f_TooFar_most rfl ⟨by show 2 ≤ sizeLine; decide, hq⟩⟩
def t_Lis_whole : TF := fun W ds Q _ => ∃ (d : D) (a b : Int), ds = [d, .int a, .int b] ∧ Arg d ∧ Q (.bl (inB a b d))
theorem ok_Lis_whole (T : Txt K mg ad fd) : FnG P w K mg base CX0 1 (ad 41) (fd 41) p_Lis_whole (spD K 3 t_Lis_whole) := by
  refine okD T.h_Lis_whole.F sc_Lis_whole (fun cdv A outer s H E hr => ⟨_, _, fun W => (dss_one (ds_ret (de_and (de_isi T.m_isinstance (da_cons (dv 0) (da_cons (de_ty "int" T.m_int) da_nil))) (de_and (de_not (de_isi T.m_isinstance (da_cons (dv 0) (da_cons (de_ty "bool" T.m_bool) da_nil)))) (de_one (de_chain op_le op_le .i0 .i0 (dv 1) (dv 0) (dv 2))))))), fun W ds Q hl ht => ?_⟩) (fun _ _ _ _ h => h)
  obtain ⟨d, a, b, rfl, hd, hq⟩ := ht
  obtain ⟨t, hty⟩ := hd.ty
  refine tdRet_by _ (fun Q R q => ?_) hq
  by_cases hi : ∃ i, d = .int i
  · obtain ⟨i, rfl⟩ := hi
    refine tdAndV_by true (decide (a ≤ i ∧ i ≤ b)) (fun Q R q => ⟨_, rfl, by decide, "int", rfl, q⟩) (fun _ Q R q => ?_) q
    refine tdAndV_by true (decide (a ≤ i ∧ i ≤ b)) (fun Q R q => ⟨_, rfl, by decide, "int", rfl, q⟩) (fun _ Q R q => ?_) q
    exact tdChain_le a i b (fun Q R q => ⟨_, rfl, q⟩) (fun Q R q => ⟨_, rfl, q⟩) (fun Q R q => ⟨_, rfl, q⟩) q
  by_cases hb : ∃ v, d = .bl v
  · obtain ⟨v, rfl⟩ := hb
    refine tdAndV_by true false (fun Q R q => ⟨_, rfl, by decide, "bool", rfl, q⟩) (fun _ Q R q => ?_) q
    exact tdAndV_by false true (fun Q R q => ⟨_, rfl, by decide, "bool", rfl, q⟩) (fun z => nomatch z) q
  have e : inB a b d = false := by
    rcases d with (_ | _ | i | _ | _ | _ | _ | _) | _ | _ | _ | _ | _ <;> first | rfl | exact absurd ⟨_, rfl⟩ hi
  have et : isTy t "int" = false := by
    rcases d with (_ | _ | i | _ | _ | _ | _ | _) | _ | _ | _ | _ | _ <;> first | exact absurd ⟨_, rfl⟩ hi | exact absurd ⟨_, rfl⟩ hb | (cases hty; done) | (cases hty; decide)
  rw [e] at q
  exact tdAndV_by false true (fun Q R q => ⟨_, rfl, by decide, t, hty, by rw [et]; exact q⟩) (fun z => nomatch z) q
def t_Lis_sign : TF := fun W ds Q _ => ∃ d : D, ds = [d] ∧ (∃ t, tyD d = some t) ∧ (∀ s, d = .v (.str s) → s.length ≤ 16777216) ∧ Q (.bl (strP isSignL d))
theorem ok_Lis_sign (T : Txt K mg ad fd) : FnG P w K mg base CX0 1 (ad 42) (fd 42) p_Lis_sign (spD K 1 t_Lis_sign) := by
  refine okD T.h_Lis_sign.F sc_Lis_sign (fun cdv A outer s H E hr => ⟨_, _, fun W => (dss_one (ds_ret (de_and (de_isi T.m_isinstance (da_cons (dv 0) (da_cons (de_ty "str" T.m_str) da_nil))) (de_and (de_eq hr.units (de_len T.m_len (da_cons (dv 0) da_nil)) de_int) (de_one (de_in (dv 0) de_str)))))), fun W ds Q hl ht => ?_⟩) (fun _ _ _ _ h => h)
  obtain ⟨d, rfl, ⟨t, ht⟩, hl, hq⟩ := ht
  by_cases hd : ∃ s, d = .v (.str s)
  case neg =>
    rcases d with (_ | _ | _ | _ | _ | _ | _ | _) | _ | _ | _ | _ | _ <;> simp [isTy, tyL, strP] at ht hq ⊢ <;> first | exact absurd ⟨_, rfl⟩ hd | exact hq | cases ht
  obtain ⟨s, rfl⟩ := hd
  have hs := hl s rfl
  obtain ⟨l, rfl⟩ : ∃ l, s = mk l := ⟨_, mk_of s⟩
  simp at hs
  simp [isTy, tyL, strP, isSignL, allSig] at hq ⊢
  refine ⟨hs, ?_⟩
  match l, hq with
  | [], hq => simp at hq ⊢; exact hq
  | [c], hq => simp [sig_eq] at hq ⊢; exact hq
  | c :: c2 :: l, hq => simp at hq ⊢; rw [if_neg (by omega)]; exact hq
def t_Lis_cell : TF := fun W ds Q _ => ∃ d : D, ds = [d] ∧ Cellish d ∧ Q (.bl (listedB d))
theorem ok_Lis_cell (T : Txt K mg ad fd) : FnG P w K mg base CX0 2 (ad 43) (fd 43) p_Lis_cell (spD K 1 t_Lis_cell) := by
  have G_Lis_whole := ok_Lis_whole (P := P) (w := w) (base := base) T
  have G_Lis_sign := ok_Lis_sign (P := P) (w := w) (base := base) T
  refine okD T.h_Lis_cell.F sc_Lis_cell (fun cdv A outer s H E hr => ⟨_, _, fun W => (dss_cons (ds_if (DW.t (dw_or (dt_not (dt_val (de_isi T.m_isinstance (da_cons (dv 0) (da_cons (de_ty "tuple" T.m_tuple) da_nil))))) (dw_or1 (dt_ne hr.units (de_len T.m_len (da_cons (dv 0) da_nil)) de_int)))) (dss_one (ds_ret de_bl)) dss_nil)
      (dss_cons (ds_set (i := 1) sc_Lis_cell.nd (de_and (de_call G_Lis_whole (hr.mono (by decide)) T.h_Lis_whole.g T.h_Lis_whole.k T.h_Lis_whole.b pass0 (da_cons (de_ix (dv 0) de_int) (da_cons (de_neg (de_pow de_int de_int)) (da_cons (de_pow de_int de_int) da_nil)))) (de_one (de_call G_Lis_whole (hr.mono (by decide)) T.h_Lis_whole.g T.h_Lis_whole.k T.h_Lis_whole.b pass0 (da_cons (de_ix (dv 0) de_int) (da_cons (de_neg (de_pow de_int de_int)) (da_cons (de_pow de_int de_int) da_nil)))))))
      (dss_one (ds_ret (de_and (dv 1) (de_and (de_call G_Lis_sign (hr.mono (by decide)) T.h_Lis_sign.g T.h_Lis_sign.k T.h_Lis_sign.b pass0 (da_cons (de_ix (dv 0) de_int) da_nil)) (de_one (de_ne hr.units (de_ix (dv 0) de_int) de_str)))))))), fun W ds Q hl ht => ?_⟩) (fun _ _ _ _ h => h)
  obtain ⟨d, rfl, hd, hq⟩ := ht
  by_cases ht : ∃ xs, d = .tup xs
  case neg =>
    obtain ⟨t, hty⟩ := hd.arg.ty
    rw [listed_no ht] at hq
    exact tdSeq_if1 true (fun Q R q => tdOr_by true true (fun Q R q => tdNot_by false (fun Q R q => tdTest_by _ (fun Q R q => ⟨_, rfl, by decide, t, hty, by rw [not_tup hty ht]; exact q⟩) q) q) (fun z => nomatch z) q) (fun _ => hq) (fun z => nomatch z)
  obtain ⟨xs, rfl⟩ := ht
  obtain ⟨xl, xa⟩ := hd.parts xs rfl
  refine tdSeq_if1 (!decide (xs.length = 3)) (fun Q R q => tdOr_by false (!decide (xs.length = 3)) (fun Q R q => tdNot_by true (fun Q R q => tdTest_by _ (fun Q R q => ⟨_, rfl, by decide, "tuple", rfl, q⟩) q) q) (fun _ Q R q => tdTest_by _ (fun Q R q => ⟨_, rfl, ?_⟩) q) q) (fun z => ?_) (fun z => ?_)
  · simp only [tdNil, fLen_tup, tdC]
    refine fNe_i ?_
    rw [show decide (((xs.length : Nat) : Int) = 3) = decide (xs.length = 3) from decide_eq_decide.mpr (by omega)]
    exact q
  · have z : xs.length ≠ 3 := by simpa using z
    rw [listed_len z] at hq
    exact hq
  obtain ⟨x, y, s, rfl⟩ := three (by simpa using z)
  have a1 := xa x (by simp)
  have a2 := xa y (by simp)
  have a3 := xa s (by simp)
  rw [listed3, ← Bool.and_assoc] at hq
  have c6 : CPow 10 6 := by simp
  refine tdSeq_asg (.bl (inB (-1000000) 1000000 x && inB (-1000000) 1000000 y)) (fun Q R q => tdAndV_by _ _ (fun Q R q => ⟨_, rfl, _, atI_zero _ _, c6, c6, rfl, x, -1000000, 1000000, rfl, a1, q⟩) (fun _ Q R q => ⟨_, rfl, _, atI_of (k := 1) rfl, c6, c6, rfl, y, -1000000, 1000000, rfl, a2, q⟩) q) ?_
  refine tdRet_by _ (fun Q R q => ?_) hq
  refine tdAndV_by _ _ (fun Q R q => ⟨_, rfl, q⟩) (fun _ Q R q => ?_) q
  refine tdAndV_by _ _ (fun Q R q => ⟨_, rfl, _, atI_2 _ _ _ _, rfl, s, rfl, a3.ty, a3.len, q⟩) (fun hs Q R q => ?_) q
  obtain ⟨c, rfl, hc⟩ := sign_one hs
  rw [strP_sD] at q
  refine ⟨_, rfl, _, atI_2 _ _ _ _, ?_⟩
  rw [dot_eq]
  show fEqN true (.str (mk [c])) (.str (mk [46])) Q
  rw [fEqN_str]
  simpa using q
theorem tdTry_by {K : PySem.W.Frag} {c : Value} {i : Nat} {tb : TDS} {ts : Addr → Value → Option Addr → TDS} {τ : Tau} {E : DEnds} (X : Exc → Tau → Prop) (hb : ∀ (ex : Exc → Tau → Prop), (∀ x τ', X x τ' → ex x τ') → tb τ { E with ex := ex })
    (hx : ∀ x τ', X x τ' → PySem.W.exmOne K x.1 c = some true ∧ ∀ a d, ts a x.1 d (τ'.set i (some (.dat (.exc a d x.2)))) { nx := fun τ2 => E.nx (τ2.set i none), rt := E.rt, bk := fun τ2 => E.bk (τ2.set i none), ct := fun τ2 => E.ct (τ2.set i none) }) : tdTry K c i tb ts τ E :=
  hb _ fun x τ' q => let ⟨h1, h2⟩ := hx x τ' q; ⟨true, h1, fun _ => h2, fun z => nomatch z⟩
theorem compD_filterL {α : Type} {g : TDG} {te : TDE} {td : TDT} {vs : List Nat} {τ : Tau} (f h : α → D) (p : α → Bool) : ∀ {l : List α} {Q : List D → Prop},
    (∀ a ∈ l, ∀ (Kt : Prop) (K : D → Prop), (p a = true → K (h a)) → (p a = false → Kt) → g (f a) (wipeT τ vs) fun τ2 => td τ2 (fun b => if b = true then te τ2 K (fun _ => False) else Kt) (fun _ => False)) → Q ((l.filter p).map h) → compD g td te vs τ (l.map f) Q
  | [], _, _, q => q
  | a :: l, Q, hh, q => by
    have ih : ∀ {Q : List D → Prop}, Q ((l.filter p).map h) → compD g td te vs τ (l.map f) Q := fun {Q} q => compD_filterL f h p (fun x hx => hh x (List.mem_cons_of_mem _ hx)) q
    rw [List.map_cons]
    unfold compD
    refine hh a List.mem_cons_self _ _ (fun hp => ih ?_) (fun hp => ih ?_)
    · rw [List.filter_cons, if_pos hp] at q
      exact q
    · rw [List.filter_cons, if_neg (by rw [hp]; decide)] at q
      exact q
theorem notT {b : Bool} (h : (!b) = true) : b = false := by cases b; rfl; cases h
theorem notF {b : Bool} (h : (!b) = false) : b = true := by cases b; cases h; rfl
theorem filt_nodup {cs : List Cell} : (((List.range cs.length).filter fun i => !((cs.take i).any fun c => decide (cellK c = cellK (cs.getD i (0, 0, 0)))))).length = cs.length ↔ (cs.map cellK).Nodup := by
  have gd : ∀ {j : Nat} (hj : j < cs.length), cs.getD j (0, 0, 0) = cs[j] := fun {j} hj => by rw [List.getD_eq_getElem?_getD, List.getElem?_eq_getElem hj]; rfl
  constructor
  · intro h
    have h2 := List.length_filter_eq_length_iff.mp (h.trans List.length_range.symm)
    unfold List.Nodup
    rw [List.pairwise_map, List.pairwise_iff_getElem]
    intro i j hi hj hij e
    have h3 := notT (h2 j (List.mem_range.mpr hj))
    rw [List.any_eq_false] at h3
    refine h3 cs[i] (List.mem_of_getElem? (i := i) (by rw [List.getElem?_take_of_lt hij, List.getElem?_eq_getElem hi])) ?_
    rw [gd hj]
    exact decide_eq_true e
  · intro nd
    refine (List.length_filter_eq_length_iff.mpr fun j hj => ?_).trans List.length_range
    have hj := List.mem_range.mp hj
    cases e : (cs.take j).any fun c => decide (cellK c = cellK (cs.getD j (0, 0, 0))) with
    | false => rfl
    | true =>
      obtain ⟨c, hc, e⟩ := List.any_eq_true.mp e
      obtain ⟨i, hi, rfl⟩ := List.getElem_of_mem hc
      rw [List.length_take] at hi
      rw [List.getElem_take, gd hj] at e
      unfold List.Nodup at nd
      rw [List.pairwise_map, List.pairwise_iff_getElem] at nd
      exact absurd (of_decide_eq_true e) (nd i j (by omega) hj (by omega))
def t_Lare_cells : TF := fun W ds Q _ => ∃ d : D, ds = [d] ∧ Listish d ∧ Q (.bl (cellsB d))
theorem ok_Lare_cells (T : Txt K mg ad fd) : FnG P w K mg base CX0 3 (ad 44) (fd 44) p_Lare_cells (spD K 1 t_Lare_cells) := by
  have G_Lis_cell := ok_Lis_cell (P := P) (w := w) (base := base) T
  refine okD T.h_Lare_cells.F sc_Lare_cells (fun cdv A outer s H E hr => ⟨_, _, fun W => (dss_cons (ds_if (DW.t (dw_or (dt_not (dt_val (de_isi T.m_isinstance (da_cons (dv 0) (da_cons (de_ty "list" T.m_list) da_nil))))) (dw_or1 (dt_not (dt_val (de_all T.m_all (da_cons (DO.e (do_lc rfl sc_Lare_cells.nd (di_any (dv 0)) (blkOk_by (own := [("_law_one", 2)]) (N := n_Lare_cells) (by kernel_rfl)) (fun _ _ _ _ _ => (dg_name (i := 2) sc_Lare_cells.nd)) (fun _ _ _ _ _ => dts_nil) (fun _ _ _ _ _ => (de_call G_Lis_cell (hr.mono (by decide)) T.h_Lis_cell.g T.h_Lis_cell.k T.h_Lis_cell.b pass0 (da_cons (dv 2) da_nil))))) da_nil))))))) (dss_one (ds_ret de_bl)) dss_nil)
      (dss_cons (ds_set (i := 1) sc_Lare_cells.nd (DO.e (do_lc rfl sc_Lare_cells.nd (di_any (dv 0)) (blkOk_by (own := [("_law_one", 2)]) (N := n_Lare_cells) (by kernel_rfl)) (fun _ _ _ _ _ => (dg_name (i := 2) sc_Lare_cells.nd)) (fun _ _ _ _ _ => dts_nil) (fun _ _ _ _ _ => (de_slT (dv 2) dp_none (dp_some de_int))))))
      (dss_one (ds_ret (de_eq hr.units (de_len T.m_len (da_cons (DO.e (do_lc rfl sc_Lare_cells.nd (di_range1 rfl T.m_range (da_cons (de_len T.m_len (da_cons (dv 1) da_nil)) da_nil)) (blkOk_by (own := [("_law_k", 3)]) (N := n_Lare_cells) (by kernel_rfl)) (fun _ _ _ _ _ => (dg_name (i := 3) sc_Lare_cells.nd)) (fun _ _ _ _ _ => (dts_one (dt_ninAny hr.units2 (de_ix (dv 1) (dv 3)) (DO.e (do_sl (dv 1) dp_none (dp_some (dv 3))))))) (fun _ _ _ _ _ => (dv 3)))) da_nil)) (de_len T.m_len (da_cons (dv 1) da_nil))))))), fun W ds Q hl ht => ?_⟩) (fun _ _ _ _ h => h)
  obtain ⟨d, rfl, hd, hq⟩ := ht
  by_cases ht : ∃ xs, d = .lst xs
  case neg =>
    obtain ⟨t, hty⟩ := hd.arg.ty
    rw [cells_no ht] at hq
    exact tdSeq_if1 true (fun Q R q => tdOr_by true true (fun Q R q => tdNot_by false (fun Q R q => tdTest_by _ (fun Q R q => ⟨_, rfl, by decide, t, hty, by rw [not_lst hty ht]; exact q⟩) q) q) (fun z => nomatch z) q) (fun _ => hq) (fun z => nomatch z)
  obtain ⟨xs, rfl⟩ := ht
  obtain ⟨xl, xa, x63⟩ := hd.parts xs rfl
  have hq : Q (.bl (xs.all listedB && decide (((xs.map cellOf).map cellK).Nodup))) := hq
  refine tdSeq_if1 (!xs.all listedB) (fun Q R q => tdOr_by false (!xs.all listedB) (fun Q R q => tdNot_by true (fun Q R q => tdTest_by _ (fun Q R q => ⟨_, rfl, by decide, "list", rfl, q⟩) q) q) (fun _ Q R q => tdNot_by _ (fun Q R q => tdTest_by _ (fun Q R q => ?_) q) q) q) (fun z => ?_) (fun z => ?_)
  · exact ⟨_, rfl, xl, compD_mapG (fun d => .bl (listedB d)) (fun d hd K hK => ⟨_, rfl, rfl, d, rfl, xa d hd, hK⟩) (all_bools (l := xs) (p := listedB) q)⟩
  · have z : xs.all listedB = false := by simpa using z
    rw [z] at hq
    exact hq
  have z : xs.all listedB = true := by simpa using z
  rw [z, Bool.true_and] at hq
  have hq2 := hq
  clear hq
  obtain ⟨e, hc⟩ := cells_back z
  have h63 := x63 z
  generalize xs.map cellOf = cs at e hc hq2
  subst e
  rw [List.length_map] at h63
  refine tdSeq_asg (.lst (cs.map fun c => .tup [.int c.1, .int c.2.1])) (fun Q R q => ⟨_, rfl, by rw [List.length_map]; exact Nat.le_trans (Nat.le_of_lt h63) (by decide), ?_⟩) ?_
  · refine compD_mapL (h := fun c : Cell => D.tup [.int c.1, .int c.2.1]) _ (fun c hc Kk hk => ⟨_, rfl, ?_⟩) q
    simp only [tdNoPart, tdPart, tdC, onI_int]
    have e := cutD_toD [D.int c.1, .int c.2.1, sD [c.2.2]] 2
    show Kk (.tup (cutD [D.int c.1, .int c.2.1, sD [c.2.2]] none (some ((2 : Nat) : Int))))
    rw [e]
    exact hk
  refine tdRet_by (.bl (decide ((cs.map cellK).Nodup))) (fun Q R q => ?_) hq2
  refine ⟨_, rfl, ?_⟩
  simp only [tdNil, fLen_lst, rng1_int, List.length_map]
  refine ⟨by omega, by omega, ?_⟩
  rw [Int.toNat_natCast]
  refine ⟨by rw [numsD_length]; exact Nat.le_trans (Nat.le_of_lt h63) (by decide), ?_⟩
  refine compD_filterL (l := List.range cs.length) (fun i : Nat => D.int (0 + (i : Nat))) (fun i : Nat => D.int (0 + (i : Nat))) (fun i => !((cs.take i).any fun c => decide (cellK c = cellK (cs.getD i (0, 0, 0))))) (fun i hi Kt Kk k1 k2 => ?_) ?_
  · have hi := List.mem_range.mp hi
    have e1 : cs[i]? = some (cs.getD i (0, 0, 0)) := by rw [List.getD_eq_getElem?_getD, List.getElem?_eq_getElem hi]; rfl
    generalize cs.getD i (0, 0, 0) = c0 at *
    rw [Int.zero_add] at k1 ⊢
    refine tdTest_by (!((cs.take i).any fun c => decide (cellK c = cellK c0))) (fun Q R q => ⟨_, rfl, _, rfl, _, atI_of (by rw [List.getElem?_map, e1]; rfl), _, rfl, ?_⟩) ?_
    · simp only [tdNoPart, tdPart]
      refine ⟨_, rfl, ?_⟩
      simp only [onI_int]
      show fInAny true _ (.lst (cutD (cs.map fun c => D.tup [D.int c.1, D.int c.2.1]) none (some (i : Int)))) Q
      rw [cutD_toL, fInAny_lst]
      have d1 : ∀ x y : Int, dOk 2 (.tup [.int x, .int y]) := fun x y => .tup (n := 1) fun d hd => by
        simp only [List.mem_cons, List.not_mem_nil, or_false] at hd
        rcases hd with rfl | rfl <;> exact .int
      have d2 : dOk 3 (.lst ((cs.take i).map fun c => D.tup [D.int c.1, D.int c.2.1])) := .lst (n := 2) fun d hd => by
        obtain ⟨c, _, rfl⟩ := List.mem_map.mp hd
        exact d1 _ _
      refine ⟨(d1 _ _).cmp, d2.cmp, ?_⟩
      have e : (((cs.take i).map fun c => D.tup [D.int c.1, D.int c.2.1]).any fun z => eqD z (.tup [.int c0.1, .int c0.2.1])) = (cs.take i).any fun c => decide (cellK c = cellK c0) := by
        rw [List.any_map]
        congr 1
        funext c
        have : eqD (.tup [.int c.1, .int c.2.1]) (.tup [.int c0.1, .int c0.2.1]) = (decide (c.1 = c0.1) && decide (c.2.1 = c0.2.1)) := by
          simp [eqD, toPy, toPys, PyData.eqv, PyData.eqvAll]
          rfl
        show eqD (.tup [.int c.1, .int c.2.1]) (.tup [.int c0.1, .int c0.2.1]) = _
        rw [this, Bool.eq_iff_iff]
        simp [cellK]
      rw [e, Bool.true_xor]
      exact q
    · cases hp : (!((cs.take i).any fun c => decide (cellK c = cellK c0))) with
      | true => exact ⟨_, rfl, k1 hp⟩
      | false => exact k2 hp
  · simp only [tdNil, fLen_lst, List.length_map]
    refine ⟨_, rfl, ?_⟩
    simp only [tdNil, fLen_lst, List.length_map]
    refine fEq_i ?_
    rw [decide_eq_decide.mpr (Int.ofNat_inj.trans filt_nodup)]
    exact q
def strLen : D → Bool
  | .v (.str s) => decide (1 ≤ s.length ∧ s.length ≤ 32)
  | _ => false
theorem strLen_str {d : D} (h : strLen d = true) : ∃ s, d = .v (.str s) ∧ 1 ≤ s.length ∧ s.length ≤ 32 := by
  unfold strLen at h
  split at h
  · exact ⟨_, rfl, of_decide_eq_true h⟩
  · cases h
theorem rows_no {xs : List D} (h : xs.all strLen = false) : rowsB xs SIG = false := by
  cases e : rowsB xs SIG with
  | false => rfl
  | true =>
    unfold rowsB at e
    rw [Bool.and_eq_true, Bool.and_eq_true] at e
    obtain ⟨⟨e1, e2⟩, e3⟩ := e
    split at e3
    · rename_i z l
      rw [Bool.and_eq_true, decide_eq_true_eq] at e3
      obtain ⟨e4, e5⟩ := e3
      rw [List.all_eq_true] at e2 e5
      have : (D.v (V.str z) :: l).all strLen = true := by
        rw [List.all_eq_true]
        intro d hd
        have h5 := e5 d hd
        have h2 := e2 d hd
        rcases d with (_ | _ | _ | s | _ | _ | _ | _) | _ | _ | _ | _ | _ <;> simp [isStrD] at h2
        rw [rowOkD_str, Bool.and_eq_true, decide_eq_true_eq] at h5
        exact decide_eq_true (by rw [h5.1]; exact e4)
      rw [this] at h
      cases h
    · cases e3
theorem rows_at {xs : List D} (h1 : decide (1 ≤ xs.length ∧ xs.length ≤ 32) = true) (h2 : xs.all strLen = true) : ∃ z, xs[0]? = some (.v (.str z)) ∧ rowsB xs SIG = xs.all (rowOkD z.length SIG) := by
  cases xs with
  | nil => simp at h1
  | cons x xs =>
    have h3 := List.all_eq_true.mp h2
    obtain ⟨z, rfl, hz⟩ := strLen_str (h3 x List.mem_cons_self)
    refine ⟨z, rfl, ?_⟩
    have h4 : (D.v (V.str z) :: xs).all isStrD = true := by
      rw [List.all_eq_true]
      intro d hd
      obtain ⟨s, rfl, _⟩ := strLen_str (h3 d hd)
      rfl
    unfold rowsB
    rw [h1, h4]
    simp only [decide_eq_true hz, Bool.true_and]
def t_Lis_picture : TF := fun W ds Q _ => ∃ d : D, ds = [d] ∧ Picish d ∧ Q (.bl (picB d))
theorem ok_Lis_picture (T : Txt K mg ad fd) : FnG P w K mg base CX0 2 (ad 45) (fd 45) p_Lis_picture (spD K 1 t_Lis_picture) := by
  have G_Lis_sign := ok_Lis_sign (P := P) (w := w) (base := base) T
  refine okD T.h_Lis_picture.F sc_Lis_picture (fun cdv A outer s H E hr => ⟨_, _, fun W => (dss_cons (ds_if (DW.t (dw_or (dt_not (dt_val (de_isi T.m_isinstance (da_cons (dv 0) (da_cons (de_ty "list" T.m_list) da_nil))))) (dw_or1 (dt_not (dt_chain op_le op_le .i0 .i0 de_int (de_len T.m_len (da_cons (dv 0) da_nil)) de_int))))) (dss_one (ds_ret de_bl)) dss_nil)
      (dss_cons (ds_if (dt_not (dt_val (de_all T.m_all (da_cons (DO.e (do_lc rfl sc_Lis_picture.nd (di_any (dv 0)) (blkOk_by (own := [("_law_row", 1)]) (N := n_Lis_picture) (by kernel_rfl)) (fun _ _ _ _ _ => (dg_name (i := 1) sc_Lis_picture.nd)) (fun _ _ _ _ _ => dts_nil) (fun _ _ _ _ _ => (de_and (de_isi T.m_isinstance (da_cons (dv 1) (da_cons (de_ty "str" T.m_str) da_nil))) (de_one (de_chain op_le op_le .i0 .i0 de_int (de_len T.m_len (da_cons (dv 1) da_nil)) de_int)))))) da_nil)))) (dss_one (ds_ret de_bl)) dss_nil)
      (dss_one (ds_ret (de_all T.m_all (da_cons (DO.e (do_lc rfl sc_Lis_picture.nd (di_any (dv 0)) (blkOk_by (own := [("_law_row", 1)]) (N := n_Lis_picture) (by kernel_rfl)) (fun _ _ _ _ _ => (dg_name (i := 1) sc_Lis_picture.nd)) (fun _ _ _ _ _ => dts_nil) (fun _ _ _ _ _ => (de_and (de_eq hr.units (de_len T.m_len (da_cons (dv 1) da_nil)) (de_len T.m_len (da_cons (de_ix (dv 0) de_int) da_nil))) (de_one (de_all T.m_all (da_cons (DO.e (do_lc rfl sc_Lis_picture.nd (di_any (dv 1)) (blkOk_by (own := [("_law_sign", 2)]) (N := n_Lis_picture) (by kernel_rfl)) (fun _ _ _ _ _ => (dg_name (i := 2) sc_Lis_picture.nd)) (fun _ _ _ _ _ => dts_nil) (fun _ _ _ _ _ => (de_call G_Lis_sign (hr.mono (by decide)) T.h_Lis_sign.g T.h_Lis_sign.k T.h_Lis_sign.b pass0 (da_cons (dv 2) da_nil))))) da_nil))))))) da_nil)))))), fun W ds Q hl ht => ?_⟩) (fun _ _ _ _ h => h)
  obtain ⟨d, rfl, hd, hq⟩ := ht
  by_cases ht : ∃ xs, d = .lst xs
  case neg =>
    obtain ⟨t, hty⟩ := hd.arg.ty
    rw [show picB d = false by unfold picB; split; exact absurd ⟨_, rfl⟩ ht; rfl] at hq
    exact tdSeq_if1 true (fun Q R q => tdOr_by true true (fun Q R q => tdNot_by false (fun Q R q => tdTest_by _ (fun Q R q => ⟨_, rfl, by decide, t, hty, by rw [not_lst hty ht]; exact q⟩) q) q) (fun z => nomatch z) q) (fun _ => hq) (fun z => nomatch z)
  obtain ⟨xs, rfl⟩ := ht
  obtain ⟨xl, xt, xs24⟩ := hd.parts xs rfl
  have hq : Q (.bl (rowsB xs SIG)) := hq
  refine tdSeq_if1 (!decide (1 ≤ xs.length ∧ xs.length ≤ 32)) (fun Q R q => tdOr_by false (!decide (1 ≤ xs.length ∧ xs.length ≤ 32)) (fun Q R q => tdNot_by true (fun Q R q => tdTest_by _ (fun Q R q => ⟨_, rfl, by decide, "list", rfl, q⟩) q) q) (fun _ Q R q => tdNot_by _ (fun Q R q => tdTest_by _ (fun Q R q => tdChain_le 1 xs.length 32 (fun Q R q => q) (fun Q R q => ⟨_, rfl, q⟩) (fun Q R q => q) (by rw [show decide ((1 : Int) ≤ (xs.length : Int) ∧ (xs.length : Int) ≤ 32) = decide (1 ≤ xs.length ∧ xs.length ≤ 32) from decide_eq_decide.mpr (by omega)]; exact q)) q) q) q) (fun z => ?_) (fun z => ?_)
  · have z : decide (1 ≤ xs.length ∧ xs.length ≤ 32) = false := notT z
    rw [show rowsB xs SIG = false by unfold rowsB; rw [z]; rfl] at hq
    exact hq
  have z : decide (1 ≤ xs.length ∧ xs.length ≤ 32) = true := notF z
  refine tdSeq_if1 (!xs.all strLen) (fun Q R q => tdNot_by _ (fun Q R q => tdTest_by _ (fun Q R q => ⟨_, rfl, xl, compD_mapG (fun d => .bl (strLen d)) (fun d hd K hK => ?_) (all_bools (l := xs) (p := strLen) q)⟩) q) q) (fun z2 => ?_) (fun z2 => ?_)
  · obtain ⟨t, hty⟩ := xt d hd
    by_cases hs : ∃ s, d = .v (.str s)
    · obtain ⟨s, rfl⟩ := hs
      have hl := xs24 s hd
      refine tdAndV_by true (strLen (.v (.str s))) (fun Q R q => ⟨_, rfl, by decide, "str", rfl, q⟩) (fun _ Q R q => ?_) hK
      refine tdChain_le 1 s.length 32 (fun Q R q => q) (fun Q R q => ⟨_, rfl, hl, q⟩) (fun Q R q => q) ?_
      rw [show decide ((1 : Int) ≤ (s.length : Int) ∧ (s.length : Int) ≤ 32) = strLen (.v (.str s)) from decide_eq_decide.mpr (by omega)]
      exact q
    · have e : strLen d = false := by
        unfold strLen
        split
        · exact absurd ⟨_, rfl⟩ hs
        · rfl
      have et : isTy t "str" = false := by
        rcases d with (_ | _ | _ | _ | _ | _ | _ | _) | _ | _ | _ | _ | _ <;> first | exact absurd ⟨_, rfl⟩ hs | (cases hty; done) | (cases hty; decide)
      rw [e] at hK
      exact tdAndV_by false true (fun Q R q => ⟨_, rfl, by decide, t, hty, by rw [et]; exact q⟩) (fun z => nomatch z) hK
  · have z2 : xs.all strLen = false := by simpa using z2
    rw [rows_no z2] at hq
    exact hq
  have z2 : xs.all strLen = true := by simpa using z2
  obtain ⟨z0, e0, er⟩ := rows_at z z2
  rw [er] at hq
  refine tdRet_by _ (fun Q R q => ?_) hq
  refine ⟨_, rfl, xl, compD_mapG (fun d => .bl (rowOkD z0.length SIG d)) (fun d hd K hK => ?_) (all_bools (l := xs) (p := rowOkD z0.length SIG) q)⟩
  obtain ⟨s, rfl, hs1, hs2⟩ := strLen_str (List.all_eq_true.mp z2 d hd)
  have hl := xs24 s hd
  have hl0 := xs24 z0 (List.mem_of_getElem? e0)
  rw [rowOkD_str] at hK
  refine tdAndV_by (decide (s.length = z0.length)) (s.cps.toList.all fun c => decide (c ∈ SIG)) (fun Q R q => ⟨_, rfl, hl, _, rfl, _, atI_of (k := 0) e0, hl0, fEq_i (by rw [show decide ((s.length : Int) = (z0.length : Int)) = decide (s.length = z0.length) from decide_eq_decide.mpr (by omega)]; exact q)⟩) (fun _ Q R q => ⟨_, rfl, ?_⟩) hK
  obtain ⟨l, rfl⟩ : ∃ l, s = mk l := ⟨_, mk_of s⟩
  show items (sD l) _
  rw [items_str, signs_mk]
  refine ⟨by rw [List.length_map]; simpa using hl, compD_mapL (fun c => sD [c]) (fun c => D.bl (decide (c ∈ SIG))) (fun c hc Kk hk => ?_) ?_⟩
  · refine ⟨_, rfl, rfl, sD [c], rfl, ⟨_, rfl⟩, fun s e => by cases e; simp, ?_⟩
    rw [strP_sD, show isSignL [c] = decide (c ∈ SIG) by simp [isSignL, allSig]]
    exact hk
  · simp only [tdNil]
    refine all_bools (l := l) (p := fun c => decide (c ∈ SIG)) ?_
    simpa using q
/-- what the law makes -/
def Sd (d : D) : Prop := Sz 4000000 60 d
theorem abz_lit : Str.ofString "abz" = mk [97, 98, 122] ∧ Str.ofString "q" = mk [113] := by decide +kernel
theorem abz_ix {v : Int} (h0 : 0 ≤ v) (h3 : v < 3) {Q : D → Prop} (q : ∀ c, c ∈ SIG → c ≠ 46 → Q (sD [c])) : fIx (.str (Str.ofString "abz")) (.int v) Q := by
  rw [abz_lit.1]
  rcases (show v = 0 ∨ v = 1 ∨ v = 2 by omega) with rfl | rfl | rfl
  · exact fIx_sign (r := [97, 98, 122]) (k := 0) (c := 97) (by decide) rfl (q _ (by decide) (by decide))
  · exact fIx_sign (r := [97, 98, 122]) (k := 1) (c := 98) (by decide) rfl (q _ (by decide) (by decide))
  · exact fIx_sign (r := [97, 98, 122]) (k := 2) (c := 122) (by decide) rfl (q _ (by decide) (by decide))
def t_Lcells : TFO := fun W ds Q _ => ∃ (b c : Addr) (cells : List Int), W = bagW b c cells ∧ ds = [.v (.ref b)] ∧ ∀ cs : List Cell, cs.length ≤ 5 → (∀ c ∈ cs, CellOk c) → Q (cs.map cellD)
theorem ok_Lcells (T : Txt K mg ad fd) : FnG P w K mg base CX0 2 (ad 46) (fd 46) p_Lcells (spO K 1 t_Lcells) := by
  have G_Ltake := ok_Ltake (P := P) (w := w) (base := base) T
  refine okO T.h_Lcells.F sc_Lcells (fun cdv A outer s H E hr => ⟨_, _, fun W => (dss_cons (ds_set (i := 1) sc_Lcells.nd (de_ix (DO.e (do_lst (da_cons de_int (da_cons (de_neg (de_pow de_int de_int)) (da_cons (de_sub (de_pow de_int de_int) de_int) (da_cons (de_sub (de_call G_Ltake (hr.mono (by decide)) T.h_Ltake.g T.h_Ltake.k T.h_Ltake.b pass0 (da_cons (dv 0) (da_cons de_int da_nil))) de_int) da_nil)))))) (de_call G_Ltake (hr.mono (by decide)) T.h_Ltake.g T.h_Ltake.k T.h_Ltake.b pass0 (da_cons (dv 0) (da_cons de_int da_nil)))))
      (dss_cons (ds_setO (i := 2) sc_Lcells.nd (do_lst da_nil))
      (dss_cons (ds_for PassesOwn.never rfl (di_range1 rfl T.m_range (da_cons (de_call G_Ltake (hr.mono (by decide)) T.h_Ltake.g T.h_Ltake.k T.h_Ltake.b pass0 (da_cons (dv 0) (da_cons de_int da_nil))) da_nil)) (dg_name (i := 3) sc_Lcells.nd) (dss_cons (ds_set (i := 4) sc_Lcells.nd (de_ix (DO.e (do_lst (da_cons (de_call G_Ltake (hr.mono (by decide)) T.h_Ltake.g T.h_Ltake.k T.h_Ltake.b pass0 (da_cons (dv 0) (da_cons de_int da_nil))) (da_cons (de_add de_int (de_call G_Ltake (hr.mono (by decide)) T.h_Ltake.g T.h_Ltake.k T.h_Ltake.b pass0 (da_cons (dv 0) (da_cons de_int da_nil)))) da_nil)))) (de_toint T.m_int (da_cons (de_eq hr.units (de_call G_Ltake (hr.mono (by decide)) T.h_Ltake.g T.h_Ltake.k T.h_Ltake.b pass0 (da_cons (dv 0) (da_cons de_int da_nil))) de_int) da_nil))))
      (dss_cons (ds_app 2 (de_tup (da_cons (de_add (dv 1) (dv 4)) (da_cons (de_call G_Ltake (hr.mono (by decide)) T.h_Ltake.g T.h_Ltake.k T.h_Ltake.b pass0 (da_cons (dv 0) (da_cons de_int da_nil))) (da_cons (de_ix de_str (de_call G_Ltake (hr.mono (by decide)) T.h_Ltake.g T.h_Ltake.k T.h_Ltake.b pass0 (da_cons (dv 0) (da_cons de_int da_nil)))) da_nil)))))
      (dss_one (ds_if (dt_eq hr.units (de_call G_Ltake (hr.mono (by decide)) T.h_Ltake.g T.h_Ltake.k T.h_Ltake.b pass0 (da_cons (dv 0) (da_cons de_int da_nil))) de_int) (dss_one (ds_setI 2 (de_tup (da_cons (de_call G_Ltake (hr.mono (by decide)) T.h_Ltake.g T.h_Ltake.k T.h_Ltake.b pass0 (da_cons (dv 0) (da_cons de_int da_nil))) (da_cons (de_add (dv 1) (dv 4)) (da_cons de_str da_nil)))) (de_neg de_int))) dss_nil)))))
      (dss_cons (ds_setO (i := 5) sc_Lcells.nd (do_lst da_nil))
      (dss_cons (DS.still 2 (ds_for PassesOwn.never rfl (di_any (dv 2)) (dg_name (i := 6) sc_Lcells.nd) (dss_one (ds_if (dt_ninAny hr.units2 (de_slT (dv 6) dp_none (dp_some de_int)) (DO.e (do_lc rfl sc_Lcells.nd (di_any (dv 5)) (blkOk_by (own := [("_law_other", 7)]) (N := n_Lcells) (by kernel_rfl)) (fun _ _ _ _ _ => (dg_name (i := 7) sc_Lcells.nd)) (fun _ _ _ _ _ => dts_nil) (fun _ _ _ _ _ => (de_slT (dv 7) dp_none (dp_some de_int)))))) (dss_one (ds_app 5 (dv 6))) dss_nil))))
      (dss_one (ds_retV 5))))))), fun W ds Q hl ht => ?_⟩) (fun _ _ _ _ h => h)
  obtain ⟨b, c, cells, rfl, rfl, hq⟩ := ht
  have c6 : CPow 10 6 := by simp
  refine tdSeq_asgP (fun d => ∃ l : Int, d = .int l ∧ -1000000 ≤ l ∧ l ≤ 999799) (fun Q R q => ⟨c6, c6, _, rfl, rfl, take_i (n := 1000) (by decide) (by decide) fun v a1 a2 => ⟨by show 4 ≤ sizeLine; decide, _, rfl, rfl, take_i (n := 4) (by decide) (by decide) fun v2 b1 b2 => ?_⟩⟩) ?_
  · refine pickP (P := fun d => ∃ l : Int, d = .int l ∧ -1000000 ≤ l ∧ l ≤ 999799) b1 (by simpa using b2) (fun d hd => ?_) q
    simp only [List.mem_cons, List.not_mem_nil, or_false] at hd
    rcases hd with rfl | rfl | rfl | rfl
    · exact ⟨_, rfl, by decide, by decide⟩
    · exact ⟨_, rfl, by decide, by decide⟩
    · exact ⟨_, rfl, by decide, by decide⟩
    · exact ⟨_, rfl, by omega, by omega⟩
  rintro _ ⟨l, rfl, l1, l2⟩
  refine tdSeq_setO (fun ds => ds = []) (fun Q R q => ⟨by show 0 ≤ sizeLine; decide, q _ rfl⟩) ?_
  rintro _ rfl
  refine tdSeq_cut (fun τ => ∃ (cs : List Cell) (z3 z4 : Option SD), cs.length ≤ 5 ∧ (∀ c ∈ cs, CellOk c) ∧ τ = [some (.dat (.v (.ref b))), some (.dat (.int l)), some (.own (cs.map cellD)), z3, z4, none, none, none]) (fun nx hnx => ?_) ?_
  · refine tdFor_by (fun ds => ds.length ≤ 5) (fun Q R q => ⟨_, rfl, rfl, take_i (n := 6) (by decide) (by decide) fun v a1 a2 => ⟨by omega, by omega, q _ (by rw [numsD_length]; omega)⟩⟩) ?_
    intro es hes
    refine forD_word (fun pre τ => ∃ (cs : List Cell) (z3 z4 : Option SD), cs.length ≤ pre.length ∧ (∀ c ∈ cs, CellOk c) ∧ τ = [some (.dat (.v (.ref b))), some (.dat (.int l)), some (.own (cs.map cellD)), z3, z4, none, none, none]) es gdName_mono ?_ ?_ [] _ _ rfl ⟨[], _, _, Nat.le_refl _, (fun _ h => nomatch h), rfl⟩
    · rintro pre d post τ he ⟨cs, z3, z4, hl5, hok, rfl⟩ nx2 hnx2
      have pl : pre.length ≤ 5 := by
        have := congrArg List.length he
        rw [List.length_append, List.length_cons] at this
        omega
      refine tdSeq_asgP (fun d => ∃ f : Int, d = .int f ∧ 0 ≤ f ∧ f ≤ 201) (fun Q R q => ⟨_, rfl, rfl, take_i (n := 5) (by decide) (by decide) fun v a1 a2 => ⟨_, rfl, rfl, take_i (n := 5) (by decide) (by decide) fun v2 b1 b2 => ⟨by show 2 ≤ sizeLine; decide, _, rfl, rfl, take_i (n := 6) (by decide) (by decide) fun v3 d1 d2 => ?_⟩⟩⟩) ?_
      · simp only [tdC, tdNil]
        refine fEq_i ?_
        by_cases h : v3 = 0
        · rw [decide_eq_true h]
          exact ⟨_, atI_of (k := 1) rfl, q _ ⟨_, rfl, by omega, by omega⟩⟩
        · rw [decide_eq_false h]
          exact ⟨_, atI_zero _ _, q _ ⟨_, rfl, by omega, by omega⟩⟩
      rintro _ ⟨f, rfl, f1, f2⟩
      refine ⟨_, rfl, by rw [List.length_map]; exact Nat.lt_of_le_of_lt (show _ ≤ 5 by omega) (by decide), _, rfl, _, rfl, _, rfl, rfl, take_i (n := 4) (by decide) (by decide) fun v a1 a2 => ⟨_, rfl, rfl, take_i (n := 3) (by decide) (by decide) fun v2 b1 b2 => abz_ix b1 b2 fun ch hs hg => ⟨by show 3 ≤ sizeLine; decide, ?_⟩⟩⟩
      have ok1 : ∀ x ∈ cs ++ [((l + f, v, ch) : Cell)], CellOk x := fun x hx => by
        rcases List.mem_append.mp hx with hx | hx
        · exact hok x hx
        · rw [List.mem_singleton.mp hx]
          exact ⟨⟨by show _ ≤ l + f; omega, by show l + f ≤ _; omega⟩, ⟨by show _ ≤ v; omega, by show v ≤ _; omega⟩, hs, hg⟩
      dsimp only
      refine tdIf_P (fun _ => True) (fun Q R q => ⟨_, rfl, rfl, take_i (n := 3) (by decide) (by decide) fun v a1 a2 => by simp only [tdC]; exact fEq_i (q _ trivial)⟩) (fun _ => ?_) (fun _ => ?_)
      · refine ⟨_, rfl, _, rfl, rfl, take_i (n := 4) (by decide) (by decide) fun v3 d1 d2 => ⟨_, rfl, _, rfl, by show 3 ≤ sizeLine; decide, cs.length, ?_, ?_⟩⟩
        · rw [List.length_append, List.length_map]
          unfold ixN
          rw [if_neg (by decide), if_pos (by show -((cs.length + 1 : Nat) : Int) ≤ -1; omega)]
          exact congrArg some (by show (-1 + ((cs.length + 1 : Nat) : Int)).toNat = _; omega)
        · refine hnx2 _ ⟨cs ++ [(v3, l + f, 113)], some (.dat d), some (.dat (.int f)), by rw [List.length_append, List.length_append]; exact Nat.add_le_add_right hl5 1, fun x hx => ?_, ?_⟩
          · rcases List.mem_append.mp hx with hx | hx
            · exact hok x hx
            · rw [List.mem_singleton.mp hx]
              exact ⟨⟨by show _ ≤ v3; omega, by show v3 ≤ _; omega⟩, ⟨by show _ ≤ l + f; omega, by show l + f ≤ _; omega⟩, by show 113 ∈ SIG; decide, by show (113 : Nat) ≠ 46; decide⟩
          · have e : (cs.map cellD ++ [D.tup [.int (l + f), .int v, sD [ch]]]).set cs.length (.tup [.int v3, .int (l + f), .str (Str.ofString "q")]) = (cs ++ [((v3, l + f, 113) : Cell)]).map cellD := by
              rw [abz_lit.2, List.map_append, List.set_append_right _ _ (by rw [List.length_map]; exact Nat.le_refl _), List.length_map, Nat.sub_self]
              rfl
            rw [e]
            rfl
      · refine hnx2 _ ⟨cs ++ [(l + f, v, ch)], some (.dat d), some (.dat (.int f)), by rw [List.length_append, List.length_append]; exact Nat.add_le_add_right hl5 1, ok1, ?_⟩
        rw [List.map_append]
        rfl
    · rintro τ ⟨cs, z3, z4, hl5, hok, rfl⟩
      exact hnx _ ⟨cs, z3, z4, Nat.le_trans hl5 hes, hok, rfl⟩
  rintro _ ⟨cs, z3, z4, hl5, hok, rfl⟩
  refine tdSeq_setO (fun ds => ds = []) (fun Q R q => ⟨by show 0 ≤ sizeLine; decide, q _ rfl⟩) ?_
  rintro _ rfl
  refine tdSeq_cut (fun τ => ∃ (fs : List Cell) (z6 : Option SD), fs.length ≤ 5 ∧ (∀ c ∈ fs, CellOk c) ∧ τ = [some (.dat (.v (.ref b))), some (.dat (.int l)), some (.dat (.lst (cs.map cellD))), z3, z4, some (.own (fs.map cellD)), z6, none]) (fun nx hnx => ?_) ?_
  · refine ⟨_, rfl, ?_⟩
    refine tdFor_by (fun ds => ds = cs.map cellD) (fun Q R q => ⟨_, rfl, q _ rfl⟩) ?_
    rintro _ rfl
    refine forD_word (fun pre τ => ∃ (fs : List Cell) (z6 : Option SD), fs.length ≤ pre.length ∧ (∀ c ∈ fs, CellOk c) ∧ τ = [some (.dat (.v (.ref b))), some (.dat (.int l)), some (.dat (.lst (cs.map cellD))), z3, z4, some (.own (fs.map cellD)), z6, none]) (cs.map cellD) gdName_mono ?_ ?_ [] _ _ rfl ⟨[], _, Nat.le_refl _, (fun _ h => nomatch h), rfl⟩
    · rintro pre d post τ he ⟨fs, z6, hf, fok, rfl⟩ nx2 hnx2
      have pl : pre.length ≤ 5 := by
        have := congrArg List.length he
        rw [List.length_append, List.length_cons, List.length_map] at this
        omega
      obtain ⟨c0, hc0, rfl⟩ := List.mem_map.mp (show d ∈ cs.map cellD by rw [he]; simp)
      have two : ∀ (c : Cell), cutD [D.int c.1, .int c.2.1, sD [c.2.2]] none (some ((2 : Nat) : Int)) = [.int c.1, .int c.2.1] := fun c => by rw [cutD_toD]; rfl
      have d1 : ∀ x y : Int, dOk 2 (.tup [.int x, .int y]) := fun x y => .tup (n := 1) fun d hd => by
        simp only [List.mem_cons, List.not_mem_nil, or_false] at hd
        rcases hd with rfl | rfl <;> exact .int
      have d2 : dOk 3 (.lst (fs.map fun c => D.tup [D.int c.1, D.int c.2.1])) := .lst (n := 2) fun d hd => by
        obtain ⟨c, _, rfl⟩ := List.mem_map.mp hd
        exact d1 _ _
      refine tdIf_P (fun _ => True) (fun Q R q => ⟨_, rfl, ?_⟩) (fun _ => ?_) (fun _ => hnx2 _ ⟨fs, some (.dat (cellD c0)), by rw [List.length_append]; omega, fok, rfl⟩)
      · simp only [tdNoPart, tdPart, tdC, onI_int]
        have e0 : ∀ K : List D → Prop, onTup (cellD c0) K = K [.int c0.1, .int c0.2.1, sD [c0.2.2]] := fun _ => rfl
        rw [e0]
        rw [show cutD [D.int c0.1, .int c0.2.1, sD [c0.2.2]] none (some 2) = [.int c0.1, .int c0.2.1] from two c0]
        refine ⟨_, rfl, ?_⟩
        show items (.lst (fs.map cellD)) _
        rw [items_lst]
        refine ⟨by rw [List.length_map]; exact Nat.le_trans (show _ ≤ 5 by omega) (by decide), ?_⟩
        refine compD_mapL (h := fun c : Cell => D.tup [.int c.1, .int c.2.1]) _ (fun c hc Kk hk => ⟨_, rfl, ?_⟩) ?_
        · simp only [tdNoPart, tdPart, tdC, onI_int]
          show Kk (.tup (cutD [D.int c.1, D.int c.2.1, sD [c.2.2]] none (some ((2 : Nat) : Int))))
          rw [two]
          exact hk
        · rw [fInAny_lst]
          exact ⟨(d1 _ _).cmp, d2.cmp, q _ trivial⟩
      · refine ⟨_, rfl, by rw [List.length_map]; exact Nat.lt_of_le_of_lt (show _ ≤ 5 by omega) (by decide), _, rfl, hnx2 _ ⟨fs ++ [c0], some (.dat (cellD c0)), by rw [List.length_append, List.length_append]; exact Nat.add_le_add_right hf 1, fun x hx => ?_, ?_⟩⟩
        · rcases List.mem_append.mp hx with hx | hx
          · exact fok x hx
          · rw [List.mem_singleton.mp hx]; exact hok c0 hc0
        · rw [List.map_append]
          rfl
    · rintro τ ⟨fs, z6, hf, fok, rfl⟩
      exact hnx _ ⟨fs, z6, by rw [List.length_map] at hf; omega, fok, rfl⟩
  rintro _ ⟨fs, z6, hf5, fok, rfl⟩
  exact ⟨_, rfl, hq fs hf5 fok⟩
def deepD : Nat → D
  | 0 => .lst []
  | k + 1 => .lst [deepD k]
theorem deep_sz : ∀ k : Nat, Sz (2 + 4 * k) (k + 1) (deepD k)
  | 0 => (Sz.lst (ds := []) (n := 0) (k := 0) (m := 0) (fun d hd => by cases hd) (by simp)).mono (by omega) (by omega)
  | k + 1 => (Sz.lst (ds := [deepD k]) (m := 1) (fun d hd => by cases List.mem_singleton.mp hd; exact deep_sz k) (by simp)).mono (by omega) (by omega)
def t_Ldeep : TF := fun W ds Q _ => ds = [] ∧ Q (deepD 49)
theorem ok_Ldeep (T : Txt K mg ad fd) : FnG P w K mg base CX0 1 (ad 47) (fd 47) p_Ldeep (spD K 0 t_Ldeep) := by
  refine okD T.h_Ldeep.F sc_Ldeep (fun cdv A outer s H E hr => ⟨_, _, fun W => (dss_cons (ds_set (i := 0) sc_Ldeep.nd (DO.e (do_lst da_nil)))
      (dss_cons (ds_for PassesOwn.never rfl (di_range1 rfl T.m_range (da_cons de_int da_nil)) (dg_name (i := 1) sc_Ldeep.nd) (dss_one (ds_set (i := 0) sc_Ldeep.nd (DO.e (do_lst (da_cons (dv 0) da_nil))))))
      (dss_one (ds_ret (dv 0))))), fun W ds Q hl ht => ?_⟩) (fun _ _ _ _ h => h)
  obtain ⟨rfl, hq⟩ := ht
  refine tdSeq_asg (.lst []) (fun Q R q => ⟨Nat.zero_le _, q⟩) ?_
  refine tdSeq_cut (fun τ => ∃ z, τ = [some (.dat (deepD 49)), z]) (fun nx hnx => ?_) ?_
  · refine ⟨by decide, by decide, ?_⟩
    refine forD_word (fun pre τ => ∃ z, τ = [some (.dat (deepD pre.length)), z]) (numsD 0 49) gdName_mono ?_ ?_ [] _ _ rfl ⟨_, rfl⟩
    · rintro pre d post τ he ⟨z, rfl⟩ nx hnx
      refine ⟨_, rfl, by show 1 ≤ sizeLine; decide, ?_⟩
      refine hnx _ ⟨some (.dat d), ?_⟩
      rw [List.length_append]
      rfl
    · rintro τ ⟨z, rfl⟩
      rw [numsD_length]
      exact hnx _ ⟨_, rfl⟩
  rintro τ ⟨z, rfl⟩
  exact ⟨_, rfl, hq⟩
structure ThingC (d : D) : Prop where
  l : Listish d
  z : Sd d
structure ThingP (d : D) : Prop where
  p : Picish d
  z : Sd d
def argB (d : D) : Bool := (tyD d).isSome && (match d with
  | .v (.str s) => decide (s.length ≤ 1000) && s.cps.toList.all (fun c => decide (c < 0x110000))
  | _ => true)
theorem arg_of {d : D} (h : argB d = true) : Arg d := by
  unfold argB at h
  rw [Bool.and_eq_true] at h
  obtain ⟨h1, h2⟩ := h
  refine ⟨Option.isSome_iff_exists.mp h1, fun s e => ?_, fun s e => ?_⟩
  · subst e
    simp only [Bool.and_eq_true] at h2
    exact Nat.le_trans (of_decide_eq_true h2.1) (by decide)
  · subst e
    simp only [Bool.and_eq_true] at h2
    intro c hc
    exact of_decide_eq_true (List.all_eq_true.mp h2.2 c hc)
def szB (n k : Nat) (d : D) : Bool := shOk d && (decide ((toPy d).depth ≤ k) && decide ((toPy d).shown.length ≤ n))
theorem sz_of {n k : Nat} {d : D} (h : szB n k d = true) : Sz n k d := by
  unfold szB at h
  rw [Bool.and_eq_true, Bool.and_eq_true] at h
  exact ⟨h.1, of_decide_eq_true h.2.1, of_decide_eq_true h.2.2⟩
/-- a small thing -/
structure ArgZ (d : D) : Prop where
  a : Arg d
  z : Sz 4000 60 d
def argzB (d : D) : Bool := argB d && szB 4000 60 d
theorem argz_of {d : D} (h : argzB d = true) : ArgZ d := by
  unfold argzB at h
  rw [Bool.and_eq_true] at h
  exact ⟨arg_of h.1, sz_of h.2⟩
/-- what may stand among cells -/
structure OneC (d : D) : Prop where
  c : Cellish d
  z : Sz 6000 20 d
def oneCB (d : D) : Bool := argB d && ((match d with | .tup xs => decide (xs.length ≤ 100) && xs.all argB | _ => true) && szB 6000 20 d)
theorem oneC_of {d : D} (h : oneCB d = true) : OneC d := by
  unfold oneCB at h
  rw [Bool.and_eq_true, Bool.and_eq_true] at h
  obtain ⟨h1, h2, h3⟩ := h
  refine ⟨⟨arg_of h1, fun xs e => ?_⟩, sz_of h3⟩
  subst e
  simp only [Bool.and_eq_true] at h2
  exact ⟨Nat.le_trans (of_decide_eq_true h2.1) (by decide), fun x hx => arg_of (List.all_eq_true.mp h2.2 x hx)⟩
theorem sig_small : ∀ c ∈ SIG, c < 0x110000 := by decide +kernel
theorem oneC_tri {x y : Int} {c : Nat} (hx : x.natAbs ≤ 1000001) (hy : y.natAbs ≤ 1000001) (hc : c < 0x110000) : OneC (.tup [.int x, .int y, sD [c]]) := by
  have ai : ∀ i : Int, Arg (.int i) := fun i => ⟨⟨_, rfl⟩, (fun s e => nomatch e), (fun s e => nomatch e)⟩
  have as : Arg (sD [c]) := ⟨⟨_, rfl⟩, (fun s e => by cases e; simp), (fun s e => by
    cases e
    intro x hx
    have : x = c := by simpa using hx
    rw [this]; exact hc)⟩
  have zi : ∀ i : Int, i.natAbs ≤ 1000001 → Sz 1921 1 (.int i) := fun i h => Sz.int (log2_of (Nat.lt_of_le_of_lt h (by decide)))
  refine ⟨⟨⟨⟨_, rfl⟩, (fun s e => nomatch e), (fun s e => nomatch e)⟩, fun xs e => ?_⟩, (Sz.tup (n := 1921) (k := 1) (m := 3) (fun d hd => ?_) (by simp)).mono (by omega) (by omega)⟩
  · cases e
    refine ⟨by simp, fun d hd => ?_⟩
    simp only [List.mem_cons, List.not_mem_nil, or_false] at hd
    rcases hd with rfl | rfl | rfl
    · exact ai x
    · exact ai y
    · exact as
  · simp only [List.mem_cons, List.not_mem_nil, or_false] at hd
    rcases hd with rfl | rfl | rfl
    · exact zi x hx
    · exact zi y hy
    · exact (Sz.str fun x hx => by rw [List.mem_singleton.mp hx]; exact hc).mono (by simp) (by omega)
theorem oneC_cell {c : Cell} (h : CellOk c) : OneC (cellD c) := by
  have h1 := h.x
  have h2 := h.y
  exact oneC_tri (x := c.1) (y := c.2.1) (by omega) (by omega) (sig_small _ h.s)
theorem thC_lst {fs : List D} (h : ∀ d ∈ fs, OneC d) (hl : fs.length ≤ 8) : ThingC (.lst fs) := by
  refine ⟨⟨⟨⟨_, rfl⟩, (fun s e => nomatch e), (fun s e => nomatch e)⟩, fun xs e => ?_⟩, (Sz.lst (fun d hd => (h d hd).z) hl).mono (by omega) (by omega)⟩
  cases e
  exact ⟨Nat.le_trans hl (by decide), fun x hx => (h x hx).c, fun _ => by omega⟩
theorem thC_no {d : D} (a : Arg d) (z : Sd d) (h : ∀ xs, d ≠ .lst xs) : ThingC d := ⟨⟨a, fun xs e => absurd e (h xs)⟩, z⟩
theorem deep_th {k : Nat} (h : k ≤ 49) : Arg (deepD k) ∧ Cellish (deepD k) ∧ Sz 4000 60 (deepD k) := by
  have a : Arg (deepD k) := by cases k <;> exact ⟨⟨_, rfl⟩, (fun s e => nomatch e), (fun s e => nomatch e)⟩
  exact ⟨a, ⟨a, fun xs e => by cases k <;> cases e⟩, (deep_sz k).mono (by omega) (by omega)⟩
theorem thC_deep : ThingC (deepD 49) := by
  refine ⟨⟨(deep_th (by omega)).1, fun xs e => ?_⟩, (deep_th (k := 49) (by omega)).2.2.mono (by omega) (by omega)⟩
  have e : D.lst [deepD 48] = .lst xs := e
  cases e
  exact ⟨by simp, fun x hx => by rw [List.mem_singleton.mp hx]; exact (deep_th (by omega)).2.1, fun _ => by simp⟩
theorem thC_rep {n : Nat} (h : n ≤ 9999) : ThingC (.lst (List.replicate n (.int 0))) := by
  have c0 : OneC (.int 0) := oneC_of (by decide +kernel)
  refine ⟨⟨⟨⟨_, rfl⟩, (fun s e => nomatch e), (fun s e => nomatch e)⟩, fun xs e => ?_⟩, (Sz.lst (n := 1) (k := 1) (m := 9999) (fun d hd => ?_) (by simp; omega)).mono (by omega) (by omega)⟩
  · cases e
    refine ⟨by simp; omega, fun x hx => ?_, fun hx => ?_⟩
    · rw [(List.mem_replicate.mp hx).2]; exact c0.c
    · rw [List.length_replicate]
      rcases Nat.eq_zero_or_pos n with z | z
      · omega
      · have := List.all_eq_true.mp hx (.int 0) (List.mem_replicate.mpr ⟨by omega, rfl⟩)
        cases this
  · rw [(List.mem_replicate.mp hd).2]
    exact sz_of (by decide +kernel)
theorem compD_filterD {g : TDG} {te : TDE} {td : TDT} {vs : List Nat} {τ : Tau} (p : D → Bool) {l : List D} {Q : List D → Prop}
    (hh : ∀ a ∈ l, ∀ (Kt : Prop) (K : D → Prop), (p a = true → K a) → (p a = false → Kt) → g a (wipeT τ vs) fun τ2 => td τ2 (fun b => if b = true then te τ2 K (fun _ => False) else Kt) (fun _ => False)) (q : Q (l.filter p)) : compD g td te vs τ l Q := by
  have := compD_filterL (g := g) (te := te) (td := td) (vs := vs) (τ := τ) (fun d : D => d) (fun d : D => d) p (l := l) (Q := Q) hh (by rw [List.map_id']; exact q)
  rwa [List.map_id'] at this
theorem tdSeq_setON {i : Nat} {t : TDO} {u : TDS} {τ : Tau} {E : DEnds} (P : List D → Prop) (ho : τ.all onlyL1 = true) (nl : ∀ ds, P ds → noLsts ds = true) (h : ∀ (Q : List D → Prop) (R : Exc → Prop), (∀ ds, P ds → Q ds) → t (frz τ) Q R) (k : ∀ ds, P ds → u (τ.set i (some (.own ds))) E) : tdSeq (tdSetON t i) u τ E :=
  ⟨ho, h _ _ fun ds p => ⟨nl ds p, k ds p⟩⟩
theorem cells_kept (fs : List D) : ∃ gs : List Cell, fs.filter listedB ++ [.tup [.int 7, .int 7, .str (Str.ofString "b")]] = gs.map cellD ∧ 0 < gs.length ∧ gs.length ≤ fs.length + 1 ∧ ∀ c ∈ gs, CellOk c := by
  obtain ⟨e, ok⟩ := cells_back (xs := fs.filter listedB) (List.all_eq_true.mpr fun d hd => (List.mem_filter.mp hd).2)
  refine ⟨(fs.filter listedB).map cellOf ++ [(7, 7, 98)], ?_, by simp, ?_, fun c hc => ?_⟩
  · rw [List.map_append, ← e]
    rfl
  · rw [List.length_append, List.length_map]
    have := List.length_filter_le listedB fs
    simp; omega
  · rcases List.mem_append.mp hc with hc | hc
    · exact ok c hc
    · rw [List.mem_singleton.mp hc]
      exact ⟨by decide, by decide, by decide, by decide⟩
theorem tdSeq_tup3P {i j l : Nat} {t : TDE} {u : TDS} {τ : Tau} {E : DEnds} (P : D → D → D → Prop) (h : ∀ (Q : D → Prop) (R : Exc → Prop), (∀ x y s, P x y s → Q (.tup [x, y, s])) → t τ Q R) (k : ∀ x y s, P x y s → u (((τ.set i (some (.dat x))).set j (some (.dat y))).set l (some (.dat s))) E) :
    tdSeq (tdAsg t (gdTup 3 (gdCons (gdName i) (gdCons (gdName j) (gdCons (gdName l) gdNil))))) u τ E := h _ _ fun x y s p => ⟨rfl, rfl, k x y s p⟩
theorem tdSeq_tup2P {i j : Nat} {t : TDE} {u : TDS} {τ : Tau} {E : DEnds} (P : D → D → Prop) (h : ∀ (Q : D → Prop) (R : Exc → Prop), (∀ x y, P x y → Q (.tup [x, y])) → t τ Q R) (k : ∀ x y, P x y → u ((τ.set i (some (.dat x))).set j (some (.dat y))) E) :
    tdSeq (tdAsg t (gdTup 2 (gdCons (gdName i) (gdCons (gdName j) gdNil)))) u τ E := h _ _ fun x y p => ⟨rfl, rfl, k x y p⟩
theorem noL_cells (gs : List Cell) : noLsts (gs.map cellD) = true := by
  induction gs with
  | nil => rfl
  | cons c l ih => exact ih
def t_Lbent : TF := fun W ds Q _ => ∃ (b c : Addr) (cells : List Int) (cs : List Cell), W = bagW b c cells ∧ ds = [.v (.ref b), .lst (cs.map cellD)] ∧ cs.length ≤ 5 ∧ (∀ c ∈ cs, CellOk c) ∧ ∀ d, ThingC d → Q d
theorem ok_Lbent (T : Txt K mg ad fd) : FnG P w K mg base CX0 3 (ad 48) (fd 48) p_Lbent (spD K 2 t_Lbent) := by
  have G_Ltake := ok_Ltake (P := P) (w := w) (base := base) T
  have G_Lis_cell := ok_Lis_cell (P := P) (w := w) (base := base) T
  have G_Ldeep := ok_Ldeep (P := P) (w := w) (base := base) T
  refine okD T.h_Lbent.F sc_Lbent (fun cdv A outer s H E hr => ⟨_, _, fun W => (dss_cons (ds_setO (i := 2) sc_Lbent.nd (do_list T.m_list (da_cons (dv 1) da_nil)))
      (dss_cons (ds_for PassesOwn.never rfl (di_range1 rfl T.m_range (da_cons (de_call G_Ltake (hr.mono (by decide)) T.h_Ltake.g T.h_Ltake.k T.h_Ltake.b pass0 (da_cons (dv 0) (da_cons de_int da_nil))) da_nil)) (dg_name (i := 3) sc_Lbent.nd) (dss_cons (ds_setON (i := 4) sc_Lbent.nd (do_cat (DO.e (do_lc rfl sc_Lbent.nd (di_any (dv 2)) (blkOk_by (own := [("_law_one", 9)]) (N := n_Lbent) (by kernel_rfl)) (fun _ _ _ _ _ => (dg_name (i := 9) sc_Lbent.nd)) (fun _ _ _ _ _ => (dts_one (dt_val (de_call G_Lis_cell (hr.mono (by decide)) T.h_Lis_cell.g T.h_Lis_cell.k T.h_Lis_cell.b pass0 (da_cons (dv 9) da_nil))))) (fun _ _ _ _ _ => (dv 9)))) (DO.e (do_lst (da_cons (de_tup (da_cons de_int (da_cons de_int (da_cons de_str da_nil)))) da_nil)))))
      (dss_cons (ds_asg (de_ixO 4 (de_call G_Ltake (hr.mono (by decide)) T.h_Ltake.g T.h_Ltake.k T.h_Ltake.b pass0 (da_cons (dv 0) (da_cons (de_frzE (de_len T.m_len (da_cons (dv 4) da_nil))) da_nil)))) (dg_tup rfl (dgs_cons (dg_name (i := 5) sc_Lbent.nd) (dgs_cons (dg_name (i := 6) sc_Lbent.nd) (dgs_cons (dg_name (i := 7) sc_Lbent.nd) dgs_nil)))))
      (dss_cons (ds_set (i := 8) sc_Lbent.nd (DO.e (do_lst (da_cons de_non (da_cons (de_tup (da_cons de_int (da_cons de_int da_nil))) (da_cons (de_tup (da_cons de_int (da_cons de_int (da_cons de_str (da_cons de_int da_nil))))) (da_cons (DO.e (do_lst (da_cons de_int (da_cons de_int (da_cons de_str da_nil))))) (da_cons (de_tup (da_cons de_str (da_cons de_int (da_cons de_str da_nil)))) (da_cons (de_tup (da_cons de_bl (da_cons de_int (da_cons de_str da_nil)))) (da_cons (de_tup (da_cons (de_add (de_pow de_int de_int) de_int) (da_cons de_int (da_cons de_str da_nil)))) da_nil))))))))))
      (dss_cons (ds_set (i := 8) sc_Lbent.nd (DO.e (do_cat (dv 8) (DO.e (do_lst (da_cons (de_tup (da_cons de_int (da_cons (de_sub (de_neg (de_pow de_int de_int)) de_int) (da_cons de_str da_nil)))) (da_cons (de_tup (da_cons de_int (da_cons de_int (da_cons de_str da_nil)))) (da_cons (de_tup (da_cons de_int (da_cons de_int (da_cons de_str da_nil)))) (da_cons (de_tup (da_cons de_int (da_cons de_int (da_cons de_str da_nil)))) (da_cons (de_tup (da_cons de_int (da_cons de_int (da_cons de_str da_nil)))) (da_cons (de_tup (da_cons de_int (da_cons de_int (da_cons de_non da_nil)))) (da_cons de_str da_nil))))))))))))
      (dss_cons (ds_set (i := 8) sc_Lbent.nd (DO.e (do_cat (dv 8) (DO.e (do_lst (da_cons (de_tup (da_cons (dv 5) (da_cons (dv 6) (da_cons (de_ix de_str (de_call G_Ltake (hr.mono (by decide)) T.h_Ltake.g T.h_Ltake.k T.h_Ltake.b pass0 (da_cons (dv 0) (da_cons de_int da_nil)))) da_nil)))) (da_cons (de_tup (da_cons (de_pow de_int de_int) (da_cons (de_neg (de_pow de_int de_int)) (da_cons de_str da_nil)))) (da_cons (de_tup (da_cons de_int (da_cons de_int (da_cons de_str da_nil)))) da_nil))))))))
      (dss_cons (ds_set (i := 8) sc_Lbent.nd (DO.e (do_cat (dv 8) (DO.e (do_lst (da_cons (de_tup da_nil) (da_cons (DX.dat (dx_newT ⟨P, w⟩)) (da_cons (de_tup (da_cons de_int (da_cons de_int (da_cons (DO.e (do_lst (da_cons de_str da_nil))) da_nil)))) (da_cons de_int da_nil)))))))))
      (dss_one (ds_insA 2 (da_cons (de_call G_Ltake (hr.mono (by decide)) T.h_Ltake.g T.h_Ltake.k T.h_Ltake.b pass0 (da_cons (dv 0) (da_cons (de_add (de_frzE (de_len T.m_len (da_cons (dv 2) da_nil))) de_int) da_nil))) (da_cons (de_ix (dv 8) (de_call G_Ltake (hr.mono (by decide)) T.h_Ltake.g T.h_Ltake.k T.h_Ltake.b pass0 (da_cons (dv 0) (da_cons (de_len T.m_len (da_cons (dv 8) da_nil)) da_nil)))) da_nil)))))))))))
      (dss_cons (ds_if (dt_eq hr.units (de_call G_Ltake (hr.mono (by decide)) T.h_Ltake.g T.h_Ltake.k T.h_Ltake.b pass0 (da_cons (dv 0) (da_cons de_int da_nil))) de_int) (dss_cons (DS.freeze (ds_set (i := 8) sc_Lbent.nd (DO.e (do_lst (da_cons de_non (da_cons (de_tuple T.m_tuple (da_cons (dv 2) da_nil)) (da_cons (DX.dat (dx_newT ⟨P, w⟩)) (da_cons de_str (da_cons de_int (da_cons de_bl (da_cons (de_disp1T ⟨P, w⟩ hr.units (de_tup (da_cons de_int (da_cons de_int da_nil))) de_str) (da_cons (de_call0 G_Ldeep (hr.mono (by decide)) T.h_Ldeep.g T.h_Ldeep.k T.h_Ldeep.b pass0) (da_cons (DO.e (do_lmul (DO.e (do_lst (da_cons de_int da_nil))) de_int)) da_nil)))))))))))))
      (dss_one (ds_ret (de_ix (dv 8) (de_call G_Ltake (hr.mono (by decide)) T.h_Ltake.g T.h_Ltake.k T.h_Ltake.b pass0 (da_cons (dv 0) (da_cons de_int da_nil))))))) dss_nil)
      (dss_one (ds_retV 2))))), fun W ds Q hl ht => ?_⟩) (fun _ _ _ _ h => h)
  obtain ⟨b, c, cells, cs, rfl, rfl, hl5, hok, hq⟩ := ht
  generalize hN : (9999 : Int) = N
  refine tdSeq_setO (fun ds => ds = cs.map cellD) (fun Q R q => ⟨_, rfl, ?_⟩) ?_
  · simp
    exact q _ rfl
  rintro _ rfl
  refine tdSeq_cut (fun τ => ∃ (fs : List D) (z3 z5 z6 z7 z8 : Option D) (z4 : Option (List D)), fs.length ≤ 8 ∧ (∀ d ∈ fs, OneC d) ∧ τ = [some (.dat (.v (.ref b))), some (.dat (.lst (cs.map cellD))), some (.own fs), z3.map .dat, z4.map .own, z5.map .dat, z6.map .dat, z7.map .dat, z8.map .dat, none]) (fun nx hnx => ?_) ?_
  · refine tdFor_by (fun ds => ∃ v : Nat, ds = numsD 0 v ∧ v ≤ 3) (fun Q R q => ⟨_, rfl, rfl, take_i (n := 4) (by decide) (by decide) fun v a1 a2 => ⟨by omega, by omega, q _ ⟨v.toNat, rfl, by omega⟩⟩⟩) ?_
    rintro _ ⟨v, rfl, hv⟩
    refine forD_word (fun pre τ => ∃ (fs : List D) (z3 z5 z6 z7 z8 : Option D) (z4 : Option (List D)), fs.length ≤ 5 + pre.length ∧ (∀ d ∈ fs, OneC d) ∧ τ = [some (.dat (.v (.ref b))), some (.dat (.lst (cs.map cellD))), some (.own fs), z3.map .dat, z4.map .own, z5.map .dat, z6.map .dat, z7.map .dat, z8.map .dat, none]) (numsD 0 v) gdName_mono ?_ ?_ [] _ _ rfl ⟨cs.map cellD, none, none, none, none, none, none, by simpa using hl5, fun d hd => ?_, rfl⟩
    rotate_left
    · rintro τ ⟨fs, z3, z5, z6, z7, z8, z4, h1, h2, rfl⟩
      rw [numsD_length] at h1
      exact hnx _ ⟨fs, z3, z5, z6, z7, z8, z4, by omega, h2, rfl⟩
    · obtain ⟨c, hc, rfl⟩ := List.mem_map.mp hd
      exact oneC_cell (hok c hc)
    rintro pre d post τ he ⟨fs, z3, z5, z6, z7, z8, z4, h1, h2, rfl⟩ nx2 hnx2
    have pl : pre.length ≤ 2 := by
      have := congrArg List.length he
      rw [List.length_append, List.length_cons, numsD_length] at this
      omega
    refine tdSeq_setON (fun ds => ∃ gs : List Cell, ds = gs.map cellD ∧ 0 < gs.length ∧ gs.length ≤ 9 ∧ ∀ c ∈ gs, CellOk c) ?_ ?_ (fun Q R q => ?_) ?_
    · cases z3 <;> cases z4 <;> cases z5 <;> cases z6 <;> cases z7 <;> cases z8 <;> rfl
    · rintro _ ⟨gs, rfl, _⟩
      exact noL_cells gs
    · refine ⟨_, rfl, ?_⟩
      show items (.lst fs) _
      rw [items_lst]
      refine ⟨Nat.le_trans (by omega : fs.length ≤ 7) (by decide), compD_filterD listedB (fun x hx Kt Kk k1 k2 => tdTest_by (listedB x) (fun Q R q => ⟨_, rfl, rfl, x, rfl, (h2 x hx).c, q⟩) ?_) ?_⟩
      · cases hp : listedB x with
        | true => exact ⟨_, rfl, k1 hp⟩
        | false => exact k2 hp
      · obtain ⟨gs, e, g1, g2, g3⟩ := cells_kept fs
        refine ⟨by show 3 ≤ sizeLine; decide, by show 1 ≤ sizeLine; decide, Nat.le_trans (Nat.add_le_add_right (List.length_filter_le _ _) 1) (Nat.le_trans (by omega : fs.length + 1 ≤ 8) (by decide)), q _ ⟨gs, e, g1, by omega, g3⟩⟩
    rintro _ ⟨gs, rfl, g1, g9, gok⟩
    refine tdSeq_tup3P (fun x y s => ∃ c : Cell, CellOk c ∧ x = .int c.1 ∧ y = .int c.2.1 ∧ s = sD [c.2.2]) (fun Q R q => ⟨_, rfl, _, rfl, _, rfl, trivial, rfl, take_i (by simp; omega) (by simp; omega) fun v a1 a2 => ?_⟩) ?_
    · obtain ⟨dd, e1, e2⟩ := atI_some (xs := gs.map cellD) a1 (by simpa using a2)
      obtain ⟨cc, hcc, rfl⟩ := List.mem_map.mp e2
      exact ⟨_, e1, q _ _ _ ⟨cc, gok cc hcc, rfl, rfl, rfl⟩⟩
    rintro _ _ _ ⟨cc, hcc, rfl, rfl, rfl⟩
    have c6 : CPow 10 6 := by simp
    refine tdSeq_asgP (fun d => ∃ xs, d = .lst xs ∧ xs.length = 7 ∧ ∀ x ∈ xs, OneC x) (fun Q R q => ?_) ?_
    · simp
      exact q _ ⟨_, rfl, rfl, fun x hx => oneC_of (List.all_eq_true.mp (by decide +kernel) x hx)⟩
    rintro _ ⟨o1, rfl, l1, k1⟩
    refine tdSeq_asgP (fun d => ∃ xs, d = .lst xs ∧ xs.length = 14 ∧ ∀ x ∈ xs, OneC x) (fun Q R q => ?_) ?_
    · simp
      refine ⟨by omega, q _ ⟨_, rfl, by simp [l1], fun x hx => ?_⟩⟩
      rcases List.mem_append.mp hx with hx | hx
      · exact k1 x hx
      · exact oneC_of (List.all_eq_true.mp (by decide +kernel) x hx)
    rintro _ ⟨o2, rfl, l2, k2⟩
    refine tdSeq_asgP (fun d => ∃ xs, d = .lst xs ∧ xs.length = 17 ∧ ∀ x ∈ xs, OneC x) (fun Q R q => ?_) ?_
    · simp
      refine take_i (n := 3) (by decide) (by decide) fun v a1 a2 => abz_ix a1 a2 fun ch h1 h2 => ⟨by omega, q _ ⟨_, rfl, by simp [l2], fun x hx => ?_⟩⟩
      rcases List.mem_append.mp hx with hx | hx
      · exact k2 x hx
      · rcases List.mem_cons.mp hx with rfl | hx
        · exact oneC_cell (c := (cc.1, cc.2.1, ch)) ⟨hcc.x, hcc.y, h1, h2⟩
        · exact oneC_of (List.all_eq_true.mp (by decide +kernel) x hx)
    rintro _ ⟨o3, rfl, l3, k3⟩
    refine tdSeq_asgP (fun d => ∃ xs, d = .lst xs ∧ xs.length = 21 ∧ ∀ x ∈ xs, OneC x) (fun Q R q => ?_) ?_
    · simp
      refine ⟨by omega, q _ ⟨_, rfl, by simp [l3], fun x hx => ?_⟩⟩
      rcases List.mem_append.mp hx with hx | hx
      · exact k3 x hx
      · simp only [List.mem_cons, List.not_mem_nil, or_false] at hx
        rcases hx with rfl | rfl | rfl | rfl
        · exact oneC_of (by decide +kernel)
        · refine ⟨⟨⟨⟨_, rfl⟩, (fun s e => nomatch e), (fun s e => nomatch e)⟩, fun xs e => nomatch e⟩, rfl, ?_, ?_⟩
          · show (PyData.dict (toTv [])).depth ≤ 20; decide +kernel
          · show (PyData.dict (toTv [])).shown.length ≤ 6000; decide +kernel
        · refine ⟨⟨⟨⟨_, rfl⟩, (fun s e => nomatch e), (fun s e => nomatch e)⟩, fun xs e => ?_⟩, sz_of (by decide +kernel)⟩
          cases e
          exact ⟨by simp, fun x hx => arg_of (List.all_eq_true.mp (by decide +kernel) x hx)⟩
        · exact oneC_of (by decide +kernel)
    rintro _ ⟨o4, rfl, l4, k4⟩
    refine ⟨_, rfl, Nat.lt_of_le_of_lt (by omega : fs.length ≤ 7) (by decide), _, rfl, _, rfl, trivial, rfl, take_i (Int.lt_of_lt_of_le (by decide : (0 : Int) < 0 + 1) (Int.add_le_add_right (Int.natCast_nonneg _) 1)) (show ((fs.length : Nat) : Int) + 1 ≤ _ by omega) fun v a1 a2 => ⟨_, rfl, _, rfl, _, rfl, rfl, take_i (show (0 : Int) < (o4.length : Nat) by omega) (show ((o4.length : Nat) : Int) ≤ _ by omega) fun v2 b1 b2 => ?_⟩⟩
    have a2 : v < (fs.length : Nat) + 1 := a2
    obtain ⟨dd, e1, e2⟩ := atI_some (xs := o4) b1 b2
    refine ⟨dd, e1, a1, by omega, hnx2 _ ⟨fs.take v.toNat ++ [dd] ++ fs.drop v.toNat, some d, some (.int cc.1), some (.int cc.2.1), some (sD [cc.2.2]), some (.lst o4), some (gs.map cellD), ?_, fun x hx => ?_, rfl⟩⟩
    · simp; omega
    · rcases List.mem_append.mp hx with hx | hx
      · rcases List.mem_append.mp hx with hx | hx
        · exact h2 x (List.mem_of_mem_take hx)
        · rw [List.mem_singleton.mp hx]
          exact k4 _ e2
      · exact h2 x (List.mem_of_mem_drop hx)
  rintro _ ⟨fs, z3, z5, z6, z7, z8, z4, hf8, fok, rfl⟩
  refine tdSeq_if1P (fun _ => True) (fun Q R q => ⟨_, rfl, rfl, take_i (n := 8) (by decide) (by decide) fun v a1 a2 => fEq_i (Q := fun d => onBl d Q) (q _ trivial)⟩) (fun _ => ?_) (fun _ => ⟨_, rfl, hq _ (thC_lst fok hf8)⟩)
  · refine tdSeq_asgP (fun d => ∃ xs, d = .lst xs ∧ xs.length = 9 ∧ ∀ x ∈ xs, ThingC x) (fun Q R q => ?_) ?_
    · simp
      refine ⟨rfl, ⟨by omega, by omega⟩, by omega, q _ ⟨_, rfl, rfl, fun x hx => ?_⟩⟩
      have dt : ∀ gs : List (List Key × D), shTv gs = true → (PyData.dict (toTv gs)).depth ≤ 60 → (PyData.dict (toTv gs)).shown.length ≤ 4000000 → ThingC (.dt ⟨P, w⟩ gs) := fun gs h1 h2 h3 => thC_no ⟨⟨_, rfl⟩, (fun s e => nomatch e), (fun s e => nomatch e)⟩ ⟨h1, h2, h3⟩ (fun xs e => nomatch e)
      have az : ∀ d, argzB d = true → (∀ xs, d ≠ .lst xs) → ThingC d := fun d h h2 => thC_no (argz_of h).a ((argz_of h).z.mono (by omega) (by omega)) h2
      simp only [List.mem_cons, List.not_mem_nil, or_false] at hx
      rcases hx with rfl | rfl | rfl | rfl | rfl | rfl | rfl | rfl | rfl
      · exact az _ (by decide +kernel) (fun xs e => nomatch e)
      · exact thC_no ⟨⟨_, rfl⟩, (fun s e => nomatch e), (fun s e => nomatch e)⟩ ((Sz.tup (fun d hd => (fok d hd).z) hf8).mono (by omega) (by omega)) (fun xs e => nomatch e)
      · exact dt _ rfl (by decide +kernel) (by decide +kernel)
      · exact az _ (by decide +kernel) (fun xs e => nomatch e)
      · exact az _ (by decide +kernel) (fun xs e => nomatch e)
      · exact az _ (by decide +kernel) (fun xs e => nomatch e)
      · exact dt _ (by decide +kernel) (by decide +kernel) (by decide +kernel)
      · exact thC_deep
      · exact thC_rep (by omega)
    rintro _ ⟨o1, rfl, l1, k1⟩
    refine ⟨_, rfl, _, rfl, rfl, take_i (n := 9) (by decide) (by decide) fun v a1 a2 => ?_⟩
    obtain ⟨dd, e1, e2⟩ := atI_some (xs := o1) a1 (by rw [l1]; exact a2)
    exact ⟨_, e1, hq _ (k1 _ e2)⟩
def t_Lrows : TF := fun W ds Q _ => ∃ (b c : Addr) (cells : List Int), W = bagW b c cells ∧ ds = [.v (.ref b)] ∧ ∀ rows n, GoodRows (rows, n) SIG → Q (rowsD rows)
theorem ok_Lrows (T : Txt K mg ad fd) : FnG P w K mg base CX0 3 (ad 49) (fd 49) p_Lrows (spD K 1 t_Lrows) := by
  have G_Ltake := ok_Ltake (P := P) (w := w) (base := base) T
  have G_Lsigns := ok_Lsigns (P := P) (w := w) (base := base) T
  have G_Ldrawn_sign := ok_Ldrawn_sign (P := P) (w := w) (base := base) T
  refine okD T.h_Lrows.F sc_Lrows (fun cdv A outer s H E hr => ⟨_, _, fun W => (dss_cons (ds_set (i := 1) sc_Lrows.nd (de_call G_Lsigns (hr.mono (by decide)) T.h_Lsigns.g T.h_Lsigns.k T.h_Lsigns.b pass0 (da_cons (de_add de_int (de_call G_Ltake (hr.mono (by decide)) T.h_Ltake.g T.h_Ltake.k T.h_Ltake.b pass0 (da_cons (dv 0) (da_cons de_int da_nil)))) da_nil)))
      (dss_cons (ds_set (i := 2) sc_Lrows.nd (de_ix (DO.e (do_lst (da_cons (de_add de_int (de_call G_Ltake (hr.mono (by decide)) T.h_Ltake.g T.h_Ltake.k T.h_Ltake.b pass0 (da_cons (dv 0) (da_cons de_int da_nil)))) (da_cons de_int da_nil)))) (de_toint T.m_int (da_cons (de_eq hr.units (de_call G_Ltake (hr.mono (by decide)) T.h_Ltake.g T.h_Ltake.k T.h_Ltake.b pass0 (da_cons (dv 0) (da_cons de_int da_nil))) de_int) da_nil))))
      (dss_cons (ds_set (i := 3) sc_Lrows.nd (de_ix (DO.e (do_lst (da_cons (de_add de_int (de_call G_Ltake (hr.mono (by decide)) T.h_Ltake.g T.h_Ltake.k T.h_Ltake.b pass0 (da_cons (dv 0) (da_cons de_int da_nil)))) (da_cons de_int da_nil)))) (de_toint T.m_int (da_cons (de_eq hr.units (de_call G_Ltake (hr.mono (by decide)) T.h_Ltake.g T.h_Ltake.k T.h_Ltake.b pass0 (da_cons (dv 0) (da_cons de_int da_nil))) de_int) da_nil))))
      (dss_one (ds_ret (DO.e (do_lc rfl sc_Lrows.nd (di_range1 rfl T.m_range (da_cons (dv 3) da_nil)) (blkOk_by (own := [("_law_y", 4)]) (N := n_Lrows) (by kernel_rfl)) (fun _ _ _ _ _ => (dg_name (i := 4) sc_Lrows.nd)) (fun _ _ _ _ _ => dts_nil) (fun _ _ _ _ _ => (de_join de_str (DO.e (do_lc rfl sc_Lrows.nd (di_range1 rfl T.m_range (da_cons (dv 2) da_nil)) (blkOk_by (own := [("_law_x", 5)]) (N := n_Lrows) (by kernel_rfl)) (fun _ _ _ _ _ => (dg_name (i := 5) sc_Lrows.nd)) (fun _ _ _ _ _ => dts_nil) (fun _ _ _ _ _ => (de_call G_Ldrawn_sign (hr.mono (by decide)) T.h_Ldrawn_sign.g T.h_Ldrawn_sign.k T.h_Ldrawn_sign.b pass0 (da_cons (dv 0) (da_cons (dv 1) da_nil))))))))))))))), fun W ds Q hl ht => ?_⟩) (fun _ _ _ _ h => h)
  obtain ⟨b, c, cells, rfl, rfl, hq⟩ := ht
  refine tdSeq_asgP (fun d => ∃ n : Nat, d = sD (signsN n) ∧ 2 ≤ n ∧ n ≤ 27) (fun Q R q => ⟨_, rfl, rfl, take_i (n := 26) (by decide) (by decide) fun v a1 a2 => ⟨rfl, (2 + v).toNat, by show [D.int (2 + v)] = _; rw [Int.toNat_of_nonneg (by omega)], by omega, q _ ⟨_, rfl, by omega, by omega⟩⟩⟩) ?_
  rintro _ ⟨n, rfl, n2, n27⟩
  have len : ∀ (Q : D → Prop) (R : Exc → Prop) (v v3 : Int), 0 ≤ v → v < 5 → (∀ d, (∃ k : Nat, d = .int k ∧ 1 ≤ k ∧ k ≤ 32) → Q d) → ∃ d, atI [D.int (1 + v), D.int 32] (if decide (v3 = 0) = true then 1 else 0) = some d ∧ Q d := fun Q R v v3 a1 a2 q => by
    by_cases h : v3 = 0
    · rw [decide_eq_true h]
      exact ⟨_, atI_of (k := 1) rfl, q _ ⟨32, rfl, by decide, by decide⟩⟩
    · rw [decide_eq_false h]
      exact ⟨_, atI_zero _ _, q _ ⟨(1 + v).toNat, congrArg D.int (by omega), by omega, by omega⟩⟩
  refine tdSeq_asgP (fun d => ∃ k : Nat, d = .int k ∧ 1 ≤ k ∧ k ≤ 32) (fun Q R q => ⟨_, rfl, rfl, take_i (n := 5) (by decide) (by decide) fun v a1 a2 => ⟨by show 2 ≤ sizeLine; decide, _, rfl, rfl, take_i (n := 6) (by decide) (by decide) fun v3 d1 d2 => by
    simp only [tdC, tdNil]
    exact fEq_i (len Q R v v3 a1 a2 q)⟩⟩) ?_
  rintro _ ⟨wd, rfl, w1, w32⟩
  refine tdSeq_asgP (fun d => ∃ k : Nat, d = .int k ∧ 1 ≤ k ∧ k ≤ 32) (fun Q R q => ⟨_, rfl, rfl, take_i (n := 5) (by decide) (by decide) fun v a1 a2 => ⟨by show 2 ≤ sizeLine; decide, _, rfl, rfl, take_i (n := 6) (by decide) (by decide) fun v3 d1 d2 => by
    simp only [tdC, tdNil]
    exact fEq_i (len Q R v v3 a1 a2 q)⟩⟩) ?_
  rintro _ ⟨hg, rfl, g1, g32⟩
  have sl : (signsN n).length = n := by
    unfold signsN
    rw [List.length_take]
    exact Nat.min_eq_left n27
  have sne : signsN n ≠ [] := fun e => by rw [e] at sl; simp at sl; omega
  have sin : ∀ x ∈ signsN n, x ∈ SIG := fun x hx => List.mem_of_mem_take hx
  simp
  refine ⟨by omega, by omega, ?_⟩
  refine compD_all (fun e => ∃ row : List Nat, e = sD row ∧ row.length = wd ∧ ∀ c ∈ row, c ∈ SIG) (fun d hd Kk hk => ?_) (fun es hl hp => ?_)
  · simp [wipeT]
    refine ⟨by omega, by omega, ?_⟩
    refine compD_all (fun e => ∃ c : Nat, e = sD [c] ∧ c ∈ SIG) (fun d hd K2 hk2 => ?_) (fun es hl hp => ?_)
    · refine ⟨_, rfl, _, rfl, rfl, b, c, cells, signsN n, rfl, rfl, sne, by omega, sin, fun x hx => hk2 _ ⟨x, rfl, hx⟩⟩
    · obtain ⟨l, rfl, pl⟩ := all_map (fun c => sD [c]) (fun c => c ∈ SIG) hp
      have hlen : l.length = wd := by simpa using hl
      refine ⟨l.map fun c => mk [c], by simp [Function.comp_def], ?_, ?_⟩
      · rw [sum_ones, empty_eq]; simp; omega
      · rw [empty_eq, join_ones]
        simp
        exact hk _ ⟨l, rfl, hlen, pl⟩
  · obtain ⟨rows, rfl, pr⟩ := all_map sD (fun row => row.length = wd ∧ ∀ c ∈ row, c ∈ SIG) hp
    have hlen : rows.length = hg := by simpa using hl
    have rr : Rect rows wd := ⟨fun r hr => (pr r hr).1, by omega, by omega, by omega, by omega⟩
    exact hq rows wd ⟨rr, w32, by show rows.length ≤ 32; omega, fun r hr => (pr r hr).2⟩
theorem lit_a1 : Str.ofString "a" = mk [97] := by decide +kernel
theorem lit_us : Str.ofString "_" = mk [95] := by decide +kernel
theorem lit_A1 : Str.ofString "A" = mk [65] := by decide +kernel
theorem lit_nl : Str.ofString "\n" = mk [10] := by decide +kernel
theorem lit_sl : Str.ofString "/" = mk [47] := by decide +kernel
theorem lit_ub : Str.ofString "_{" = mk [95, 123] := by decide +kernel
theorem thP_deep : ThingP (deepD 49) := by
  refine ⟨⟨(deep_th (by omega)).1, fun xs e => ?_⟩, (deep_th (k := 49) (by omega)).2.2.mono (by omega) (by omega)⟩
  have e : D.lst [deepD 48] = .lst xs := e
  cases e
  refine ⟨by simp, fun x hx => by rw [List.mem_singleton.mp hx]; exact ⟨_, rfl⟩, fun s hs => ?_⟩
  cases List.mem_singleton.mp hs
/-- what may stand among rows -/
structure OneR (d : D) : Prop where
  t : ∃ t, tyD d = some t
  l : ∀ s, d = .v (.str s) → s.length ≤ 100
  z : Sz 2000 10 d
def oneRB (d : D) : Bool := (tyD d).isSome && ((match d with | .v (.str s) => decide (s.length ≤ 100) | _ => true) && szB 2000 10 d)
theorem oneR_of {d : D} (h : oneRB d = true) : OneR d := by
  unfold oneRB at h
  rw [Bool.and_eq_true, Bool.and_eq_true] at h
  obtain ⟨h1, h2, h3⟩ := h
  refine ⟨Option.isSome_iff_exists.mp h1, fun s e => ?_, sz_of h3⟩
  subst e
  exact of_decide_eq_true h2
theorem oneR_str {l : List Nat} (hl : l.length ≤ 70) (hc : ∀ c ∈ l, c < 0x110000) : OneR (sD l) := by
  refine ⟨⟨_, rfl⟩, fun s e => ?_, (Sz.str hc).mono (by omega) (by omega)⟩
  cases e
  rw [mk_length]
  omega
theorem thP_lst {fs : List D} (h : ∀ d ∈ fs, OneR d) (hl : fs.length ≤ 33) : ThingP (.lst fs) := by
  refine ⟨⟨⟨⟨_, rfl⟩, (fun s e => nomatch e), (fun s e => nomatch e)⟩, fun xs e => ?_⟩, (Sz.lst (fun d hd => (h d hd).z) hl).mono (by omega) (by omega)⟩
  cases e
  exact ⟨Nat.le_trans hl (by decide), fun x hx => (h x hx).t, fun s hs => Nat.le_trans ((h _ hs).l s rfl) (by decide)⟩
theorem thP_no {d : D} (a : Arg d) (z : Sd d) (h : ∀ xs, d ≠ .lst xs) : ThingP d := ⟨⟨a, fun xs e => absurd e (h xs)⟩, z⟩
def t_Lbent_rows : TF := fun W ds Q _ => ∃ (b c : Addr) (cells : List Int) (rows : Rows) (n : Nat), W = bagW b c cells ∧ ds = [.v (.ref b), rowsD rows] ∧ GoodRows (rows, n) SIG ∧ ∀ d, ThingP d → Q d
theorem ok_Lbent_rows (T : Txt K mg ad fd) : FnG P w K mg base CX0 2 (ad 50) (fd 50) p_Lbent_rows (spD K 2 t_Lbent_rows) := by
  have G_Ltake := ok_Ltake (P := P) (w := w) (base := base) T
  have G_Ldeep := ok_Ldeep (P := P) (w := w) (base := base) T
  refine okD T.h_Lbent_rows.F sc_Lbent_rows (fun cdv A outer s H E hr => ⟨_, _, fun W => (dss_cons (ds_setO (i := 2) sc_Lbent_rows.nd (do_list T.m_list (da_cons (dv 1) da_nil)))
      (dss_cons (ds_for PassesOwn.never rfl (di_range1 rfl T.m_range (da_cons (de_call G_Ltake (hr.mono (by decide)) T.h_Ltake.g T.h_Ltake.k T.h_Ltake.b pass0 (da_cons (dv 0) (da_cons de_int da_nil))) da_nil)) (dg_name (i := 3) sc_Lbent_rows.nd) (dss_cons (ds_asg (de_tup (da_cons (de_ix (dv 1) de_int) (da_cons (de_call G_Ltake (hr.mono (by decide)) T.h_Ltake.g T.h_Ltake.k T.h_Ltake.b pass0 (da_cons (dv 0) (da_cons (de_len T.m_len (da_cons (de_ix (dv 1) de_int) da_nil)) da_nil))) da_nil))) (dg_tup rfl (dgs_cons (dg_name (i := 4) sc_Lbent_rows.nd) (dgs_cons (dg_name (i := 5) sc_Lbent_rows.nd) dgs_nil))))
      (dss_cons (ds_set (i := 6) sc_Lbent_rows.nd (DO.e (do_lst (da_cons de_str (da_cons (de_add (dv 4) de_str) (da_cons (de_sl (dv 4) (dp_some de_int) dp_none) (da_cons de_non (da_cons de_int (da_cons (DO.e (do_lst (da_cons (dv 4) da_nil))) (da_cons (de_add (de_sl (dv 4) dp_none (dp_some (de_neg de_int))) de_str) (da_cons (de_smul de_str (de_len T.m_len (da_cons (dv 4) da_nil))) (da_cons (de_add (de_sl (dv 4) dp_none (dp_some (de_neg de_int))) de_str) (da_cons (de_tup (da_cons (dv 4) da_nil)) da_nil)))))))))))))
      (dss_cons (ds_set (i := 6) sc_Lbent_rows.nd (DO.e (do_cat (dv 6) (DO.e (do_lc rfl sc_Lbent_rows.nd (di_any de_str) (blkOk_by (own := [("_law_sign", 8)]) (N := n_Lbent_rows) (by kernel_rfl)) (fun _ _ _ _ _ => (dg_name (i := 8) sc_Lbent_rows.nd)) (fun _ _ _ _ _ => dts_nil) (fun _ _ _ _ _ => (de_add (de_add (de_sl (dv 4) dp_none (dp_some (dv 5))) (dv 8)) (de_sl (dv 4) (dp_some (de_add (dv 5) de_int)) dp_none))))))))
      (dss_one (ds_setI 2 (de_ix (dv 6) (de_call G_Ltake (hr.mono (by decide)) T.h_Ltake.g T.h_Ltake.k T.h_Ltake.b pass0 (da_cons (dv 0) (da_cons de_int da_nil)))) (de_call G_Ltake (hr.mono (by decide)) T.h_Ltake.g T.h_Ltake.k T.h_Ltake.b pass0 (da_cons (dv 0) (da_cons (de_frzE (de_len T.m_len (da_cons (dv 2) da_nil))) da_nil)))))))))
      (dss_cons (ds_set (i := 7) sc_Lbent_rows.nd (de_call G_Ltake (hr.mono (by decide)) T.h_Ltake.g T.h_Ltake.k T.h_Ltake.b pass0 (da_cons (dv 0) (da_cons de_int da_nil))))
      (dss_cons (ds_if (dt_eq hr.units (dv 7) de_int) (dss_cons (DS.freeze (ds_set (i := 6) sc_Lbent_rows.nd (DO.e (do_lst (da_cons de_non (da_cons (de_tuple T.m_tuple (da_cons (dv 2) da_nil)) (da_cons (DO.e (do_lst da_nil)) (da_cons (de_join de_str (dv 1)) (da_cons (DX.dat (dx_newT ⟨P, w⟩)) (da_cons de_bl (da_cons (de_call0 G_Ldeep (hr.mono (by decide)) T.h_Ldeep.g T.h_Ldeep.k T.h_Ldeep.b pass0) (da_cons (DO.e (do_lmul (DO.e (do_lst (da_cons (de_ix (dv 1) de_int) da_nil))) de_int)) da_nil))))))))))))
      (dss_one (ds_ret (de_ix (dv 6) (de_call G_Ltake (hr.mono (by decide)) T.h_Ltake.g T.h_Ltake.k T.h_Ltake.b pass0 (da_cons (dv 0) (da_cons de_int da_nil))))))) dss_nil)
      (dss_cons (ds_if (dt_eq hr.units (dv 7) de_int) (dss_one (ds_ret (DO.e (do_lc rfl sc_Lbent_rows.nd (di_any (dv 1)) (blkOk_by (own := [("_law_row", 4)]) (N := n_Lbent_rows) (by kernel_rfl)) (fun _ _ _ _ _ => (dg_name (i := 4) sc_Lbent_rows.nd)) (fun _ _ _ _ _ => dts_nil) (fun _ _ _ _ _ => (de_add (dv 4) (de_smul de_str (de_sub de_int (de_len T.m_len (da_cons (dv 4) da_nil)))))))))) dss_nil)
      (dss_cons (ds_if (dt_eq hr.units (dv 7) de_int) (dss_one (ds_ret (DO.e (do_cat (dv 2) (DO.e (do_lmul (DO.e (do_lst (da_cons (de_ix (dv 1) de_int) da_nil))) (de_sub de_int (de_len T.m_len (da_cons (dv 2) da_nil))))))))) dss_nil)
      (dss_one (ds_retV 2)))))))), fun W ds Q hl ht => ?_⟩) (fun _ _ _ _ h => h)
  obtain ⟨b, c, cells, rows, n, rfl, rfl, g, hq⟩ := ht
  generalize hN : (9999 : Int) = N
  have hn := g.n32
  have hh := g.h32
  simp only at hn hh
  obtain ⟨r0, rest, e0⟩ : ∃ r0 rest, rows = r0 :: rest := by
    cases rows with
    | nil => exact absurd g.rect.ne (by simp)
    | cons a b => exact ⟨a, b, rfl⟩
  have r0n : r0.length = n := g.rect.len r0 (by rw [e0]; exact List.mem_cons_self)
  have r0c : ∀ c ∈ r0, c < 0x110000 := fun c hc => sig_small c (g.of r0 (by rw [e0]; exact List.mem_cons_self) c hc)
  have a0 : atI (rows.map sD) 0 = some (sD r0) := by rw [e0]; exact atI_zero _ _
  have n1 : 1 ≤ n := g.rect.n1
  have rowR : ∀ r ∈ rows, OneR (sD r) := fun r hr => oneR_str (by have := g.rect.len r hr; simp only at this; omega) fun c hc => sig_small c (g.of r hr c hc)
  refine tdSeq_setO (fun ds => ds = rows.map sD) (fun Q R q => ⟨_, rfl, ?_⟩) ?_
  · simp
    exact q _ rfl
  rintro _ rfl
  refine tdSeq_cut (fun τ => ∃ (fs : List D) (z3 z4 z5 z6 z7 z8 : Option SD), fs.length = rows.length ∧ (∀ d ∈ fs, OneR d) ∧ τ = [some (.dat (.v (.ref b))), some (.dat (rowsD rows)), some (.own fs), z3, z4, z5, z6, z7, z8]) (fun nx hnx => ?_) ?_
  · refine tdFor_by (fun ds => ∃ v : Nat, ds = numsD 0 v ∧ v ≤ 2) (fun Q R q => ⟨_, rfl, rfl, take_i (n := 3) (by decide) (by decide) fun v a1 a2 => ⟨by omega, by omega, q _ ⟨v.toNat, rfl, by omega⟩⟩⟩) ?_
    rintro _ ⟨v, rfl, hv⟩
    refine forD_word (fun pre τ => ∃ (fs : List D) (z3 z4 z5 z6 z7 z8 : Option SD), fs.length = rows.length ∧ (∀ d ∈ fs, OneR d) ∧ τ = [some (.dat (.v (.ref b))), some (.dat (rowsD rows)), some (.own fs), z3, z4, z5, z6, z7, z8]) (numsD 0 v) gdName_mono ?_ ?_ [] _ _ rfl ⟨rows.map sD, _, _, _, _, _, _, by simp, fun d hd => ?_, rfl⟩
    rotate_left
    · rintro τ ⟨fs, z3, z4, z5, z6, z7, z8, h1, h2, rfl⟩
      exact hnx _ ⟨fs, z3, z4, z5, z6, z7, z8, h1, h2, rfl⟩
    · obtain ⟨r, hr, rfl⟩ := List.mem_map.mp hd
      exact rowR r hr
    rintro pre d post τ he ⟨fs, z3, z4, z5, z6, z7, z8, h1, h2, rfl⟩ nx2 hnx2
    refine tdSeq_tup2P (fun x y => ∃ v : Nat, x = sD r0 ∧ y = .int v ∧ v < r0.length) (fun Q R q => ⟨_, rfl, _, a0, _, rfl, _, rfl, _, a0, by show (mk r0).length ≤ sizeLine; rw [mk_length]; exact Nat.le_trans (by omega : r0.length ≤ 32) (by decide), rfl, take_i (by simp; omega) (by simp; omega) fun v a1 a2 => ⟨by show 2 ≤ sizeLine; decide, q _ _ ⟨v.toNat, rfl, congrArg D.int (by omega), by rw [mk_length] at a2; omega⟩⟩⟩) ?_
    rintro _ _ ⟨v, rfl, rfl, hv2⟩
    refine tdSeq_asgP (fun d => ∃ xs, d = .lst xs ∧ xs.length = 10 ∧ ∀ x ∈ xs, OneR x) (fun Q R q => ?_) ?_
    · simp only [lit_a1, lit_us, lit_A1, lit_nl]
      simp
      have c1 := cutN_len (l := r0) (lo := none) (hi := some (-1))
      have c2 := cutN_len (l := r0) (lo := some 1) (hi := none)
      repeat refine And.intro (by omega) ?_
      refine q _ ⟨_, rfl, rfl, fun x hx => ?_⟩
      have zr : Sz 400 1 (sD r0) := (Sz.str r0c).mono (by omega) (by omega)
      simp only [List.mem_cons, List.not_mem_nil, or_false] at hx
      rcases hx with rfl | rfl | rfl | rfl | rfl | rfl | rfl | rfl | rfl | rfl
      · exact oneR_of (by decide +kernel)
      · rw [app_mk]
        refine oneR_str (l := r0 ++ [97]) (by simp; omega) fun c hc => ?_
        rcases List.mem_append.mp hc with hc | hc
        · exact r0c c hc
        · rw [List.mem_singleton.mp hc]; decide
      · exact oneR_str (by omega) fun c hc => r0c c (cutN_mem hc)
      · exact oneR_of (by decide +kernel)
      · exact oneR_of (by decide +kernel)
      · exact ⟨⟨_, rfl⟩, (fun s e => nomatch e), (Sz.lst (m := 1) (fun d hd => by rw [List.mem_singleton.mp hd]; exact zr) (by simp)).mono (by omega) (by omega)⟩
      · rw [app_mk]
        refine oneR_str (by simp; omega) fun c hc => ?_
        rcases List.mem_append.mp hc with hc | hc
        · exact r0c c (cutN_mem hc)
        · rw [List.mem_singleton.mp hc]; decide
      · refine oneR_str (by simp; omega) fun c hc => ?_
        rw [List.eq_of_mem_replicate hc]; decide
      · rw [app_mk]
        refine oneR_str (by simp; omega) fun c hc => ?_
        rcases List.mem_append.mp hc with hc | hc
        · exact r0c c (cutN_mem hc)
        · rw [List.mem_singleton.mp hc]; decide
      · exact ⟨⟨_, rfl⟩, (fun s e => nomatch e), (Sz.tup (m := 1) (fun d hd => by rw [List.mem_singleton.mp hd]; exact zr) (by simp)).mono (by omega) (by omega)⟩
    rintro _ ⟨o1, rfl, l1, k1⟩
    refine tdSeq_asgP (fun d => ∃ xs, d = .lst xs ∧ xs.length = 12 ∧ ∀ x ∈ xs, OneR x) (fun Q R q => ?_) ?_
    · refine ⟨_, rfl, ?_⟩
      dsimp only [tdLc, idAny, tdC]
      rw [lit_ub, items_str, signs_mk]
      refine ⟨by decide, compD_mapL (fun c : Nat => sD [c]) (fun c => sD (cutN r0 none (some (v : Int)) ++ [c] ++ cutN r0 (some ((v : Int) + 1)) none)) (fun c hc Kk hk => ?_) ⟨by simp; omega, q _ ⟨_, rfl, by simp [l1], fun x hx => ?_⟩⟩⟩
      · have c1 := cutN_len (l := r0) (lo := none) (hi := some (v : Int))
        have c2 := cutN_len (l := r0) (lo := some ((v : Int) + 1)) (hi := none)
        simp
        rw [app_mk, app_mk, mk_length, List.length_append, List.length_singleton]
        exact ⟨by omega, by omega, by omega, by omega, hk⟩
      · rcases List.mem_append.mp hx with hx | hx
        · exact k1 x hx
        · obtain ⟨c, hc, rfl⟩ := List.mem_map.mp hx
          have c1 := cutN_len (l := r0) (lo := none) (hi := some (v : Int))
          have c2 := cutN_len (l := r0) (lo := some ((v : Int) + 1)) (hi := none)
          refine oneR_str (by simp; omega) fun x hx => ?_
          rcases List.mem_append.mp hx with hx | hx
          · rcases List.mem_append.mp hx with hx | hx
            · exact r0c x (cutN_mem hx)
            · rw [List.mem_singleton.mp hx]
              simp only [List.mem_cons, List.not_mem_nil, or_false] at hc
              rcases hc with rfl | rfl <;> decide
          · exact r0c x (cutN_mem hx)
    rintro _ ⟨o2, rfl, l2, k2⟩
    simp
    refine take_i (n := 12) (by decide) (by decide) fun w1 a1 a2 => ?_
    refine pickP (P := OneR) a1 (by rw [l2]; exact a2) k2 fun x hx => ?_
    refine take_i (by have := g.rect.ne; simp only at this; omega) (by omega) fun v3 b1 b2 => ?_
    obtain ⟨j, hj⟩ : ∃ j, ixN fs.length v3 = some j := ⟨v3.toNat, by unfold ixN; rw [if_pos b1, if_pos b2]⟩
    refine ⟨j, hj, hnx2 _ ⟨fs.set j x, _, _, _, _, _, _, by simpa using h1, fun y hy => ?_, rfl⟩⟩
    rcases List.mem_or_eq_of_mem_set hy with hy | rfl
    · exact h2 y hy
    · exact hx
  rintro _ ⟨fs, z3, z4, z5, z6, z7, z8, hf, fok, rfl⟩
  refine tdSeq_asgP (fun d => ∃ m : Int, d = .int m) (fun Q R q => ⟨_, rfl, rfl, take_i (n := 12) (by decide) (by decide) fun v a1 a2 => q _ ⟨v, rfl⟩⟩) ?_
  rintro _ ⟨m, rfl⟩
  refine tdSeq_if1P (fun _ => True) (fun Q R q => ⟨_, rfl, fEq_i (Q := fun d => onBl d Q) (q _ trivial)⟩) (fun _ => ?_) (fun _ => ?_)
  · refine tdSeq_asgP (fun d => ∃ xs, d = .lst xs ∧ xs.length = 8 ∧ ∀ x ∈ xs, ThingP x) (fun Q R q => ?_) ?_
    · simp only [lit_sl]
      simp
      have sl : ∀ (k : Nat) (l : Rows), (∀ r ∈ l, r.length ≤ k) → (l.map List.length).sum ≤ l.length * k := fun k l h => by
        induction l with
        | nil => simp
        | cons a l ih =>
          have h1 := h a List.mem_cons_self
          have h2 := ih fun r hr => h r (List.mem_cons_of_mem _ hr)
          rw [List.map_cons, List.sum_cons, List.length_cons, Nat.add_mul]
          omega
      have hs := sl 32 rows (fun r hr => by have := g.rect.len r hr; simp only at this; omega)
      refine ⟨rows.map mk, by rw [List.map_map]; rfl, ?_, rfl, sD r0, a0, ⟨by omega, by omega⟩, by omega, q _ ⟨_, rfl, rfl, fun x hx => ?_⟩⟩
      · rw [List.map_map, List.length_map, show ((fun x : Str => x.length) ∘ mk) = List.length from funext fun l => mk_length l]
        have : rows.length * 32 ≤ 32 * 32 := Nat.mul_le_mul_right _ hh
        omega
      have dt : ∀ gs : List (List Key × D), shTv gs = true → (PyData.dict (toTv gs)).depth ≤ 60 → (PyData.dict (toTv gs)).shown.length ≤ 4000000 → ThingP (.dt ⟨P, w⟩ gs) := fun gs h1 h2 h3 => thP_no ⟨⟨_, rfl⟩, (fun s e => nomatch e), (fun s e => nomatch e)⟩ ⟨h1, h2, h3⟩ (fun xs e => nomatch e)
      have az : ∀ d, argzB d = true → (∀ xs, d ≠ .lst xs) → ThingP d := fun d h h2 => thP_no (argz_of h).a ((argz_of h).z.mono (by omega) (by omega)) h2
      simp only [List.mem_cons, List.not_mem_nil, or_false] at hx
      rcases hx with rfl | rfl | rfl | rfl | rfl | rfl | rfl | rfl
      · exact az _ (by decide +kernel) (fun xs e => nomatch e)
      · exact thP_no ⟨⟨_, rfl⟩, (fun s e => nomatch e), (fun s e => nomatch e)⟩ ((Sz.tup (m := 32) (fun d hd => (fok d hd).z) (by omega)).mono (by omega) (by omega)) (fun xs e => nomatch e)
      · exact thP_lst (fs := []) (fun _ h => nomatch h) (by simp)
      · rw [joinS_mk]
        have jl := joinL_len 47 rows
        have jm : ∀ {ws : Rows} {c : Nat}, c ∈ TL.joinL [47] ws → c = 47 ∨ ∃ w ∈ ws, c ∈ w := fun {ws} => by
          induction ws with
          | nil => intro c h; simp [TL.joinL] at h
          | cons w ws ih =>
            intro c h
            cases ws with
            | nil => exact .inr ⟨w, List.mem_cons_self, by simpa [TL.joinL] using h⟩
            | cons v ws =>
              have h : c ∈ w ++ ([47] ++ TL.joinL [47] (v :: ws)) := h
              rcases List.mem_append.mp h with h | h
              · exact .inr ⟨w, List.mem_cons_self, h⟩
              · rcases List.mem_append.mp h with h | h
                · exact .inl (List.mem_singleton.mp h)
                · rcases ih h with h | ⟨u, hu, h⟩
                  · exact .inl h
                  · exact .inr ⟨u, List.mem_cons_of_mem _ hu, h⟩
        have jc : ∀ c ∈ TL.joinL [47] rows, c < 0x110000 := fun c hc => by
          rcases jm hc with rfl | ⟨r, hr, hc⟩
          · decide
          · exact sig_small c (g.of r hr c hc)
        have : rows.length * 32 ≤ 32 * 32 := Nat.mul_le_mul_right _ hh
        refine thP_no ⟨⟨_, rfl⟩, (fun s e => ?_), (fun s e => ?_)⟩ ((Sz.str jc).mono (by omega) (by omega)) (fun xs e => nomatch e)
        · cases e
          rw [mk_length]; omega
        · cases e
          simpa using jc
      · exact dt _ rfl (by decide +kernel) (by decide +kernel)
      · exact az _ (by decide +kernel) (fun xs e => nomatch e)
      · exact thP_deep
      · refine ⟨⟨⟨⟨_, rfl⟩, (fun s e => nomatch e), (fun s e => nomatch e)⟩, fun xs e => ?_⟩, (Sz.lst (n := 330) (k := 1) (m := 9999) (fun d hd => ?_) (by simp; omega)).mono (by omega) (by omega)⟩
        · cases e
          refine ⟨by simp; omega, fun x hx => ?_, fun s hs => ?_⟩
          · rw [(List.mem_replicate.mp hx).2]; exact ⟨_, rfl⟩
          · have := (List.mem_replicate.mp hs).2
            cases this
            rw [mk_length]; omega
        · rw [(List.mem_replicate.mp hd).2]
          exact (Sz.str r0c).mono (by omega) (by omega)
    rintro _ ⟨o1, rfl, l1, k1⟩
    refine ⟨_, rfl, _, rfl, rfl, take_i (n := 8) (by decide) (by decide) fun v a1 a2 => ?_⟩
    obtain ⟨dd, e1, e2⟩ := atI_some (xs := o1) a1 (by rw [l1]; exact a2)
    exact ⟨_, e1, hq _ (k1 _ e2)⟩
  refine tdSeq_if1P (fun _ => True) (fun Q R q => ⟨_, rfl, fEq_i (Q := fun d => onBl d Q) (q _ trivial)⟩) (fun _ => ?_) (fun _ => ?_)
  · refine ⟨_, rfl, ?_⟩
    show items (.lst (rows.map sD)) _
    rw [items_lst]
    refine ⟨by rw [List.length_map]; exact Nat.le_trans hh (by decide), compD_mapL (h := fun r => sD (r ++ List.replicate (33 - r.length) 97)) sD (fun r hr Kk hk => ?_) ?_⟩
    · have hl := g.rect.len r hr
      simp only at hl
      refine ⟨_, rfl, _, rfl, by show (mk r).length ≤ sizeLine; rw [mk_length]; exact Nat.le_trans (by omega : r.length ≤ 32) (by decide), ?_⟩
      simp only [lit_a1]
      simp
      have e : ((33 : Int) - r.length).toNat = 33 - r.length := by omega
      refine ⟨⟨by omega, by omega⟩, by omega, ?_⟩
      rw [app_mk]
      exact ⟨by omega, hk⟩
    · refine hq _ (thP_lst (fun d hd => ?_) (by simp; omega))
      obtain ⟨r, hr, rfl⟩ := List.mem_map.mp hd
      have hl := g.rect.len r hr
      simp only at hl
      refine oneR_str (by simp; omega) fun c hc => ?_
      rcases List.mem_append.mp hc with hc | hc
      · exact sig_small c (g.of r hr c hc)
      · rw [List.eq_of_mem_replicate hc]; decide
  refine tdSeq_if1P (fun _ => True) (fun Q R q => ⟨_, rfl, fEq_i (Q := fun d => onBl d Q) (q _ trivial)⟩) (fun _ => ?_) (fun _ => ⟨_, rfl, hq _ (thP_lst fok (by omega))⟩)
  simp
  refine ⟨_, a0, ⟨by omega, by omega⟩, by omega, by omega, hq _ (thP_lst (fun d hd => ?_) (by simp; omega))⟩
  rcases List.mem_append.mp hd with hd | hd
  · exact fok d hd
  · rw [(List.mem_replicate.mp hd).2]
    exact rowR r0 (by rw [e0]; exact List.mem_cons_self)
/-- what is handed in at a door -/
def ThingsOk (k : Nat) (xs : List D) : Prop := (k = 0 ∧ ∃ d e, xs = [d, e] ∧ ThingC d ∧ Arg e) ∨ (k = 1 ∧ ∃ d e, xs = [d, e] ∧ ThingP d ∧ Arg e) ∨ (k = 2 ∧ ∃ d g e, xs = [d, g, e] ∧ ThingP d ∧ Arg g ∧ Arg e)
def goodsOf (k : Nat) : List D → List Bool
  | [d, e] => if k = 0 then [cellsB d, inB 0 1000000000 e] else [picB d, inB 0 1000000000 e]
  | [d, g, e] => [picB d, strP isSignL g, inB 0 1000000000 e]
  | _ => []
def sortOfDoor (k : Nat) : D := if k = 0 then sD endlessL else if k = 1 then sD torusL else sD boxL
def nearB (d : D) : Bool := match d with
  | .lst xs => decide (∀ c ∈ xs.map cellOf, ∀ e ∈ xs.map cellOf, c.1 - e.1 < 200 ∧ c.2.1 - e.2.1 < 200)
  | _ => false
def dueD (k : Nat) (xs : List D) : D := match (goodsOf k xs).findIdx? (fun b => !b) with
  | some i => .tup [.str (Str.ofString "wrong"), .int (i : Nat)]
  | none => if k = 0 ∧ nearB (xs.headD .non) = false then .tup [.str (Str.ofString "far"), .int 200] else .tup [.str (Str.ofString "told"), sortOfDoor k]
theorem frz_at {τ : Tau} {i : Nat} {d : D} (h : i < τ.length) : (frz (τ.set i (some (.dat d))))[i]? = some (some (.dat d)) := by
  unfold frz
  rw [List.getElem?_map, List.getElem?_set_self h]
  rfl
theorem due_wrong {k : Nat} {xs : List D} {i : Nat} (h : (goodsOf k xs).findIdx? (fun b => !b) = some i) : dueD k xs = .tup [.str (Str.ofString "wrong"), .int (i : Nat)] := by
  unfold dueD
  rw [h]
theorem due_far {k : Nat} {xs : List D} (h : (goodsOf k xs).findIdx? (fun b => !b) = none) (h2 : k = 0 ∧ nearB (xs.headD .non) = false) : dueD k xs = .tup [.str (Str.ofString "far"), .int 200] := by
  unfold dueD
  rw [h]
  exact if_pos h2
theorem due_told {k : Nat} {xs : List D} (h : (goodsOf k xs).findIdx? (fun b => !b) = none) (h2 : k = 0 → nearB (xs.headD .non) = true) : dueD k xs = .tup [.str (Str.ofString "told"), sortOfDoor k] := by
  unfold dueD
  rw [h]
  refine if_neg fun h3 => ?_
  rw [h2 h3.1] at h3
  cases h3.2
theorem near_iff {cs : List Cell} : nearB (.lst (cs.map cellD)) = true ↔ NearOk2 cs := by
  have e : (cs.map cellD).map cellOf = cs := by
    rw [List.map_map]
    conv => rhs; rw [← List.map_id cs]
    refine List.map_congr_left fun c hc => ?_
    simp [cellOf, cellD, triD, cellT]
  show decide (∀ c ∈ (cs.map cellD).map cellOf, ∀ e ∈ (cs.map cellD).map cellOf, c.1 - e.1 < 200 ∧ c.2.1 - e.2.1 < 200) = true ↔ NearOk2 cs
  rw [decide_eq_true_iff, e]
  exact Iff.rfl
def t_Ltold (P : Program) (w : World) (ad : Nat → Addr) : TF := fun W ds Q _ => ∃ (k : Nat) (xs : List D), ds = [.int k, .lst xs] ∧ ThingsOk k xs ∧ Q (dueD k xs)
theorem ok_Ltold (T : Txt K mg ad fd) : FnG P w K mg base CX0 7 (ad 51) (fd 51) p_Ltold (spD K 2 (t_Ltold P w ad)) := by
  have G_endless := ok_endless (P := P) (w := w) (base := base) T
  have G_torus := ok_torus (P := P) (w := w) (base := base) T
  have G_box := ok_box (P := P) (w := w) (base := base) T
  have G_Lclass := ok_Lclass (P := P) (w := w) (base := base) T
  have G_Field_kind := ok_Field_kind (P := P) (w := w) (base := base) T
  refine okD T.h_Ltold.F sc_Ltold (fun cdv A outer s H E hr => ⟨_, _, fun W => (dss_one (ds_try_as (i := 2) sc_Ltold.nd (names_own T.x_CellError.g) takes0 (fun Wt1 pn1 xe1 tk1 hp1 => (dss_cons (ds_if (dt_eq hr.units (dv 0) de_int) (dss_one (ds_ret (de_tup (da_cons de_str (da_cons (de_meth0 T.cl_Field T.h_Field_kind G_Field_kind (hr.mono (by decide)) pass0 (de_callKwX G_endless (hr.mono (by decide)) T.h_endless tk1 (da_cons (de_ix (dv 1) de_int) da_nil) (de_ix (dv 1) de_int))) da_nil))))) dss_nil)
      (dss_cons (ds_if (dt_eq hr.units (dv 0) de_int) (dss_one (ds_ret (de_tup (da_cons de_str (da_cons (de_meth0 T.cl_Field T.h_Field_kind G_Field_kind (hr.mono (by decide)) pass0 (de_callKwX G_torus (hr.mono (by decide)) T.h_torus tk1 (da_cons (de_ix (dv 1) de_int) da_nil) (de_ix (dv 1) de_int))) da_nil))))) dss_nil)
      (dss_one (ds_ret (de_tup (da_cons de_str (da_cons (de_meth0 T.cl_Field T.h_Field_kind G_Field_kind (hr.mono (by decide)) pass0 (de_callKwX G_box (hr.mono (by decide)) T.h_box tk1 (da_cons (de_ix (dv 1) de_int) (da_cons (de_ix (dv 1) de_int) da_nil)) (de_ix (dv 1) de_int))) da_nil)))))))) (fun a1 oe1 cls1 d1 pn1 hz1 hf1 => (dss_one (ds_ret (de_callE List.mem_cons_self hz1 hf1 G_Lclass (roomE (hr.mono (by decide))) T.h_Lclass.g T.h_Lclass.k T.h_Lclass.b (da_cons (dv 2) da_nil))))))), fun W ds Q hl ht => ?_⟩) (fun _ _ _ _ h => h)
  obtain ⟨k, xs, rfl, hx, hq⟩ := ht
  have hand : ∀ (ex : Exc → Tau → Prop), (∀ x τ', (2 < τ'.length ∧ ((∃ i : Int, x = wrongE ad i ∧ dueD k xs = .tup [.str (Str.ofString "wrong"), .int i]) ∨ (x = farE ad ∧ dueD k xs = .tup [.str (Str.ofString "far"), .int 200]))) → ex x τ') → ∀ (τ : Tau), 2 < τ.length → (∀ i : Nat, (goodsOf k xs).findIdx? (fun b => !b) = some i → ex (wrongE ad i) τ) ∧ (dueD k xs = .tup [.str (Str.ofString "far"), .int 200] → ex (farE ad) τ) := fun ex h τ hl =>
    ⟨fun i e => h _ _ ⟨hl, .inl ⟨i, rfl, due_wrong e⟩⟩, fun e => h _ _ ⟨hl, .inr ⟨rfl, e⟩⟩⟩
  refine tdTry_by (fun x τ' => 2 < τ'.length ∧ ((∃ i : Int, x = wrongE ad i ∧ dueD k xs = .tup [.str (Str.ofString "wrong"), .int i]) ∨ (x = farE ad ∧ dueD k xs = .tup [.str (Str.ofString "far"), .int 200]))) (fun ex q => ?_) (fun x τ' h => ?_)
  case refine_2 =>
    obtain ⟨hl, ⟨i, rfl, e⟩ | ⟨rfl, e⟩⟩ := h
    · rw [e] at hq
      refine ⟨T.e_Wrong_CellError, fun a dd => ?_⟩
      exact ⟨_, frz_at hl, rfl, _, rfl, .inl ⟨i, rfl, hq⟩⟩
    · rw [e] at hq
      refine ⟨T.e_TooFar_CellError, fun a dd => ?_⟩
      exact ⟨_, frz_at hl, rfl, _, rfl, .inr ⟨rfl, hq⟩⟩
  have hand := hand ex q
  clear q
  have it0 : ∀ {Q : D → Prop}, (Q (.bl (decide ((k : Int) = 0)))) → fEq (.int k) (.int 0) Q := fun q => fEq_i q
  rcases hx with ⟨rfl, d, e, rfl, hd, he⟩ | ⟨rfl, d, e, rfl, hd, he⟩ | ⟨rfl, d, g, e, rfl, hd, hg, he⟩
  · refine tdSeq_if1 true (fun Q R q => tdTest_by _ (fun Q R q => ⟨_, rfl, fEq_i q⟩) q) (fun _ => ?_) (fun z => nomatch z)
    refine ⟨_, rfl, _, atI_zero _ _, _, rfl, _, atI_of (k := 1) rfl, rfl, rfl, d, e, rfl, hd.l, he, fun h => (hand _ (by show 2 < 3; decide)).1 0 ?_, fun h h2 => (hand _ (by show 2 < 3; decide)).1 1 ?_, fun cs t c1 c2 e1 e2 hok nd => ⟨fun hn => ⟨rfl, rfl, rfl, _, rfl, by show 2 ≤ sizeLine; decide, ?_⟩, fun hn => (hand _ (by show 2 < 3; decide)).2 ?_⟩⟩
    · simp [goodsOf, h, List.findIdx?_cons]
    · simp [goodsOf, h, h2, List.findIdx?_cons]
    · subst e1
      rw [due_told (k := 0) (xs := [D.lst (cs.map cellD), e]) (by simp [goodsOf, c1, c2, List.findIdx?_cons]) (fun _ => near_iff.mpr hn)] at hq
      exact hq
    · subst e1
      exact due_far (by simp [goodsOf, c1, c2, List.findIdx?_cons]) ⟨rfl, by rw [← Bool.not_eq_true]; exact fun h => hn (near_iff.mp h)⟩
  · refine tdSeq_if1 false (fun Q R q => tdTest_by _ (fun Q R q => ⟨_, rfl, fEq_i q⟩) q) (fun z => nomatch z) (fun _ => ?_)
    refine tdSeq_if1 true (fun Q R q => tdTest_by _ (fun Q R q => ⟨_, rfl, fEq_i q⟩) q) (fun _ => ?_) (fun z => nomatch z)
    refine ⟨_, rfl, _, atI_zero _ _, _, rfl, _, atI_of (k := 1) rfl, rfl, rfl, d, e, rfl, hd.p, he, fun h => (hand _ (by show 2 < 3; decide)).1 0 ?_, fun h h2 => (hand _ (by show 2 < 3; decide)).1 1 ?_, fun h h2 f hf => ⟨rfl, rfl, rfl, _, rfl, by show 2 ≤ sizeLine; decide, ?_⟩⟩
    · simp [goodsOf, h, List.findIdx?_cons]
    · simp [goodsOf, h, h2, List.findIdx?_cons]
    · rw [due_told (by simp [goodsOf, h, h2, List.findIdx?_cons]) (fun z => by cases z)] at hq
      rw [hf]
      exact hq
  · refine tdSeq_if1 false (fun Q R q => tdTest_by _ (fun Q R q => ⟨_, rfl, fEq_i q⟩) q) (fun z => nomatch z) (fun _ => ?_)
    refine tdSeq_if1 false (fun Q R q => tdTest_by _ (fun Q R q => ⟨_, rfl, fEq_i q⟩) q) (fun z => nomatch z) (fun _ => ?_)
    refine ⟨_, rfl, _, atI_zero _ _, _, rfl, _, atI_of (k := 1) rfl, _, rfl, _, atI_of (k := 2) rfl, rfl, rfl, d, g, e, rfl, hd.p, hg, he, fun h => (hand _ (by show 2 < 3; decide)).1 0 ?_, fun h h2 => (hand _ (by show 2 < 3; decide)).1 1 ?_, fun h h2 h3 => (hand _ (by show 2 < 3; decide)).1 2 ?_, fun h h2 h3 f hf => ⟨rfl, rfl, rfl, _, rfl, by show 2 ≤ sizeLine; decide, ?_⟩⟩
    · simp [goodsOf, h, List.findIdx?_cons]
    · simp [goodsOf, h, h2, List.findIdx?_cons]
    · simp [goodsOf, h, h2, h3, List.findIdx?_cons]
    · rw [due_told (by simp [goodsOf, h, h2, h3, List.findIdx?_cons]) (fun z => by cases z)] at hq
      rw [hf]
      exact hq
theorem onBl_t {P Q : Prop} (q : P) : onBl (.bl true) fun b => if b = true then P else Q := by
  show if true = true then P else Q
  rw [if_pos rfl]
  exact q
theorem dOk_cells {m : List Cell} (h : ∀ c ∈ m, c.2.2 ∈ SIG) : dOk 3 (.lst (m.map cellD)) := .lst (n := 2) fun d hd => by
  obtain ⟨c, hc, rfl⟩ := List.mem_map.mp hd
  refine .tup (n := 1) fun d hd => ?_
  simp only [List.mem_cons, List.not_mem_nil, or_false] at hd
  rcases hd with rfl | rfl | rfl
  · exact .int
  · exact .int
  · exact .str fun x hx => by
      rw [List.mem_singleton.mp hx]
      exact (by decide : ∀ c ∈ SIG, c < 0x110000) _ (h c hc)
def t_Ldue : TF := fun W ds Q _ => ∃ (k : Nat) (xs : List D), ds = [.int k, .lst xs] ∧ ThingsOk k xs ∧ Q (dueD k xs)
theorem ok_Ldue (T : Txt K mg ad fd) : FnG P w K mg base CX0 4 (ad 52) (fd 52) p_Ldue (spD K 2 t_Ldue) := by
  have G_Lis_whole := ok_Lis_whole (P := P) (w := w) (base := base) T
  have G_Lis_sign := ok_Lis_sign (P := P) (w := w) (base := base) T
  have G_Lare_cells := ok_Lare_cells (P := P) (w := w) (base := base) T
  have G_Lis_picture := ok_Lis_picture (P := P) (w := w) (base := base) T
  refine okD T.h_Ldue.F sc_Ldue (fun cdv A outer s H E hr => ⟨_, _, fun W => (dss_cons (ds_setO (i := 2) sc_Ldue.nd (do_lst (da_cons (de_sel (de_ix (DO.e (do_lst (da_cons (de_cls T.h_Lare_cells.g) (da_cons (de_cls T.h_Lis_picture.g) (da_cons (de_cls T.h_Lis_picture.g) da_nil))))) (dv 0)) (selCons (selF G_Lare_cells (hr.mono (by decide)) T.h_Lare_cells.k T.h_Lare_cells.b pass0) (selCons (selF G_Lis_picture (hr.mono (by decide)) T.h_Lis_picture.k T.h_Lis_picture.b pass0) (selCons (selF G_Lis_picture (hr.mono (by decide)) T.h_Lis_picture.k T.h_Lis_picture.b pass0) selNil))) (da_cons (de_ix (dv 1) de_int) da_nil)) da_nil)))
      (dss_cons (ds_if (dt_eq hr.units (dv 0) de_int) (dss_one (ds_app 2 (de_call G_Lis_sign (hr.mono (by decide)) T.h_Lis_sign.g T.h_Lis_sign.k T.h_Lis_sign.b pass0 (da_cons (de_ix (dv 1) de_int) da_nil)))) dss_nil)
      (dss_cons (ds_app 2 (de_call G_Lis_whole (hr.mono (by decide)) T.h_Lis_whole.g T.h_Lis_whole.k T.h_Lis_whole.b pass0 (da_cons (de_ix (dv 1) (de_neg de_int)) (da_cons de_int (da_cons (de_pow de_int de_int) da_nil)))))
      (dss_cons (ds_if (dt_in de_bl (dv 2)) (dss_one (ds_ret (de_tup (da_cons de_str (da_cons (de_lixD (hr.units2) (dv 2) (da_cons de_bl da_nil)) da_nil))))) dss_nil)
      (dss_cons (ds_if (DW.t (dw_and (dt_eq hr.units (dv 0) de_int) (dw_and1 (dt_ne hr.units (de_ix (dv 1) de_int) (DO.e (do_lst da_nil)))))) (dss_cons (ds_par (i := 3) (j := 4) rfl sc_Ldue.nd (da_cons (DO.e (do_lc rfl sc_Ldue.nd (di_any (de_ix (dv 1) de_int)) (blkOk_by (own := [("_law_one", 5)]) (N := n_Ldue) (by kernel_rfl)) (fun _ _ _ _ _ => (dg_name (i := 5) sc_Ldue.nd)) (fun _ _ _ _ _ => dts_nil) (fun _ _ _ _ _ => (de_ix (dv 5) de_int)))) (da_cons (DO.e (do_lc rfl sc_Ldue.nd (di_any (de_ix (dv 1) de_int)) (blkOk_by (own := [("_law_one", 5)]) (N := n_Ldue) (by kernel_rfl)) (fun _ _ _ _ _ => (dg_name (i := 5) sc_Ldue.nd)) (fun _ _ _ _ _ => dts_nil) (fun _ _ _ _ _ => (de_ix (dv 5) de_int)))) da_nil)))
      (dss_one (ds_if (dt_gt (de_max2 T.m_max (da_cons (de_sub (de_maxL rfl T.m_max (da_cons (dv 3) da_nil)) (de_minL rfl T.m_min (da_cons (dv 3) da_nil))) (da_cons (de_sub (de_maxL rfl T.m_max (da_cons (dv 4) da_nil)) (de_minL rfl T.m_min (da_cons (dv 4) da_nil))) da_nil))) de_int) (dss_one (ds_ret (de_tup (da_cons de_str (da_cons de_int da_nil))))) dss_nil))) dss_nil)
      (dss_one (ds_ret (de_tup (da_cons de_str (da_cons (de_ix (DO.e (do_lst (da_cons de_str (da_cons de_str (da_cons de_str da_nil))))) (dv 0)) da_nil)))))))))), fun W ds Q hl ht => ?_⟩) (fun _ _ _ _ h => h)
  obtain ⟨k, xs, rfl, hx, hq⟩ := ht
  have bk : ∀ (bs : List Bool), cmpOk (.lst (bs.map D.bl)) := fun bs => dOk.cmp (n := 2) (.lst fun d hd => by
    obtain ⟨b, _, rfl⟩ := List.mem_map.mp hd
    exact .bl)
  have eb : ∀ b : Bool, eqD (.bl b) (.bl false) = !b := fun b => by cases b <;> decide
  have b1 : cmpOk (.bl false) := dOk.bl.cmp
  rcases hx with ⟨rfl, d, e, rfl, hd, he⟩ | ⟨rfl, d, e, rfl, hd, he⟩ | ⟨rfl, d, g, e, rfl, hd, hg, he⟩
  · refine tdSeq_setO (fun ds => ds = [.bl (cellsB d)]) (fun Q R q => ?_) ?_
    · simp
      exact .inl ⟨d, rfl, hd.l, q _ rfl⟩
    rintro _ rfl
    refine tdSeq_if1 false (fun Q R q => by simpa using q) (fun z => nomatch z) (fun _ => ?_)
    refine ⟨_, rfl, ?_⟩
    simp
    refine ⟨by decide, e, rfl, e, 0, 1000000000, rfl, he, ?_⟩
    refine ⟨[.bl (cellsB d), .bl (inB 0 1000000000 e)], rfl, by simp [flatV], ?_⟩
    cases h1 : cellsB d with
    | false =>
      rw [if_pos (by generalize inB 0 1000000000 e = v; cases v <;> decide)]
      refine ⟨bk [_, _], b1, 0, _, rfl, eb _, fun m z hm => absurd hm (Nat.not_lt_zero _), ?_⟩
      rw [due_wrong (i := 0) (by simp [goodsOf, h1, List.findIdx?_cons])] at hq
      exact hq
    | true =>
    cases h2 : inB 0 1000000000 e with
    | false =>
      rw [if_pos (by generalize inB 0 1000000000 e = v; cases v <;> decide)]
      refine ⟨bk [_, _], b1, 1, _, rfl, eb _, fun m z hm hz => ?_, ?_⟩
      · have : m = 0 := by omega
        subst this
        cases hz
        exact eb _
      rw [due_wrong (i := 1) (by simp [goodsOf, h1, h2, List.findIdx?_cons])] at hq
      exact hq
    | true =>
    rw [if_neg (by decide)]
    have gn : (goodsOf 0 [d, e]).findIdx? (fun b => !b) = none := by simp [goodsOf, h1, h2, List.findIdx?_cons]
    obtain ⟨xs, rfl⟩ : ∃ xs, d = .lst xs := Classical.byContradiction fun h => by rw [cells_no h] at h1; cases h1
    have h1 : (xs.all listedB && decide (((xs.map cellOf).map cellK).Nodup)) = true := h1
    rw [Bool.and_eq_true] at h1
    obtain ⟨ex, hok⟩ := cells_back h1.1
    have h63 := (hd.l.parts xs rfl).2.2 h1.1
    clear h1 hd
    generalize xs.map cellOf = cs at ex hok
    subst ex
    rw [List.length_map] at h63
    have dk : cmpOk (.lst (cs.map cellD)) := (dOk_cells fun c hc => (hok c hc).s).cmp
    show cmpOk _ ∧ cmpOk _ ∧ onBl (.bl (true ^^ eqD (.lst (cs.map cellD)) (.lst []))) _
    refine ⟨dk, bk [], ?_⟩
    rw [eqD_nil]
    by_cases hne : cs = []
    · subst hne
      rw [due_told gn (fun _ => near_iff.mpr fun c hc => nomatch hc)] at hq
      exact hq
    rw [show (true ^^ (cs.map cellD).isEmpty) = true by cases cs with | nil => exact absurd rfl hne | cons a l => rfl]
    refine onBl_t ?_
    have l16 : (cs.map cellD).length ≤ 16777216 := by rw [List.length_map]; exact Nat.le_trans (Nat.le_of_lt h63) (by decide)
    show items (.lst (cs.map cellD)) _
    rw [items_lst]
    refine ⟨l16, compD_mapL (h := fun c : Cell => D.int c.1) _ (fun c hc Kk hk => ⟨_, rfl, _, atI_zero _ _, hk⟩) ?_⟩
    show items (.lst (cs.map cellD)) _
    rw [items_lst]
    refine ⟨l16, compD_mapL (h := fun c : Cell => D.int c.2.1) _ (fun c hc Kk hk => ⟨_, rfl, _, atI_of (k := 1) rfl, hk⟩) ?_⟩
    have ne1 : cs.map (fun c : Cell => c.1) ≠ [] := fun e => hne (List.map_eq_nil_iff.mp e)
    have ne2 : cs.map (fun c : Cell => c.2.1) ≠ [] := fun e => hne (List.map_eq_nil_iff.mp e)
    have e1 : (cs.map fun c : Cell => D.int c.1) = (cs.map fun c : Cell => c.1).map D.int := by rw [List.map_map]; rfl
    have e2 : (cs.map fun c : Cell => D.int c.2.1) = (cs.map fun c : Cell => c.2.1).map D.int := by rw [List.map_map]; rfl
    refine ⟨_, e1, ne1, fun m hm hm2 => ⟨_, e1, ne1, fun m1 hm1 hm3 => ⟨_, e2, ne2, fun m4 hm4 hm5 => ⟨_, e2, ne2, fun m6 hm6 hm7 => ?_⟩⟩⟩⟩
    have hn : NearOk2 cs ↔ m - m1 < 200 ∧ m4 - m6 < 200 := by
      constructor
      · intro h
        obtain ⟨ca, ha, rfl⟩ := List.mem_map.mp hm
        obtain ⟨cb, hb, rfl⟩ := List.mem_map.mp hm1
        obtain ⟨cc, hc, rfl⟩ := List.mem_map.mp hm4
        obtain ⟨cd, hd, rfl⟩ := List.mem_map.mp hm6
        exact ⟨(h ca ha cb hb).1, (h cc hc cd hd).2⟩
      · intro h x hx y hy
        have k1 := hm3 y.1 (List.mem_map_of_mem (f := fun c : Cell => c.1) hy)
        have k2 := hm2 x.1 (List.mem_map_of_mem (f := fun c : Cell => c.1) hx)
        have k3 := hm7 y.2.1 (List.mem_map_of_mem (f := fun c : Cell => c.2.1) hy)
        have k4 := hm5 x.2.1 (List.mem_map_of_mem (f := fun c : Cell => c.2.1) hx)
        exact ⟨by omega, by omega⟩
    by_cases hN : NearOk2 cs
    · rw [due_told gn (fun _ => near_iff.mpr hN)] at hq
      have := hn.mp hN
      rw [if_neg (by split <;> omega)]
      exact hq
    · rw [due_far gn ⟨rfl, by rw [← Bool.not_eq_true]; exact fun h => hN (near_iff.mp h)⟩] at hq
      have : ¬(m - m1 < 200 ∧ m4 - m6 < 200) := fun h => hN (hn.mpr h)
      rw [if_pos (by split <;> omega)]
      exact hq
  · refine tdSeq_setO (fun ds => ds = [.bl (picB d)]) (fun Q R q => ?_) ?_
    · simp
      exact .inr ⟨d, rfl, hd.p, q _ rfl⟩
    rintro _ rfl
    refine tdSeq_if1 false (fun Q R q => by simpa using q) (fun z => nomatch z) (fun _ => ?_)
    refine ⟨_, rfl, ?_⟩
    simp
    refine ⟨by decide, e, rfl, e, 0, 1000000000, rfl, he, ?_⟩
    refine ⟨[.bl (picB d), .bl (inB 0 1000000000 e)], rfl, by simp [flatV], ?_⟩
    cases h1 : picB d with
    | false =>
      rw [if_pos (by generalize inB 0 1000000000 e = v; cases v <;> decide)]
      refine ⟨bk [_, _], b1, 0, _, rfl, eb _, fun m z hm => absurd hm (Nat.not_lt_zero _), ?_⟩
      rw [due_wrong (i := 0) (by simp [goodsOf, h1, List.findIdx?_cons])] at hq
      exact hq
    | true =>
    cases h2 : inB 0 1000000000 e with
    | false =>
      rw [if_pos (by decide)]
      refine ⟨bk [_, _], b1, 1, _, rfl, eb _, fun m z hm hz => ?_, ?_⟩
      · have : m = 0 := by omega
        subst this
        cases hz
        exact eb _
      rw [due_wrong (i := 1) (by simp [goodsOf, h1, h2, List.findIdx?_cons])] at hq
      exact hq
    | true =>
    rw [if_neg (by decide)]
    have gn : (goodsOf 1 [d, e]).findIdx? (fun b => !b) = none := by simp [goodsOf, h1, h2, List.findIdx?_cons]
    rw [due_told gn (fun z => by cases z)] at hq
    exact hq
  · refine tdSeq_setO (fun ds => ds = [.bl (picB d)]) (fun Q R q => ?_) ?_
    · simp
      exact .inr ⟨d, rfl, hd.p, q _ rfl⟩
    rintro _ rfl
    refine tdSeq_if true (fun Q R q => by simpa using q) (fun _ => ?_) (fun z => nomatch z)
    simp
    refine ⟨by decide, g, rfl, hg.ty, hg.len, by decide, e, rfl, e, 0, 1000000000, rfl, he, ?_⟩
    refine ⟨[.bl (picB d), .bl (strP isSignL g), .bl (inB 0 1000000000 e)], rfl, by simp [flatV], ?_⟩
    cases h1 : picB d with
    | false =>
      rw [if_pos (by generalize inB 0 1000000000 e = v; generalize strP isSignL g = w; cases v <;> cases w <;> decide)]
      refine ⟨bk [_, _, _], b1, 0, _, rfl, eb _, fun m z hm => absurd hm (Nat.not_lt_zero _), ?_⟩
      rw [due_wrong (i := 0) (by simp [goodsOf, h1, List.findIdx?_cons])] at hq
      exact hq
    | true =>
    cases h3 : strP isSignL g with
    | false =>
      rw [if_pos (by generalize inB 0 1000000000 e = v; cases v <;> decide)]
      refine ⟨bk [_, _, _], b1, 1, _, rfl, eb _, fun m z hm hz => ?_, ?_⟩
      · have : m = 0 := by omega
        subst this
        cases hz
        exact eb _
      rw [due_wrong (i := 1) (by simp [goodsOf, h1, h3, List.findIdx?_cons])] at hq
      exact hq
    | true =>
    cases h2 : inB 0 1000000000 e with
    | false =>
      rw [if_pos (by decide)]
      refine ⟨bk [_, _, _], b1, 2, _, rfl, eb _, fun m z hm hz => ?_, ?_⟩
      · rcases (show m = 0 ∨ m = 1 by omega) with rfl | rfl
        · cases hz
          exact eb _
        · cases hz
          exact eb _
      rw [due_wrong (i := 2) (by simp [goodsOf, h1, h2, h3, List.findIdx?_cons])] at hq
      exact hq
    | true =>
    rw [if_neg (by decide)]
    have gn : (goodsOf 2 [d, g, e]).findIdx? (fun b => !b) = none := by simp [goodsOf, h1, h2, h3, List.findIdx?_cons]
    rw [due_told gn (fun z => by cases z)] at hq
    exact hq
theorem due_shape (k : Nat) (xs : List D) : ∃ (s : List Nat) (v : D), dueD k xs = .tup [sD s, v] ∧ (∀ c ∈ s, c < 0x110000) ∧ ((∃ i : Int, v = .int i) ∨ ∃ l : List Nat, v = sD l ∧ ∀ c ∈ l, c < 0x110000) := by
  have w : Str.ofString "wrong" = mk [119, 114, 111, 110, 103] := by decide +kernel
  have f : Str.ofString "far" = mk [102, 97, 114] := by decide +kernel
  have t : Str.ofString "told" = mk [116, 111, 108, 100] := by decide +kernel
  unfold dueD
  split
  · rw [w]; exact ⟨_, _, rfl, by decide, .inl ⟨_, rfl⟩⟩
  · split
    · rw [f]; exact ⟨_, _, rfl, by decide, .inl ⟨_, rfl⟩⟩
    · rw [t]
      unfold sortOfDoor
      split
      · exact ⟨_, _, rfl, by decide, .inr ⟨_, rfl, by decide +kernel⟩⟩
      · split
        · exact ⟨_, _, rfl, by decide, .inr ⟨_, rfl, by decide +kernel⟩⟩
        · exact ⟨_, _, rfl, by decide, .inr ⟨_, rfl, by decide +kernel⟩⟩
theorem due_ok (k : Nat) (xs : List D) : cmpOk (dueD k xs) ∧ eqD (dueD k xs) (dueD k xs) = true ∧ ∃ a v t, dueD k xs = .tup [a, v] ∧ tyD v = some t ∧ isTy t "bool" = false := by
  obtain ⟨s, v, e, hs, h⟩ := due_shape k xs
  rw [e]
  rcases h with ⟨i, rfl⟩ | ⟨l, rfl, hl⟩
  · refine ⟨(dOk.tup (n := 1) fun d hd => ?_).cmp, ?_, _, _, _, rfl, rfl, by decide⟩
    · simp only [List.mem_cons, List.not_mem_nil, or_false] at hd
      rcases hd with rfl | rfl
      · exact .str hs
      · exact .int
    · have h1 := eqD_str (a := s) (b := s)
      simp [eqD, toPy, toPys, PyData.eqv, PyData.eqvAll] at h1 ⊢
  · refine ⟨(dOk.tup (n := 1) fun d hd => ?_).cmp, ?_, _, _, _, rfl, rfl, by decide⟩
    · simp only [List.mem_cons, List.not_mem_nil, or_false] at hd
      rcases hd with rfl | rfl
      · exact .str hs
      · exact .str hl
    · have h1 := eqD_str (a := s) (b := s)
      simp [eqD, toPy, toPys, PyData.eqv, PyData.eqvAll] at h1 ⊢
theorem ok_law (T : Txt K mg ad fd) : FnG P w K mg base CX0 8 (ad 53) (fd 53) p_law (spLaw K) := by
  have G_Lbag := ok_Lbag (P := P) (w := w) (base := base) T
  have G_Ltake := ok_Ltake (P := P) (w := w) (base := base) T
  have G_Lcells := ok_Lcells (P := P) (w := w) (base := base) T
  have G_Ldeep := ok_Ldeep (P := P) (w := w) (base := base) T
  have G_Lbent := ok_Lbent (P := P) (w := w) (base := base) T
  have G_Lrows := ok_Lrows (P := P) (w := w) (base := base) T
  have G_Lbent_rows := ok_Lbent_rows (P := P) (w := w) (base := base) T
  have G_Ltold := ok_Ltold (P := P) (w := w) (base := base) T
  have G_Ldue := ok_Ldue (P := P) (w := w) (base := base) T
  refine fnG0 T.h_law.F sc_law (fun vs H Q E h => spLaw_len h) fun cdv A outer s H vs Q E hr h => ?_
  suffices hh : ∃ (ts : TS) (td : Wd → TDS), (∀ W, DSs (cxOf CX0 P w K mg base n_law "law" (defScope s_law) (ad 53) cdv A outer s H E).nox K W (fun _ _ _ _ => False) ((defBody s_law).drop 1) ts (td W)) ∧ ∀ (b c : Addr) (cells : List Int), td (bagW b c cells) (none :: some (.dat (.v (.ref b))) :: List.replicate (n_law.length - 2) none) endsL by
    obtain ⟨ts, td, hd, hm⟩ := hh
    exact ⟨_, pss_cons (ps_set (i := 1) sc_law.nd rfl (by first | exact Or.inl rfl | exact Or.inr rfl) (pe_callG (E := fun _ => E0) G_Lbag (hr.mono (by decide)) rfl T.h_Lbag.g T.h_Lbag.k T.h_Lbag.b (fun σ pins H s e s' I => (pass0 : Passes _ _ _) pins σ H s e s' I) (pa_cons (pv 0) pa_nil))) (hd (bagW 0 0 [])).ps, read_law h (by decide) (fun W => (hd W).sim) hm⟩
  refine ⟨_, _, fun W => (dss_cons (ds_for PassesOwn.never rfl (di_range1 rfl T.m_range (da_cons de_int da_nil)) (dg_name (i := 2) sc_law.nd) (dss_cons (ds_set (i := 3) sc_law.nd (de_call G_Ltake (hr.mono (by decide)) T.h_Ltake.g T.h_Ltake.k T.h_Ltake.b pass0 (da_cons (dv 1) (da_cons de_int da_nil))))
      (dss_cons (ds_setO (i := 4) sc_law.nd (do_lst (da_cons (de_call G_Lbent (hr.mono (by decide)) T.h_Lbent.g T.h_Lbent.k T.h_Lbent.b pass0 (da_cons (dv 1) (da_cons (DO.e (do_call G_Lcells (hr.mono (by decide)) T.h_Lcells.g T.h_Lcells.k T.h_Lcells.b pass0 (da_cons (dv 1) da_nil))) da_nil))) da_nil)))
      (dss_cons (ds_if (dt_gt (dv 3) de_int) (dss_one (ds_setO (i := 4) sc_law.nd (do_lst (da_cons (de_call G_Lbent_rows (hr.mono (by decide)) T.h_Lbent_rows.g T.h_Lbent_rows.k T.h_Lbent_rows.b pass0 (da_cons (dv 1) (da_cons (de_call G_Lrows (hr.mono (by decide)) T.h_Lrows.g T.h_Lrows.k T.h_Lrows.b pass0 (da_cons (dv 1) da_nil)) da_nil))) da_nil)))) dss_nil)
      (dss_cons (ds_if (dt_eq hr.units (dv 3) de_int) (dss_one (ds_app 4 (de_ix (DO.e (do_lst (da_cons de_str (da_cons de_str (da_cons de_str (da_cons de_str (da_cons de_str (da_cons de_str (da_cons de_non (da_cons de_int (da_cons de_str (da_cons (de_call0 G_Ldeep (hr.mono (by decide)) T.h_Ldeep.g T.h_Ldeep.k T.h_Ldeep.b pass0) (da_cons de_str (da_cons de_str da_nil)))))))))))))) (de_call G_Ltake (hr.mono (by decide)) T.h_Ltake.g T.h_Ltake.k T.h_Ltake.b pass0 (da_cons (dv 1) (da_cons de_int da_nil)))))) dss_nil)
      (dss_cons (ds_app 4 (de_ix (DO.e (do_lst (da_cons de_int (da_cons de_int (da_cons (de_pow de_int de_int) (da_cons de_int (da_cons de_int (da_cons de_int (da_cons (de_neg de_int) (da_cons (de_add (de_pow de_int de_int) de_int) (da_cons de_bl (da_cons de_non (da_cons de_str (da_cons (DO.e (do_lst (da_cons de_int da_nil))) da_nil)))))))))))))) (de_call G_Ltake (hr.mono (by decide)) T.h_Ltake.g T.h_Ltake.k T.h_Ltake.b pass0 (da_cons (dv 1) (da_cons de_int da_nil)))))
      (dss_cons (ds_setF (i := 5) sc_law.nd (de_repr hr T.m_repr (dv 4)))
      (dss_cons (DS.freeze (ds_set (i := 6) sc_law.nd (de_call G_Ldue (hr.mono (by decide)) T.h_Ldue.g T.h_Ldue.k T.h_Ldue.b pass0 (da_cons (dv 3) (da_cons (dv 4) da_nil)))))
      (dss_one (ds_for PassesOwn.never rfl (di_range1 rfl T.m_range (da_cons de_int da_nil)) (dg_name (i := 7) sc_law.nd) (dss_cons (ds_set (i := 8) sc_law.nd (de_call G_Ltold (hr.mono (by decide)) T.h_Ltold.g T.h_Ltold.k T.h_Ltold.b pass0 (da_cons (dv 3) (da_cons (dv 4) da_nil))))
      (dss_one (ds_if (DW.t (dw_or (dt_ne hr.units (dv 8) (dv 6)) (dw_or (dt_val (de_isi T.m_isinstance (da_cons (de_ix (dv 8) de_int) (da_cons (de_ty "bool" T.m_bool) da_nil)))) (dw_or1 (dt_ne hr.units (de_repr hr T.m_repr (dv 4)) (dv 5)))))) (dss_one (ds_ret de_bl)) dss_nil)))))))))))))
      (dss_one (ds_ret de_bl))), fun b c cells => ?_⟩
  refine tdSeq_cut (fun τ => True) (fun nx hnx => ?_) (fun τ _ => rfl)
  refine tdFor_by (fun ds => ds = numsD 0 30) (fun Q R q => ⟨by decide, by decide, q _ rfl⟩) ?_
  rintro _ rfl
  refine forD_word (fun pre τ => ∃ (z2 z3 z4 z5 z6 z7 z8 : Option SD), τ = [none, some (.dat (.v (.ref b))), z2, z3, z4, z5, z6, z7, z8]) (numsD 0 30) gdName_mono ?_ (fun τ _ => hnx τ trivial) [] _ _ rfl ⟨_, _, _, _, _, _, _, rfl⟩
  rintro pre d post τ he ⟨z2, z3, z4, z5, z6, z7, z8, rfl⟩ nx2 hnx2
  refine tdSeq_asgP (fun d => ∃ k : Nat, d = .int k ∧ k < 3) (fun Q R q => ⟨_, rfl, rfl, take_i (n := 3) (by decide) (by decide) fun v a1 a2 => q _ ⟨v.toNat, congrArg D.int (by omega), by omega⟩⟩) ?_
  rintro _ ⟨k, rfl, k3⟩
  refine tdSeq_setO (fun ds => ∃ d, ds = [d] ∧ ThingC d) (fun Q R q => ⟨_, rfl, _, rfl, rfl, b, c, cells, rfl, rfl, fun cs hl hok => ⟨rfl, b, c, cells, cs, rfl, rfl, hl, hok, fun d hd => ⟨by show 1 ≤ sizeLine; decide, q _ ⟨d, rfl, hd⟩⟩⟩⟩) ?_
  rintro _ ⟨d0, rfl, hd0⟩
  refine tdSeq_cut (fun τ => ∃ d1, (k = 0 → ThingC d1) ∧ (k ≠ 0 → ThingP d1) ∧ τ = [none, some (.dat (.v (.ref b))), some (.dat d), some (.dat (.int k)), some (.own [d1]), z5, z6, z7, z8]) (fun nx3 hnx3 => ?_) ?_
  · refine tdIf_by (decide (k > 0)) (fun Q R q => tdTest_by _ (fun Q R q => ⟨_, rfl, ?_⟩) q) (fun h => ?_) (fun h => hnx3 _ ⟨d0, fun _ => hd0, fun z => absurd (by simpa using h) z, rfl⟩)
    · show Q (.bl (decide ((0 : Int) < k)))
      rw [show decide ((0 : Int) < k) = decide (k > 0) from decide_eq_decide.mpr (by omega)]
      exact q
    · have h : k > 0 := of_decide_eq_true h
      refine ⟨_, rfl, _, rfl, rfl, b, c, cells, rfl, rfl, fun rows n g => ⟨rfl, b, c, cells, rows, n, rfl, rfl, g, fun d hd => ⟨by show 1 ≤ sizeLine; decide, hnx3 _ ⟨d, fun z => by omega, fun _ => hd, rfl⟩⟩⟩⟩
  rintro _ ⟨d1, hc, hp, rfl⟩
  refine tdSeq_cut (fun τ => ∃ gs : List D, (k = 2 → ∃ g, gs = [g] ∧ ArgZ g) ∧ (k ≠ 2 → gs = []) ∧ τ = [none, some (.dat (.v (.ref b))), some (.dat d), some (.dat (.int k)), some (.own (d1 :: gs)), z5, z6, z7, z8]) (fun nx3 hnx3 => ?_) ?_
  · refine tdIf_by (decide (k = 2)) (fun Q R q => tdTest_by _ (fun Q R q => ⟨_, rfl, fEq_i ?_⟩) q) (fun h => ?_) (fun h => hnx3 _ ⟨[], fun z => absurd z (by simpa using h), fun _ => rfl, rfl⟩)
    · rw [show decide ((k : Int) = 2) = decide (k = 2) from decide_eq_decide.mpr (by omega)]
      exact q
    · have h : k = 2 := of_decide_eq_true h
      refine ⟨_, rfl, by show 1 < sizeLine; decide, ?_⟩
      simp
      refine ⟨rfl, take_i (n := 12) (by decide) (by decide) fun v a1 a2 => ?_⟩
      refine pickP (P := ArgZ) a1 (by simpa using a2) (fun x hx => argz_of (List.all_eq_true.mp (by decide +kernel) x hx)) fun x hx => hnx3 _ ⟨[x], fun _ => ⟨x, rfl, hx⟩, fun z => absurd h z, rfl⟩
  rintro _ ⟨gs, hg2, hg0, rfl⟩
  refine tdSeq_cut (fun τ => ∃ e, ArgZ e ∧ τ = [none, some (.dat (.v (.ref b))), some (.dat d), some (.dat (.int k)), some (.own (d1 :: gs ++ [e])), z5, z6, z7, z8]) (fun nx3 hnx3 => ?_) ?_
  · refine ⟨_, rfl, ?_, ?_⟩
    · have : (d1 :: gs).length ≤ 2 := by
        by_cases h : k = 2
        · obtain ⟨g, rfl, _⟩ := hg2 h
          simp
        · rw [hg0 h]; simp
      exact Nat.lt_of_le_of_lt this (by decide)
    simp
    refine take_i (n := 12) (by decide) (by decide) fun v a1 a2 => ?_
    refine pickP (P := ArgZ) a1 (by simpa using a2) (fun x hx => argz_of (List.all_eq_true.mp (by decide +kernel) x hx)) fun x hx => hnx3 _ ⟨x, hx, rfl⟩
  rintro _ ⟨e, hez, rfl⟩
  have hx : ThingsOk k (d1 :: gs ++ [e]) ∧ ∀ x ∈ d1 :: gs ++ [e], Sd x := by
    rcases (show k = 0 ∨ k = 1 ∨ k = 2 by omega) with rfl | rfl | rfl
    · rw [hg0 (by decide)]
      refine ⟨.inl ⟨rfl, d1, e, rfl, hc rfl, hez.a⟩, fun x hx => ?_⟩
      simp only [List.cons_append, List.nil_append, List.mem_cons, List.not_mem_nil, or_false] at hx
      rcases hx with rfl | rfl
      · exact (hc rfl).z
      · exact hez.z.mono (by omega) (by omega)
    · rw [hg0 (by decide)]
      refine ⟨.inr (.inl ⟨rfl, d1, e, rfl, hp (by decide), hez.a⟩), fun x hx => ?_⟩
      simp only [List.cons_append, List.nil_append, List.mem_cons, List.not_mem_nil, or_false] at hx
      rcases hx with rfl | rfl
      · exact (hp (by decide)).z
      · exact hez.z.mono (by omega) (by omega)
    · obtain ⟨g, rfl, hgz⟩ := hg2 rfl
      refine ⟨.inr (.inr ⟨rfl, d1, g, e, rfl, hp (by decide), hgz.a, hez.a⟩), fun x hx => ?_⟩
      simp only [List.cons_append, List.nil_append, List.mem_cons, List.not_mem_nil, or_false] at hx
      rcases hx with rfl | rfl | rfl
      · exact (hp (by decide)).z
      · exact hgz.z.mono (by omega) (by omega)
      · exact hez.z.mono (by omega) (by omega)
  have len3 : (d1 :: gs ++ [e]).length ≤ 3 := by
    by_cases h : k = 2
    · obtain ⟨g, rfl, _⟩ := hg2 h
      simp
    · rw [hg0 h]; simp
  obtain ⟨hx, hz⟩ := hx
  generalize d1 :: gs ++ [e] = xs at hx hz len3
  have rok : reprOk (.lst xs) := (Sz.lst hz len3).reprOk (by omega) (by omega)
  refine tdSeq_setF (.str (reprD (.lst xs))) (fun Q R q => ⟨_, rfl, rok, q⟩) trivial ?_
  refine ⟨_, rfl, _, rfl, rfl, k, xs, rfl, hx, ?_⟩
  obtain ⟨d1, d2, a, v, t, d3, d4, d5⟩ := due_ok k xs
  refine ⟨by decide, by decide, ?_⟩
  refine forD_word (fun pre τ => ∃ (z7 z8 : Option SD), τ = [none, some (.dat (.v (.ref b))), some (.dat d), some (.dat (.int k)), some (.dat (.lst xs)), some (.dat (.str (reprD (.lst xs)))), some (.dat (dueD k xs)), z7, z8]) (numsD 0 2) gdName_mono ?_ ?_ [] _ _ rfl ⟨_, _, rfl⟩
  · rintro pre d' post τ he ⟨z7, z8, rfl⟩ nx3 hnx3
    refine tdSeq_asg (dueD k xs) (fun Q R q => ⟨_, rfl, _, rfl, rfl, k, xs, rfl, hx, q⟩) ?_
    refine tdIf_by false (fun Q R q => tdOr_by false false (fun Q R q => tdTest_by false (fun Q R q => ⟨_, rfl, _, rfl, ?_⟩) q) (fun _ Q R q => tdOr_by false false (fun Q R q => tdTest_by false (fun Q R q => ⟨_, rfl, ?_⟩) q) (fun _ Q R q => tdTest_by false (fun Q R q => ⟨_, rfl, rok, _, rfl, fNe_s (by simpa using q)⟩) q) q) q) (fun z => nomatch z) (fun _ => hnx3 _ ⟨_, _, rfl⟩)
    · show fNe (dueD k xs) (dueD k xs) Q
      rw [d3] at d1 d2 ⊢
      exact ⟨d1, d1, by rw [d2]; exact q⟩
    · rw [d3]
      exact ⟨_, atI_of (k := 1) rfl, by decide, t, d4, by rw [d5]; exact q⟩
  · rintro τ ⟨z7, z8, rfl⟩
    exact hnx2 _ ⟨_, _, _, _, _, _, _, rfl⟩
end
def adF (l : List (Nat × Addr)) (i : Nat) : Addr := (l.lookup i).getD 0
def fdF (d : FuncData) (l : List (Nat × FuncData)) (i : Nat) : FuncData := (l.lookup i).getD d
theorem all_mk {l : PySem.W.OpenLaw} {w : World} {K : PySem.W.Frag} {h : Heap} {mg : Str → Option Value} {fa f12 f13 f14 f15 f16 f20 f21 f22 f23 f26 f27 f28 f29 f31 f32 f33 f34 f36 f37 f38 f39 f40 f41 f42 f43 f44 f45 f46 f47 f48 f49 f50 f51 f52 f53 f3100 f3104 f3109 : Addr} (X : K.In h) (G : h.Ns mainGlobals mg) (hfa : mg "law" = some (.ref fa))
    {od12 an12 : Option Addr} {sl12 : Array (Option Value)} {oc12 kV12 dc12 pm12 cd12 ct12 : Value}
    {od13 an13 : Option Addr} {sl13 : Array (Option Value)} {oc13 kV13 dc13 pm13 cd13 ct13 : Value}
    {od14 an14 : Option Addr} {sl14 : Array (Option Value)} {oc14 kV14 dc14 pm14 cd14 ct14 : Value}
    {od15 an15 : Option Addr} {sl15 : Array (Option Value)} {oc15 kV15 dc15 pm15 cd15 ct15 : Value}
    {od16 an16 : Option Addr} {sl16 : Array (Option Value)} {oc16 kV16 dc16 pm16 cd16 ct16 : Value}
    {od20 an20 : Option Addr} {sl20 : Array (Option Value)} {oc20 kV20 dc20 pm20 cd20 ct20 : Value}
    {od21 an21 : Option Addr} {sl21 : Array (Option Value)} {oc21 kV21 dc21 pm21 cd21 ct21 : Value}
    {od22 an22 : Option Addr} {sl22 : Array (Option Value)} {oc22 kV22 dc22 pm22 cd22 ct22 : Value}
    {od23 an23 : Option Addr} {sl23 : Array (Option Value)} {oc23 kV23 dc23 pm23 cd23 ct23 : Value}
    {od26 an26 : Option Addr} {sl26 : Array (Option Value)} {oc26 kV26 dc26 pm26 cd26 ct26 : Value}
    {od27 an27 : Option Addr} {sl27 : Array (Option Value)} {oc27 kV27 dc27 pm27 cd27 ct27 : Value}
    {od28 an28 : Option Addr} {sl28 : Array (Option Value)} {oc28 kV28 dc28 pm28 cd28 ct28 : Value}
    {od29 an29 : Option Addr} {sl29 : Array (Option Value)} {oc29 kV29 dc29 pm29 cd29 ct29 : Value}
    {od31 an31 : Option Addr} {sl31 : Array (Option Value)} {oc31 dc31 pm31 cd31 ct31 : Value}
    {kD31 : Addr} {ku31 : Tok}
    {od32 an32 : Option Addr} {sl32 : Array (Option Value)} {oc32 kV32 dc32 pm32 cd32 ct32 : Value}
    {od33 an33 : Option Addr} {sl33 : Array (Option Value)} {oc33 dc33 pm33 cd33 ct33 : Value}
    {kD33 : Addr} {ku33 : Tok}
    {od34 an34 : Option Addr} {sl34 : Array (Option Value)} {oc34 dc34 pm34 cd34 ct34 : Value}
    {kD34 : Addr} {ku34 : Tok}
    {od36 an36 : Option Addr} {sl36 : Array (Option Value)} {oc36 kV36 dc36 pm36 cd36 ct36 : Value}
    {od37 an37 : Option Addr} {sl37 : Array (Option Value)} {oc37 kV37 dc37 pm37 cd37 ct37 : Value}
    {od38 an38 : Option Addr} {sl38 : Array (Option Value)} {oc38 kV38 dc38 pm38 cd38 ct38 : Value}
    {od39 an39 : Option Addr} {sl39 : Array (Option Value)} {oc39 kV39 dc39 pm39 cd39 ct39 : Value}
    {od40 an40 : Option Addr} {sl40 : Array (Option Value)} {oc40 kV40 dc40 pm40 cd40 ct40 : Value}
    {od41 an41 : Option Addr} {sl41 : Array (Option Value)} {oc41 kV41 dc41 pm41 cd41 ct41 : Value}
    {od42 an42 : Option Addr} {sl42 : Array (Option Value)} {oc42 kV42 dc42 pm42 cd42 ct42 : Value}
    {od43 an43 : Option Addr} {sl43 : Array (Option Value)} {oc43 kV43 dc43 pm43 cd43 ct43 : Value}
    {od44 an44 : Option Addr} {sl44 : Array (Option Value)} {oc44 kV44 dc44 pm44 cd44 ct44 : Value}
    {od45 an45 : Option Addr} {sl45 : Array (Option Value)} {oc45 kV45 dc45 pm45 cd45 ct45 : Value}
    {od46 an46 : Option Addr} {sl46 : Array (Option Value)} {oc46 kV46 dc46 pm46 cd46 ct46 : Value}
    {od47 an47 : Option Addr} {sl47 : Array (Option Value)} {oc47 kV47 dc47 pm47 cd47 ct47 : Value}
    {od48 an48 : Option Addr} {sl48 : Array (Option Value)} {oc48 kV48 dc48 pm48 cd48 ct48 : Value}
    {od49 an49 : Option Addr} {sl49 : Array (Option Value)} {oc49 kV49 dc49 pm49 cd49 ct49 : Value}
    {od50 an50 : Option Addr} {sl50 : Array (Option Value)} {oc50 kV50 dc50 pm50 cd50 ct50 : Value}
    {od51 an51 : Option Addr} {sl51 : Array (Option Value)} {oc51 kV51 dc51 pm51 cd51 ct51 : Value}
    {od52 an52 : Option Addr} {sl52 : Array (Option Value)} {oc52 kV52 dc52 pm52 cd52 ct52 : Value}
    {od53 an53 : Option Addr} {sl53 : Array (Option Value)} {oc53 kV53 dc53 pm53 cd53 ct53 : Value}
    {od3100 an3100 : Option Addr} {sl3100 : Array (Option Value)} {oc3100 kV3100 dc3100 pm3100 cd3100 ct3100 : Value}
    {od3104 an3104 : Option Addr} {sl3104 : Array (Option Value)} {oc3104 kV3104 dc3104 pm3104 cd3104 ct3104 : Value}
    {od3109 an3109 : Option Addr} {sl3109 : Array (Option Value)} {oc3109 kV3109 dc3109 pm3109 cd3109 ct3109 : Value}
    {c30 : Addr}
    {c2 : Addr}
    {c3 : Addr}
    {d3 : Addr} {odI3 anI3 : Option Addr} {slI3 : Array (Option Value)} {ocI3 kVI3 dcI3 pmI3 cdI3 ctI3 : Value}
    {nmx3 qx3 : Str} {Nx3 : Addr} {bsx3 : List Value} {snx3 : List Str} {subx3 : List Value} {abx3 : Bool} {colx3 : Option Bool} {ddx3 : Option Addr} {m0x3 m1x3 m2x3 m3x3 m5x3 : Option Value}
    {c4 : Addr}
    {d4 : Addr} {odI4 anI4 : Option Addr} {slI4 : Array (Option Value)} {ocI4 kVI4 dcI4 pmI4 cdI4 ctI4 : Value}
    {nmx4 qx4 : Str} {Nx4 : Addr} {bsx4 : List Value} {snx4 : List Str} {subx4 : List Value} {abx4 : Bool} {colx4 : Option Bool} {ddx4 : Option Addr} {m0x4 m1x4 m2x4 m3x4 m5x4 : Option Value}
    {c5 : Addr}
    {d5 : Addr} {odI5 anI5 : Option Addr} {slI5 : Array (Option Value)} {ocI5 kVI5 dcI5 pmI5 cdI5 ctI5 : Value}
    {nmx5 qx5 : Str} {Nx5 : Addr} {bsx5 : List Value} {snx5 : List Str} {subx5 : List Value} {abx5 : Bool} {colx5 : Option Bool} {ddx5 : Option Addr} {m0x5 m1x5 m2x5 m3x5 m5x5 : Option Value}
    {c6 : Addr}
    {tk_SIGNS : Tok}
    {tk_FARTHEST : Tok}
    {tk_LATEST : Tok}
    {tk_MOST_SIDE : Tok}
    {tk_LEFT_ALONE : Tok}
    {tk_GROUND : Tok}
    {tk_MOST_FRAME : Tok}
    (a12 : PySem.W.nsIn K mainGlobals "is_whole" = some (some (.ref f12))) (l12 : K.lookup f12 = some ⟨oc12, od12, .func (PySem.W.fnOf "is_whole" "is_whole" (defArgs s_is_whole) (defBody s_is_whole) (defScope s_is_whole) .none kV12 dc12 pm12 an12 cd12 ct12), sl12⟩) (c12 : PySem.W.codeIn K cd12 "is_whole" = true) (k12 : PySem.W.keepIn K (.ref f12) = true)
    (a13 : PySem.W.nsIn K mainGlobals "is_from_to" = some (some (.ref f13))) (l13 : K.lookup f13 = some ⟨oc13, od13, .func (PySem.W.fnOf "is_from_to" "is_from_to" (defArgs s_is_from_to) (defBody s_is_from_to) (defScope s_is_from_to) .none kV13 dc13 pm13 an13 cd13 ct13), sl13⟩) (c13 : PySem.W.codeIn K cd13 "is_from_to" = true) (k13 : PySem.W.keepIn K (.ref f13) = true)
    (a14 : PySem.W.nsIn K mainGlobals "is_sign" = some (some (.ref f14))) (l14 : K.lookup f14 = some ⟨oc14, od14, .func (PySem.W.fnOf "is_sign" "is_sign" (defArgs s_is_sign) (defBody s_is_sign) (defScope s_is_sign) .none kV14 dc14 pm14 an14 cd14 ct14), sl14⟩) (c14 : PySem.W.codeIn K cd14 "is_sign" = true) (k14 : PySem.W.keepIn K (.ref f14) = true)
    (a15 : PySem.W.nsIn K mainGlobals "is_spot" = some (some (.ref f15))) (l15 : K.lookup f15 = some ⟨oc15, od15, .func (PySem.W.fnOf "is_spot" "is_spot" (defArgs s_is_spot) (defBody s_is_spot) (defScope s_is_spot) .none kV15 dc15 pm15 an15 cd15 ct15), sl15⟩) (c15 : PySem.W.codeIn K cd15 "is_spot" = true) (k15 : PySem.W.keepIn K (.ref f15) = true)
    (a16 : PySem.W.nsIn K mainGlobals "is_turn" = some (some (.ref f16))) (l16 : K.lookup f16 = some ⟨oc16, od16, .func (PySem.W.fnOf "is_turn" "is_turn" (defArgs s_is_turn) (defBody s_is_turn) (defScope s_is_turn) .none kV16 dc16 pm16 an16 cd16 ct16), sl16⟩) (c16 : PySem.W.codeIn K cd16 "is_turn" = true) (k16 : PySem.W.keepIn K (.ref f16) = true)
    (a20 : PySem.W.nsIn K mainGlobals "are_rows_of" = some (some (.ref f20))) (l20 : K.lookup f20 = some ⟨oc20, od20, .func (PySem.W.fnOf "are_rows_of" "are_rows_of" (defArgs s_are_rows_of) (defBody s_are_rows_of) (defScope s_are_rows_of) .none kV20 dc20 pm20 an20 cd20 ct20), sl20⟩) (c20 : PySem.W.codeIn K cd20 "are_rows_of" = true) (k20 : PySem.W.keepIn K (.ref f20) = true)
    (a21 : PySem.W.nsIn K mainGlobals "is_picture" = some (some (.ref f21))) (l21 : K.lookup f21 = some ⟨oc21, od21, .func (PySem.W.fnOf "is_picture" "is_picture" (defArgs s_is_picture) (defBody s_is_picture) (defScope s_is_picture) .none kV21 dc21 pm21 an21 cd21 ct21), sl21⟩) (c21 : PySem.W.codeIn K cd21 "is_picture" = true) (k21 : PySem.W.keepIn K (.ref f21) = true)
    (a22 : PySem.W.nsIn K mainGlobals "is_piece" = some (some (.ref f22))) (l22 : K.lookup f22 = some ⟨oc22, od22, .func (PySem.W.fnOf "is_piece" "is_piece" (defArgs s_is_piece) (defBody s_is_piece) (defScope s_is_piece) .none kV22 dc22 pm22 an22 cd22 ct22), sl22⟩) (c22 : PySem.W.codeIn K cd22 "is_piece" = true) (k22 : PySem.W.keepIn K (.ref f22) = true)
    (a23 : PySem.W.nsIn K mainGlobals "spots_of" = some (some (.ref f23))) (l23 : K.lookup f23 = some ⟨oc23, od23, .func (PySem.W.fnOf "spots_of" "spots_of" (defArgs s_spots_of) (defBody s_spots_of) (defScope s_spots_of) .none kV23 dc23 pm23 an23 cd23 ct23), sl23⟩) (c23 : PySem.W.codeIn K cd23 "spots_of" = true) (k23 : PySem.W.keepIn K (.ref f23) = true)
    (a26 : PySem.W.nsIn K mainGlobals "need_good" = some (some (.ref f26))) (l26 : K.lookup f26 = some ⟨oc26, od26, .func (PySem.W.fnOf "need_good" "need_good" (defArgs s_need_good) (defBody s_need_good) (defScope s_need_good) .none kV26 dc26 pm26 an26 cd26 ct26), sl26⟩) (c26 : PySem.W.codeIn K cd26 "need_good" = true) (k26 : PySem.W.keepIn K (.ref f26) = true)
    (a27 : PySem.W.nsIn K mainGlobals "is_listed" = some (some (.ref f27))) (l27 : K.lookup f27 = some ⟨oc27, od27, .func (PySem.W.fnOf "is_listed" "is_listed" (defArgs s_is_listed) (defBody s_is_listed) (defScope s_is_listed) .none kV27 dc27 pm27 an27 cd27 ct27), sl27⟩) (c27 : PySem.W.codeIn K cd27 "is_listed" = true) (k27 : PySem.W.keepIn K (.ref f27) = true)
    (a28 : PySem.W.nsIn K mainGlobals "are_listed" = some (some (.ref f28))) (l28 : K.lookup f28 = some ⟨oc28, od28, .func (PySem.W.fnOf "are_listed" "are_listed" (defArgs s_are_listed) (defBody s_are_listed) (defScope s_are_listed) .none kV28 dc28 pm28 an28 cd28 ct28), sl28⟩) (c28 : PySem.W.codeIn K cd28 "are_listed" = true) (k28 : PySem.W.keepIn K (.ref f28) = true)
    (a29 : PySem.W.nsIn K mainGlobals "need_near" = some (some (.ref f29))) (l29 : K.lookup f29 = some ⟨oc29, od29, .func (PySem.W.fnOf "need_near" "need_near" (defArgs s_need_near) (defBody s_need_near) (defScope s_need_near) .none kV29 dc29 pm29 an29 cd29 ct29), sl29⟩) (c29 : PySem.W.codeIn K cd29 "need_near" = true) (k29 : PySem.W.keepIn K (.ref f29) = true)
    (a31 : PySem.W.nsIn K mainGlobals "endless" = some (some (.ref f31))) (l31 : K.lookup f31 = some ⟨oc31, od31, .func (PySem.W.fnOf "endless" "endless" (defArgs s_endless) (defBody s_endless) (defScope s_endless) .none (.ref kD31) dc31 pm31 an31 cd31 ct31), sl31⟩) (c31 : PySem.W.codeIn K cd31 "endless" = true) (k31 : PySem.W.keepIn K (.ref f31) = true)
    (kn31 : PySem.W.nsIn K kD31 "turn" = some (some (.int 0 ku31)))
    (a32 : PySem.W.nsIn K mainGlobals "laid_of" = some (some (.ref f32))) (l32 : K.lookup f32 = some ⟨oc32, od32, .func (PySem.W.fnOf "laid_of" "laid_of" (defArgs s_laid_of) (defBody s_laid_of) (defScope s_laid_of) .none kV32 dc32 pm32 an32 cd32 ct32), sl32⟩) (c32 : PySem.W.codeIn K cd32 "laid_of" = true) (k32 : PySem.W.keepIn K (.ref f32) = true)
    (a33 : PySem.W.nsIn K mainGlobals "torus" = some (some (.ref f33))) (l33 : K.lookup f33 = some ⟨oc33, od33, .func (PySem.W.fnOf "torus" "torus" (defArgs s_torus) (defBody s_torus) (defScope s_torus) .none (.ref kD33) dc33 pm33 an33 cd33 ct33), sl33⟩) (c33 : PySem.W.codeIn K cd33 "torus" = true) (k33 : PySem.W.keepIn K (.ref f33) = true)
    (kn33 : PySem.W.nsIn K kD33 "turn" = some (some (.int 0 ku33)))
    (a34 : PySem.W.nsIn K mainGlobals "box" = some (some (.ref f34))) (l34 : K.lookup f34 = some ⟨oc34, od34, .func (PySem.W.fnOf "box" "box" (defArgs s_box) (defBody s_box) (defScope s_box) .none (.ref kD34) dc34 pm34 an34 cd34 ct34), sl34⟩) (c34 : PySem.W.codeIn K cd34 "box" = true) (k34 : PySem.W.keepIn K (.ref f34) = true)
    (kn34 : PySem.W.nsIn K kD34 "turn" = some (some (.int 0 ku34)))
    (a36 : PySem.W.nsIn K mainGlobals "_law_bag" = some (some (.ref f36))) (l36 : K.lookup f36 = some ⟨oc36, od36, .func (PySem.W.fnOf "_law_bag" "_law_bag" (defArgs s_Lbag) (defBody s_Lbag) (defScope s_Lbag) .none kV36 dc36 pm36 an36 cd36 ct36), sl36⟩) (c36 : PySem.W.codeIn K cd36 "_law_bag" = true) (k36 : PySem.W.keepIn K (.ref f36) = true)
    (a37 : PySem.W.nsIn K mainGlobals "_law_take" = some (some (.ref f37))) (l37 : K.lookup f37 = some ⟨oc37, od37, .func (PySem.W.fnOf "_law_take" "_law_take" (defArgs s_Ltake) (defBody s_Ltake) (defScope s_Ltake) .none kV37 dc37 pm37 an37 cd37 ct37), sl37⟩) (c37 : PySem.W.codeIn K cd37 "_law_take" = true) (k37 : PySem.W.keepIn K (.ref f37) = true)
    (a38 : PySem.W.nsIn K mainGlobals "_law_signs" = some (some (.ref f38))) (l38 : K.lookup f38 = some ⟨oc38, od38, .func (PySem.W.fnOf "_law_signs" "_law_signs" (defArgs s_Lsigns) (defBody s_Lsigns) (defScope s_Lsigns) .none kV38 dc38 pm38 an38 cd38 ct38), sl38⟩) (c38 : PySem.W.codeIn K cd38 "_law_signs" = true) (k38 : PySem.W.keepIn K (.ref f38) = true)
    (a39 : PySem.W.nsIn K mainGlobals "_law_drawn_sign" = some (some (.ref f39))) (l39 : K.lookup f39 = some ⟨oc39, od39, .func (PySem.W.fnOf "_law_drawn_sign" "_law_drawn_sign" (defArgs s_Ldrawn_sign) (defBody s_Ldrawn_sign) (defScope s_Ldrawn_sign) .none kV39 dc39 pm39 an39 cd39 ct39), sl39⟩) (c39 : PySem.W.codeIn K cd39 "_law_drawn_sign" = true) (k39 : PySem.W.keepIn K (.ref f39) = true)
    (a40 : PySem.W.nsIn K mainGlobals "_law_class" = some (some (.ref f40))) (l40 : K.lookup f40 = some ⟨oc40, od40, .func (PySem.W.fnOf "_law_class" "_law_class" (defArgs s_Lclass) (defBody s_Lclass) (defScope s_Lclass) .none kV40 dc40 pm40 an40 cd40 ct40), sl40⟩) (c40 : PySem.W.codeIn K cd40 "_law_class" = true) (k40 : PySem.W.keepIn K (.ref f40) = true)
    (a41 : PySem.W.nsIn K mainGlobals "_law_is_whole" = some (some (.ref f41))) (l41 : K.lookup f41 = some ⟨oc41, od41, .func (PySem.W.fnOf "_law_is_whole" "_law_is_whole" (defArgs s_Lis_whole) (defBody s_Lis_whole) (defScope s_Lis_whole) .none kV41 dc41 pm41 an41 cd41 ct41), sl41⟩) (c41 : PySem.W.codeIn K cd41 "_law_is_whole" = true) (k41 : PySem.W.keepIn K (.ref f41) = true)
    (a42 : PySem.W.nsIn K mainGlobals "_law_is_sign" = some (some (.ref f42))) (l42 : K.lookup f42 = some ⟨oc42, od42, .func (PySem.W.fnOf "_law_is_sign" "_law_is_sign" (defArgs s_Lis_sign) (defBody s_Lis_sign) (defScope s_Lis_sign) .none kV42 dc42 pm42 an42 cd42 ct42), sl42⟩) (c42 : PySem.W.codeIn K cd42 "_law_is_sign" = true) (k42 : PySem.W.keepIn K (.ref f42) = true)
    (a43 : PySem.W.nsIn K mainGlobals "_law_is_cell" = some (some (.ref f43))) (l43 : K.lookup f43 = some ⟨oc43, od43, .func (PySem.W.fnOf "_law_is_cell" "_law_is_cell" (defArgs s_Lis_cell) (defBody s_Lis_cell) (defScope s_Lis_cell) .none kV43 dc43 pm43 an43 cd43 ct43), sl43⟩) (c43 : PySem.W.codeIn K cd43 "_law_is_cell" = true) (k43 : PySem.W.keepIn K (.ref f43) = true)
    (a44 : PySem.W.nsIn K mainGlobals "_law_are_cells" = some (some (.ref f44))) (l44 : K.lookup f44 = some ⟨oc44, od44, .func (PySem.W.fnOf "_law_are_cells" "_law_are_cells" (defArgs s_Lare_cells) (defBody s_Lare_cells) (defScope s_Lare_cells) .none kV44 dc44 pm44 an44 cd44 ct44), sl44⟩) (c44 : PySem.W.codeIn K cd44 "_law_are_cells" = true) (k44 : PySem.W.keepIn K (.ref f44) = true)
    (a45 : PySem.W.nsIn K mainGlobals "_law_is_picture" = some (some (.ref f45))) (l45 : K.lookup f45 = some ⟨oc45, od45, .func (PySem.W.fnOf "_law_is_picture" "_law_is_picture" (defArgs s_Lis_picture) (defBody s_Lis_picture) (defScope s_Lis_picture) .none kV45 dc45 pm45 an45 cd45 ct45), sl45⟩) (c45 : PySem.W.codeIn K cd45 "_law_is_picture" = true) (k45 : PySem.W.keepIn K (.ref f45) = true)
    (a46 : PySem.W.nsIn K mainGlobals "_law_cells" = some (some (.ref f46))) (l46 : K.lookup f46 = some ⟨oc46, od46, .func (PySem.W.fnOf "_law_cells" "_law_cells" (defArgs s_Lcells) (defBody s_Lcells) (defScope s_Lcells) .none kV46 dc46 pm46 an46 cd46 ct46), sl46⟩) (c46 : PySem.W.codeIn K cd46 "_law_cells" = true) (k46 : PySem.W.keepIn K (.ref f46) = true)
    (a47 : PySem.W.nsIn K mainGlobals "_law_deep" = some (some (.ref f47))) (l47 : K.lookup f47 = some ⟨oc47, od47, .func (PySem.W.fnOf "_law_deep" "_law_deep" (defArgs s_Ldeep) (defBody s_Ldeep) (defScope s_Ldeep) .none kV47 dc47 pm47 an47 cd47 ct47), sl47⟩) (c47 : PySem.W.codeIn K cd47 "_law_deep" = true) (k47 : PySem.W.keepIn K (.ref f47) = true)
    (a48 : PySem.W.nsIn K mainGlobals "_law_bent" = some (some (.ref f48))) (l48 : K.lookup f48 = some ⟨oc48, od48, .func (PySem.W.fnOf "_law_bent" "_law_bent" (defArgs s_Lbent) (defBody s_Lbent) (defScope s_Lbent) .none kV48 dc48 pm48 an48 cd48 ct48), sl48⟩) (c48 : PySem.W.codeIn K cd48 "_law_bent" = true) (k48 : PySem.W.keepIn K (.ref f48) = true)
    (a49 : PySem.W.nsIn K mainGlobals "_law_rows" = some (some (.ref f49))) (l49 : K.lookup f49 = some ⟨oc49, od49, .func (PySem.W.fnOf "_law_rows" "_law_rows" (defArgs s_Lrows) (defBody s_Lrows) (defScope s_Lrows) .none kV49 dc49 pm49 an49 cd49 ct49), sl49⟩) (c49 : PySem.W.codeIn K cd49 "_law_rows" = true) (k49 : PySem.W.keepIn K (.ref f49) = true)
    (a50 : PySem.W.nsIn K mainGlobals "_law_bent_rows" = some (some (.ref f50))) (l50 : K.lookup f50 = some ⟨oc50, od50, .func (PySem.W.fnOf "_law_bent_rows" "_law_bent_rows" (defArgs s_Lbent_rows) (defBody s_Lbent_rows) (defScope s_Lbent_rows) .none kV50 dc50 pm50 an50 cd50 ct50), sl50⟩) (c50 : PySem.W.codeIn K cd50 "_law_bent_rows" = true) (k50 : PySem.W.keepIn K (.ref f50) = true)
    (a51 : PySem.W.nsIn K mainGlobals "_law_told" = some (some (.ref f51))) (l51 : K.lookup f51 = some ⟨oc51, od51, .func (PySem.W.fnOf "_law_told" "_law_told" (defArgs s_Ltold) (defBody s_Ltold) (defScope s_Ltold) .none kV51 dc51 pm51 an51 cd51 ct51), sl51⟩) (c51 : PySem.W.codeIn K cd51 "_law_told" = true) (k51 : PySem.W.keepIn K (.ref f51) = true)
    (a52 : PySem.W.nsIn K mainGlobals "_law_due" = some (some (.ref f52))) (l52 : K.lookup f52 = some ⟨oc52, od52, .func (PySem.W.fnOf "_law_due" "_law_due" (defArgs s_Ldue) (defBody s_Ldue) (defScope s_Ldue) .none kV52 dc52 pm52 an52 cd52 ct52), sl52⟩) (c52 : PySem.W.codeIn K cd52 "_law_due" = true) (k52 : PySem.W.keepIn K (.ref f52) = true)
    (a53 : PySem.W.nsIn K mainGlobals "law" = some (some (.ref f53))) (l53 : K.lookup f53 = some ⟨oc53, od53, .func (PySem.W.fnOf "law" "law" (defArgs s_law) (defBody s_law) (defScope s_law) .none kV53 dc53 pm53 an53 cd53 ct53), sl53⟩) (c53 : PySem.W.codeIn K cd53 "law" = true) (k53 : PySem.W.keepIn K (.ref f53) = true)
    (aC30 : PySem.W.nsIn K mainGlobals "Field" = some (some (.ref c30))) (pg30 : PySem.W.plainGet K c30 Str.empty = true) (hd30 : PySem.W.hasDictIn K c30 = true) (po30 : PySem.W.plainOver K c30 = true) (sA30 : PySem.W.findIn K (.ref c30) "__setattr__" = some (some (.builtin "object.__setattr__"))) (mk30 : PySem.W.makesIn K c30 = true) (kC30 : PySem.W.keepIn K (.ref c30) = true)
    (ia30 : PySem.W.findIn K (.ref c30) "__class__" = some (some (.builtin "object.__class__"))) (ib30 : PySem.W.specialIn K (.builtin "object.__class__") "__get__" = some (some (.builtin "getset_descriptor.__get__"))) (ic30 : PySem.W.takesIn K (.builtin "object.__class__") = some true) (id30 : PySem.W.mroIn K c30 (.type "object") = some true) (ie30 : PySem.W.findIn K (.ref c30) "__ne__" = some (some (.builtin "object.__ne__")))
    (na30_form : PySem.W.findIn K (.ref c30) "form" = some none)
    (na30_laid : PySem.W.findIn K (.ref c30) "laid" = some none)
    (na30_when : PySem.W.findIn K (.ref c30) "when" = some none)
    (na30_width : PySem.W.findIn K (.ref c30) "width" = some none)
    (na30_height : PySem.W.findIn K (.ref c30) "height" = some none)
    (na30_rim : PySem.W.findIn K (.ref c30) "rim" = some none)
    (a3100 : PySem.W.findIn K (.ref c30) "__init__" = some (some (.ref f3100))) (if3100 : PySem.W.isFn K (.ref f3100) = true) (l3100 : K.lookup f3100 = some ⟨oc3100, od3100, .func (PySem.W.fnOf "__init__" "Field.__init__" (defArgs s_Field___init__) (defBody s_Field___init__) (defScope s_Field___init__) .none kV3100 dc3100 pm3100 an3100 cd3100 ct3100), sl3100⟩) (c3100_ : PySem.W.codeIn K cd3100 "Field.__init__" = true) (k3100 : PySem.W.keepIn K (.ref f3100) = true)
    (a3104 : PySem.W.findIn K (.ref c30) "kind" = some (some (.ref f3104))) (if3104 : PySem.W.isFn K (.ref f3104) = true) (l3104 : K.lookup f3104 = some ⟨oc3104, od3104, .func (PySem.W.fnOf "kind" "Field.kind" (defArgs s_Field_kind) (defBody s_Field_kind) (defScope s_Field_kind) .none kV3104 dc3104 pm3104 an3104 cd3104 ct3104), sl3104⟩) (c3104_ : PySem.W.codeIn K cd3104 "Field.kind" = true) (k3104 : PySem.W.keepIn K (.ref f3104) = true)
    (a3109 : PySem.W.findIn K (.ref c30) "frame" = some (some (.ref f3109))) (if3109 : PySem.W.isFn K (.ref f3109) = true) (l3109 : K.lookup f3109 = some ⟨oc3109, od3109, .func (PySem.W.fnOf "frame" "Field.frame" (defArgs s_Field_frame) (defBody s_Field_frame) (defScope s_Field_frame) .none kV3109 dc3109 pm3109 an3109 cd3109 ct3109), sl3109⟩) (c3109_ : PySem.W.codeIn K cd3109 "Field.frame" = true) (k3109 : PySem.W.keepIn K (.ref f3109) = true)
    (aC2 : PySem.W.nsIn K mainGlobals "CellError" = some (some (.ref c2)))
    (EC2 : ExcK K c2)
    (pC2 : PySem.W.excIn K c2 bmVE "ValueError.__new__" = true)
    (sC2 : PySem.W.specialIn K (.ref c2) "__getattribute__" = some (some (.builtin "type.__getattribute__"))) (rC2 : PySem.W.readsIn K c2 (.type "type") = true) (fC2 : PySem.W.findCls K (.ref c2) (.type "type") "__init__" = some (.val (.builtin "ValueError.__init__")))
    (aC3 : PySem.W.nsIn K mainGlobals "Wrong" = some (some (.ref c3)))
    (EC3 : ExcK K c3)
    (xL3 : K.lookup c3 = some (excClassObj nmx3 qx3 c3 Nx3 bsx3 [.ref c2, .type "ValueError", .type "Exception", .type "BaseException", .type "object"] true snx3 subx3 abx3 colx3 ddx3 m0x3 m1x3 m2x3 m3x3 m5x3 "ValueError.__new__"))
    (sa3 : PySem.W.findIn K (.ref c3) "__setattr__" = some (some (.builtin "object.__setattr__"))) (fi3 : PySem.W.findIn K (.ref c3) "__init__" = some (some (.ref d3))) (ti3 : PySem.W.typeIn K (.ref d3) = some (.type "function"))
    (lI3 : K.lookup d3 = some ⟨ocI3, odI3, .func (PySem.W.fnOf "__init__" "Wrong.__init__" (defArgs s_Wrong) (defBody s_Wrong) (defScope s_Wrong) .none kVI3 dcI3 pmI3 anI3 cdI3 ctI3), slI3⟩) (cI3 : PySem.W.codeIn K cdI3 "Wrong.__init__" = true) (kI3 : PySem.W.keepIn K (.ref d3) = true)
    (nC3_at : PySem.W.findIn K (.ref c3) "at" = some none)
    (aC4 : PySem.W.nsIn K mainGlobals "TooFar" = some (some (.ref c4)))
    (EC4 : ExcK K c4)
    (xL4 : K.lookup c4 = some (excClassObj nmx4 qx4 c4 Nx4 bsx4 [.ref c2, .type "ValueError", .type "Exception", .type "BaseException", .type "object"] true snx4 subx4 abx4 colx4 ddx4 m0x4 m1x4 m2x4 m3x4 m5x4 "ValueError.__new__"))
    (sa4 : PySem.W.findIn K (.ref c4) "__setattr__" = some (some (.builtin "object.__setattr__"))) (fi4 : PySem.W.findIn K (.ref c4) "__init__" = some (some (.ref d4))) (ti4 : PySem.W.typeIn K (.ref d4) = some (.type "function"))
    (lI4 : K.lookup d4 = some ⟨ocI4, odI4, .func (PySem.W.fnOf "__init__" "TooFar.__init__" (defArgs s_TooFar) (defBody s_TooFar) (defScope s_TooFar) .none kVI4 dcI4 pmI4 anI4 cdI4 ctI4), slI4⟩) (cI4 : PySem.W.codeIn K cdI4 "TooFar.__init__" = true) (kI4 : PySem.W.keepIn K (.ref d4) = true)
    (nC4_most : PySem.W.findIn K (.ref c4) "most" = some none)
    (aC5 : PySem.W.nsIn K mainGlobals "NoCell" = some (some (.ref c5)))
    (EC5 : ExcK K c5)
    (xL5 : K.lookup c5 = some (excClassObj nmx5 qx5 c5 Nx5 bsx5 [.ref c2, .type "ValueError", .type "Exception", .type "BaseException", .type "object"] true snx5 subx5 abx5 colx5 ddx5 m0x5 m1x5 m2x5 m3x5 m5x5 "ValueError.__new__"))
    (sa5 : PySem.W.findIn K (.ref c5) "__setattr__" = some (some (.builtin "object.__setattr__"))) (fi5 : PySem.W.findIn K (.ref c5) "__init__" = some (some (.ref d5))) (ti5 : PySem.W.typeIn K (.ref d5) = some (.type "function"))
    (lI5 : K.lookup d5 = some ⟨ocI5, odI5, .func (PySem.W.fnOf "__init__" "NoCell.__init__" (defArgs s_NoCell) (defBody s_NoCell) (defScope s_NoCell) .none kVI5 dcI5 pmI5 anI5 cdI5 ctI5), slI5⟩) (cI5 : PySem.W.codeIn K cdI5 "NoCell.__init__" = true) (kI5 : PySem.W.keepIn K (.ref d5) = true)
    (nC5_x : PySem.W.findIn K (.ref c5) "x" = some none)
    (nC5_y : PySem.W.findIn K (.ref c5) "y" = some none)
    (aC6 : PySem.W.nsIn K mainGlobals "Fixed" = some (some (.ref c6)))
    (EC6 : ExcK K c6)
    (pC6 : PySem.W.excIn K c6 bmVE "ValueError.__new__" = true)
    (eC_Wrong_CellError : PySem.W.exmOne K (.ref c3) (.ref c2) = some true)
    (kC_Wrong_Wrong : PySem.W.kitOne K (.ref c3) (.ref c3) = some true)
    (kC_Wrong_TooFar : PySem.W.kitOne K (.ref c3) (.ref c4) = some false)
    (kC_Wrong_NoCell : PySem.W.kitOne K (.ref c3) (.ref c5) = some false)
    (kC_Wrong_Fixed : PySem.W.kitOne K (.ref c3) (.ref c6) = some false)
    (eC_TooFar_CellError : PySem.W.exmOne K (.ref c4) (.ref c2) = some true)
    (kC_TooFar_Wrong : PySem.W.kitOne K (.ref c4) (.ref c3) = some false)
    (kC_TooFar_TooFar : PySem.W.kitOne K (.ref c4) (.ref c4) = some true)
    (kC_TooFar_NoCell : PySem.W.kitOne K (.ref c4) (.ref c5) = some false)
    (kC_TooFar_Fixed : PySem.W.kitOne K (.ref c4) (.ref c6) = some false)
    (z_isinstance : PySem.W.nsIn K mainGlobals "isinstance" = some none)
    (z_int : PySem.W.nsIn K mainGlobals "int" = some none)
    (z_bool : PySem.W.nsIn K mainGlobals "bool" = some none)
    (z_str : PySem.W.nsIn K mainGlobals "str" = some none)
    (z_len : PySem.W.nsIn K mainGlobals "len" = some none)
    (z_all : PySem.W.nsIn K mainGlobals "all" = some none)
    (z_list : PySem.W.nsIn K mainGlobals "list" = some none)
    (z_enumerate : PySem.W.nsIn K mainGlobals "enumerate" = some none)
    (z_tuple : PySem.W.nsIn K mainGlobals "tuple" = some none)
    (z_max : PySem.W.nsIn K mainGlobals "max" = some none)
    (z_abs : PySem.W.nsIn K mainGlobals "abs" = some none)
    (z_range : PySem.W.nsIn K mainGlobals "range" = some none)
    (z_min : PySem.W.nsIn K mainGlobals "min" = some none)
    (z_repr : PySem.W.nsIn K mainGlobals "repr" = some none)
    (q_SIGNS : PySem.W.nsIn K mainGlobals "SIGNS" = some (some (.str ".abcdefghijklmnopqrstuvwxyz" tk_SIGNS)))
    (q_FARTHEST : PySem.W.nsIn K mainGlobals "FARTHEST" = some (some (.int 1000000 tk_FARTHEST)))
    (q_LATEST : PySem.W.nsIn K mainGlobals "LATEST" = some (some (.int 1000000000 tk_LATEST)))
    (q_MOST_SIDE : PySem.W.nsIn K mainGlobals "MOST_SIDE" = some (some (.int 32 tk_MOST_SIDE)))
    (q_LEFT_ALONE : PySem.W.nsIn K mainGlobals "LEFT_ALONE" = some (some (.str "_" tk_LEFT_ALONE)))
    (q_GROUND : PySem.W.nsIn K mainGlobals "GROUND" = some (some (.str "." tk_GROUND)))
    (q_MOST_FRAME : PySem.W.nsIn K mainGlobals "MOST_FRAME" = some (some (.int 200 tk_MOST_FRAME))) :
    ∃ fd : FuncData, (∀ (s : Shared) (v : Value), BindsTo s fd ⟨[v], []⟩ [("_law_script", v)]) ∧ ∀ base : Heap, K.In base → base.Ns mainGlobals mg → FnG l.prog w K mg base CX0 8 fa fd ["_law_script"] (spLaw K) := by
  have e := hfa.symm.trans (PySem.W.mg_of X G a53)
  cases e
  have h12 := hasFn_mk (st := s_is_whole) (ps := p_is_whole) X G a12 l12 c12 k12 (fun us hl => match us, hl with | [_], _ => rfl)
  have h13 := hasFn_mk (st := s_is_from_to) (ps := p_is_from_to) X G a13 l13 c13 k13 (fun us hl => match us, hl with | [_, _, _], _ => rfl)
  have h14 := hasFn_mk (st := s_is_sign) (ps := p_is_sign) X G a14 l14 c14 k14 (fun us hl => match us, hl with | [_], _ => rfl)
  have h15 := hasFn_mk (st := s_is_spot) (ps := p_is_spot) X G a15 l15 c15 k15 (fun us hl => match us, hl with | [_], _ => rfl)
  have h16 := hasFn_mk (st := s_is_turn) (ps := p_is_turn) X G a16 l16 c16 k16 (fun us hl => match us, hl with | [_], _ => rfl)
  have h20 := hasFn_mk (st := s_are_rows_of) (ps := p_are_rows_of) X G a20 l20 c20 k20 (fun us hl => match us, hl with | [_, _], _ => rfl)
  have h21 := hasFn_mk (st := s_is_picture) (ps := p_is_picture) X G a21 l21 c21 k21 (fun us hl => match us, hl with | [_], _ => rfl)
  have h22 := hasFn_mk (st := s_is_piece) (ps := p_is_piece) X G a22 l22 c22 k22 (fun us hl => match us, hl with | [_], _ => rfl)
  have h23 := hasFn_mk (st := s_spots_of) (ps := p_spots_of) X G a23 l23 c23 k23 (fun us hl => match us, hl with | [_, _, _], _ => rfl)
  have h26 := hasFn_mk (st := s_need_good) (ps := p_need_good) X G a26 l26 c26 k26 (fun us hl => match us, hl with | [_, _], _ => rfl)
  have h27 := hasFn_mk (st := s_is_listed) (ps := p_is_listed) X G a27 l27 c27 k27 (fun us hl => match us, hl with | [_], _ => rfl)
  have h28 := hasFn_mk (st := s_are_listed) (ps := p_are_listed) X G a28 l28 c28 k28 (fun us hl => match us, hl with | [_], _ => rfl)
  have h29 := hasFn_mk (st := s_need_near) (ps := p_need_near) X G a29 l29 c29 k29 (fun us hl => match us, hl with | [_], _ => rfl)
  have h31 := hasKw_mk (st := s_endless) (ps := p_endless) (n := 1) (dv := (.int 0)) X G a31 l31 c31 k31 kn31 ⟨_, rfl⟩ (fun us w hl => match us, hl with | [_], _ => rfl) (fun us hl => match us, hl with | [_], _ => ⟨_, _, _, _, _, _, rfl, rfl, rfl⟩)
  have h32 := hasFn_mk (st := s_laid_of) (ps := p_laid_of) X G a32 l32 c32 k32 (fun us hl => match us, hl with | [_], _ => rfl)
  have h33 := hasKw_mk (st := s_torus) (ps := p_torus) (n := 1) (dv := (.int 0)) X G a33 l33 c33 k33 kn33 ⟨_, rfl⟩ (fun us w hl => match us, hl with | [_], _ => rfl) (fun us hl => match us, hl with | [_], _ => ⟨_, _, _, _, _, _, rfl, rfl, rfl⟩)
  have h34 := hasKw_mk (st := s_box) (ps := p_box) (n := 2) (dv := (.int 0)) X G a34 l34 c34 k34 kn34 ⟨_, rfl⟩ (fun us w hl => match us, hl with | [_, _], _ => rfl) (fun us hl => match us, hl with | [_, _], _ => ⟨_, _, _, _, _, _, rfl, rfl, rfl⟩)
  have h36 := hasFn_mk (st := s_Lbag) (ps := p_Lbag) X G a36 l36 c36 k36 (fun us hl => match us, hl with | [_], _ => rfl)
  have h37 := hasFn_mk (st := s_Ltake) (ps := p_Ltake) X G a37 l37 c37 k37 (fun us hl => match us, hl with | [_, _], _ => rfl)
  have h38 := hasFn_mk (st := s_Lsigns) (ps := p_Lsigns) X G a38 l38 c38 k38 (fun us hl => match us, hl with | [_], _ => rfl)
  have h39 := hasFn_mk (st := s_Ldrawn_sign) (ps := p_Ldrawn_sign) X G a39 l39 c39 k39 (fun us hl => match us, hl with | [_, _], _ => rfl)
  have h40 := hasFn_mk (st := s_Lclass) (ps := p_Lclass) X G a40 l40 c40 k40 (fun us hl => match us, hl with | [_], _ => rfl)
  have h41 := hasFn_mk (st := s_Lis_whole) (ps := p_Lis_whole) X G a41 l41 c41 k41 (fun us hl => match us, hl with | [_, _, _], _ => rfl)
  have h42 := hasFn_mk (st := s_Lis_sign) (ps := p_Lis_sign) X G a42 l42 c42 k42 (fun us hl => match us, hl with | [_], _ => rfl)
  have h43 := hasFn_mk (st := s_Lis_cell) (ps := p_Lis_cell) X G a43 l43 c43 k43 (fun us hl => match us, hl with | [_], _ => rfl)
  have h44 := hasFn_mk (st := s_Lare_cells) (ps := p_Lare_cells) X G a44 l44 c44 k44 (fun us hl => match us, hl with | [_], _ => rfl)
  have h45 := hasFn_mk (st := s_Lis_picture) (ps := p_Lis_picture) X G a45 l45 c45 k45 (fun us hl => match us, hl with | [_], _ => rfl)
  have h46 := hasFn_mk (st := s_Lcells) (ps := p_Lcells) X G a46 l46 c46 k46 (fun us hl => match us, hl with | [_], _ => rfl)
  have h47 := hasFn_mk (st := s_Ldeep) (ps := p_Ldeep) X G a47 l47 c47 k47 (fun us hl => match us, hl with | [], _ => rfl)
  have h48 := hasFn_mk (st := s_Lbent) (ps := p_Lbent) X G a48 l48 c48 k48 (fun us hl => match us, hl with | [_, _], _ => rfl)
  have h49 := hasFn_mk (st := s_Lrows) (ps := p_Lrows) X G a49 l49 c49 k49 (fun us hl => match us, hl with | [_], _ => rfl)
  have h50 := hasFn_mk (st := s_Lbent_rows) (ps := p_Lbent_rows) X G a50 l50 c50 k50 (fun us hl => match us, hl with | [_, _], _ => rfl)
  have h51 := hasFn_mk (st := s_Ltold) (ps := p_Ltold) X G a51 l51 c51 k51 (fun us hl => match us, hl with | [_, _], _ => rfl)
  have h52 := hasFn_mk (st := s_Ldue) (ps := p_Ldue) X G a52 l52 c52 k52 (fun us hl => match us, hl with | [_, _], _ => rfl)
  have h53 := hasFn_mk (st := s_law) (ps := p_law) X G a53 l53 c53 k53 (fun us hl => match us, hl with | [_], _ => rfl)
  have h3100 := hasMt_mk (st := s_Field___init__) (ps := p_Field___init__) a3100 if3100 l3100 c3100_ k3100 (fun us hl => match us, hl with | [_, _, _, _, _, _, _], _ => rfl)
  have h3104 := hasMt_mk (st := s_Field_kind) (ps := p_Field_kind) a3104 if3104 l3104 c3104_ k3104 (fun us hl => match us, hl with | [_], _ => rfl)
  have h3109 := hasMt_mk (st := s_Field_frame) (ps := p_Field_frame) a3109 if3109 l3109 c3109_ k3109 (fun us hl => match us, hl with | [_], _ => rfl)
  have hx3 := initX_mk (st := s_Wrong) (ps := ["self", "at"]) X G aC3 EC3 (oexK_of xL3 rfl sa3 fi3 ti3) lI3 cI3 kI3 (fun us hl => match us, hl with | [_, _], _ => rfl)
  have hx4 := initX_mk (st := s_TooFar) (ps := ["self", "most"]) X G aC4 EC4 (oexK_of xL4 rfl sa4 fi4 ti4) lI4 cI4 kI4 (fun us hl => match us, hl with | [_, _], _ => rfl)
  have hx5 := initX_mk (st := s_NoCell) (ps := ["self", "x", "y"]) X G aC5 EC5 (oexK_of xL5 rfl sa5 fi5 ti5) lI5 cI5 kI5 (fun us hl => match us, hl with | [_, _, _], _ => rfl)
  have T : Txt K mg (adF [(12, f12), (13, f13), (14, f14), (15, f15), (16, f16), (20, f20), (21, f21), (22, f22), (23, f23), (26, f26), (27, f27), (28, f28), (29, f29), (31, f31), (32, f32), (33, f33), (34, f34), (36, f36), (37, f37), (38, f38), (39, f39), (40, f40), (41, f41), (42, f42), (43, f43), (44, f44), (45, f45), (46, f46), (47, f47), (48, f48), (49, f49), (50, f50), (51, f51), (52, f52), (53, fa), (3100, f3100), (3104, f3104), (3109, f3109), (30, c30), (2, c2), (3, c3), (4, c4), (5, c5), (6, c6), (1003, d3), (1004, d4), (1005, d5)]) (fdF (PySem.W.fnOf "law" "law" (defArgs s_law) (defBody s_law) (defScope s_law) .none kV53 dc53 pm53 an53 cd53 ct53) [(12, PySem.W.fnOf "is_whole" "is_whole" (defArgs s_is_whole) (defBody s_is_whole) (defScope s_is_whole) .none kV12 dc12 pm12 an12 cd12 ct12), (13, PySem.W.fnOf "is_from_to" "is_from_to" (defArgs s_is_from_to) (defBody s_is_from_to) (defScope s_is_from_to) .none kV13 dc13 pm13 an13 cd13 ct13), (14, PySem.W.fnOf "is_sign" "is_sign" (defArgs s_is_sign) (defBody s_is_sign) (defScope s_is_sign) .none kV14 dc14 pm14 an14 cd14 ct14), (15, PySem.W.fnOf "is_spot" "is_spot" (defArgs s_is_spot) (defBody s_is_spot) (defScope s_is_spot) .none kV15 dc15 pm15 an15 cd15 ct15), (16, PySem.W.fnOf "is_turn" "is_turn" (defArgs s_is_turn) (defBody s_is_turn) (defScope s_is_turn) .none kV16 dc16 pm16 an16 cd16 ct16), (20, PySem.W.fnOf "are_rows_of" "are_rows_of" (defArgs s_are_rows_of) (defBody s_are_rows_of) (defScope s_are_rows_of) .none kV20 dc20 pm20 an20 cd20 ct20), (21, PySem.W.fnOf "is_picture" "is_picture" (defArgs s_is_picture) (defBody s_is_picture) (defScope s_is_picture) .none kV21 dc21 pm21 an21 cd21 ct21), (22, PySem.W.fnOf "is_piece" "is_piece" (defArgs s_is_piece) (defBody s_is_piece) (defScope s_is_piece) .none kV22 dc22 pm22 an22 cd22 ct22), (23, PySem.W.fnOf "spots_of" "spots_of" (defArgs s_spots_of) (defBody s_spots_of) (defScope s_spots_of) .none kV23 dc23 pm23 an23 cd23 ct23), (26, PySem.W.fnOf "need_good" "need_good" (defArgs s_need_good) (defBody s_need_good) (defScope s_need_good) .none kV26 dc26 pm26 an26 cd26 ct26), (27, PySem.W.fnOf "is_listed" "is_listed" (defArgs s_is_listed) (defBody s_is_listed) (defScope s_is_listed) .none kV27 dc27 pm27 an27 cd27 ct27), (28, PySem.W.fnOf "are_listed" "are_listed" (defArgs s_are_listed) (defBody s_are_listed) (defScope s_are_listed) .none kV28 dc28 pm28 an28 cd28 ct28), (29, PySem.W.fnOf "need_near" "need_near" (defArgs s_need_near) (defBody s_need_near) (defScope s_need_near) .none kV29 dc29 pm29 an29 cd29 ct29), (31, PySem.W.fnOf "endless" "endless" (defArgs s_endless) (defBody s_endless) (defScope s_endless) .none (.ref kD31) dc31 pm31 an31 cd31 ct31), (32, PySem.W.fnOf "laid_of" "laid_of" (defArgs s_laid_of) (defBody s_laid_of) (defScope s_laid_of) .none kV32 dc32 pm32 an32 cd32 ct32), (33, PySem.W.fnOf "torus" "torus" (defArgs s_torus) (defBody s_torus) (defScope s_torus) .none (.ref kD33) dc33 pm33 an33 cd33 ct33), (34, PySem.W.fnOf "box" "box" (defArgs s_box) (defBody s_box) (defScope s_box) .none (.ref kD34) dc34 pm34 an34 cd34 ct34), (36, PySem.W.fnOf "_law_bag" "_law_bag" (defArgs s_Lbag) (defBody s_Lbag) (defScope s_Lbag) .none kV36 dc36 pm36 an36 cd36 ct36), (37, PySem.W.fnOf "_law_take" "_law_take" (defArgs s_Ltake) (defBody s_Ltake) (defScope s_Ltake) .none kV37 dc37 pm37 an37 cd37 ct37), (38, PySem.W.fnOf "_law_signs" "_law_signs" (defArgs s_Lsigns) (defBody s_Lsigns) (defScope s_Lsigns) .none kV38 dc38 pm38 an38 cd38 ct38), (39, PySem.W.fnOf "_law_drawn_sign" "_law_drawn_sign" (defArgs s_Ldrawn_sign) (defBody s_Ldrawn_sign) (defScope s_Ldrawn_sign) .none kV39 dc39 pm39 an39 cd39 ct39), (40, PySem.W.fnOf "_law_class" "_law_class" (defArgs s_Lclass) (defBody s_Lclass) (defScope s_Lclass) .none kV40 dc40 pm40 an40 cd40 ct40), (41, PySem.W.fnOf "_law_is_whole" "_law_is_whole" (defArgs s_Lis_whole) (defBody s_Lis_whole) (defScope s_Lis_whole) .none kV41 dc41 pm41 an41 cd41 ct41), (42, PySem.W.fnOf "_law_is_sign" "_law_is_sign" (defArgs s_Lis_sign) (defBody s_Lis_sign) (defScope s_Lis_sign) .none kV42 dc42 pm42 an42 cd42 ct42), (43, PySem.W.fnOf "_law_is_cell" "_law_is_cell" (defArgs s_Lis_cell) (defBody s_Lis_cell) (defScope s_Lis_cell) .none kV43 dc43 pm43 an43 cd43 ct43), (44, PySem.W.fnOf "_law_are_cells" "_law_are_cells" (defArgs s_Lare_cells) (defBody s_Lare_cells) (defScope s_Lare_cells) .none kV44 dc44 pm44 an44 cd44 ct44), (45, PySem.W.fnOf "_law_is_picture" "_law_is_picture" (defArgs s_Lis_picture) (defBody s_Lis_picture) (defScope s_Lis_picture) .none kV45 dc45 pm45 an45 cd45 ct45), (46, PySem.W.fnOf "_law_cells" "_law_cells" (defArgs s_Lcells) (defBody s_Lcells) (defScope s_Lcells) .none kV46 dc46 pm46 an46 cd46 ct46), (47, PySem.W.fnOf "_law_deep" "_law_deep" (defArgs s_Ldeep) (defBody s_Ldeep) (defScope s_Ldeep) .none kV47 dc47 pm47 an47 cd47 ct47), (48, PySem.W.fnOf "_law_bent" "_law_bent" (defArgs s_Lbent) (defBody s_Lbent) (defScope s_Lbent) .none kV48 dc48 pm48 an48 cd48 ct48), (49, PySem.W.fnOf "_law_rows" "_law_rows" (defArgs s_Lrows) (defBody s_Lrows) (defScope s_Lrows) .none kV49 dc49 pm49 an49 cd49 ct49), (50, PySem.W.fnOf "_law_bent_rows" "_law_bent_rows" (defArgs s_Lbent_rows) (defBody s_Lbent_rows) (defScope s_Lbent_rows) .none kV50 dc50 pm50 an50 cd50 ct50), (51, PySem.W.fnOf "_law_told" "_law_told" (defArgs s_Ltold) (defBody s_Ltold) (defScope s_Ltold) .none kV51 dc51 pm51 an51 cd51 ct51), (52, PySem.W.fnOf "_law_due" "_law_due" (defArgs s_Ldue) (defBody s_Ldue) (defScope s_Ldue) .none kV52 dc52 pm52 an52 cd52 ct52), (53, PySem.W.fnOf "law" "law" (defArgs s_law) (defBody s_law) (defScope s_law) .none kV53 dc53 pm53 an53 cd53 ct53), (3100, PySem.W.fnOf "__init__" "Field.__init__" (defArgs s_Field___init__) (defBody s_Field___init__) (defScope s_Field___init__) .none kV3100 dc3100 pm3100 an3100 cd3100 ct3100), (3104, PySem.W.fnOf "kind" "Field.kind" (defArgs s_Field_kind) (defBody s_Field_kind) (defScope s_Field_kind) .none kV3104 dc3104 pm3104 an3104 cd3104 ct3104), (3109, PySem.W.fnOf "frame" "Field.frame" (defArgs s_Field_frame) (defBody s_Field_frame) (defScope s_Field_frame) .none kV3109 dc3109 pm3109 an3109 cd3109 ct3109), (1003, PySem.W.fnOf "__init__" "Wrong.__init__" (defArgs s_Wrong) (defBody s_Wrong) (defScope s_Wrong) .none kVI3 dcI3 pmI3 anI3 cdI3 ctI3), (1004, PySem.W.fnOf "__init__" "TooFar.__init__" (defArgs s_TooFar) (defBody s_TooFar) (defScope s_TooFar) .none kVI4 dcI4 pmI4 anI4 cdI4 ctI4), (1005, PySem.W.fnOf "__init__" "NoCell.__init__" (defArgs s_NoCell) (defBody s_NoCell) (defScope s_NoCell) .none kVI5 dcI5 pmI5 anI5 cdI5 ctI5)]) :=
    { m_isinstance := PySem.W.mg_none_of X G z_isinstance, m_int := PySem.W.mg_none_of X G z_int, m_bool := PySem.W.mg_none_of X G z_bool, m_str := PySem.W.mg_none_of X G z_str, m_len := PySem.W.mg_none_of X G z_len, m_all := PySem.W.mg_none_of X G z_all, m_list := PySem.W.mg_none_of X G z_list, m_enumerate := PySem.W.mg_none_of X G z_enumerate, m_tuple := PySem.W.mg_none_of X G z_tuple, m_max := PySem.W.mg_none_of X G z_max, m_abs := PySem.W.mg_none_of X G z_abs, m_range := PySem.W.mg_none_of X G z_range, m_min := PySem.W.mg_none_of X G z_min, m_repr := PySem.W.mg_none_of X G z_repr, c_SIGNS := hasC_str X G q_SIGNS, c_FARTHEST := hasC_int X G q_FARTHEST, c_LATEST := hasC_int X G q_LATEST, c_MOST_SIDE := hasC_int X G q_MOST_SIDE, c_LEFT_ALONE := hasC_str X G q_LEFT_ALONE, c_GROUND := hasC_str X G q_GROUND, c_MOST_FRAME := hasC_int X G q_MOST_FRAME, x_CellError := plainX_mk X G aC2 EC2 pC2, b_CellError := baseX_mk X G aC2 sC2 rC2 fC2, x_Wrong := hx3, f_Wrong_at := nC3_at, x_TooFar := hx4, f_TooFar_most := nC4_most, x_NoCell := hx5, f_NoCell_x := nC5_x, f_NoCell_y := nC5_y, x_Fixed := plainX_mk X G aC6 EC6 pC6, cl_Field := ⟨pg30, hd30, po30, sA30⟩, mk_Field := ⟨mk30, a3100, if3100, kC30⟩, g_Field := PySem.W.mg_of X G aC30, is_Field := ⟨ia30, ib30, ic30, id30⟩, ne_Field := ⟨ie30, id30⟩, na_Field_form := na30_form, na_Field_laid := na30_laid, na_Field_when := na30_when, na_Field_width := na30_width, na_Field_height := na30_height, na_Field_rim := na30_rim, e_Wrong_CellError := eC_Wrong_CellError, k_Wrong_Wrong := kC_Wrong_Wrong, k_Wrong_TooFar := kC_Wrong_TooFar, k_Wrong_NoCell := kC_Wrong_NoCell, k_Wrong_Fixed := kC_Wrong_Fixed, e_TooFar_CellError := eC_TooFar_CellError, k_TooFar_Wrong := kC_TooFar_Wrong, k_TooFar_TooFar := kC_TooFar_TooFar, k_TooFar_NoCell := kC_TooFar_NoCell, k_TooFar_Fixed := kC_TooFar_Fixed, h_is_whole := h12, h_is_from_to := h13, h_is_sign := h14, h_is_spot := h15, h_is_turn := h16, h_are_rows_of := h20, h_is_picture := h21, h_is_piece := h22, h_spots_of := h23, h_need_good := h26, h_is_listed := h27, h_are_listed := h28, h_need_near := h29, h_endless := h31, h_laid_of := h32, h_torus := h33, h_box := h34, h_Lbag := h36, h_Ltake := h37, h_Lsigns := h38, h_Ldrawn_sign := h39, h_Lclass := h40, h_Lis_whole := h41, h_Lis_sign := h42, h_Lis_cell := h43, h_Lare_cells := h44, h_Lis_picture := h45, h_Lcells := h46, h_Ldeep := h47, h_Lbent := h48, h_Lrows := h49, h_Lbent_rows := h50, h_Ltold := h51, h_Ldue := h52, h_law := h53, h_Field___init__ := h3100, h_Field_kind := h3104, h_Field_frame := h3109 }
  exact ⟨_, fun s v => .of_eq rfl, fun base _ _ => ok_law T⟩
theorem walk {l : PySem.W.OpenLaw} {q : Program} {loose : List Str} {XP : (Str → Option Value) → Heap → Prop} {YP : World → Heap → Prop} {d : DefRec} {K : Params → PySem.W.Frag} (hn : l.most = some 63) (hdf : d.params.defaults = [])
    (hY : ∀ (w : World) (h : Heap), YP w h → (K w.params).In h)
    (F : ∀ (w : World) (mg : Str → Option Value) (fa : Addr) (h : Heap), (K w.params).In h → h.Ns mainGlobals mg → mg d.name = some (.ref fa) →
      ∃ fd : FuncData, (∀ (s : Shared) (u : Value), BindsTo s fd ⟨[u], []⟩ [("_law_script", u)]) ∧ ∀ base : Heap, (K w.params).In base → base.Ns mainGlobals mg → FnG l.prog w (K w.params) mg base CX0 8 fa fd ["_law_script"] (spLaw (K w.params))) :
    PySem.W.WalkO q loose XP YP l.row.toRowW d [] (fun f vs => PySem.call f vs) :=
  walk_ofG (n := 63) (k := 8) (x := "_law_script") (sp := spLaw) hn (by decide) hdf ⟨rfl, by decide, by decide⟩ hY F fun _ _ a ns hl hS => ⟨a, ns, rfl, hS, hl, fun _ => rfl⟩
end Law
namespace Law
def lo0 : List PySem.Str := ["_wall", "CellError", "Wrong", "TooFar", "NoCell", "Fixed", "SIGNS", "GROUND", "FARTHEST", "LATEST", "is_whole", "is_from_to", "is_sign", "is_spot", "is_turn", "MOST_SIDE", "LEFT_ALONE", "are_rows_of", "is_picture", "is_piece", "spots_of", "MOST_FRAME", "need_good", "is_listed", "are_listed", "need_near", "Field", "endless", "laid_of", "torus"]
def lo1 : List PySem.Str := ["box", "_law_bag", "_law_take", "_law_signs", "_law_drawn_sign", "_law_class", "_law_is_whole", "_law_is_sign", "_law_is_cell", "_law_are_cells", "_law_is_picture", "_law_cells", "_law_deep", "_law_bent", "_law_rows", "_law_bent_rows", "_law_told", "_law_due"]
def loA : List PySem.Str := lo0 ++ lo1
def qv : PySem.Program := PySem.W.view PySem.Challenge.rw_cellscript_k32_made_refused.prog [53]
end Law
open PySem PySem.W PySem.Calls PyProof.Rows in
set_option hygiene false in
local macro_rules
  | `(tactic| o_head ($f:term $k:term $a:term $e:term)) => `(tactic| (rotate_left; exact ($k, $a); exact hH))
open PySem PySem.W PySem.Calls PyProof.Rows in
set_option maxRecDepth 100000 in
set_option maxHeartbeats 0 in
noncomputable def Law.KA : (Params → Frag) × List Addr := by
  refine (fun (_ : PySem.Challenge.rw_cellscript_k32_made_refused.row.Holds → PySem.Challenge.rw_cellscript_k32_made_refused.row.Holds) (X : (Params → Frag) × List Addr) => X) ?_ ?_
  intro hH
  k_head
open PySem PySem.W PySem.Calls PyProof.Rows in
noncomputable def Law.KX : Params → Frag := Law.KA.1
open PySem PySem.W PySem.Calls PyProof.Rows in
noncomputable def Law.aX : List Addr := Law.KA.2
open PySem PySem.W PySem.Calls PyProof.Rows in
theorem Law.ekX : ∀ P, Law.aX = (Law.KX P).map (·.1) := fun P => by kernel_rfl
open PySem PySem.W PySem.Calls PyProof.Rows in
theorem Law.run0 (w : World) (os : OsState) : (HeadRun.endF (HeadRun.stepQ (HeadRun.denQ HeadRun.tabQ) PySem.Challenge.rw_cellscript_k32_made_refused.row.prog (w.withFollow "special-get-raises" false)) 30000 PySem.Challenge.rw_cellscript_k32_made_refused.row.prog (w.withFollow "special-get-raises" false) os).map (fun s => (HeadRun.looksF PySem.Challenge.rw_cellscript_k32_made_refused.row.prog (boot_heap (w.withFollow "special-get-raises" false).params) s.abs, HeadRun.seenQ Law.qv Law.loA (importedModules PySem.Challenge.rw_cellscript_k32_made_refused.row.prog.main.body) (fun s => xlAt Law.qv [] s && recOk (RowW.records (OpenRow.toRowW PySem.Challenge.rw_cellscript_k32_made_refused.row)) s) s.abs, Law.aX.map (HeadRun.getT s))) = some (true, openGood Law.qv Law.loA, (Law.KX (w.withFollow "special-get-raises" false).params).map fun x => some x.2) := by kernel_rfl
open PySem PySem.W PySem.Calls PyProof.Rows in
theorem Law.run1 (w : World) (os : OsState) : (HeadRun.endF (HeadRun.stepQ (HeadRun.denQ HeadRun.tabQ) PySem.Challenge.rw_cellscript_k32_made_refused.row.prog (w.withFollow "special-get-raises" true)) 30000 PySem.Challenge.rw_cellscript_k32_made_refused.row.prog (w.withFollow "special-get-raises" true) os).map (fun s => (HeadRun.looksF PySem.Challenge.rw_cellscript_k32_made_refused.row.prog (boot_heap (w.withFollow "special-get-raises" true).params) s.abs, HeadRun.seenQ Law.qv Law.loA (importedModules PySem.Challenge.rw_cellscript_k32_made_refused.row.prog.main.body) (fun s => xlAt Law.qv [] s && recOk (RowW.records (OpenRow.toRowW PySem.Challenge.rw_cellscript_k32_made_refused.row)) s) s.abs, Law.aX.map (HeadRun.getT s))) = some (true, openGood Law.qv Law.loA, (Law.KX (w.withFollow "special-get-raises" true).params).map fun x => some x.2) := by kernel_rfl
open PySem PySem.W PySem.Calls PyProof.Rows in
set_option maxRecDepth 100000 in
set_option maxHeartbeats 0 in
theorem PySem.Challenge.cw_cellscript_k32_made_refused_holds : PySem.Challenge.rw_cellscript_k32_made_refused.Holds := by
  w_on; o_law
  refine holds_open (q := Law.qv) (loose := Law.loA) (Xt := fun s => xlAt Law.qv [] s && recOk (RowW.records (OpenRow.toRowW PySem.Challenge.rw_cellscript_k32_made_refused.row)) s) (XP := XL Law.qv []) (Yf := Hook.obs (kHook Law.KX Law.aX Law.ekX)) (Ya := Hook.val (kHook Law.KX Law.aX Law.ekX)) (YP := Hook.says (kHook Law.KX Law.aX Law.ekX)) (N := 30800) ?hl (Hook.of (kHook Law.KX Law.aX Law.ekX)) (Hook.keeps (kHook Law.KX Law.aX Law.ekX)) (fun s e => xl_of s (Bool.and_eq_true_iff.mp e).1) XL.keeps (by rfl) (by rfl) (by rfl) (fun s e => recFacts_of (Bool.and_eq_true_iff.mp e).2) (by rfl) (by first | assumption | decide +kernel) (by decide +kernel) ⟨rfl, rfl, rfl, rfl, rfl, by decide +kernel⟩ ?hw ?hc
  (case hl => exact D3.left_two (M := 30000) (by kernel_rfl) (by rfl) (fun s => by kernel_rfl) (by rfl) Law.run0 Law.run1)
  (case hw => w_witness2)
  delta Law.KX Law.KA
  dsimp only
  k_fill
  refine Law.walk (l := PySem.Challenge.rw_cellscript_k32_made_refused) rfl rfl (fun w h Y => PySem.W.kIn_of Y) ?F
  case F =>
    intro w mg fa h KX G hmg
    refine' Law.all_mk KX G hmg ?a12 ?l12 ?c12 ?k12 ?a13 ?l13 ?c13 ?k13 ?a14 ?l14 ?c14 ?k14 ?a15 ?l15 ?c15 ?k15 ?a16 ?l16 ?c16 ?k16 ?a20 ?l20 ?c20 ?k20 ?a21 ?l21 ?c21 ?k21 ?a22 ?l22 ?c22 ?k22 ?a23 ?l23 ?c23 ?k23 ?a26 ?l26 ?c26 ?k26 ?a27 ?l27 ?c27 ?k27 ?a28 ?l28 ?c28 ?k28 ?a29 ?l29 ?c29 ?k29 ?a31 ?l31 ?c31 ?k31 ?kn31 ?a32 ?l32 ?c32 ?k32 ?a33 ?l33 ?c33 ?k33 ?kn33 ?a34 ?l34 ?c34 ?k34 ?kn34 ?a36 ?l36 ?c36 ?k36 ?a37 ?l37 ?c37 ?k37 ?a38 ?l38 ?c38 ?k38 ?a39 ?l39 ?c39 ?k39 ?a40 ?l40 ?c40 ?k40 ?a41 ?l41 ?c41 ?k41 ?a42 ?l42 ?c42 ?k42 ?a43 ?l43 ?c43 ?k43 ?a44 ?l44 ?c44 ?k44 ?a45 ?l45 ?c45 ?k45 ?a46 ?l46 ?c46 ?k46 ?a47 ?l47 ?c47 ?k47 ?a48 ?l48 ?c48 ?k48 ?a49 ?l49 ?c49 ?k49 ?a50 ?l50 ?c50 ?k50 ?a51 ?l51 ?c51 ?k51 ?a52 ?l52 ?c52 ?k52 ?a53 ?l53 ?c53 ?k53 ?aC30 ?pg30 ?hd30 ?po30 ?sA30 ?mk30 ?kC30 ?ia30 ?ib30 ?ic30 ?id30 ?ie30 ?na30_form ?na30_laid ?na30_when ?na30_width ?na30_height ?na30_rim ?a3100 ?if3100 ?l3100 ?c3100_ ?k3100 ?a3104 ?if3104 ?l3104 ?c3104_ ?k3104 ?a3109 ?if3109 ?l3109 ?c3109_ ?k3109 ?aC2 ?EC2 ?pC2 ?sC2 ?rC2 ?fC2 ?aC3 ?EC3 ?xL3 ?sa3 ?fi3 ?ti3 ?lI3 ?cI3 ?kI3 ?nC3_at ?aC4 ?EC4 ?xL4 ?sa4 ?fi4 ?ti4 ?lI4 ?cI4 ?kI4 ?nC4_most ?aC5 ?EC5 ?xL5 ?sa5 ?fi5 ?ti5 ?lI5 ?cI5 ?kI5 ?nC5_x ?nC5_y ?aC6 ?EC6 ?pC6 ?eC_Wrong_CellError ?kC_Wrong_Wrong ?kC_Wrong_TooFar ?kC_Wrong_NoCell ?kC_Wrong_Fixed ?eC_TooFar_CellError ?kC_TooFar_Wrong ?kC_TooFar_TooFar ?kC_TooFar_NoCell ?kC_TooFar_Fixed ?z_isinstance ?z_int ?z_bool ?z_str ?z_len ?z_all ?z_list ?z_enumerate ?z_tuple ?z_max ?z_abs ?z_range ?z_min ?z_repr ?q_SIGNS ?q_FARTHEST ?q_LATEST ?q_MOST_SIDE ?q_LEFT_ALONE ?q_GROUND ?q_MOST_FRAME
    (case a12 => k_is)
    (case l12 => k_is)
    (case c12 => k_is)
    (case k12 => k_is)
    (case a13 => k_is)
    (case l13 => k_is)
    (case c13 => k_is)
    (case k13 => k_is)
    (case a14 => k_is)
    (case l14 => k_is)
    (case c14 => k_is)
    (case k14 => k_is)
    (case a15 => k_is)
    (case l15 => k_is)
    (case c15 => k_is)
    (case k15 => k_is)
    (case a16 => k_is)
    (case l16 => k_is)
    (case c16 => k_is)
    (case k16 => k_is)
    (case a20 => k_is)
    (case l20 => k_is)
    (case c20 => k_is)
    (case k20 => k_is)
    (case a21 => k_is)
    (case l21 => k_is)
    (case c21 => k_is)
    (case k21 => k_is)
    (case a22 => k_is)
    (case l22 => k_is)
    (case c22 => k_is)
    (case k22 => k_is)
    (case a23 => k_is)
    (case l23 => k_is)
    (case c23 => k_is)
    (case k23 => k_is)
    (case a26 => k_is)
    (case l26 => k_is)
    (case c26 => k_is)
    (case k26 => k_is)
    (case a27 => k_is)
    (case l27 => k_is)
    (case c27 => k_is)
    (case k27 => k_is)
    (case a28 => k_is)
    (case l28 => k_is)
    (case c28 => k_is)
    (case k28 => k_is)
    (case a29 => k_is)
    (case l29 => k_is)
    (case c29 => k_is)
    (case k29 => k_is)
    (case a31 => k_is)
    (case l31 => k_is)
    (case c31 => k_is)
    (case k31 => k_is)
    (case kn31 => k_is)
    (case a32 => k_is)
    (case l32 => k_is)
    (case c32 => k_is)
    (case k32 => k_is)
    (case a33 => k_is)
    (case l33 => k_is)
    (case c33 => k_is)
    (case k33 => k_is)
    (case kn33 => k_is)
    (case a34 => k_is)
    (case l34 => k_is)
    (case c34 => k_is)
    (case k34 => k_is)
    (case kn34 => k_is)
    (case a36 => k_is)
    (case l36 => k_is)
    (case c36 => k_is)
    (case k36 => k_is)
    (case a37 => k_is)
    (case l37 => k_is)
    (case c37 => k_is)
    (case k37 => k_is)
    (case a38 => k_is)
    (case l38 => k_is)
    (case c38 => k_is)
    (case k38 => k_is)
    (case a39 => k_is)
    (case l39 => k_is)
    (case c39 => k_is)
    (case k39 => k_is)
    (case a40 => k_is)
    (case l40 => k_is)
    (case c40 => k_is)
    (case k40 => k_is)
    (case a41 => k_is)
    (case l41 => k_is)
    (case c41 => k_is)
    (case k41 => k_is)
    (case a42 => k_is)
    (case l42 => k_is)
    (case c42 => k_is)
    (case k42 => k_is)
    (case a43 => k_is)
    (case l43 => k_is)
    (case c43 => k_is)
    (case k43 => k_is)
    (case a44 => k_is)
    (case l44 => k_is)
    (case c44 => k_is)
    (case k44 => k_is)
    (case a45 => k_is)
    (case l45 => k_is)
    (case c45 => k_is)
    (case k45 => k_is)
    (case a46 => k_is)
    (case l46 => k_is)
    (case c46 => k_is)
    (case k46 => k_is)
    (case a47 => k_is)
    (case l47 => k_is)
    (case c47 => k_is)
    (case k47 => k_is)
    (case a48 => k_is)
    (case l48 => k_is)
    (case c48 => k_is)
    (case k48 => k_is)
    (case a49 => k_is)
    (case l49 => k_is)
    (case c49 => k_is)
    (case k49 => k_is)
    (case a50 => k_is)
    (case l50 => k_is)
    (case c50 => k_is)
    (case k50 => k_is)
    (case a51 => k_is)
    (case l51 => k_is)
    (case c51 => k_is)
    (case k51 => k_is)
    (case a52 => k_is)
    (case l52 => k_is)
    (case c52 => k_is)
    (case k52 => k_is)
    (case a53 => k_is)
    (case l53 => k_is)
    (case c53 => k_is)
    (case k53 => k_is)
    (case aC30 => k_is)
    (case pg30 => k_is)
    (case hd30 => k_is)
    (case po30 => k_is)
    (case sA30 => k_is)
    (case mk30 => k_is)
    (case kC30 => k_is)
    (case ia30 => k_is)
    (case ib30 => k_is)
    (case ic30 => k_is)
    (case id30 => k_is)
    (case ie30 => k_is)
    (case na30_form => k_is)
    (case na30_laid => k_is)
    (case na30_when => k_is)
    (case na30_width => k_is)
    (case na30_height => k_is)
    (case na30_rim => k_is)
    (case a3100 => k_is)
    (case if3100 => k_is)
    (case l3100 => k_is)
    (case c3100_ => k_is)
    (case k3100 => k_is)
    (case a3104 => k_is)
    (case if3104 => k_is)
    (case l3104 => k_is)
    (case c3104_ => k_is)
    (case k3104 => k_is)
    (case a3109 => k_is)
    (case if3109 => k_is)
    (case l3109 => k_is)
    (case c3109_ => k_is)
    (case k3109 => k_is)
    (case aC2 => k_is)
    (case EC2 => (refine ⟨?_, ?_, ?_, ?_, ?_, ?_, ?_, ?_, ?_, ?_⟩ <;> k_is))
    (case pC2 => k_exc)
    (case sC2 => k_is)
    (case rC2 => k_is)
    (case fC2 => k_is)
    (case aC3 => k_is)
    (case EC3 => (refine ⟨?_, ?_, ?_, ?_, ?_, ?_, ?_, ?_, ?_, ?_⟩ <;> k_is))
    (case xL3 => k_is)
    (case sa3 => k_is)
    (case fi3 => k_is)
    (case ti3 => k_is)
    (case lI3 => k_is)
    (case cI3 => k_is)
    (case kI3 => k_is)
    (case nC3_at => k_is)
    (case aC4 => k_is)
    (case EC4 => (refine ⟨?_, ?_, ?_, ?_, ?_, ?_, ?_, ?_, ?_, ?_⟩ <;> k_is))
    (case xL4 => k_is)
    (case sa4 => k_is)
    (case fi4 => k_is)
    (case ti4 => k_is)
    (case lI4 => k_is)
    (case cI4 => k_is)
    (case kI4 => k_is)
    (case nC4_most => k_is)
    (case aC5 => k_is)
    (case EC5 => (refine ⟨?_, ?_, ?_, ?_, ?_, ?_, ?_, ?_, ?_, ?_⟩ <;> k_is))
    (case xL5 => k_is)
    (case sa5 => k_is)
    (case fi5 => k_is)
    (case ti5 => k_is)
    (case lI5 => k_is)
    (case cI5 => k_is)
    (case kI5 => k_is)
    (case nC5_x => k_is)
    (case nC5_y => k_is)
    (case aC6 => k_is)
    (case EC6 => (refine ⟨?_, ?_, ?_, ?_, ?_, ?_, ?_, ?_, ?_, ?_⟩ <;> k_is))
    (case pC6 => k_exc)
    (case eC_Wrong_CellError => kts_exm)
    (case kC_Wrong_Wrong => kit_is)
    (case kC_Wrong_TooFar => kit_is)
    (case kC_Wrong_NoCell => kit_is)
    (case kC_Wrong_Fixed => kit_is)
    (case eC_TooFar_CellError => kts_exm)
    (case kC_TooFar_Wrong => kit_is)
    (case kC_TooFar_TooFar => kit_is)
    (case kC_TooFar_NoCell => kit_is)
    (case kC_TooFar_Fixed => kit_is)
    (case z_isinstance => k_is)
    (case z_int => k_is)
    (case z_bool => k_is)
    (case z_str => k_is)
    (case z_len => k_is)
    (case z_all => k_is)
    (case z_list => k_is)
    (case z_enumerate => k_is)
    (case z_tuple => k_is)
    (case z_max => k_is)
    (case z_abs => k_is)
    (case z_range => k_is)
    (case z_min => k_is)
    (case z_repr => k_is)
    (case q_SIGNS => k_is)
    (case q_FARTHEST => k_is)
    (case q_LATEST => k_is)
    (case q_MOST_SIDE => k_is)
    (case q_LEFT_ALONE => k_is)
    (case q_GROUND => k_is)
    (case q_MOST_FRAME => k_is)
#print axioms PySem.Challenge.cw_cellscript_k32_made_refused_holds
