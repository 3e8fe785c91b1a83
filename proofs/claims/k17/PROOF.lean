import PyProof.Rows.All
import Wide.All
import OpenK.AllK
import Wide.FinOn
import HandS.ForMost
import HandS.Style
import HandS.Lambda
import HandS.EndTab
import HandS.WordsExc
import HandS.CallSlots
import HandS.Flow
import HandS.Defaults
import HandS.AnyAll
import HandS.IsInst
import HandS.GenList
import PyProof.GenArm
import PyProof.TupleOfGen
import HandS.NoneIn
import HandS.Walk
import HandS.TupLe
import PyProof.MinMaxWalk
import HandS.More
import HandS.SortInts
import HandS.SortRule
import HandS.Strs
import HandS.DictComp
import HandS.ListItems
import PyProof.NeKinds
import HandS.TryMany
import KE.KDictPairs
import HandS.DictTup
import PyProof.FactsAll.bool_1
import HandS.DeepEq
import HandS.Text
import HandS.FStr
import HandS.Zip
import HandS.Iter
import HandS.SortKw
import KE.KDictItemsList
import PyProof.Rows.StrLawsPart
import PyProof.EqAt
import PySem.Challenge.RW_phonestack_k17_apps_that_open_addresses
import KE.KStateDown
import Lean
import HandS.Head0
import HandS.Head1
import HandS.Head2
import HandS.HeadEnd
import HandS.HeadHook1
import HandS.HeadHook2
import HandS.HeadHook3
import HandS.HeadHook4
import HandS.HeadWalk
set_option Elab.async false
set_option autoImplicit false
set_option linter.all false
set_option maxRecDepth 100000
set_option maxHeartbeats 4000000
namespace Ph
open PySem PySem.Spec PyProof.Rows L2
/-! ### texts -/
theorem char_toNat_inj {a b : Char} (h : a.toNat = b.toNat) : a = b := by
  apply Char.ext
  apply UInt32.toNat_inj.mp
  exact h
theorem map_toNat_inj : forall {a b : List Char}, a.map Char.toNat = b.map Char.toNat -> a = b
  | [], [], _ => rfl
  | [], _ :: _, h => by simp at h
  | _ :: _, [], h => by simp at h
  | x :: r, y :: t, h => by
    simp only [List.map_cons, List.cons.injEq] at h
    rw [char_toNat_inj h.1, map_toNat_inj h.2]
theorem ofString_inj {a b : String} : (PySem.Str.ofString a = PySem.Str.ofString b) = (a = b) := by
  apply propext
  constructor
  · intro h
    rw [PySem.Str.ofString_eq_toList, PySem.Str.ofString_eq_toList] at h
    injection h with h
    have h2 : a.toList.map Char.toNat = b.toList.map Char.toNat := by
      have := congrArg Array.toList h
      simpa using this
    exact String.toList_inj.mp (map_toNat_inj h2)
  · intro h
    rw [h]
theorem ofString_beq {a b : String} : (PySem.Str.ofString a == PySem.Str.ofString b) = (a == b) := by
  rw [Bool.eq_iff_iff]
  simp [ofString_inj]
/-! ### mutable objects -/
def mutO : HO -> Bool
  | .lst _ => true
  | .dK _ => true
  | .dT _ => true
  | .set _ _ => true
  | .ins _ _ _ => true
  | .tbl _ => true
  | _ => false
/-- all that is not a list, a dict, a set, an instance stays -/
def Stb (H H' : Hp) : Prop := forall a o, H a = some o -> mutO o = false -> H' a = some o
theorem Stb.refl (H : Hp) : Stb H H := fun _ _ h _ => h
theorem Stb.trans {H H1 H2 : Hp} (a : Stb H H1) (b : Stb H1 H2) : Stb H H2 := fun x o h m => b x o (a x o h m) m
theorem Stb.new {H : Hp} {p : Addr} {o : HO} (n : H p = none) : Stb H (upd H p o) := fun a u e _ => by
  rw [upd_ne (ne_of_none e n)]
  exact e
theorem Stb.put {H : Hp} {p : Addr} {o u : HO} (e : H p = some u) (m : mutO u = true) : Stb H (upd H p o) := fun a w ea ma => by
  rw [upd_ne ?_]
  · exact ea
  · intro q
    rw [q, e] at ea
    cases ea
    rw [m] at ma
    cases ma
theorem Stb.sqt {K : PySem.W.Frag} {H H' : Hp} {a : Addr} {xs : List V} (s : Stb H H') (h : SqT K H a xs) : SqT K H' a xs := by
  rcases h with (h | ⟨o, h⟩) | h
  · exact .inl (.inl (s _ _ h rfl))
  · exact .inl (.inr ⟨o, s _ _ h rfl⟩)
  · exact .inr h
structure Lay (H : Hp) (L : List (Addr × HO)) : Prop where
  nd : (L.map (fun p => p.1)).Nodup
  at_ : forall p, p ∈ L -> H p.1 = some p.2 ∧ mutO p.2 = true
theorem Lay.nil {H : Hp} : Lay H [] := ⟨List.nodup_nil, fun p h => by cases h⟩
theorem Lay.get {H : Hp} {L : List (Addr × HO)} {a : Addr} {o : HO} (h : Lay H L) (m : (a, o) ∈ L) : H a = some o := (h.at_ _ m).1
theorem Lay.mu {H : Hp} {L : List (Addr × HO)} {a : Addr} {o : HO} (h : Lay H L) (m : (a, o) ∈ L) : mutO o = true := (h.at_ _ m).2
theorem Lay.keep {H : Hp} {L : List (Addr × HO)} {p : Addr} {o : HO} (h : Lay H L) (n : H p = none) : Lay (upd H p o) L :=
  ⟨h.nd, fun q hq => ⟨by rw [upd_ne (ne_of_none (h.at_ q hq).1 n)]; exact (h.at_ q hq).1, (h.at_ q hq).2⟩⟩
theorem Lay.new {H : Hp} {L : List (Addr × HO)} {p : Addr} {o : HO} (h : Lay H L) (n : H p = none) (m : mutO o = true) : Lay (upd H p o) ((p, o) :: L) := by
  refine ⟨?_, fun q hq => ?_⟩
  · rw [List.map_cons, List.nodup_cons]
    refine ⟨fun z => ?_, h.nd⟩
    obtain ⟨q, hq, e⟩ := List.mem_map.mp z
    have z2 := (h.at_ q hq).1
    rw [e, n] at z2
    cases z2
  · rcases List.mem_cons.mp hq with e | hq
    · subst e
      exact ⟨upd_same, m⟩
    · exact (h.keep n).at_ q hq
/-- x stands in L at a place; the rest is L' -/
inductive Pick (x : Addr × HO) : List (Addr × HO) -> List (Addr × HO) -> Prop
  | here {L : List (Addr × HO)} : Pick x (x :: L) L
  | there {y : Addr × HO} {L L' : List (Addr × HO)} : Pick x L L' -> Pick x (y :: L) (y :: L')
theorem Pick.perm {x : Addr × HO} : forall {L L'}, Pick x L L' -> L.Perm (x :: L')
  | _, _, .here => List.Perm.refl _
  | _, _, .there h => (List.Perm.cons _ h.perm).trans (List.Perm.swap _ _ _)
theorem Lay.perm {H : Hp} {L L' : List (Addr × HO)} (h : Lay H L) (p : L.Perm L') : Lay H L' :=
  ⟨(p.map _).nodup_iff.mp h.nd, fun q hq => h.at_ q (p.mem_iff.mpr hq)⟩
theorem Lay.pick {H : Hp} {x : Addr × HO} {L L' : List (Addr × HO)} (p : Pick x L L') (h : Lay H L) : Lay H (x :: L') := h.perm p.perm
theorem Lay.tail {H : Hp} {x : Addr × HO} {L : List (Addr × HO)} (h : Lay H (x :: L)) : Lay H L :=
  ⟨(List.nodup_cons.mp h.nd).2, fun q hq => h.at_ q (List.mem_cons_of_mem _ hq)⟩
/-- the object at a becomes o' -/
inductive Up (a : Addr) (o' : HO) : List (Addr × HO) -> List (Addr × HO) -> Prop
  | here {o : HO} {L : List (Addr × HO)} : Up a o' ((a, o) :: L) ((a, o') :: L)
  | there {y : Addr × HO} {L L' : List (Addr × HO)} : Up a o' L L' -> Up a o' (y :: L) (y :: L')
theorem Up.keys {a : Addr} {o' : HO} : forall {L L'}, Up a o' L L' -> L'.map (fun p => p.1) = L.map (fun p => p.1)
  | _, _, .here => rfl
  | _, _, .there h => by rw [List.map_cons, List.map_cons, h.keys]
theorem Up.old {a : Addr} {o' : HO} : forall {L L'}, Up a o' L L' -> exists o, (a, o) ∈ L
  | _, _, .here => ⟨_, List.mem_cons_self⟩
  | _, _, .there h => let ⟨o, z⟩ := h.old; ⟨o, List.mem_cons_of_mem _ z⟩
theorem Up.mem {a : Addr} {o' : HO} : forall {L L'}, Up a o' L L' -> (L.map (fun p => p.1)).Nodup -> forall q, q ∈ L' -> q = (a, o') ∨ (q ∈ L ∧ q.1 ≠ a)
  | _, _, .here, nd, q, hq => by
    rcases List.mem_cons.mp hq with e | hq
    · exact .inl e
    · refine .inr ⟨List.mem_cons_of_mem _ hq, fun z => ?_⟩
      exact (List.nodup_cons.mp nd).1 (List.mem_map.mpr ⟨q, hq, z⟩)
  | _, _, .there h, nd, q, hq => by
    rcases List.mem_cons.mp hq with e | hq
    · subst e
      refine .inr ⟨List.mem_cons_self, fun z => ?_⟩
      obtain ⟨o, ho⟩ := h.old
      exact (List.nodup_cons.mp nd).1 (List.mem_map.mpr ⟨(a, o), ho, z.symm⟩)
    · rcases h.mem (List.nodup_cons.mp nd).2 q hq with e | ⟨e, n⟩
      · exact .inl e
      · exact .inr ⟨List.mem_cons_of_mem _ e, n⟩
theorem Lay.put {H : Hp} {L L' : List (Addr × HO)} {a : Addr} {o' : HO} (h : Lay H L) (u : Up a o' L L') (m : mutO o' = true) : Lay (upd H a o') L' := by
  refine ⟨by rw [u.keys]; exact h.nd, fun q hq => ?_⟩
  rcases u.mem h.nd q hq with e | ⟨e, n⟩
  · subst e
    exact ⟨upd_same, m⟩
  · exact ⟨by rw [upd_ne n]; exact (h.at_ q e).1, (h.at_ q e).2⟩
theorem Lay.ne {H : Hp} {L : List (Addr × HO)} {a b : Addr} {o u : HO} (h : Lay H ((a, o) :: L)) (m : (b, u) ∈ L) : b ≠ a := fun z =>
  (List.nodup_cons.mp h.nd).1 (List.mem_map.mpr ⟨(b, u), m, z⟩)
/-! ### data made of scalars and tuples -/
mutual
inductive TD (K : PySem.W.Frag) (H : Hp) : V -> PyData -> Prop
  | non : TD K H .non .none
  | bl (b : Bool) : TD K H (.bl b) (.bool b)
  | int (i : Int) : TD K H (.int i) (.int i)
  | str (x : Str) : TD K H (.str x) (.str x)
  | tup {a : Addr} {xs : List V} {ds : List PyData} : SqT K H a xs -> TDs K H xs ds -> TD K H (.ref a) (.tuple ds)
inductive TDs (K : PySem.W.Frag) (H : Hp) : List V -> List PyData -> Prop
  | nil : TDs K H [] []
  | cons {v : V} {vs : List V} {d : PyData} {ds : List PyData} : TD K H v d -> TDs K H vs ds -> TDs K H (v :: vs) (d :: ds)
end
mutual
theorem TD.mono {K : PySem.W.Frag} {H H' : Hp} (s : Stb H H') : forall {v : V} {d : PyData}, TD K H v d -> TD K H' v d
  | _, _, .non => .non
  | _, _, .bl b => .bl b
  | _, _, .int i => .int i
  | _, _, .str x => .str x
  | _, _, .tup h t => .tup (s.sqt h) (TDs.mono s t)
theorem TDs.mono {K : PySem.W.Frag} {H H' : Hp} (s : Stb H H') : forall {vs : List V} {ds : List PyData}, TDs K H vs ds -> TDs K H' vs ds
  | _, _, .nil => .nil
  | _, _, .cons h t => .cons (TD.mono s h) (TDs.mono s t)
end
mutual
theorem TD.dp {K : PySem.W.Frag} {H : Hp} : forall {v : V} {d : PyData}, TD K H v d -> Dp K H v d
  | _, _, .non => .non
  | _, _, .bl b => .bl b
  | _, _, .int i => .int i
  | _, _, .str x => .str x
  | _, _, .tup h t => .tup h (TDs.dp t)
theorem TDs.dp {K : PySem.W.Frag} {H : Hp} : forall {vs : List V} {ds : List PyData}, TDs K H vs ds -> DpAll K H vs ds
  | _, _, .nil => .nil
  | _, _, .cons h t => .cons (TD.dp h) (TDs.dp t)
end
theorem TDs.snoc {K : PySem.W.Frag} {H : Hp} {v : V} {d : PyData} : forall {vs : List V} {ds : List PyData}, TDs K H vs ds -> TD K H v d -> TDs K H (vs ++ [v]) (ds ++ [d])
  | _, _, .nil, h => .cons h .nil
  | _, _, .cons h t, q => .cons h (TDs.snoc t q)
theorem TDs.append {K : PySem.W.Frag} {H : Hp} {us : List V} {es : List PyData} : forall {vs : List V} {ds : List PyData}, TDs K H vs ds -> TDs K H us es -> TDs K H (vs ++ us) (ds ++ es)
  | _, _, .nil, h => h
  | _, _, .cons h t, q => .cons h (TDs.append t q)
theorem TDs.length {K : PySem.W.Frag} {H : Hp} : forall {vs : List V} {ds : List PyData}, TDs K H vs ds -> vs.length = ds.length
  | _, _, .nil => rfl
  | _, _, .cons _ t => by rw [List.length_cons, List.length_cons, TDs.length t]
/-! ### what is known of things that don't change -/
/-- each code object that the table's triples tell bears the name q -/
def TabOK (q : Str) (ps : Array Value) (H : Hp) : Prop := TriplesOk ps.toList ∧ forall (pos : Pos) (cv : Value), codeAmong pos ps.toList = some cv -> exists c, cv = .ref c ∧ H c = some (LamX.CodeO c q)
theorem TabOK.mono {q : Str} {ps : Array Value} {H H' : Hp} (s : Stb H H') (h : TabOK q ps H) : TabOK q ps H' := ⟨h.1, fun pos cv e => by
  obtain ⟨c, e1, e2⟩ := h.2 pos cv e
  exact ⟨c, e1, s _ _ e2 rfl⟩⟩
inductive Im where
  | tab (q : Str) (ps : Array Value)
  | tri (ps : Array Value)
  | tup (a : Addr) (xs : List V)
  | dat (v : V) (d : PyData)
  | dats (vs : List V) (ds : List PyData)
  | pr (P : Hp → Prop) (m : ∀ H H', Stb H H' → P H → P H')
def Im.ok (K : PySem.W.Frag) (H : Hp) : Im -> Prop
  | .tab q ps => TabOK q ps H
  | .tri ps => TriplesOk ps.toList
  | .tup a xs => SqT K H a xs
  | .dat v d => TD K H v d
  | .dats vs ds => TDs K H vs ds
  | .pr P _ => P H
theorem Im.mono {K : PySem.W.Frag} {H H' : Hp} (s : Stb H H') : forall {i : Im}, i.ok K H -> i.ok K H'
  | .tab _ _, h => TabOK.mono s h
  | .tri _, h => h
  | .tup _ _, h => s.sqt h
  | .dat _ _, h => TD.mono s h
  | .dats _ _, h => TDs.mono s h
  | .pr _ m, h => m _ _ s h
/-- B: where the def was entered -/
structure Ctx (K : PySem.W.Frag) (B H : Hp) (L : List (Addr × HO)) (I : List Im) : Prop where
  lay : Lay H L
  im : forall i, i ∈ I -> i.ok K H
  sb : Stb B H
section
variable {K : PySem.W.Frag} {B H H' : Hp} {L L' : List (Addr × HO)} {I : List Im} {a : Addr} {o : HO} {xs : List V}
theorem Ctx.tup (h : Ctx K B H L I) (m : Im.tup a xs ∈ I) : SqT K H a xs := h.im _ m
theorem Ctx.dat {v : V} {d : PyData} (h : Ctx K B H L I) (m : Im.dat v d ∈ I) : TD K H v d := h.im _ m
theorem Ctx.dats {vs : List V} {ds : List PyData} (h : Ctx K B H L I) (m : Im.dats vs ds ∈ I) : TDs K H vs ds := h.im _ m
theorem Ctx.pr {P : Hp → Prop} {w : ∀ H H', Stb H H' → P H → P H'} (h : Ctx K B H L I) (m : Im.pr P w ∈ I) : P H := h.im _ m
theorem Ctx.tab {q : Str} {ps : Array Value} (h : Ctx K B H L I) (m : Im.tab q ps ∈ I) : TabOK q ps H := h.im _ m
theorem Ctx.tri {ps : Array Value} (h : Ctx K B H L I) (m : Im.tri ps ∈ I) : TriplesOk ps.toList := h.im _ m
theorem Ctx.get (h : Ctx K B H L I) (m : (a, o) ∈ L) : H a = some o := h.lay.get m
theorem Ctx.add {i : Im} (h : Ctx K B H L I) (m : i.ok K H) : Ctx K B H L (i :: I) :=
  ⟨h.lay, fun j hj => (List.mem_cons.mp hj).elim (fun e => by rw [e]; exact m) (h.im j), h.sb⟩
theorem Ctx.moved (h : Ctx K B H L I) (s : Stb H H') (l : Lay H' L') : Ctx K B H' L' I := ⟨l, fun i hi => Im.mono s (h.im i hi), h.sb.trans s⟩
theorem Ctx.newM (h : Ctx K B H L I) (n : H a = none) (m : mutO o = true) : Ctx K B (upd H a o) ((a, o) :: L) I := h.moved (Stb.new n) (h.lay.new n m)
theorem Ctx.newT (h : Ctx K B H L I) (n : H a = none) : Ctx K B (upd H a (.tup xs)) L (.tup a xs :: I) := by
  have h1 := h.moved (Stb.new (o := .tup xs) n) (h.lay.keep n)
  exact h1.add (SqT.of upd_same)
theorem Ctx.put {o' : HO} (h : Ctx K B H L I) (u : Up a o' L L') (m : mutO o' = true) : Ctx K B (upd H a o') L' I := by
  obtain ⟨o, ho⟩ := u.old
  exact h.moved (Stb.put (h.lay.get ho) (h.lay.mu ho)) (h.lay.put u m)
theorem Ctx.start (l : Lay H L) : Ctx K H H L [] := ⟨l, fun i hi => (by cases hi), Stb.refl H⟩
theorem Ctx.but {H1 : Hp} {P : Addr} {o o' : HO} (h : Ctx K B H L I) (m : (P, o) ∈ L) (u : Up P o' L L') (mo : mutO o' = true) (e : forall b u, b ≠ P -> H b = some u -> H1 b = some u) (e' : H1 P = some o') : Ctx K B H1 L' I := by
  have y := h.lay
  have sb : Stb H H1 := fun b w hb mw => e b w (fun z => by
    have q := (y.at_ _ m)
    rw [z, q.1] at hb
    cases hb
    rw [q.2] at mw
    cases mw) hb
  refine h.moved sb ⟨by rw [u.keys]; exact y.nd, fun p hp => ?_⟩
  rcases u.mem y.nd p hp with q | ⟨q, n⟩
  · rw [q]
    exact ⟨e', mo⟩
  · exact ⟨e _ _ n (y.at_ p q).1, (y.at_ p q).2⟩
theorem Ctx.rebase (h : Ctx K B H L I) : Ctx K H H L I := ⟨h.lay, h.im, Stb.refl _⟩
theorem Ctx.pick {x : Addr × HO} (p : Pick x L L') (h : Ctx K B H L I) : Ctx K B H (x :: L') I := ⟨h.lay.pick p, h.im, h.sb⟩
theorem Ctx.drop {x : Addr × HO} (h : Ctx K B H (x :: L) I) : Ctx K B H L I := ⟨h.lay.tail, h.im, h.sb⟩
theorem Ctx.perm (h : Ctx K B H L I) (p : L.Perm L') : Ctx K B H L' I := ⟨h.lay.perm p, h.im, h.sb⟩
end
end Ph
namespace Ph
open PySem PySem.Spec PyProof.Rows L2
def rAddU (K : PySem.W.Frag) : R2 := fun x y H Q => match x, y with
  | .int i, .int j => Q (.int (i + j)) H
  | .int i, .bl k => Q (.int (i + b2i k)) H
  | .str i, .str j => i.length + j.length ≤ sizeLine ∧ Q (.str (i ++ j)) H
  | .ref l, .ref b => (∃ xs zs, H l = some (.lst xs) ∧ H b = some (.lst zs) ∧ xs.length + zs.length ≤ sizeLine ∧ ∀ p, H p = none → Q (.ref p) (upd H p (.lst (xs ++ zs)))) ∨ rCatT K (.ref l) (.ref b) H Q
  | _, _ => False
def rSubU : R2 := fun x y H Q => match x, y with
  | .int i, .int j => Q (.int (i - j)) H
  | _, _ => False
theorem fits_of {n : Nat} (h : n ≤ sizeLine) : Builtin.Str.tooLong n = false := by
  cases e : Builtin.Str.tooLong n with
  | false => rfl
  | true =>
    have : ¬ n ≤ sizeLine := by simpa [Builtin.Str.tooLong, sizeLine] using e
    exact absurd h this
/-- x written n times -/
def repS (x : Str) (n : Nat) : Str := ⟨(List.replicate n x.cps).foldl (· ++ ·) #[]⟩
def rMulU : R2 := fun x y H Q => match x, y with
  | .int i, .int j => CMul i j ∧ Q (.int (i * j)) H
  | .ref l, .int k => rRep (.ref l) (.int k) H Q
  | .str x, .int k => 2 ≤ k ∧ k ≤ 1000 ∧ 1 ≤ x.length ∧ x.length ≤ 1000 ∧ Q (.str (repS x k.toNat)) H
  | _, _ => False
def rDivU : R2 := fun x y H Q => match x, y with
  | .int i, .int j => CDiv i j ∧ Q (.int (i / j)) H
  | _, _ => False
def rModU : R2 := fun x y H Q => match x, y with
  | .int i, .int j => 0 < j ∧ Q (.int (i % j)) H
  | _, _ => False
def rPowU : R2 := fun x y H Q => match x, y with
  | .int i, .int j => CPow i j ∧ Q (.int (i ^ j.toNat)) H
  | _, _ => False
def rLtU (f : Int → Int → Bool) (g : Str → Str → Bool) : R2 := fun x y H Q => match x, y with
  | .int i, .int j => Q (.bl (f i j)) H
  | .str i, .str j => Q (.bl (g i j)) H
  | _, _ => False
abbrev rLt : R2 := rLtU (fun i j => decide (i < j)) (fun i j => decide (i.cps.toList < j.cps.toList))
def rCmpI (f : Int → Int → Bool) : R2 := fun x y H Q => match x, y with
  | .int i, .int j => Q (.bl (f i j)) H
  | _, _ => False
abbrev rLe : R2 := rCmpI fun i j => decide (i ≤ j)
abbrev rGt : R2 := rCmpI fun i j => decide (j < i)
abbrev rGe : R2 := rCmpI fun i j => decide (j ≤ i)
def rIsN : R2 := fun x y H Q => y = .non ∧ Q (.bl (decide (x = .non))) H
def rNotN : R2 := fun x y H Q => y = .non ∧ Q (.bl (!decide (x = .non))) H
def rEqU (K : PySem.W.Frag) : R2 := fun x y H Q => rEq x y H Q ∨ rEqD K x y H Q
def rNeU (K : PySem.W.Frag) : R2 := fun x y H Q => rNe x y H Q ∨ rNeD K x y H Q
def rIxD : R2 := fun x y H Q => ∃ a v, x = .ref a ∧ DGet H a y (some v) ∧ Q v H
def rIxU (K : PySem.W.Frag) : R2 := fun x y H Q => rIxL K x y H Q ∨ rIxT K x y H Q ∨ rIxS x y H Q ∨ rIxD x y H Q
def rInD : R2 := fun y x H Q => ∃ a o, x = .ref a ∧ DGet H a y o ∧ Q (.bl o.isSome) H
def rNotInD : R2 := fun y x H Q => ∃ a o, x = .ref a ∧ DGet H a y o ∧ Q (.bl (!o.isSome)) H
def rInS : R2 := fun x y H Q => ∃ i j, x = .str i ∧ y = .str j ∧ Q (.bl (!(Builtin.Str.occurrences j i 0 j.length 1).isEmpty)) H
def rNotInS : R2 := fun x y H Q => ∃ i j, x = .str i ∧ y = .str j ∧ Q (.bl (!(!(Builtin.Str.occurrences j i 0 j.length 1).isEmpty))) H
def rInU (K : PySem.W.Frag) : R2 := fun x y H Q => rIn K false x y H Q ∨ rInD x y H Q ∨ rInS x y H Q
def rNotInU (K : PySem.W.Frag) : R2 := fun x y H Q => rIn K true x y H Q ∨ rNotInD x y H Q ∨ rNotInS x y H Q
def rSetD : V → V → V → Hp → (Hp → Prop) → Prop := fun o i v H Q => ∃ a H', o = .ref a ∧ DPut H a i v H' ∧ Q H'
def rSetU : V → V → V → Hp → (Hp → Prop) → Prop := fun o i v H Q => rSetL o i v H Q ∨ rSetD o i v H Q
def rIAddU : R2 := fun x y H Q => match x, y with
  | .int i, .int j => Q (.int (i + j)) H
  | .str i, .str j => i.length + j.length ≤ sizeLine ∧ Q (.str (i ++ j)) H
  | .ref l, .ref b => rExt2 (.ref l) (.ref b) H Q
  | _, _ => False
def tTruth (K : PySem.W.Frag) (ta : TE) : TT := fun σ H Q => ta σ H fun x H' => ∃ k, TruV K x H' k ∧ Q k H'
section
variable {X : Cx}
theorem u_add : OpR X (binaryOp .Add) (rAddU X.K) := by
  intro pins s σ H x y v u Q I rx ry h
  cases x with
  | int i =>
    cases y with
    | int j => exact op_add pins s σ H _ _ v u Q I rx ry ⟨i, j, rfl, rfl, h⟩
    | bl k => exact op_add_ib pins s σ H _ _ v u Q I rx ry ⟨i, k, rfl, rfl, h⟩
    | _ => exact (show False from h).elim
  | str i =>
    cases y with
    | str j => exact op_add_str pins s σ H _ _ v u Q I rx ry ⟨i, j, rfl, rfl, h.1, h.2⟩
    | _ => exact (show False from h).elim
  | ref l =>
    cases y with
    | ref b =>
      rcases h with ⟨xs, zs, h1, h2, h3, h4⟩ | h
      · exact op_cat pins s σ H _ _ v u Q I rx ry ⟨l, b, xs, zs, rfl, rfl, h1, h2, h3, h4⟩
      · exact op_catT pins s σ H _ _ v u Q I rx ry h
    | _ => exact (show False from h).elim
  | _ => exact (show False from (by cases y <;> exact h)).elim
theorem u_sub : OpR X (binaryOp .Sub) rSubU := by
  intro pins s σ H x y v u Q I rx ry h
  cases x with
  | int i =>
    cases y with
    | int j => exact op_sub pins s σ H _ _ v u Q I rx ry ⟨i, j, rfl, rfl, h⟩
    | _ => exact (show False from h).elim
  | _ => exact (show False from (by cases y <;> exact h)).elim
theorem foldl_cps : ∀ (n : Nat) (a c : Array Nat), ((List.replicate n a).foldl (· ++ ·) c).toList = c.toList ++ (List.replicate n a.toList).flatten
  | 0, a, c => by simp
  | n + 1, a, c => by
    rw [List.replicate_succ, List.foldl_cons, foldl_cps n a (c ++ a), List.replicate_succ, List.flatten_cons, Array.toList_append, List.append_assoc]
theorem repS_list (x : Str) (n : Nat) : (repS x n).cps.toList = (List.replicate n x.cps.toList).flatten := by
  have h := foldl_cps n x.cps #[]
  simpa [repS] using h
theorem repS_length (x : Str) (n : Nat) : (repS x n).length = n * x.length := by
  show (repS x n).cps.size = n * x.cps.size
  rw [← Array.length_toList, repS_list]
  simp [List.length_flatten]
theorem u_mul : OpR X (binaryOp .Mult) rMulU := by
  intro pins s σ H x y v u Q I rx ry h
  cases x with
  | int i =>
    cases y with
    | int j => exact op_mul pins s σ H _ _ v u Q I rx ry ⟨i, j, rfl, rfl, h.1, h.2⟩
    | _ => exact (show False from h).elim
  | ref l =>
    cases y with
    | int j => exact op_rep pins s σ H _ _ v u Q I rx ry h
    | _ => exact (show False from h).elim
  | str i =>
    cases y with
    | int k =>
      obtain ⟨h2, h3, h4, h5, q⟩ := h
      obtain ⟨t, rfl⟩ := rx
      obtain ⟨t2, rfl⟩ := ry
      have hz : i.length * k.toNat ≤ sizeLine := by
        rw [sizeLine_eq]
        have a1 : i.length * k.toNat ≤ 1000 * 1000 := Nat.mul_le_mul h5 (by omega)
        omega
      have l1 : (repS i k.toNat).length ≤ sizeLine := by
        rw [repS_length, Nat.mul_comm]
        exact hz
      refine PySem.P.mul_str ?_ (fun _ _ => ?_) (fun _ _ => fits_of hz) ?_
      · rw [decide_eq_false (by omega), decide_eq_false (by omega)]
        rfl
      · have hd : (1000 : Int) ≤ (2 ^ 63 - 1) / k := (Int.le_ediv_iff_mul_le (by omega)).mpr (by omega)
        omega
      · rw [if_neg (by omega), if_neg (by
          rw [beq_eq_false_iff_ne.mpr (by omega), beq_eq_false_iff_ne.mpr (by omega)]
          exact Bool.false_ne_true)]
        exact ⟨l1, ⟨.str _, H, I.tok _, ⟨_, rfl⟩, q⟩⟩
    | _ => exact (show False from h).elim
  | _ => exact (show False from (by cases y <;> exact h)).elim
theorem u_div : OpR X (binaryOp .FloorDiv) rDivU := by
  intro pins s σ H x y v u Q I rx ry h
  cases x with
  | int i =>
    cases y with
    | int j => exact op_fdiv pins s σ H _ _ v u Q I rx ry ⟨i, j, rfl, rfl, h.1, h.2⟩
    | _ => exact (show False from h).elim
  | _ => exact (show False from (by cases y <;> exact h)).elim
theorem u_mod : OpR X (binaryOp .Mod) rModU := by
  intro pins s σ H x y v u Q I rx ry h
  cases x with
  | int i =>
    cases y with
    | int j => exact op_mod pins s σ H _ _ v u Q I rx ry ⟨i, j, rfl, rfl, h.1, h.2⟩
    | _ => exact (show False from h).elim
  | _ => exact (show False from (by cases y <;> exact h)).elim
theorem u_pow : OpR X (binaryOp .Pow) rPowU := by
  intro pins s σ H x y v u Q I rx ry h
  cases x with
  | int i =>
    cases y with
    | int j => exact op_pow pins s σ H _ _ v u Q I rx ry ⟨i, j, rfl, rfl, h.1, h.2⟩
    | _ => exact (show False from h).elim
  | _ => exact (show False from (by cases y <;> exact h)).elim
theorem u_lt : OpR X (compareOp .Lt) rLt := by
  intro pins s σ H x y v u Q I rx ry h
  cases x with
  | int i =>
    cases y with
    | int j => exact op_lt pins s σ H _ _ v u Q I rx ry ⟨i, j, rfl, rfl, h⟩
    | _ => exact (show False from h).elim
  | str i =>
    cases y with
    | str j => exact op_lt_str pins s σ H _ _ v u Q I rx ry ⟨i, j, rfl, rfl, h⟩
    | _ => exact (show False from h).elim
  | _ => exact (show False from (by cases y <;> exact h)).elim
theorem u_le : OpR X (compareOp .LtE) rLe := by
  intro pins s σ H x y v u Q I rx ry h
  cases x with
  | int i =>
    cases y with
    | int j => exact op_le pins s σ H _ _ v u Q I rx ry ⟨i, j, rfl, rfl, h⟩
    | _ => exact (show False from h).elim
  | _ => exact (show False from (by cases y <;> exact h)).elim
theorem u_gt : OpR X (compareOp .Gt) rGt := by
  intro pins s σ H x y v u Q I rx ry h
  cases x with
  | int i =>
    cases y with
    | int j => exact op_gt pins s σ H _ _ v u Q I rx ry ⟨i, j, rfl, rfl, h⟩
    | _ => exact (show False from h).elim
  | _ => exact (show False from (by cases y <;> exact h)).elim
theorem u_ge : OpR X (compareOp .GtE) rGe := by
  intro pins s σ H x y v u Q I rx ry h
  cases x with
  | int i =>
    cases y with
    | int j => exact op_ge pins s σ H _ _ v u Q I rx ry ⟨i, j, rfl, rfl, h⟩
    | _ => exact (show False from h).elim
  | _ => exact (show False from (by cases y <;> exact h)).elim
theorem u_isN : OpR X (compareOp .Is) rIsN := op_isN
theorem u_notN : OpR X (compareOp .IsNot) rNotN := op_notN
theorem u_eq (hu : X.A.units + 64 < cLine) : OpR X (compareOp .Eq) (rEqU X.K) := op_eq.or (op_eqD hu)
theorem u_ne (hu : X.A.units + 64 < cLine) : OpR X (compareOp .NotEq) (rNeU X.K) := op_ne.or (op_neD hu)
theorem ix_dict (hu : X.A.units + 64 < cLine) : IxR X rIxD := by
  intro value slice pins s σ H x y v u Q I rx ry h hs
  obtain ⟨a, z, rfl, g, q⟩ := h
  cases rx
  have hu1 : X.A.units + 1 < cLine := by omega
  exact tail_any (dict_typeIs I g) PySem.F.slot_dict_getitem.lookup (d_getItem hu1 I g ry fun w' s3 I3 rw' => ⟨z, H, I3, rw', q⟩) hs
theorem u_ix (hu : X.A.units + 64 < cLine) : IxR X (rIxU X.K) := ix_list.or (ix_tup.or (ix_str.or (ix_dict hu)))
theorem op_inD (hu : X.A.units + 64 < cLine) : OpR X (compareOp .In) rInD := by
  intro pins s σ H x y v u Q I rx ry h
  obtain ⟨a, o, rfl, g, q⟩ := h
  cases ry
  have hu1 : X.A.units + 1 < cLine := by omega
  exact d_in hu1 I g rx fun s3 I3 => ⟨.bl o.isSome, H, I3, rfl, q⟩
theorem op_notinD (hu : X.A.units + 64 < cLine) : OpR X (compareOp .NotIn) rNotInD := by
  intro pins s σ H x y v u Q I rx ry h
  obtain ⟨a, o, rfl, g, q⟩ := h
  cases ry
  have hu1 : X.A.units + 1 < cLine := by omega
  exact d_notIn hu1 I g rx fun s3 I3 => ⟨.bl (!o.isSome), H, I3, rfl, q⟩
theorem u_in (hu : X.A.units + 64 < cLine) : OpR X (compareOp .In) (rInU X.K) := op_in_seq.or ((op_inD hu).or op_in_str)
theorem u_notin (hu : X.A.units + 64 < cLine) : OpR X (compareOp .NotIn) (rNotInU X.K) := op_notIn_seq.or ((op_notinD hu).or op_notin_str)
theorem set_dict (hu : X.A.units + 64 < cLine) : PSet X rSetD := by
  intro pins s σ H o i v ov iv u Q I ro ri rv h
  obtain ⟨a, H', rfl, g, q⟩ := h
  cases ro
  have hu1 : X.A.units + 1 < cLine := by omega
  exact d_setItem hu1 I g ri rv fun s4 I4 => ⟨H', I4, q⟩
theorem u_set (hu : X.A.units + 64 < cLine) : PSet X rSetU := by
  intro pins s σ H o i v ov iv u Q I ro ri rv h
  rcases h with h | h
  · exact set_list pins s σ H o i v ov iv u Q I ro ri rv h
  · exact set_dict hu pins s σ H o i v ov iv u Q I ro ri rv h
theorem u_iadd : OpR X (inplaceOp .Add) rIAddU := by
  intro pins s σ H x y v u Q I rx ry h
  cases x with
  | int i =>
    cases y with
    | int j => exact iop_add pins s σ H _ _ v u Q I rx ry ⟨i, j, rfl, rfl, h⟩
    | _ => exact (show False from h).elim
  | str i =>
    cases y with
    | str j => exact iop_add_str pins s σ H _ _ v u Q I rx ry ⟨i, j, rfl, rfl, h.1, h.2⟩
    | _ => exact (show False from h).elim
  | ref l =>
    cases y with
    | ref b => exact iop_ext pins s σ H _ _ v u Q I rx ry h
    | _ => exact (show False from h).elim
  | _ => exact (show False from (by cases y <;> exact h)).elim
theorem u_isub : OpR X (inplaceOp .Sub) rSubU := by
  intro pins s σ H x y v u Q I rx ry h
  cases x with
  | int i =>
    cases y with
    | int j => exact iop_sub pins s σ H _ _ v u Q I rx ry ⟨i, j, rfl, rfl, h⟩
    | _ => exact (show False from h).elim
  | _ => exact (show False from (by cases y <;> exact h)).elim
theorem in_of {op : Operator} {r : R2} (h : OpR X (inplaceOp op) r) : InOp X op r := fun pins s σ H x y u v Q I rx ry q => h pins s σ H x y u v Q I rx ry q
theorem ip_of {op : Operator} {r : R2} (h : OpR X (inplaceOp op) r) : PIp X op r := fun pins s σ H x y u v Q I rx ry q => h pins s σ H x y u v Q I rx ry q
theorem pt_tru {a : Expr} {ta : TE} (ha : PE X a ta) (he : ∀ whole, isTrue a X.env whole = (do let v ← whole; standAt a.pos; holding [v] (truthy v)) := by intro _; rfl) : PT X a (tTruth X.K ta) := pt_truth ha he
/-- what leaves a def -/
theorem passX {P : Program} {w : World} {K : PySem.W.Frag} {mg : Str → Option Value} {base : Heap} {N : List Str} {q : Str} {sc : Scope} {f : Addr} {cd : Value} {A : Around} {outer : List Env} {s : Shared} {H : Hp} {E : XK} :
    Passes (L2.CX P w) (cxOf (L2.CX P w) P w K mg base N q sc f cd A outer s H E) E := passes_call (takes_of rfl rfl rfl rfl) fun _ _ _ _ h => h
theorem pe_gint {x : Str} {i : Int} {pos : Pos} (hg : Gl X x) (hm : ∃ t, X.mg x = some (.int i t)) (hd : (x == ("__debug__" : Str)) = false := by decide) : PE X (.Name x pos) (tC (.int i)) := by
  obtain ⟨t, h⟩ := hm
  exact pe_glob hg h ⟨t, rfl⟩ hd
theorem pe_gstr {x z : Str} {pos : Pos} (hg : Gl X x) (hm : ∃ t, X.mg x = some (.str z t)) (hd : (x == ("__debug__" : Str)) = false := by decide) : PE X (.Name x pos) (tC (.str z)) := by
  obtain ⟨t, h⟩ := hm
  exact pe_glob hg h ⟨t, rfl⟩ hd
end
end Ph
namespace Ph
open PySem PySem.Spec PyProof.Rows L2
/-! ### more rules by values -/
def rSlU (K : PySem.W.Frag) : V → Option Int → Option Int → Hp → VK → Prop := fun x lo hi H Q => rSlL K x lo hi H Q ∨ rSlS x lo hi H Q ∨ rSlT K x lo hi H Q
theorem u_sl {X : Cx} : SlR X (rSlU X.K) := sl_list.or (sl_str.or sl_tup)
def rLenU (K : PySem.W.Frag) : List V → Hp → VK → Prop := fun xs H Q => (∃ x n, xs = [x] ∧ LenV K x H n ∧ Q (.int n) H) ∨ ∃ a kvs, xs = [V.ref a] ∧ H a = some (.dK kvs) ∧ Q (.int kvs.length) H
theorem u_len {X : Cx} : CallR X (.builtin "len") (rLenU X.K) := call_len.or call_lenD
def rAbs : List V → Hp → VK → Prop := fun xs H Q => ∃ i, xs = [.int i] ∧ Q (.int (if i < 0 then -i else i)) H
def rMax2 : List V → Hp → VK → Prop := fun xs H Q => ∃ i j, xs = [.int i, .int j] ∧ Q (.int (if j > i then j else i)) H
def rMin2 : List V → Hp → VK → Prop := fun xs H Q => ∃ i j, xs = [.int i, .int j] ∧ Q (.int (if j < i then j else i)) H
def rInt1 : List V → Hp → VK → Prop := fun xs H Q => (∃ i, xs = [.int i] ∧ Q (.int i) H) ∨ ∃ k, xs = [.bl k] ∧ Q (.int (if k then 1 else 0)) H
def rNeg : V → Hp → VK → Prop := rU fun i => .int (-i)
def tRaiseE (C : Addr) (E : XK) : TS := fun _ _ H => E (.ref C) none H
abbrev lamq (q : Str) : Str := q ++ ".<locals>." ++ "<lambda>"
/-! ### by places -/
inductive SetAt (v : V) : Nat → L2.St → L2.St → Prop
  | here {x : Option V} {σ : L2.St} : SetAt v 0 (x :: σ) (some v :: σ)
  | there {i : Nat} {x : Option V} {σ σ' : L2.St} : SetAt v i σ σ' → SetAt v (i + 1) (x :: σ) (x :: σ')
theorem SetAt.ok {v : V} : ∀ {i σ σ'}, SetAt v i σ σ' → σ.set i (some v) = σ'
  | _, _, _, .here => rfl
  | _, _, _, .there h => by rw [List.set_cons_succ, h.ok]
inductive LSet (v : V) : Nat → List V → List V → Prop
  | here {x : V} {r : List V} : LSet v 0 (x :: r) (v :: r)
  | there {i : Nat} {x : V} {r r' : List V} : LSet v i r r' → LSet v (i + 1) (x :: r) (x :: r')
theorem LSet.ok {v : V} : ∀ {i r r'}, LSet v i r r' → r.set i v = r'
  | _, _, _, .here => rfl
  | _, _, _, .there h => by rw [List.set_cons_succ, h.ok]
inductive Lk (f : Str) : List (Str × V) → V → Prop
  | here {v : V} {fs : List (Str × V)} : Lk f ((f, v) :: fs) v
  | there {g : Str} {x : V} {fs : List (Str × V)} {v : V} : f ≠ g → Lk f fs v → Lk f ((g, x) :: fs) v
theorem Lk.ok {f : Str} : ∀ {fs v}, Lk f fs v → fs.lookup f = some v
  | _, _, .here => by simp [List.lookup]
  | _, _, .there n h => by
    rw [List.lookup_cons, show (f == _) = false from beq_eq_false_iff_ne.mpr n]
    exact h.ok
inductive NoLk (f : Str) : List (Str × V) → Prop
  | nil : NoLk f []
  | there {g : Str} {x : V} {fs : List (Str × V)} : f ≠ g → NoLk f fs → NoLk f ((g, x) :: fs)
theorem NoLk.ok {f : Str} : ∀ {fs}, NoLk f fs → fs.lookup f = none
  | _, .nil => rfl
  | _, .there n h => by
    rw [List.lookup_cons, show (f == _) = false from beq_eq_false_iff_ne.mpr n]
    exact h.ok
inductive Put (f : Str) (v : V) : List (Str × V) → List (Str × V) → Prop
  | nil : Put f v [] [(f, v)]
  | here {x : V} {fs : List (Str × V)} : Put f v ((f, x) :: fs) ((f, v) :: fs)
  | there {g : Str} {x : V} {fs fs' : List (Str × V)} : g ≠ f → Put f v fs fs' → Put f v ((g, x) :: fs) ((g, x) :: fs')
theorem Put.ok {f : Str} {v : V} : ∀ {fs fs'}, Put f v fs fs' → putF f v fs = fs'
  | _, _, .nil => rfl
  | _, _, .here => if_pos rfl
  | _, _, .there (g := g) (x := x) (fs := fs) n h => by
    have e : putF f v ((g, x) :: fs) = if g = f then (g, v) :: fs else (g, x) :: putF f v fs := rfl
    rw [e, if_neg n, h.ok]
/-- a dict's entry -/
inductive Dk (k : Key) : List (Key × V) → V → Prop
  | here {v : V} {r : List (Key × V)} : Dk k ((k, v) :: r) v
  | there {g : Key} {x : V} {r : List (Key × V)} {v : V} : g ≠ k → Dk k r v → Dk k ((g, x) :: r) v
theorem Dk.ok {k : Key} : ∀ {r v}, Dk k r v → valV r k = some v
  | _, _, .here => valV_pos rfl
  | _, _, .there n h => by rw [valV_neg n]; exact h.ok
inductive DNo (k : Key) : List (Key × V) → Prop
  | nil : DNo k []
  | there {g : Key} {x : V} {r : List (Key × V)} : g ≠ k → DNo k r → DNo k ((g, x) :: r)
theorem DNo.ok {k : Key} : ∀ {r}, DNo k r → valV r k = none
  | _, .nil => rfl
  | _, .there n h => by rw [valV_neg n]; exact h.ok
/-- put where it is there -/
inductive DPt (k : Key) (v : V) : List (Key × V) → List (Key × V) → Prop
  | here {x : V} {r : List (Key × V)} : DNo k r → DPt k v ((k, x) :: r) ((k, v) :: r)
  | there {g : Key} {x : V} {r r' : List (Key × V)} : g ≠ k → DPt k v r r' → DPt k v ((g, x) :: r) ((g, x) :: r')
theorem DNo.map {k : Key} {v : V} : ∀ {r}, DNo k r → (r.map fun kv => if kv.1 = k then (kv.1, v) else kv) = r
  | _, .nil => rfl
  | _, .there n h => by rw [List.map_cons, h.map, if_neg n]
theorem DPt.map {k : Key} {v : V} : ∀ {r r'}, DPt k v r r' → (r.map fun kv => if kv.1 = k then (kv.1, v) else kv) = r'
  | _, _, .here h => by rw [List.map_cons, h.map, if_pos rfl]
  | _, _, .there n h => by rw [List.map_cons, h.map, if_neg n]
theorem DPt.any {k : Key} {v : V} : ∀ {r r'}, DPt k v r r' → (r.any fun kv => decide (kv.1 = k)) = true
  | _, _, .here _ => by simp
  | _, _, .there _ h => by rw [List.any_cons, h.any, Bool.or_true]
theorem DPt.ok {k : Key} {v : V} {r r' : List (Key × V)} (h : DPt k v r r') : putK r k v = r' := by
  unfold putK
  rw [if_pos h.any, h.map]
theorem DPt.length {k : Key} {v : V} : ∀ {r r'}, DPt k v r r' → r'.length = r.length
  | _, _, .here _ => rfl
  | _, _, .there _ h => by rw [List.length_cons, List.length_cons, h.length]
/-! ### what waits for a value -/
section
variable (K : PySem.W.Frag)
def kTup (Q : VK) : List V → Hp → Prop := fun xs H1 => xs.length ≤ sizeLine ∧ ∀ p, H1 p = none → Q (.ref p) (upd H1 p (.tup xs))
def kLst (Q : VK) : List V → Hp → Prop := fun xs H1 => xs.length ≤ sizeLine ∧ ∀ p, H1 p = none → Q (.ref p) (upd H1 p (.lst xs))
def kFld (f : Str) (Q : VK) : VK := fun x H1 => ∃ a C dx fs v, x = .ref a ∧ H1 a = some (.ins C dx fs) ∧ Cls K C ∧ NoAttr K C f ∧ fs.lookup f = some v ∧ Q v H1
def kSetF (f : Str) (A : L2.St → Hp → Prop) (σ : L2.St) (y : V) : VK := fun x H2 => ∃ a C dx fs, x = .ref a ∧ H2 a = some (.ins C dx fs) ∧ Cls K C ∧ NoAttr K C f ∧ fs.length < 1000 ∧ A σ (upd H2 a (.ins C dx (putF f y fs)))
def kAugG (f : Str) (a C : Addr) (A : L2.St → Hp → Prop) (σ : L2.St) : VK := fun z H3 => ∃ dx' fs', H3 a = some (.ins C dx' fs') ∧ fs'.length < 1000 ∧ A σ (upd H3 a (.ins C dx' (putF f z fs')))
def kAugF (f : Str) (tv : TE) (rd : R2) (A : L2.St → Hp → Prop) (σ : L2.St) : VK := fun x H1 => ∃ a C dx fs v, x = .ref a ∧ H1 a = some (.ins C dx fs) ∧ Cls K C ∧ NoAttr K C f ∧ fs.lookup f = some v ∧
    tv σ H1 fun y H2 => rd v y H2 (kAugG f a C A σ)
def kTest (Qb : Bool → Hp → Prop) : VK := fun x H1 => ∃ k, x = .bl k ∧ Qb k H1
def kTru (Qb : Bool → Hp → Prop) : VK := fun x H1 => ∃ k, TruV K x H1 k ∧ Qb k H1
def kAndV (σ : L2.St) (tb : TE) (Q : VK) : VK := fun x H1 => ∃ c, x = .bl c ∧ if c = true then tb σ H1 Q else Q (.bl false) H1
def kOrV (σ : L2.St) (tb : TE) (Q : VK) : VK := fun x H1 => ∃ c, x = .bl c ∧ if c = true then Q (.bl true) H1 else tb σ H1 Q
def kNotV (Q : VK) : VK := fun x H1 => ∃ c, x = .bl c ∧ Q (.bl (!c)) H1
def kChain (r' : R2) (σ : L2.St) (tc : TE) (y : V) (Q : VK) : VK := fun z H3 => ∃ k, z = .bl k ∧ (if k = true then tc σ H3 fun w' H4 => r' y w' H4 Q else Q (.bl false) H3)
def kMeth (C : Addr) (m : Str) (σ : L2.St) (tr : TA) (Z : V → List V → Hp → Prop) : VK := fun x H1 => ∃ a dx fs, x = .ref a ∧ H1 a = some (.ins C dx fs) ∧ fs.lookup m = none ∧ tr σ H1 fun vs H2 => Z x vs H2
def kInit (Q : VK) (x : Addr) : VK := fun v H2 => v = .non ∧ Q (.ref x) H2
def kMake (C : Addr) (sp : Sp) (dvs : List V) (E : XK) (Q : VK) : List V → Hp → Prop := fun vs H1 => ∀ x dx, H1 x = none → H1 dx = none → dx ≠ x → sp (.ref x :: (vs ++ dvs)) (upd (upd H1 dx (.own x)) x (.ins C dx [])) (kInit Q x) E
def kBm (T : String) (r : V → List V → Hp → VK → Prop) (σ : L2.St) (tr : TA) (Q : VK) : VK := fun x H1 => tyV K T x H1 ∧ tr σ H1 fun xs H2 => r x xs H2 Q
def kPar2 (i j : Nat) (σ : L2.St) (A : L2.St → Hp → Prop) : List V → Hp → Prop := fun vs H1 => ∃ v w, vs = [v, w] ∧ gName i v σ H1 fun σ1 H2 => gName j w σ1 H2 A
def kPar3 (i j l : Nat) (σ : L2.St) (A : L2.St → Hp → Prop) : List V → Hp → Prop := fun vs H1 => ∃ u v w, vs = [u, v, w] ∧ gName i u σ H1 fun σ1 H2 => gName j v σ1 H2 fun σ2 H3 => gName l w σ2 H3 A
def kCall (sp : Sp) (dvs : List V) (E : XK) (Q : VK) : List V → Hp → Prop := fun vs H1 => sp (vs ++ dvs) H1 Q E
end
/-! ### statements -/
section
variable {K : PySem.W.Frag} {A : L2.St → Hp → Prop} {Bt : VK} {Cb Dc : L2.St → Hp → Prop} {σ σ' : L2.St} {B H : Hp} {Q : VK} {R : L2.St → Hp → Prop} {L L' : List (Addr × HO)} {I : List Im}
theorem s_nx (h : A σ H) : Ends.nx ⟨A, Bt, Cb, Dc⟩ σ H := h
theorem s_rt {v : V} (h : Bt v H) : Ends.rt ⟨A, Bt, Cb, Dc⟩ v H := h
theorem s_bk (h : Cb σ H) : Ends.bk ⟨A, Bt, Cb, Dc⟩ σ H := h
theorem s_ct (h : Dc σ H) : Ends.ct ⟨A, Bt, Cb, Dc⟩ σ H := h
theorem s_seq {t u : TS} (h : t ⟨u ⟨A, Bt, Cb, Dc⟩, Bt, Cb, Dc⟩ σ H) : tSeq t u ⟨A, Bt, Cb, Dc⟩ σ H := h
theorem s_next (h : A σ H) : tNext ⟨A, Bt, Cb, Dc⟩ σ H := h
theorem s_break (h : Cb σ H) : tBreak ⟨A, Bt, Cb, Dc⟩ σ H := h
theorem s_cont (h : Dc σ H) : tCont ⟨A, Bt, Cb, Dc⟩ σ H := h
theorem s_asg {te : TE} {g : TG} (h : te σ H fun x H1 => g x σ H1 A) : tAsg te g ⟨A, Bt, Cb, Dc⟩ σ H := h
theorem s_asg2 {te : TE} {g g2 : TG} (h : te σ H fun x H1 => g x σ H1 fun σ1 H2 => g2 x σ1 H2 A) : tAsg2 te g g2 ⟨A, Bt, Cb, Dc⟩ σ H := h
theorem s_name {i : Nat} {v : V} (h : SetAt v i σ σ') (q : R σ' H) : gName i v σ H R := by
  show R (σ.set i (some v)) H
  rw [h.ok]
  exact q
theorem s_ret {te : TE} (h : te σ H Bt) : tRet te ⟨A, Bt, Cb, Dc⟩ σ H := h
theorem s_retN (h : Bt .non H) : tRetN ⟨A, Bt, Cb, Dc⟩ σ H := h
theorem s_drop {te : TE} (h : te σ H fun _ H1 => A σ H1) : tDrop te ⟨A, Bt, Cb, Dc⟩ σ H := h
theorem s_if {c : TT} {t u : TS} (h : c σ H fun b H1 => if b = true then t ⟨A, Bt, Cb, Dc⟩ σ H1 else u ⟨A, Bt, Cb, Dc⟩ σ H1) : tIfS c t u ⟨A, Bt, Cb, Dc⟩ σ H := h
theorem s_aug {i : Nat} {te : TE} {ti : TIp} {x : V} (e : σ[i]? = some (some x)) (h : te σ H fun y H1 => ti x y H1 fun z H2 => gName i z σ H2 A) : tAug i te ti ⟨A, Bt, Cb, Dc⟩ σ H := ⟨x, e, h⟩
theorem s_par {i j : Nat} {ta : TA} (h : ta σ H (kPar2 i j σ A)) : tPar i j ta ⟨A, Bt, Cb, Dc⟩ σ H := h
theorem s_par3 {i j l : Nat} {ta : TA} (h : ta σ H (kPar3 i j l σ A)) : tPar3 i j l ta ⟨A, Bt, Cb, Dc⟩ σ H := h
theorem s_par2V {i j : Nat} {v w : V} (h : gName i v σ H fun σ1 H2 => gName j w σ1 H2 A) : kPar2 i j σ A [v, w] H := ⟨v, w, rfl, h⟩
theorem s_par3V {i j l : Nat} {u v w : V} (h : gName i u σ H fun σ1 H2 => gName j v σ1 H2 fun σ2 H3 => gName l w σ2 H3 A) : kPar3 i j l σ A [u, v, w] H := ⟨u, v, w, rfl, h⟩
theorem s_raise {C : Addr} {E : XK} (h : E (.ref C) none H) : tRaiseE C E ⟨A, Bt, Cb, Dc⟩ σ H := h
/-! ### expressions -/
variable {ta tb te : TE} {tr : TA} {v x y : V}
theorem s_var {i : Nat} (e : σ[i]? = some (some v)) (h : Q v H) : tVar i σ H Q := ⟨v, e, h⟩
theorem s_c (h : Q v H) : tC v σ H Q := h
theorem s_op {r : R2} (h : ta σ H fun x H1 => tb σ H1 fun y H2 => r x y H2 Q) : tOp r ta tb σ H Q := h
theorem s_un {r : V → Hp → VK → Prop} (h : ta σ H fun x H1 => r x H1 Q) : tUn r ta σ H Q := h
theorem s_cons {Qa : List V → Hp → Prop} (h : te σ H fun x H1 => tr σ H1 fun xs H2 => Qa (x :: xs) H2) : tCons te tr σ H Qa := h
theorem s_nil {Qa : List V → Hp → Prop} (h : Qa [] H) : tNil σ H Qa := h
theorem s_tup (h : tr σ H (kTup Q)) : tTup tr σ H Q := h
theorem s_lst (h : tr σ H (kLst Q)) : tLst tr σ H Q := h
theorem s_tupN {xs : List V} (hC : Ctx K B H L I) (hz : xs.length ≤ 1000) (k : ∀ p H1, Ctx K B H1 L (.tup p xs :: I) → Q (.ref p) H1) : kTup Q xs H :=
  ⟨Nat.le_trans hz (by decide), fun p hp => k p _ (hC.newT hp)⟩
theorem s_lstN {xs : List V} (hC : Ctx K B H L I) (hz : xs.length ≤ 1000) (k : ∀ p H1, Ctx K B H1 ((p, .lst xs) :: L) I → Q (.ref p) H1) : kLst Q xs H :=
  ⟨Nat.le_trans hz (by decide), fun p hp => k p _ (hC.newM hp rfl)⟩
theorem s_dnewK (hC : Ctx K B H L I) (k : ∀ p H1, Ctx K B H1 ((p, .dK []) :: L) I → Q (.ref p) H1) : tDNewK σ H Q := fun p hp => k p _ (hC.newM hp rfl)
theorem s_dnewT (hC : Ctx K B H L I) (k : ∀ p H1, Ctx K B H1 ((p, .dT []) :: L) I → Q (.ref p) H1) : tDNewT σ H Q := fun p hp => k p _ (hC.newM hp rfl)
theorem s_fld {f : Str} (h : ta σ H (kFld K f Q)) : tFld K ta f σ H Q := h
theorem s_fldV {f : Str} {a C dx : Addr} {fs : List (Str × V)} (m : H a = some (.ins C dx fs)) (c : Cls K C) (n : NoAttr K C f) (l : Lk f fs v) (q : Q v H) : kFld K f Q (.ref a) H := ⟨a, C, dx, fs, v, rfl, m, c, n, l.ok, q⟩
theorem s_setF {f : Str} {tv : TE} (h : tv σ H fun y H1 => ta σ H1 (kSetF K f A σ y)) : sFld K ta tv f ⟨A, Bt, Cb, Dc⟩ σ H := h
theorem s_setV {f : Str} {a C dx : Addr} {fs fs' : List (Str × V)} (hC : Ctx K B H L I) (m : H a = some (.ins C dx fs)) (c : Cls K C) (n : NoAttr K C f) (z : fs.length < 1000) (p : Put f y fs fs') (u : Up a (.ins C dx fs') L L')
    (k : ∀ H1, Ctx K B H1 L' I → A σ H1) : kSetF K f A σ y (.ref a) H :=
  ⟨a, C, dx, fs, rfl, m, c, n, z, by rw [p.ok]; exact k _ (hC.put u rfl)⟩
theorem s_augF {f : Str} {tv : TE} {rd : R2} (h : ta σ H (kAugF K f tv rd A σ)) : sFldAug K ta tv rd f ⟨A, Bt, Cb, Dc⟩ σ H := h
theorem s_augV {f : Str} {a C dx : Addr} {fs : List (Str × V)} {tv : TE} {rd : R2} (m : H a = some (.ins C dx fs)) (c : Cls K C) (n : NoAttr K C f) (l : Lk f fs v) (q : tv σ H fun y H2 => rd v y H2 (kAugG f a C A σ)) : kAugF K f tv rd A σ (.ref a) H := ⟨a, C, dx, fs, v, rfl, m, c, n, l.ok, q⟩
theorem s_augW {f : Str} {a C dx : Addr} {fs fs' : List (Str × V)} (hC : Ctx K B H L I) (m : H a = some (.ins C dx fs)) (z : fs.length < 1000) (p : Put f y fs fs') (u : Up a (.ins C dx fs') L L')
    (k : ∀ H1, Ctx K B H1 L' I → A σ H1) : kAugG f a C A σ y H := ⟨dx, fs, m, z, by rw [p.ok]; exact k _ (hC.put u rfl)⟩
theorem s_addI {i j : Int} (h : Q (.int (i + j)) H) : rAddU K (.int i) (.int j) H Q := h
theorem s_addS {i j : Str} (z : i.length + j.length ≤ sizeLine) (h : Q (.str (i ++ j)) H) : rAddU K (.str i) (.str j) H Q := ⟨z, h⟩
theorem s_addL {l b : Addr} {xs zs : List V} (hC : Ctx K B H L I) (h1 : H l = some (.lst xs)) (h2 : H b = some (.lst zs)) (z : xs.length + zs.length ≤ 100000) (k : ∀ p H1, Ctx K B H1 ((p, .lst (xs ++ zs)) :: L) I → Q (.ref p) H1) :
    rAddU K (.ref l) (.ref b) H Q := .inl ⟨xs, zs, h1, h2, Nat.le_trans z (by decide), fun p hp => k p _ (hC.newM hp rfl)⟩
theorem s_subI {i j : Int} (h : Q (.int (i - j)) H) : rSubU (.int i) (.int j) H Q := h
theorem s_mulI {i j : Int} (c : CMul i j) (h : Q (.int (i * j)) H) : rMulU (.int i) (.int j) H Q := ⟨c, h⟩
theorem s_divI {i j : Int} (c : CDiv i j) (h : Q (.int (i / j)) H) : rDivU (.int i) (.int j) H Q := ⟨c, h⟩
theorem s_modI {i j : Int} (c : 0 < j) (h : Q (.int (i % j)) H) : rModU (.int i) (.int j) H Q := ⟨c, h⟩
theorem s_powI {i j : Int} (c : CPow i j) (h : Q (.int (i ^ j.toNat)) H) : rPowU (.int i) (.int j) H Q := ⟨c, h⟩
theorem s_negI {i : Int} (h : Q (.int (-i)) H) : rNeg (.int i) H Q := ⟨i, rfl, h⟩
theorem s_iaddI {i j : Int} (h : Q (.int (i + j)) H) : rIAddU (.int i) (.int j) H Q := h
theorem s_ltI {i j : Int} (h : Q (.bl (decide (i < j))) H) : rLt (.int i) (.int j) H Q := h
theorem s_leI {i j : Int} (h : Q (.bl (decide (i ≤ j))) H) : rLe (.int i) (.int j) H Q := h
theorem s_gtI {i j : Int} (h : Q (.bl (decide (j < i))) H) : rGt (.int i) (.int j) H Q := h
theorem s_geI {i j : Int} (h : Q (.bl (decide (j ≤ i))) H) : rGe (.int i) (.int j) H Q := h
theorem s_isN_non (h : Q (.bl true) H) : rIsN .non .non H Q := ⟨rfl, h⟩
theorem s_isN_ref {a : Addr} (h : Q (.bl false) H) : rIsN (.ref a) .non H Q := ⟨rfl, h⟩
theorem s_isN_int {i : Int} (h : Q (.bl false) H) : rIsN (.int i) .non H Q := ⟨rfl, h⟩
theorem s_isN_str {i : Str} (h : Q (.bl false) H) : rIsN (.str i) .non H Q := ⟨rfl, h⟩
theorem s_isN_bl {i : Bool} (h : Q (.bl false) H) : rIsN (.bl i) .non H Q := ⟨rfl, h⟩
theorem s_notN_non (h : Q (.bl false) H) : rNotN .non .non H Q := ⟨rfl, h⟩
theorem s_notN_ref {a : Addr} (h : Q (.bl true) H) : rNotN (.ref a) .non H Q := ⟨rfl, h⟩
theorem s_notN_int {i : Int} (h : Q (.bl true) H) : rNotN (.int i) .non H Q := ⟨rfl, h⟩
theorem s_notN_str {i : Str} (h : Q (.bl true) H) : rNotN (.str i) .non H Q := ⟨rfl, h⟩
theorem s_notN_bl {i : Bool} (h : Q (.bl true) H) : rNotN (.bl i) .non H Q := ⟨rfl, h⟩
theorem s_eqI {i j : Int} (h : Q (.bl (decide (i = j))) H) : rEqU K (.int i) (.int j) H Q := .inl ⟨rfl, by rw [show decide (V.int i = V.int j) = decide (i = j) from by simp]; exact h⟩
theorem s_neI {i j : Int} (h : Q (.bl (!decide (i = j))) H) : rNeU K (.int i) (.int j) H Q := .inl ⟨rfl, by rw [show decide (V.int i = V.int j) = decide (i = j) from by simp]; exact h⟩
theorem s_eqS {i j : Str} (h : Q (.bl (decide (i = j))) H) : rEqU K (.str i) (.str j) H Q := .inl ⟨rfl, by rw [show decide (V.str i = V.str j) = decide (i = j) from by simp]; exact h⟩
theorem s_neS {i j : Str} (h : Q (.bl (!decide (i = j))) H) : rNeU K (.str i) (.str j) H Q := .inl ⟨rfl, by rw [show decide (V.str i = V.str j) = decide (i = j) from by simp]; exact h⟩
theorem s_eqB {i j : Bool} (h : Q (.bl (i == j)) H) : rEqU K (.bl i) (.bl j) H Q := .inl ⟨rfl, by rw [show decide (V.bl i = V.bl j) = (i == j) from by cases i <;> cases j <;> rfl]; exact h⟩
theorem s_neB {i j : Bool} (h : Q (.bl (i != j)) H) : rNeU K (.bl i) (.bl j) H Q := .inl ⟨rfl, by rw [show (!decide (V.bl i = V.bl j)) = (i != j) from by cases i <;> cases j <;> rfl]; exact h⟩
theorem s_eqNS {j : Str} (h : Q (.bl false) H) : rEqU K .non (.str j) H Q := .inl ⟨rfl, h⟩
theorem s_neNS {j : Str} (h : Q (.bl true) H) : rNeU K .non (.str j) H Q := .inl ⟨rfl, h⟩
theorem s_eqD {d e : PyData} (h1 : Dp K H x d) (h2 : Dp K H y e) (s1 : SeqAt.shaped d = true) (s2 : SeqAt.shaped e = true) (h : Q (.bl (PyData.eqv d e)) H) : rEqU K x y H Q := .inr ⟨d, e, h1, h2, s1, s2, h⟩
theorem s_neD {d e : PyData} (h1 : Dp K H x d) (h2 : Dp K H y e) (s1 : SeqAt.shaped d = true) (s2 : SeqAt.shaped e = true) (h : Q (.bl (!PyData.eqv d e)) H) : rNeU K x y H Q := .inr ⟨d, e, h1, h2, s1, s2, h⟩
/-- an item of a tuple, of a list, at a place -/
theorem s_ixT {a : Addr} {xs : List V} {j : Nat} (h : SqT K H a xs) (e : xs[j]? = some v) (q : Q v H) : rIxU K (.ref a) (.int (j : Nat)) H Q := .inr (.inl ⟨a, xs, j, v, rfl, rfl, h, atI_nat e, q⟩)
theorem s_ixL {a : Addr} {xs : List V} {i : Int} (h : H a = some (.lst xs)) (e : atI xs i = some v) (q : Q v H) : rIxU K (.ref a) (.int i) H Q := .inl ⟨a, xs, i, v, rfl, rfl, SqL.of h, e, q⟩
theorem s_ixD {a : Addr} {r : List (Key × V)} {k : Str} (h : H a = some (.dK r)) (e : Dk (Sum.inr k) r v) (q : Q v H) : rIxU K (.ref a) (.str k) H Q :=
  .inr (.inr (.inr ⟨a, v, rfl, by rw [← e.ok]; exact DGet.k (k := Sum.inr k) h, q⟩))
theorem s_subG {to ti : TE} {t : TSet} (h : to σ H fun o H1 => ti σ H1 fun i H2 => t o i v H2 fun H3 => R σ H3) : gSub to ti t v σ H R := h
theorem s_putD {a : Addr} {r r' : List (Key × V)} {k : Str} {Z : Hp → Prop} (hC : Ctx K B H L I) (h : H a = some (.dK r)) (z : r.length < 1000) (e : DPt (Sum.inr k) v r r') (u : Up a (.dK r') L L') (q : ∀ H1, Ctx K B H1 L' I → Z H1) : rSetU (.ref a) (.str k) v H Z :=
  .inr ⟨a, upd H a (.dK (putK r (Sum.inr k) v)), rfl, DPut.k (k := Sum.inr k) h (Nat.lt_of_lt_of_le z (by decide)), by rw [e.ok]; exact q _ (hC.put u rfl)⟩
theorem s_putL {a : Addr} {xs xs' : List V} {i : Int} {j : Nat} {Z : Hp → Prop} (hC : Ctx K B H L I) (h : H a = some (.lst xs)) (e : ixN xs.length i = some j) (w : LSet v j xs xs') (u : Up a (.lst xs') L L') (q : ∀ H1, Ctx K B H1 L' I → Z H1) : rSetU (.ref a) (.int i) v H Z :=
  .inl ⟨a, xs, i, j, rfl, rfl, h, e, by rw [w.ok]; exact q _ (hC.put u rfl)⟩
theorem s_gtup {n : Nat} {t : TGs} {a : Addr} {xs : List V} (h : SqT K H a xs) (z : xs.length = n) (q : t xs σ H R) : gTup K n t (.ref a) σ H R := ⟨a, xs, rfl, h, z, q⟩
theorem s_gcons {t : TG} {u : TGs} {r : List V} (q : t v σ H fun σ1 H1 => u r σ1 H1 R) : gCons t u (v :: r) σ H R := ⟨v, r, rfl, q⟩
theorem s_gnil (q : R σ H) : gNil [] σ H R := ⟨rfl, q⟩
/-! ### tests -/
variable {t u : TT} {Qb : Bool → Hp → Prop} {b : Bool}
theorem s_test (h : te σ H (kTest Qb)) : tTest te σ H Qb := h
theorem s_bl (h : Qb b H) : kTest Qb (.bl b) H := ⟨b, rfl, h⟩
theorem s_and (h : t σ H fun c H1 => if c = true then u σ H1 Qb else Qb false H1) : tAnd t u σ H Qb := h
theorem s_or (h : t σ H fun c H1 => if c = true then Qb true H1 else u σ H1 Qb) : tOr t u σ H Qb := h
theorem s_not (h : t σ H fun c H1 => Qb (!c) H1) : tNot t σ H Qb := h
theorem s_tru (h : ta σ H (kTru K Qb)) : tTruth K ta σ H Qb := h
theorem s_truB (h : Qb b H) : kTru K Qb (.bl b) H := ⟨b, rfl, h⟩
theorem s_truN (h : Qb false H) : kTru K Qb .non H := ⟨false, rfl, h⟩
theorem s_andB (h : if b = true then tb σ H Q else Q (.bl false) H) : kAndV σ tb Q (.bl b) H := ⟨b, rfl, h⟩
theorem s_orB (h : if b = true then Q (.bl true) H else tb σ H Q) : kOrV σ tb Q (.bl b) H := ⟨b, rfl, h⟩
theorem s_notB (h : Q (.bl (!b)) H) : kNotV Q (.bl b) H := ⟨b, rfl, h⟩
theorem s_andV (h : ta σ H (kAndV σ tb Q)) : tAndV ta tb σ H Q := h
theorem s_orV (h : ta σ H (kOrV σ tb Q)) : tOrV ta tb σ H Q := h
theorem s_notV (h : ta σ H (kNotV Q)) : tNotV ta σ H Q := h
theorem s_ifE (h : t σ H fun c H1 => if c = true then ta σ H1 Q else tb σ H1 Q) : tIf t ta tb σ H Q := h
theorem s_chain {r r' : R2} {tc : TE} (h : ta σ H fun x H1 => tb σ H1 fun y H2 => r x y H2 (kChain r' σ tc y Q)) : tChain r r' ta tb tc σ H Q := h
theorem s_chainB {r' : R2} {tc : TE} (h : if b = true then tc σ H fun w' H4 => r' y w' H4 Q else Q (.bl false) H) : kChain r' σ tc y Q (.bl b) H := ⟨b, rfl, h⟩
theorem s_iteD {p : Prop} [Decidable p] {X Y : Prop} (h1 : p → X) (h2 : ¬ p → Y) : if decide p = true then X else Y := by
  by_cases h : p
  · rw [if_pos (decide_eq_true h)]
    exact h1 h
  · rw [if_neg (by rw [decide_eq_false h]; exact Bool.false_ne_true)]
    exact h2 h
theorem s_iteND {p : Prop} [Decidable p] {X Y : Prop} (h1 : ¬ p → X) (h2 : p → Y) : if (!decide p) = true then X else Y := by
  by_cases h : p
  · rw [decide_eq_true h]
    exact iteF (h2 h)
  · rw [decide_eq_false h]
    exact iteT (h1 h)
theorem s_iteB {X Y : Prop} (h1 : b = true → X) (h2 : b = false → Y) : if b = true then X else Y := by
  cases b with
  | true => exact iteT (h1 rfl)
  | false => exact iteF (h2 rfl)
theorem s_iteNB {X Y : Prop} (h1 : b = false → X) (h2 : b = true → Y) : if (!b) = true then X else Y := by
  cases b with
  | true => exact iteF (h2 rfl)
  | false => exact iteT (h1 rfl)
theorem s_iteNT {X Y : Prop} (h : Y) : if (!true) = true then X else Y := iteF h
theorem s_iteNF {X Y : Prop} (h : X) : if (!false) = true then X else Y := iteT h
theorem s_iteDT {p : Prop} [Decidable p] {X Y : Prop} (hp : p) (h : X) : if decide p = true then X else Y := by
  rw [decide_eq_true hp]
  exact iteT h
theorem s_iteDF {p : Prop} [Decidable p] {X Y : Prop} (hp : ¬ p) (h : Y) : if decide p = true then X else Y := by
  rw [decide_eq_false hp]
  exact iteF h
/-! ### calls -/
theorem s_cb {r : List V → Hp → VK → Prop} (h : tr σ H fun vs H1 => r vs H1 Q) : tCB r tr σ H Q := h
theorem s_abs {i : Int} (h : Q (.int (if i < 0 then -i else i)) H) : rAbs [.int i] H Q := ⟨i, rfl, h⟩
theorem s_max2 {i j : Int} (h : Q (.int (if j > i then j else i)) H) : rMax2 [.int i, .int j] H Q := ⟨i, j, rfl, h⟩
theorem s_min2 {i j : Int} (h : Q (.int (if j < i then j else i)) H) : rMin2 [.int i, .int j] H Q := ⟨i, j, rfl, h⟩
theorem s_int1 {i : Int} (h : Q (.int i) H) : rInt1 [.int i] H Q := .inl ⟨i, rfl, h⟩
theorem s_int1b (h : Q (.int (if b then 1 else 0)) H) : rInt1 [.bl b] H Q := .inr ⟨b, rfl, h⟩
theorem s_lenL {l : Addr} {xs : List V} (m : H l = some (.lst xs)) (h : Q (.int xs.length) H) : rLenU K [.ref l] H Q := .inl ⟨_, _, rfl, .inl ⟨xs, SqL.of m, rfl⟩, h⟩
theorem s_lenT {l : Addr} {xs : List V} (m : SqT K H l xs) (h : Q (.int xs.length) H) : rLenU K [.ref l] H Q := .inl ⟨_, _, rfl, .inr ⟨xs, m, rfl⟩, h⟩
theorem s_lenS {z : Str} (m : z.length ≤ sizeLine) (h : Q (.int z.length) H) : rLenU K [.str z] H Q := .inl ⟨_, _, rfl, ⟨m, rfl⟩, h⟩
theorem s_lenD {l : Addr} {r : List (Key × V)} (m : H l = some (.dK r)) (h : Q (.int r.length) H) : rLenU K [.ref l] H Q := .inr ⟨_, _, rfl, m, h⟩
theorem s_call {sp : Sp} {dvs : List V} {E : XK} (h : tr σ H (kCall sp dvs E Q)) : tCall sp dvs E tr σ H Q := h
theorem s_meth {C : Addr} {m : Str} {sp : Sp} {dvs : List V} {E : XK} (h : ta σ H (kMeth C m σ tr fun x vs H2 => kCall sp dvs E Q (x :: vs) H2)) : tMeth C m sp dvs E ta tr σ H Q := h
theorem s_methV {a C dx : Addr} {fs : List (Str × V)} {m : Str} {Z : V → List V → Hp → Prop} (e : H a = some (.ins C dx fs)) (n : NoLk m fs) (h : tr σ H fun vs H2 => Z (.ref a) vs H2) : kMeth C m σ tr Z (.ref a) H := ⟨a, dx, fs, rfl, e, n.ok, h⟩
theorem s_callV {sp : Sp} {vs : List V} {E : XK} (h : sp vs H Q E) : kCall sp [] E Q vs H := by
  unfold kCall
  rw [List.append_nil]
  exact h
theorem s_make {C : Addr} {sp : Sp} {dvs : List V} {E : XK} (h : tr σ H (kMake C sp dvs E Q)) : tMake C sp dvs E tr σ H Q := h
theorem s_makeV {C : Addr} {sp : Sp} {vs : List V} {E : XK} (hC : Ctx K B H L I) (k : ∀ x dx H1, Ctx K B H1 ((x, .ins C dx []) :: L) I → sp (.ref x :: vs) H1 (kInit Q x) E) : kMake C sp [] E Q vs H := fun x dx hx hd ne => by
  rw [List.append_nil]
  refine k x dx _ ?_
  have h1 : Ctx K B (upd H dx (.own x)) L I := hC.moved (Stb.new hd) (hC.lay.keep hd)
  exact h1.newM (by rw [upd_ne (fun z => ne z.symm)]; exact hx) rfl
theorem s_bm {T : String} {r : V → List V → Hp → VK → Prop} {to : TE} (h : to σ H (kBm K T r σ tr Q)) : tBM K T r to tr σ H Q := h
theorem s_tyL {l : Addr} {xs : List V} {r : V → List V → Hp → VK → Prop} (m : H l = some (.lst xs)) (h : tr σ H fun xs H2 => r (.ref l) xs H2 Q) : kBm K "list" r σ tr Q (.ref l) H := ⟨.inl ⟨rfl, _, SqL.of m⟩, h⟩
theorem s_append {l : Addr} {xs : List V} (hC : Ctx K B H L I) (m : H l = some (.lst xs)) (z : xs.length < 100000) (u : Up l (.lst (xs ++ [y])) L L') (k : ∀ H1, Ctx K B H1 L' I → Q .non H1) : rAppend (.ref l) [y] H Q :=
  ⟨l, xs, y, rfl, rfl, m, Nat.lt_of_lt_of_le z (by decide), k _ (hC.put u rfl)⟩
end
end Ph
namespace Ph
open PySem PySem.Spec PyProof.Rows L2
/-- no dict within, texts sound, n deep at most -/
def Sh (n : Nat) (d : PyData) : Prop := d.canLay0 = true ∧ d.depth ≤ n
def ShL (n : Nat) (ds : List PyData) : Prop := ∀ d, d ∈ ds → Sh n d
theorem Sh.shaped {n : Nat} {d : PyData} (h : Sh n d) (z : n ≤ 64) : SeqAt.shaped d = true := by
  unfold SeqAt.shaped
  rw [h.1, Bool.true_and]
  exact decide_eq_true (Nat.le_trans h.2 z)
theorem Sh.mono {n m : Nat} {d : PyData} (h : Sh n d) (z : n ≤ m) : Sh m d := ⟨h.1, Nat.le_trans h.2 z⟩
theorem Sh.int {n : Nat} (i : Int) : Sh n (.int i) := ⟨by simp [PyData.canLay0], by simp [PyData.depth]⟩
theorem Sh.bl {n : Nat} (i : Bool) : Sh n (.bool i) := ⟨by simp [PyData.canLay0], by simp [PyData.depth]⟩
theorem Sh.non {n : Nat} : Sh n .none := ⟨by simp [PyData.canLay0], by simp [PyData.depth]⟩
theorem Sh.str {n : Nat} {x : Str} (h : PyData.strOk x = true) : Sh n (.str x) := ⟨by simp [PyData.canLay0, h], by simp [PyData.depth]⟩
theorem canAll {ds : List PyData} (h : ∀ d, d ∈ ds → d.canLay0 = true) : PyData.canLayAll0 ds = true := by
  induction ds with
  | nil => simp [PyData.canLayAll0]
  | cons d r ih =>
    rw [PyData.canLayAll0, h d List.mem_cons_self, ih (fun e he => h e (List.mem_cons_of_mem _ he))]
    rfl
theorem depAll {n : Nat} {ds : List PyData} (h : ∀ d, d ∈ ds → d.depth ≤ n) : PyData.depthAll ds ≤ n := by
  induction ds with
  | nil => simp [PyData.depthAll]
  | cons d r ih =>
    have h1 := h d List.mem_cons_self
    have h2 := ih (fun e he => h e (List.mem_cons_of_mem _ he))
    rw [PyData.depthAll]
    omega
theorem ShL.list {n : Nat} {ds : List PyData} (h : ShL n ds) : Sh (n + 1) (.list ds) := by
  refine ⟨by rw [PyData.canLay0]; exact canAll fun d hd => (h d hd).1, ?_⟩
  have := depAll fun d hd => (h d hd).2
  rw [PyData.depth]
  omega
theorem ShL.tuple {n : Nat} {ds : List PyData} (h : ShL n ds) : Sh (n + 1) (.tuple ds) := by
  refine ⟨by rw [PyData.canLay0]; exact canAll fun d hd => (h d hd).1, ?_⟩
  have := depAll fun d hd => (h d hd).2
  rw [PyData.depth]
  omega
theorem ShL.nil {n : Nat} : ShL n [] := fun d h => by cases h
theorem ShL.cons {n : Nat} {d : PyData} {ds : List PyData} (h : Sh n d) (t : ShL n ds) : ShL n (d :: ds) := fun e he => (List.mem_cons.mp he).elim (fun q => by rw [q]; exact h) (t e)
theorem ShL.append {n : Nat} {ds es : List PyData} (h : ShL n ds) (t : ShL n es) : ShL n (ds ++ es) := fun e he => (List.mem_append.mp he).elim (h e) (t e)
/-- L has what T tells, in another order -/
inductive Perm2 (F : List (Addr × HO)) : List (Addr × HO) → List (Addr × HO) → Prop
  | nil : Perm2 F F F
  | cons {x : Addr × HO} {L L' T : List (Addr × HO)} : Pick x L L' → Perm2 F L' T → Perm2 F L (x :: T)
theorem Perm2.lay {F : List (Addr × HO)} : ∀ {L T : List (Addr × HO)}, Perm2 F L T → L.Perm T
  | _, _, .nil => List.Perm.refl _
  | _, _, .cons p h => p.perm.trans (List.Perm.cons _ h.lay)
theorem Lay.perm2 {H : Hp} {F L T : List (Addr × HO)} (h : Lay H L) (p : Perm2 F L T) : Lay H T := h.perm p.lay
theorem TD.tupR {K : PySem.W.Frag} {H : Hp} {a : Addr} {xs : List V} {ds : List PyData} (t : TDs K H xs ds) (h : SqT K H a xs) : TD K H (.ref a) (.tuple ds) := .tup h t
theorem eqv_self {n : Nat} {d : PyData} (h : Sh n d) : PyData.eqv d d = true := SeqAt.eqv_refl d h.1
end Ph
namespace Ph
open PySem PySem.Spec PyProof.Rows L2
section
variable {K : PySem.W.Frag} {B H : Hp} {L L' F : List (Addr × HO)} {I : List Im} {Q : VK} {σ : L2.St} {A Cb Dc : L2.St → Hp → Prop} {Bt : VK}
/-! slices -/
def kPart (Qo : Option Int → Hp → Prop) : VK := fun x H1 => ∃ i, x = .int i ∧ Qo (some i) H1
theorem s_sl {r : V → Option Int → Option Int → Hp → VK → Prop} {te : TE} {tl th : TO} (h : te σ H fun x H1 => tl σ H1 fun l H2 => th σ H2 fun u H3 => r x l u H3 Q) : tSl r te tl th σ H Q := h
theorem s_noPart {Qo : Option Int → Hp → Prop} (h : Qo none H) : tNoPart σ H Qo := h
theorem s_partE {t : TE} {Qo : Option Int → Hp → Prop} (h : t σ H (kPart Qo)) : tPart t σ H Qo := h
theorem s_partV {i : Int} {Qo : Option Int → Hp → Prop} (h : Qo (some i) H) : kPart Qo (.int i) H := ⟨i, rfl, h⟩
theorem s_slL {a : Addr} {xs : List V} {lo hi : Option Int} (hC : Ctx K B H L I) (h : SqL K H a xs) (k : ∀ p H1, Ctx K B H1 ((p, .lst (cutV xs lo hi)) :: L) I → Q (.ref p) H1) : rSlU K (.ref a) lo hi H Q :=
  .inl ⟨a, xs, rfl, h, fun p hp => k p _ (hC.newM hp rfl)⟩
/-! for -/
def kIl (K : PySem.W.Frag) (R : It → Hp → Prop) : VK := fun x H1 => ∃ a, x = .ref a ∧ (∃ xs, SqL K H1 a xs) ∧ R (Itl K a) H1
def kRng (R : It → Hp → Prop) : List V → Hp → Prop := fun vs H1 => ∃ j : Int, vs = [.int j] ∧ -(2 ^ 62) ≤ j ∧ j < 2 ^ 62 ∧ R (Itr 0 j.toNat) H1
def kFor (g : TG) (tb : TS) (D : Ends) (σ : L2.St) : It → Hp → Prop := fun J H1 => ∃ W : Nat → Nat → L2.St → Hp → Prop, (∃ m, W 0 m σ H1) ∧ ∀ i m σ H, W i m σ H →
  (J.stop i H ∧ D.nx σ H) ∨ (J.go i H ∧ ∃ N : L2.St → Hp → Prop, (∀ σ' H', N σ' H' → ∃ m', m' < m ∧ W (i + 1) m' σ' H') ∧ ∀ x H', J.yld i H x H' → g x σ H' fun σ2 H2 => tb { D with nx := N, ct := N, bk := D.nx } σ2 H2)
theorem s_for {wi : TI} {g : TG} {tb : TS} (h : wi σ H (kFor g tb ⟨A, Bt, Cb, Dc⟩ σ)) : tFor wi g tb ⟨A, Bt, Cb, Dc⟩ σ H := h
theorem s_il {tl : TE} {R : It → Hp → Prop} (h : tl σ H (kIl K R)) : iList K tl σ H R := h
theorem s_ilV {a : Addr} {xs : List V} {R : It → Hp → Prop} (m : H a = some (.lst xs)) (h : R (Itl K a) H) : kIl K R (.ref a) H := ⟨a, rfl, ⟨xs, SqL.of m⟩, h⟩
theorem s_rng {ta : TA} {R : It → Hp → Prop} (h : ta σ H (kRng R)) : iRng1 ta σ H R := h
theorem s_rngV {j : Int} {R : It → Hp → Prop} (h1 : -(2 ^ 62) ≤ j) (h2 : j < 2 ^ 62) (h : R (Itr 0 j.toNat) H) : kRng R [.int j] H := ⟨j, rfl, h1, h2, h⟩
theorem for_rng {n : Nat} {g : TG} {tb : TS} (Pv : Nat → L2.St → Hp → Prop) (h0 : Pv 0 σ H)
    (hs : ∀ i σ H, i < n → Pv i σ H → g (.int i) σ H fun σ2 H2 => tb ⟨Pv (i + 1), Bt, A, Pv (i + 1)⟩ σ2 H2) (hd : ∀ σ H, Pv n σ H → A σ H) : kFor g tb ⟨A, Bt, Cb, Dc⟩ σ (Itr 0 n) H :=
  for_range (lo := 0) (n := n) (g := g) (tb := tb) (D := ⟨A, Bt, Cb, Dc⟩) Pv h0 (fun i σ H hi p => by
    rw [Int.zero_add]
    exact hs i σ H hi p) hd
theorem for_lst {a : Addr} {xs : List V} {g : TG} {tb : TS} (Pv : Nat → L2.St → Hp → Prop) (h0 : Pv 0 σ H) (hl : ∀ i σ H, i ≤ xs.length → Pv i σ H → H a = some (.lst xs))
    (hs : ∀ i x σ H, xs[i]? = some x → Pv i σ H → g x σ H fun σ2 H2 => tb ⟨Pv (i + 1), Bt, A, Pv (i + 1)⟩ σ2 H2) (hd : ∀ σ H, Pv xs.length σ H → A σ H) : kFor g tb ⟨A, Bt, Cb, Dc⟩ σ (Itl K a) H :=
  for_list (K := K) (xs := xs) (g := g) (tb := tb) (D := ⟨A, Bt, Cb, Dc⟩) Pv h0 (fun i σ H hi p => SqL.of (hl i σ H hi p)) hs hd
/-! comprehensions -/
def kLc (g : TG) (tt : TT) (te : TE) (vs : List Nat) (σ : L2.St) (Q : VK) : It → Hp → Prop := fun J H1 => ∀ D, H1 D = none → ∃ W : Nat → Nat → Hp → Prop, (∃ m, W 0 m (upd H1 D (.lst []))) ∧ ∀ i m H, W i m H →
  (J.stop i H ∧ Q (.ref D) H) ∨ (J.go i H ∧ ∃ Nx : Hp → Prop, (∀ H', Nx H' → ∃ m', m' < m ∧ W (i + 1) m' H') ∧ ∀ x H', J.yld i H x H' → g x (wipe σ vs) H' fun σ2 H2 => wipe σ2 vs = wipe σ vs ∧ tt σ2 H2 fun b H3 =>
    if b = true then te σ2 H3 fun y H4 => ∃ acc, H4 D = some (.lst acc) ∧ acc.length < sizeLine ∧ Nx (upd H4 D (.lst (acc ++ [y]))) else Nx H3)
theorem s_lc {wi : TI} {g : TG} {tt : TT} {te : TE} {vs : List Nat} (h : wi σ H (kLc g tt te vs σ Q)) : tLc wi g tt te vs σ H Q := h
def kApp (D : Addr) (Pn : Hp → Prop) : VK := fun y H4 => ∃ acc, H4 D = some (.lst acc) ∧ acc.length < sizeLine ∧ Pn (upd H4 D (.lst (acc ++ [y])))
theorem s_app {D : Addr} {Pn : Hp → Prop} {acc : List V} {y : V} (hC : Ctx K B H L I) (m : H D = some (.lst acc)) (z : acc.length < 100000) (u : Up D (.lst (acc ++ [y])) L L') (k : ∀ H1, Ctx K B H1 L' I → Pn H1) : kApp D Pn y H :=
  ⟨acc, m, Nat.lt_of_lt_of_le z (by rw [sizeLine_eq]; omega), k _ (hC.put u rfl)⟩
theorem lc_lst {a : Addr} {xs : List V} {g : TG} {te : TE} {vs : List Nat} (hC : Ctx K B H L I) (Pv : Addr → Nat → Hp → Prop) (h0 : ∀ D H1, Ctx K B H1 ((D, .lst []) :: L) I → Pv D 0 H1) (hl : ∀ i D H, i ≤ xs.length → Pv D i H → H a = some (.lst xs))
    (hs : ∀ i x D H, xs[i]? = some x → Pv D i H → g x (wipe σ vs) H fun σ2 H2 => wipe σ2 vs = wipe σ vs ∧ te σ2 H2 (kApp D (Pv D (i + 1))))
    (hd : ∀ D H, Pv D xs.length H → Q (.ref D) H) : kLc g tYes te vs σ Q (Itl K a) H := fun D hD =>
  lc_list (K := K) (xs := xs) (g := g) (tt := tYes) (te := te) (vs := vs) (σ := σ) (H1 := H) (D := D) (Qd := fun H => Q (.ref D) H) (fun i H => Pv D i H) (h0 D _ (hC.newM hD rfl)) (fun i H hi p => SqL.of (hl i D H hi p))
    (fun i x H hx p => by
      have e : (fun σ2 H2 => wipe σ2 vs = wipe σ vs ∧ tYes σ2 H2 fun b H3 => if b = true then te σ2 H3 fun y H4 => ∃ acc, H4 D = some (.lst acc) ∧ acc.length < sizeLine ∧ Pv D (i + 1) (upd H4 D (.lst (acc ++ [y]))) else Pv D (i + 1) H3)
          = fun σ2 H2 => wipe σ2 vs = wipe σ vs ∧ te σ2 H2 (kApp D (Pv D (i + 1))) := by
        funext σ2 H2
        unfold tYes
        simp only [if_true]
        rfl
      rw [e]
      exact hs i x D H hx p) (fun H p => hd D H p)
/-! dict displays -/
def kDisp (p : Addr) (Q : VK) : List (V × V) → Hp → Prop := fun ps H2 => H2 p = some (.dK []) ∧ ∃ kvs : List (Key × V), ps = kvs.map (fun kv => (kV kv.1, kv.2)) ∧ kvs.length ≤ 15 ∧ Q (.ref p) (upd H2 p (.dK (mergeK [] kvs)))
theorem s_disp {trs : List (TE × TE)} (hC : Ctx K B H L I) (k : ∀ p H1, Ctx K B H1 ((p, .dK []) :: L) I → tPairs trs σ H1 (kDisp p Q)) : tDisp trs σ H Q := fun p hp => k p _ (hC.newM hp rfl)
theorem s_pair {tk tv : TE} {r : List (TE × TE)} {Qp : List (V × V) → Hp → Prop} (h : tk σ H fun x H1 => tv σ H1 fun y H2 => tPairs r σ H2 fun ps H3 => Qp ((x, y) :: ps) H3) : tPairs ((tk, tv) :: r) σ H Qp := h
theorem s_pnil {Qp : List (V × V) → Hp → Prop} (h : Qp [] H) : tPairs [] σ H Qp := h
/-- pairs of values as entries -/
inductive ToK : List (V × V) → List (Key × V) → Prop
  | nil : ToK [] []
  | str {s : Str} {v : V} {r : List (V × V)} {q : List (Key × V)} : ToK r q → ToK ((.str s, v) :: r) ((Sum.inr s, v) :: q)
  | int {s : Int} {v : V} {r : List (V × V)} {q : List (Key × V)} : ToK r q → ToK ((.int s, v) :: r) ((Sum.inl s, v) :: q)
theorem ToK.ok : ∀ {r q}, ToK r q → r = q.map (fun kv => (kV kv.1, kv.2))
  | _, _, .nil => rfl
  | _, _, .str h => by rw [List.map_cons, ← h.ok]; rfl
  | _, _, .int h => by rw [List.map_cons, ← h.ok]; rfl
/-- keys all different -/
inductive RDis : List (Key × V) → List (Key × V) → Prop
  | nil {acc : List (Key × V)} : RDis acc []
  | cons {acc r : List (Key × V)} {k : Key} {v : V} : DNo k acc → RDis ((k, v) :: acc) r → RDis acc ((k, v) :: r)
theorem DNo.any {k : Key} : ∀ {r : List (Key × V)}, DNo k r → ∀ x, x ∈ r → ¬ x.1 = k
  | _, .nil, x, h => by cases h
  | _, .there n t, x, h => by
    rcases List.mem_cons.mp h with e | h
    · rw [e]; exact n
    · exact t.any x h
theorem RDis.ok : ∀ {acc r : List (Key × V)}, RDis acc r → mergeK acc.reverse r = acc.reverse ++ r
  | acc, _, .nil => by rw [List.append_nil]; rfl
  | acc, (k, v) :: r, .cons n t => by
    have e : putK acc.reverse k v = acc.reverse ++ [(k, v)] := by
      unfold putK
      rw [if_neg]
      intro h
      obtain ⟨x, hx, hk⟩ := List.any_eq_true.mp h
      exact n.any x (List.mem_reverse.mp hx) (of_decide_eq_true hk)
    have ih := t.ok
    rw [List.reverse_cons] at ih
    show mergeK (putK acc.reverse k v) r = _
    rw [e, ih, List.append_assoc]
    rfl
theorem s_dispV {p : Addr} {ps : List (V × V)} {kvs : List (Key × V)} (hC : Ctx K B H L I) (m : H p = some (.dK [])) (h : ToK ps kvs) (n : RDis [] kvs) (z : kvs.length ≤ 15) (u : Up p (.dK kvs) L L') (k : ∀ H1, Ctx K B H1 L' I → Q (.ref p) H1) : kDisp p Q ps H :=
  ⟨m, kvs, h.ok, z, by
    have e := n.ok
    rw [List.reverse_nil, List.nil_append] at e
    rw [e]
    exact k _ (hC.put u rfl)⟩
/-! lambdas handed to the teller -/
def kTold (K : PySem.W.Frag) (C : Addr) (ret : Str) (Q : VK) : XK := fun cls _ H' => ∃ b, PySem.W.exmOne K cls (.ref C) = some b ∧ (b = true → Q (.str ret) H') ∧ (b = false → False)
theorem s_toldE {C D : Addr} {ret : Str} {d : Option Addr} (e : PySem.W.exmOne K (.ref D) (.ref C) = some true) (h : Q (.str ret) H) : kTold K C ret Q (.ref D) d H := ⟨true, e, fun _ => h, fun q => by cases q⟩
/-! a list of ints, an index not known -/
inductive AllI : List V → List Int → Prop
  | nil : AllI [] []
  | cons {i : Int} {r : List V} {q : List Int} : AllI r q → AllI (.int i :: r) (i :: q)
theorem AllI.get : ∀ {r : List V} {q : List Int} {j : Nat}, AllI r q → j < r.length → ∃ i : Int, r[j]? = some (.int i) ∧ i ∈ q
  | _, _, 0, .cons h, _ => ⟨_, rfl, List.mem_cons_self⟩
  | _, _, j + 1, .cons h, z => by
    obtain ⟨i, e, m⟩ := h.get (j := j) (by rw [List.length_cons] at z; omega)
    exact ⟨i, by rw [List.getElem?_cons_succ]; exact e, List.mem_cons_of_mem _ m⟩
theorem s_ixAny {l : Addr} {vs : List V} {zs : List Int} {r : Int} (m : H l = some (.lst vs)) (h : AllI vs zs) (h0 : 0 ≤ r) (h1 : r < vs.length) (q : ∀ z : Int, z ∈ zs → Q (.int z) H) : rIxU K (.ref l) (.int r) H Q := by
  obtain ⟨i, e, w⟩ := h.get (j := r.toNat) (by omega)
  have e2 := atI_nat e
  rw [Int.toNat_of_nonneg h0] at e2
  exact s_ixL m e2 (q i w)
/-! more of values -/
theorem s_eqIT {i j : Int} (p : i = j) (h : Q (.bl true) H) : rEqU K (.int i) (.int j) H Q := s_eqI (by rw [decide_eq_true p]; exact h)
theorem s_eqIF {i j : Int} (p : ¬ i = j) (h : Q (.bl false) H) : rEqU K (.int i) (.int j) H Q := s_eqI (by rw [decide_eq_false p]; exact h)
theorem s_int1T (h : Q (.int 1) H) : rInt1 [.bl true] H Q := .inr ⟨true, rfl, h⟩
theorem s_int1F (h : Q (.int 0) H) : rInt1 [.bl false] H Q := .inr ⟨false, rfl, h⟩
theorem s_eqSN {j : Str} (h : Q (.bl false) H) : rEqU K (.str j) .non H Q := .inl ⟨rfl, h⟩
theorem s_eqST {i j : Str} (p : i = j) (h : Q (.bl true) H) : rEqU K (.str i) (.str j) H Q := s_eqS (by rw [decide_eq_true p]; exact h)
theorem s_neIF {i : Int} (h : Q (.bl false) H) : rNeU K (.int i) (.int i) H Q := s_neI (by rw [decide_eq_true rfl]; exact h)
theorem s_neBs {b : Bool} (h : Q (.bl false) H) : rNeU K (.bl b) (.bl b) H Q := s_neB (by rw [show (b != b) = false from by cases b <;> rfl]; exact h)
theorem s_neTF (h : Q (.bl true) H) : rNeU K (.bl true) (.bl false) H Q := s_neB h
theorem s_neFT (h : Q (.bl true) H) : rNeU K (.bl false) (.bl true) H Q := s_neB h
theorem s_eqBs {b : Bool} (h : Q (.bl true) H) : rEqU K (.bl b) (.bl b) H Q := s_eqB (by rw [show (b == b) = true from by cases b <;> rfl]; exact h)
theorem s_eqTF (h : Q (.bl false) H) : rEqU K (.bl true) (.bl false) H Q := s_eqB h
theorem s_eqFT (h : Q (.bl false) H) : rEqU K (.bl false) (.bl true) H Q := s_eqB h
/-! a block of the layout that another hand keeps -/
inductive Pull (O : List (Addr × HO)) : List (Addr × HO) → List (Addr × HO) → Prop
  | here {F : List (Addr × HO)} : Pull O (F ++ O) F
  | there {x : Addr × HO} {L F : List (Addr × HO)} : Pull O L F → Pull O (x :: L) (x :: F)
theorem Pull.perm {O : List (Addr × HO)} : ∀ {L F}, Pull O L F → L.Perm (O ++ F)
  | _, _, .here => List.perm_append_comm
  | _, _, .there p => (List.Perm.cons _ p.perm).trans List.perm_middle.symm
/-- some of the layout, in another order -/
inductive Sel : List (Addr × HO) → List (Addr × HO) → Prop
  | refl {L : List (Addr × HO)} : Sel L L
  | cons {x : Addr × HO} {L L' T : List (Addr × HO)} : Pick x L L' → Sel L' T → Sel L (x :: T)
  | skip {x : Addr × HO} {L T : List (Addr × HO)} : Sel L T → Sel (x :: L) T
theorem Sel.perm : ∀ {L T}, Sel L T → ∃ J, L.Perm (T ++ J)
  | L, _, .refl => ⟨[], by rw [List.append_nil]⟩
  | _, _, .cons p s => by
    obtain ⟨J, h⟩ := s.perm
    exact ⟨J, p.perm.trans (List.Perm.cons _ h)⟩
  | _, _, .skip s => by
    obtain ⟨J, h⟩ := s.perm
    exact ⟨_ :: J, (List.Perm.cons _ h).trans List.perm_middle.symm⟩
theorem Sel.lay {T : List (Addr × HO)} (s : Sel L T) (y : Lay H L) : Lay H T := by
  obtain ⟨J, h⟩ := s.perm
  have y := y.perm h
  exact ⟨(List.nodup_append.mp (by rw [← List.map_append]; exact y.nd)).1, fun p hp => y.at_ p (List.mem_append_left _ hp)⟩
end
end Ph
namespace Ph
open PySem PySem.Spec PyProof.Rows L2 LamX
/-- at f stands the lambda of these words -/
def LamC (f c : Addr) (q : Str) (ps : Arguments) (body : Expr) (sc : Scope) (cl : List (Str × Addr)) : HO := .ext fun h => ∃ pm ctv : Value, h.get? f = some (PySem.W.kla_obj "<lambda>" q ps body sc cl pm c ctv)
abbrev LamO (f c : Addr) (q : Str) (ps : Arguments) (body : Expr) (sc : Scope) : HO := LamC f c q ps body sc []
/-- all but the object at P stays -/
def ExtP (P : Addr) (H H' : Hp) : Prop := ∀ b o, b ≠ P → H b = some o → H' b = some o
theorem ExtP.refl (P : Addr) (H : Hp) : ExtP P H H := fun _ _ _ h => h
theorem ExtP.trans {P : Addr} {H H1 H2 : Hp} (a : ExtP P H H1) (b : ExtP P H1 H2) : ExtP P H H2 := fun c o n h => b c o n (a c o n h)
theorem ExtP.of {P : Addr} {H H' : Hp} (e : ∀ b o, H b = some o → H' b = some o) : ExtP P H H' := fun b o _ h => e b o h
structure LamD where
  ps : Arguments
  body : Expr
  sc : Scope
/-- only globals -/
def noOwn (sc : Scope) : Bool := decide (sc.kind = .function) && !sc.isCoroutine && !sc.isGenerator && sc.names.all fun y => !decide (y.2 = .local) && !decide (y.2 = .cell) && !decide (y.2 = .free)
structure NoOwn (sc : Scope) : Prop where
  kind : sc.kind = .function
  co : sc.isCoroutine = false
  gen : sc.isGenerator = false
  own : ∀ y, y ∈ sc.names → y.2 ≠ .local ∧ y.2 ≠ .cell ∧ y.2 ≠ .free
theorem noOwn_by {sc : Scope} (h : noOwn sc = true) : NoOwn sc := by
  unfold noOwn at h
  simp only [Bool.and_eq_true, Bool.not_eq_true', decide_eq_true_eq, decide_eq_false_iff_not, List.all_eq_true] at h
  obtain ⟨⟨⟨a, b⟩, c⟩, d⟩ := h
  exact ⟨a, b, c, fun y hy => ⟨(d y hy).1.1, (d y hy).1.2, (d y hy).2⟩⟩
theorem clo_nil {cells : List (Str × Addr)} : ∀ {names : List (Str × NameKind)}, (∀ y, y ∈ names → y.2 ≠ .free) → cloFrom cells names [] = []
  | [], _ => rfl
  | (n, k) :: r, h => by
    unfold cloFrom
    have e : (k == NameKind.free) = false := by
      have := h (n, k) List.mem_cons_self
      simpa using this
    rw [if_neg (by rw [e]; decide)]
    exact clo_nil fun y hy => h y (List.mem_cons_of_mem _ hy)
section
variable {X : Cx} {pins : List (Addr × Obj)} {σ : L2.St} {H : Hp} {s : Shared}
theorem inv_lamC {q : Str} {ps : Arguments} {body : Expr} {sc : Scope} {cl : List (Str × Addr)} {c : Addr} {pm ctv : Value} {t' : Nat} (I : Inv X pins σ H s) :
    Inv X pins σ (upd H s.heap.objs.size (LamC s.heap.objs.size c q ps body sc cl)) { s with heap := s.heap.push (PySem.W.kla_obj "<lambda>" q ps body sc cl pm c ctv), toks := t' } := by
  refine I.laid (a := s.heap.objs.size) (fun b u e => Heap.get?_push_of_some _ e) (Nat.le_refl _) ?_
  have e : (s.heap.push (PySem.W.kla_obj "<lambda>" q ps body sc cl pm c ctv)).get? s.heap.objs.size = some (PySem.W.kla_obj "<lambda>" q ps body sc cl pm c ctv) := Heap.get?_push_size _ rfl
  exact ⟨⟨pm, ctv, e⟩, ⟨_, e⟩, fun h1 h2 ⟨p, t, z⟩ st => ⟨p, t, st _ z⟩⟩
theorem lamC_make {c P : Addr} {ps : Arguments} {body : Expr} {sc : Scope} {pos : Pos} {E Q : Value → Shared → Prop} (I : Inv X pins σ H s) (TB : LamX.TabB X.base X.mg c P) (hcode : X.env.code = .ref c)
    (hT : TabS H P (X.env.qual ++ "<lambda>")) (hdef : defaultsOf ps X.env = ([], [])) (hfree : ∀ y ∈ sc.names, y.2 = .free → ∃ c, X.env.cells.lookup y.1 = some c)
    (h : ∀ (f c' : Addr) (H1 : Hp) (s' : Shared), Inv X pins σ H1 s' → ExtP P H H1 → TabS H1 P (X.env.qual ++ "<lambda>") → H1 f = some (LamC f c' (X.env.qual ++ "<lambda>") ps body sc (cloFrom X.env.cells sc.names [])) → H1 c' = some (CodeO c' (X.env.qual ++ "<lambda>")) → Q (.ref f) s') :
    wpAny (model X.prog X.w) X.A (eval (.Lambda ps body sc pos) X.env) Q E s := by
  obtain ⟨tb, hP, ht, ha⟩ := hT
  refine PySem.W.kla_eval hdef ?_
  have bP : s.heap.BuiltinsAt X.mg P := TB.bm.keeps I.bk
  have hP' : s.heap.get? P = some { cls := .none, data := .fields tb } := I.hok P _ hP
  cases hc : codeAmong pos tb.toList with
  | none =>
    refine PySem.W.kla_makeFunction (mg := X.mg) (c := c) (P := P) (ps := tb) (closure_ok hfree) I.ok.glob (I.mod.glob.keeps I.bk) hcode (TB.code.keeps I.bk) hP' ht hc TB.gP bP fun c' ctv h' tk hx hge hlt hrec htb => ?_
    obtain ⟨c2, oc, vs, t, e2, hoc, hd, hv⟩ := hrec
    cases e2
    have nC : H c' = none := I.hok.fresh hge
    have I1 := inv_table (t' := tk) (more := #[rawInt pos.line, rawInt pos.col, .ref c']) (h' := h') I hP (fun b o hb e => hx b o hb e) htb hge ⟨oc, vs, t, hoc, hd, hv⟩
    have hE : ExtP P H (upd (upd H P (.tbl (tb ++ #[rawInt pos.line, rawInt pos.col, .ref c']))) c' (CodeO c' (X.env.qual ++ "<lambda>"))) := fun b o n e => by
      rw [upd_ne (ne_of_none e nC), upd_ne n]
      exact e
    have eL : (tb ++ #[rawInt pos.line, rawInt pos.col, .ref c']).toList = tb.toList ++ [rawInt pos.line, rawInt pos.col, .ref c'] := by simp
    have nPo : ∀ {b : Addr} {q : Str}, H b = some (CodeO b q) → b ≠ P := fun e z => by
      rw [z, hP] at e
      cases e
    have T1 : TabS (upd (upd H P (.tbl (tb ++ #[rawInt pos.line, rawInt pos.col, .ref c']))) c' (CodeO c' (X.env.qual ++ "<lambda>"))) P (X.env.qual ++ "<lambda>") := by
      refine ⟨_, by rw [upd_ne (ne_of_none hP nC), upd_same], by rw [eL]; exact PySem.TriplesOk_snoc _ _ _ _ ht, fun p' cv hcv => ?_⟩
      rw [eL] at hcv
      rcases among_app _ ht hcv with z | z
      · obtain ⟨c0, e1, e2⟩ := ha p' cv z
        exact ⟨c0, e1, hE _ _ (nPo e2) e2⟩
      · exact ⟨c', z, upd_same⟩
    have nF := I1.hok.fresh (Nat.le_refl _)
    have I2 := inv_lamC (cl := cloFrom X.env.cells sc.names []) (q := X.env.qual ++ "<lambda>") (ps := ps) (body := body) (sc := sc) (c := c') (pm := (X.mg "__name__").getD .none) (ctv := ctv) (t' := tk) I1
    have grow : ∀ b o, upd (upd H P (.tbl (tb ++ #[rawInt pos.line, rawInt pos.col, .ref c']))) c' (CodeO c' (X.env.qual ++ "<lambda>")) b = some o → upd (upd (upd H P (.tbl (tb ++ #[rawInt pos.line, rawInt pos.col, .ref c']))) c' (CodeO c' (X.env.qual ++ "<lambda>"))) h'.objs.size (LamC h'.objs.size c' (X.env.qual ++ "<lambda>") ps body sc (cloFrom X.env.cells sc.names [])) b = some o := fun b o e => (upd_ne (ne_of_none e nF)).trans e
    exact h h'.objs.size c' _ _ I2 (hE.trans (ExtP.of grow)) (T1.ext grow) upd_same (grow _ _ upd_same)
  | some cv =>
    obtain ⟨c', e, hco⟩ := ha pos cv hc
    subst e
    refine PySem.W.kla_makeFunctionHit (mg := X.mg) (c := c) (P := P) (ps := tb) (closure_ok hfree) I.ok.glob (I.mod.glob.keeps I.bk) hcode (TB.code.keeps I.bk) hP' ht hc bP fun ctv h' tk hx hsz => ?_
    have I1 : Inv X pins σ H { s with heap := h', toks := tk } := I.kept hx
    have nF : H h'.objs.size = none := I1.hok.fresh (Nat.le_refl _)
    have I2 := inv_lamC (cl := cloFrom X.env.cells sc.names []) (q := X.env.qual ++ "<lambda>") (ps := ps) (body := body) (sc := sc) (c := c') (pm := (X.mg "__name__").getD .none) (ctv := ctv) (t' := tk) I1
    have grow : ∀ b o, H b = some o → upd H h'.objs.size (LamC h'.objs.size c' (X.env.qual ++ "<lambda>") ps body sc (cloFrom X.env.cells sc.names [])) b = some o := fun b o e => (upd_ne (ne_of_none e nF)).trans e
    exact h h'.objs.size c' _ _ I2 (ExtP.of grow) (TabS.ext ⟨tb, hP, ht, ha⟩ grow) upd_same (grow _ _ hco)
end
/-- the lambda as a value -/
def tLamV (P : Addr) (q : Str) (d : LamD) : TE := fun _ H Q => TabS H P q ∧ ∀ (f c : Addr) (H1 : Hp), ExtP P H H1 → TabS H1 P q → H1 f = some (LamO f c q d.ps d.body d.sc) → H1 c = some (CodeO c q) → Q (.ref f) H1
theorem pe_lamV {X : Cx} {c P : Addr} {d : LamD} {pos : Pos} (TB : LamX.TabB X.base X.mg c P) (hcode : X.env.code = .ref c)
    (hdef : defaultsOf d.ps X.env = ([], [])) (hno : noOwn d.sc = true) : PE X (.Lambda d.ps d.body d.sc pos) (tLamV P (X.env.qual ++ "<lambda>") d) := by
  refine ⟨fun pins s σ H Q I h => ?_⟩
  obtain ⟨hT, h⟩ := h
  have hno := noOwn_by hno
  have ecl : cloFrom X.env.cells d.sc.names [] = [] := clo_nil fun y hy => (hno.own y hy).2.2
  exact lamC_make I TB hcode hT hdef (fun y hy e => absurd e (hno.own y hy).2.2) fun f c' H1 s' I1 e t1 h1 h2 => ⟨.ref f, H1, I1, rfl, h f c' H1 e t1 (by rw [ecl] at h1; exact h1) h2⟩
/-- where the lambda's body runs -/
def lamCx0 (X : Cx) (q : Str) (A : Around) (outer : List Env) (s : Shared) (H : Hp) (E : XK) (sc : Scope) (f c : Addr) : Cx where
  prog := X.prog
  w := X.w
  K := X.K
  mg := X.mg
  base := X.base
  A := A.deeper (PySem.W.envX q sc s.heap.objs.size f (.ref c) [])
  N := X.N
  s_0 := s
  H_0 := H
  env := PySem.W.envX q sc s.heap.objs.size f (.ref c) []
  outer := outer
  stack := PySem.W.envX q sc s.heap.objs.size f (.ref c) [] :: outer
  ex := []
  fn := fun _ => false
  calm := true
  pn := []
  xe := fun e s' => wpAny (model X.prog X.w) (A.deeper (PySem.W.envX q sc s.heap.objs.size f (.ref c) [])) (leaving (PySem.W.envX q sc s.heap.objs.size f (.ref c) []) e) (fun _ s'' => L2.CX X.prog X.w outer H s E e s'') (fun e' s'' => L2.CX X.prog X.w outer H s E e' s'') s'
theorem lam_start0 {X : Cx} {q : Str} {HZ : Hp} {s1 : Shared} {A : Around} {outer : List Env} {E : XK} {sc : Scope} {f c : Addr} {h₁ : Heap} {tk : Nat} (L : NoOwn sc) (e0 : Env0 X.prog X.w X.K X.mg X.base A outer s1 HZ) (hd : A.handled = none)
    (hns : h₁.Ns s1.heap.objs.size fun y => ([] : List (Str × Value)).reverse.lookup y) (kp : ∀ b o, s1.heap.get? b = some o → h₁.get? b = some o) :
    Inv (lamCx0 X q A outer s1 HZ E sc f c) [] (List.replicate X.N.length none) HZ { s1 with heap := h₁, toks := tk } := by
  have noA : ∀ b : Addr, b ∉ (lamCx0 X q A outer s1 HZ E sc f c).ex := fun b z => absurd (show b ∈ ([] : List Addr) from z) (by simp)
  refine ⟨⟨e0.mod, L.kind, rfl, rfl, Nat.le_refl _, fun y z c e1 e2 => ?_, fun y hy => ?_, fun y c z _ => ?_, fun _ => hd, Around.frames_deeper e0.frames, .inr ⟨rfl, rfl⟩, fun b z => absurd z (noA b), e0.bs, e0.bsz, fun b _ _ => noA b,
      fun b z => absurd z (noA b), e0.funs, e0.frf⟩,
    rfl, e0.bare, Un.kept kp, ⟨_, hns, fun i y v e1 e2 e3 => ?_⟩, fun y c e => ?_, e0.hok.fresh (Nat.le_refl _), fun y c e => ?_, fun q hq => absurd (show q ∈ ([] : List (Addr × Obj)) ++ [] from hq) (by simp), e0.hok.kept kp, List.length_replicate⟩
  · cases (show List.lookup y ([] : List (Str × Addr)) = some c from e1)
  · have hy : sc.names.lookup y = some .cell ∨ sc.names.lookup y = some .free := hy
    rcases hy with hy | hy
    · exact absurd rfl (L.own _ (PySem.mem_of_lookup hy)).2.1
    · exact absurd rfl (L.own _ (PySem.mem_of_lookup hy)).2.2
  · cases (show false = true from z)
  · have e3 : Vis sc y := e3
    rcases e3 with k | k | k
    · exact absurd rfl (L.own _ (PySem.mem_of_lookup k)).1
    · exact absurd rfl (L.own _ (PySem.mem_of_lookup k)).2.1
    · exact absurd rfl (L.own _ (PySem.mem_of_lookup k)).2.2
  · cases (show List.lookup y ([] : List (Str × Addr)) = some c from e)
  · cases (show List.lookup y ([] : List (Str × Addr)) = some c from e)
theorem pe_act0 {X : Cx} {H : Hp} {s : Shared} {CXg : CXT} {Eg : XK} {Ng : List Str} {q qg : Str} {sg : Scope} {g f c' : Addr} {cdg : Value} {ps : Arguments} {body : Expr} {sc : Scope} {k i : Nat} {a : Str} {pn : List (Addr × Obj)} {xe : Value → Shared → Prop} {W : WX} {E : XK} {tb : TE} {p1 p2 : Pos}
    (L : NoOwn sc) (hbind : ∀ pm ctv : Value, bindArgs (PySem.W.kla_fn "<lambda>" q ps body sc [] pm (.ref c') ctv) ⟨[], []⟩ = pure [])
    (tk : Takes ((cxOf CXg X.prog X.w X.K X.mg X.base Ng qg sg g cdg X.A X.stack s H Eg).tr pn xe) W) (hW : ∀ cls d σ' H', E cls d H' → W cls d σ' H') (hr : Room (k + 1) (X.A.deeper (envOfC qg sg s.heap.objs.size g cdg)))
    (hbody : ∀ (A : Around) (outer : List Env) (s : Shared) (H : Hp), Room k (A.deeper (PySem.W.envX q sc s.heap.objs.size f (.ref c') [])) → PE (lamCx0 X q A outer s H E sc f c') body tb)
    (hN : Ng[i]? = some a) (hv : Vis sg a) (hd : (a == ("__debug__" : Str)) = false := by decide) (hcd : (a == ("__classdict__" : Str)) = false := by decide) :
    PE ((cxOf CXg X.prog X.w X.K X.mg X.base Ng qg sg g cdg X.A X.stack s H Eg).tr pn xe) (.Call (.Name a p1) [] [] p2)
      (fun σZ HZ Q => σZ[i]? = some (some (.ref f)) ∧ HZ c' = some (CodeO c' q) ∧ HZ f = some (LamO f c' q ps body sc) ∧ tb (List.replicate X.N.length none) HZ Q) := by
  refine ⟨fun pinsZ sZ σZ HZ Q IZ h => ?_⟩
  obtain ⟨hs, hc, hf, ht⟩ := h
  refine wpAny_Call_Name_kw (thn ((pe_var (pos := p1) (i := i) hN hv hd hcd).run pinsZ sZ σZ HZ (fun v H1 => v = .ref f ∧ H1 = HZ) IZ ⟨.ref f, hs, rfl, rfl⟩) fun u s1 ⟨v, H1, I1, r1, q1⟩ => ?_)
  obtain ⟨ev, eH⟩ := q1
  subst ev
  rw [eH] at I1
  obtain rfl : u = Value.ref f := r1
  obtain ⟨⟨pm, ctv, of1⟩, _, _⟩ := I1.hok f _ hf
  refine PySem.W.callWith_F0 ⟨_, _, _, _, of1⟩ ?_
  obtain ⟨⟨oc, vs, t, hoc, hdc, hvc⟩, _, _⟩ := I1.hok c' _ hc
  have rc : codeAny (model X.prog X.w) (X.A.deeper (envOfC qg sg s.heap.objs.size g cdg)) (.call (.ref f) ⟨[], []⟩) (CR (L2.CX X.prog X.w) (envOfC qg sg s.heap.objs.size g cdg :: X.stack) X.prog X.w HZ s1 Q E) s1 := by
    refine PySem.W.kla_callFunE hr.depth of1 rfl L.co L.gen rfl ⟨c', oc, vs, t, rfl, hoc, hdc, hvc⟩ ?_
    rw [hbind]
    refine wpAny_pure (wpAny_newFunctionEnv (fun y hy => (L.own y hy).2.1) (fun y hy => absurd hy (by simp)) (fun h₁ hns hsb => ⟨I1.nolimit.fresh _ hsb, ?_⟩) L.kind)
    show codeAny _ _ (.expr body (PySem.W.envX q sc s1.heap.objs.size f (.ref c') [])) _ _
    have kp : ∀ b o, s1.heap.get? b = some o → h₁.get? b = some o := fun b o e => hsb.extBut b o (Nat.ne_of_lt (Heap.lt_size e)) (Heap.get?_push_of_some _ e)
    have J : Inv (lamCx0 X q (X.A.deeper (envOfC qg sg s.heap.objs.size g cdg)) (envOfC qg sg s.heap.objs.size g cdg :: X.stack) s1 HZ E sc f c') [] (List.replicate X.N.length none) HZ { s1 with heap := h₁, toks := s1.toks + ([] : List (Str × Value)).length } :=
      lam_start0 L I1.env0 hr.hd hns kp
    refine PySem.W.kla_codeExpr (wpAny_mono ((hbody _ _ s1 HZ (hr.deeper _)).run [] _ _ HZ Q J ht) (fun v s' hq => ?_) fun e s' hq => hq)
    obtain ⟨w', H', J', rv, q⟩ := hq
    exact ⟨w', H', J'.os, J'.bare, J'.base, J'.hok, rv, q⟩
  have hx : Passes (L2.CX X.prog X.w) ((cxOf CXg X.prog X.w X.K X.mg X.base Ng qg sg g cdg X.A X.stack s H Eg).tr pn xe) E := passes_call tk hW
  refine wpAny_call (codeAny_mono rc fun r s' hq => ?_)
  cases r with
  | error e => exact hx pinsZ σZ HZ s1 e s' I1 hq
  | ok fl =>
    cases fl with
    | ret u => exact I1.after hq
    | next => exact False.elim hq
    | brk => exact False.elim hq
    | cont => exact False.elim hq
/-- the i-th slot holds one of the lambdas of fam: it is told -/
def tToldV (K : PySem.W.Frag) (CS : Addr) (ret q : Str) (n i : Nat) (fam : List LamD) (t : Nat → XK → TE) : TE := fun σ H Q => ∃ (f c : Addr) (k : Nat) (d : LamD), σ[i]? = some (some (.ref f)) ∧ fam[k]? = some d ∧
  H f = some (LamO f c q d.ps d.body d.sc) ∧ H c = some (CodeO c q) ∧ t k (kTold K CS ret Q) (List.replicate n none) H Q
theorem pe_toldV {X : Cx} {x a y q ret : Str} {g CS : Addr} {k i : Nat} {pg : Arguments} {bg : List Stmt} {sg : Scope} {dV kV doc pm cdv ct oc : Value} {an od : Option Addr} {osl : Array (Option Value)} {Ng : List Str}
    {fam : List LamD} {t : Nat → XK → TE} {p py pos : Pos} (hg : Gl X x) (hm : X.mg x = some (.ref g)) (hk : PySem.W.keepIn X.K (.ref g) = true)
    (lk : X.K.lookup g = some ⟨oc, od, .func (PySem.W.fnOf x x pg bg sg dV kV doc pm an cdv ct), osl⟩) (hcg : PySem.W.codeIn X.K cdv x = true) (hb : L2.Binds X.K (PySem.W.fnOf x x pg bg sg dV kV doc pm an cdv ct) [a] []) (Sg : FnScope Ng [a] sg) (hNg : Ng[0]? = some a) (hva : Vis sg a)
    (hG : GivesTo X Ng x sg g cdv bg a q (TTold X.K CS ret)) (hi : X.N[i]? = some y) (hv : Vis X.env.scope y) (hr : Room (k + 2) X.A)
    (hno : ∀ (j : Nat) (d : LamD), fam[j]? = some d → noOwn d.sc = true) (hbind : ∀ (j : Nat) (d : LamD), fam[j]? = some d → ∀ (c' : Addr) (pm ctv : Value), bindArgs (PySem.W.kla_fn "<lambda>" q d.ps d.body d.sc [] pm (.ref c') ctv) ⟨[], []⟩ = pure [])
    (hbody : ∀ (j : Nat) (d : LamD), fam[j]? = some d → ∀ (A : Around) (outer : List Env) (s : Shared) (H : Hp) (E : XK) (f c' : Addr), Room k (A.deeper (PySem.W.envX q d.sc s.heap.objs.size f (.ref c') [])) → PE (lamCx0 X q A outer s H E d.sc f c') d.body (t j E))
    (hdb : (x == ("__debug__" : Str)) = false := by decide) (hd : (a == ("__debug__" : Str)) = false := by decide) (hcd : (a == ("__classdict__" : Str)) = false := by decide) (hyd : (y == ("__debug__" : Str)) = false := by decide) (hyc : (y == ("__classdict__" : Str)) = false := by decide) :
    PE X (.Call (.Name x p) [.Name y py] [] pos) (tToldV X.K CS ret q X.N.length i fam t) := by
  refine ⟨fun pins s σ H Q I h => ?_⟩
  obtain ⟨f, c', j, d, hs, hj, hf, hc, ht⟩ := h
  refine wpAny_Call_Name_kw (ld_glob I hg hm ?_ hdb)
  refine PySem.W.callWith_K (h₀ := X.base) I.ok.mod.kin hk ?_ (by rfl) (by rfl)
  show wpAny _ _ (spliced ((false, eval (.Name y py) X.env) :: backTo pos (starEach [] X.env))) _ _ s
  refine Calls.spliced_cons (thn ((pe_var (pos := py) (i := i) hi hv hyd hyc).run pins s σ H (fun v H1 => v = .ref f ∧ H1 = H) I ⟨.ref f, hs, rfl, rfl⟩) fun u s' ⟨v, H1, I1, r1, q1⟩ => ?_)
  obtain ⟨ev, eH⟩ := q1
  subst ev
  rw [eH] at I1
  obtain rfl : u = Value.ref f := r1
  refine Calls.spliced_nil ⟨I1.kIn, ?_⟩
  have rc : codeAny (model X.prog X.w) X.A (.call (.ref g) ⟨[.ref f], []⟩) (CR C8.CX0 X.stack X.prog X.w H s' Q C8.E0) s' := by
    refine run_ofS (N := Ng) (ps := [a]) (us := [.ref f]) (vs := [.ref f]) lk hcg Sg hr I1.env0 (hb s' [.ref f] I1.kIn rfl) (.cons rfl .nil) rfl fun hr' => ?_
    obtain ⟨t', ht', hq'⟩ := hG f c' s' H Q (fun E H' Q' => H' f = some (LamO f c' q d.ps d.body d.sc) ∧ t j E (List.replicate X.N.length none) H' Q')
      (fun W pn xe E p1 p2 tk hW => pe_act0 (i := 0) (noOwn_by (hno j d hj)) (hbind j d hj c') tk hW hr' (fun A outer s H hr2 => hbody j d hj A outer s H E f c' hr2) hNg hva hd hcd) hc ⟨hf, ht⟩
    exact ⟨t', ht'.nox, hq'⟩
  refine wpAny_call (codeAny_mono rc fun r s2 hq => ?_)
  cases r with
  | error e => exact (show False from hq).elim
  | ok fl =>
    cases fl with
    | ret u => exact I1.after hq
    | next => exact False.elim hq
    | brk => exact False.elim hq
    | cont => exact False.elim hq
/-- a lambda handed to the teller at once -/
def tLamP (P : Addr) (q : Str) (TT : (XK → Hp → VK → Prop) → Hp → VK → Prop) (t : XK → TE) : TE := fun σ H Q => TabS H P q ∧ ∀ H1, ExtP P H H1 → TabS H1 P q → TT (fun E H' Q' => t E σ H' Q') H1 Q
theorem pe_actC {X : Cx} {pins : List (Addr × Obj)} {σ : L2.St} {H : Hp} {s : Shared} {CXg : CXT} {Eg : XK} {Ng : List Str} {qg : Str} {sg : Scope} {g f c' : Addr} {cdg : Value} {ps : Arguments} {body : Expr} {sc : Scope} {k i : Nat} {a : Str} {pn : List (Addr × Obj)} {xe : Value → Shared → Prop} {W : WX} {E : XK} {tb : TE} {p1 p2 : Pos}
    (I : Inv X pins σ H s) (L : LamS X.env.scope sc)
    (hbind : ∀ pm ctv : Value, bindArgs (PySem.W.kla_fn "<lambda>" (X.env.qual ++ "<lambda>") ps body sc (cloFrom X.env.cells sc.names []) pm (.ref c') ctv) ⟨[], []⟩ = pure [])
    (tk : Takes ((cxOf CXg X.prog X.w X.K X.mg X.base Ng qg sg g cdg X.A X.stack s H Eg).tr pn xe) W) (hW : ∀ cls d σ' H', E cls d H' → W cls d σ' H') (hr : Room (k + 1) (X.A.deeper (envOfC qg sg s.heap.objs.size g cdg)))
    (hbody : ∀ (A : Around) (outer : List Env) (s : Shared) (H : Hp), Room k (A.deeper (lamEnv X sc s.heap.objs.size f c')) → PE (lamCx X A outer s H E sc f c') body tb)
    (hN : Ng[i]? = some a) (hv : Vis sg a) (hd : (a == ("__debug__" : Str)) = false := by decide) (hcd : (a == ("__classdict__" : Str)) = false := by decide) :
    PE ((cxOf CXg X.prog X.w X.K X.mg X.base Ng qg sg g cdg X.A X.stack s H Eg).tr pn xe) (.Call (.Name a p1) [] [] p2)
      (fun σZ HZ Q => σZ[i]? = some (some (.ref f)) ∧ HZ c' = some (CodeO c' (X.env.qual ++ "<lambda>")) ∧ HZ f = some (LamC f c' (X.env.qual ++ "<lambda>") ps body sc (cloFrom X.env.cells sc.names [])) ∧ tb σ HZ Q) := by
  refine ⟨fun pinsZ sZ σZ HZ Q IZ h => ?_⟩
  obtain ⟨hs, hc, hf, ht⟩ := h
  refine wpAny_Call_Name_kw (thn ((pe_var (pos := p1) (i := i) hN hv hd hcd).run pinsZ sZ σZ HZ (fun v H1 => v = .ref f ∧ H1 = HZ) IZ ⟨.ref f, hs, rfl, rfl⟩) fun u s1 ⟨v, H1, I1, r1, q1⟩ => ?_)
  obtain ⟨ev, eH⟩ := q1
  subst ev
  rw [eH] at I1
  obtain rfl : u = Value.ref f := r1
  obtain ⟨⟨pm, ctv, of1⟩, _, _⟩ := I1.hok f _ hf
  refine PySem.W.callWith_F0 ⟨_, _, _, _, of1⟩ ?_
  obtain ⟨⟨oc, vs, t, hoc, hdc, hvc⟩, _, _⟩ := I1.hok c' _ hc
  have rc : codeAny (model X.prog X.w) (X.A.deeper (envOfC qg sg s.heap.objs.size g cdg)) (.call (.ref f) ⟨[], []⟩) (CR (L2.CX X.prog X.w) (envOfC qg sg s.heap.objs.size g cdg :: X.stack) X.prog X.w HZ s1 Q E) s1 := by
    refine PySem.W.kla_callFunE hr.depth of1 rfl L.co L.gen rfl ⟨c', oc, vs, t, rfl, hoc, hdc, hvc⟩ ?_
    rw [hbind]
    refine wpAny_pure (wpAny_newFunctionEnv (fun y hy => (L.own y hy).2) (fun y hy => absurd hy (by simp)) (fun h₁ hns hsb => ⟨I1.nolimit.fresh _ hsb, ?_⟩) L.kind)
    show codeAny _ _ (.expr body (lamEnv X sc s1.heap.objs.size f c')) _ _
    have J : Inv (lamCx X (X.A.deeper (envOfC qg sg s.heap.objs.size g cdg)) (envOfC qg sg s.heap.objs.size g cdg :: X.stack) s1 HZ E sc f c') [] σ HZ { s1 with heap := h₁, toks := s1.toks + ([] : List (Str × Value)).length } :=
      lam_start2 I L I1.env0 hr.hd I1.base hns (fun b o e => hsb.extBut b o (Nat.ne_of_lt (Heap.lt_size e)) (Heap.get?_push_of_some _ e))
    refine PySem.W.kla_codeExpr (wpAny_mono ((hbody _ _ s1 HZ (hr.deeper _)).run [] _ _ HZ Q J ht) (fun v s' hq => ?_) fun e s' hq => hq)
    obtain ⟨w', H', J', rv, q⟩ := hq
    exact ⟨w', H', J'.os, J'.bare, J'.base, J'.hok, rv, q⟩
  have hx : Passes (L2.CX X.prog X.w) ((cxOf CXg X.prog X.w X.K X.mg X.base Ng qg sg g cdg X.A X.stack s H Eg).tr pn xe) E := passes_call tk hW
  refine wpAny_call (codeAny_mono rc fun r s' hq => ?_)
  cases r with
  | error e => exact hx pinsZ σZ HZ s1 e s' I1 hq
  | ok fl =>
    cases fl with
    | ret u => exact I1.after hq
    | next => exact False.elim hq
    | brk => exact False.elim hq
    | cont => exact False.elim hq
/-- x(lambda: body), x the teller -/
theorem pe_lamP {X : Cx} {x a ret : Str} {g c P CS : Addr} {k : Nat} {pg : Arguments} {bg : List Stmt} {sg : Scope} {dV kV doc pm cdv ct oc : Value} {an od : Option Addr} {osl : Array (Option Value)} {Ng : List Str}
    {ps : Arguments} {body : Expr} {sc : Scope} {t : XK → TE} {p lpos pos : Pos} (hg : Gl X x) (hm : X.mg x = some (.ref g)) (hk : PySem.W.keepIn X.K (.ref g) = true)
    (lk : X.K.lookup g = some ⟨oc, od, .func (PySem.W.fnOf x x pg bg sg dV kV doc pm an cdv ct), osl⟩) (hcg : PySem.W.codeIn X.K cdv x = true) (hb : L2.Binds X.K (PySem.W.fnOf x x pg bg sg dV kV doc pm an cdv ct) [a] []) (Sg : FnScope Ng [a] sg) (hNg : Ng[0]? = some a) (hva : Vis sg a)
    (hG : GivesTo X Ng x sg g cdv bg a (X.env.qual ++ "<lambda>") (TTold X.K CS ret))
    (TB : LamX.TabB X.base X.mg c P) (hcode : X.env.code = .ref c) (hr : Room (k + 2) X.A) (L : LamS X.env.scope sc) (hdef : defaultsOf ps X.env = ([], []))
    (hbind : ∀ (q : Str) (cl : List (Str × Addr)) (pm cv ctv : Value), bindArgs (PySem.W.kla_fn "<lambda>" q ps body sc cl pm cv ctv) ⟨[], []⟩ = pure [])
    (hbody : ∀ (A : Around) (outer : List Env) (s : Shared) (H : Hp) (E : XK) (f c' : Addr), Room k (A.deeper (lamEnv X sc s.heap.objs.size f c')) → PE (lamCx X A outer s H E sc f c') body (t E))
    (hdb : (x == ("__debug__" : Str)) = false := by decide) (hd : (a == ("__debug__" : Str)) = false := by decide) (hcd : (a == ("__classdict__" : Str)) = false := by decide) :
    PE X (.Call (.Name x p) [.Lambda ps body sc lpos] [] pos) (tLamP P (X.env.qual ++ "<lambda>") (TTold X.K CS ret) t) := by
  refine ⟨fun pins s σ H Q I h => ?_⟩
  obtain ⟨hT, h⟩ := h
  refine wpAny_Call_Name_kw (ld_glob I hg hm ?_ hdb)
  refine PySem.W.callWith_K (h₀ := X.base) I.ok.mod.kin hk ?_ (by rfl) (by rfl)
  show wpAny _ _ (spliced ((false, eval (.Lambda ps body sc lpos) X.env) :: backTo pos (starEach [] X.env))) _ _ s
  refine Calls.spliced_cons (lamC_make I TB hcode hT hdef (L.has I.ok) fun f c' H1 s' I1 eP T1 hf hco => ?_)
  refine Calls.spliced_nil ⟨I1.kIn, ?_⟩
  have rc : codeAny (model X.prog X.w) X.A (.call (.ref g) ⟨[.ref f], []⟩) (CR C8.CX0 X.stack X.prog X.w H1 s' Q C8.E0) s' := by
    refine run_ofS (N := Ng) (ps := [a]) (us := [.ref f]) (vs := [.ref f]) lk hcg Sg hr I1.env0 (hb s' [.ref f] I1.kIn rfl) (.cons rfl .nil) rfl fun hr' => ?_
    obtain ⟨t', ht', hq'⟩ := hG f c' s' H1 Q (fun E H' Q' => H' f = some (LamC f c' (X.env.qual ++ "<lambda>") ps body sc (cloFrom X.env.cells sc.names [])) ∧ t E σ H' Q')
      (fun W pn xe E p1 p2 tk hW => pe_actC (i := 0) I1 L (hbind _ _ · _ ·) tk hW hr' (fun A outer s H hr2 => hbody A outer s H E f c' hr2) hNg hva hd hcd) hco ⟨hf, h H1 eP T1⟩
    exact ⟨t', ht'.nox, hq'⟩
  refine wpAny_call (codeAny_mono rc fun r s2 hq => ?_)
  cases r with
  | error e => exact (show False from hq).elim
  | ok fl =>
    cases fl with
    | ret u => exact I1.after hq
    | next => exact False.elim hq
    | brk => exact False.elim hq
    | cont => exact False.elim hq
/-! ### the steps -/
theorem TabOK.tabS {q : Str} {tb : Array Value} {H : Hp} {P : Addr} (h : TabOK q tb H) (e : H P = some (.tbl tb)) : TabS H P q := ⟨tb, e, h.1, h.2⟩
section
variable {K : PySem.W.Frag} {B H : Hp} {L L' : List (Addr × HO)} {I : List Im} {Q : VK} {σ : L2.St} {P C : Addr} {q ret : Str} {tb : Array Value}
theorem s_lam {t : XK → TE} (hC : Ctx K B H L I) (m : Pick (P, .tbl tb) L L') (f : Im.tab q tb ∈ I) (k : ∀ tb' H1, Ctx K B H1 ((P, .tbl tb') :: L') (.tab q tb' :: I) → t (kTold K C ret Q) σ H1 Q) : tLamP P q (TTold K C ret) t σ H Q := by
  have hC := hC.pick m
  have e0 := hC.get List.mem_cons_self
  refine ⟨(hC.tab f).tabS e0, fun H1 e t1 => ?_⟩
  obtain ⟨tb', h1, h2, h3⟩ := t1
  exact k tb' H1 ((hC.but List.mem_cons_self .here rfl e h1).add (i := .tab q tb') ⟨h2, h3⟩)
theorem s_lamV {d : LamD} (hC : Ctx K B H L I) (m : Pick (P, .tbl tb) L L') (f : Im.tab q tb ∈ I)
    (k : ∀ f c tb' H1, Ctx K B H1 ((P, .tbl tb') :: L') (.pr (fun H => H f = some (LamO f c q d.ps d.body d.sc)) (fun _ _ s h => s _ _ h rfl) :: .pr (fun H => H c = some (CodeO c q)) (fun _ _ s h => s _ _ h rfl) :: .tab q tb' :: I) → Q (.ref f) H1) : tLamV P q d σ H Q := by
  have hC := hC.pick m
  have e0 := hC.get List.mem_cons_self
  refine ⟨(hC.tab f).tabS e0, fun f c H1 e t1 hf hc => ?_⟩
  obtain ⟨tb', h1, h2, h3⟩ := t1
  exact k f c tb' H1 ((((hC.but List.mem_cons_self .here rfl e h1).add (i := .tab q tb') ⟨h2, h3⟩).add (i := .pr (fun H => H c = some (CodeO c q)) (fun _ _ s h => s _ _ h rfl)) hc).add (i := .pr (fun H => H f = some (LamO f c q d.ps d.body d.sc)) (fun _ _ s h => s _ _ h rfl)) hf)
end
/-! ### words by place; defs whose code is named -/
def lamOf : Expr → LamD
  | .Lambda ps body sc _ => ⟨ps, body, sc⟩
  | e => ⟨defArgs (.Pass ⟨0, 0, 0, 0⟩), e, defScope (.Pass ⟨0, 0, 0, 0⟩)⟩
def eltOf (e : Expr) (i : Nat) : Expr := match e with
  | .List es _ => es.getD i e
  | _ => e
def asgOf : Stmt → Expr
  | .Assign _ e _ => e
  | _ => .Name "" ⟨0, 0, 0, 0⟩
theorem _root_.L2.FunD.okC {P : Program} {w : World} {K : PySem.W.Frag} {mg : Str → Option Value} {base : Heap} {x qual : Str} {params : Arguments} {body : List Stmt} {scope : Scope} {dvs : List V} {kws : List (Str × V)} {f : Addr} {fd : FuncData}
    {CX : CXT} {N ps : List Str} {k : Nat} {sp : Sp} (F : FunD K x qual params body scope dvs kws f fd) (S : FnScope N ps scope) (len : ∀ vs H Q E, sp vs H Q E → vs.length = ps.length)
    (hbody : ∀ (cdv : Value) (A : Around) (outer : List Env) (s : Shared) (H : Hp) (vs : List V) (Q : VK) (E : XK), Room k (A.deeper (envOfC qual scope s.heap.objs.size f cdv)) → fd.code = cdv → sp vs H Q E →
      ∃ t, PSs (cxOf CX P w K mg base N qual scope f cdv A outer s H E) body t ∧ t { nx := fun _ H' => Q .non H', rt := Q } (L2.start N vs) H) : FnOk P w K mg base CX (k + 1) f fd ps sp := by
  obtain ⟨oc, od, dV, kV, doc, pm, an, cdv, ct, osl, rfl, lk, hcd, _, _⟩ := F.ex
  exact fn_of lk hcd S len fun A outer s H vs Q E hr hsp => hbody cdv A outer s H vs Q E hr rfl hsp
end Ph
namespace Ph
open PySem PySem.Spec PyProof.Rows L2 GxR
/-- the element: a test of the sign, the globals known -/
def EltG (X : Cx) (sc : Scope) (x : Str) (elt : Expr) (pb : Nat → Bool) : Prop :=
  ∀ (ce : Env) (A' : Around) (E' : Value → Shared → Prop) (c : Nat) (t : Tok) (z : Shared) (m : Str → Option Value), A'.handled = none → ce.scope = sc → ce.globals = mainGlobals → z.heap.Ns mainGlobals X.mg → z.heap.Ns ce.locals m → m x = some (.str ⟨#[c]⟩ t) →
    wpAny (model X.prog X.w) A' (eval elt ce) (fun y z' => y = .bool (pb c) ∧ Keeps z z') E' z
section
variable {X : Cx} {pins : List (Addr × Obj)} {σ : L2.St} {H : Hp} {s : Shared}
theorem gen_strG {c P : Addr} {elt iter : Expr} {x : Str} {px gpos : Pos} {sc : Scope} {pb : Nat → Bool} {te : TE} {k : Nat} {Qz : Value → Shared → Prop} {R : Str → Hp → Prop}
    (hr : Room k X.A) (TB : GxR.TabB X.base X.mg c P) (hcode : X.env.code = .ref c) (S : GenS X.env sc x) (hi : PE X iter te) (hel : EltG X sc x elt pb)
    (hs : ∀ v, genFold iter X.env v = pure v) (I : Inv X pins σ H s) (h : te σ H fun v Ha => ∃ a : Str, v = .str a ∧ TabG Ha P ∧ R a Ha)
    (hQ : ∀ a Ha g z, R a Ha → Ready X pins σ Ha P a pb g z → Qz (.ref g) z) :
    wpAny (model X.prog X.w) X.A (eval (.GeneratorExp elt [⟨.Name x px, iter, [], 0⟩] sc gpos) X.env) Qz X.xe s := by
  refine wpAny_GeneratorExp_walksQ hr.hd S.co (closure_ok S.free) S.cell S.dot S.loc S.kind (by have := hr.dp; omega) ?_ hs
  refine thn (hi.run pins s σ H _ I h) fun xv sa ⟨v, Ha, Ia, ra, qa⟩ => ?_
  obtain ⟨a, rfl, ⟨tb, hP, ht⟩, qa⟩ := qa
  obtain ⟨t, rfl⟩ := _root_.id ra
  refine wpAny_pyIter_str fun oi St W hst => ?_
  have hPs : sa.heap.get? P = some { cls := .none, data := .fields tb } := Ia.hok P _ hP
  have hPlt : P < sa.heap.objs.size := Heap.lt_size hPs
  have hP2 : (sa.heap.push oi).get? P = some { cls := .none, data := .fields tb } := Heap.get?_push_of_some _ hPs
  have cd : PySem.W.CodeHd (sa.heap.push oi) c P := TB.code.keeps fun b u e => Heap.get?_push_of_some _ (Ia.bk b u e)
  have lim2 : (sa.heap.push oi).NoLimit := Ia.nolimit.push oi
  have cont : ∀ (code : Value) (hb3 : Heap) (tk : Nat) (tb2 : Array Value), Heap.ExtBut P (sa.heap.push oi) hb3 → (sa.heap.push oi).objs.size ≤ hb3.objs.size → hb3.get? P = some { cls := .none, data := .fields tb2 } → (∃ more, tb2 = tb ++ more) → TriplesOk tb2.toList →
      wpAny (model X.prog X.w) X.A (builtinsFor X.env.globals X.env.builtins) (fun bi sd =>
        ∃ Ia fp wr n₀ Pf St₀ pz F, Value.ref sa.heap.objs.size = .ref Ia ∧ (∀ A' : Around, A'.handled = none → Walks X.prog X.w A' Ia fp wr n₀ Pf St₀) ∧ St₀ 0 sd.heap ∧ (∀ b ∈ fp, b < sd.heap.objs.size) ∧ sd.heap.NoLimit ∧ cStatics ∉ wr ∧
          (∀ href : Heap, (∀ b o, sd.heap.get? b = some o → href.get? b = some o) →
            QuietGen X.prog X.w (genEnv sc (cloFrom X.env.cells sc.names []) sd.heap.objs.size code bi X.env) x [] elt (List.range sd.heap.objs.size) wr Pf pz F href) ∧
          (∀ a hb5 tk gs, gs.bare = true → sd.heap.objs.size < a → hb5.objs.size = a + 1 → (∀ b o, sd.heap.get? b = some o → hb5.get? b = some o) →
            WalksS X.prog X.w X.A.in4 a (a :: sd.heap.objs.size :: List.range sd.heap.objs.size) (sd.heap.objs.size :: wr) (GenOnlyQ sd.gens.size) (passing pz n₀ 0).length
              (fun j y => ∃ i, (passing pz n₀ 0)[j]? = some i ∧ F i y) (GenAt X.prog X.w X.A.in4 a sd.gens.size sd.heap.objs.size (List.range sd.heap.objs.size) wr pz n₀ F) →
            GenAt X.prog X.w X.A.in4 a sd.gens.size sd.heap.objs.size (List.range sd.heap.objs.size) wr pz n₀ F 0 { sd with gens := sd.gens.push gs, toks := tk, heap := hb5 } →
            Qz (.ref a) { sd with gens := sd.gens.push gs, toks := tk, heap := hb5 })) X.xe { sa with heap := hb3, toks := tk } := by
    intro code hb3 tk tb2 hx hsz hP3 hmore ht3
    obtain ⟨bm, ob, e1, e2, e3, e4, e5, e6, e7, e8⟩ := TB.bm
    have hcP : cStatics ≠ P := fun e => by
      obtain ⟨_, hns, _⟩ := Ia.nolimit
      obtain ⟨ow, es, ep, ho, hd, _⟩ := hns
      rw [e, hPs] at ho
      cases ho
      cases hd
    have hcl : cStatics < sa.heap.objs.size := let ⟨_, hns, _⟩ := Ia.nolimit; hns.lt
    have sz2 : (sa.heap.push oi).objs.size = sa.heap.objs.size + 1 := Heap.size_push ..
    have keep3 : ∀ b u, b ≠ P → sa.heap.get? b = some u → hb3.get? b = some u := fun b u hb e => hx b u hb (Heap.get?_push_of_some _ e)
    have nsA : sa.heap.Ns mainGlobals X.mg := Ia.mod.glob.keeps Ia.bk
    have ns3 : hb3.Ns mainGlobals X.mg := (nsA.push oi).extBut hx TB.gP
    refine wpAny_builtinsFor (m := X.mg) (by rw [Ia.ok.glob]; exact ns3) e1 e2 (keep3 _ _ e4 (Ia.bk _ _ e5)) e6 e7 e8 ?_
    refine ⟨sa.heap.objs.size, [sa.heap.objs.size], [sa.heap.objs.size], a.cps.size, SignAt a, St, (fun _ => true), (fun i y => ∃ cc, a.cps[i]? = some cc ∧ y = .bool (pb cc)), rfl, W, ?_, ?_, lim2.extBut hx hcP, ?_, ?_, ?_⟩
    · refine (W X.A hr.hd).frame _ _ _ hst fun b hb u e => hx b u (fun z => ?_) e
      rcases List.mem_cons.mp hb with zz | zz
      · exact Nat.ne_of_lt hPlt (z.symm.trans zz)
      · cases zz
    · intro b hb
      rcases List.mem_cons.mp hb with z | z
      · rw [z]
        show sa.heap.objs.size < hb3.objs.size
        omega
      · cases z
    · intro z
      rcases List.mem_cons.mp z with z | z
      · exact Nat.ne_of_lt hcl z
      · cases z
    · intro href hhref
      refine ⟨fun A' E' i v sx m₂ hA hPv hn hm hk => ?_, fun A' E' i v sx m₂ hA hPv hp hn hm hk => ?_⟩
      · simp only [List.forIn_nil]
        exact wpAny_pure ⟨rfl, keeps_refl _⟩
      · obtain ⟨cc, u, hcc, rfl⟩ := hPv
        have nsx : sx.heap.Ns mainGlobals X.mg := by
          have hlt : mainGlobals < sa.heap.objs.size := nsA.lt
          obtain ⟨og, es, ep, hg, rr⟩ := ns3
          refine ⟨og, es, ep, hk mainGlobals (List.mem_range.mpr (Heap.lt_size hg)) (fun z => ?_) og (hhref _ _ hg), rr⟩
          rcases List.mem_cons.mp z with z | z
          · exact Nat.ne_of_lt hlt z
          · cases z
        exact wpAny_mono (hel _ A' E' cc u sx m₂ hA rfl Ia.ok.glob nsx hn hm) (fun y sy r => ⟨⟨cc, hcc, r.1⟩, r.2⟩) fun _ _ e => e
    · intro g hb5 tk5 gs hgb hag hsz5 hk5 W5 hat
      simp only [GxR.passing_true, List.length_range] at W5
      refine hQ a Ha g _ qa ⟨_, _, _, _, _, W5.in4_1, hat, ?_, fun sw hm => ?_⟩
      · intro j y sj Qj Ej hy hQj
        obtain ⟨i, hij, cc, hcc, rfl⟩ := hy
        obtain ⟨hj, ej⟩ := List.getElem?_eq_some_iff.mp hij
        rw [List.getElem_range] at ej
        subst ej
        have e9 : a.cps.toList[j]? = some cc := by rw [Array.getElem?_toList]; exact hcc
        have hQ2 : Qj (trF pb a.cps.toList j) sj := hQj
        rw [trF_some e9] at hQ2
        exact wpAny_truthy_bool hQ2
      · obtain ⟨more, em⟩ := hmore
        have nwr : ∀ b u, sa.heap.get? b = some u → b ∉ hb3.objs.size :: [sa.heap.objs.size] := fun b u e hb => by
          have hl := Heap.lt_size e
          rcases List.mem_cons.mp hb with z | z
          · rw [z] at hl
            have h9 : (hb3.objs.size : Nat) < sa.heap.objs.size := hl
            omega
          · rcases List.mem_cons.mp z with z | z
            · rw [z] at hl
              exact Nat.lt_irrefl _ hl
            · cases z
        have J := inv_tab (more := more) (h' := sw.heap) (g' := sw.gens) (d' := sw.drawn) (t' := sw.toks) Ia hP (fun b u hb e => hm.heap b u (nwr b u e) (hk5 b u (keep3 b u hb e)))
          (by rw [← em]; exact hm.heap P _ (nwr P _ hPs) (hk5 P _ hP3)) (AllBare.movedS (Ia.bare.push hgb) hm)
        rw [sh_eta sa sw hm.os] at J
        refine ⟨upd Ha P (.tbl (tb ++ more)), ⟨⟨tb ++ more, upd_same, by rw [← em]; exact ht3⟩, fun b hb => upd_ne hb⟩, J⟩
  refine ⟨lim2, ?_⟩
  cases hf : codeAmong gpos tb.toList with
  | none =>
    refine wpAny_genexprCodeX hcode (cd.code hP2 ht) (cd.tab hP2) hf fun c' h' tk hx hge hlt hco' _ htab' _ => ?_
    obtain ⟨_, _, _, _, _, _, _, _, _, _, _, _, _, _, _, _, _, _, _, htr, _⟩ := hco'
    exact cont _ h' tk _ hx (Nat.le_trans hge (Nat.le_of_lt hlt)) htab'.2 ⟨_, rfl⟩ htr
  | some cv =>
    refine wpAny_genexprCode_hit hcode (cd.code hP2 ht) hf ?_
    exact cont cv (sa.heap.push oi) sa.toks tb (Heap.ExtBut.refl _ _) (Nat.le_refl _) hP2 ⟨#[], by simp⟩ ht
theorem pe_anyG {c P : Addr} {elt iter : Expr} {x : Str} {px p pos gpos : Pos} {sc : Scope} {pb : Nat → Bool} {te : TE} {k : Nat}
    (hr : Room k X.A) (hg : Gl X "any") (hm : X.mg "any" = none) (TB : GxR.TabB X.base X.mg c P) (hcode : X.env.code = .ref c) (S : GenS X.env sc x) (hi : PE X iter te) (hel : EltG X sc x elt pb)
    (hs : ∀ v, genFold iter X.env v = pure v)
    (he : starEach [.GeneratorExp elt [⟨.Name x px, iter, [], 0⟩] sc gpos] X.env = (false, eval (.GeneratorExp elt [⟨.Name x px, iter, [], 0⟩] sc gpos) X.env) :: starEach [] X.env := by rfl) :
    PE X (.Call (.Name "any" p) [.GeneratorExp elt [⟨.Name x px, iter, [], 0⟩] sc gpos] [] pos) (tAnyS P pb te) := by
  refine ⟨fun pins s σ H Q I h => ?_⟩
  refine wpAny_Call_Name_kw (ld_blt I hg hm boot_any (PyProof.Rows.callWith_builtin1 ?_ he (by rfl)))
  rw [he]
  show wpAny _ _ (spliced ((false, eval (.GeneratorExp elt [⟨.Name x px, iter, [], 0⟩] sc gpos) X.env) :: backTo pos (starEach [] X.env))) _ _ s
  refine Calls.spliced_cons (gen_strG (R := fun a Ha => ∀ Hb, Tabbed P Ha Hb → Q (.bl (a.cps.toList.any pb)) Hb) hr TB hcode S hi hel hs I h fun a Ha g z hR hG => ?_)
  obtain ⟨fp, wr, G, F, St, W, hst, htr, hI⟩ := hG
  refine Calls.spliced_nil (call_any_walkS (W.self 0 _ _ _ hst ⟨g, fp, wr, G, _, F, St, _, rfl, W, hst, htr, fun sw hmv => ?_⟩))
  obtain ⟨Hb, hT, J⟩ := hI sw hmv
  refine ⟨.bl _, Hb, J, rfl, ?_⟩
  rw [any_signs a pb]
  exact hR Hb hT
end
/-- x not in G, G a text of the module -/
theorem elt_ninG {X : Cx} {sc : Scope} {x g z : Str} {p1 p2 p3 : Pos} (hk : sc.kind = .function) (hl : sc.names.lookup x = some .local) (hg : sc.names.lookup g = some .globalImplicit) (hm : ∃ t, X.mg g = some (.str z t))
    (hd : (x == ("__debug__" : Str)) = false := by decide) (hd2 : (g == ("__debug__" : Str)) = false := by decide) : EltG X sc x (.Compare (.Name x p1) [.NotIn] [.Name g p2] p3) (fun c => !decide (c ∈ z.cps.toList)) := by
  intro ce A' E' c t zz m hA hsc hglo hns hn hx
  obtain ⟨tz, hm⟩ := hm
  refine wpAny_Compare1 ?_
  refine wpAny_Name (wpAny_loadName_local (by rw [hsc]; exact hk) (show ce.scope.names.lookup x = some .local by rw [hsc]; exact hl) hn hx ?_) hd
  refine Calls.Name_function_global (by rw [hsc]; exact hk) (show ce.scope.names.lookup g = some .globalImplicit by rw [hsc]; exact hg) (Calls.loadGlobal_global (by rw [hglo]; exact hns) hm ?_) hd2
  refine PySem.P.notIn_str ⟨?_, keeps_refl _⟩
  show Value.bool _ = Value.bool _
  rw [PySem.StrLaws.found_one]
/-! ### the steps -/
section
variable {K : PySem.W.Frag} {B H : Hp} {L L' : List (Addr × HO)} {I : List Im} {Q : VK} {σ : L2.St} {P : Addr} {tb : Array Value} {pb : Nat → Bool}
def kAny (P : Addr) (pb : Nat → Bool) (Q : VK) : VK := fun v Ha => ∃ a : Str, v = .str a ∧ TabG Ha P ∧ ∀ Hb, Tabbed P Ha Hb → Q (.bl (a.cps.toList.any pb)) Hb
theorem s_anyS {te : TE} (h : te σ H (kAny P pb Q)) : tAnyS P pb te σ H Q := h
theorem s_anyV {x : Str} (hC : Ctx K B H L I) (m : Pick (P, .tbl tb) L L') (f : Im.tri tb ∈ I) (k : ∀ tb' H1, Ctx K B H1 ((P, .tbl tb') :: L') (.tri tb' :: I) → Q (.bl (x.cps.toList.any pb)) H1) : kAny P pb Q (.str x) H := by
  have hC := hC.pick m
  refine ⟨x, rfl, ⟨tb, hC.get List.mem_cons_self, hC.tri f⟩, fun Hb hT => ?_⟩
  obtain ⟨⟨tb', h1, h2⟩, h3⟩ := hT
  exact k tb' Hb ((hC.but List.mem_cons_self .here rfl (fun b u n e => by rw [h3 b n]; exact e) h1).add (i := .tri tb') h2)
end
theorem tabG {base : Heap} {mg : Str → Option Value} {c P : Addr} (h : LamX.TabB base mg c P) : GxR.TabB base mg c P := ⟨h.code, h.bm, h.gP⟩
def genSB (sc : Scope) (x : Str) : Bool := decide (sc.kind = .function) && !sc.isCoroutine && sc.names.all (fun y => !decide (y.2 = .cell) && !decide (y.2 = .free)) && decide (sc.names.lookup (".0" : Str) = some NameKind.local) && decide (sc.names.lookup x = some .local)
theorem genS_by {env : Env} {sc : Scope} {x : Str} (h : genSB sc x = true) : GenS env sc x := by
  unfold genSB at h
  simp only [Bool.and_eq_true, Bool.not_eq_true', decide_eq_true_eq, decide_eq_false_iff_not, List.all_eq_true] at h
  obtain ⟨⟨⟨⟨h1, h2⟩, h3⟩, h4⟩, h5⟩ := h
  exact ⟨h1, h2, fun y hy => (h3 y hy).1, h4, h5, fun y hy e => absurd e (h3 y hy).2⟩
end Ph
namespace Ph
open PySem PySem.Spec PyProof.Rows L2
def gFld (K : PySem.W.Frag) (to : TE) (f : Str) : TG := fun v σ H Q => to σ H (kSetF K f Q σ v)
theorem pg_fld {X : Cx} {o : Expr} {ta : TE} {f : Str} {pos : Pos} (ha : PE X o ta) : PG X (.Attribute o f pos) (gFld X.K ta f) := by
  refine ⟨fun pins s σ H v u Q I r h => ?_⟩
  rw [assign_Attribute]
  refine wpAny_bind (wpAny_holding (thn (ha.run pins s σ H _ I h) fun ov s1 ⟨x, H1, I1, r1, q1⟩ => ?_))
  obtain ⟨a, C, dx, fs, rfl, ea, c, n, l, q2⟩ := q1
  obtain rfl : ov = Value.ref a := r1
  exact wpAny_bind (wpAny_standAt (wpAny_bind (wpAny_holding (setattr_ok I1 ea c n l r fun s3 I3 => wpAny_release ⟨σ, _, I3, q2⟩))))
section
variable {K : PySem.W.Frag} {B H : Hp} {L L' F : List (Addr × HO)} {I : List Im} {Q : VK} {σ : L2.St} {A Cb Dc : L2.St → Hp → Prop} {Bt : VK} {R : L2.St → Hp → Prop} {v : V}
theorem s_gfld {to : TE} {f : Str} (h : to σ H (kSetF K f R σ v)) : gFld K to f v σ H R := h
/-! pop -/
def kBm0 (K : PySem.W.Frag) (T : String) (r : V → List V → Hp → VK → Prop) (Q : VK) : VK := fun x H1 => tyV K T x H1 ∧ r x [] H1 Q
theorem s_bm0 {T : String} {r : V → List V → Hp → VK → Prop} {to : TE} (h : to σ H (kBm0 K T r Q)) : tBM0 K T r to σ H Q := h
theorem s_popL {l : Addr} {xs : List V} {y : V} (hC : Ctx K B H L I) (m : H l = some (.lst (xs ++ [y]))) (u : Up l (.lst xs) L L') (k : ∀ H1, Ctx K B H1 L' I → Q y H1) : kBm0 K "list" rPop Q (.ref l) H := by
  refine ⟨.inl ⟨rfl, _, SqL.of m⟩, l, xs ++ [y], y, rfl, rfl, m, by simp, ?_⟩
  rw [List.dropLast_concat]
  exact k _ (hC.put u rfl)
/-! split -/
abbrev rSplit1 : V → List V → Hp → VK → Prop := fun x xs H Q => ∃ a b, x = .str a ∧ xs = [.str b] ∧ (b.length == 0) = false ∧ a.length + 2 ≤ sizeLine ∧ rNewStrs (Txt.split a b) H Q
def kM1 (r : V → List V → Hp → VK → Prop) (te : TE) (σ : L2.St) (Q : VK) : VK := fun x H1 => (∃ a, x = .str a) ∧ te σ H1 fun y H2 => r x [y] H2 Q
theorem s_m1 {r : V → List V → Hp → VK → Prop} {to te : TE} (h : to σ H (kM1 r te σ Q)) : tM1 r to te σ H Q := h
theorem s_m1V {r : V → List V → Hp → VK → Prop} {te : TE} {a : Str} (h : te σ H fun y H2 => r (.str a) [y] H2 Q) : kM1 r te σ Q (.str a) H := ⟨⟨a, rfl⟩, h⟩
theorem s_split {a b : Str} (hC : Ctx K B H L I) (hb : (b.length == 0) = false) (hz : a.length ≤ 100000) (k : ∀ p H1, Ctx K B H1 ((p, .lst ((Txt.split a b).map V.str)) :: L) I → Q (.ref p) H1) : rSplit1 (.str a) [.str b] H Q :=
  ⟨a, b, rfl, rfl, hb, by rw [sizeLine_eq]; omega, fun p hp => k p _ (hC.newM hp rfl)⟩
/-! isinstance(x, str) -/
theorem s_isStrS {x : Str} (h : Q (.bl true) H) : rIsi K [.str x, .ty "str"] H Q := ⟨_, _, _, _, true, rfl, .ty _, .base (.str x), by rfl, h⟩
theorem s_isStrI {i : Int} (h : Q (.bl false) H) : rIsi K [.int i, .ty "str"] H Q := ⟨_, _, _, _, false, rfl, .ty _, .base (.int i), by rfl, h⟩
/-! cuts -/
theorem s_slS {z : Str} {lo hi : Option Int} (hz : z.length ≤ 100000) (h : Q (.str (cutS z lo hi)) H) : rSlU K (.str z) lo hi H Q := .inr (.inl ⟨z, rfl, Nat.le_trans hz (by decide), h⟩)
theorem s_slT1 {a : Addr} {x : V} {r : List V} (hC : Ctx K B H L I) (h : SqT K H a (x :: r)) (z : (x :: r).length ≤ 1000) (k : ∀ p H1, Ctx K B H1 L (.tup p r :: I) → Q (.ref p) H1) : rSlU K (.ref a) (some 1) none H Q := by
  have e1 : HT.sIx (x :: r).length 0 (some 1) = 1 := by
    unfold HT.sIx
    simp
  have e2 : HT.sIx (x :: r).length (x :: r).length none = (x :: r).length := by rfl
  have e : cutV (x :: r) (some 1) none = r := by
    unfold cutV
    rw [e1, e2, List.drop_succ_cons, List.drop_zero, List.length_cons, Nat.add_sub_cancel, List.take_length]
  refine .inr (.inr ⟨a, x :: r, rfl, h, fun z => ?_, fun p hp => ?_⟩)
  · rw [e1] at z
    exact absurd z.1 (by decide)
  · rw [e]
    exact k p _ (hC.newT hp)
theorem s_mulS {x : Str} {k : Int} (h1 : 2 ≤ k) (h2 : k ≤ 1000) (h3 : 1 ≤ x.length) (h4 : x.length ≤ 1000) (h : Q (.str (repS x k.toNat)) H) : rMulU (.str x) (.int k) H Q := ⟨h1, h2, h3, h4, h⟩
theorem s_ixS {z : Str} {i : Int} {c : Nat} (e : rIxS (.str z) (.int i) H Q) : rIxU K (.str z) (.int i) H Q := .inr (.inr (.inl e))
/-! an item of a list, the place not known -/
theorem atI_at {xs : List V} {r : Int} (h0 : 0 ≤ r) (h1 : r < xs.length) : ∃ v, atI xs r = some v ∧ v ∈ xs := by
  have hr : r.toNat < xs.length := by omega
  have e := atI_nat (xs := xs) (j := r.toNat) (v := xs[r.toNat]) (List.getElem?_eq_getElem hr)
  rw [Int.toNat_of_nonneg h0] at e
  exact ⟨_, e, List.getElem_mem hr⟩
theorem s_ixOne {l : Addr} {xs : List V} {r : Int} (m : H l = some (.lst xs)) (h0 : 0 ≤ r) (h1 : r < xs.length) (q : ∀ v, v ∈ xs → Q v H) : rIxU K (.ref l) (.int r) H Q := by
  obtain ⟨v, e, w⟩ := atI_at h0 h1
  exact s_ixL m e (q v w)
/-! while -/
theorem s_while {c : TT} {tb : TS} (Pv : L2.St → Hp → Prop) (μ : L2.St → Hp → Nat) (h0 : Pv σ H)
    (hs : ∀ σ H, Pv σ H → c σ H fun b H1 => if b = true then tb ⟨fun σ' H' => Pv σ' H' ∧ μ σ' H' < μ σ H, Bt, A, fun σ' H' => Pv σ' H' ∧ μ σ' H' < μ σ H⟩ σ H1 else A σ H1)
    (mono : ∀ σ H Q Q', (∀ b H1, Q b H1 → Q' b H1) → c σ H Q → c σ H Q') : tWhile c tb ⟨A, Bt, Cb, Dc⟩ σ H := while_by (D := ⟨A, Bt, Cb, Dc⟩) Pv μ h0 hs mono
/-! the teller at a lambda of a list -/
theorem s_toldV {CS : Addr} {ret q : Str} {n i : Nat} {fam : List LamD} {t : Nat → XK → TE} (f c : Addr) (k : Nat) (d : LamD) (hs : σ[i]? = some (some (.ref f))) (hj : fam[k]? = some d)
    (hf : H f = some (LamO f c q d.ps d.body d.sc)) (hc : H c = some (LamX.CodeO c q)) (h : t k (kTold K CS ret Q) (List.replicate n none) H Q) : tToldV K CS ret q n i fam t σ H Q := ⟨f, c, k, d, hs, hj, hf, hc, h⟩
end
theorem passLam {X : Cx} {A : Around} {outer : List Env} {s : Shared} {H : Hp} {E : XK} {scope : Scope} {f c' : Addr} : Passes (L2.CX X.prog X.w) (LamX.lamCx X A outer s H E scope f c') E := passes_call (takes_of rfl rfl rfl rfl) fun _ _ _ _ h => h
theorem passLam0 {X : Cx} {q : Str} {A : Around} {outer : List Env} {s : Shared} {H : Hp} {E : XK} {sc : Scope} {f c : Addr} : Passes (L2.CX X.prog X.w) (lamCx0 X q A outer s H E sc f c) E := passes_call (takes_of rfl rfl rfl rfl) fun _ _ _ _ h => h
section
variable {K : PySem.W.Frag} {H : Hp} {Q : VK}
theorem app_le10 {x y : Str} (hx : x.length ≤ 50000) (hy : y.length ≤ 50000) : (x ++ y).length ≤ 100000 := by
  rw [Str.length_append]
  omega
theorem app_le5 {x y : Str} (hx : x.length ≤ 20000) (hy : y.length ≤ 20000) : (x ++ y).length ≤ 50000 := by
  rw [Str.length_append]
  omega
theorem app_le2 {x y : Str} (hx : x.length ≤ 10000) (hy : y.length ≤ 10000) : (x ++ y).length ≤ 20000 := by
  rw [Str.length_append]
  omega
theorem app_le1 {x y : Str} (hx : x.length ≤ 5000) (hy : y.length ≤ 5000) : (x ++ y).length ≤ 10000 := by
  rw [Str.length_append]
  omega
theorem app_le05 {x y : Str} (hx : x.length ≤ 2500) (hy : y.length ≤ 2500) : (x ++ y).length ≤ 5000 := by
  rw [Str.length_append]
  omega
theorem s_addSS {i j : Str} (z1 : i.length ≤ 100000) (z2 : j.length ≤ 100000) (h : Q (.str (i ++ j)) H) : rAddU K (.str i) (.str j) H Q := ⟨Nat.le_trans (Nat.add_le_add z1 z2) (by decide), h⟩
theorem s_lenSS {z : Str} (m : z.length ≤ 100000) (h : Q (.int z.length) H) : rLenU K [.str z] H Q := s_lenS (Nat.le_trans m (by decide)) h
end
/-! lists: the last ones, all but the last -/
theorem TDs.drop {K : PySem.W.Frag} {H : Hp} : ∀ {vs : List V} {ds : List PyData} (n : Nat), TDs K H vs ds → TDs K H (vs.drop n) (ds.drop n)
  | _, _, 0, h => by rw [List.drop_zero, List.drop_zero]; exact h
  | _, _, _ + 1, .nil => .nil
  | _, _, n + 1, .cons _ t => by rw [List.drop_succ_cons, List.drop_succ_cons]; exact TDs.drop n t
theorem TDs.unsnoc {K : PySem.W.Frag} {H : Hp} {d : PyData} : ∀ {vs : List V} {ds : List PyData}, TDs K H vs (ds ++ [d]) → ∃ us v, vs = us ++ [v] ∧ TDs K H us ds ∧ TD K H v d
  | _, [], .cons h .nil => ⟨[], _, rfl, .nil, h⟩
  | _, e :: ds, .cons h t => by
    obtain ⟨us, v, rfl, q1, q2⟩ := TDs.unsnoc (ds := ds) t
    exact ⟨_ :: us, v, rfl, .cons h q1, q2⟩
theorem cutV_last {xs : List V} {k : Nat} (hk : 0 < k) : cutV xs (some (-(k : Int))) none = xs.drop (xs.length - k) := by
  have e1 : HT.sIx xs.length 0 (some (-(k : Int))) = xs.length - k := by
    show (if (-(k : Int)) < 0 then ((-(k : Int)) + (xs.length : Int)).toNat else min (-(k : Int)).toNat xs.length) = _
    rw [if_pos (by omega)]
    omega
  have e2 : HT.sIx xs.length xs.length none = xs.length := rfl
  unfold cutV
  rw [e1, e2]
  exact List.take_of_length_le (by rw [List.length_drop]; omega)
theorem cutV_init {xs : List V} {y : V} : cutV (xs ++ [y]) none (some (-1)) = xs := by
  have e1 : HT.sIx (xs ++ [y]).length 0 none = 0 := rfl
  have e2 : HT.sIx (xs ++ [y]).length (xs ++ [y]).length (some (-1)) = xs.length := by
    show (if ((-1 : Int)) < 0 then ((-1 : Int) + ((xs ++ [y]).length : Int)).toNat else min (-1 : Int).toNat (xs ++ [y]).length) = _
    rw [if_pos (by decide), List.length_append, List.length_singleton]
    omega
  unfold cutV
  rw [e1, e2, List.drop_zero, Nat.sub_zero, List.take_left]
/-! == of data -/
section
variable {K : PySem.W.Frag} {H : Hp} {Q : VK}
theorem eqv_nil {ds : List PyData} : PyData.eqv (.list ds) (.list []) = ds.isEmpty := by
  cases ds <;> simp [PyData.eqv, PyData.eqvAll]
theorem s_eqE {l m : Addr} {vs : List V} {ds : List PyData} (hl : H l = some (.lst vs)) (hm : H m = some (.lst [])) (h : TDs K H vs ds) (sh : ShL 50 ds) (k : Q (.bl ds.isEmpty) H) : rEqU K (.ref l) (.ref m) H Q :=
  s_eqD (Dp.lst (SqL.of hl) h.dp) (Dp.lst (SqL.of hm) .nil) (sh.list.shaped (by decide)) (by decide) (by rw [eqv_nil]; exact k)
theorem s_neE {l m : Addr} {vs : List V} {ds : List PyData} (hl : H l = some (.lst vs)) (hm : H m = some (.lst [])) (h : TDs K H vs ds) (sh : ShL 50 ds) (k : Q (.bl (!ds.isEmpty)) H) : rNeU K (.ref l) (.ref m) H Q :=
  s_neD (Dp.lst (SqL.of hl) h.dp) (Dp.lst (SqL.of hm) .nil) (sh.list.shaped (by decide)) (by decide) (by rw [eqv_nil]; exact k)
theorem s_neSame {x y : V} {d : PyData} (h1 : TD K H x d) (h2 : TD K H y d) (s : Sh 50 d) (k : Q (.bl false) H) : rNeU K x y H Q :=
  s_neD h1.dp h2.dp (s.shaped (by decide)) (s.shaped (by decide)) (by rw [eqv_self s]; exact k)
theorem s_eqSame {x y : V} {d : PyData} (h1 : TD K H x d) (h2 : TD K H y d) (s : Sh 50 d) (k : Q (.bl true) H) : rEqU K x y H Q :=
  s_eqD h1.dp h2.dp (s.shaped (by decide)) (s.shaped (by decide)) (by rw [eqv_self s]; exact k)
theorem s_neSameL {l m : Addr} {us vs : List V} {ds : List PyData} (hl : H l = some (.lst us)) (hm : H m = some (.lst vs)) (h1 : TDs K H us ds) (h2 : TDs K H vs ds) (s : ShL 50 ds) (k : Q (.bl false) H) : rNeU K (.ref l) (.ref m) H Q :=
  s_neD (Dp.lst (SqL.of hl) h1.dp) (Dp.lst (SqL.of hm) h2.dp) (s.list.shaped (by decide)) (s.list.shaped (by decide)) (by rw [eqv_self s.list]; exact k)
theorem ShL.mono {n m : Nat} {ds : List PyData} (h : ShL n ds) (z : n ≤ m) : ShL m ds := fun d hd => (h d hd).mono z
end
def mnI (i j : Int) : Int := if j < i then j else i
def mxI (i j : Int) : Int := if j > i then j else i
section
variable {H : Hp} {Q : VK} {i j : Int}
theorem s_max2N (h : Q (.int (mxI i j)) H) : rMax2 [.int i, .int j] H Q := s_max2 h
theorem s_min2N (h : Q (.int (mnI i j)) H) : rMin2 [.int i, .int j] H Q := s_min2 h
theorem mnI_le : mnI i j ≤ i ∧ mnI i j ≤ j ∧ (mnI i j = i ∨ mnI i j = j) := by
  unfold mnI
  split <;> omega
theorem mxI_ge : i ≤ mxI i j ∧ j ≤ mxI i j ∧ (mxI i j = i ∨ mxI i j = j) := by
  unfold mxI
  split <;> omega
end
section
variable {H : Hp} {σ : L2.St} {A Cb Dc : L2.St → Hp → Prop} {Bt : VK}
def kBody (W : Nat → L2.St → Hp → Prop) (m : Nat) (tb : TS) (A : L2.St → Hp → Prop) (Bt : VK) (σ : L2.St) (H : Hp) : Prop := ∃ N : L2.St → Hp → Prop, (∀ σ' H', N σ' H' → ∃ m', m' < m ∧ W m' σ' H') ∧ tb ⟨N, Bt, A, N⟩ σ H
theorem s_body {W : Nat → L2.St → Hp → Prop} {m : Nat} {tb : TS} (h : tb ⟨fun σ' H' => ∃ m', m' < m ∧ W m' σ' H', Bt, A, fun σ' H' => ∃ m', m' < m ∧ W m' σ' H'⟩ σ H) : kBody W m tb A Bt σ H := ⟨_, fun _ _ h => h, h⟩
theorem s_whileN {c : TT} {tb : TS} (W : Nat → L2.St → Hp → Prop) (m : Nat) (h0 : W m σ H) (hs : ∀ m σ H, W m σ H → c σ H fun b H1 => if b = true then kBody W m tb A Bt σ H1 else A σ H1) : tWhile c tb ⟨A, Bt, Cb, Dc⟩ σ H :=
  ⟨W, ⟨m, h0⟩, hs⟩
end
theorem s_iteNDT {p : Prop} [Decidable p] {X Y : Prop} (hp : ¬ p) (h : X) : if (!decide p) = true then X else Y := by
  rw [decide_eq_false hp]
  exact iteT h
theorem s_iteNDF {p : Prop} [Decidable p] {X Y : Prop} (hp : p) (h : Y) : if (!decide p) = true then X else Y := by
  rw [decide_eq_true hp]
  exact iteF h
theorem atI_last {us : List V} {v : V} : atI (us ++ [v]) (((us ++ [v]).length : Int) - 1) = some v := by
  have e : (((us ++ [v]).length : Int) - 1) = (us.length : Int) := by
    rw [List.length_append, List.length_singleton]
    omega
  rw [e]
  exact atI_nat (by simp)
theorem s_ixLast {K : PySem.W.Frag} {H : Hp} {Q : VK} {a : Addr} {us : List V} {v : V} (m : H a = some (.lst (us ++ [v]))) (q : Q v H) : rIxU K (.ref a) (.int (((us ++ [v]).length : Int) - 1)) H Q := s_ixL m atI_last q
theorem atI_head {us : List V} {v : V} : atI (v :: us) (0 : Int) = some v := atI_nat (j := 0) rfl
theorem s_ixHead {K : PySem.W.Frag} {H : Hp} {Q : VK} {a : Addr} {us : List V} {v : V} (m : H a = some (.lst (v :: us))) (q : Q v H) : rIxU K (.ref a) (.int 0) H Q := s_ixL m atI_head q
section
variable {K : PySem.W.Frag} {B H : Hp} {Q : VK} {σ : L2.St} {L : List (Addr × HO)} {I : List Im}
theorem s_neSs {i : Str} (h : Q (.bl false) H) : rNeU K (.str i) (.str i) H Q := s_neS (by rw [decide_eq_true rfl]; exact h)
theorem s_callD {sp : Sp} {vs dvs : List V} {E : XK} (h : sp (vs ++ dvs) H Q E) : kCall sp dvs E Q vs H := h
/-- a comprehension with a test over a list -/
theorem lc_lstT {a : Addr} {xs : List V} {g : TG} {tt : TT} {te : TE} {vs : List Nat} (hC : Ctx K B H L I) (Pv : Addr → Nat → Hp → Prop) (h0 : ∀ D H1, Ctx K B H1 ((D, .lst []) :: L) I → Pv D 0 H1) (hl : ∀ i D H, i ≤ xs.length → Pv D i H → H a = some (.lst xs))
    (hs : ∀ i x D H, xs[i]? = some x → Pv D i H → g x (wipe σ vs) H fun σ2 H2 => wipe σ2 vs = wipe σ vs ∧ tt σ2 H2 fun b H3 => if b = true then te σ2 H3 (kApp D (Pv D (i + 1))) else Pv D (i + 1) H3)
    (hd : ∀ D H, Pv D xs.length H → Q (.ref D) H) : kLc g tt te vs σ Q (Itl K a) H := fun D hD =>
  lc_list (K := K) (xs := xs) (g := g) (tt := tt) (te := te) (vs := vs) (σ := σ) (H1 := H) (D := D) (Qd := fun H => Q (.ref D) H) (fun i H => Pv D i H) (h0 D _ (hC.newM hD rfl)) (fun i H hi p => SqL.of (hl i D H hi p))
    (fun i x H hx p => hs i x D H hx p) (fun H p => hd D H p)
end
/-- some of what is known -/
inductive Subs (I : List Im) : List Im → Prop
  | nil : Subs I []
  | cons {x : Im} {r : List Im} : x ∈ I → Subs I r → Subs I (x :: r)
theorem Subs.sub {I : List Im} : ∀ {J : List Im}, Subs I J → ∀ j, j ∈ J → j ∈ I
  | _, .nil, j, h => by cases h
  | _, .cons m s, j, h => (List.mem_cons.mp h).elim (fun e => by rw [e]; exact m) (s.sub j)
theorem Ctx.sub {K : PySem.W.Frag} {B H : Hp} {L L' : List (Addr × HO)} {I J : List Im} (h : Ctx K B H L I) (y : Lay H L') (s : Subs I J) : Ctx K B H L' J := ⟨y, fun j hj => h.im j (s.sub j hj), h.sb⟩
theorem te_eq {t t' : TE} (e : t = t') {σ : L2.St} {H : Hp} {Q : VK} (h : t' σ H Q) : t σ H Q := by
  rw [e]
  exact h
end Ph
namespace Ph
open PySem PySem.Spec PyProof.Rows L2 GenW
/-- the context of a generator expression's frame -/
abbrev gxOf (X : Cx) (A : Around) (s : Shared) (H : Hp) (ce : Env) (fp : List Addr) (pn : List (Addr × Obj)) : Cx :=
  { X with A := A, s_0 := s, H_0 := H, env := ce, outer := X.stack, stack := ce :: X.stack, ex := fp, fn := fun _ => false, pn := pn, xe := fun _ _ => False }
abbrev gxEnv (X : Cx) (scope : Scope) (C : Addr) (code : Value) : Env := genEnv scope (cloFrom X.env.cells scope.names []) C code builtinsNs X.env
section
variable {X : Cx} {pins : List (Addr × Obj)} {σ : L2.St} {H : Hp} {s s2 : Shared}
theorem gx_start {scope : Scope} {own : List (Str × Nat)} {fp : List Addr} {A : Around} {code : Value} {m0 : Str → Option Value}
    (I : Inv X pins σ H s) (ok : BlkOk X.N X.env.scope scope own) (hnc : ∀ y ∈ scope.names, y.2 ≠ .cell) (hN : X.N.Nodup) (hfp : ∀ b ∈ fp, FpOk X pins H b ∧ b < s.heap.objs.size)
    (hA : A.handled = none) (hfr : A.frames = some (gxEnv X scope s.heap.objs.size code :: X.stack)) (hns : s2.heap.Ns s.heap.objs.size m0) (hk : ∀ b o, s.heap.get? b = some o → s2.heap.get? b = some o) (hos : s2.os = s.os) (hb : AllBare s2.gens) :
    Inv (gxOf X A s H (gxEnv X scope s.heap.objs.size code) fp []) [] (wipe σ (own.map (·.2))) H s2 := by
  have hfree : ∀ y ∈ scope.names, y.2 = .free → ∃ c, X.env.cells.lookup y.1 = some c := fun y hy e => by
    rcases ok.free y hy e with k | k
    · exact I.ok.has _ (.inl k)
    · exact I.ok.has _ (.inr k)
  generalize hcenv : gxEnv X scope s.heap.objs.size code = cenv
  have hL : cenv.locals = s.heap.objs.size := by rw [← hcenv]; rfl
  have hcl : cenv.cells = cloFrom X.env.cells scope.names [] := by rw [← hcenv]; rfl
  have hsc : cenv.scope = scope := by rw [← hcenv]; rfl
  have hfrm : cenv.frame = some s.heap.objs.size := by rw [← hcenv]; rfl
  have cm : ∀ {y c}, (y, c) ∈ cloFrom X.env.cells scope.names [] → X.env.cells.lookup y = some c ∧ c < s.heap.objs.size := fun {y c} hm => by
    rcases cloFrom_mem hm with hm | ⟨h1, rfl⟩
    · cases hm
    · obtain ⟨c, hc⟩ := hfree _ h1 rfl
      rw [hc]
      obtain ⟨w, z⟩ := I.cell _ _ hc
      exact ⟨rfl, z.lt⟩
  have mem : ∀ {y c}, cenv.cells.lookup y = some c → X.env.cells.lookup y = some c ∧ c < s.heap.objs.size := fun {y c} e => by
    rw [hcl] at e
    exact cm (PySem.mem_of_lookup e)
  have look : ∀ {y}, scope.names.lookup y = some .free → ∃ c, cenv.cells.lookup y = some c ∧ X.env.cells.lookup y = some c := fun {y} hl => by
    have hy : (y, NameKind.free) ∈ scope.names := PySem.mem_of_lookup hl
    obtain ⟨c', e'⟩ := mem_lookup (cloFrom_has (cells := X.env.cells) (acc := []) hy)
    rw [← hcl] at e'
    exact ⟨c', e', (mem e').1⟩
  have okB : (gxOf X A s H cenv fp []).Ok := by
    refine ⟨I.ok.mod, by show cenv.scope.kind = _; rw [hsc]; exact ok.kind, by show cenv.globals = _; rw [← hcenv]; exact I.ok.glob, by show cenv.builtins = _; rw [← hcenv]; rfl, by show s.heap.objs.size ≤ cenv.locals; rw [hL]; exact Nat.le_refl _,
      fun y z c e1 e2 => I.ok.inj y z c (mem e1).1 (mem e2).1, fun y hy => ?_, fun y c z e => (by cases z), fun _ => hA, by rw [← hcenv]; exact hfr, .inr ⟨rfl, by show cenv.frame = some cenv.locals; rw [hfrm, hL]⟩, fun b hb => ⟨?_, fun y c e z => ?_⟩, I.bs, Nat.le_trans I.ok.bsz I.sz, fun b o e hb => ?_, fun b hb z => ?_, I.stack, I.stkFree⟩
    · show ∃ c, cenv.cells.lookup y = some c
      have hy : cenv.scope.names.lookup y = some .cell ∨ cenv.scope.names.lookup y = some .free := hy
      rw [hsc] at hy
      rcases hy with hy | hy
      · exact absurd rfl (hnc _ (PySem.mem_of_lookup hy))
      · obtain ⟨c, h1, _⟩ := look hy
        exact ⟨c, h1⟩
    · show b ≠ cenv.locals
      rw [hL]; exact Nat.ne_of_lt (hfp b hb).2
    · have e : cenv.cells.lookup y = some c := e
      exact (hfp b hb).1.2.2.2.2.1 y c (mem e).1 z
    · rcases (hfp b hb).1.2.2.2.1 with z | z
      · exact I.ok.noex b o e z
      · exact absurd (Nat.lt_of_lt_of_le (Heap.lt_size e) (Nat.le_trans I.ok.bsz z)) (Nat.lt_irrefl _)
    · rcases List.mem_cons.mp (I.stkSub b z) with z | z
      · exact (hfp b hb).1.2.1 z
      · exact (hfp b hb).1.2.2.1 z
  refine ⟨okB, hos, hb, Un.kept hk, ⟨m0, by show s2.heap.Ns cenv.locals m0; rw [hL]; exact hns, fun i y av e1 e2 e3 => ?_⟩, fun y c e => ?_, ?_, fun y c e => ?_, fun p hp => ?_, I.hok.kept hk, by rw [wipe_length]; exact I.len⟩
  · obtain ⟨e2, hne⟩ := wipe_some e2
    have e3 : Vis cenv.scope y := e3
    rw [hsc] at e3
    have hfr : scope.names.lookup y = some .free := by
      rcases e3 with e3 | e3 | e3
      · rcases ok.own _ (PySem.mem_of_lookup e3) (.inl rfl) with e' | e'
        · obtain ⟨p, hp, hpy⟩ := List.mem_map.mp e'
          have e3 := ok.ix p hp
          have : p.1 = y := hpy
          rw [this] at e3
          exact absurd (List.mem_map.mpr ⟨p, hp, nodup_ix hN e3 e1⟩) hne
        · exact absurd (List.mem_of_getElem? e1) e'
      · exact absurd rfl (hnc _ (PySem.mem_of_lookup e3))
      · exact e3
    obtain ⟨m, hn, hl⟩ := I.loc
    have hvis : Vis X.env.scope y := (ok.free _ (PySem.mem_of_lookup hfr) rfl).elim (fun k => .inr (.inl k)) (fun k => .inr (.inr k))
    obtain ⟨w, r, q⟩ := hl i y av e1 e2 hvis
    refine ⟨w, r, .inr ⟨.inr (by show cenv.scope.names.lookup y = _; rw [hsc]; exact hfr), ?_⟩⟩
    obtain ⟨c, h1, h2⟩ := look hfr
    rcases q with ⟨k, _⟩ | ⟨_, c', e', z⟩
    · have k : X.env.scope.names.lookup y = some .local := k
      rcases ok.free _ (PySem.mem_of_lookup hfr) rfl with k' | k' <;> rw [show X.env.scope.names.lookup y = _ from k'] at k <;> cases k
    · rw [h2] at e'; cases e'
      exact ⟨c, h1, z.keeps hk⟩
  · have e : cenv.cells.lookup y = some c := e
    obtain ⟨w, z⟩ := I.cell y c (mem e).1
    exact ⟨w, z.keeps hk⟩
  · show H cenv.locals = none
    rw [hL]; exact I.hok.fresh (Nat.le_refl _)
  · have e : cenv.cells.lookup y = some c := e
    exact I.freeC y c (mem e).1
  · exact absurd (show p ∈ ([] : List (Addr × Obj)) ++ [] from hp) (by simp)
theorem gx_pinned {X : Cx} {A : Around} {s s1 : Shared} {H H' : Hp} {ce : Env} {fp : List Addr} {pn pins : List (Addr × Obj)} {σ : L2.St} (I : Inv (gxOf X A s H ce fp []) [] σ H' s1)
    (h : ∀ p ∈ pn ++ pins, s1.heap.get? p.1 = some p.2 ∧ H' p.1 = none ∧ p.1 ≠ ce.locals ∧ p.1 ∉ frs X.stack ∧ ∀ v, p.2.data ≠ .cell v) : Inv (gxOf X A s H ce fp pn) pins σ H' s1 :=
  ⟨⟨I.ok.mod, I.ok.kind, I.ok.glob, I.ok.blt, I.ok.above, I.ok.inj, I.ok.has, I.ok.cab, I.ok.hd, I.ok.frames, I.ok.stk, I.ok.exf, I.ok.bs, I.ok.bsz, I.ok.noex, I.ok.exfs, I.ok.funs, I.ok.frf⟩, I.os, I.bare, I.base, I.loc, I.cell, I.free, I.freeC, h, I.hok, I.len⟩
end
/-! ### the consumer's own object -/
/-- what is out stands in the consumer's object -/
abbrev OwnR := List V → Obj → Prop
structure SleptR (S : Addr) (RS : OwnR) (Cy : V → Prop) (y : V) (s s' : Shared) : Prop where
  go : Cy y
  os : s'.os = s.os
  bare : AllBare s'.gens
  keep : ∀ b o, b ≠ S → s.heap.get? b = some o → s'.heap.get? b = some o
  own : ∀ ys o, RS ys o → s.heap.get? S = some o → ∃ o', s'.heap.get? S = some o' ∧ RS (ys ++ [y]) o'
def GIR (X : Cx) (S : Addr) (RS : OwnR) (ip : List (Addr × Obj)) (ys : List V) (σ : L2.St) (H : Hp) (s : Shared) : Prop :=
  ∃ o, RS ys o ∧ Inv X ((S, o) :: ip) σ H s
theorem GIR.woken {X : Cx} {S : Addr} {RS : OwnR} {Cy : V → Prop} {ip : List (Addr × Obj)} {ys : List V} {y : V} {σ : L2.St} {H : Hp} {s s' : Shared} (hRS : ∀ ys o, RS ys o → ∀ v, o.data ≠ .cell v) (hpn : ∀ p ∈ X.pn, p.1 ≠ S) (hip : ∀ p ∈ ip, p.1 ≠ S) (hA : Apart X S)
    (h : GIR X S RS ip ys σ H s) (z : SleptR S RS Cy y s s') : GIR X S RS ip (ys ++ [y]) σ H s' := by
  obtain ⟨ob, r, I⟩ := h
  obtain ⟨eS, hS0, hSL, hSf, _⟩ := I.pin (S, ob) (List.mem_append_right _ List.mem_cons_self)
  have I0 : Inv X ip σ H s := I.pins_of fun p hp => I.pin p (List.mem_append_right _ (List.mem_cons_of_mem _ hp))
  have nt : ∀ b u, H b = some u → b ≠ S := fun b u q hb => by rw [hb, hS0] at q; cases q
  obtain ⟨_, z1, z2, z3, z4⟩ := z
  obtain ⟨ob', eS', r'⟩ := z4 ys ob r eS
  obtain ⟨hh, g, d, t, o⟩ := s'
  have ho : o = s.os := z1
  subst ho
  have nc : ∀ b, b ∉ [S] → b ≠ S := fun b hb e => hb (by rw [e]; exact List.mem_singleton.mpr rfl)
  have J : Inv X ip σ H { s with heap := hh, gens := g, drawn := d, toks := t } := by
    refine I0.step (g' := g) (t' := t) (d' := d) (ch := [S]) (fun b hb => ?_)
      (fun b ob _ _ hc q _ => z3 b ob (nc b hc) q) (fun b ob _ _ hc q _ => ⟨ob.slots, z3 b ob (nc b hc) q⟩) (fun _ _ _ _ n => n) (fun b ob hc q => ⟨ob, z3 b ob (nc b hc) q⟩)
      (fun _ _ q => q) (fun _ _ _ q => q) (fun b ps q => ⟨#[], by rw [q]; simp⟩) (fun m hm => ?_) (fun b u q => ?_) z2
    · rw [List.mem_singleton.mp hb]
      refine ⟨.inr hA.1, hA.2.1, hA.2.2, fun p hp => ?_⟩
      rcases List.mem_append.mp hp with hp | hp
      · exact hpn p hp
      · exact hip p hp
    · obtain ⟨ob, es, ep, ho, r⟩ := hm
      exact ⟨ob, es, ep, z3 _ ob (Ne.symm hSL) ho, r⟩
    · refine (I0.hok b u q).stay (fun c v hc y => z3 c v ?_ y) (fun _ y => y) fun _ _ y => y
      rcases hc with y | y
      · rw [y]; exact nt b u q
      · exact nt c _ y
  refine ⟨ob', r', J.pins_of fun p hp => ?_⟩
  rcases List.mem_cons.mp hp with hp | hp
  · rw [hp]
    exact ⟨eS', hS0, hSL, hSf, hRS _ _ r'⟩
  · exact J.pin p (List.mem_append_right _ hp)
/-! ### the turns -/
/-- what a turn of the generator does: Pf what is out is known of by the consumer as it goes on, Pd at the end -/
def GW (J : It) (g : TG) (tt : TT) (te : TE) (vs : List Nat) (σ : L2.St) (Cy : V → Prop) (Py : List V → V → Hp → Prop) (Pd : List V → Hp → Prop) (W : Nat → Nat → List V → Hp → Prop) : Prop :=
  ∀ i m ys H, W i m ys H → (J.stop i H ∧ Pd ys H) ∨ (J.go i H ∧ ∃ Nx : List V → Hp → Prop, (∀ ys' H', Nx ys' H' → ∃ m', m' < m ∧ W (i + 1) m' ys' H') ∧ ∀ x H', J.yld i H x H' → g x (wipe σ vs) H' fun σ2 H2 => wipe σ2 vs = wipe σ vs ∧ tt σ2 H2 fun b H3 =>
    if b = true then te σ2 H3 fun y H4 => ys.length < sizeLine ∧ Py ys y H4 ∧ (Cy y → Nx (ys ++ [y]) H4) else Nx ys H3)
abbrev gexp (elt tg iter : Expr) (ifs : List Expr) (scope : Scope) (pos : Pos) : Expr := .GeneratorExp elt [⟨tg, iter, ifs, 0⟩] scope pos
abbrev gexN (elt tg iter : Expr) (ifs : List Expr) (rest : List Comprehension) (scope : Scope) (pos : Pos) : Expr := .GeneratorExp elt (⟨tg, iter, ifs, 0⟩ :: rest) scope pos
theorem over_gen {A : Around} {elt tg iter : Expr} {ifs : List Expr} {rest : List Comprehension} {scope : Scope} {pos : Pos} {it : Value} {ce : Env} : A.over (.compLoop (gexN elt tg iter ifs rest scope pos) 0 it .none ce) [] = A.deeper ce := by
  first
    | rfl
    | (obtain ⟨hd, d, fr, gs, u⟩ := A; simp [Around.over, Around.deeper, marksOver, frameCount, unitsOf, envsOf, guardsOf, pushEnvs, pushGuards, Code.envs, Code.env?, Code.isFrame, Code.guards, Code.isGuard, Code.weight, Code.frames, Code.isCreation, Code.isCaller, Code.cUnits])
section
variable {X : Cx} {S : Addr} {RS : OwnR} {s3 : Shared} {H3 : Hp} {ce : Env} {fp : List Addr} {pn : List (Addr × Obj)} {Aw : Around} {elt tg iter : Expr} {ifs : List Expr} {scope : Scope} {pos : Pos} {it : Addr} {tn : Nat → Heap → Prop} {J : It} {g : TG} {tt : TT} {te : TE} {vs : List Nat} {σ : L2.St}
  {Cy : V → Prop} {Py : List V → V → Hp → Prop} {Pd : List V → Hp → Prop} {W : Nat → Nat → List V → Hp → Prop} {R : GenEnd} {YP : Protocol}
theorem seg_gx (hc : X.calm = true) (hco : ce.scope.isCoroutine = false) (T : Turn X.prog X.w X.K tg J fp it tn) (pg : PG (gxOf X (Aw.deeper ce) s3 H3 ce fp pn) tg g) (pt : PTs (gxOf X (Aw.deeper ce) s3 H3 ce fp pn) ifs tt) (pe : PE (gxOf X (Aw.deeper ce) s3 H3 ce fp pn) elt te)
    (hturn : GW J g tt te vs σ Cy Py Pd W) (hRS : ∀ ys o, RS ys o → ∀ v, o.data ≠ .cell v) (hpn : ∀ p ∈ pn, p.1 ≠ S ∧ ∀ b ∈ fp, p.1 ≠ b) (hS : ∀ b ∈ fp, b ≠ S) (hA : Apart (gxOf X (Aw.deeper ce) s3 H3 ce fp pn) S)
    (hR : ∀ n s₀ ys ip σ' H' s', n + ys.length = sizeLine → GIR (gxOf X (Aw.deeper ce) s3 H3 ce fp pn) S RS ip ys σ' H' s' → Pd ys H' → R n s₀ (.ok .next) s')
    (hY : ∀ n s₀ ys y v ip σ' H' s' kap, n + 1 + ys.length = sizeLine → RelV y v → GIR (gxOf X (Aw.deeper ce) s3 H3 ce fp pn) S RS ip ys σ' H' s' → Py ys y H' → (∀ s'', SleptR S RS Cy y s' s'' → kap (.send .none) s'') → YP n s₀ v s' kap) :
    ∀ (m i n : Nat) (ys : List V) (s₀ s : Shared) (H : Hp), n + ys.length = sizeLine → W i m ys H → tn i s.heap → (∀ b ∈ fp, H b = none) → GIR (gxOf X (Aw.deeper ce) s3 H3 ce fp pn) S RS [] ys (wipe σ vs) H s →
      Seg (model X.prog X.w) Aw R YP n s₀ (.compLoop (gexp elt tg iter ifs scope pos) 0 (.ref it) .none ce) ((model X.prog X.w).den (.compLoop (gexp elt tg iter ifs scope pos) 0 (.ref it) .none ce)) [] s := by
  intro m
  induction m using Nat.strongRecOn with
  | ind m ih =>
    intro i n ys s₀ s H hn w5 st5 n5 hG
    obtain ⟨ob, rs, I5⟩ := hG
    have stat : ∀ {σ' : L2.St} {H' : Hp} {s' : Shared} {o' : Obj}, Inv (gxOf X (Aw.deeper ce) s3 H3 ce fp pn) [(S, o')] σ' H' s' → (∀ b ∈ fp, H' b = none) → ∀ b ∈ fp, FpOk (gxOf X (Aw.deeper ce) s3 H3 ce fp pn) [(S, o')] H' b := fun {σ' H' s' o'} I' hn b hb =>
      ⟨hn b hb, (I'.ok.exf b hb).1, I'.ok.exfs b hb, .inl hb, fun x c e => (I'.ok.exf b hb).2 x c e, fun p hp => by
        rcases List.mem_append.mp hp with z | z
        · exact (hpn p z).2 b hb
        · rw [List.mem_singleton.mp z]
          exact Ne.symm (hS b hb)⟩
    show Seg _ Aw _ _ _ s₀ _ ((compTurn (gexp elt tg iter ifs scope pos) 0 (.ref it) .none ce).onRaise (leaving ce)) [] s
    rw [compTurn_gen, Sem.onRaise_eq_wrap]
    refine seg_bind_wrap (wpAny_standAt ?_)
    rcases hturn i m ys H w5 with ⟨stop, qq⟩ | ⟨go, Nx, hNx, step⟩
    · refine seg_bind_wrap ?_
      rw [over_gen]
      have td := T.done (gxOf X (Aw.deeper ce) s3 H3 ce fp pn) rfl rfl rfl hc i _ s _ H (fun _ _ => False) I5 (stat I5 n5) st5 stop
      refine thnF td fun r s6 ⟨hr, I6⟩ => ?_
      subst hr
      exact seg_end (.ok .next) (hR n s₀ ys [] _ H s6 hn ⟨ob, rs, I6⟩ qq)
    · refine seg_bind_wrap ?_
      rw [over_gen]
      have ti := T.item (gxOf X (Aw.deeper ce) s3 H3 ce fp pn) rfl rfl rfl hc i _ s _ H (fun _ _ => False) I5 (stat I5 n5) st5 go
      refine thnF ti fun r s6 ⟨u, hr, h6⟩ => ?_
      subst hr
      refine seg_bind_wrap ?_
      rw [over_gen]
      refine thnF h6 fun _ s7 ⟨x, H7, I7, r7, y7, st7, n7⟩ => ?_
      have I7' := I7.pinned (stat I7 n7) (T.obj _ _ st7)
      refine seg_bind_wrap ?_
      rw [over_gen]
      refine thnF (pg.run _ s7 _ H7 x u _ I7' r7 (step x H7 y7)) fun _ s8 ⟨σ8, H8, I8, hw8, q8⟩ => ?_
      refine seg_bind_wrap ?_
      rw [over_gen]
      refine thnF (pt.run _ s8 σ8 H8 _ I8 q8) fun b s9 ⟨H9, I9, q9⟩ => ?_
      have fin : ∀ {s₀ s' : Shared} {H' : Hp} {o' : Obj} {ys' : List V} {n' : Nat}, n' + ys'.length = sizeLine → RS ys' o' → Inv (gxOf X (Aw.deeper ce) s3 H3 ce fp pn) ([(S, o')] ++ pinsAt fp s7.heap) σ8 H' s' → Nx ys' H' →
          Seg (model X.prog X.w) Aw R YP n' s₀ (.compLoop (gexp elt tg iter ifs scope pos) 0 (.ref it) .none ce) ((model X.prog X.w).den (.compLoop (gexp elt tg iter ifs scope pos) 0 (.ref it) .none ce)) [] s' := fun {s₀ s' H' o' ys' n'} hn' rs' I' nx => by
        obtain ⟨m', hm, w'⟩ := hNx ys' H' nx
        have pin' : ∀ b ∈ fp, ∀ o, s7.heap.get? b = some o → s'.heap.get? b = some o ∧ H' b = none := fun b hb o e =>
          let z := I'.pin (b, o) (List.mem_append_right _ (List.mem_append_right _ (mem_pinsAt hb e)))
          ⟨z.1, z.2.1⟩
        have hl : (wipe σ vs).length = σ8.length := by rw [← hw8, wipe_length]
        refine ih m' hm (i + 1) n' ys' s₀ s' H' hn' w' (T.keep _ _ _ st7 fun b hb o e => (pin' b hb o e).1) (fun b hb => ?_) ⟨o', rs', (I'.unpinned (pins := [(S, o')])).weak hl (fun j v e => ?_)⟩
        · obtain ⟨o, e, _⟩ := T.obj _ _ st7 b hb
          exact (pin' b hb o e).2
        · rw [← hw8] at e
          exact (wipe_some e).1
      cases b with
      | false =>
        simp only [Bool.false_eq_true, if_false] at q9 ⊢
        exact seg_again rfl (fin hn rs I9 q9)
      | true =>
        simp only [if_true] at q9 ⊢
        have hy : ∀ v, yieldOut ce v = yieldValue v := fun v => by simp only [yieldOut, hco, Bool.false_eq_true, if_false]
        simp only [hy]
        rw [Sem.bind_eq_wrap', Sem.bind_eq_wrap', Sem.wrap_wrap, Sem.wrap_wrap]
        refine seg_wrap ?_
        rw [over_gen]
        refine thnF (pe.run _ s9 σ8 H9 _ I9 q9) fun z s10 ⟨yv, H10, I10, r10, hlt, py, nx⟩ => ?_
        obtain ⟨n, rfl⟩ : ∃ k, n = k + 1 := ⟨n - 1, by omega⟩
        have G10 : GIR (gxOf X (Aw.deeper ce) s3 H3 ce fp pn) S RS (pinsAt fp s7.heap) ys σ8 H10 s10 := ⟨ob, rs, I10⟩
        refine seg_at (seg_yield rfl rfl rfl (hY n s₀ ys yv z _ σ8 H10 s10 _ hn r10 G10 py fun s'' zz => ?_))
        obtain ⟨o', rs', I''⟩ := G10.woken hRS (fun p hp => (hpn p hp).1) (fun p hp => hS _ (of_pinsAt hp).1) hA zz
        refine seg_again rfl (fin (by rw [List.length_append, List.length_singleton]; omega) rs' I'' (nx zz.go))
end
end Ph
namespace Ph
open PySem PySem.Spec PyProof.Rows L2 GenW
/-- the end, as the frame that made it sees it -/
def REG (X : Cx) (pins : List (Addr × Obj)) (σ : L2.St) (S a : Addr) (gi : Nat) (RS : OwnR) (Pd : List V → Hp → Prop) : GenEnd := fun n s₀ r s1 =>
  r = .ok .next ∧ ∃ ys H' o, n + ys.length = sizeLine ∧ Inv X pins σ H' s1 ∧ s1.heap.get? S = some o ∧ RS ys o ∧ H' S = none ∧ s1.heap.IsGen a gi ∧ Pd ys H'
/-- an item is handed out -/
def YEG (X : Cx) (pins : List (Addr × Obj)) (σ : L2.St) (S a : Addr) (gi : Nat) (RS : OwnR) (Cy : V → Prop) (Py : List V → V → Hp → Prop) : Protocol := fun n s₀ v s1 kap =>
  ∃ ys y H' o, n + 1 + ys.length = sizeLine ∧ RelV y v ∧ Inv X pins σ H' s1 ∧ s1.heap.get? S = some o ∧ RS ys o ∧ H' S = none ∧ s1.heap.IsGen a gi ∧ Py ys y H' ∧ ∀ s', SleptR S RS Cy y s1 s' → kap (.send .none) s'
/-- a generator that has not begun -/
def MadeX (X : Cx) (k : Nat) (pins : List (Addr × Obj)) (σ : L2.St) (Cy : V → Prop) (Py : List V → V → Hp → Prop) (Pd : List V → Hp → Prop) (u : Value) (s' : Shared) : Prop :=
  ∃ (a : Addr) (gi : Nat) (c : Code) (go : Obj) (H' : Hp), u = .ref a ∧ Inv X pins σ H' s' ∧ s'.heap.get? a = some go ∧ (∀ h : Heap, h.get? a = some go → h.IsGen a gi) ∧ (∀ v, go.data ≠ .cell v) ∧ s'.gens[gi]? = some (.fresh c) ∧ H' a = none ∧
    ∀ (A : Around) (S : Addr) (RS : OwnR) (s2 : Shared) (o : Obj), Room k A → A.frames = some X.stack → ((S = a ∧ ∀ ys o, RS ys o → o = go) ∨ s'.heap.objs.size ≤ S) → (∀ ys o, RS ys o → ∀ v, o.data ≠ .cell v) → (∀ b o, s'.heap.get? b = some o → s2.heap.get? b = some o) →
      s2.heap.get? S = some o → RS [] o → s2.os = s'.os → AllBare s2.gens →
      Seg (model X.prog X.w) A (REG X pins σ S a gi RS Pd) (YEG X pins σ S a gi RS Cy Py) sizeLine s2 c ((model X.prog X.w).den c) [] s2
/-- the names of a generator expression's block -/
structure GenSX (sc : Scope) : Prop where
  co : sc.isCoroutine = false
  cell : ∀ y ∈ sc.names, y.2 ≠ .cell
  dot : sc.names.lookup (".0" : Str) = some NameKind.local
def tGenX (P : Addr) (wi : TI) (g : TG) (tt : TT) (te : TE) (vs : List Nat) (Cy : V → Prop) (Py : List V → V → Hp → Prop) (Pd : List V → Hp → Prop) (σ : L2.St) (H : Hp) : Prop :=
  wi σ H fun J H1 => GxR.TabG H1 P ∧ ∀ H2, GxR.Tabbed P H1 H2 → ∃ W : Nat → Nat → List V → Hp → Prop, (∃ m, W 0 m [] H2) ∧ GW J g tt te vs σ Cy Py Pd W
theorem eval_GeneratorExpN (elt target iter : Expr) (ifs : List Expr) (rest : List Comprehension) (scope : Scope) (pos : Pos) (env : Env) (hco : scope.isCoroutine = false) :
    eval (.GeneratorExp elt (⟨target, iter, ifs, 0⟩ :: rest) scope pos) env = (do
      let x ← eval iter env
      standAt iter.pos
      let x ← genFold iter env x
      let it ← holding [x] (pyIter x)
      enterFrame
      let cl ← closureFor scope env
      let code ← genexprCode env pos (env.qual ++ "<genexpr>") scope
      let bi ← builtinsFor env.globals env.builtins
      let cenv ← newFunctionEnv scope env.globals cl [(".0", it)] (env.qual ++ "<genexpr>.") none code none bi
      newGenerator (.compStart (.GeneratorExp elt (⟨target, iter, ifs, 0⟩ :: rest) scope pos) 0 it .none cenv) "<genexpr>" (env.qual ++ "<genexpr>")) := by
  rw [arm_eval_GeneratorExp]
  simp only [hco, Bool.false_eq_true, if_false]
  cases iter <;> rfl
theorem wpAny_GeneratorExp_makeN {M : Model} {A : Around} {E : Value → Shared → Prop} {s : Shared} {env : Env} {elt target iter : Expr} {ifs : List Expr} {rest : List Comprehension} {scope : Scope} {cl : List (Str × Addr)} {pos : Pos} {Q : Value → Shared → Prop}
    (hco : scope.isCoroutine = false) (hclos : closureFor scope env = pure cl) (hcell : ∀ y ∈ scope.names, y.2 ≠ .cell) (h0 : scope.names.lookup (".0" : Str) = some NameKind.local) (hkind : scope.kind = .function)
    (hroom : A.depth < recursionLimit)
    (h : wpAny M A (eval iter env) (fun xv s₁ => wpAny M A (pyIter xv) (fun it s₂ => s₂.heap.NoLimit ∧
      wpAny M A (genexprCode env pos (env.qual ++ "<genexpr>") scope) (fun code s₃ => wpAny M A (builtinsFor env.globals env.builtins) (fun bi s₄ =>
        ∀ h', h'.Ns s₄.heap.objs.size (fun y => if y = ".0" then some it else none) → Heap.SameBut s₄.heap.objs.size (s₄.heap.push { cls := .type "frame", data := .dict #[] }) h' →
          Q (.ref h'.objs.size) { s₄ with
            gens := s₄.gens.push (.fresh (.compStart (.GeneratorExp elt (⟨target, iter, ifs, 0⟩ :: rest) scope pos) 0 it .none (genEnv scope cl s₄.heap.objs.size code bi env))),
            toks := s₄.toks + 1 + 1 + 1,
            heap := h'.push { cls := .type "generator", data := .fields #[.int s₄.gens.size 0, .str "<genexpr>" (s₄.toks + 1), .str (env.qual ++ "<genexpr>") (s₄.toks + 1 + 1)] } }) E s₃) E s₂) E s₁) E s)
    (hs : ∀ x, genFold iter env x = pure x) :
    wpAny M A (eval (.GeneratorExp elt (⟨target, iter, ifs, 0⟩ :: rest) scope pos) env) Q E s := by
  rw [eval_GeneratorExpN _ _ _ _ _ _ _ _ hco, hclos]
  refine wpAny_bind (wpAny_mono h (fun xv s₁ h₁ => ?_) fun _ _ e => e)
  refine wpAny_bind (wpAny_standAt ?_)
  refine wpAny_bind (wpAny_of_eq (hs xv) ?_)
  refine wpAny_bind (wpAny_holding (wpAny_mono h₁ (fun it s₂ h₂ => ?_) fun _ _ e => e))
  refine wpAny_bind (wpAny_enterFrame h₂.1 hroom ?_)
  refine wpAny_bind (wpAny_pure ?_)
  refine wpAny_bind (wpAny_mono h₂.2 (fun code s₃ h₃ => ?_) fun _ _ e => e)
  refine wpAny_bind (wpAny_mono h₃ (fun bi s₄ h₄ => ?_) fun _ _ e => e)
  have hbinds : ∀ y ∈ ([((".0" : Str), it)] : List (Str × Value)), scope.names.lookup y.1 = some NameKind.local := by
    intro y hy
    rcases List.mem_cons.mp hy with rfl | hy
    · exact h0
    · cases hy
  refine wpAny_bind (wpAny_newFunctionEnv hcell hbinds (fun h' hn' hs' => ?_) hkind)
  have e : (fun y : Str => ([((".0" : Str), it)] : List (Str × Value)).reverse.lookup y) = fun y : Str => if y = (".0" : Str) then some it else none := by
    funext y
    by_cases hy : y = ".0"
    · subst hy; simp
    · have : (y == (".0" : Str)) = false := by simpa using hy
      simp [List.lookup, this, hy]
  rw [e] at hn'
  simp only [newGenerator, newFields]
  refine wpAny_bind (wpAny_newGen (wpAny_bind (wpAny_mkText (wpAny_bind (wpAny_mkText (wpAny_newObj_type ?_ (by size_fits)))))))
  exact h₄ h' hn' hs'
/-- the loop of a generator's block, from its first turn: Gj what is known of its iterator -/
def LoopX (X : Cx) (k : Nat) (σ : L2.St) (elt tg iter : Expr) (ifs : List Expr) (rest : List Comprehension) (scope : Scope) (gpos : Pos) (vs : List Nat) (Gj : It → Hp → Prop) (Cy : V → Prop) (Py : List V → V → Hp → Prop) (Pd : List V → Hp → Prop) : Prop :=
  ∀ (Aw : Around) (S : Addr) (RS : OwnR) (s3 : Shared) (H3 : Hp) (C : Addr) (code : Value) (fp : List Addr) (pn : List (Addr × Obj)) (it : Addr) (tn : Nat → Heap → Prop) (J : It) (R : GenEnd) (YP : Protocol), Room k (Aw.deeper (gxEnv X scope C code)) → Turn X.prog X.w X.K tg J fp it tn →
    (∀ ys o, RS ys o → ∀ v, o.data ≠ .cell v) → (∀ p ∈ pn, p.1 ≠ S ∧ ∀ b ∈ fp, p.1 ≠ b) → (∀ b ∈ fp, b ≠ S) → Apart (gxOf X (Aw.deeper (gxEnv X scope C code)) s3 H3 (gxEnv X scope C code) fp pn) S →
    (∀ n s₀ ys ip σ' H' s', n + ys.length = sizeLine → GIR (gxOf X (Aw.deeper (gxEnv X scope C code)) s3 H3 (gxEnv X scope C code) fp pn) S RS ip ys σ' H' s' → Pd ys H' → R n s₀ (.ok .next) s') →
    (∀ n s₀ ys y v ip σ' H' s' kap, n + 1 + ys.length = sizeLine → RelV y v → GIR (gxOf X (Aw.deeper (gxEnv X scope C code)) s3 H3 (gxEnv X scope C code) fp pn) S RS ip ys σ' H' s' → Py ys y H' → (∀ s'', SleptR S RS Cy y s' s'' → kap (.send .none) s'') → YP n s₀ v s' kap) →
    ∀ (s₀ s : Shared) (H : Hp), Gj J H → tn 0 s.heap → (∀ b ∈ fp, H b = none) → GIR (gxOf X (Aw.deeper (gxEnv X scope C code)) s3 H3 (gxEnv X scope C code) fp pn) S RS [] [] (wipe σ vs) H s →
      Seg (model X.prog X.w) Aw R YP sizeLine s₀ (.compLoop (gexN elt tg iter ifs rest scope gpos) 0 (.ref it) .none (gxEnv X scope C code)) ((model X.prog X.w).den (.compLoop (gexN elt tg iter ifs rest scope gpos) 0 (.ref it) .none (gxEnv X scope C code))) [] s
section
variable {X : Cx} {pins : List (Addr × Obj)} {σ : L2.St} {H : Hp} {s : Shared}
theorem gen_madeN {c P : Addr} {elt tg iter : Expr} {ifs : List Expr} {rest : List Comprehension} {scope : Scope} {own : List (Str × Nat)} {gpos : Pos} {wi : TI} {Gj : It → Hp → Prop} {k : Nat} {Cy : V → Prop} {Py : List V → V → Hp → Prop} {Pd : List V → Hp → Prop} {Qz : Value → Shared → Prop}
    (hr : Room k X.A) (hN : X.N.Nodup) (TB : GxR.TabB X.base X.mg c P) (hcode : X.env.code = .ref c) (S : GenSX scope) (hi : PI X tg iter wi) (ok : BlkOk X.N X.env.scope scope own)
    (hl : LoopX X k σ elt tg iter ifs rest scope gpos (own.map (·.2)) Gj Cy Py Pd)
    (hs : ∀ v, genFold iter X.env v = pure v) (I : Inv X pins σ H s) (h : wi σ H fun J H1 => GxR.TabG H1 P ∧ ∀ H2, GxR.Tabbed P H1 H2 → Gj J H2)
    (hQ : ∀ u z, MadeX X (k + 1) pins σ Cy Py Pd u z → Qz u z) :
    wpAny (model X.prog X.w) X.A (eval (gexN elt tg iter ifs rest scope gpos) X.env) Qz X.xe s := by
  have hfree : ∀ y ∈ scope.names, y.2 = .free → ∃ c, X.env.cells.lookup y.1 = some c := fun y hy e => by
    rcases ok.free y hy e with k | k
    · exact I.ok.has _ (.inl k)
    · exact I.ok.has _ (.inr k)
  refine wpAny_GeneratorExp_makeN S.co (closure_ok hfree) S.cell S.dot ok.kind (by have := hr.dp; omega) ?_ hs
  refine thn (hi.run pins s σ H _ I h) fun xv s1 hx => thn hx fun itv s2 h2 => ?_
  obtain ⟨it, fp, tn, J, H2, rfl, I2, T, st2, f2, ⟨tb, hP, ht0⟩, q⟩ := h2
  have hPs : s2.heap.get? P = some { cls := .none, data := .fields tb } := I2.hok P _ hP
  have hPlt : P < s2.heap.objs.size := Heap.lt_size hPs
  have cd : PySem.W.CodeHd s2.heap c P := TB.code.keeps fun b u e => I2.bk b u e
  have lim2 : s2.heap.NoLimit := I2.nolimit
  have cont : ∀ (code : Value) (h3 : Heap) (tk : Nat) (tb2 : Array Value), Heap.ExtBut P s2.heap h3 → s2.heap.objs.size ≤ h3.objs.size → h3.get? P = some { cls := .none, data := .fields tb2 } → (∃ more, tb2 = tb ++ more) → TriplesOk tb2.toList →
      wpAny (model X.prog X.w) X.A (builtinsFor X.env.globals X.env.builtins) (fun bi s₄ =>
        ∀ h', h'.Ns s₄.heap.objs.size (fun y => if y = ".0" then some (.ref it) else none) → Heap.SameBut s₄.heap.objs.size (s₄.heap.push { cls := .type "frame", data := .dict #[] }) h' →
          Qz (.ref h'.objs.size) { s₄ with
            gens := s₄.gens.push (.fresh (.compStart (gexN elt tg iter ifs rest scope gpos) 0 (.ref it) .none (genEnv scope (cloFrom X.env.cells scope.names []) s₄.heap.objs.size code bi X.env))),
            toks := s₄.toks + 1 + 1 + 1,
            heap := h'.push { cls := .type "generator", data := .fields #[.int s₄.gens.size 0, .str "<genexpr>" (s₄.toks + 1), .str (X.env.qual ++ "<genexpr>") (s₄.toks + 1 + 1)] } }) X.xe { s2 with heap := h3, toks := tk } := by
    intro code h3 tk tb2 hx hsz hP3 hmore ht3
    obtain ⟨more, em⟩ := hmore
    obtain ⟨bm, ob, e1, e2, e3, e4, e5, e6, e7, e8⟩ := TB.bm
    have ns3 : h3.Ns mainGlobals X.mg := (I2.mod.glob.keeps I2.bk).extBut hx TB.gP
    refine wpAny_builtinsFor (m := X.mg) (by rw [I2.ok.glob]; exact ns3) e1 e2 (hx _ _ e4 (I2.bk _ _ e5)) e6 e7 e8 ?_
    have I3 : Inv X pins σ (upd H2 P (.tbl (tb ++ more))) { s2 with heap := h3, toks := tk } :=
      GxR.inv_tab (more := more) (h' := h3) (g' := s2.gens) (d' := s2.drawn) (t' := tk) I2 hP (fun b u hb e => hx b u hb e) (by rw [← em]; exact hP3) I2.bare
    have hT : GxR.Tabbed P H2 (upd H2 P (.tbl (tb ++ more))) := ⟨⟨tb ++ more, upd_same, by rw [← em]; exact ht3⟩, fun b hb => upd_ne hb⟩
    have w0 := q _ hT
    have hfpP : ∀ b ∈ fp, b ≠ P := fun b hb z => by
      have := (f2 b hb).1
      rw [z, hP] at this; cases this
    have st3 : tn 0 h3 := T.keep _ _ _ st2 fun b hb o e => hx b o (hfpP b hb) e
    have f3 : ∀ b ∈ fp, FpOk X pins (upd H2 P (.tbl (tb ++ more))) b ∧ b < h3.objs.size := fun b hb => by
      obtain ⟨o, e, _⟩ := T.obj _ _ st2 b hb
      exact ⟨⟨by rw [upd_ne (hfpP b hb)]; exact (f2 b hb).1, (f2 b hb).2⟩, Nat.lt_of_lt_of_le (Heap.lt_size e) hsz⟩
    generalize hs3 : ({ s2 with heap := h3, toks := tk } : Shared) = s3 at I3
    generalize hH3 : upd H2 P (.tbl (tb ++ more)) = H3 at I3 w0 f3
    have eh : s3.heap = h3 := by rw [← hs3]
    rw [← eh] at st3 f3
    intro h' hn' hs'
    have keep' : ∀ b o, s3.heap.get? b = some o → h'.get? b = some o := fun b o e => hs'.extBut b o (Nat.ne_of_lt (Heap.lt_size e)) (Heap.get?_push_of_some _ e)
    have sz' : h'.objs.size = s3.heap.objs.size + 1 := by rw [hs'.1, Heap.size_push]
    have main : ∀ (go : Obj) (tk2 : Nat), (∀ h : Heap, h.get? h'.objs.size = some go → h.IsGen h'.objs.size s3.gens.size) → (∀ v, go.data ≠ .cell v) → (h'.push go).get? h'.objs.size = some go →
        Qz (.ref h'.objs.size) { s3 with gens := s3.gens.push (.fresh (.compStart (gexN elt tg iter ifs rest scope gpos) 0 (.ref it) .none (gxEnv X scope s3.heap.objs.size code))), toks := tk2, heap := h'.push go } := by
      intro go tk2 hgen hcell hpushed
      have keep5 : ∀ b o, s3.heap.get? b = some o → (h'.push go).get? b = some o := fun b o e => Heap.get?_push_of_some _ (keep' b o e)
      have I5 : Inv X pins σ H3 { s3 with gens := s3.gens.push (.fresh (.compStart (gexN elt tg iter ifs rest scope gpos) 0 (.ref it) .none (gxEnv X scope s3.heap.objs.size code))), toks := tk2, heap := h'.push go } :=
        I3.call' (ch := []) rfl (Un.kept keep5) (I3.hok.kept keep5) (AllBare.push I3.bare rfl) fun b z => by simp at z
      have young : ∀ b, s3.heap.objs.size < b → H3 b = none ∧ b ≠ s3.heap.objs.size ∧ b ∉ frs X.stack := fun b hb => ⟨I3.hok.fresh (Nat.le_of_lt hb), Nat.ne_of_gt hb, fun z => by
        rcases List.mem_cons.mp (I3.stkSub b z) with z | z
        · rw [z] at hb
          exact absurd (Nat.lt_trans hb I3.lt) (Nat.lt_irrefl _)
        · exact I3.nofs (Nat.le_of_lt hb) z⟩
      have hza : s3.heap.objs.size < h'.objs.size := by rw [sz']; exact Nat.lt_succ_self _
      refine hQ _ _ ⟨h'.objs.size, s3.gens.size, _, go, H3, rfl, I5, hpushed, hgen, hcell, Array.getElem?_push_size .., (young _ hza).1, ?_⟩
      intro A Sx RS sw o hrA hfrA hSx hRS hkw hSo hRS0 hosw hbw
      have hkw3 : ∀ b o, s3.heap.get? b = some o → sw.heap.get? b = some o := fun b o e => hkw b o (keep5 b o e)
      have hSy : s3.heap.objs.size < Sx := by
        rcases hSx with ⟨z, _⟩ | z
        · rw [z]; exact hza
        · have z : (h'.push go).objs.size ≤ Sx := z
          rw [Heap.size_push] at z
          omega
      have I6 := gx_start (s := s3) (s2 := sw) (A := A.deeper (gxEnv X scope s3.heap.objs.size code)) (code := code) (m0 := fun y => if y = ".0" then some (.ref it) else none) I3 ok S.cell hN f3 hrA.hd (by show (A.frames.map _) = _; rw [hfrA]; rfl)
        ((hn'.push go).keeps hkw) hkw3 hosw hbw
      have hcell' : ∀ v, o.data ≠ .cell v := hRS _ _ hRS0
      have hea : sw.heap.get? h'.objs.size = some go := hkw _ go hpushed
      -- what is pinned beside the consumer's object
      obtain ⟨pn, hpn1, hpn2, hgp⟩ : ∃ pn : List (Addr × Obj), (∀ p ∈ pn, p = (h'.objs.size, go)) ∧ (∀ p ∈ pn, p.1 ≠ Sx) ∧
          (∀ {ip : List (Addr × Obj)} {ys : List V} {s' : Shared} {σ' : L2.St} {H' : Hp}, GIR (gxOf X (A.deeper (gxEnv X scope s3.heap.objs.size code)) s3 H3 (gxEnv X scope s3.heap.objs.size code) fp pn) Sx RS ip ys σ' H' s' → s'.heap.IsGen h'.objs.size s3.gens.size) := by
        rcases hSx with ⟨z, hz⟩ | z
        · refine ⟨[], fun p hp => absurd hp (by simp), fun p hp => absurd hp (by simp), fun {ip ys s' σ' H'} hI => ?_⟩
          obtain ⟨o', r', J'⟩ := hI
          have e := (J'.pin (Sx, o') (List.mem_append_right _ List.mem_cons_self)).1
          rw [hz _ _ r', z] at e
          exact hgen _ e
        · refine ⟨[(h'.objs.size, go)], fun p hp => List.mem_singleton.mp hp, fun p hp => ?_, fun {ip ys s' σ' H'} hI => ?_⟩
          · rw [List.mem_singleton.mp hp]
            have z : (h'.push go).objs.size ≤ Sx := z
            rw [Heap.size_push] at z
            exact Nat.ne_of_lt z
          · obtain ⟨o', r', J'⟩ := hI
            exact hgen _ (J'.pin (h'.objs.size, go) (List.mem_append_left _ (List.mem_singleton.mpr rfl))).1
      have hG : GIR (gxOf X (A.deeper (gxEnv X scope s3.heap.objs.size code)) s3 H3 (gxEnv X scope s3.heap.objs.size code) fp pn) Sx RS [] [] (wipe σ (own.map (·.2))) H3 sw := by
        refine ⟨o, hRS0, gx_pinned I6 fun p hp => ?_⟩
        rcases List.mem_append.mp hp with z | z
        · rw [hpn1 p z]
          obtain ⟨y1, y2, y3⟩ := young _ hza
          exact ⟨hea, y1, y2, y3, hcell⟩
        · rw [List.mem_singleton.mp z]
          obtain ⟨y1, y2, y3⟩ := young _ hSy
          exact ⟨hSo, y1, y2, y3, hcell'⟩
      have hAp : Apart (gxOf X (A.deeper (gxEnv X scope s3.heap.objs.size code)) s3 H3 (gxEnv X scope s3.heap.objs.size code) fp pn) Sx :=
        ⟨Nat.le_of_lt hSy, (young _ hSy).2.1, fun x cc e z => by
          obtain ⟨v, ob, ho, _⟩ := I6.cell x cc e
          have hl : ∃ v, s3.heap.IsCell cc v := by
            have e : (cloFrom X.env.cells scope.names []).lookup x = some cc := e
            rcases cloFrom_mem (PySem.mem_of_lookup e) with hm | ⟨h1, h2⟩
            · cases hm
            · obtain ⟨c2, hc2⟩ := hfree _ h1 rfl
              have hc2 : X.env.cells.lookup x = some c2 := hc2
              rw [hc2] at h2
              have h2 : cc = c2 := h2
              rw [h2]
              exact I3.cell _ _ hc2
          obtain ⟨v2, z2⟩ := hl
          have := z2.lt
          rw [z] at this
          exact absurd (Nat.lt_trans this hSy) (Nat.lt_irrefl _)⟩
      have back : ∀ {ip : List (Addr × Obj)} {ys : List V} {s' : Shared} {σ' : L2.St} {H' : Hp}, GIR (gxOf X (A.deeper (gxEnv X scope s3.heap.objs.size code)) s3 H3 (gxEnv X scope s3.heap.objs.size code) fp pn) Sx RS ip ys σ' H' s' →
          ∃ o, Inv X pins σ H' s' ∧ s'.heap.get? Sx = some o ∧ RS ys o ∧ H' Sx = none := fun {ip ys s' σ' H'} hI => by
        obtain ⟨o', r', J'⟩ := hI
        obtain ⟨p1, p2, _⟩ := J'.pin (Sx, o') (List.mem_append_right _ List.mem_cons_self)
        exact ⟨o', I3.call' (ch := fp) J'.os J'.base J'.hok J'.bare fun b hb => ⟨(f3 b hb).1.2.2.2.1, (f3 b hb).1.2.1, (f3 b hb).1.2.2.2.2.1, (f3 b hb).1.2.2.2.2.2⟩, p1, r', p2⟩
      have hfa : ∀ b ∈ fp, b ≠ h'.objs.size := fun b hb => Nat.ne_of_lt (Nat.lt_trans (f3 b hb).2 hza)
      have rd : Room k (A.deeper (gxEnv X scope s3.heap.objs.size code)) := hrA.deeper _
      have loop : ∀ s₀, Seg (model X.prog X.w) A (REG X pins σ Sx h'.objs.size s3.gens.size RS Pd) (YEG X pins σ Sx h'.objs.size s3.gens.size RS Cy Py) sizeLine s₀ (.compLoop (gexN elt tg iter ifs rest scope gpos) 0 (.ref it) .none (gxEnv X scope s3.heap.objs.size code)) ((model X.prog X.w).den (.compLoop (gexN elt tg iter ifs rest scope gpos) 0 (.ref it) .none (gxEnv X scope s3.heap.objs.size code))) [] sw := fun s₀ =>
        hl A Sx RS s3 H3 s3.heap.objs.size code fp pn it tn J _ _ rd T hRS (fun p hp => ⟨hpn2 p hp, fun b hb => by rw [hpn1 p hp]; exact Ne.symm (hfa b hb)⟩)
          (fun b hb => Nat.ne_of_lt (Nat.lt_trans (f3 b hb).2 hSy)) hAp
          (fun n s₀ ys ip σ' H' s' hn hI hd => by
            obtain ⟨o', j1, j2, j3, j4⟩ := back hI
            exact ⟨rfl, ys, H', o', hn, j1, j2, j3, j4, hgp hI, hd⟩)
          (fun n s₀ ys y v ip σ' H' s' kap hn rv hI hp hk => by
            obtain ⟨o', j1, j2, j3, j4⟩ := back hI
            exact ⟨ys, y, H', o', hn, rv, j1, j2, j3, j4, hgp hI, hp, hk⟩)
          s₀ sw H3 w0 (T.keep _ _ _ st3 fun b _ o e => hkw3 b o e) (fun b hb => (f3 b hb).1.1) hG
      show Seg _ A _ _ _ sw _ ((compStart (gexN elt tg iter ifs rest scope gpos) 0 (.ref it) .none (gxEnv X scope s3.heap.objs.size code)).onRaise (leaving (gxEnv X scope s3.heap.objs.size code))) [] sw
      unfold compStart
      rw [Sem.onRaise_eq_wrap]
      show Seg _ A _ _ _ sw _ ((ask >>= _).wrap _ _ _ _) [] sw
      refine seg_bind_wrap (wpAny_askSetting ?_)
      have stw : tn 0 sw.heap := T.keep _ _ _ st3 fun b _ o e => hkw3 b o e
      split
      · exact seg_again rfl (loop sw)
      · first
          | exact seg_bind_wrap (wpAny_rule (seg_bind_wrap (wpAny_standAt (seg_bind_wrap (T.self _ 0 sw _ _ stw (seg_again rfl (loop sw)))))))
          | (refine seg_bind_wrap (wpAny_rule ?_); show Seg _ A _ _ _ sw _ ((standAt iter.pos >>= _).wrap _ _ _ _) [] sw; exact seg_bind_wrap (wpAny_standAt (seg_bind_wrap (T.self _ 0 sw _ _ stw (seg_again rfl (loop sw))))))
    exact main _ _ (fun h e => ⟨_, _, _, e, rfl, rfl, rfl⟩) (fun v z => by cases z) (Heap.get?_push_size _ rfl)
  refine ⟨lim2, ?_⟩
  cases hf : codeAmong gpos tb.toList with
  | none =>
    refine wpAny_genexprCodeX hcode (cd.code hPs ht0) (cd.tab hPs) hf fun c' h' tk hx hge hlt hco' _ htab' _ => ?_
    obtain ⟨_, _, _, _, _, _, _, _, _, _, _, _, _, _, _, _, _, _, _, htr, _⟩ := hco'
    exact cont _ h' tk _ hx (Nat.le_trans hge (Nat.le_of_lt hlt)) htab'.2 ⟨_, rfl⟩ htr
  | some cv =>
    refine wpAny_genexprCode_hit hcode (cd.code hPs ht0) hf ?_
    exact cont cv s2.heap s2.toks tb (Heap.ExtBut.refl _ _) (Nat.le_refl _) hPs ⟨#[], by simp⟩ ht0
theorem loop1 {elt tg iter : Expr} {ifs : List Expr} {scope : Scope} {gpos : Pos} {g : TG} {tt : TT} {te : TE} {vs : List Nat} {k : Nat} {Cy : V → Prop} {Py : List V → V → Hp → Prop} {Pd : List V → Hp → Prop} (hc : X.calm = true) (hco : scope.isCoroutine = false)
    (hg : ∀ (A : Around) (s : Shared) (H : Hp) (C : Addr) (code : Value) (fp : List Addr) (pn : List (Addr × Obj)), Room k A → PG (gxOf X A s H (gxEnv X scope C code) fp pn) tg g)
    (ht : ∀ (A : Around) (s : Shared) (H : Hp) (C : Addr) (code : Value) (fp : List Addr) (pn : List (Addr × Obj)), Room k A → PTs (gxOf X A s H (gxEnv X scope C code) fp pn) ifs tt)
    (he : ∀ (A : Around) (s : Shared) (H : Hp) (C : Addr) (code : Value) (fp : List Addr) (pn : List (Addr × Obj)), Room k A → PE (gxOf X A s H (gxEnv X scope C code) fp pn) elt te) :
    LoopX X k σ elt tg iter ifs [] scope gpos vs (fun J H2 => ∃ W : Nat → Nat → List V → Hp → Prop, (∃ m, W 0 m [] H2) ∧ GW J g tt te vs σ Cy Py Pd W) Cy Py Pd := by
  intro Aw S RS s3 H3 C code fp pn it tn J R YP rd T hRS hpn hS hA hR hY s₀ s H ⟨W, ⟨m0, w0⟩, hW⟩ st hn hG
  exact seg_gx (X := X) (S := S) (RS := RS) (s3 := s3) (H3 := H3) (fp := fp) (pn := pn) hc hco T (hg _ s3 H3 _ code fp pn rd) (ht _ s3 H3 _ code fp pn rd) (he _ s3 H3 _ code fp pn rd) hW hRS hpn hS hA hR hY m0 0 sizeLine [] s₀ s H rfl w0 st hn hG
theorem gen_made {c P : Addr} {elt tg iter : Expr} {ifs : List Expr} {scope : Scope} {own : List (Str × Nat)} {gpos : Pos} {wi : TI} {g : TG} {tt : TT} {te : TE} {k : Nat} {Cy : V → Prop} {Py : List V → V → Hp → Prop} {Pd : List V → Hp → Prop} {Qz : Value → Shared → Prop}
    (hr : Room k X.A) (hc : X.calm = true) (hN : X.N.Nodup) (TB : GxR.TabB X.base X.mg c P) (hcode : X.env.code = .ref c) (S : GenSX scope) (hi : PI X tg iter wi) (ok : BlkOk X.N X.env.scope scope own)
    (hg : ∀ (A : Around) (s : Shared) (H : Hp) (C : Addr) (code : Value) (fp : List Addr) (pn : List (Addr × Obj)), Room k A → PG (gxOf X A s H (gxEnv X scope C code) fp pn) tg g)
    (ht : ∀ (A : Around) (s : Shared) (H : Hp) (C : Addr) (code : Value) (fp : List Addr) (pn : List (Addr × Obj)), Room k A → PTs (gxOf X A s H (gxEnv X scope C code) fp pn) ifs tt)
    (he : ∀ (A : Around) (s : Shared) (H : Hp) (C : Addr) (code : Value) (fp : List Addr) (pn : List (Addr × Obj)), Room k A → PE (gxOf X A s H (gxEnv X scope C code) fp pn) elt te)
    (hs : ∀ v, genFold iter X.env v = pure v) (I : Inv X pins σ H s) (h : tGenX P wi g tt te (own.map (·.2)) Cy Py Pd σ H)
    (hQ : ∀ u z, MadeX X (k + 1) pins σ Cy Py Pd u z → Qz u z) :
    wpAny (model X.prog X.w) X.A (eval (gexp elt tg iter ifs scope gpos) X.env) Qz X.xe s :=
  gen_madeN hr hN TB hcode S hi ok (loop1 hc S.co hg ht he) hs I h hQ
end
end Ph
namespace Ph
open PySem PySem.Spec PyProof.Rows L2 GenW
section
variable {X : Cx} {pins : List (Addr × Obj)} {σ : L2.St} {S a : Addr} {gi : Nat} {RS : OwnR} {Cy : V → Prop} {Py : List V → V → Hp → Prop} {Pd : List V → Hp → Prop} {A : Around} {E : Value → Shared → Prop}
theorem Inv.gens' {H : Hp} {s : Shared} {h' : Heap} {G : Array GenState} {tk : Nat} (I : Inv X pins σ H s) (hk : ∀ b o, s.heap.get? b = some o → h'.get? b = some o) (hG : AllBare G) : Inv X pins σ H { s with gens := G, heap := h', toks := tk } :=
  I.call' (ch := []) rfl (Un.kept hk) (I.hok.kept hk) hG fun b z => by simp at z
abbrev GoesX (X : Cx) (A : Around) (pins : List (Addr × Obj)) (σ : L2.St) (S a : Addr) (gi : Nat) (RS : OwnR) (Cy : V → Prop) (Py : List V → V → Hp → Prop) (Pd : List V → Hp → Prop) (gs : GenState) (n : Nat) (s : Shared) : Prop :=
  gs.Goes (model X.prog X.w) A (REG X pins σ S a gi RS Pd) (YEG X pins σ S a gi RS Cy Py) n (.send .none) (s.setGen gi .running)
theorem next_X {n : Nat} {s : Shared} {gs : GenState} {Q : Option Value → Shared → Prop} (hh : A.handled = none) (hd : A.depth < recursionLimit) (hl : s.heap.NoLimit) (hg : s.heap.IsGen a gi) (hgs : s.gens[gi]? = some gs)
    (hgo : GoesX X A.in1 pins σ S a gi RS Cy Py Pd gs n s)
    (hY : ∀ ys y v H' o s1 gs', n + ys.length = sizeLine ∨ n = 0 → RelV y v → Inv X pins σ H' s1 → s1.heap.get? S = some o → RS ys o → H' S = none → s1.heap.IsGen a gi → s1.gens[gi]? = some gs' → Py ys y H' →
      (∀ s2, SleptR S RS Cy y s1 s2 → ∃ m, n = m + 1 ∧ GoesX X A.in1 pins σ S a gi RS Cy Py Pd gs' m s2) → Q (some v) s1)
    (hP : ∀ ys H' o s1, ys.length ≤ sizeLine → Inv X pins σ H' s1 → s1.heap.get? S = some o → RS ys o → H' S = none → Pd ys H' → Q none s1) :
    wpAny (model X.prog X.w) A (pyNext (.ref a)) Q E s := by
  have hgl : gi < s.gens.size := (Array.getElem?_eq_some_iff.mp hgs).1
  refine wpAny_gsz (n := gi + 1) hgl (wpAny_pyNext_genexpQ (P := fun n _ s1 => ∃ (ys : List V) (H' : Hp) (o : Obj), n + ys.length = sizeLine ∧ Inv X pins σ H' s1 ∧ s1.heap.get? S = some o ∧ RS ys o ∧ H' S = none ∧ s1.heap.IsGen a gi ∧ Pd ys H') hh hl hd hg hgs hgo (fun v s1 gs' hb hv => ?_) fun s1 hp h' hk => ?_)
  · intro hsz
    obtain ⟨ys, y, H', o, hn, rv, I1, eS, rs, hS0, hg1, py, hk⟩ := hv
    have hsz1 : gi < s1.gens.size := by
      have q : (s1.setGen gi gs').gens.size = s1.gens.size := setGen_size _ _ _
      have hsz' : gi + 1 ≤ (s1.setGen gi gs').gens.size := hsz
      omega
    have I2 : Inv X pins σ H' (s1.setGen gi gs') := Inv.gens' (tk := s1.toks) I1 (fun _ _ e => e) (allBare_setGen I1.bare hb)
    refine hY ys y v H' o (s1.setGen gi gs') gs' (by omega) rv I2 eS rs hS0 hg1 (setGen_at hsz1) py fun s2 z => ?_
    have z' : SleptR S RS Cy y s1 (s2.setGen gi .running) := ⟨z.go, z.os, allBare_setGen z.bare rfl, z.keep, z.own⟩
    have q := hk _ z'
    cases n with
    | zero => exact False.elim q
    | succ m => exact ⟨m, rfl, q⟩
  · intro hsz
    obtain ⟨ys, H', o, hn, I1, eS, rs, hS0, hg1, pd⟩ := hp
    exact hP ys H' o _ (by omega) (Inv.gens' (s := s1) (h' := h') (G := (s1.setGen gi .finished).gens) (tk := s1.toks) I1 hk (allBare_setGen I1.bare rfl)) (hk _ _ eS) rs hS0 pd
/-! ### any, all -/
theorem any_loopX {R : Result → Shared → Prop} {go : Obj} {b0 : Bool} {nm : String} (hnm : (b0 = true ∧ nm = "any.loop") ∨ (b0 = false ∧ nm = "all.loop")) (hh : A.handled = none) (hd : A.depth < recursionLimit)
    (hR : ∀ b H' s', Inv X pins σ H' s' → ((b = b0 ∧ ∃ ys, Py ys (.bl b) H') ∨ (b = !b0 ∧ ∃ ys, Pd ys H')) → R (.ok (.ret (.bool b))) s')
    (hPy : ∀ ys y H', Py ys y H' → ∃ b, y = .bl b) :
    ∀ (m : Nat) (s : Shared), s.heap.IsGen a gi → s.heap.get? a = some go → s.heap.NoLimit →
      (∃ gs, s.gens[gi]? = some gs ∧ GoesX X A.in1.in1 pins σ a a gi (fun _ o => o = go) (fun y => y = .bl (!b0)) Py Pd gs m s) →
      codeAny (model X.prog X.w) A (.builtin nm ⟨[.ref a], []⟩) R s := by
  intro m
  induction m with
  | zero =>
    intro s hg ha hl ⟨gs, hgs, hgo⟩
    have key : ∀ (Q : Option Value → Shared → Prop) (E : Value → Shared → Prop), (∀ v s1, (∃ b ys H', v = .bool b ∧ Inv X pins σ H' s1 ∧ Py ys (.bl b) H' ∧ b = b0) → Q (some v) s1) → (∀ s1, (∃ ys H', Inv X pins σ H' s1 ∧ Pd ys H') → Q none s1) → wpAny (model X.prog X.w) A.in1 (pyNext (.ref a)) Q E s := fun Q E h1 h2 => by
      refine next_X (A := A.in1) hh hd hl hg hgs hgo (fun ys y v H' o s1 gs' _ rv I1 eS rs _ _ _ py hk => ?_) fun ys H' o s1 _ I1 _ _ _ pd => h2 s1 ⟨ys, H', I1, pd⟩
      obtain ⟨b, rfl⟩ := hPy ys y H' py
      have rv' : v = .bool b := rv
      by_cases hb : b = b0
      · exact h1 v s1 ⟨b, ys, H', rv', I1, py, hb⟩
      · obtain ⟨m, hm, _⟩ := hk s1 ⟨by cases b <;> cases b0 <;> simp_all, rfl, I1.bare, fun _ _ _ e => e, fun ys o r e => ⟨o, e, r⟩⟩
        cases hm
    rcases hnm with ⟨rfl, rfl⟩ | ⟨rfl, rfl⟩
    · refine codeAny_builtin F.entry_any_loop ?_
      rw [Around.under_plainId F.plain_any_loop _]
      show wpAny _ A.in1 (pyNext (.ref a) >>= _) _ _ s
      refine wpAny_bind (key _ _ (fun v s1 ⟨b, ys, H', e, I1, py, hb⟩ => ?_) fun s1 ⟨ys, H', I1, pd⟩ => ?_)
      · subst e; subst hb
        refine wpAny_bind (wpAny_holding (wpAny_truthy_bool ?_))
        refine wpAny_bind (wpAny_letGo ?_)
        simp only [if_true]
        exact wpAny_bind (wpAny_rule (wpAny_pure (hR true H' s1 I1 (.inl ⟨rfl, ys, py⟩))))
      · exact wpAny_bind (wpAny_rule (wpAny_pure (hR false H' s1 I1 (.inr ⟨rfl, ys, pd⟩))))
    · refine codeAny_builtin F.entry_all_loop ?_
      rw [Around.under_plainId F.plain_all_loop _]
      show wpAny _ A.in1 (pyNext (.ref a) >>= _) _ _ s
      refine wpAny_bind (key _ _ (fun v s1 ⟨b, ys, H', e, I1, py, hb⟩ => ?_) fun s1 ⟨ys, H', I1, pd⟩ => ?_)
      · subst e; subst hb
        refine wpAny_bind (wpAny_holding (wpAny_truthy_bool ?_))
        refine wpAny_bind (wpAny_letGo ?_)
        simp only [Bool.false_eq_true, if_false]
        exact wpAny_bind (wpAny_rule (wpAny_pure (hR false H' s1 I1 (.inl ⟨rfl, ys, py⟩))))
      · exact wpAny_bind (wpAny_rule (wpAny_pure (hR true H' s1 I1 (.inr ⟨rfl, ys, pd⟩))))
  | succ m ih =>
    intro s hg ha hl ⟨gs, hgs, hgo⟩
    have key : ∀ (Q : Option Value → Shared → Prop) (E : Value → Shared → Prop), (∀ v s1, (∃ b ys H', v = .bool b ∧ Inv X pins σ H' s1 ∧ Py ys (.bl b) H' ∧ (b = b0 ∨ (b = (!b0) ∧ codeAny (model X.prog X.w) A (.builtin nm ⟨[.ref a], []⟩) R s1))) → Q (some v) s1) → (∀ s1, (∃ ys H', Inv X pins σ H' s1 ∧ Pd ys H') → Q none s1) → wpAny (model X.prog X.w) A.in1 (pyNext (.ref a)) Q E s := fun Q E h1 h2 => by
      refine next_X (A := A.in1) hh hd hl hg hgs hgo (fun ys y v H' o s1 gs' _ rv I1 eS rs _ hg1 hgs1 py hk => ?_) fun ys H' o s1 _ I1 _ _ _ pd => h2 s1 ⟨ys, H', I1, pd⟩
      obtain ⟨b, rfl⟩ := hPy ys y H' py
      have rv' : v = .bool b := rv
      by_cases hb : b = b0
      · exact h1 v s1 ⟨b, ys, H', rv', I1, py, .inl hb⟩
      · have hb' : b = (!b0) := by cases b <;> cases b0 <;> simp_all
        obtain ⟨m', hm, hgo'⟩ := hk s1 ⟨by rw [hb'], rfl, I1.bare, fun _ _ _ e => e, fun ys o r e => ⟨o, e, r⟩⟩
        cases hm
        exact h1 v s1 ⟨b, ys, H', rv', I1, py, .inr ⟨hb', ih s1 hg1 (by rw [eS, rs]) I1.nolimit ⟨gs', hgs1, hgo'⟩⟩⟩
    rcases hnm with ⟨rfl, rfl⟩ | ⟨rfl, rfl⟩
    · refine codeAny_builtin F.entry_any_loop ?_
      rw [Around.under_plainId F.plain_any_loop _]
      show wpAny _ A.in1 (pyNext (.ref a) >>= _) _ _ s
      refine wpAny_bind (key _ _ (fun v s1 ⟨b, ys, H', e, I1, py, hb⟩ => ?_) fun s1 ⟨ys, H', I1, pd⟩ => ?_)
      · subst e
        refine wpAny_bind (wpAny_holding (wpAny_truthy_bool ?_))
        refine wpAny_bind (wpAny_letGo ?_)
        rcases hb with hb | ⟨hb, again⟩
        · subst hb
          simp only [if_true]
          exact wpAny_bind (wpAny_rule (wpAny_pure (hR true H' s1 I1 (.inl ⟨rfl, ys, py⟩))))
        · subst hb
          simp only [Bool.not_true, Bool.false_eq_true, if_false]
          exact wpAny_pure ⟨plainId_quiet F.plain_any_loop _, again⟩
      · exact wpAny_bind (wpAny_rule (wpAny_pure (hR false H' s1 I1 (.inr ⟨rfl, ys, pd⟩))))
    · refine codeAny_builtin F.entry_all_loop ?_
      rw [Around.under_plainId F.plain_all_loop _]
      show wpAny _ A.in1 (pyNext (.ref a) >>= _) _ _ s
      refine wpAny_bind (key _ _ (fun v s1 ⟨b, ys, H', e, I1, py, hb⟩ => ?_) fun s1 ⟨ys, H', I1, pd⟩ => ?_)
      · subst e
        refine wpAny_bind (wpAny_holding (wpAny_truthy_bool ?_))
        refine wpAny_bind (wpAny_letGo ?_)
        rcases hb with hb | ⟨hb, again⟩
        · subst hb
          simp only [Bool.false_eq_true, if_false]
          exact wpAny_bind (wpAny_rule (wpAny_pure (hR false H' s1 I1 (.inl ⟨rfl, ys, py⟩))))
        · subst hb
          simp only [Bool.not_false, if_true]
          exact wpAny_pure ⟨plainId_quiet F.plain_all_loop _, again⟩
      · exact wpAny_bind (wpAny_rule (wpAny_pure (hR true H' s1 I1 (.inr ⟨rfl, ys, pd⟩))))
theorem call_anyX {k : Nat} {u : Value} {z : Shared} {Q : Value → Shared → Prop} (hr : Room (k + 3) A) (hfr : A.frames = some X.stack) (hPy : ∀ ys y H', Py ys y H' → ∃ b, y = .bl b) (M : MadeX X k pins σ (fun y => y = .bl false) Py Pd u z)
    (hQ : ∀ b H' s', Inv X pins σ H' s' → ((b = true ∧ ∃ ys, Py ys (.bl true) H') ∨ (b = false ∧ ∃ ys, Pd ys H')) → Q (.bool b) s') : wpAny (model X.prog X.w) A (call (.builtin "any") [u]) Q E z := by
  obtain ⟨a, gi, c, go, H0, rfl, I0, ha, hgen, hcell, hgs, hn, wake⟩ := M
  refine call_function_tree F.kind_any F.plain_any F.entry_any (F.args_any1 _) ?_
  unfold Builtin.«any»
  refine wpAny_bind (m := oneArg "any" _) (wpAny_pure ?_)
  refine wpAny_bind (wpAny_pyIter_gen (hgen _ ha) ?_)
  refine wpAny_pure ⟨plainId_quiet F.plain_any_loop _, any_loopX (X := X) (A := A) (pins := pins) (σ := σ) (gi := gi) (go := go) (b0 := true) (Py := Py) (Pd := Pd) (.inl ⟨rfl, rfl⟩) hr.hd (by have := hr.dp; omega) (fun b H' s' I' h => hQ b H' s' I' ?_) hPy sizeLine z (hgen _ ha) ha I0.nolimit ⟨_, hgs, ?_⟩⟩
  · rcases h with ⟨h1, ys, h2⟩ | ⟨h1, h2⟩
    · subst h1; exact .inl ⟨rfl, ys, h2⟩
    · exact .inr ⟨h1, h2⟩
  · refine ⟨rfl, wake A.in1.in1 a (fun _ o => o = go) (z.setGen gi .running) go ((hr.mono (by omega : k + 2 ≤ k + 3)).in1.in1) hfr (.inl ⟨rfl, fun _ _ h => h⟩) (fun _ o h => by rw [h]; exact hcell) (fun _ _ e => e) ha rfl rfl (allBare_setGen I0.bare rfl)⟩
theorem call_allX {k : Nat} {u : Value} {z : Shared} {Q : Value → Shared → Prop} (hr : Room (k + 3) A) (hfr : A.frames = some X.stack) (hPy : ∀ ys y H', Py ys y H' → ∃ b, y = .bl b) (M : MadeX X k pins σ (fun y => y = .bl true) Py Pd u z)
    (hQ : ∀ b H' s', Inv X pins σ H' s' → ((b = false ∧ ∃ ys, Py ys (.bl false) H') ∨ (b = true ∧ ∃ ys, Pd ys H')) → Q (.bool b) s') : wpAny (model X.prog X.w) A (call (.builtin "all") [u]) Q E z := by
  obtain ⟨a, gi, c, go, H0, rfl, I0, ha, hgen, hcell, hgs, hn, wake⟩ := M
  refine call_function_tree F.kind_all F.plain_all F.entry_all (F.args_all1 _) ?_
  unfold Builtin.«all»
  refine wpAny_bind (m := oneArg "all" _) (wpAny_pure ?_)
  refine wpAny_bind (wpAny_pyIter_gen (hgen _ ha) ?_)
  refine wpAny_pure ⟨plainId_quiet F.plain_all_loop _, any_loopX (X := X) (A := A) (pins := pins) (σ := σ) (gi := gi) (go := go) (b0 := false) (Py := Py) (Pd := Pd) (.inr ⟨rfl, rfl⟩) hr.hd (by have := hr.dp; omega) (fun b H' s' I' h => hQ b H' s' I' ?_) hPy sizeLine z (hgen _ ha) ha I0.nolimit ⟨_, hgs, ?_⟩⟩
  · rcases h with ⟨h1, ys, h2⟩ | ⟨h1, h2⟩
    · subst h1; exact .inl ⟨rfl, ys, h2⟩
    · exact .inr ⟨h1, h2⟩
  · refine ⟨rfl, wake A.in1.in1 a (fun _ o => o = go) (z.setGen gi .running) go ((hr.mono (by omega : k + 2 ≤ k + 3)).in1.in1) hfr (.inl ⟨rfl, fun _ _ h => h⟩) (fun _ o h => by rw [h]; exact hcell) (fun _ _ e => e) ha rfl rfl (allBare_setGen I0.bare rfl)⟩
/-! ### drained into a list -/
def RSL : OwnR := fun ys o => ∃ (acc : Array Value) (c : Nat), o = lstObj acc c ∧ Vals ys acc.toList
theorem drainX {R : Result → Shared → Prop} {S : Addr} {res : Value} (hh : A.handled = none) (hd : A.depth < recursionLimit) (hSa : S ≠ a)
    (hend : ∀ s' acc c H' ys, s'.heap.get? S = some (lstObj acc c) → Vals ys acc.toList → ys.length ≤ sizeLine → Inv X pins σ H' s' → H' S = none → Pd ys H' → R (.ok (.ret res)) s') :
    ∀ (m : Nat) (s : Shared), s.heap.IsGen a gi → s.heap.NoLimit →
      (∃ gs, s.gens[gi]? = some gs ∧ GoesX X A.in1.in1 pins σ S a gi RSL (fun _ => True) Py Pd gs m s) →
      codeAny (model X.prog X.w) A (.builtin "list.extend.loop" ⟨[.ref S, .ref a, res], []⟩) R s := by
  intro m
  induction m with
  | zero =>
    intro s hg hl ⟨gs, hgs, hgo⟩
    refine codeAny_builtin F.entry_extend_loop ?_
    rw [Around.under_plainId F.plain_extend_loop _]
    show wpAny _ A.in1 (pyNext (.ref a) >>= _) _ _ s
    refine wpAny_bind (next_X (A := A.in1) hh hd hl hg hgs hgo (fun ys y v H' o s1 gs' _ rv I1 eS rs _ _ _ py hk => ?_) fun ys H' o s1 hle I1 eS rs hS0 pd => ?_)
    · obtain ⟨acc, c, rfl, r⟩ := rs
      have I2 := I1
      obtain ⟨m, hm, _⟩ := hk { s1 with heap := s1.heap.update S (Obj.mapSeq (·.push v)) } ⟨trivial, rfl, I1.bare, fun b o hb e => (Heap.get?_update_other _ _ (Ne.symm hb)).trans e, fun ys o r e => by
        obtain ⟨acc', c', rfl, r'⟩ := r
        exact ⟨_, Heap.get?_update_self _ e rfl, acc'.push v, _, rfl, by rw [Array.toList_push]; exact r'.append (.cons rv .nil)⟩⟩
      cases hm
    · obtain ⟨acc, c, rfl, r⟩ := rs
      exact wpAny_pure (hend s1 acc c H' ys eS r hle I1 hS0 pd)
  | succ m ih =>
    intro s hg hl ⟨gs, hgs, hgo⟩
    refine codeAny_builtin F.entry_extend_loop ?_
    rw [Around.under_plainId F.plain_extend_loop _]
    show wpAny _ A.in1 (pyNext (.ref a) >>= _) _ _ s
    refine wpAny_bind (next_X (A := A.in1) hh hd hl hg hgs hgo (fun ys y v H' o s1 gs' hn rv I1 eS rs hS0 hg1 hgs1 py hk => ?_) fun ys H' o s1 hle I1 eS rs hS0 pd => ?_)
    · obtain ⟨acc, c, rfl, r⟩ := rs
      have hsz : acc.size < sizeLine := by
        have e1 := r.length
        have e2 : acc.toList.length = acc.size := by simp
        omega
      obtain ⟨m', hm, hgo'⟩ := hk { s1 with heap := s1.heap.update S (Obj.mapSeq (·.push v)) } ⟨trivial, rfl, I1.bare, fun b o hb e => (Heap.get?_update_other _ _ (Ne.symm hb)).trans e, fun ys o r e => by
        obtain ⟨acc', c', rfl, r'⟩ := r
        exact ⟨_, Heap.get?_update_self _ e rfl, acc'.push v, _, rfl, by rw [Array.toList_push]; exact r'.append (.cons rv .nil)⟩⟩
      cases hm
      show wpAny _ A.in1 (updateSeq S (·.push v) >>= _) _ _ _
      refine wpAny_bind ?_
      have keep3 : ∀ b o, b ≠ S → s1.heap.get? b = some o → (s1.heap.update S (Obj.mapSeq (·.push v))).get? b = some o := fun b o hbS e => (Heap.get?_update_other _ _ (Ne.symm hbS)).trans e
      refine wpAny_updateSeq eS rfl (wpAny_pure ⟨plainId_quiet F.plain_extend_loop _, ih _ ?_ ?_ ⟨gs', hgs1, hgo'⟩⟩) (Nat.le_of_lt hsz) (by show (acc.push v).size ≤ sizeLine + 1; rw [Array.size_push]; omega)
      · obtain ⟨o, nm, qn, ho, r⟩ := hg1
        exact ⟨o, nm, qn, keep3 a o (Ne.symm hSa) ho, r⟩
      · have hcS : cStatics ≠ S := fun z => by
          obtain ⟨mc, ⟨ow, es, ep, ho, hdd, _⟩, _⟩ := I1.nolimit
          rw [z, eS] at ho
          cases ho
          cases hdd
        obtain ⟨mc, hns, hnn⟩ := I1.nolimit
        exact ⟨mc, hns.at' fun o e => keep3 _ o hcS e, hnn⟩
    · obtain ⟨acc, c, rfl, r⟩ := rs
      exact wpAny_pure (hend s1 acc c H' ys eS r hle I1 hS0 pd)
/-- the generator's items, in order -/
theorem collectX {k : Nat} {u : Value} {z : Shared} {Q : List Value → Shared → Prop} (hr : Room (k + 4) A) (hfr : A.frames = some X.stack) (M : MadeX X k pins σ (fun _ => True) Py Pd u z)
    (hQ : ∀ us H' ys s', Inv X pins σ H' s' → Vals ys us → ys.length ≤ sizeLine → Pd ys H' → Q us s') : wpAny (model X.prog X.w) A (collect u) Q E z := by
  obtain ⟨a, gi, c, go, H0, rfl, I0, ha, hgen, hcell, hgs, hn, wake⟩ := M
  have hlt : a < z.heap.objs.size := Heap.lt_size ha
  have hSa : z.heap.objs.size ≠ a := Nat.ne_of_gt hlt
  unfold collect
  refine wpAny_bind (wpAny_runValue (codeAny_builtin F.entry_proto_collect ?_))
  rw [Around.under_plainId F.plain_proto_collect _]
  show wpAny _ A.in1 (newList [] >>= fun l => again (.builtin "list.__iadd__" ⟨[l, .ref a], []⟩)) _ _ z
  refine wpAny_bind (wpAny_newObj_type ?_)
  refine wpAny_pure ⟨plainId_quiet F.plain_list_iadd _, codeAny_builtin F.entry_list_iadd ?_⟩
  rw [Around.under_plainId F.plain_list_iadd _]
  have k1 : ∀ b o, z.heap.get? b = some o → (z.heap.push { cls := .type "list", data := .seq ([] : List Value).toArray }).get? b = some o := fun b o e => Heap.get?_push_of_some _ e
  have hg1 := hgen _ (k1 _ _ ha)
  show wpAny _ A.in1 (Builtin.List.listExtendWith (.ref z.heap.objs.size) (.ref a) (.ref z.heap.objs.size)) _ _ _
  unfold Builtin.List.listExtendWith
  refine wpAny_bind (wpAny_typeOf (Heap.IsGen.typeIs (s := { z with heap := _ }) hg1) ?_)
  have h1 : Builtin.List.listSameRef (.ref z.heap.objs.size) (.ref a) = false := by simp [Builtin.List.listSameRef, hSa]
  have h2 : (Value.type "generator" == Value.type "list") = false := by decide
  have h3 : (Value.type "generator" == Value.type "tuple") = false := by decide
  simp only [h1, h2, h3, Bool.or_false, Bool.false_eq_true, if_false]
  refine wpAny_bind (wpAny_pyIter_gen (s := { z with heap := _ }) hg1 ?_)
  refine wpAny_bind (wpAny_holding ?_)
  unfold Builtin.List.listLengthHint
  refine wpAny_bind (wpAny_specialOf (Heap.IsGen.typeIs (s := { z with heap := _ }) hg1) F.gen_no_len ?_)
  show wpAny _ A.in1 (specialOf (Value.ref a) (Str.ofString "__length_hint__") >>= _) _ _ _
  refine wpAny_bind (wpAny_specialOf (Heap.IsGen.typeIs (s := { z with heap := _ }) hg1) F.gen_no_hint ?_)
  refine wpAny_pure ?_
  show wpAny _ A.in1 (rule "list.extend.makes-room" >>= fun _ => Builtin.List.listTouch (.ref z.heap.objs.size) >>= fun _ =>
    again (.builtin "list.extend.loop" ⟨[.ref z.heap.objs.size, .ref a, .ref z.heap.objs.size], []⟩)) _ _ _
  refine wpAny_bind (wpAny_rule ?_)
  have hS₁ : (z.heap.push { cls := .type "list", data := .seq ([] : List Value).toArray }).get? z.heap.objs.size = some { cls := .type "list", data := .seq ([] : List Value).toArray } := Heap.get?_push_size _ rfl
  refine wpAny_bind ?_
  show wpAny _ A.in1 (updateSeq z.heap.objs.size (·.push .none) >>= fun _ => updateSeq z.heap.objs.size (·.pop)) _ _ _
  refine wpAny_bind (wpAny_updateSeq hS₁ rfl ?_)
  have hS₂ := Heap.get?_update_self (Obj.mapSeq (·.push Value.none)) hS₁ rfl
  refine wpAny_updateSeq hS₂ rfl ?_
  have hS₃ := Heap.get?_update_self (Obj.mapSeq (·.pop)) hS₂ rfl
  have oth : ∀ b o, z.heap.get? b = some o →
      (((z.heap.push { cls := .type "list", data := .seq ([] : List Value).toArray }).update z.heap.objs.size (Obj.mapSeq (·.push Value.none))).update z.heap.objs.size (Obj.mapSeq (·.pop))).get? b = some o :=
    fun b o e => by
      have hb : b ≠ z.heap.objs.size := Nat.ne_of_lt (Heap.lt_size e)
      exact (Heap.get?_update_other _ _ (Ne.symm hb)).trans ((Heap.get?_update_other _ _ (Ne.symm hb)).trans (k1 b o e))
  refine wpAny_pure ⟨plainId_quiet F.plain_extend_loop _, drainX (X := X) (A := A) (pins := pins) (σ := σ) (gi := gi) (a := a) (Py := Py) (Pd := Pd) (S := z.heap.objs.size) hr.hd (by have := hr.dp; omega) hSa (fun s' acc cc H' ys hS' hv hle I' hS0 pd => ?_) sizeLine _ (hgen _ (oth _ _ ha)) (I0.nolimit.keeps oth) ⟨_, hgs, rfl, ?_⟩⟩
  · show wpAny _ A (load z.heap.objs.size >>= _) _ _ s'
    refine wpAny_bind (wpAny_load hS' ?_)
    exact wpAny_pure (hQ acc.toList H' ys s' I' hv hle pd)
  · exact wake A.in1.in1 z.heap.objs.size RSL _ _ ((hr.mono (by omega : k + 2 ≤ k + 4)).in1.in1) hfr (.inr (Nat.le_refl _)) (fun ys o h v => by obtain ⟨acc, c, rfl, _⟩ := h; intro q; cases q) oth hS₃ ⟨#[], _, rfl, .nil⟩ rfl (allBare_setGen I0.bare rfl)
end
end Ph
namespace Ph
open PySem PySem.Spec PyProof.Rows L2 GenW
section
variable {X : Cx} {pins : List (Addr × Obj)} {σ : L2.St}
theorem call_tupX {A : Around} {E : Value → Shared → Prop} {k : Nat} {u : Value} {z : Shared} {Py : List V → V → Hp → Prop} {Pd : List V → Hp → Prop} {Q : Value → Shared → Prop} (hr : Room (k + 6) A) (hfr : A.frames = some X.stack) (M : MadeX X k pins σ (fun _ => True) Py Pd u z)
    (hQ : ∀ l H' ys s', H' l = none → Inv X pins σ (upd H' l (.tup ys)) s' → ys.length ≤ sizeLine → Pd ys H' → Q (.ref l) s') : wpAny (model X.prog X.w) A (call (.type "tuple") [u]) Q E z := by
  have M' := M
  obtain ⟨a, gi, c, go, H0, rfl, I0, ha, hgen, hcell, hgs, hn, wake⟩ := M'
  have code : codeAny (model X.prog X.w) A.in1 (.call (.builtin "tuple.__new__") ⟨[.type "tuple", .ref a], []⟩) (wants (fun obj s₁ => s₁.TypeIs obj "tuple" ∧ Q obj s₁) E) z := by
    refine codeAny_of_tree ?_
    show wpAny _ A.in1.in1 (do checkBuiltinCall "tuple.__new__" ⟨[.type "tuple", .ref a], []⟩; again (.builtin "tuple.__new__" ⟨[.type "tuple", .ref a], []⟩)) _ _ z
    refine wpAny_bind (wpAny_of_eq (F.newCall_tuple_1 _) (wpAny_pure ⟨plainId_quiet F.plain_tuple_new _, codeAny_builtin F.entry_tuple_new ?_⟩))
    rw [Around.under_plainId F.plain_tuple_new _]
    have hsub := sub_tuple_self
    have hinit := init_tuple_lookup
    have hmh := madeHere_tuple
    have hTI : z.TypeIs (.ref a) "generator" := Heap.IsGen.typeIs (hgen _ ha)
    wp_walk using wpAny_typeOf hTI, collectX (X := X) (pins := pins) (σ := σ) (k := k) (Py := Py) (Pd := Pd) (show Room (k + 4) A.in1.in1 from hr.in1.in1) hfr M
    intro us H' ys s' I' hv hle pd
    show wpAny _ _ (Builtin.Tuple.tupleExact us.toArray >>= fun v => ret v) _ _ _
    unfold Builtin.Tuple.tupleExact
    refine wpAny_bind (wpAny_newObj_type ?_ (by show us.toArray.size ≤ sizeLine; rw [List.size_toArray, ← hv.length]; exact hle))
    refine wpAny_pure ?_
    refine ⟨⟨_, Heap.get?_push_size _ rfl, rfl⟩, hQ s'.heap.objs.size H' ys _ (I'.hok.fresh (Nat.le_refl _)) (I'.laid (t' := s'.toks) (fun b o e => Heap.get?_push_of_some _ e) (Nat.le_refl _) (show ObjOk X.prog X.w _ _ _ (.tup ys) from ⟨hle, us, hv, IsTup.new _ _⟩)) hle pd⟩
  refine callType_codes (Q₁ := fun obj s₁ => s₁.TypeIs obj "tuple" ∧ Q obj s₁) F.called_tuple (F.typeCall_tuple_1 _) F.entry_object_init code fun obj s₁ h₁ => ?_
  exact ⟨h₁.1, F.args_object_init_2 obj _, object_init_meets F.called_tuple.init.lookup F.called_tuple.made (by decide) X.prog X.w A.in1 _ s₁ ⟨h₁.1, rfl, h₁.2⟩⟩
end
/-- any (b0 = true), all (b0 = false) -/
def tAnyX (b0 : Bool) (P : Addr) (wi : TI) (g : TG) (tt : TT) (te : TE) (vs : List Nat) : TE := fun σ H Q =>
  tGenX P wi g tt te vs (fun y => y = .bl (!b0)) (fun _ y H' => ∃ b, y = .bl b ∧ (b = b0 → Q (.bl b0) H')) (fun _ H' => Q (.bl (!b0)) H') σ H
def tTupX (P : Addr) (wi : TI) (g : TG) (tt : TT) (te : TE) (vs : List Nat) : TE := fun σ H Q =>
  tGenX P wi g tt te vs (fun _ => True) (fun _ _ _ => True) (fun ys H' => ∀ l, H' l = none → Q (.ref l) (upd H' l (.tup ys))) σ H
section
variable {X : Cx} {c P : Addr} {elt tg iter : Expr} {ifs : List Expr} {scope : Scope} {own : List (Str × Nat)} {p pos gpos : Pos} {wi : TI} {g : TG} {tt : TT} {te : TE} {k : Nat}
/-- the parts of a generator expression within X -/
structure GenP (X : Cx) (k : Nat) (c P : Addr) (elt tg iter : Expr) (ifs : List Expr) (scope : Scope) (own : List (Str × Nat)) (wi : TI) (g : TG) (tt : TT) (te : TE) : Prop where
  hr : Room (k + 7) X.A
  hc : X.calm = true
  hN : X.N.Nodup
  TB : GxR.TabB X.base X.mg c P
  hcode : X.env.code = .ref c
  S : GenSX scope
  hi : PI X tg iter wi
  ok : BlkOk X.N X.env.scope scope own
  hg : ∀ (A : Around) (s : Shared) (H : Hp) (C : Addr) (code : Value) (fp : List Addr) (pn : List (Addr × Obj)), Room k A → PG (gxOf X A s H (gxEnv X scope C code) fp pn) tg g
  ht : ∀ (A : Around) (s : Shared) (H : Hp) (C : Addr) (code : Value) (fp : List Addr) (pn : List (Addr × Obj)), Room k A → PTs (gxOf X A s H (gxEnv X scope C code) fp pn) ifs tt
  he : ∀ (A : Around) (s : Shared) (H : Hp) (C : Addr) (code : Value) (fp : List Addr) (pn : List (Addr × Obj)), Room k A → PE (gxOf X A s H (gxEnv X scope C code) fp pn) elt te
  hs : ∀ v, genFold iter X.env v = pure v
theorem Inv.frames {pins : List (Addr × Obj)} {σ : L2.St} {H : Hp} {s : Shared} (I : Inv X pins σ H s) : X.A.frames = some X.stack := I.ok.frames
theorem pe_anyX (G : GenP X k c P elt tg iter ifs scope own wi g tt te) (hg : Gl X "any") (hm : X.mg "any" = none)
    (he : starEach [gexp elt tg iter ifs scope gpos] X.env = (false, eval (gexp elt tg iter ifs scope gpos) X.env) :: starEach [] X.env := by rfl) :
    PE X (.Call (.Name "any" p) [gexp elt tg iter ifs scope gpos] [] pos) (tAnyX true P wi g tt te (own.map (·.2))) := by
  refine ⟨fun pins s σ H Q I h => ?_⟩
  refine wpAny_Call_Name_kw (ld_blt I hg hm boot_any (PyProof.Rows.callWith_builtin1 ?_ he (by rfl)))
  rw [he]
  show wpAny _ _ (spliced ((false, eval (gexp elt tg iter ifs scope gpos) X.env) :: backTo pos (starEach [] X.env))) _ _ s
  refine Calls.spliced_cons (gen_made (k := k) (G.hr.mono (by omega)) G.hc G.hN G.TB G.hcode G.S G.hi G.ok G.hg G.ht G.he G.hs I h fun u z M => ?_)
  refine Calls.spliced_nil (call_anyX (X := X) (A := X.A) (k := k + 1) (G.hr.mono (by omega)) I.ok.frames (fun ys y H' h => h.imp fun _ z => z.1) M fun b H' s' I' h => ?_)
  rcases h with ⟨rfl, ys, b, e, h2⟩ | ⟨rfl, ys, h2⟩
  · cases e
    exact ⟨.bl true, H', I', rfl, h2 rfl⟩
  · exact ⟨.bl false, H', I', rfl, h2⟩
theorem pe_allX (G : GenP X k c P elt tg iter ifs scope own wi g tt te) (hg : Gl X "all") (hm : X.mg "all" = none)
    (he : starEach [gexp elt tg iter ifs scope gpos] X.env = (false, eval (gexp elt tg iter ifs scope gpos) X.env) :: starEach [] X.env := by rfl) :
    PE X (.Call (.Name "all" p) [gexp elt tg iter ifs scope gpos] [] pos) (tAnyX false P wi g tt te (own.map (·.2))) := by
  refine ⟨fun pins s σ H Q I h => ?_⟩
  refine wpAny_Call_Name_kw (ld_blt I hg hm (show bootBuiltins "all" = some (.builtin "all") from by kernel_rfl) (PyProof.Rows.callWith_builtin1 ?_ he (by rfl)))
  rw [he]
  show wpAny _ _ (spliced ((false, eval (gexp elt tg iter ifs scope gpos) X.env) :: backTo pos (starEach [] X.env))) _ _ s
  refine Calls.spliced_cons (gen_made (k := k) (G.hr.mono (by omega)) G.hc G.hN G.TB G.hcode G.S G.hi G.ok G.hg G.ht G.he G.hs I h fun u z M => ?_)
  refine Calls.spliced_nil (call_allX (X := X) (A := X.A) (k := k + 1) (G.hr.mono (by omega)) I.ok.frames (fun ys y H' h => h.imp fun _ z => z.1) M fun b H' s' I' h => ?_)
  rcases h with ⟨rfl, ys, b, e, h2⟩ | ⟨rfl, ys, h2⟩
  · cases e
    exact ⟨.bl false, H', I', rfl, h2 rfl⟩
  · exact ⟨.bl true, H', I', rfl, h2⟩
theorem pe_tupX (G : GenP X k c P elt tg iter ifs scope own wi g tt te) (hg : Gl X "tuple") (hm : X.mg "tuple" = none)
    (he : starEach [gexp elt tg iter ifs scope gpos] X.env = (false, eval (gexp elt tg iter ifs scope gpos) X.env) :: starEach [] X.env := by rfl) :
    PE X (.Call (.Name "tuple" p) [gexp elt tg iter ifs scope gpos] [] pos) (tTupX P wi g tt te (own.map (·.2))) := by
  refine ⟨fun pins s σ H Q I h => ?_⟩
  refine wpAny_Call_Name_kw (ld_blt I hg hm (show bootBuiltins "tuple" = some (.type "tuple") from by kernel_rfl) (PyProof.Rows.callWith_type1 ?_ he rfl))
  rw [he]
  show wpAny _ _ (spliced ((false, eval (gexp elt tg iter ifs scope gpos) X.env) :: backTo pos (starEach [] X.env))) _ _ s
  refine Calls.spliced_cons (gen_made (k := k) (G.hr.mono (by omega)) G.hc G.hN G.TB G.hcode G.S G.hi G.ok G.hg G.ht G.he G.hs I h fun u z M => ?_)
  exact Calls.spliced_nil (call_tupX (X := X) (A := X.A) (k := k + 1) G.hr I.ok.frames M fun l H' ys s' hl I' hle h => ⟨.ref l, _, I', rfl, h l hl⟩)
end
end Ph
namespace Ph
open PySem PySem.Spec PyProof.Rows L2 GenW
theorem wipe_keep {σ : L2.St} {j : Nat} : ∀ {vs : List Nat}, j ∉ vs → (wipe σ vs)[j]? = σ[j]?
  | [], _ => rfl
  | v :: vs, h => by
    unfold wipe
    rw [List.getElem?_set_ne (fun e => h (by rw [e]; exact List.mem_cons_self))]
    exact wipe_keep fun m => h (List.mem_cons_of_mem _ m)
abbrev gex2 (elt t0 i0 t1 i1 : Expr) (ifs0 ifs1 : List Expr) (scope : Scope) (pos : Pos) : Expr := gexN elt t0 i0 ifs0 [⟨t1, i1, ifs1, 0⟩] scope pos
theorem genTurn2_out (elt t0 i0 t1 i1 : Expr) (ifs0 ifs1 : List Expr) (scope : Scope) (pos : Pos) (it acc : Value) (env : Env) :
    compTurn (gex2 elt t0 i0 t1 i1 ifs0 ifs1 scope pos) 0 it acc env = (do
      standAt i0.pos
      match ← pyNext it with
      | none => pure (.done .next)
      | some v =>
        letOwnedTupleGo t0 it v
        assign t0 env v
        let mut ok := true
        for c in ifs0 do
          if ok then ok ← isTrue c env (eval c env)
        if ok then
          let x ← eval i1 env
          standAt i1.pos
          let x ← foldedSetIterable i1 env x
          let _ ← runOwn (.compStart (gex2 elt t0 i0 t1 i1 ifs0 ifs1 scope pos) 1 (← holding [x] (pyIter x)) acc env) env
        again (.compLoop (gex2 elt t0 i0 t1 i1 ifs0 ifs1 scope pos) 0 it acc env)) := by rfl
theorem genTurn2_in (elt t0 i0 t1 i1 : Expr) (ifs0 ifs1 : List Expr) (scope : Scope) (pos : Pos) (it acc : Value) (env : Env) :
    compTurn (gex2 elt t0 i0 t1 i1 ifs0 ifs1 scope pos) 1 it acc env = (do
      standAt i1.pos
      match ← pyNext it with
      | none => pure (.done .next)
      | some v =>
        letOwnedTupleGo t1 it v
        assign t1 env v
        let mut ok := true
        for c in ifs1 do
          if ok then ok ← isTrue c env (eval c env)
        if ok then
          (do let v ← eval elt env; standAt elt.pos; let _ ← yieldOut env v)
        again (.compLoop (gex2 elt t0 i0 t1 i1 ifs0 ifs1 scope pos) 1 it acc env)) := by rfl
section
variable {Y : Cx} {S : Addr} {RS : OwnR} {ip : List (Addr × Obj)} {fp : List Addr} {Aw : Around} {elt t0 i0 t1 i1 : Expr} {ifs0 ifs1 : List Expr} {scope : Scope} {pos : Pos} {it : Addr} {tn : Nat → Heap → Prop} {J : It} {g : TG} {tt : TT} {te : TE} {vs : List Nat} {σ : L2.St}
  {Cy : V → Prop} {Py : List V → V → Hp → Prop} {Pd : List V → Hp → Prop} {W : Nat → Nat → List V → Hp → Prop} {R : GenEnd} {YP : Protocol}
/-- the loop of the second for, over the first one's frame -/
theorem seg_g1 {k1 : Result → Sem PySem.Fin} {c0 : Code} {p0 : Pos} (hY0 : Y.xe = fun _ _ => False) (hov : Aw.over (.compLoop (gex2 elt t0 i0 t1 i1 ifs0 ifs1 scope pos) 1 (.ref it) .none Y.env) [.ret k1 none false [] c0 p0 []] = Y.A) (hc : Y.calm = true) (hco : Y.env.scope.isCoroutine = false) (T : Turn Y.prog Y.w Y.K t1 J fp it tn) (pg : PG Y t1 g) (pt : PTs Y ifs1 tt) (pe : PE Y elt te)
    (hturn : GW J g tt te vs σ Cy Py Pd W) (hRS : ∀ ys o, RS ys o → ∀ v, o.data ≠ .cell v) (hpn : ∀ p ∈ Y.pn ++ ip, p.1 ≠ S) (hA : Apart Y S)
    (hfp : ∀ b ∈ fp, b ≠ S ∧ b ≠ Y.env.locals ∧ b ∉ Y.fs ∧ (b ∈ Y.ex ∨ Y.s_0.heap.objs.size ≤ b) ∧ (∀ x c, Y.env.cells.lookup x = some c → c ≠ b) ∧ ∀ p ∈ Y.pn ++ ip, p.1 ≠ b)
    (hR : ∀ n s₀ ys H' s', n + ys.length = sizeLine → GIR Y S RS ip ys (wipe σ vs) H' s' → Pd ys H' → Seg (model Y.prog Y.w) Aw R YP n s₀ c0 (k1 (.ok .next)) [] s')
    (hY : ∀ n s₀ ys y v ip σ' H' s' kap, n + 1 + ys.length = sizeLine → RelV y v → GIR Y S RS ip ys σ' H' s' → Py ys y H' → (∀ s'', SleptR S RS Cy y s' s'' → kap (.send .none) s'') → YP n s₀ v s' kap) :
    ∀ (m i n : Nat) (ys : List V) (s₀ s : Shared) (H : Hp), n + ys.length = sizeLine → W i m ys H → tn i s.heap → (∀ b ∈ fp, H b = none) → GIR Y S RS ip ys (wipe σ vs) H s →
      Seg (model Y.prog Y.w) Aw R YP n s₀ (.compLoop (gex2 elt t0 i0 t1 i1 ifs0 ifs1 scope pos) 1 (.ref it) .none Y.env) ((model Y.prog Y.w).den (.compLoop (gex2 elt t0 i0 t1 i1 ifs0 ifs1 scope pos) 1 (.ref it) .none Y.env)) [.ret k1 none false [] c0 p0 []] s := by
  intro m
  induction m using Nat.strongRecOn with
  | ind m ih =>
    intro i n ys s₀ s H hn w5 st5 n5 hG
    obtain ⟨ob, rs, I5⟩ := hG
    have stat : ∀ {σ' : L2.St} {H' : Hp} {s' : Shared} {o' : Obj}, Inv Y ((S, o') :: ip) σ' H' s' → (∀ b ∈ fp, H' b = none) → ∀ b ∈ fp, FpOk Y ((S, o') :: ip) H' b := fun {σ' H' s' o'} I' hn b hb => by
      obtain ⟨q1, q2, q3, q4, q5, q6⟩ := hfp b hb
      refine ⟨hn b hb, q2, q3, q4, q5, fun p hp => ?_⟩
      rcases List.mem_append.mp hp with z | z
      · exact q6 p (List.mem_append_left _ z)
      · rcases List.mem_cons.mp z with z | z
        · rw [z]; exact Ne.symm q1
        · exact q6 p (List.mem_append_right _ z)
    show Seg _ Aw _ _ _ s₀ _ ((compTurn (gex2 elt t0 i0 t1 i1 ifs0 ifs1 scope pos) 1 (.ref it) .none Y.env).onRaise (fun x => do noteFrame x Y.env; theTreesLotGoes x)) [.ret k1 none false [] c0 p0 []] s
    rw [genTurn2_in, Sem.onRaise_eq_wrap]
    refine seg_bind_wrap (wpAny_standAt ?_)
    rcases hturn i m ys H w5 with ⟨stop, qq⟩ | ⟨go, Nx, hNx, step⟩
    · refine seg_bind_wrap ?_
      rw [hov]
      have td := T.done Y rfl rfl rfl hc i _ s _ H (fun _ _ => False) I5 (stat I5 n5) st5 stop
      refine thnF td fun r s6 ⟨hr, I6⟩ => ?_
      subst hr
      exact seg_leaf (.ok .next) (hR n s₀ ys H s6 hn ⟨ob, rs, I6⟩ qq)
    · refine seg_bind_wrap ?_
      rw [hov]
      have ti := T.item Y rfl rfl rfl hc i _ s _ H (fun _ _ => False) I5 (stat I5 n5) st5 go
      refine thnF ti fun r s6 ⟨u, hr, h6⟩ => ?_
      subst hr
      refine seg_bind_wrap ?_
      rw [hov]
      refine thnF h6 fun _ s7 ⟨x, H7, I7, r7, y7, st7, n7⟩ => ?_
      have I7' := I7.pinned (stat I7 n7) (T.obj _ _ st7)
      have run1 := pg.run _ s7 _ H7 x u _ I7' r7 (step x H7 y7)
      rw [hY0] at run1
      refine seg_bind_wrap ?_
      rw [hov]
      refine thnF run1 fun _ s8 ⟨σ8, H8, I8, hw8, q8⟩ => ?_
      have run2 := pt.run _ s8 σ8 H8 _ I8 q8
      rw [hY0] at run2
      refine seg_bind_wrap ?_
      rw [hov]
      refine thnF run2 fun b s9 ⟨H9, I9, q9⟩ => ?_
      have fin : ∀ {s₀ s' : Shared} {H' : Hp} {o' : Obj} {ys' : List V} {n' : Nat}, n' + ys'.length = sizeLine → RS ys' o' → Inv Y (((S, o') :: ip) ++ pinsAt fp s7.heap) σ8 H' s' → Nx ys' H' →
          Seg (model Y.prog Y.w) Aw R YP n' s₀ (.compLoop (gex2 elt t0 i0 t1 i1 ifs0 ifs1 scope pos) 1 (.ref it) .none Y.env) ((model Y.prog Y.w).den (.compLoop (gex2 elt t0 i0 t1 i1 ifs0 ifs1 scope pos) 1 (.ref it) .none Y.env)) [.ret k1 none false [] c0 p0 []] s' := fun {s₀ s' H' o' ys' n'} hn' rs' I' nx => by
        obtain ⟨m', hm, w'⟩ := hNx ys' H' nx
        have pin' : ∀ b ∈ fp, ∀ o, s7.heap.get? b = some o → s'.heap.get? b = some o ∧ H' b = none := fun b hb o e =>
          let z := I'.pin (b, o) (List.mem_append_right _ (List.mem_append_right _ (mem_pinsAt hb e)))
          ⟨z.1, z.2.1⟩
        have hl : (wipe σ vs).length = σ8.length := by rw [← hw8, wipe_length]
        refine ih m' hm (i + 1) n' ys' s₀ s' H' hn' w' (T.keep _ _ _ st7 fun b hb o e => (pin' b hb o e).1) (fun b hb => ?_) ⟨o', rs', (I'.unpinned (pins := (S, o') :: ip)).weak hl (fun j v e => ?_)⟩
        · obtain ⟨o, e, _⟩ := T.obj _ _ st7 b hb
          exact (pin' b hb o e).2
        · rw [← hw8] at e
          exact (wipe_some e).1
      cases b with
      | false =>
        simp only [Bool.false_eq_true, if_false] at q9 ⊢
        exact seg_again rfl (fin hn rs I9 q9)
      | true =>
        simp only [if_true] at q9 ⊢
        have hy : ∀ v, yieldOut Y.env v = yieldValue v := fun v => by simp only [yieldOut, hco, Bool.false_eq_true, if_false]
        simp only [hy]
        rw [Sem.bind_eq_wrap', Sem.bind_eq_wrap', Sem.wrap_wrap, Sem.wrap_wrap]
        have run3 := pe.run _ s9 σ8 H9 _ I9 q9
        rw [hY0] at run3
        refine seg_wrap ?_
        rw [hov]
        refine thnF run3 fun z s10 ⟨yv, H10, I10, r10, hlt, py, nx⟩ => ?_
        obtain ⟨n, rfl⟩ : ∃ k, n = k + 1 := ⟨n - 1, by omega⟩
        have G10 : GIR Y S RS (ip ++ pinsAt fp s7.heap) ys σ8 H10 s10 := ⟨ob, rs, I10⟩
        refine seg_at (seg_yield rfl rfl rfl (hY n s₀ ys yv z _ σ8 H10 s10 _ hn r10 G10 py fun s'' zz => ?_))
        obtain ⟨o', rs', I''⟩ := G10.woken hRS (fun p hp => hpn p (List.mem_append_left _ hp)) (fun p hp => (List.mem_append.mp hp).elim (fun z => hpn p (List.mem_append_right _ z)) fun z => (hfp _ (of_pinsAt z).1).1) hA zz
        refine seg_again rfl (fin (by rw [List.length_append, List.length_singleton]; omega) rs' I'' (nx zz.go))
end
/-- what a turn of the first for does -/
def GW2 (J : It) (g0 : TG) (tt0 : TT) (wi1 : TI) (g1 : TG) (tt1 : TT) (te : TE) (vs vs1 : List Nat) (σ : L2.St) (Cy : V → Prop) (Py : List V → V → Hp → Prop) (Pd : List V → Hp → Prop) (W : Nat → Nat → List V → Hp → Prop) : Prop :=
  ∀ i m ys H, W i m ys H → (J.stop i H ∧ Pd ys H) ∨ (J.go i H ∧ ∃ Nx : List V → Hp → Prop, (∀ ys' H', Nx ys' H' → ∃ m', m' < m ∧ W (i + 1) m' ys' H') ∧ ∀ x H', J.yld i H x H' → g0 x (wipe σ vs) H' fun σ2 H2 => wipe σ2 vs = wipe σ vs ∧ tt0 σ2 H2 fun b H3 =>
    if b = true then wi1 σ2 H3 fun J1 H4 => ∃ W1 : Nat → Nat → List V → Hp → Prop, (∃ m, W1 0 m ys H4) ∧ GW J1 g1 tt1 te vs1 σ2 Cy Py Nx W1 else Nx ys H3)
section
variable {X : Cx} {σ : L2.St} {elt t0 i0 t1 i1 : Expr} {ifs0 ifs1 : List Expr} {scope : Scope} {gpos : Pos} {g0 g1 : TG} {tt0 tt1 : TT} {wi1 : TI} {te : TE} {vs vs1 : List Nat} {k : Nat} {Cy : V → Prop} {Py : List V → V → Hp → Prop} {Pd : List V → Hp → Prop}
theorem loop2 (hc : X.calm = true) (hco : scope.isCoroutine = false) (hsub : ∀ j, j ∈ vs1 → j ∈ vs)
    (hg0 : ∀ (A : Around) (s : Shared) (H : Hp) (C : Addr) (code : Value) (fp : List Addr) (pn : List (Addr × Obj)), Room k A → PG (gxOf X A s H (gxEnv X scope C code) fp pn) t0 g0)
    (ht0 : ∀ (A : Around) (s : Shared) (H : Hp) (C : Addr) (code : Value) (fp : List Addr) (pn : List (Addr × Obj)), Room k A → PTs (gxOf X A s H (gxEnv X scope C code) fp pn) ifs0 tt0)
    (hi1 : ∀ (A : Around) (s : Shared) (H : Hp) (C : Addr) (code : Value) (fp : List Addr) (pn : List (Addr × Obj)), Room k A → PI (gxOf X A s H (gxEnv X scope C code) fp pn) t1 i1 wi1)
    (hg1 : ∀ (A : Around) (s : Shared) (H : Hp) (C : Addr) (code : Value) (fp : List Addr) (pn : List (Addr × Obj)), Room k A → PG (gxOf X A s H (gxEnv X scope C code) fp pn) t1 g1)
    (ht1 : ∀ (A : Around) (s : Shared) (H : Hp) (C : Addr) (code : Value) (fp : List Addr) (pn : List (Addr × Obj)), Room k A → PTs (gxOf X A s H (gxEnv X scope C code) fp pn) ifs1 tt1)
    (he : ∀ (A : Around) (s : Shared) (H : Hp) (C : Addr) (code : Value) (fp : List Addr) (pn : List (Addr × Obj)), Room k A → PE (gxOf X A s H (gxEnv X scope C code) fp pn) elt te)
    (hs1 : ∀ (env : Env) x, foldedSetIterable i1 env x = pure x) :
    LoopX X k σ elt t0 i0 ifs0 [⟨t1, i1, ifs1, 0⟩] scope gpos vs (fun J H2 => ∃ W : Nat → Nat → List V → Hp → Prop, (∃ m, W 0 m [] H2) ∧ GW2 J g0 tt0 wi1 g1 tt1 te vs vs1 σ Cy Py Pd W) Cy Py Pd := by
  intro Aw S RS s3 H3 C code fp pn it tn J R YP rd T hRS hpn hS hA hR hY s₀ s H ⟨W, ⟨m0, w0⟩, hturn⟩ st hn hG
  have pg0 := hg0 _ s3 H3 C code fp pn rd
  have pt0 := ht0 _ s3 H3 C code fp pn rd
  have pi1 := hi1 _ s3 H3 C code fp pn rd
  have pg1 := hg1 _ s3 H3 C code fp pn rd
  have pt1 := ht1 _ s3 H3 C code fp pn rd
  have pe1 := he _ s3 H3 C code fp pn rd
  have hce : (gxEnv X scope C code).scope.isCoroutine = false := hco
  generalize gxEnv X scope C code = ce at *
  have stat : ∀ {σ' : L2.St} {H' : Hp} {s' : Shared} {o' : Obj}, Inv (gxOf X (Aw.deeper ce) s3 H3 ce fp pn) [(S, o')] σ' H' s' → (∀ b ∈ fp, H' b = none) → ∀ b ∈ fp, FpOk (gxOf X (Aw.deeper ce) s3 H3 ce fp pn) [(S, o')] H' b := fun {σ' H' s' o'} I' hn b hb =>
    ⟨hn b hb, (I'.ok.exf b hb).1, I'.ok.exfs b hb, .inl hb, fun x c e => (I'.ok.exf b hb).2 x c e, fun p hp => by
      rcases List.mem_append.mp hp with z | z
      · exact (hpn p z).2 b hb
      · rw [List.mem_singleton.mp z]
        exact Ne.symm (hS b hb)⟩
  have main : ∀ (m i n : Nat) (ys : List V) (s₀ s : Shared) (H : Hp), n + ys.length = sizeLine → W i m ys H → tn i s.heap → (∀ b ∈ fp, H b = none) → GIR (gxOf X (Aw.deeper ce) s3 H3 ce fp pn) S RS [] ys (wipe σ vs) H s →
      Seg (model X.prog X.w) Aw R YP n s₀ (.compLoop (gex2 elt t0 i0 t1 i1 ifs0 ifs1 scope gpos) 0 (.ref it) .none ce) ((model X.prog X.w).den (.compLoop (gex2 elt t0 i0 t1 i1 ifs0 ifs1 scope gpos) 0 (.ref it) .none ce)) [] s := by
    intro m
    induction m using Nat.strongRecOn with
    | ind m ih =>
      intro i n ys s₀ s H hn w5 st5 n5 hG
      obtain ⟨ob, rs, I5⟩ := hG
      show Seg _ Aw _ _ _ s₀ _ ((compTurn (gex2 elt t0 i0 t1 i1 ifs0 ifs1 scope gpos) 0 (.ref it) .none ce).onRaise (leaving ce)) [] s
      rw [genTurn2_out, Sem.onRaise_eq_wrap]
      refine seg_bind_wrap (wpAny_standAt ?_)
      rcases hturn i m ys H w5 with ⟨stop, qq⟩ | ⟨go, Nx, hNx, step⟩
      · refine seg_bind_wrap ?_
        rw [over_gen]
        have td := T.done (gxOf X (Aw.deeper ce) s3 H3 ce fp pn) rfl rfl rfl hc i _ s _ H (fun _ _ => False) I5 (stat I5 n5) st5 stop
        refine thnF td fun r s6 ⟨hr, I6⟩ => ?_
        subst hr
        exact seg_end (.ok .next) (hR n s₀ ys [] _ H s6 hn ⟨ob, rs, I6⟩ qq)
      · refine seg_bind_wrap ?_
        rw [over_gen]
        have ti := T.item (gxOf X (Aw.deeper ce) s3 H3 ce fp pn) rfl rfl rfl hc i _ s _ H (fun _ _ => False) I5 (stat I5 n5) st5 go
        refine thnF ti fun r s6 ⟨u, hr, h6⟩ => ?_
        subst hr
        refine seg_bind_wrap ?_
        rw [over_gen]
        refine thnF h6 fun _ s7 ⟨x, H7, I7, r7, y7, st7, n7⟩ => ?_
        have I7' := I7.pinned (stat I7 n7) (T.obj _ _ st7)
        refine seg_bind_wrap ?_
        rw [over_gen]
        refine thnF (pg0.run _ s7 _ H7 x u _ I7' r7 (step x H7 y7)) fun _ s8 ⟨σ8, H8, I8, hw8, q8⟩ => ?_
        refine seg_bind_wrap ?_
        rw [over_gen]
        refine thnF (pt0.run _ s8 σ8 H8 _ I8 q8) fun b s9 ⟨H9, I9, q9⟩ => ?_
        have hl : (wipe σ vs).length = σ8.length := by rw [← hw8, wipe_length]
        have fin : ∀ {s₀ s' : Shared} {H' : Hp} {o' : Obj} {ys' : List V} {n' : Nat} {σ' : L2.St}, n' + ys'.length = sizeLine → RS ys' o' → Inv (gxOf X (Aw.deeper ce) s3 H3 ce fp pn) ([(S, o')] ++ pinsAt fp s7.heap) σ' H' s' → σ'.length = σ8.length → (∀ j v, σ8[j]? = some (some v) → j ∉ vs → σ'[j]? = some (some v)) → Nx ys' H' →
            Seg (model X.prog X.w) Aw R YP n' s₀ (.compLoop (gex2 elt t0 i0 t1 i1 ifs0 ifs1 scope gpos) 0 (.ref it) .none ce) ((model X.prog X.w).den (.compLoop (gex2 elt t0 i0 t1 i1 ifs0 ifs1 scope gpos) 0 (.ref it) .none ce)) [] s' := fun {s₀ s' H' o' ys' n' σ'} hn' rs' I' hl' hk' nx => by
          obtain ⟨m', hm, w'⟩ := hNx ys' H' nx
          have pin' : ∀ b ∈ fp, ∀ o, s7.heap.get? b = some o → s'.heap.get? b = some o ∧ H' b = none := fun b hb o e =>
            let z := I'.pin (b, o) (List.mem_append_right _ (List.mem_append_right _ (mem_pinsAt hb e)))
            ⟨z.1, z.2.1⟩
          refine ih m' hm (i + 1) n' ys' s₀ s' H' hn' w' (T.keep _ _ _ st7 fun b hb o e => (pin' b hb o e).1) (fun b hb => ?_) ⟨o', rs', (I'.unpinned (pins := [(S, o')])).weak (hl.trans hl'.symm) (fun j v e => ?_)⟩
          · obtain ⟨o, e, _⟩ := T.obj _ _ st7 b hb
            exact (pin' b hb o e).2
          · rw [← hw8] at e
            obtain ⟨e1, e2⟩ := wipe_some e
            exact hk' j v e1 e2
        cases b with
        | false =>
          simp only [Bool.false_eq_true, if_false] at q9 ⊢
          exact seg_again rfl (fin hn rs I9 rfl (fun _ _ e _ => e) q9)
        | true =>
          simp only [if_true] at q9 ⊢
          refine seg_bind_wrap ?_
          rw [over_gen]
          refine thnF (pi1.run _ s9 σ8 H9 _ I9 q9) fun xv s10 hx => ?_
          refine seg_bind_wrap (wpAny_standAt ?_)
          refine seg_bind_wrap (wpAny_of_eq (hs1 _ xv) ?_)
          refine seg_bind_wrap (wpAny_holding ?_)
          rw [over_gen]
          refine thnF hx fun itv s11 h11 => ?_
          obtain ⟨it1, fp1, tn1, J1, H11, rfl, I11, T1, st11, f11, W1, ⟨m1, w1⟩, hW1⟩ := h11
          rw [Sem.bind_eq_wrap', Sem.wrap_wrap]
          refine seg_call fun p => ?_
          have hov : ∀ (kk : Result → Sem PySem.Fin), Aw.over (.compLoop (gex2 elt t0 i0 t1 i1 ifs0 ifs1 scope gpos) 1 (.ref it1) .none ce) [.ret kk none false [] (.compLoop (gex2 elt t0 i0 t1 i1 ifs0 ifs1 scope gpos) 0 (.ref it) .none ce) p []] = Aw.deeper ce := fun kk => (over_loop rfl rfl).trans over_gen
          have loop : ∀ (kk : Result → Sem PySem.Fin), kk (.ok .next) = .pure (.again (.compLoop (gex2 elt t0 i0 t1 i1 ifs0 ifs1 scope gpos) 0 (.ref it) .none ce)) → ∀ s₀, Seg (model X.prog X.w) Aw R YP n s₀ (.compLoop (gex2 elt t0 i0 t1 i1 ifs0 ifs1 scope gpos) 1 (.ref it1) .none ce) ((model X.prog X.w).den (.compLoop (gex2 elt t0 i0 t1 i1 ifs0 ifs1 scope gpos) 1 (.ref it1) .none ce)) [.ret kk none false [] (.compLoop (gex2 elt t0 i0 t1 i1 ifs0 ifs1 scope gpos) 0 (.ref it) .none ce) p []] s11 := fun kk hkk s₀ => seg_g1 (k1 := kk) (Y := gxOf X (Aw.deeper ce) s3 H3 ce fp pn) (S := S) (RS := RS) (ip := pinsAt fp s7.heap) (fp := fp1) (Aw := Aw) (vs := vs1) (σ := σ8) (pos := gpos) (R := R) (YP := YP) rfl (hov _) hc hce T1 pg1 pt1 pe1 hW1 hRS
            (fun p hp => (List.mem_append.mp hp).elim (fun z => (hpn p z).1) fun z => hS _ (of_pinsAt z).1) hA
            (fun b hb => by
              obtain ⟨_, q2, q3, q4, q5, q6⟩ := f11 b hb
              exact ⟨fun e => q6 (S, ob) (List.mem_append_right _ List.mem_cons_self) e.symm, q2, q3, q4, q5, fun p hp => q6 p ((List.mem_append.mp hp).elim (fun z => List.mem_append_left _ z) fun z => List.mem_append_right _ (List.mem_cons_of_mem _ z))⟩)
            (fun n' s₀' ys' H' s' hn' hG' nx => by
              obtain ⟨o', rs', J'⟩ := hG'
              rw [hkk]
              exact seg_again rfl (fin hn' rs' J' (wipe_length _ _) (fun j v e hj => by rw [wipe_keep fun z => hj (hsub j z)]; exact e) nx))
            hY m1 0 n ys s₀ s11 H11 hn w1 st11 (fun b hb => (f11 b hb).1) ⟨ob, rs, I11.weak (wipe_length _ _) (fun j v e => (wipe_some e).1)⟩
          show Seg _ Aw _ _ _ s₀ _ ((compStart (gex2 elt t0 i0 t1 i1 ifs0 ifs1 scope gpos) 1 (.ref it1) .none ce).onRaise (fun x => do noteFrame x ce; standAt theWindowsPlace)) _ s11
          unfold compStart
          rw [Sem.onRaise_eq_wrap]
          show Seg _ Aw _ _ _ s₀ _ ((ask >>= _).wrap _ _ _ _) _ s11
          refine seg_bind_wrap (wpAny_askSetting ?_)
          split
          · exact seg_again rfl (loop _ rfl s₀)
          · first
              | exact seg_bind_wrap (wpAny_rule (seg_bind_wrap (wpAny_standAt (seg_bind_wrap (T1.self _ 0 s11 _ _ st11 (seg_again rfl (loop _ rfl s₀)))))))
              | (refine seg_bind_wrap (wpAny_rule ?_); show Seg _ Aw _ _ _ s₀ _ ((standAt i1.pos >>= _).wrap _ _ _ _) _ s11; exact seg_bind_wrap (wpAny_standAt (seg_bind_wrap (T1.self _ 0 s11 _ _ st11 (seg_again rfl (loop _ rfl s₀))))))
  exact main m0 0 sizeLine [] s₀ s H rfl w0 st hn hG
end
/-- any (b0 = true), all (b0 = false) of two fors -/
def tAnyX2 (b0 : Bool) (P : Addr) (wi : TI) (g0 : TG) (tt0 : TT) (wi1 : TI) (g1 : TG) (tt1 : TT) (te : TE) (vs vs1 : List Nat) : TE := fun σ H Q =>
  wi σ H fun J H1 => GxR.TabG H1 P ∧ ∀ H2, GxR.Tabbed P H1 H2 → ∃ W : Nat → Nat → List V → Hp → Prop, (∃ m, W 0 m [] H2) ∧
    GW2 J g0 tt0 wi1 g1 tt1 te vs vs1 σ (fun y => y = .bl (!b0)) (fun _ y H' => ∃ b, y = .bl b ∧ (b = b0 → Q (.bl b0) H')) (fun _ H' => Q (.bl (!b0)) H') W
section
variable {X : Cx} {c P : Addr} {elt t0 i0 t1 i1 : Expr} {ifs0 ifs1 : List Expr} {scope : Scope} {own own1 : List (Str × Nat)} {p pos gpos : Pos} {wi wi1 : TI} {g0 g1 : TG} {tt0 tt1 : TT} {te : TE} {k : Nat}
structure GenP2 (X : Cx) (k : Nat) (c P : Addr) (elt t0 i0 t1 i1 : Expr) (ifs0 ifs1 : List Expr) (scope : Scope) (own own1 : List (Str × Nat)) (wi : TI) (g0 : TG) (tt0 : TT) (wi1 : TI) (g1 : TG) (tt1 : TT) (te : TE) : Prop where
  hr : Room (k + 7) X.A
  hc : X.calm = true
  hN : X.N.Nodup
  TB : GxR.TabB X.base X.mg c P
  hcode : X.env.code = .ref c
  S : GenSX scope
  hi : PI X t0 i0 wi
  ok : BlkOk X.N X.env.scope scope own
  sub : ∀ j, j ∈ own1.map (·.2) → j ∈ own.map (·.2)
  hg0 : ∀ (A : Around) (s : Shared) (H : Hp) (C : Addr) (code : Value) (fp : List Addr) (pn : List (Addr × Obj)), Room k A → PG (gxOf X A s H (gxEnv X scope C code) fp pn) t0 g0
  ht0 : ∀ (A : Around) (s : Shared) (H : Hp) (C : Addr) (code : Value) (fp : List Addr) (pn : List (Addr × Obj)), Room k A → PTs (gxOf X A s H (gxEnv X scope C code) fp pn) ifs0 tt0
  hi1 : ∀ (A : Around) (s : Shared) (H : Hp) (C : Addr) (code : Value) (fp : List Addr) (pn : List (Addr × Obj)), Room k A → PI (gxOf X A s H (gxEnv X scope C code) fp pn) t1 i1 wi1
  hg1 : ∀ (A : Around) (s : Shared) (H : Hp) (C : Addr) (code : Value) (fp : List Addr) (pn : List (Addr × Obj)), Room k A → PG (gxOf X A s H (gxEnv X scope C code) fp pn) t1 g1
  ht1 : ∀ (A : Around) (s : Shared) (H : Hp) (C : Addr) (code : Value) (fp : List Addr) (pn : List (Addr × Obj)), Room k A → PTs (gxOf X A s H (gxEnv X scope C code) fp pn) ifs1 tt1
  he : ∀ (A : Around) (s : Shared) (H : Hp) (C : Addr) (code : Value) (fp : List Addr) (pn : List (Addr × Obj)), Room k A → PE (gxOf X A s H (gxEnv X scope C code) fp pn) elt te
  hs : ∀ v, genFold i0 X.env v = pure v
  hs1 : ∀ (env : Env) x, foldedSetIterable i1 env x = pure x
theorem pe_anyX2 (G : GenP2 X k c P elt t0 i0 t1 i1 ifs0 ifs1 scope own own1 wi g0 tt0 wi1 g1 tt1 te) (hg : Gl X "any") (hm : X.mg "any" = none)
    (he : starEach [gex2 elt t0 i0 t1 i1 ifs0 ifs1 scope gpos] X.env = (false, eval (gex2 elt t0 i0 t1 i1 ifs0 ifs1 scope gpos) X.env) :: starEach [] X.env := by rfl) :
    PE X (.Call (.Name "any" p) [gex2 elt t0 i0 t1 i1 ifs0 ifs1 scope gpos] [] pos) (tAnyX2 true P wi g0 tt0 wi1 g1 tt1 te (own.map (·.2)) (own1.map (·.2))) := by
  refine ⟨fun pins s σ H Q I h => ?_⟩
  refine wpAny_Call_Name_kw (ld_blt I hg hm boot_any (PyProof.Rows.callWith_builtin1 ?_ he (by rfl)))
  rw [he]
  show wpAny _ _ (spliced ((false, eval (gex2 elt t0 i0 t1 i1 ifs0 ifs1 scope gpos) X.env) :: backTo pos (starEach [] X.env))) _ _ s
  refine Calls.spliced_cons (gen_madeN (k := k) (G.hr.mono (by omega)) G.hN G.TB G.hcode G.S G.hi G.ok (loop2 (X := X) (σ := σ) G.hc G.S.co G.sub G.hg0 G.ht0 G.hi1 G.hg1 G.ht1 G.he G.hs1) G.hs I h fun u z M => ?_)
  refine Calls.spliced_nil (call_anyX (X := X) (A := X.A) (k := k + 1) (G.hr.mono (by omega)) I.ok.frames (fun ys y H' h => h.imp fun _ z => z.1) M fun b H' s' I' h => ?_)
  rcases h with ⟨rfl, ys, b, e, h2⟩ | ⟨rfl, ys, h2⟩
  · cases e
    exact ⟨.bl true, H', I', rfl, h2 rfl⟩
  · exact ⟨.bl false, H', I', rfl, h2⟩
end
end Ph
namespace Ph
open PySem PySem.Spec PyProof.Rows L2 LamX
theorem lc_coreS {X : Cx} {pins : List (Addr × Obj)} {s : Shared} {σ : L2.St} {H : Hp} {Q : VK} {elt tg iter : Expr} {ifs : List Expr} {scope : Scope} {own : List (Str × Nat)} {pos pos' : Pos} {wi : TI} {g : TG} {ttS : L2.St → TT} {te : TE} {use : Option (Value → Sem Unit)} {Qf : Value → Shared → Prop}
    (hc : X.calm = true) (hN : X.N.Nodup) (I : Inv X pins σ H s) (hi : PI X tg iter wi) (ok : BlkOk X.N X.env.scope scope own)
    (hg : ∀ (s : Shared) (H : Hp) (C : Addr) (cl : List (Str × Addr)) (fp : List Addr), PG (X.blk s H scope (compEnvC scope cl C X.env) fp) tg g) (ht : ∀ (s : Shared) (H : Hp) (C : Addr) (cl : List (Str × Addr)) (fp : List Addr) (pinsX : List (Addr × Obj)) (σX : L2.St), Inv X pinsX σX H s → (∀ b ∈ fp, FpOk X pinsX H b) → PTs (X.blk s H scope (compEnvC scope cl C X.env) fp) ifs (ttS σX))
    (he : ∀ (s : Shared) (H : Hp) (C : Addr) (cl : List (Str × Addr)) (fp : List Addr), PE (X.blk s H scope (compEnvC scope cl C X.env) fp) elt te) (hs : ∀ x, foldedSetIterable iter X.env x = pure x)
    (h : tLc wi g (ttS σ) te (own.map (·.2)) σ H Q)
    (hRR : ∀ D C s' m H', Inv X pins σ H' s' → Q (.ref D) H' → s'.heap.Ns C m → FpOk X pins H' C → compPost (model X.prog X.w) X.A X.xe use Qf (.ref D) C (.ok .next) s') :
    wpAny (model X.prog X.w) X.A (comprehension (.ListComp elt [⟨tg, iter, ifs, 0⟩] scope pos) scope X.env pos' (newList []) false (eval iter X.env) use) Qf X.xe s := by
  have hfree : ∀ y ∈ scope.names, y.2 = .free → ∃ c, X.env.cells.lookup y.1 = some c := fun y hy e => by
    rcases ok.free y hy e with k | k
    · exact I.ok.has _ (.inl k)
    · exact I.ok.has _ (.inr k)
  refine wpAny_comprehension_free (use := use) rfl hs (closure_ok hfree) ok.kind (fun y hy e => by rw [ok.uniq y hy, e])
    (thn (hi.run pins s σ H _ I h) fun xv s1 hx => thn hx fun itv s2 h2 => ?_)
  obtain ⟨it, fp, tn, J, H2, e, I2, T, st2, f2, q⟩ := h2
  subst e
  refine wpAny_newObj_type (newEnv_comp ?_) (by show 0 ≤ sizeLine; decide)
  generalize hD : s2.heap.objs.size = D
  have hDn : H2 D = none := I2.hok.fresh (Nat.le_of_eq hD)
  obtain ⟨W, ⟨m0, w0⟩, turn⟩ := q D hDn
  -- the new list
  generalize hs3 : ({ s2 with heap := s2.heap.push { cls := .type "list", data := .seq ([] : List Value).toArray } } : Shared) = s3
  have I3 : Inv X pins σ (upd H2 D (.lst [])) s3 := by
    rw [← hs3]
    refine I2.laid (t' := s2.toks) (fun b o e => Heap.get?_push_of_some _ e) (Nat.le_of_eq hD) ⟨Nat.zero_le _, [], 0, .nil, ?_⟩
    rw [← hD]
    exact Heap.get?_push_size _ rfl
  have h3 : s3.heap = s2.heap.push { cls := .type "list", data := .seq ([] : List Value).toArray } := by rw [← hs3]
  have sz : ∀ b ∈ fp, b < s2.heap.objs.size := fun b hb => by
    obtain ⟨o, e, _⟩ := T.obj _ _ st2 b hb
    exact Heap.lt_size e
  have f3 : ∀ b ∈ fp, FpOk X pins (upd H2 D (.lst [])) b ∧ b < s3.heap.objs.size := fun b hb => by
    have hlt := sz b hb
    refine ⟨⟨?_, (f2 b hb).2⟩, by rw [h3, Heap.size_push]; exact Nat.lt_succ_of_lt hlt⟩
    rw [upd_ne (by rw [← hD]; exact Nat.ne_of_lt hlt)]
    exact (f2 b hb).1
  have st3 : tn 0 s3.heap := T.keep _ _ _ st2 fun b _ o e => by rw [h3]; exact Heap.get?_push_of_some _ e
  have I4 := block_start I3 ok hN f3
  have pg := hg s3 (upd H2 D (.lst [])) s3.heap.objs.size (cellsFrom (s3.heap.objs.size + 1) scope.names (cloFrom X.env.cells scope.names [])) fp
  have pt := ht s3 (upd H2 D (.lst [])) s3.heap.objs.size (cellsFrom (s3.heap.objs.size + 1) scope.names (cloFrom X.env.cells scope.names [])) fp pins σ I3 fun b hb => (f3 b hb).1
  have pe := he s3 (upd H2 D (.lst [])) s3.heap.objs.size (cellsFrom (s3.heap.objs.size + 1) scope.names (cloFrom X.env.cells scope.names [])) fp
  show codeAny _ _ (.compStart (.ListComp elt [⟨tg, iter, ifs, 0⟩] scope pos) 0 (.ref it) (.ref D) (compEnvC scope (cellsFrom (s3.heap.objs.size + 1) scope.names (cloFrom X.env.cells scope.names [])) s3.heap.objs.size X.env)) (compPost (model X.prog X.w) X.A X.xe use Qf (.ref D) s3.heap.objs.size) { s3 with heap := pushCells (s3.heap.push { cls := .type "dict", data := .dict #[] }) scope.names }
  have nfp : ∀ b ∈ fp, (upd H2 D (.lst [])) b = none := fun b hb => (f3 b hb).1.1
  generalize hce : compEnvC scope (cellsFrom (s3.heap.objs.size + 1) scope.names (cloFrom X.env.cells scope.names [])) s3.heap.objs.size X.env = ce at I4 pg pt pe ⊢
  have cL : ce.locals = s3.heap.objs.size := by subst hce; rfl
  generalize hH3 : upd H2 D (.lst []) = H3 at I3 I4 pg pt pe w0 nfp f3
  generalize hs4 : ({ s3 with heap := pushCells (s3.heap.push { cls := .type "dict", data := .dict #[] }) scope.names } : Shared) = s4 at I4 ⊢
  have st4 : tn 0 s4.heap := T.keep _ _ _ st3 fun b _ o e => by rw [← hs4]; exact pushCells_keeps _ _ _ _ (Heap.get?_push_of_some _ e)
  have stat : ∀ {σ' : L2.St} {H' : Hp} {s' : Shared}, Inv (X.blk s3 H3 scope ce fp) [] σ' H' s' → (∀ b ∈ fp, H' b = none) → ∀ b ∈ fp, FpOk (X.blk s3 H3 scope ce fp) [] H' b := fun {σ' H' s'} I' hn b hb =>
    ⟨hn b hb, (I'.ok.exf b hb).1, I'.ok.exfs b hb, .inl hb, fun x c e => (I'.ok.exf b hb).2 x c e, fun p hp => absurd (show p ∈ ([] : List (Addr × Obj)) ++ [] from hp) (by simp)⟩
  have loop : codeAny (model X.prog X.w) X.A (.compLoop (.ListComp elt [⟨tg, iter, ifs, 0⟩] scope pos) 0 (.ref it) (.ref D) ce) (compPost (model X.prog X.w) X.A X.xe use Qf (.ref D) s3.heap.objs.size) s4 := by
    refine compLoop_any (fun n s' => ∃ i H', Inv (X.blk s3 H3 scope ce fp) [] (wipe σ (own.map (·.2))) H' s' ∧ tn i s'.heap ∧ (∀ b ∈ fp, H' b = none) ∧ W i n H') ?_ m0 ⟨0, H3, I4, st4, nfp, w0⟩
    rintro n s5 ⟨i, H5, I5, st5, n5, w5⟩
    rcases turn i n H5 w5 with ⟨stop, qq⟩ | ⟨go, Nx, hNx, step⟩
    · have td := T.done (X.blk s3 H3 scope ce fp) rfl rfl rfl hc i [] s5 _ H5 (fun _ _ => False) I5 (stat I5 n5) st5 stop
      refine thnF td fun r s6 ⟨hr, I6⟩ => ?_
      subst hr
      -- back in the def's context
      have I7 : Inv X pins σ H5 s6 := I3.call' (ch := fp) I6.os I6.base I6.hok I6.bare fun b hb => ⟨(f3 b hb).1.2.2.2.1, (f3 b hb).1.2.1, (f3 b hb).1.2.2.2.2.1, (f3 b hb).1.2.2.2.2.2⟩
      have nC : H5 s3.heap.objs.size = none := by
        have z : H5 ce.locals = none := I6.free
        rw [cL] at z
        exact z
      obtain ⟨m, hn, _⟩ := I6.loc
      have hn : s6.heap.Ns ce.locals m := hn
      rw [cL] at hn
      exact hRR D s3.heap.objs.size s6 m H5 I7 qq hn (I3.fpOk (Nat.le_refl _) nC)
    · have ti := T.item (X.blk s3 H3 scope ce fp) rfl rfl rfl hc i [] s5 _ H5 (fun _ _ => False) I5 (stat I5 n5) st5 go
      refine thnF ti fun r s6 ⟨u, hr, h6⟩ => ?_
      subst hr
      refine thnF h6 fun _ s7 ⟨x, H7, I7, r7, y7, st7, n7⟩ => ?_
      have I7' := I7.pinned (stat I7 n7) (T.obj _ _ st7)
      refine thnF (pg.run _ s7 _ H7 x u _ I7' r7 (step x H7 y7)) fun _ s8 ⟨σ8, H8, I8, hw8, q8⟩ => ?_
      refine thnF (pt.run _ s8 σ8 H8 _ I8 q8) fun b s9 ⟨H9, I9, q9⟩ => ?_
      -- the turn's end
      have fin : ∀ {s' : Shared} {H' : Hp}, Inv (X.blk s3 H3 scope ce fp) ([] ++ pinsAt fp s7.heap) σ8 H' s' → Nx H' → ∃ m, m < n ∧ ∃ i H', Inv (X.blk s3 H3 scope ce fp) [] (wipe σ (own.map (·.2))) H' s' ∧ tn i s'.heap ∧ (∀ b ∈ fp, H' b = none) ∧ W i m H' := fun {s' H'} I' nx => by
        obtain ⟨m', hm, w'⟩ := hNx H' nx
        have pin' : ∀ b ∈ fp, ∀ o, s7.heap.get? b = some o → s'.heap.get? b = some o ∧ H' b = none := fun b hb o e =>
          let z := I'.pin (b, o) (List.mem_append_right _ (List.mem_append_right _ (mem_pinsAt hb e)))
          ⟨z.1, z.2.1⟩
        have hl : (wipe σ (own.map (·.2))).length = σ8.length := by rw [← hw8, wipe_length]
        refine ⟨m', hm, i + 1, H', (I'.unpinned (pins := [])).weak hl (fun j v e => ?_), T.keep _ _ _ st7 fun b hb o e => (pin' b hb o e).1, fun b hb => ?_, w'⟩
        · rw [← hw8] at e
          exact (wipe_some e).1
        · obtain ⟨o, e, _⟩ := T.obj _ _ st7 b hb
          exact (pin' b hb o e).2
      cases b with
      | false =>
        simp only [Bool.false_eq_true, if_false] at q9 ⊢
        exact fin I9 q9
      | true =>
        simp only [if_true] at q9 ⊢
        refine thnF (pe.run _ s9 σ8 H9 _ I9 q9) fun z s10 ⟨yv, H10, I10, r10, acc, hD10, hz10, nx⟩ => ?_
        exact app_ok (X := X.blk s3 H3 scope ce fp) I10 hD10 hz10 r10 fun s11 I11 => fin I11 nx
  exact codeAny_compStart_list loop (T.self X.A 0 _ _ _ st4 loop)
def tLcS (wi : TI) (g : TG) (ttS : L2.St → TT) (te : TE) (vs : List Nat) : TE := fun σ H Q => tLc wi g (ttS σ) te vs σ H Q
theorem pe_lcS {X : Cx} {elt tg iter : Expr} {ifs : List Expr} {scope : Scope} {own : List (Str × Nat)} {pos : Pos} {wi : TI} {g : TG} {ttS : L2.St → TT} {te : TE} (hc : X.calm = true) (hN : X.N.Nodup) (hi : PI X tg iter wi) (ok : BlkOk X.N X.env.scope scope own)
    (hg : ∀ (s : Shared) (H : Hp) (C : Addr) (cl : List (Str × Addr)) (fp : List Addr), PG (X.blk s H scope (compEnvC scope cl C X.env) fp) tg g)
    (ht : ∀ (s : Shared) (H : Hp) (C : Addr) (cl : List (Str × Addr)) (fp : List Addr) (pinsX : List (Addr × Obj)) (σX : L2.St), Inv X pinsX σX H s → (∀ b ∈ fp, FpOk X pinsX H b) → PTs (X.blk s H scope (compEnvC scope cl C X.env) fp) ifs (ttS σX))
    (he : ∀ (s : Shared) (H : Hp) (C : Addr) (cl : List (Str × Addr)) (fp : List Addr), PE (X.blk s H scope (compEnvC scope cl C X.env) fp) elt te) (hs : ∀ x, foldedSetIterable iter X.env x = pure x := by intro _; rfl) :
    PE X (.ListComp elt [⟨tg, iter, ifs, 0⟩] scope pos) (tLcS wi g ttS te (own.map (·.2))) := by
  refine ⟨fun pins s σ H Q I h => ?_⟩
  rw [eval_ListComp]
  refine lc_coreS hc hN I hi ok hg ht he hs h fun D C s' m H' I' q hn f => ⟨m, hn, fun h'' sb => ?_⟩
  obtain ⟨f0, f1, f2, f3, f4, f5⟩ := f
  exact ⟨.ref D, H', I'.turned (t' := s'.toks) (fun b o hb e => (sb.2 b hb).trans e) f0 f1 f3 f4 f5, rfl, q⟩
/-- the lambda as a value; cs: the def's cells -/
def tLamC (P : Addr) (q : Str) (cs : List (Str × Addr)) (d : LamD) : TE := fun _ H Q => TabS H P q ∧ ∀ (f c : Addr) (H1 : Hp), ExtP P H H1 → TabS H1 P q → H1 f = some (LamC f c q d.ps d.body d.sc (cloFrom cs d.sc.names [])) → H1 c = some (CodeO c q) → Q (.ref f) H1
theorem pe_lamC {X : Cx} {c P : Addr} {d : LamD} {pos : Pos} (TB : LamX.TabB X.base X.mg c P) (hcode : X.env.code = .ref c)
    (hdef : defaultsOf d.ps X.env = ([], [])) (L : LamS X.env.scope d.sc) : PE X (.Lambda d.ps d.body d.sc pos) (tLamC P (X.env.qual ++ "<lambda>") X.env.cells d) := by
  refine ⟨fun pins s σ H Q I h => ?_⟩
  obtain ⟨hT, h⟩ := h
  exact lamC_make I TB hcode hT hdef (L.has I.ok) fun f c' H1 s' I1 e t1 h1 h2 => ⟨.ref f, H1, I1, rfl, h f c' H1 e t1 h1 h2⟩
/-- the i-th slot holds one of the lambdas of fam: it is told; σX: the def's names at the block's entry -/
def tToldC (K : PySem.W.Frag) (CS : Addr) (ret q : Str) (cs : List (Str × Addr)) (i : Nat) (fam : List LamD) (t : Nat → XK → TE) (σX : L2.St) : TE := fun σ H Q => ∃ (f c : Addr) (k : Nat) (d : LamD), σ[i]? = some (some (.ref f)) ∧ fam[k]? = some d ∧
  H f = some (LamC f c q d.ps d.body d.sc (cloFrom cs d.sc.names [])) ∧ H c = some (CodeO c q) ∧ t k (kTold K CS ret Q) σX H Q
theorem pe_toldC {X : Cx} {sB : Shared} {HB : Hp} {scope : Scope} {ceB : Env} {fp : List Addr} {pinsX : List (Addr × Obj)} {σX : L2.St} {x a y ret : Str} {g CS : Addr} {k i : Nat} {pg : Arguments} {bg : List Stmt} {sg : Scope} {dV kV doc pm cdv ct oc : Value} {an od : Option Addr} {osl : Array (Option Value)} {Ng : List Str}
    {fam : List LamD} {t : Nat → XK → TE} {p py pos : Pos} (IX : Inv X pinsX σX HB sB) (fX : ∀ b ∈ fp, FpOk X pinsX HB b) (hg : Gl (X.blk sB HB scope ceB fp) x) (hm : X.mg x = some (.ref g)) (hk : PySem.W.keepIn X.K (.ref g) = true)
    (lk : X.K.lookup g = some ⟨oc, od, .func (PySem.W.fnOf x x pg bg sg dV kV doc pm an cdv ct), osl⟩) (hcg : PySem.W.codeIn X.K cdv x = true) (hb : L2.Binds X.K (PySem.W.fnOf x x pg bg sg dV kV doc pm an cdv ct) [a] []) (Sg : FnScope Ng [a] sg) (hNg : Ng[0]? = some a) (hva : Vis sg a)
    (hG : GivesTo X Ng x sg g cdv bg a (X.env.qual ++ "<lambda>") (TTold X.K CS ret)) (hi : X.N[i]? = some y) (hv : Vis ceB.scope y) (hr : Room (k + 2) X.A)
    (hno : ∀ (j : Nat) (d : LamD), fam[j]? = some d → LamS X.env.scope d.sc) (hbind : ∀ (j : Nat) (d : LamD), fam[j]? = some d → ∀ (cl : List (Str × Addr)) (c' : Addr) (pm ctv : Value), bindArgs (PySem.W.kla_fn "<lambda>" (X.env.qual ++ "<lambda>") d.ps d.body d.sc cl pm (.ref c') ctv) ⟨[], []⟩ = pure [])
    (hbody : ∀ (j : Nat) (d : LamD), fam[j]? = some d → ∀ (A : Around) (outer : List Env) (s : Shared) (H : Hp) (E : XK) (f c' : Addr), Room k (A.deeper (lamEnv X d.sc s.heap.objs.size f c')) → PE (lamCx X A outer s H E d.sc f c') d.body (t j E))
    (hdb : (x == ("__debug__" : Str)) = false := by decide) (hd : (a == ("__debug__" : Str)) = false := by decide) (hcd : (a == ("__classdict__" : Str)) = false := by decide) (hyd : (y == ("__debug__" : Str)) = false := by decide) (hyc : (y == ("__classdict__" : Str)) = false := by decide) :
    PE (X.blk sB HB scope ceB fp) (.Call (.Name x p) [.Name y py] [] pos) (tToldC X.K CS ret (X.env.qual ++ "<lambda>") X.env.cells i fam t σX) := by
  refine ⟨fun pins s σ H Q I h => ?_⟩
  obtain ⟨f, c', j, d, hs, hj, hf, hc, ht⟩ := h
  refine wpAny_Call_Name_kw (ld_glob I hg hm ?_ hdb)
  refine PySem.W.callWith_K (h₀ := X.base) I.ok.mod.kin hk ?_ (by rfl) (by rfl)
  show wpAny _ _ (spliced ((false, eval (.Name y py) ceB) :: backTo pos (starEach [] ceB))) _ _ s
  refine Calls.spliced_cons (thn ((pe_var (X := X.blk sB HB scope ceB fp) (pos := py) (i := i) hi hv hyd hyc).run pins s σ H (fun v H1 => v = .ref f ∧ H1 = H) I ⟨.ref f, hs, rfl, rfl⟩) fun u s' ⟨v, H1, I1, r1, q1⟩ => ?_)
  obtain ⟨ev, eH⟩ := q1
  subst ev
  rw [eH] at I1
  obtain rfl : u = Value.ref f := r1
  have J1 : Inv X pinsX σX H s' := IX.call' (ch := fp) I1.os I1.base I1.hok I1.bare fun b hb => ⟨(fX b hb).2.2.2.1, (fX b hb).2.1, (fX b hb).2.2.2.2.1, (fX b hb).2.2.2.2.2⟩
  refine Calls.spliced_nil ⟨I1.kIn, ?_⟩
  have rc : codeAny (model X.prog X.w) X.A (.call (.ref g) ⟨[.ref f], []⟩) (CR C8.CX0 X.stack X.prog X.w H s' Q C8.E0) s' := by
    refine run_ofS (N := Ng) (ps := [a]) (us := [.ref f]) (vs := [.ref f]) lk hcg Sg hr J1.env0 (hb s' [.ref f] J1.kIn rfl) (.cons rfl .nil) rfl fun hr' => ?_
    obtain ⟨t', ht', hq'⟩ := hG f c' s' H Q (fun E H' Q' => H' f = some (LamC f c' (X.env.qual ++ "<lambda>") d.ps d.body d.sc (cloFrom X.env.cells d.sc.names [])) ∧ t j E σX H' Q')
      (fun W pn xe E p1 p2 tk hW => pe_actC (i := 0) J1 (hno j d hj) (hbind j d hj _ c') tk hW hr' (fun A outer s H hr2 => hbody j d hj A outer s H E f c' hr2) hNg hva hd hcd) hc ⟨hf, ht⟩
    exact ⟨t', ht'.nox, hq'⟩
  refine wpAny_call (codeAny_mono rc fun r s2 hq => ?_)
  cases r with
  | error e => exact (show False from hq).elim
  | ok fl =>
    cases fl with
    | ret u => exact I1.after hq
    | next => exact False.elim hq
    | brk => exact False.elim hq
    | cont => exact False.elim hq
end Ph
namespace Ph
open PySem PySem.Spec PyProof.Rows L2
/-- what stands at a key that may be None -/
def DGetN (H : Hp) (a : Addr) (y : V) (r : Option V) : Prop := DGet H a y r ∨ (y = .non ∧ r = none ∧ ∃ kvs, Rd H a (.dK kvs))
def tGet1 (td ty : TE) : TE := fun σ H Q => td σ H fun x H1 => ∃ a, x = .ref a ∧ IsD H1 a ∧ ty σ H1 fun y H2 => ∃ o, DGetN H2 a y o ∧ Q (o.getD .non) H2
def tGet2 (td ty tx : TE) : TE := fun σ H Q => td σ H fun x H1 => ∃ a, x = .ref a ∧ IsD H1 a ∧ ty σ H1 fun y H2 => tx σ H2 fun z H3 => ∃ o, DGetN H3 a y o ∧ Q (o.getD z) H3
section
variable {X : Cx} {pins : List (Addr × Obj)} {σ : L2.St} {H : Hp} {s : Shared} {a : Addr} {y d : V} {u r : Value} {o : Option V} {A : Around} {E : Value → Shared → Prop}
theorem d_get1N {Q : Value → Shared → Prop} (hu : A.units + 1 < cLine) (I : Inv X pins σ H s) (g : DGetN H a y o) (ry : RelV y u) (h : ∀ w' s', Inv X pins σ H s' → RelV (o.getD .non) w' → Q w' s') :
    wpAny (model X.prog X.w) A (call (.builtin "dict.get") [.ref a, u]) Q E s := by
  rcases g with g | ⟨rfl, rfl, kvs, e⟩
  · exact d_get1 hu I g ry h
  · obtain rfl : u = Value.none := ry
    obtain ⟨_, hd, vs, _, dd⟩ := dk_rd I.hok e
    obtain ⟨f, hm, hf⟩ := none_map dd
    refine call_meetsIn PySem.F.slot_dict_get dd.typeIs PySem.F.entry_dict_get (PySem.F.args_dict_get_2 _ _) (meets_dict_get (noneKind X.prog X.w) a (k := none) rfl hd) ⟨_, hm, h _ _ (I.tok _) ?_⟩
    rw [hf]
    rfl
theorem d_get2N {Q : Value → Shared → Prop} (hu : A.units + 1 < cLine) (I : Inv X pins σ H s) (g : DGetN H a y o) (ry : RelV y u) (rd : RelV d r) (h : ∀ w' s', Inv X pins σ H s' → RelV (o.getD d) w' → Q w' s') :
    wpAny (model X.prog X.w) A (call (.builtin "dict.get") [.ref a, u, r]) Q E s := by
  rcases g with g | ⟨rfl, rfl, kvs, e⟩
  · exact d_get2 hu I g ry rd h
  · obtain rfl : u = Value.none := ry
    obtain ⟨_, hd, vs, _, dd⟩ := dk_rd I.hok e
    obtain ⟨f, hm, hf⟩ := none_map dd
    refine call_meetsIn PySem.F.slot_dict_get dd.typeIs PySem.F.entry_dict_get (PySem.F.args_dict_get_3 _ _ _) (meets_dict_get_default (noneKind X.prog X.w) a (k := none) rfl hd r) ⟨_, hm, h _ _ (I.tok _) ?_⟩
    rw [hf]
    exact rd
end
section
variable {X : Cx} {o e f : Expr} {apos cpos : Pos} {td ty tx : TE}
theorem pe_get1 (hu : X.A.units + 64 < cLine) (ho : PE X o td) (he : PE X e ty) (m : M1 X o "get" apos e cpos) : PE X (.Call (.Attribute o "get" apos) [e] [] cpos) (tGet1 td ty) := by
  refine ⟨fun pins s σ H Q I h => ?_⟩
  refine wpAny_Call_method m.base m.few m.line PySem.F.plainAttrs_dict PySem.F.slot_dict_get PySem.F.type_dict_get (thn (ho.run pins s σ H _ I h) fun u s1 ⟨x, H1, I1, rx, a, ex, d, q1⟩ => ?_)
  subst ex
  obtain rfl : u = Value.ref a := rx
  obtain ⟨t1, t2, _⟩ := isD_at I1 d
  refine ⟨t1, t2, ?_⟩
  rw [m.trees]
  refine Calls.callWith_builtin rfl (Calls.evalArgs_plain (Calls.spliced_cons (thn (he.run pins s1 σ H1 _ I1 q1) fun iv s2 ⟨y, H2, I2, ry, ov, g, q2⟩ => Calls.spliced_nil ?_)))
  exact d_get1N (by omega) I2 g ry fun w' s3 I3 rw' => ⟨_, H2, I3, rw', q2⟩
theorem pe_get2 (hu : X.A.units + 64 < cLine) (ho : PE X o td) (he : PE X e ty) (hf : PE X f tx) (m : M2 X o "get" apos e f cpos) : PE X (.Call (.Attribute o "get" apos) [e, f] [] cpos) (tGet2 td ty tx) := by
  refine ⟨fun pins s σ H Q I h => ?_⟩
  refine wpAny_Call_method m.base m.few m.line PySem.F.plainAttrs_dict PySem.F.slot_dict_get PySem.F.type_dict_get (thn (ho.run pins s σ H _ I h) fun u s1 ⟨x, H1, I1, rx, a, ex, d, q1⟩ => ?_)
  subst ex
  obtain rfl : u = Value.ref a := rx
  obtain ⟨t1, t2, _⟩ := isD_at I1 d
  refine ⟨t1, t2, ?_⟩
  rw [m.trees]
  refine Calls.callWith_builtin rfl (Calls.evalArgs_plain (Calls.spliced_cons (thn (he.run pins s1 σ H1 _ I1 q1) fun iv s2 ⟨y, H2, I2, ry, q2⟩ =>
    Calls.spliced_cons (thn (hf.run pins s2 σ H2 _ I2 q2) fun fv s3 ⟨z, H3, I3, rz, ov, g, q3⟩ => Calls.spliced_nil ?_))))
  exact d_get2N (by omega) I3 g ry rz fun w' s4 I4 rw' => ⟨_, H3, I4, rw', q3⟩
end
def rInV (K : PySem.W.Frag) : R2 := fun x y H Q => rInU K x y H Q ∨ ∃ a kvs, x = .non ∧ y = .ref a ∧ Rd H a (.dK kvs) ∧ Q (.bl false) H
def rNotInV (K : PySem.W.Frag) : R2 := fun x y H Q => rNotInU K x y H Q ∨ ∃ a kvs, x = .non ∧ y = .ref a ∧ Rd H a (.dK kvs) ∧ Q (.bl true) H
section
variable {X : Cx}
theorem op_inNon : OpR X (compareOp .In) (fun x y H Q => ∃ a kvs, x = .non ∧ y = .ref a ∧ Rd H a (.dK kvs) ∧ Q (.bl false) H) := by
  intro pins s σ H x y v u Q I rx ry h
  obtain ⟨a, kvs, rfl, rfl, e, q⟩ := h
  cases ry
  obtain rfl : v = Value.none := rx
  exact d_inNone I e fun s3 I3 => ⟨.bl false, H, I3, rfl, q⟩
theorem op_notinNon : OpR X (compareOp .NotIn) (fun x y H Q => ∃ a kvs, x = .non ∧ y = .ref a ∧ Rd H a (.dK kvs) ∧ Q (.bl true) H) := by
  intro pins s σ H x y v u Q I rx ry h
  obtain ⟨a, kvs, rfl, rfl, e, q⟩ := h
  cases ry
  obtain rfl : v = Value.none := rx
  exact d_notInNone I e fun s3 I3 => ⟨.bl true, H, I3, rfl, q⟩
theorem u_inV (hu : X.A.units + 64 < cLine) : OpR X (compareOp .In) (rInV X.K) := (u_in hu).or op_inNon
theorem u_notinV (hu : X.A.units + 64 < cLine) : OpR X (compareOp .NotIn) (rNotInV X.K) := (u_notin hu).or op_notinNon
end
/-! ### a list or a tuple walked; more calls -/
def iSeq (K : PySem.W.Frag) (tl : TE) : TI := fun σ H R => tl σ H fun x H1 => ∃ a, x = .ref a ∧ (((∃ xs, SqL K H1 a xs) ∧ R (Itl K a) H1) ∨ ((∃ xs, SqT K H1 a xs) ∧ R (Itt K a) H1))
theorem pi_seq {X : Cx} {tg l : Expr} {tl : TE} (hl : PE X l tl) : PI X tg l (iSeq X.K tl) := by
  refine ⟨fun pins s σ H R I h => ?_⟩
  refine thn (hl.run pins s σ H _ I h) fun v s1 ⟨x, H1, I1, r1, q1⟩ => ?_
  obtain ⟨a, rfl, q1⟩ := q1
  cases r1
  have fr : ∀ {o : Obj}, ∀ b ∈ [s1.heap.objs.size], FpOk X pins H1 b := fun {o} b hb => by
    rw [List.mem_singleton.mp hb]
    exact I1.fpOk (Nat.le_refl _) (I1.hok.fresh (Nat.le_refl _))
  rcases q1 with ⟨⟨xs, hq⟩, q⟩ | ⟨⟨xs, hq⟩, q⟩
  · obtain ⟨its, rv, p, hz⟩ := I1.list hq
    refine wpAny_pyIter_list p.isList ?_
    exact ⟨s1.heap.objs.size, [s1.heap.objs.size], _, _, H1, rfl, I1.kept (t' := s1.toks) fun b o e => Heap.get?_push_of_some _ e, turn_list a _, ⟨_, Heap.get?_push_size _ rfl, rfl, rfl⟩, fr (o := ⟨.none, none, .plain, #[]⟩), q⟩
  · obtain ⟨its, rv, p, hz⟩ := I1.tuple hq
    refine wpAny_pyIter_tuple (show s1.heap.IsTuple a its.toArray from p) ?_
    exact ⟨s1.heap.objs.size, [s1.heap.objs.size], _, _, H1, rfl, I1.kept (t' := s1.toks) fun b o e => Heap.get?_push_of_some _ e, turn_tuple a _, ⟨_, Heap.get?_push_size _ rfl, rfl, rfl⟩, fr (o := ⟨.none, none, .plain, #[]⟩), q⟩
def rStrI : List V → Hp → VK → Prop := fun xs H Q => ∃ i, xs = [.int i] ∧ i.natAbs.log2 < 1920 ∧ Q (.str (toString i)) H
def rListOf (K : PySem.W.Frag) : List V → Hp → VK → Prop := fun xs H Q => ∃ p ys, xs = [.ref p] ∧ (SqL K H p ys ∨ SqT K H p ys) ∧ ∀ l, H l = none → Q (.ref l) (upd H l (.lst ys))
def rTupOf (K : PySem.W.Frag) : List V → Hp → VK → Prop := fun xs H Q => ∃ p ys, xs = [.ref p] ∧ ((SqL K H p ys ∧ ∀ l, H l = none → Q (.ref l) (upd H l (.tup ys))) ∨ (SqT K H p ys ∧ Q (.ref p) H))
def genSXB (sc : Scope) : Bool := !sc.isCoroutine && sc.names.all (fun y => !decide (y.2 = .cell)) && decide (sc.names.lookup (".0" : Str) = some NameKind.local)
theorem gensx_by {sc : Scope} (h : genSXB sc = true) : GenSX sc := by
  unfold genSXB at h
  simp only [Bool.and_eq_true, Bool.not_eq_true', decide_eq_true_eq, decide_eq_false_iff_not, List.all_eq_true] at h
  obtain ⟨⟨h1, h2⟩, h3⟩ := h
  exact ⟨h1, h2, h3⟩
/-! ### steps -/
section
variable {K : PySem.W.Frag} {B H : Hp} {L L' : List (Addr × HO)} {I : List Im} {Q : VK} {σ : L2.St} {P : Addr} {tb : Array Value} {q : Str} {cs : List (Str × Addr)}
theorem s_lamC {d : LamD} (hC : Ctx K B H L I) (m : Pick (P, .tbl tb) L L') (f : Im.tab q tb ∈ I)
    (k : ∀ f c tb' H1, Ctx K B H1 ((P, .tbl tb') :: L') (.pr (fun H => H f = some (LamC f c q d.ps d.body d.sc (cloFrom cs d.sc.names []))) (fun _ _ s h => s _ _ h rfl) :: .pr (fun H => H c = some (LamX.CodeO c q)) (fun _ _ s h => s _ _ h rfl) :: .tab q tb' :: I) → Q (.ref f) H1) : tLamC P q cs d σ H Q := by
  have hC := hC.pick m
  have e0 := hC.get List.mem_cons_self
  refine ⟨(hC.tab f).tabS e0, fun f c H1 e t1 hf hc => ?_⟩
  obtain ⟨tb', h1, h2, h3⟩ := t1
  exact k f c tb' H1 ((((hC.but List.mem_cons_self .here rfl e h1).add (i := .tab q tb') ⟨h2, h3⟩).add (i := .pr (fun H => H c = some (LamX.CodeO c q)) (fun _ _ s h => s _ _ h rfl)) hc).add (i := .pr (fun H => H f = some (LamC f c q d.ps d.body d.sc (cloFrom cs d.sc.names []))) (fun _ _ s h => s _ _ h rfl)) hf)
theorem s_toldC {CS : Addr} {ret : Str} {i : Nat} {fam : List LamD} {t : Nat → XK → TE} {σX : L2.St} (f c : Addr) (k : Nat) (d : LamD) (hs : σ[i]? = some (some (.ref f))) (hj : fam[k]? = some d)
    (hf : H f = some (LamC f c q d.ps d.body d.sc (cloFrom cs d.sc.names []))) (hc : H c = some (LamX.CodeO c q)) (h : t k (kTold K CS ret Q) σX H Q) : tToldC K CS ret q cs i fam t σX σ H Q := ⟨f, c, k, d, hs, hj, hf, hc, h⟩
/-- get, the dict and its rows known -/
theorem s_get1 {td ty : TE} (h : td σ H fun x H1 => ∃ a, x = .ref a ∧ IsD H1 a ∧ ty σ H1 fun y H2 => ∃ o, DGetN H2 a y o ∧ Q (o.getD .non) H2) : tGet1 td ty σ H Q := h
theorem s_get2 {td ty tx : TE} (h : td σ H fun x H1 => ∃ a, x = .ref a ∧ IsD H1 a ∧ ty σ H1 fun y H2 => tx σ H2 fun z H3 => ∃ o, DGetN H3 a y o ∧ Q (o.getD z) H3) : tGet2 td ty tx σ H Q := h
end
end Ph
namespace Ph
open PySem PySem.Spec PyProof.Rows L2
section
variable {κ α β : Type} [DecidableEq κ]
def look (l : List (κ × α)) (k : κ) : Option α := (l.find? fun p => decide (p.1 = k)).map (·.2)
def putR (l : List (κ × α)) (k : κ) (v : α) : List (κ × α) := if (l.any fun p => decide (p.1 = k)) = true then l.map (fun p => if p.1 = k then (p.1, v) else p) else l ++ [(k, v)]
theorem look_nil {k : κ} : look ([] : List (κ × α)) k = none := rfl
theorem look_cons {p : κ × α} {r : List (κ × α)} {k : κ} : look (p :: r) k = if p.1 = k then some p.2 else look r k := by
  unfold look
  rw [List.find?_cons]
  by_cases h : p.1 = k <;> simp [h]
theorem look_any (k : κ) : ∀ l : List (κ × α), (l.any fun p => decide (p.1 = k)) = (look l k).isSome
  | [] => rfl
  | p :: r => by
    rw [List.any_cons, look_cons, look_any k r]
    by_cases h : p.1 = k <;> simp [h]
theorem look_app {k : κ} : ∀ {l m : List (κ × α)}, look (l ++ m) k = (look l k).or (look m k)
  | [], m => by simp [look_nil]
  | p :: r, m => by
    rw [List.cons_append, look_cons, look_cons, look_app]
    by_cases h : p.1 = k <;> simp [h]
theorem look_map_put {k j : κ} {v : α} : ∀ {l : List (κ × α)}, look (l.map fun p => if p.1 = k then (p.1, v) else p) j = if j = k then (look l j).map (fun _ => v) else look l j
  | [] => by simp [look_nil]
  | p :: r => by
    rw [List.map_cons, look_cons, look_map_put, look_cons]
    by_cases h : p.1 = k
    · by_cases h2 : j = k
      · subst h2; simp [h]
      · have h3 : ¬ p.1 = j := fun e => h2 (e.symm.trans h)
        have h4 : ¬ k = j := fun e => h2 e.symm
        simp [h, h2, h4]
    · by_cases h2 : j = k
      · subst h2; simp [h]
      · simp [h, h2]
theorem look_put {l : List (κ × α)} {k j : κ} {v : α} : look (putR l k v) j = if j = k then some v else look l j := by
  unfold putR
  rw [look_any]
  by_cases hs : (look l k).isSome = true
  · rw [if_pos hs, look_map_put]
    by_cases h : j = k
    · subst h
      rw [if_pos rfl, if_pos rfl]
      cases e : look l j with
      | none => rw [e] at hs; cases hs
      | some x => rfl
    · rw [if_neg h, if_neg h]
  · rw [if_neg hs, look_app, look_cons, look_nil]
    by_cases h : j = k
    · subst h
      have : look l j = none := by
        cases e : look l j with
        | none => rfl
        | some x => rw [e] at hs; exact absurd rfl hs
      rw [this]; simp
    · have h2 : ¬ k = j := fun e => h e.symm
      rw [if_neg h, if_neg h2]; simp
theorem putR_len {l : List (κ × α)} {k : κ} {v : α} : (putR l k v).length ≤ l.length + 1 := by
  unfold putR
  split
  · rw [List.length_map]; exact Nat.le_succ _
  · rw [List.length_append]; exact Nat.le_refl _
end
/-- rows with keys that are texts -/
def mK {α : Type} (f : α → V) (l : List (Str × α)) : List (Key × V) := l.map fun p => (.inr p.1, f p.2)
/-- rows with keys (text, int) -/
def mT {α : Type} (f : α → V) (l : List ((Str × Int) × α)) : List (List Key × V) := l.map fun p => ([.inr p.1.1, .inl p.1.2], f p.2)
section
variable {α : Type} {f : α → V}
theorem mK_len {l : List (Str × α)} : (mK f l).length = l.length := by unfold mK; rw [List.length_map]
theorem mT_len {l : List ((Str × Int) × α)} : (mT f l).length = l.length := by unfold mT; rw [List.length_map]
theorem valV_mK {k : Str} : ∀ {l : List (Str × α)}, valV (mK f l) (.inr k) = (look l k).map f
  | [] => rfl
  | p :: r => by
    show valV ((Sum.inr p.1, f p.2) :: mK f r) (.inr k) = _
    rw [look_cons]
    by_cases h : p.1 = k
    · rw [valV_pos (by simp [h]), if_pos h]; rfl
    · rw [valV_neg (by simpa using h), if_neg h, valV_mK]
theorem keyT_inj {a b : Str × Int} : ([Sum.inr a.1, Sum.inl a.2] : List Key) = [.inr b.1, .inl b.2] ↔ a = b := by
  obtain ⟨a1, a2⟩ := a
  obtain ⟨b1, b2⟩ := b
  constructor
  · intro h
    injection h with h1 h2
    injection h2 with h2 _
    injection h1 with h1
    injection h2 with h2
    exact Prod.ext h1 h2
  · intro h; cases h; rfl
theorem valV_mT {k : Str × Int} : ∀ {l : List ((Str × Int) × α)}, valV (mT f l) [.inr k.1, .inl k.2] = (look l k).map f
  | [] => rfl
  | p :: r => by
    show valV (([Sum.inr p.1.1, Sum.inl p.1.2], f p.2) :: mT f r) [.inr k.1, .inl k.2] = _
    rw [look_cons]
    by_cases h : p.1 = k
    · rw [valV_pos (keyT_inj.mpr h), if_pos h]; rfl
    · rw [valV_neg (fun e => h (keyT_inj.mp e)), if_neg h, valV_mT]
theorem putK_mK {l : List (Str × α)} {k : Str} {v : α} : putK (mK f l) (.inr k) (f v) = mK f (putR l k v) := by
  unfold putK putR
  rw [valV_any, valV_mK, look_any, Option.isSome_map]
  split
  · unfold mK
    rw [List.map_map, List.map_map]
    refine List.map_congr_left fun p _ => ?_
    by_cases h : p.1 = k <;> simp [h]
  · unfold mK
    rw [List.map_append]; rfl
theorem putK_mT {l : List ((Str × Int) × α)} {k : Str × Int} {v : α} : putK (mT f l) [.inr k.1, .inl k.2] (f v) = mT f (putR l k v) := by
  unfold putK putR
  rw [valV_any, valV_mT, look_any, Option.isSome_map]
  split
  · unfold mT
    rw [List.map_map, List.map_map]
    refine List.map_congr_left fun p _ => ?_
    by_cases h : p.1 = k
    · have e := keyT_inj.mpr h
      simp only [Function.comp, e, h, if_true]
    · have e : ¬ ([Sum.inr p.1.1, Sum.inl p.1.2] : List Key) = [.inr k.1, .inl k.2] := fun e => h (keyT_inj.mp e)
      simp only [Function.comp, e, h, if_false]
  · unfold mT
    rw [List.map_append]; rfl
end
/-! ### steps: reads and puts -/
section
variable {K : PySem.W.Frag} {B H : Hp} {L L' : List (Addr × HO)} {I : List Im} {Q : VK} {σ : L2.St} {d b : Addr} {α : Type} {f : α → V}
def kGet1 (ty : TE) (σ : L2.St) (Q : VK) : VK := fun x H1 => ∃ a, x = .ref a ∧ IsD H1 a ∧ ty σ H1 fun y H2 => ∃ o, DGetN H2 a y o ∧ Q (o.getD .non) H2
def kGetK1 (a : Addr) (Q : VK) : VK := fun y H2 => ∃ o, DGetN H2 a y o ∧ Q (o.getD .non) H2
def kGet2 (ty tx : TE) (σ : L2.St) (Q : VK) : VK := fun x H1 => ∃ a, x = .ref a ∧ IsD H1 a ∧ ty σ H1 fun y H2 => tx σ H2 fun z H3 => ∃ o, DGetN H3 a y o ∧ Q (o.getD z) H3
def kGetY2 (a : Addr) (tx : TE) (σ : L2.St) (Q : VK) : VK := fun y H2 => tx σ H2 fun z H3 => ∃ o, DGetN H3 a y o ∧ Q (o.getD z) H3
def kGetZ2 (a : Addr) (y : V) (Q : VK) : VK := fun z H3 => ∃ o, DGetN H3 a y o ∧ Q (o.getD z) H3
theorem s_g1 {td ty : TE} (h : td σ H (kGet1 ty σ Q)) : tGet1 td ty σ H Q := h
theorem s_g2 {td ty tx : TE} (h : td σ H (kGet2 ty tx σ Q)) : tGet2 td ty tx σ H Q := h
theorem s_g1K {ty : TE} {l : List (Key × V)} (m : H d = some (.dK l)) (h : ty σ H (kGetK1 d Q)) : kGet1 ty σ Q (.ref d) H := ⟨d, rfl, .inl ⟨l, .inl m⟩, h⟩
theorem s_g1T {ty : TE} {l : List (List Key × V)} (m : H d = some (.dT l)) (h : ty σ H (kGetK1 d Q)) : kGet1 ty σ Q (.ref d) H := ⟨d, rfl, .inr ⟨l, .inl m⟩, h⟩
theorem s_g2K {ty tx : TE} {l : List (Key × V)} (m : H d = some (.dK l)) (h : ty σ H (kGetY2 d tx σ Q)) : kGet2 ty tx σ Q (.ref d) H := ⟨d, rfl, .inl ⟨l, .inl m⟩, h⟩
theorem s_g2T {ty tx : TE} {l : List (List Key × V)} (m : H d = some (.dT l)) (h : ty σ H (kGetY2 d tx σ Q)) : kGet2 ty tx σ Q (.ref d) H := ⟨d, rfl, .inr ⟨l, .inl m⟩, h⟩
theorem s_g2y {tx : TE} {y : V} (h : tx σ H (kGetZ2 d y Q)) : kGetY2 d tx σ Q y H := h
theorem s_g1Kv {l : List (Str × α)} {x : Str} (m : H d = some (.dK (mK f l))) (q : Q (((look l x).map f).getD .non) H) : kGetK1 d Q (.str x) H := ⟨_, .inl (.inl ⟨_, .inr x, .inl m, rfl, rfl⟩), by rw [valV_mK]; exact q⟩
theorem s_g1Kn {l : List (Key × V)} (m : H d = some (.dK l)) (q : Q .non H) : kGetK1 d Q .non H := ⟨none, .inr ⟨rfl, rfl, l, .inl m⟩, q⟩
theorem s_g2Kv {l : List (Str × α)} {x : Str} {z : V} (m : H d = some (.dK (mK f l))) (q : Q (((look l x).map f).getD z) H) : kGetZ2 d (.str x) Q z H := ⟨_, .inl (.inl ⟨_, .inr x, .inl m, rfl, rfl⟩), by rw [valV_mK]; exact q⟩
theorem s_g2Kn {l : List (Key × V)} {z : V} (m : H d = some (.dK l)) (q : Q z H) : kGetZ2 d .non Q z H := ⟨none, .inr ⟨rfl, rfl, l, .inl m⟩, q⟩
theorem s_g2Tv {l : List ((Str × Int) × α)} {x : Str} {i : Int} {z : V} (m : H d = some (.dT (mT f l))) (mb : H b = some (.tup [.str x, .int i])) (q : Q (((look l (x, i)).map f).getD z) H) : kGetZ2 d (.ref b) Q z H :=
  ⟨_, .inl (.inr ⟨_, [.inr x, .inl i], b, .inl m, rfl, mb, rfl⟩), by rw [valV_mT (k := (x, i))]; exact q⟩
theorem s_g1Ke {l : List (Str × α)} {x : Str} {v : α} (m : H d = some (.dK (mK f l))) (e : look l x = some v) (q : Q (f v) H) : kGetK1 d Q (.str x) H := s_g1Kv m (by rw [e]; exact q)
theorem s_g1Kz {l : List (Str × α)} {x : Str} (m : H d = some (.dK (mK f l))) (e : look l x = none) (q : Q .non H) : kGetK1 d Q (.str x) H := s_g1Kv m (by rw [e]; exact q)
theorem s_g2Ke {l : List (Str × α)} {x : Str} {v : α} {z : V} (m : H d = some (.dK (mK f l))) (e : look l x = some v) (q : Q (f v) H) : kGetZ2 d (.str x) Q z H := s_g2Kv m (by rw [e]; exact q)
theorem s_g2Kz {l : List (Str × α)} {x : Str} {z : V} (m : H d = some (.dK (mK f l))) (e : look l x = none) (q : Q z H) : kGetZ2 d (.str x) Q z H := s_g2Kv m (by rw [e]; exact q)
theorem s_g2TI {l : List ((Str × Int) × Int)} {x : Str} {i z : Int} (m : H d = some (.dT (mT V.int l))) (mb : H b = some (.tup [.str x, .int i])) (q : Q (.int ((look l (x, i)).getD z)) H) : kGetZ2 d (.ref b) Q (.int z) H :=
  s_g2Tv m mb (by cases e : look l (x, i) with
    | none => rw [e] at q; exact q
    | some v => rw [e] at q; exact q)
theorem s_ninKe {l : List (Str × α)} {x : Str} {v : α} (m : H d = some (.dK (mK f l))) (e : look l x = some v) (q : Q (.bl false) H) : rNotInV K (.str x) (.ref d) H Q :=
  .inl (.inr (.inl ⟨d, _, rfl, .inl ⟨_, .inr x, .inl m, rfl, rfl⟩, by rw [valV_mK, Option.isSome_map, e]; exact q⟩))
theorem s_ninKz {l : List (Str × α)} {x : Str} (m : H d = some (.dK (mK f l))) (e : look l x = none) (q : Q (.bl true) H) : rNotInV K (.str x) (.ref d) H Q :=
  .inl (.inr (.inl ⟨d, _, rfl, .inl ⟨_, .inr x, .inl m, rfl, rfl⟩, by rw [valV_mK, Option.isSome_map, e]; exact q⟩))
/-- a tuple made, tracked -/
theorem s_tupP {xs : List V} (hC : Ctx K B H L I) (hz : xs.length ≤ 1000) (k : ∀ p H1, Ctx K B H1 L (.pr (fun H => H p = some (.tup xs)) (fun _ _ s h => s _ _ h rfl) :: .tup p xs :: I) → Q (.ref p) H1) : kTup Q xs H :=
  ⟨Nat.le_trans hz (by decide), fun p hp => k p _ ((hC.newT hp).add (i := .pr (fun H => H p = some (.tup xs)) (fun _ _ s h => s _ _ h rfl)) upd_same)⟩
/-- d[x] -/
theorem s_ixKv {l : List (Str × α)} {x : Str} {v : α} (m : H d = some (.dK (mK f l))) (e : look l x = some v) (q : Q (f v) H) : rIxU K (.ref d) (.str x) H Q :=
  .inr (.inr (.inr ⟨d, f v, rfl, .inl ⟨_, .inr x, .inl m, rfl, by rw [valV_mK, e]; rfl⟩, q⟩))
theorem s_ixTv {l : List ((Str × Int) × α)} {x : Str} {i : Int} {v : α} (m : H d = some (.dT (mT f l))) (mb : H b = some (.tup [.str x, .int i])) (e : look l (x, i) = some v) (q : Q (f v) H) : rIxU K (.ref d) (.ref b) H Q :=
  .inr (.inr (.inr ⟨d, f v, rfl, .inr ⟨_, [.inr x, .inl i], b, .inl m, rfl, mb, by rw [valV_mT (k := (x, i)), e]; rfl⟩, q⟩))
/-- x in d, x not in d -/
theorem s_inKv {l : List (Str × α)} {x : Str} (m : H d = some (.dK (mK f l))) (q : Q (.bl (look l x).isSome) H) : rInV K (.str x) (.ref d) H Q :=
  .inl (.inr (.inl ⟨d, _, rfl, .inl ⟨_, .inr x, .inl m, rfl, rfl⟩, by rw [valV_mK, Option.isSome_map]; exact q⟩))
theorem s_ninKv {l : List (Str × α)} {x : Str} (m : H d = some (.dK (mK f l))) (q : Q (.bl (!(look l x).isSome)) H) : rNotInV K (.str x) (.ref d) H Q :=
  .inl (.inr (.inl ⟨d, _, rfl, .inl ⟨_, .inr x, .inl m, rfl, rfl⟩, by rw [valV_mK, Option.isSome_map]; exact q⟩))
theorem s_inKn {l : List (Key × V)} (m : H d = some (.dK l)) (q : Q (.bl false) H) : rInV K .non (.ref d) H Q := .inr ⟨d, l, rfl, rfl, .inl m, q⟩
theorem s_ninKn {l : List (Key × V)} (m : H d = some (.dK l)) (q : Q (.bl true) H) : rNotInV K .non (.ref d) H Q := .inr ⟨d, l, rfl, rfl, .inl m, q⟩
/-- d[x] = v -/
theorem s_putKv {R : Hp → Prop} {l : List (Str × α)} {x : Str} {v : α} (hC : Ctx K B H L I) (m : H d = some (.dK (mK f l))) (z : l.length < 100000) (u : Up d (.dK (mK f (putR l x v))) L L') (q : ∀ H1, Ctx K B H1 L' I → R H1) : rSetU (.ref d) (.str x) (f v) H R :=
  .inr ⟨d, _, rfl, DPut.k (k := Sum.inr x) m (by rw [mK_len]; exact Nat.lt_of_lt_of_le z (by decide)), by rw [putK_mK]; exact q _ (hC.put u rfl)⟩
theorem s_putTv {R : Hp → Prop} {l : List ((Str × Int) × α)} {x : Str} {i : Int} {v : α} (hC : Ctx K B H L I) (m : H d = some (.dT (mT f l))) (mb : H b = some (.tup [.str x, .int i])) (z : l.length < 100000) (u : Up d (.dT (mT f (putR l (x, i) v))) L L') (q : ∀ H1, Ctx K B H1 L' I → R H1) : rSetU (.ref d) (.ref b) (f v) H R :=
  .inr ⟨d, _, rfl, DPut.t (k := [Sum.inr x, Sum.inl i]) m mb (by rw [mT_len]; exact Nat.lt_of_lt_of_le z (by decide)), by rw [putK_mT (k := (x, i))]; exact q _ (hC.put u rfl)⟩
end
theorem TDs_at {K : PySem.W.Frag} {H : Hp} {d : PyData} : ∀ {vs : List V} {ds : List PyData} {i : Nat}, TDs K H vs ds → ds[i]? = some d → ∃ v, vs[i]? = some v ∧ TD K H v d
  | _, _, 0, .cons a b, h => by
    have e : _ = d := Option.some.inj h
    exact ⟨_, rfl, e ▸ a⟩
  | _, _, i + 1, .cons a b, h => by
    obtain ⟨v, e, q⟩ := TDs_at (i := i) b (by simpa using h)
    exact ⟨v, by simpa using e, q⟩
  | _, _, _, .nil, h => by simp at h
theorem TDs_set {K : PySem.W.Frag} {H : Hp} {v : V} {d : PyData} : ∀ {vs : List V} {ds : List PyData} {i : Nat}, TDs K H vs ds → TD K H v d → TDs K H (vs.set i v) (ds.set i d)
  | _, _, 0, .cons a b, q => .cons q b
  | _, _, i + 1, .cons a b, q => .cons a (TDs_set (i := i) b q)
  | _, _, _, .nil, q => .nil
end Ph
namespace Ph
open PySem PySem.Spec PyProof.Rows L2
section
variable {K : PySem.W.Frag} {B H : Hp} {L L' F : List (Addr × HO)} {I : List Im} {Q : VK} {σ : L2.St} {A Cb Dc : L2.St → Hp → Prop} {Bt : VK}
variable {J : It} {n : Nat} {G : Hp → Prop} {Y : Nat → Hp → V → Hp → Prop}
theorem s_yes {Qb : Bool → Hp → Prop} (h : Qb true H) : tYes σ H Qb := h
/-! the walked thing -/
def kIt (K : PySem.W.Frag) (R : It → Hp → Prop) : VK := fun x H1 => ∃ a, x = .ref a ∧ (∃ xs, SqT K H1 a xs) ∧ R (Itt K a) H1
theorem s_it {tl : TE} {R : It → Hp → Prop} (h : tl σ H (kIt K R)) : iTup K tl σ H R := h
theorem s_itV {a : Addr} {xs : List V} {R : It → Hp → Prop} (m : SqT K H a xs) (h : R (Itt K a) H) : kIt K R (.ref a) H := ⟨a, rfl, ⟨xs, m⟩, h⟩
def kSeq (K : PySem.W.Frag) (R : It → Hp → Prop) : VK := fun x H1 => ∃ a, x = .ref a ∧ (((∃ xs, SqL K H1 a xs) ∧ R (Itl K a) H1) ∨ ((∃ xs, SqT K H1 a xs) ∧ R (Itt K a) H1))
theorem s_seqI {tl : TE} {R : It → Hp → Prop} (h : tl σ H (kSeq K R)) : iSeq K tl σ H R := h
theorem s_seqL {a : Addr} {xs : List V} {R : It → Hp → Prop} (m : H a = some (.lst xs)) (h : R (Itl K a) H) : kSeq K R (.ref a) H := ⟨a, rfl, .inl ⟨⟨xs, SqL.of m⟩, h⟩⟩
theorem s_seqT {a : Addr} {xs : List V} {R : It → Hp → Prop} (m : SqT K H a xs) (h : R (Itt K a) H) : kSeq K R (.ref a) H := ⟨a, rfl, .inr ⟨⟨xs, m⟩, h⟩⟩
def kKeys (R : It → Hp → Prop) : VK := fun x H1 => ∃ d o, x = .ref d ∧ ((∃ kvs, H1 d = some (.frz o (.dK kvs)) ∧ R (Itk d o kvs) H1) ∨ ∃ kvs, H1 d = some (.frz o (.dT kvs)) ∧ R (Itkt d o kvs) H1)
theorem s_keys {td : TE} {R : It → Hp → Prop} (h : td σ H (kKeys R)) : iKeys td σ H R := h
theorem s_keysK {d : Addr} {o : Obj} {kvs : List (Key × V)} {R : It → Hp → Prop} (m : H d = some (.frz o (.dK kvs))) (h : R (Itk d o kvs) H) : kKeys R (.ref d) H := ⟨d, o, rfl, .inl ⟨kvs, m, h⟩⟩
theorem s_keysT {d : Addr} {o : Obj} {kvs : List (List Key × V)} {R : It → Hp → Prop} (m : H d = some (.frz o (.dT kvs))) (h : R (Itkt d o kvs) H) : kKeys R (.ref d) H := ⟨d, o, rfl, .inr ⟨kvs, m, h⟩⟩
/-! for -/
theorem for_w (w : Walk J n G Y) {g : TG} {tb : TS} (Pv : Nat → L2.St → Hp → Prop) (h0 : Pv 0 σ H) (hG : ∀ i σ H, i ≤ n → Pv i σ H → G H)
    (hs : ∀ i x σ H H', i < n → Pv i σ H → Y i H x H' → g x σ H' fun σ2 H2 => tb ⟨Pv (i + 1), Bt, A, Pv (i + 1)⟩ σ2 H2) (hd : ∀ σ H, Pv n σ H → A σ H) : kFor g tb ⟨A, Bt, Cb, Dc⟩ σ J H :=
  for_it w (g := g) (tb := tb) (D := ⟨A, Bt, Cb, Dc⟩) Pv h0 hG hs hd
/-! comprehensions -/
theorem lc_w (w : Walk J n G Y) {g : TG} {tt : TT} {te : TE} {vs : List Nat} (hC : Ctx K B H L I) (Pv : Addr → Nat → Hp → Prop) (h0 : ∀ D H1, Ctx K B H1 ((D, .lst []) :: L) I → Pv D 0 H1) (hG : ∀ D i H, i ≤ n → Pv D i H → G H)
    (hs : ∀ i x D H H', i < n → Pv D i H → Y i H x H' → g x (wipe σ vs) H' fun σ2 H2 => wipe σ2 vs = wipe σ vs ∧ tt σ2 H2 fun b H3 => if b = true then te σ2 H3 (kApp D (Pv D (i + 1))) else Pv D (i + 1) H3)
    (hd : ∀ D H, Pv D n H → Q (.ref D) H) : kLc g tt te vs σ Q J H := fun D hD =>
  lc_it w (g := g) (tt := tt) (te := te) (vs := vs) (σ := σ) (H1 := H) (D := D) (Qd := fun H => Q (.ref D) H) (fun i H => Pv D i H) (h0 D _ (hC.newM hD rfl)) (fun i H hi p => hG D i H hi p)
    (fun i x H H' hi p y => hs i x D H H' hi p y) (fun H p => hd D H p)
/-! any, all -/
section
variable {b0 : Bool} {g g0 g1 : TG} {tt tt0 tt1 : TT} {te : TE} {vs vs1 : List Nat} {P : Addr} {wi wi1 : TI} {tb : Array Value}
abbrev cyA (b0 : Bool) : V → Prop := fun y => y = .bl (!b0)
abbrev pyA (b0 : Bool) (Q : VK) : List V → V → Hp → Prop := fun _ y H' => ∃ b, y = .bl b ∧ (b = b0 → Q (.bl b0) H')
def kAnyW (b0 : Bool) (g : TG) (tt : TT) (te : TE) (vs : List Nat) (σ : L2.St) (Q : VK) : It → Hp → Prop := fun J H2 => ∃ W : Nat → Nat → List V → Hp → Prop, (∃ m, W 0 m [] H2) ∧ GW J g tt te vs σ (cyA b0) (pyA b0 Q) (fun _ H' => Q (.bl (!b0)) H') W
def kAnyG (P : Addr) (b0 : Bool) (g : TG) (tt : TT) (te : TE) (vs : List Nat) (σ : L2.St) (Q : VK) : It → Hp → Prop := fun J H1 => GxR.TabG H1 P ∧ ∀ H2, GxR.Tabbed P H1 H2 → kAnyW b0 g tt te vs σ Q J H2
theorem s_anyX (h : wi σ H (kAnyG P b0 g tt te vs σ Q)) : tAnyX b0 P wi g tt te vs σ H Q := h
theorem tabbed_ctx {R : Hp → Prop} (hC : Ctx K B H L I) (m : Pick (P, .tbl tb) L L') (f : Im.tri tb ∈ I) (k : ∀ tb' H1, Ctx K B H1 ((P, .tbl tb') :: L') (.tri tb' :: I) → R H1) : GxR.TabG H P ∧ ∀ H2, GxR.Tabbed P H H2 → R H2 := by
  have hC := hC.pick m
  refine ⟨⟨tb, hC.get List.mem_cons_self, hC.tri f⟩, fun Hb hT => ?_⟩
  obtain ⟨⟨tb', h1, h2⟩, h3⟩ := hT
  exact k tb' Hb ((hC.but List.mem_cons_self .here rfl (fun b u n e => by rw [h3 b n]; exact e) h1).add (i := .tri tb') h2)
theorem s_anyGV (hC : Ctx K B H L I) (m : Pick (P, .tbl tb) L L') (f : Im.tri tb ∈ I) (k : ∀ tb' H1, Ctx K B H1 ((P, .tbl tb') :: L') (.tri tb' :: I) → kAnyW b0 g tt te vs σ Q J H1) : kAnyG P b0 g tt te vs σ Q J H := tabbed_ctx hC m f k
/-- one value of the generator: either it ends here, or on -/
def kAnyE (b0 : Bool) (ys : List V) (c : Nat) (Pn : Hp → Prop) (Q : VK) : VK := fun y H4 => ys.length < sizeLine ∧ pyA b0 Q ys y H4 ∧ (cyA b0 y → (ys ++ [y]).length ≤ c ∧ Pn H4)
theorem s_anyE {ys : List V} {c : Nat} {b : Bool} {Pn : Hp → Prop} (z : ys.length < c) (z2 : c ≤ 1000000) (h : if b = b0 then Q (.bl b0) H else Pn H) : kAnyE b0 ys c Pn Q (.bl b) H := by
  refine ⟨by rw [sizeLine_eq]; omega, ⟨b, rfl, fun e => ?_⟩, fun e => ⟨by rw [List.length_append]; exact z, ?_⟩⟩
  · rw [if_pos e] at h
    exact h
  · have e2 : b = !b0 := V.bl.inj e
    rw [if_neg (by rw [e2]; cases b0 <;> simp)] at h
    exact h
theorem any_w (w : Walk J n G Y) (hn : n ≤ 100000) (Pv : Nat → Hp → Prop) (h0 : Pv 0 H) (hG : ∀ i H, i ≤ n → Pv i H → G H)
    (hs : ∀ i x H H' (ys : List V), i < n → ys.length < i + 1 → i + 1 ≤ 1000000 → Pv i H → Y i H x H' → g x (wipe σ vs) H' fun σ2 H2 => wipe σ2 vs = wipe σ vs ∧ tt σ2 H2 fun b H3 => if b = true then te σ2 H3 (kAnyE b0 ys (i + 1) (Pv (i + 1)) Q) else ys.length ≤ i + 1 ∧ Pv (i + 1) H3)
    (hd : ∀ H, Pv n H → Q (.bl (!b0)) H) : kAnyW b0 g tt te vs σ Q J H := by
  refine ⟨fun i m ys H => m = n - i ∧ i ≤ n ∧ ys.length ≤ i ∧ Pv i H, ⟨n, by simp, Nat.zero_le _, Nat.le_refl _, h0⟩, ?_⟩
  rintro i m ys H ⟨rfl, hi, hy, p⟩
  by_cases hlt : i < n
  · refine .inr ⟨w.goes i H hlt (hG i H hi p), fun ys H => ys.length ≤ i + 1 ∧ Pv (i + 1) H, fun ys' H' p' => ⟨n - (i + 1), by omega, rfl, hlt, p'.1, p'.2⟩, fun x H' y => ?_⟩
    exact hs i x H H' ys hlt (by omega) (by omega) p (w.yields i H x H' hlt (hG i H hi p) y)
  · have e : i = n := by omega
    subst e
    exact .inl ⟨w.stops H (hG _ H hi p), hd H p⟩
/-! two fors -/
def kAnyW2 (b0 : Bool) (g0 : TG) (tt0 : TT) (wi1 : TI) (g1 : TG) (tt1 : TT) (te : TE) (vs vs1 : List Nat) (σ : L2.St) (Q : VK) : It → Hp → Prop := fun J H2 => ∃ W : Nat → Nat → List V → Hp → Prop, (∃ m, W 0 m [] H2) ∧ GW2 J g0 tt0 wi1 g1 tt1 te vs vs1 σ (cyA b0) (pyA b0 Q) (fun _ H' => Q (.bl (!b0)) H') W
def kAnyG2 (P : Addr) (b0 : Bool) (g0 : TG) (tt0 : TT) (wi1 : TI) (g1 : TG) (tt1 : TT) (te : TE) (vs vs1 : List Nat) (σ : L2.St) (Q : VK) : It → Hp → Prop := fun J H1 => GxR.TabG H1 P ∧ ∀ H2, GxR.Tabbed P H1 H2 → kAnyW2 b0 g0 tt0 wi1 g1 tt1 te vs vs1 σ Q J H2
theorem s_anyX2 (h : wi σ H (kAnyG2 P b0 g0 tt0 wi1 g1 tt1 te vs vs1 σ Q)) : tAnyX2 b0 P wi g0 tt0 wi1 g1 tt1 te vs vs1 σ H Q := h
theorem s_anyGV2 (hC : Ctx K B H L I) (m : Pick (P, .tbl tb) L L') (f : Im.tri tb ∈ I) (k : ∀ tb' H1, Ctx K B H1 ((P, .tbl tb') :: L') (.tri tb' :: I) → kAnyW2 b0 g0 tt0 wi1 g1 tt1 te vs vs1 σ Q J H1) : kAnyG2 P b0 g0 tt0 wi1 g1 tt1 te vs vs1 σ Q J H := tabbed_ctx hC m f k
/-- the inner for: at most 1000 turns -/
def kAnyIn (b0 : Bool) (g1 : TG) (tt1 : TT) (te : TE) (vs1 : List Nat) (σ : L2.St) (Q : VK) (ys : List V) (c : Nat) (Pn : Hp → Prop) : It → Hp → Prop := fun J1 H4 => ∃ W1 : Nat → Nat → List V → Hp → Prop, (∃ m, W1 0 m ys H4) ∧ GW J1 g1 tt1 te vs1 σ (cyA b0) (pyA b0 Q) (fun ys H => ys.length ≤ c ∧ Pn H) W1
theorem any_w2 (w : Walk J n G Y) (hn : n ≤ 100) (Pv : Nat → Hp → Prop) (h0 : Pv 0 H) (hG : ∀ i H, i ≤ n → Pv i H → G H)
    (hs : ∀ i x H H' (ys : List V), i < n → ys.length ≤ 1000 * i → i ≤ 100 → Pv i H → Y i H x H' → g0 x (wipe σ vs) H' fun σ2 H2 => wipe σ2 vs = wipe σ vs ∧ tt0 σ2 H2 fun b H3 =>
      if b = true then wi1 σ2 H3 (kAnyIn b0 g1 tt1 te vs1 σ2 Q ys (1000 * (i + 1)) (Pv (i + 1))) else ys.length ≤ 1000 * (i + 1) ∧ Pv (i + 1) H3)
    (hd : ∀ H, Pv n H → Q (.bl (!b0)) H) : kAnyW2 b0 g0 tt0 wi1 g1 tt1 te vs vs1 σ Q J H := by
  refine ⟨fun i m ys H => m = n - i ∧ i ≤ n ∧ ys.length ≤ 1000 * i ∧ Pv i H, ⟨n, by simp, Nat.zero_le _, Nat.le_refl _, h0⟩, ?_⟩
  rintro i m ys H ⟨rfl, hi, hy, p⟩
  by_cases hlt : i < n
  · refine .inr ⟨w.goes i H hlt (hG i H hi p), fun ys H => ys.length ≤ 1000 * (i + 1) ∧ Pv (i + 1) H, fun ys' H' p' => ⟨n - (i + 1), by omega, rfl, hlt, p'.1, p'.2⟩, fun x H' y => ?_⟩
    exact hs i x H H' ys hlt hy (by omega) p (w.yields i H x H' hlt (hG i H hi p) y)
  · have e : i = n := by omega
    subst e
    exact .inl ⟨w.stops H (hG _ H hi p), hd H p⟩
theorem any_in {ys : List V} {c : Nat} {Pn : Hp → Prop} (w : Walk J n G Y) (hn : n ≤ 1000) (hy : ys.length + 1000 ≤ c) (hc : c ≤ 1000000) (Pv : Nat → Hp → Prop) (h0 : Pv 0 H) (hG : ∀ i H, i ≤ n → Pv i H → G H)
    (hs : ∀ i x H H' (ys : List V) (c' : Nat), i < n → ys.length < c' → c' ≤ 1000000 → Pv i H → Y i H x H' → g1 x (wipe σ vs1) H' fun σ2 H2 => wipe σ2 vs1 = wipe σ vs1 ∧ tt1 σ2 H2 fun b H3 => if b = true then te σ2 H3 (kAnyE b0 ys c' (Pv (i + 1)) Q) else ys.length ≤ c' ∧ Pv (i + 1) H3)
    (hd : ∀ H, Pv n H → Pn H) : kAnyIn b0 g1 tt1 te vs1 σ Q ys c Pn J H := by
  refine ⟨fun i m zs H => m = n - i ∧ i ≤ n ∧ zs.length ≤ ys.length + i ∧ Pv i H, ⟨n, by simp, Nat.zero_le _, Nat.le_refl _, h0⟩, ?_⟩
  rintro i m zs H ⟨rfl, hi, hz, p⟩
  by_cases hlt : i < n
  · refine .inr ⟨w.goes i H hlt (hG i H hi p), fun zs H => zs.length ≤ ys.length + i + 1 ∧ Pv (i + 1) H, fun ys' H' p' => ⟨n - (i + 1), by omega, rfl, hlt, p'.1, p'.2⟩, fun x H' y => ?_⟩
    exact hs i x H H' zs (ys.length + i + 1) hlt (by omega) (by omega) p (w.yields i H x H' hlt (hG i H hi p) y)
  · have e : i = n := by omega
    subst e
    exact .inl ⟨w.stops H (hG _ H hi p), by omega, hd H p⟩
end
/-! locks -/
def kUnl (d : Addr) (od : Obj) (u : HO) (Q : VK) : VK := fun v H' => H' d = some (.frz od u) ∧ Q v (upd H' d u)
theorem s_lock {t : TE} {d : Addr} {u : HO} (hC : Ctx K B H L I) (m : Pick (d, u) L L') (mu : Mut (some u))
    (k : ∀ od H1, Stb H H1 → Ctx K H1 H1 L' (.pr (fun H => H d = some (.frz od u)) (fun _ _ s h => s _ _ h rfl) :: I) → t σ H1 (kUnl d od u Q)) : tLockE t σ H Q := by
  have hC := hC.pick m
  have e := hC.lay.at_ _ List.mem_cons_self
  refine ⟨d, u, hC.get List.mem_cons_self, mu, fun od => ?_⟩
  have s : Stb H (upd H d (.frz od u)) := Stb.put e.1 e.2
  refine k od _ s ?_
  refine ⟨⟨(List.nodup_cons.mp hC.lay.nd).2, fun p hp => ?_⟩, fun i hi => ?_, Stb.refl _⟩
  · have q := hC.lay.at_ p (List.mem_cons_of_mem _ hp)
    have ne : p.1 ≠ d := hC.lay.ne (u := p.2) hp
    exact ⟨by rw [upd_ne ne]; exact q.1, q.2⟩
  · rcases List.mem_cons.mp hi with rfl | hi
    · exact upd_same
    · exact Im.mono s (hC.im i hi)
/-- the lock goes: hC0 from before it -/
theorem unlock {d : Addr} {od : Obj} {u : HO} {H1 H2 : Hp} {L2' : List (Addr × HO)} {J : List Im} (hC0 : Ctx K B H L I) (m : Pick (d, u) L L') (e1 : Stb H H1) (hC : Ctx K H1 H2 L2' J) (f : H2 d = some (.frz od u)) :
    Ctx K B (upd H2 d u) ((d, u) :: L2') I := by
  have h0 := hC0.pick m
  have e := h0.lay.at_ _ List.mem_cons_self
  have s : Stb H (upd H2 d u) := fun b w hb mw => by
    have ne : b ≠ d := fun z => by
      rw [z, e.1] at hb
      cases hb
      rw [e.2] at mw
      cases mw
    rw [upd_ne ne]
    exact hC.sb b w (e1 b w hb mw) mw
  refine h0.moved s ⟨?_, fun p hp => ?_⟩
  · rw [List.map_cons, List.nodup_cons]
    refine ⟨fun z => ?_, hC.lay.nd⟩
    obtain ⟨q, hq, eq⟩ := List.mem_map.mp z
    have z2 := hC.lay.at_ q hq
    rw [eq, f] at z2
    have z3 := Option.some.inj z2.1
    have z4 := z2.2
    rw [← z3] at z4
    cases z4
  · rcases List.mem_cons.mp hp with rfl | hp
    · exact ⟨upd_same, e.2⟩
    · have q := hC.lay.at_ p hp
      have ne : p.1 ≠ d := fun z => by
        rw [z, f] at q
        have z3 := Option.some.inj q.1
        have z4 := q.2
        rw [← z3] at z4
        cases z4
      exact ⟨by rw [upd_ne ne]; exact q.1, q.2⟩
theorem s_unl {d : Addr} {od : Obj} {u : HO} {v : V} {H1 H2 : Hp} {L2' : List (Addr × HO)} {J : List Im} (hC0 : Ctx K B H L I) (m : Pick (d, u) L L') (e1 : Stb H H1) (hC : Ctx K H1 H2 L2' J) (f : H2 d = some (.frz od u)) (k : ∀ H3, Ctx K B H3 ((d, u) :: L2') I → Q v H3) : kUnl d od u Q v H2 := ⟨f, k _ (unlock hC0 m e1 hC f)⟩
end
/-- a dict's rows of plain data: both lists by the same keys -/
theorem look_TDs {K : PySem.W.Frag} {H : Hp} {κ α : Type} [DecidableEq κ] {d : α → PyData} {k : κ} : ∀ {vc : List (κ × V)} {cl : List (κ × α)}, vc.map (·.1) = cl.map (·.1) → TDs K H (vc.map (·.2)) (cl.map fun p => d p.2) →
    (look cl k = none ∧ look vc k = none) ∨ ∃ r v, look cl k = some r ∧ look vc k = some v ∧ TD K H v (d r)
  | [], [], _, _ => .inl ⟨rfl, rfl⟩
  | [], _ :: _, h, _ => by simp at h
  | _ :: _, [], h, _ => by simp at h
  | p :: r, q :: s, h1, h2 => by
    simp only [List.map_cons, List.cons.injEq] at h1 h2
    cases h2 with
    | cons a b =>
      rw [look_cons, look_cons]
      by_cases e : q.1 = k
      · rw [if_pos e, if_pos (h1.1.trans e)]
        exact .inr ⟨_, _, rfl, rfl, a⟩
      · rw [if_neg e, if_neg (fun z => e (h1.1.symm.trans z))]
        exact look_TDs h1.2 b
theorem any_keys {κ α : Type} [DecidableEq κ] {k : κ} (l : List (κ × α)) : (l.any fun p => decide (p.1 = k)) = ((l.map (·.1)).any fun x => decide (x = k)) := by
  rw [List.any_map]; rfl
theorem put_keys {κ α β : Type} [DecidableEq κ] {k : κ} {v : α} {w : β} {l : List (κ × α)} {m : List (κ × β)} (h : l.map (·.1) = m.map (·.1)) : (putR l k v).map (·.1) = (putR m k w).map (·.1) := by
  have e : ∀ {γ : Type} (u : γ) (l : List (κ × γ)), (l.map fun p => if p.1 = k then (p.1, u) else p).map (·.1) = l.map (·.1) := fun u l => by
    rw [List.map_map]
    refine List.map_congr_left fun p _ => ?_
    by_cases h : p.1 = k <;> simp [h]
  unfold putR
  rw [any_keys l, any_keys m, h]
  split
  · rw [e, e, h]
  · rw [List.map_append, List.map_append, h]; rfl
theorem mapput_TDs {K : PySem.W.Frag} {H : Hp} {κ α : Type} [DecidableEq κ] {d : α → PyData} {k : κ} {v : V} {x : α} (q : TD K H v (d x)) : ∀ {vc : List (κ × V)} {cl : List (κ × α)}, vc.map (·.1) = cl.map (·.1) → TDs K H (vc.map (·.2)) (cl.map fun p => d p.2) →
    TDs K H ((vc.map fun p => if p.1 = k then (p.1, v) else p).map (·.2)) ((cl.map fun p => if p.1 = k then (p.1, x) else p).map fun p => d p.2)
  | [], [], _, _ => .nil
  | [], _ :: _, h, _ => by simp at h
  | _ :: _, [], h, _ => by simp at h
  | p :: r, c :: s, h1, h2 => by
    simp only [List.map_cons, List.cons.injEq] at h1 h2
    cases h2 with
    | cons a b =>
      have ih := mapput_TDs (k := k) q h1.2 b
      simp only [List.map_cons]
      by_cases e : c.1 = k
      · rw [if_pos e, if_pos (h1.1.trans e)]
        exact .cons q ih
      · rw [if_neg e, if_neg (fun z => e (h1.1.symm.trans z))]
        exact .cons a ih
theorem put_TDs {K : PySem.W.Frag} {H : Hp} {κ α : Type} [DecidableEq κ] {d : α → PyData} {k : κ} {v : V} {x : α} {vc : List (κ × V)} {cl : List (κ × α)} (h1 : vc.map (·.1) = cl.map (·.1)) (h2 : TDs K H (vc.map (·.2)) (cl.map fun p => d p.2)) (q : TD K H v (d x)) :
    TDs K H ((putR vc k v).map (·.2)) ((putR cl k x).map fun p => d p.2) := by
  unfold putR
  rw [any_keys vc, any_keys cl, h1]
  split
  · exact mapput_TDs q h1 h2
  · rw [List.map_append, List.map_append]
    exact TDs.snoc h2 q
section
variable {K : PySem.W.Frag} {B H : Hp} {L L' : List (Addr × HO)} {I : List Im} {Q : VK} {d : Addr}
/-- tuple(..), list(..) -/
theorem s_tupOfL {p : Addr} {ys : List V} (hC : Ctx K B H L I) (m : H p = some (.lst ys)) (k : ∀ l H1, Ctx K B H1 L (.tup l ys :: I) → Q (.ref l) H1) : rTupOf K [.ref p] H Q := ⟨p, ys, rfl, .inl ⟨SqL.of m, fun l hl => k l _ (hC.newT hl)⟩⟩
theorem s_tupOfT {p : Addr} {ys : List V} (m : SqT K H p ys) (k : Q (.ref p) H) : rTupOf K [.ref p] H Q := ⟨p, ys, rfl, .inr ⟨m, k⟩⟩
theorem s_listOfL {p : Addr} {ys : List V} (hC : Ctx K B H L I) (m : H p = some (.lst ys)) (k : ∀ l H1, Ctx K B H1 ((l, .lst ys) :: L) I → Q (.ref l) H1) : rListOf K [.ref p] H Q := ⟨p, ys, rfl, .inl (SqL.of m), fun l hl => k l _ (hC.newM hl rfl)⟩
theorem s_listOfT {p : Addr} {ys : List V} (hC : Ctx K B H L I) (m : SqT K H p ys) (k : ∀ l H1, Ctx K B H1 ((l, .lst ys) :: L) I → Q (.ref l) H1) : rListOf K [.ref p] H Q := ⟨p, ys, rfl, .inr m, fun l hl => k l _ (hC.newM hl rfl)⟩
theorem s_putKi {R : Hp → Prop} {l : List (Str × V)} {x : Str} {v : V} (hC : Ctx K B H L I) (m : H d = some (.dK (mK id l))) (z : l.length < 100000) (u : Up d (.dK (mK id (putR l x v))) L L') (q : ∀ H1, Ctx K B H1 L' I → R H1) : rSetU (.ref d) (.str x) v H R := s_putKv (f := id) hC m z u q
end
theorem ints_dats (K : PySem.W.Frag) (H : Hp) : ∀ ns : List Int, TDs K H (ns.map V.int) (ns.map PyData.int)
  | [] => .nil
  | n :: r => .cons (.int n) (ints_dats K H r)
theorem ints_sh {n : Nat} : ∀ ns : List Int, ShL n (ns.map PyData.int)
  | [] => ShL.nil
  | i :: r => ShL.cons (Sh.int i) (ints_sh r)
theorem take_get {α : Type} {r : List α} {i : Nat} {p : α} (h : r[i]? = some p) : r.take (i + 1) = r.take i ++ [p] := by
  rw [List.take_succ, h]; rfl
end Ph
namespace Ph
open PySem PySem.Spec PyProof.Rows L2
def nS (i : Int) : Str := Str.ofString (toString i)
theorem nS_len {i : Int} (h0 : 0 ≤ i) (h1 : i < 1000) : (nS i).length ≤ 3 := by
  obtain ⟨n, rfl⟩ := Int.eq_ofNat_of_zero_le h0
  have h : ∀ n : Fin 1000, (nS (n.val : Int)).length ≤ 3 := by decide +kernel
  exact h ⟨n, by omega⟩
section
variable {K : PySem.W.Frag} {B H : Hp} {L L' : List (Addr × HO)} {I : List Im} {Q : VK} {σ : L2.St} {d b : Addr}
theorem s_strI {i : Int} (h0 : 0 ≤ i) (h1 : i < 1000) (h : Q (.str (nS i)) H) : rStrI [.int i] H Q :=
  ⟨i, rfl, Nat.lt_of_le_of_lt (Nat.log2_le_self _) (by omega), h⟩
theorem s_neNN (h : Q (.bl false) H) : rNeU K .non .non H Q := .inl ⟨rfl, by rw [show (!decide (V.non = V.non)) = false from by simp]; exact h⟩
theorem s_eqNN (h : Q (.bl true) H) : rEqU K .non .non H Q := .inl ⟨rfl, by rw [show (decide (V.non = V.non)) = true from by simp]; exact h⟩
theorem s_neNI {i : Int} (h : Q (.bl true) H) : rNeU K .non (.int i) H Q := .inl ⟨rfl, by rw [show (!decide (V.non = V.int i)) = true from by simp]; exact h⟩
theorem s_rep1 {l : Addr} {xs : List V} (hC : Ctx K B H L I) (m : H l = some (.lst xs)) (z : xs.length ≤ 1000) (k : ∀ p H1, Ctx K B H1 ((p, .lst xs) :: L) I → Q (.ref p) H1) : rMulU (.ref l) (.int 1) H Q :=
  ⟨l, 1, xs, rfl, rfl, m, by decide, by decide, by rw [sizeLine_eq]; show xs.length * 1 ≤ _; omega, fun p hp => by
    have e : (List.replicate (1 : Int).toNat xs).flatten = xs := by simp
    rw [e]
    exact k p _ (hC.newM hp rfl)⟩
theorem s_rep0 {l : Addr} {xs : List V} (hC : Ctx K B H L I) (m : H l = some (.lst xs)) (k : ∀ p H1, Ctx K B H1 ((p, .lst []) :: L) I → Q (.ref p) H1) : rMulU (.ref l) (.int 0) H Q :=
  ⟨l, 0, xs, rfl, rfl, m, by decide, by decide, by rw [sizeLine_eq]; show xs.length * 0 ≤ _; omega, fun p hp => by
    have e : (List.replicate (0 : Int).toNat xs).flatten = [] := by simp
    rw [e]
    exact k p _ (hC.newM hp rfl)⟩
theorem s_ixTF {α : Type} {f : α → V} {o : Obj} {l : List ((Str × Int) × α)} {x : Str} {i : Int} {v : α} (m : H d = some (.frz o (.dT (mT f l)))) (mb : H b = some (.tup [.str x, .int i])) (e : look l (x, i) = some v) (q : Q (f v) H) : rIxU K (.ref d) (.ref b) H Q :=
  .inr (.inr (.inr ⟨d, f v, rfl, .inr ⟨_, [.inr x, .inl i], b, .inr ⟨o, m⟩, rfl, mb, by rw [valV_mT (k := (x, i)), e]; rfl⟩, q⟩))
theorem s_ixStr {l : Addr} {xs : List V} {i : Int} (hm : H l = some (.lst xs)) (h0 : 0 ≤ i) (h1 : i < xs.length) (q : ∀ v, v ∈ xs → Q v H) : rIxU K (.ref l) (.int i) H Q := s_ixOne hm h0 h1 q
theorem s_inKe {α : Type} {f : α → V} {l : List (Str × α)} {x : Str} {v : α} (m : H d = some (.dK (mK f l))) (e : look l x = some v) (q : Q (.bl true) H) : rInV K (.str x) (.ref d) H Q := s_inKv m (by rw [e]; exact q)
theorem s_inKz {α : Type} {f : α → V} {l : List (Str × α)} {x : Str} (m : H d = some (.dK (mK f l))) (e : look l x = none) (q : Q (.bl false) H) : rInV K (.str x) (.ref d) H Q := s_inKv m (by rw [e]; exact q)
theorem s_ne00 {l m : Addr} (hl : H l = some (.lst [])) (hm : H m = some (.lst [])) (k : Q (.bl false) H) : rNeU K (.ref l) (.ref m) H Q := s_neE hl hm .nil .nil k
theorem s_eq00 {l m : Addr} (hl : H l = some (.lst [])) (hm : H m = some (.lst [])) (k : Q (.bl true) H) : rEqU K (.ref l) (.ref m) H Q := s_eqE hl hm .nil .nil k
theorem _root_.Ph.Lay.subl (y : Lay H L) (s : L'.Sublist L) : Lay H L' := ⟨(s.map _).nodup y.nd, fun p hp => y.at_ p (s.subset hp)⟩
theorem s_neSameD {x y : V} {d : PyData} {n : Nat} (h1 : Dp K H x d) (h2 : Dp K H y d) (s : Sh n d) (z : n ≤ 50) (k : Q (.bl false) H) : rNeU K x y H Q :=
  s_neD h1 h2 (s.shaped (by omega)) (s.shaped (by omega)) (by rw [eqv_self s]; exact k)
theorem s_eqSameD {x y : V} {d : PyData} {n : Nat} (h1 : Dp K H x d) (h2 : Dp K H y d) (s : Sh n d) (z : n ≤ 50) (k : Q (.bl true) H) : rEqU K x y H Q :=
  s_eqD h1 h2 (s.shaped (by omega)) (s.shaped (by omega)) (by rw [eqv_self s]; exact k)
theorem s_ltT {i j : Int} (p : i < j) (h : Q (.bl true) H) : rLt (.int i) (.int j) H Q := s_ltI (by rw [decide_eq_true p]; exact h)
theorem s_ltF {i j : Int} (p : ¬ i < j) (h : Q (.bl false) H) : rLt (.int i) (.int j) H Q := s_ltI (by rw [decide_eq_false p]; exact h)
theorem s_leT {i j : Int} (p : i ≤ j) (h : Q (.bl true) H) : rLe (.int i) (.int j) H Q := s_leI (by rw [decide_eq_true p]; exact h)
theorem s_leF {i j : Int} (p : ¬ i ≤ j) (h : Q (.bl false) H) : rLe (.int i) (.int j) H Q := s_leI (by rw [decide_eq_false p]; exact h)
theorem s_gtT {i j : Int} (p : j < i) (h : Q (.bl true) H) : rGt (.int i) (.int j) H Q := s_gtI (by rw [decide_eq_true p]; exact h)
theorem s_gtF {i j : Int} (p : ¬ j < i) (h : Q (.bl false) H) : rGt (.int i) (.int j) H Q := s_gtI (by rw [decide_eq_false p]; exact h)
theorem s_geT {i j : Int} (p : j ≤ i) (h : Q (.bl true) H) : rGe (.int i) (.int j) H Q := s_geI (by rw [decide_eq_true p]; exact h)
theorem s_geF {i j : Int} (p : ¬ j ≤ i) (h : Q (.bl false) H) : rGe (.int i) (.int j) H Q := s_geI (by rw [decide_eq_false p]; exact h)
theorem s_ixSet {l : Addr} {xs : List V} {n : Nat} {v : V} (m : H l = some (.lst (xs.set n v))) (h : n < xs.length) (q : Q v H) : rIxU K (.ref l) (.int (n : Nat)) H Q := s_ixL m (atI_nat (by rw [List.getElem?_set]; simp [h])) q
theorem cut3 (a b c d : V) : cutV [a, b, c, d] none (some 3) = [a, b, c] := rfl
theorem s_g1Kei {l : List (Str × V)} {x : Str} {v : V} (m : H d = some (.dK (mK id l))) (e : look l x = some v) (q : Q v H) : kGetK1 d Q (.str x) H := s_g1Ke m e q
theorem s_g2Kei {l : List (Str × V)} {x : Str} {v z : V} (m : H d = some (.dK (mK id l))) (e : look l x = some v) (q : Q v H) : kGetZ2 d (.str x) Q z H := s_g2Ke m e q
theorem s_ixKvi {l : List (Str × V)} {x : Str} {v : V} (m : H d = some (.dK (mK id l))) (e : look l x = some v) (q : Q v H) : rIxU K (.ref d) (.str x) H Q := s_ixKv m e q
theorem s_ixPut {α : Type} {f : α → V} {l : List (Str × α)} {x : Str} {v : α} (m : H d = some (.dK (mK f (putR l x v)))) (q : Q (f v) H) : rIxU K (.ref d) (.str x) H Q := s_ixKv m (by rw [look_put, if_pos rfl]) q
theorem s_ixPuti {l : List (Str × V)} {x : Str} {v : V} (m : H d = some (.dK (mK id (putR l x v)))) (q : Q v H) : rIxU K (.ref d) (.str x) H Q := s_ixPut m q
theorem s_dnewKm {α : Type} (f : α → V) (hC : Ctx K B H L I) (k : ∀ p H1, Ctx K B H1 ((p, .dK (mK f [])) :: L) I → Q (.ref p) H1) : tDNewK σ H Q := s_dnewK hC k
theorem _root_.Ph.Sel.toNil : ∀ L : List (Addr × HO), Sel L []
  | [] => .refl
  | _ :: r => .skip (Sel.toNil r)
theorem look_mem {κ α : Type} [DecidableEq κ] {k : κ} {v : α} {l : List (κ × α)} (h : (k, v) ∈ l) : ∃ w, look l k = some w := by
  have e := look_any k l
  have : (l.any fun p => decide (p.1 = k)) = true := List.any_eq_true.mpr ⟨_, h, decide_eq_true rfl⟩
  rw [this] at e
  exact Option.isSome_iff_exists.mp e.symm
theorem look_some {κ α : Type} [DecidableEq κ] {k : κ} {v : α} : ∀ {l : List (κ × α)}, look l k = some v → (k, v) ∈ l
  | p :: r, h => by
    rw [look_cons] at h
    by_cases e : p.1 = k
    · rw [if_pos e] at h
      cases h
      subst e
      exact List.mem_cons_self
    · rw [if_neg e] at h
      exact List.mem_cons_of_mem _ (look_some h)
end
end Ph
namespace Ph
open PySem PySem.Spec PyProof.Rows L2
/-- the comparison, wherever the old objects (those of h0) still stand -/
def CmpG (pr : Program) (wd : World) (Z : Around) (op : CmpOp) (h0 : Heap) (P : Nat → Value → Prop) (bt : Nat → Nat → Bool) : Prop :=
  ∀ i j x y (z : Shared) (Q E : Value → Shared → Prop), (∀ b o, h0.get? b = some o → z.heap.get? b = some o) → P i x → P j y → Q (.bool (bt i j)) z → wpAny (model pr wd) Z (richCompare op x y) Q E z
section
variable {pr : Program} {wd : World} {Z : Around} {R : Result → Shared → Prop} {it : Addr} {fp wr : List Addr} {n : Nat} {P : Nat → Value → Prop} {St : Nat → Heap → Prop} {h0 : Heap} {bt : Nat → Nat → Bool} {S : Addr}
theorem min_loopG (W : Walks pr wd Z.in1 it fp wr n P St) (cmp : CmpG pr wd Z.in1 .Lt h0 P bt) (hf : S ∉ fp) (hw0 : ∀ b ∈ wr, h0.get? b = none) (hS0 : h0.get? S = none) :
    ∀ (k j : Nat) (z : Shared) (best : Value) (c : Nat), n - (j + 1) = k → j + 1 ≤ n → St (j + 1) z.heap → P (argBest bt j) best → (∀ b o, h0.get? b = some o → z.heap.get? b = some o) →
    z.heap.get? S = some { cls := .type "list", dict := none, data := .seq #[best, best] c, slots := #[] } →
    (∀ v h' tk, P (argBest bt (n - 1)) v → (∀ b o, h0.get? b = some o → h'.get? b = some o) → R (.ok (.ret v)) { z with heap := h', toks := tk }) →
    codeAny (model pr wd) Z (.builtin "min.loop" ⟨[.ref it, .none, .ref S], []⟩) R z := by
  have hSw : S ∉ wr := fun q => hf (W.sub _ q)
  have nam : (toString "min" ++ toString ".loop" : String) = "min.loop" := by decide
  have kp : ∀ {g g' : Heap}, (∀ b o, h0.get? b = some o → g.get? b = some o) → (∀ b o, b ∉ wr → g.get? b = some o → g'.get? b = some o) → ∀ b o, h0.get? b = some o → g'.get? b = some o := fun k1 k2 b o e =>
    k2 b o (fun q => by rw [hw0 b q] at e; cases e) (k1 b o e)
  have kS : ∀ {g : Heap} (f : Obj → Obj), (∀ b o, h0.get? b = some o → g.get? b = some o) → ∀ b o, h0.get? b = some o → (g.update S f).get? b = some o := fun f k1 b o e =>
    (Heap.get?_update_other _ _ (fun q : S = b => by rw [← q, hS0] at e; cases e)).trans (k1 b o e)
  intro k
  induction k with
  | zero =>
    intro j z best c ek ej st pb old eS fin
    have last : j + 1 = n := by omega
    refine codeAny_builtin F.entry_min_loop ?_
    rw [Around.under_plainId F.plain_min_loop _]
    show wpAny _ Z.in1 (seqItems? (.ref S) >>= _) _ _ z
    refine wpAny_bind (wpAny_seqItems eS rfl ?_)
    show wpAny _ Z.in1 (tryCatch (pyNext (.ref it)) _ >>= _) _ _ z
    refine wpAny_bind (wpAny_tryCatch (W.done z _ _ (last ▸ st) fun g tk gk => ?_))
    have eS2 := gk S _ hSw eS
    show wpAny _ Z.in1 (updateSeq S (fun _ => #[]) >>= _) _ _ _
    refine wpAny_bind (wpAny_updateSeq eS2 rfl (wpAny_bind (wpAny_letGo (wpAny_pure ?_))))
    exact fin best _ tk (by rw [← last]; exact pb) (kS _ (kp old gk))
  | succ k ih =>
    intro j z best c ek ej st pb old eS fin
    have more : j + 1 < n := by omega
    refine codeAny_builtin F.entry_min_loop ?_
    rw [Around.under_plainId F.plain_min_loop _]
    show wpAny _ Z.in1 (seqItems? (.ref S) >>= _) _ _ z
    refine wpAny_bind (wpAny_seqItems eS rfl ?_)
    show wpAny _ Z.in1 (tryCatch (pyNext (.ref it)) _ >>= _) _ _ z
    refine wpAny_bind (wpAny_tryCatch (W.item (j + 1) z _ _ more st fun v g tk pv st2 gk => ?_))
    have eS2 := gk S _ hSw eS
    have old2 := kp old gk
    show wpAny _ Z.in1 (tryCatch (holding [v, v] (richCompare .Lt v best >>= _)) _ >>= _) _ _ _
    refine wpAny_bind (wpAny_tryCatch (wpAny_holding (wpAny_bind (cmp (j + 1) (argBest bt j) v best _ _ _ old2 pv pb ?_))))
    refine wpAny_bind (wpAny_holding (wpAny_truthy_bool (wpAny_bind (wpAny_letGo (wpAny_pure ?_)))))
    cases hb : bt (j + 1) (argBest bt j) with
    | true =>
      simp only [if_true]
      refine wpAny_bind (wpAny_updateSeq eS2 rfl (wpAny_bind (wpAny_letGo ?_)))
      rw [nam]
      refine wpAny_pure ⟨plainId_quiet F.plain_min_loop _, ih (j + 1) _ v _ (by omega) more (W.frame _ _ _ st2 fun b q o e => ?_) (by simp only [argBest, hb, if_true]; exact pv) (kS _ old2) (Heap.get?_update_self _ eS2 rfl) fun v2 g2 tk2 pv2 gk2 => fin v2 g2 tk2 pv2 gk2⟩
      exact (Heap.get?_update_other _ _ (fun e2 : S = b => hf (by rw [e2]; exact q))).trans e
    | false =>
      simp only [Bool.false_eq_true, if_false]
      refine wpAny_bind (wpAny_letGo ?_)
      rw [nam]
      exact wpAny_pure ⟨plainId_quiet F.plain_min_loop _, ih (j + 1) _ best c (by omega) more st2 (by simp only [argBest, hb, Bool.false_eq_true, if_false]; exact pb) old2 eS2 fun v2 g2 tk2 pv2 gk2 => fin v2 g2 tk2 pv2 gk2⟩
theorem min_firstG (W : Walks pr wd Z.in1 it fp wr n P St) (cmp : CmpG pr wd Z.in1 .Lt h0 P bt) (hf : S ∉ fp) (hw0 : ∀ b ∈ wr, h0.get? b = none) (hS0 : h0.get? S = none) (hn : 0 < n) {z : Shared} {c : Nat} (st : St 0 z.heap) (old : ∀ b o, h0.get? b = some o → z.heap.get? b = some o)
    (eS : z.heap.get? S = some { cls := .type "list", dict := none, data := .seq #[] c, slots := #[] })
    (fin : ∀ v h' tk, P (argBest bt (n - 1)) v → (∀ b o, h0.get? b = some o → h'.get? b = some o) → R (.ok (.ret v)) { z with heap := h', toks := tk }) :
    codeAny (model pr wd) Z (.builtin "min.loop" ⟨[.ref it, .none, .ref S], []⟩) R z := by
  have hSw : S ∉ wr := fun q => hf (W.sub _ q)
  have nam : (toString "min" ++ toString ".loop" : String) = "min.loop" := by decide
  refine codeAny_builtin F.entry_min_loop ?_
  rw [Around.under_plainId F.plain_min_loop _]
  show wpAny _ Z.in1 (seqItems? (.ref S) >>= _) _ _ z
  refine wpAny_bind (wpAny_seqItems eS rfl ?_)
  show wpAny _ Z.in1 (tryCatch (pyNext (.ref it)) _ >>= _) _ _ z
  refine wpAny_bind (wpAny_tryCatch (W.item 0 z _ _ hn st fun v g tk pv st2 gk => ?_))
  have eS2 := gk S _ hSw eS
  show wpAny _ Z.in1 (updateSeq S (fun _ => #[v, v]) >>= _) _ _ _
  refine wpAny_bind (wpAny_updateSeq eS2 rfl ?_)
  rw [nam]
  refine wpAny_pure ⟨plainId_quiet F.plain_min_loop _, min_loopG W cmp hf hw0 hS0 _ 0 _ v _ rfl hn (W.frame _ _ _ st2 fun b q o e => ?_) pv (fun b o e => ?_) (Heap.get?_update_self _ eS2 rfl) fun v2 g2 tk2 pv2 gk2 => fin v2 g2 tk2 pv2 gk2⟩
  · exact (Heap.get?_update_other _ _ (fun e2 : S = b => hf (by rw [e2]; exact q))).trans e
  · exact (Heap.get?_update_other _ _ (fun q : S = b => by rw [← q, hS0] at e; cases e)).trans (gk b o (fun q => by rw [hw0 b q] at e; cases e) (old b o e))
end
section
variable {pr : Program} {wd : World} {Z : Around} {E : Value → Shared → Prop} {z : Shared} {l : Addr} {xs : Array Value} {bt : Nat → Nat → Bool} {P : Nat → Value → Prop}
theorem min_listG {Q : Value → Shared → Prop} (hh : Z.handled = none) (hl : z.heap.IsList l xs) (hn : 0 < xs.size) (cmp : CmpG pr wd Z.in1 .Lt z.heap (fun i v => xs[i]? = some v) bt)
    (fin : ∀ v h' tk, xs[argBest bt (xs.size - 1)]? = some v → (∀ b o, z.heap.get? b = some o → h'.get? b = some o) → Q v { z with heap := h', toks := tk }) :
    wpAny (model pr wd) Z (call (.builtin "min") [.ref l]) Q E z := by
  have nam : (toString "min" ++ toString ".loop" : String) = "min.loop" := by decide
  have hlt : l < z.heap.objs.size := by obtain ⟨_, e, _⟩ := hl; exact Heap.lt_size e
  refine call_function_tree F.kind_min F.plain_min F.entry_min (F.args_min1 _) ?_
  show wpAny _ Z.in1 (Builtin.Builtins.bindParams "min" ["key", "default"] 0 ⟨[], []⟩ >>= _) _ _ z
  refine wpAny_bind (wpAny_of_eq (show Builtin.Builtins.bindParams "min" ["key", "default"] 0 ⟨[], []⟩ = pure [none, none] from rfl) (wpAny_bind (wpAny_pure ?_)))
  refine wpAny_bind (wpAny_pyIter_list hl ?_)
  refine wpAny_bind (wpAny_newObj_type ?_)
  rw [nam]
  have sz : (z.heap.push { cls := .type "list_iterator", data := .fields #[.ref l, .int 0 0] }).objs.size = z.heap.objs.size + 1 := Heap.size_push ..
  have no : ∀ {b : Addr}, z.heap.objs.size ≤ b → z.heap.get? b = none := fun {b} hb => by
    cases e : z.heap.get? b with
    | none => rfl
    | some o => exact absurd (Heap.lt_size e) (Nat.not_lt.mpr hb)
  have st0 : ((z.heap.push { cls := .type "list_iterator", data := .fields #[.ref l, .int 0 0] }).push { cls := .type "list", data := .seq #[] }).IsListIter z.heap.objs.size l 0 ∧ ((z.heap.push { cls := .type "list_iterator", data := .fields #[.ref l, .int 0 0] }).push { cls := .type "list", data := .seq #[] }).IsList l xs :=
    ⟨⟨_, Heap.get?_push_of_some _ (Heap.get?_push_size _ rfl), rfl, rfl⟩, (hl.push _).push _⟩
  refine wpAny_pure ⟨plainId_quiet F.plain_min_loop _, min_firstG (h0 := z.heap) (S := (z.heap.push { cls := .type "list_iterator", data := .fields #[.ref l, .int 0 0] }).objs.size) (Walks.list (A := Z.in1) hh z.heap.objs.size l (Nat.ne_of_lt hlt) xs) cmp (fun q => ?_) (fun b q => ?_) (no (by rw [sz]; exact Nat.le_succ _)) hn st0 (fun b o e => Heap.get?_push_of_some _ (Heap.get?_push_of_some _ e)) (Heap.get?_push_size _ rfl) fun v g tk pv gk => fin v g tk pv gk⟩
  · simp only [List.mem_cons, List.not_mem_nil, or_false] at q
    rcases q with q | q
    · rw [sz] at q; exact absurd q (Nat.ne_of_gt (Nat.lt_succ_self _))
    · rw [sz] at q; exact absurd hlt (Nat.not_lt.mpr (q ▸ Nat.le_succ _))
  · simp only [List.mem_cons, List.not_mem_nil, or_false] at q
    exact no (by rw [q]; exact Nat.le_refl _)
end
section
variable {pr : Program} {wd : World} {Z : Around} {R : Result → Shared → Prop} {it : Addr} {fp wr : List Addr} {n : Nat} {P : Nat → Value → Prop} {St : Nat → Heap → Prop} {h0 : Heap} {bt : Nat → Nat → Bool} {S : Addr}
theorem max_loopG (W : Walks pr wd Z.in1 it fp wr n P St) (cmp : CmpG pr wd Z.in1 .Gt h0 P bt) (hf : S ∉ fp) (hw0 : ∀ b ∈ wr, h0.get? b = none) (hS0 : h0.get? S = none) :
    ∀ (k j : Nat) (z : Shared) (best : Value) (c : Nat), n - (j + 1) = k → j + 1 ≤ n → St (j + 1) z.heap → P (argBest bt j) best → (∀ b o, h0.get? b = some o → z.heap.get? b = some o) →
    z.heap.get? S = some { cls := .type "list", dict := none, data := .seq #[best, best] c, slots := #[] } →
    (∀ v h' tk, P (argBest bt (n - 1)) v → (∀ b o, h0.get? b = some o → h'.get? b = some o) → R (.ok (.ret v)) { z with heap := h', toks := tk }) →
    codeAny (model pr wd) Z (.builtin "max.loop" ⟨[.ref it, .none, .ref S], []⟩) R z := by
  have hSw : S ∉ wr := fun q => hf (W.sub _ q)
  have nam : (toString "max" ++ toString ".loop" : String) = "max.loop" := by decide
  have kp : ∀ {g g' : Heap}, (∀ b o, h0.get? b = some o → g.get? b = some o) → (∀ b o, b ∉ wr → g.get? b = some o → g'.get? b = some o) → ∀ b o, h0.get? b = some o → g'.get? b = some o := fun k1 k2 b o e =>
    k2 b o (fun q => by rw [hw0 b q] at e; cases e) (k1 b o e)
  have kS : ∀ {g : Heap} (f : Obj → Obj), (∀ b o, h0.get? b = some o → g.get? b = some o) → ∀ b o, h0.get? b = some o → (g.update S f).get? b = some o := fun f k1 b o e =>
    (Heap.get?_update_other _ _ (fun q : S = b => by rw [← q, hS0] at e; cases e)).trans (k1 b o e)
  intro k
  induction k with
  | zero =>
    intro j z best c ek ej st pb old eS fin
    have last : j + 1 = n := by omega
    refine codeAny_builtin F.entry_max_loop ?_
    rw [Around.under_plainId F.plain_max_loop _]
    show wpAny _ Z.in1 (seqItems? (.ref S) >>= _) _ _ z
    refine wpAny_bind (wpAny_seqItems eS rfl ?_)
    show wpAny _ Z.in1 (tryCatch (pyNext (.ref it)) _ >>= _) _ _ z
    refine wpAny_bind (wpAny_tryCatch (W.done z _ _ (last ▸ st) fun g tk gk => ?_))
    have eS2 := gk S _ hSw eS
    show wpAny _ Z.in1 (updateSeq S (fun _ => #[]) >>= _) _ _ _
    refine wpAny_bind (wpAny_updateSeq eS2 rfl (wpAny_bind (wpAny_letGo (wpAny_pure ?_))))
    exact fin best _ tk (by rw [← last]; exact pb) (kS _ (kp old gk))
  | succ k ih =>
    intro j z best c ek ej st pb old eS fin
    have more : j + 1 < n := by omega
    refine codeAny_builtin F.entry_max_loop ?_
    rw [Around.under_plainId F.plain_max_loop _]
    show wpAny _ Z.in1 (seqItems? (.ref S) >>= _) _ _ z
    refine wpAny_bind (wpAny_seqItems eS rfl ?_)
    show wpAny _ Z.in1 (tryCatch (pyNext (.ref it)) _ >>= _) _ _ z
    refine wpAny_bind (wpAny_tryCatch (W.item (j + 1) z _ _ more st fun v g tk pv st2 gk => ?_))
    have eS2 := gk S _ hSw eS
    have old2 := kp old gk
    show wpAny _ Z.in1 (tryCatch (holding [v, v] (richCompare .Gt v best >>= _)) _ >>= _) _ _ _
    refine wpAny_bind (wpAny_tryCatch (wpAny_holding (wpAny_bind (cmp (j + 1) (argBest bt j) v best _ _ _ old2 pv pb ?_))))
    refine wpAny_bind (wpAny_holding (wpAny_truthy_bool (wpAny_bind (wpAny_letGo (wpAny_pure ?_)))))
    cases hb : bt (j + 1) (argBest bt j) with
    | true =>
      simp only [if_true]
      refine wpAny_bind (wpAny_updateSeq eS2 rfl (wpAny_bind (wpAny_letGo ?_)))
      rw [nam]
      refine wpAny_pure ⟨plainId_quiet F.plain_max_loop _, ih (j + 1) _ v _ (by omega) more (W.frame _ _ _ st2 fun b q o e => ?_) (by simp only [argBest, hb, if_true]; exact pv) (kS _ old2) (Heap.get?_update_self _ eS2 rfl) fun v2 g2 tk2 pv2 gk2 => fin v2 g2 tk2 pv2 gk2⟩
      exact (Heap.get?_update_other _ _ (fun e2 : S = b => hf (by rw [e2]; exact q))).trans e
    | false =>
      simp only [Bool.false_eq_true, if_false]
      refine wpAny_bind (wpAny_letGo ?_)
      rw [nam]
      exact wpAny_pure ⟨plainId_quiet F.plain_max_loop _, ih (j + 1) _ best c (by omega) more st2 (by simp only [argBest, hb, Bool.false_eq_true, if_false]; exact pb) old2 eS2 fun v2 g2 tk2 pv2 gk2 => fin v2 g2 tk2 pv2 gk2⟩
theorem max_firstG (W : Walks pr wd Z.in1 it fp wr n P St) (cmp : CmpG pr wd Z.in1 .Gt h0 P bt) (hf : S ∉ fp) (hw0 : ∀ b ∈ wr, h0.get? b = none) (hS0 : h0.get? S = none) (hn : 0 < n) {z : Shared} {c : Nat} (st : St 0 z.heap) (old : ∀ b o, h0.get? b = some o → z.heap.get? b = some o)
    (eS : z.heap.get? S = some { cls := .type "list", dict := none, data := .seq #[] c, slots := #[] })
    (fin : ∀ v h' tk, P (argBest bt (n - 1)) v → (∀ b o, h0.get? b = some o → h'.get? b = some o) → R (.ok (.ret v)) { z with heap := h', toks := tk }) :
    codeAny (model pr wd) Z (.builtin "max.loop" ⟨[.ref it, .none, .ref S], []⟩) R z := by
  have hSw : S ∉ wr := fun q => hf (W.sub _ q)
  have nam : (toString "max" ++ toString ".loop" : String) = "max.loop" := by decide
  refine codeAny_builtin F.entry_max_loop ?_
  rw [Around.under_plainId F.plain_max_loop _]
  show wpAny _ Z.in1 (seqItems? (.ref S) >>= _) _ _ z
  refine wpAny_bind (wpAny_seqItems eS rfl ?_)
  show wpAny _ Z.in1 (tryCatch (pyNext (.ref it)) _ >>= _) _ _ z
  refine wpAny_bind (wpAny_tryCatch (W.item 0 z _ _ hn st fun v g tk pv st2 gk => ?_))
  have eS2 := gk S _ hSw eS
  show wpAny _ Z.in1 (updateSeq S (fun _ => #[v, v]) >>= _) _ _ _
  refine wpAny_bind (wpAny_updateSeq eS2 rfl ?_)
  rw [nam]
  refine wpAny_pure ⟨plainId_quiet F.plain_max_loop _, max_loopG W cmp hf hw0 hS0 _ 0 _ v _ rfl hn (W.frame _ _ _ st2 fun b q o e => ?_) pv (fun b o e => ?_) (Heap.get?_update_self _ eS2 rfl) fun v2 g2 tk2 pv2 gk2 => fin v2 g2 tk2 pv2 gk2⟩
  · exact (Heap.get?_update_other _ _ (fun e2 : S = b => hf (by rw [e2]; exact q))).trans e
  · exact (Heap.get?_update_other _ _ (fun q : S = b => by rw [← q, hS0] at e; cases e)).trans (gk b o (fun q => by rw [hw0 b q] at e; cases e) (old b o e))
end
section
variable {pr : Program} {wd : World} {Z : Around} {E : Value → Shared → Prop} {z : Shared} {l : Addr} {xs : Array Value} {bt : Nat → Nat → Bool} {P : Nat → Value → Prop}
theorem max_listG {Q : Value → Shared → Prop} (hh : Z.handled = none) (hl : z.heap.IsList l xs) (hn : 0 < xs.size) (cmp : CmpG pr wd Z.in1 .Gt z.heap (fun i v => xs[i]? = some v) bt)
    (fin : ∀ v h' tk, xs[argBest bt (xs.size - 1)]? = some v → (∀ b o, z.heap.get? b = some o → h'.get? b = some o) → Q v { z with heap := h', toks := tk }) :
    wpAny (model pr wd) Z (call (.builtin "max") [.ref l]) Q E z := by
  have nam : (toString "max" ++ toString ".loop" : String) = "max.loop" := by decide
  have hlt : l < z.heap.objs.size := by obtain ⟨_, e, _⟩ := hl; exact Heap.lt_size e
  refine call_function_tree F.kind_max F.plain_max F.entry_max (F.args_max1 _) ?_
  show wpAny _ Z.in1 (Builtin.Builtins.bindParams "max" ["key", "default"] 0 ⟨[], []⟩ >>= _) _ _ z
  refine wpAny_bind (wpAny_of_eq (show Builtin.Builtins.bindParams "max" ["key", "default"] 0 ⟨[], []⟩ = pure [none, none] from rfl) (wpAny_bind (wpAny_pure ?_)))
  refine wpAny_bind (wpAny_pyIter_list hl ?_)
  refine wpAny_bind (wpAny_newObj_type ?_)
  rw [nam]
  have sz : (z.heap.push { cls := .type "list_iterator", data := .fields #[.ref l, .int 0 0] }).objs.size = z.heap.objs.size + 1 := Heap.size_push ..
  have no : ∀ {b : Addr}, z.heap.objs.size ≤ b → z.heap.get? b = none := fun {b} hb => by
    cases e : z.heap.get? b with
    | none => rfl
    | some o => exact absurd (Heap.lt_size e) (Nat.not_lt.mpr hb)
  have st0 : ((z.heap.push { cls := .type "list_iterator", data := .fields #[.ref l, .int 0 0] }).push { cls := .type "list", data := .seq #[] }).IsListIter z.heap.objs.size l 0 ∧ ((z.heap.push { cls := .type "list_iterator", data := .fields #[.ref l, .int 0 0] }).push { cls := .type "list", data := .seq #[] }).IsList l xs :=
    ⟨⟨_, Heap.get?_push_of_some _ (Heap.get?_push_size _ rfl), rfl, rfl⟩, (hl.push _).push _⟩
  refine wpAny_pure ⟨plainId_quiet F.plain_max_loop _, max_firstG (h0 := z.heap) (S := (z.heap.push { cls := .type "list_iterator", data := .fields #[.ref l, .int 0 0] }).objs.size) (Walks.list (A := Z.in1) hh z.heap.objs.size l (Nat.ne_of_lt hlt) xs) cmp (fun q => ?_) (fun b q => ?_) (no (by rw [sz]; exact Nat.le_succ _)) hn st0 (fun b o e => Heap.get?_push_of_some _ (Heap.get?_push_of_some _ e)) (Heap.get?_push_size _ rfl) fun v g tk pv gk => fin v g tk pv gk⟩
  · simp only [List.mem_cons, List.not_mem_nil, or_false] at q
    rcases q with q | q
    · rw [sz] at q; exact absurd q (Nat.ne_of_gt (Nat.lt_succ_self _))
    · rw [sz] at q; exact absurd hlt (Nat.not_lt.mpr (q ▸ Nat.le_succ _))
  · simp only [List.mem_cons, List.not_mem_nil, or_false] at q
    exact no (by rw [q]; exact Nat.le_refl _)
end
end Ph
namespace Ph
open PySem PySem.Spec PyProof.Rows L2
inductive Sc
  | i (n : Int)
  | s (x : Str)
  | b (k : Bool)
deriving DecidableEq
def Sc.v : Sc → V
  | .i n => .int n
  | .s x => .str x
  | .b k => .bl k
/-- of one kind -/
def Sc.like : Sc → Sc → Bool
  | .i _, .i _ => true
  | .s _, .s _ => true
  | .b _, .b _ => true
  | _, _ => false
def Sc.lt : Sc → Sc → Bool
  | .i m, .i n => decide (m < n)
  | .s x, .s y => decide (x.cps.toList < y.cps.toList)
  | .b p, .b q => !p && q
  | _, _ => false
def likeL : List Sc → List Sc → Bool
  | [], [] => true
  | x :: r, y :: t => x.like y && likeL r t
  | _, _ => false
/-- x before y, by the first place where they differ -/
def lexS : List Sc → List Sc → Bool
  | x :: r, y :: t => if x = y then lexS r t else x.lt y
  | [], _ :: _ => true
  | _, [] => false
def minIx (ks : List (List Sc)) : Nat := PySem.argBest (fun i j => lexS (ks.getD i []) (ks.getD j [])) (ks.length - 1)
def maxIx (ks : List (List Sc)) : Nat := PySem.argBest (fun i j => lexS (ks.getD j []) (ks.getD i [])) (ks.length - 1)
theorem likeL_len : ∀ {r t : List Sc}, likeL r t = true → r.length = t.length
  | [], [], _ => rfl
  | _ :: r, _ :: t, h => by
    simp only [likeL, Bool.and_eq_true] at h
    rw [List.length_cons, List.length_cons, likeL_len h.2]
  | [], _ :: _, h => by cases h
  | _ :: _, [], h => by cases h
theorem likeL_at : ∀ {r t : List Sc} {j : Nat} {x y : Sc}, likeL r t = true → r[j]? = some x → t[j]? = some y → x.like y = true
  | u :: r, w :: t, 0, x, y, h, e1, e2 => by
    simp only [likeL, Bool.and_eq_true] at h
    cases e1; cases e2
    exact h.1
  | u :: r, w :: t, j + 1, x, y, h, e1, e2 => by
    simp only [likeL, Bool.and_eq_true] at h
    exact likeL_at (j := j) h.2 e1 e2
  | [], _, _, _, _, _, e1, _ => by simp at e1
  | _ :: _, [], _, _, _, _, _, e2 => by simp at e2
/-- the model's way through two tuples is lexS -/
theorem lexAt_lexS {e r : Nat → Bool} : ∀ (ps qs as bs : List Sc) (i : Nat), i = ps.length → ps.length = qs.length → likeL as bs = true →
    (∀ j x y, (ps ++ as)[j]? = some x → (qs ++ bs)[j]? = some y → e j = decide (x = y) ∧ (x ≠ y → r j = x.lt y)) → Ob.lexAt e r false i as.length = lexS as bs
  | ps, qs, [], [], i, hi, hl, hk, h => rfl
  | ps, qs, x :: as, y :: bs, i, hi, hl, hk, h => by
    simp only [likeL, Bool.and_eq_true] at hk
    have h0 := h i x y (by rw [hi, List.getElem?_append_right (Nat.le_refl _), Nat.sub_self]; rfl) (by rw [hi, hl, List.getElem?_append_right (Nat.le_refl _), Nat.sub_self]; rfl)
    have ih := lexAt_lexS (e := e) (r := r) (ps ++ [x]) (qs ++ [y]) as bs (i + 1) (by rw [List.length_append, hi]; rfl) (by rw [List.length_append, List.length_append, hl]; rfl) hk.2 (fun j u w e1 e2 => h j u w (by simpa using e1) (by simpa using e2))
    rw [List.length_cons, Ob.lexAt_succ, h0.1, lexS]
    by_cases q : x = y
    · rw [if_pos q, if_pos (decide_eq_true q), ih]
    · rw [if_neg q, if_neg (by rw [decide_eq_false q]; exact Bool.false_ne_true), h0.2 q]
  | _, _, [], _ :: _, _, _, _, hk, _ => by cases hk
  | _, _, _ :: _, [], _, _, _, hk, _ => by cases hk
theorem Vals.at_ {xs : List V} {its : List Value} (h : Vals xs its) {j : Nat} {x : V} (e : xs[j]? = some x) : ∃ u, its[j]? = some u ∧ RelV x u := by
  induction h generalizing j with
  | nil => simp at e
  | cons a t ih =>
    cases j with
    | zero =>
      cases e
      exact ⟨_, rfl, a⟩
    | succ j => exact ih e
theorem relV_sc {x : Sc} {u : Value} (h : RelV x.v u) : match x with | .i n => ∃ t, u = .int n t | .s z => ∃ t, u = .str z t | .b k => u = .bool k := by
  cases x with
  | i n => exact h
  | s z => exact h
  | b k => exact h
theorem sc_eqAt {A : Around} {s : Shared} {x y : Sc} {u w : Value} (hx : RelV x.v u) (hy : RelV y.v w) (k : x.like y = true) : SeqAt.EqAt A s u w (decide (x = y)) := by
  cases x with
  | i n =>
    cases y with
    | i m =>
      obtain ⟨t, rfl⟩ := hx
      obtain ⟨t', rfl⟩ := hy
      rw [show decide (Sc.i n = Sc.i m) = (n == m) from by by_cases q : n = m <;> simp [q]]
      exact SeqAt.EqAt.int_int _ _ _ _
    | _ => cases k
  | s z =>
    cases y with
    | s z' =>
      obtain ⟨t, rfl⟩ := hx
      obtain ⟨t', rfl⟩ := hy
      rw [show decide (Sc.s z = Sc.s z') = (z == z') from by by_cases q : z = z' <;> simp [q]]
      exact SeqAt.EqAt.str_str _ _ _ _
    | _ => cases k
  | b p =>
    cases y with
    | b q =>
      obtain rfl : u = .bool p := hx
      obtain rfl : w = .bool q := hy
      rw [show decide (Sc.b p = Sc.b q) = (p == q) from by cases p <;> cases q <;> rfl]
      exact SeqAt.EqAt.bool_bool _ _
    | _ => cases k
/-- no bools (their order is not wanted here) -/
def Sc.nob : Sc → Bool
  | .b _ => false
  | _ => true
theorem sc_ltAt {A : Around} {s : Shared} {x y : Sc} {u w : Value} (hx : RelV x.v u) (hy : RelV y.v w) (k : x.like y = true) (n : x.nob = true) : Ob.RcOp .Lt A s u w (x.lt y) := by
  cases x with
  | i n =>
    cases y with
    | i m =>
      obtain ⟨t, rfl⟩ := hx
      obtain ⟨t', rfl⟩ := hy
      exact Ob.RcOp.lt_int _ _ _ _
    | _ => cases k
  | s z =>
    cases y with
    | s z' =>
      obtain ⟨t, rfl⟩ := hx
      obtain ⟨t', rfl⟩ := hy
      exact fun _ _ _ _ h => lt_str h
    | _ => cases k
  | b p => cases n
/-- the rows xs are tuples of the scalars ks -/
inductive TupS (K : PySem.W.Frag) (H : Hp) : List V → List (List Sc) → Prop
  | nil : TupS K H [] []
  | cons {t : Addr} {d : List Sc} {xs : List V} {ks : List (List Sc)} : SqT K H t (d.map Sc.v) → TupS K H xs ks → TupS K H (.ref t :: xs) (d :: ks)
theorem TupS.length {K : PySem.W.Frag} {H : Hp} : ∀ {xs ks}, TupS K H xs ks → xs.length = ks.length
  | _, _, .nil => rfl
  | _, _, .cons _ r => congrArg Nat.succ r.length
theorem TupS.at_ {K : PySem.W.Frag} {H : Hp} : ∀ {xs ks} {i : Nat} {x : V}, TupS K H xs ks → xs[i]? = some x → ∃ t d, x = .ref t ∧ ks[i]? = some d ∧ SqT K H t (d.map Sc.v)
  | _, _, 0, _, .cons a _, e => by
    cases e
    exact ⟨_, _, rfl, rfl, a⟩
  | _, _, i + 1, _, .cons _ r, e => r.at_ (i := i) e
  | _, _, _, _, .nil, e => by simp at e
def allLike (ks : List (List Sc)) : Prop := ∀ a, a ∈ ks → (∀ c, c ∈ a → c.nob = true) ∧ ∀ b, b ∈ ks → likeL a b = true
def rMinT (K : PySem.W.Frag) : List V → Hp → VK → Prop := fun vs H Q => ∃ (a : Addr) (xs : List V) (ks : List (List Sc)), vs = [.ref a] ∧ SqL K H a xs ∧ TupS K H xs ks ∧ allLike ks ∧ 0 < ks.length ∧ ∀ v, xs[minIx ks]? = some v → Q v H
section
variable {X : Cx}
theorem row_items {pins : List (Addr × Obj)} {σ : L2.St} {H : Hp} {s : Shared} {t : Addr} {d : List Sc} (I : Inv X pins σ H s) (h : SqT X.K H t (d.map Sc.v)) : ∃ its : List Value, s.heap.IsTuple t its.toArray ∧ its.length = d.length ∧ ∀ (j : Nat) (x : Sc), d[j]? = some x → ∃ u, its[j]? = some u ∧ RelV x.v u := by
  obtain ⟨its, r1, p1, _⟩ := I.tuple h
  refine ⟨its, p1, ?_, fun j x e => Vals.at_ (j := j) (x := x.v) r1 (by rw [List.getElem?_map, e]; rfl)⟩
  rw [← Vals.length r1, List.length_map]
theorem lt_rows {A : Around} {s : Shared} {l b : Addr} {x y : List Sc} {p q : List Value} (hu : A.units < cLine) (hl : s.heap.IsTuple l p.toArray) (hb : s.heap.IsTuple b q.toArray) (lx : p.length = x.length) (ly : q.length = y.length)
    (hx : ∀ (j : Nat) (c : Sc), x[j]? = some c → ∃ u, p[j]? = some u ∧ RelV c.v u) (hy : ∀ (j : Nat) (c : Sc), y[j]? = some c → ∃ u, q[j]? = some u ∧ RelV c.v u) (k : likeL x y = true) (nb : ∀ c, c ∈ x → c.nob = true) : Ob.RcOp .Lt A s (.ref l) (.ref b) (lexS x y) := by
  have hxy := likeL_len k
  have g : ∀ j (h1 : j < p.toArray.size) (h2 : j < q.toArray.size), ∃ c e, x[j]? = some c ∧ y[j]? = some e ∧ RelV c.v p.toArray[j] ∧ RelV e.v q.toArray[j] := fun j h1 h2 => by
    rw [List.size_toArray] at h1 h2
    have h3 : j < x.length := by omega
    have h4 : j < y.length := by omega
    obtain ⟨u, e1, r1⟩ := hx j _ (List.getElem?_eq_getElem h3)
    obtain ⟨w, e2, r2⟩ := hy j _ (List.getElem?_eq_getElem h4)
    refine ⟨_, _, List.getElem?_eq_getElem h3, List.getElem?_eq_getElem h4, ?_, ?_⟩
    · rw [List.getElem?_eq_getElem h1] at e1
      have := Option.some.inj e1
      rw [List.getElem_toArray, this]
      exact r1
    · rw [List.getElem?_eq_getElem h2] at e2
      have := Option.some.inj e2
      rw [List.getElem_toArray, this]
      exact r2
  have R := Ob.RcOp.tuples_lt (A := A) (s := s) (e := fun j => decide (x[j]? = y[j]?)) (r := fun j => match x[j]?, y[j]? with | some c, some e => c.lt e | _, _ => false) hl hb hu
    (fun j h1 h2 => by
      obtain ⟨c, e, e1, e2, r1, r2⟩ := g j h1 h2
      rw [show decide (x[j]? = y[j]?) = decide (c = e) from by rw [e1, e2]; simp]
      exact sc_eqAt r1 r2 (likeL_at k e1 e2))
    (fun j h1 h2 _ => by
      obtain ⟨c, e, e1, e2, r1, r2⟩ := g j h1 h2
      simp only [e1, e2]
      exact sc_ltAt r1 r2 (likeL_at k e1 e2) (nb c (List.mem_of_getElem? e1)))
  rw [List.size_toArray, List.size_toArray, lx, ly, ← hxy, Nat.min_self, decide_eq_false (Nat.lt_irrefl _)] at R
  rw [lexAt_lexS [] [] x y 0 rfl rfl k (fun j c e e1 e2 => by
    simp only [List.nil_append] at e1 e2
    rw [e1, e2]
    exact ⟨by simp, fun _ => rfl⟩)] at R
  exact R
theorem row_at' {xs : List V} {its : List Value} {i : Nat} {u : Value} (h : Vals xs its) (e : its.toArray[i]? = some u) : ∃ x, xs[i]? = some x ∧ RelV x u := by
  rw [List.getElem?_toArray] at e
  induction h generalizing i with
  | nil => simp at e
  | cons a t ih =>
    cases i with
    | zero =>
      cases e
      exact ⟨_, rfl, a⟩
    | succ i => exact ih e
theorem tup_keep {g g' : Heap} {t : Addr} {p : Array Value} (h : g.IsTuple t p) (k : ∀ b o, g.get? b = some o → g'.get? b = some o) : g'.IsTuple t p := by
  obtain ⟨o, e, c, n, d⟩ := h
  exact ⟨o, k _ _ e, c, n, d⟩
theorem cmp_rows {pins : List (Addr × Obj)} {σ : L2.St} {H : Hp} {s : Shared} {A : Around} {xs : List V} {ks : List (List Sc)} {its : List Value} (I : Inv X pins σ H s) (hu : A.units < cLine) (rv : Vals xs its) (ht : TupS X.K H xs ks) (al : allLike ks) :
    CmpG X.prog X.w A .Lt s.heap (fun i v => its.toArray[i]? = some v) (fun i j => lexS (ks.getD i []) (ks.getD j [])) := by
  intro i j x y z Q E old px py q
  obtain ⟨x', ex, rx⟩ := row_at' rv px
  obtain ⟨y', ey, ry⟩ := row_at' rv py
  obtain ⟨t1, d1, rfl, k1, s1⟩ := ht.at_ ex
  obtain ⟨t2, d2, rfl, k2, s2⟩ := ht.at_ ey
  obtain rfl : x = Value.ref t1 := rx
  obtain rfl : y = Value.ref t2 := ry
  obtain ⟨p1, h1, l1, g1⟩ := row_items I s1
  obtain ⟨p2, h2, l2, g2⟩ := row_items I s2
  have m1 := List.mem_of_getElem? k1
  have m2 := List.mem_of_getElem? k2
  have e1 : ks.getD i [] = d1 := by rw [List.getD_eq_getElem?_getD, k1]; rfl
  have e2 : ks.getD j [] = d2 := by rw [List.getD_eq_getElem?_getD, k2]; rfl
  have w := lt_rows (A := A) (s := z) hu (tup_keep h1 old) (tup_keep h2 old) l1 l2 g1 g2 ((al d1 m1).2 d2 m2) (al d1 m1).1
  dsimp only at q
  rw [e1, e2] at q
  exact w X.prog X.w E Q q
theorem cr_minT (hc : X.calm = true) (hu : X.A.units + 64 < cLine) : CallR X (.builtin "min") (rMinT X.K) := by
  intro pins s σ H vs us Q I r h
  obtain ⟨a, xs, ks, rfl, hs, ht, al, hn, q⟩ := h
  obtain ⟨its, rv, hl, _⟩ := I.list hs
  obtain ⟨u, rfl, ru⟩ := vals1 r
  obtain rfl : u = Value.ref a := ru
  have len : its.toArray.size = ks.length := by rw [List.size_toArray, ← Vals.length rv, ht.length]
  refine min_listG (I.ok.hd hc) hl.isList (by rw [len]; exact hn) (cmp_rows I (by show X.A.units + 1 < cLine; omega) rv ht al) fun v g tk e gk => ?_
  rw [len] at e
  obtain ⟨x, ex, rx⟩ := row_at' rv e
  exact ⟨x, H, I.kept (t' := tk) gk, rx, q x ex⟩
end
end Ph
namespace Ph
open PySem PySem.Spec PyProof.Rows L2
/-! ### two sorted lists of the same things -/
theorem perm_uniq {α : Type} {r : α → α → Prop} (anti : ∀ a b, r a b → r b a → a = b) : ∀ {l m : List α}, l.Perm m → l.Pairwise r → m.Pairwise r → l = m
  | [], m, p, _, _ => (List.Perm.eq_nil p.symm).symm
  | x :: l, [], p, _, _ => absurd p.length_eq (by simp)
  | x :: l, y :: m, p, hl, hm => by
    have e : x = y := by
      rcases List.mem_cons.mp (p.mem_iff.mp (List.mem_cons_self (a := x) (l := l))) with e | hx
      · exact e
      · rcases List.mem_cons.mp (p.mem_iff.mpr (List.mem_cons_self (a := y) (l := m))) with e | hy
        · exact e.symm
        · exact anti x y ((List.pairwise_cons.mp hl).1 y hy) ((List.pairwise_cons.mp hm).1 x hx)
    subst e
    rw [perm_uniq anti p.cons_inv (List.pairwise_cons.mp hl).2 (List.pairwise_cons.mp hm).2]
theorem ltCps_irrefl : ∀ a : List Nat, ltCps a a = false
  | [] => rfl
  | x :: r => by simp [ltCps, ltCps_irrefl r]
theorem ltCps_trans : ∀ {a b c : List Nat}, ltCps a b = true → ltCps b c = true → ltCps a c = true
  | [], [], _, h, _ => by cases h
  | [], _ :: _, [], _, h => by cases h
  | [], _ :: _, _ :: _, _, _ => rfl
  | _ :: _, [], _, h, _ => by cases h
  | _ :: _, _ :: _, [], _, h => by cases h
  | x :: r, y :: s, z :: t, h1, h2 => by
    simp only [ltCps, Bool.or_eq_true, decide_eq_true_eq, Bool.and_eq_true, beq_iff_eq] at h1 h2 ⊢
    rcases h1 with h1 | ⟨rfl, h1⟩
    · rcases h2 with h2 | ⟨rfl, h2⟩
      · exact .inl (by omega)
      · exact .inl h1
    · rcases h2 with h2 | ⟨rfl, h2⟩
      · exact .inl h2
      · exact .inr ⟨rfl, ltCps_trans h1 h2⟩
theorem ltCps_tri : ∀ {a b : List Nat}, ltCps a b = false → ltCps b a = false → a = b
  | [], [], _, _ => rfl
  | [], _ :: _, h, _ => by cases h
  | _ :: _, [], _, h => by cases h
  | x :: r, y :: s, h1, h2 => by
    simp only [ltCps, Bool.or_eq_false_iff, decide_eq_false_iff_not, Bool.and_eq_false_iff, beq_eq_false_iff_ne] at h1 h2
    have e : x = y := by omega
    subst e
    rcases h1.2 with q | q
    · exact absurd rfl q
    · rcases h2.2 with q2 | q2
      · exact absurd rfl q2
      · rw [ltCps_tri q q2]
theorem ltCps_of_le {a b c : List Nat} (h1 : ltCps b a = false) (h2 : ltCps c b = false) : ltCps c a = false := by
  cases h : ltCps c a with
  | false => rfl
  | true =>
    cases hb : ltCps a b with
    | true => rw [ltCps_trans h hb] at h2; cases h2
    | false =>
      have e := ltCps_tri hb h1
      subst e
      rw [h] at h2; cases h2
/-- a not behind b -/
def leT (a b : Str) : Prop := ltCps b.cps.toList a.cps.toList = false
theorem leT_anti (a b : Str) (h1 : leT a b) (h2 : leT b a) : a = b := by
  have e := ltCps_tri h2 h1
  cases a; cases b
  simp only [Str.mk.injEq] at e ⊢
  exact Array.toList_inj.mp e
theorem leT_trans {a b c : Str} (h1 : leT a b) (h2 : leT b c) : leT a c := ltCps_of_le h1 h2
theorem risingS_pw : ∀ {p : Str} {l : List Str}, risingS p l = true → (p :: l).Pairwise leT
  | p, [], _ => List.pairwise_singleton _ _
  | p, x :: r, h => by
    simp only [risingS, Bool.and_eq_true, Bool.not_eq_true'] at h
    have ih := risingS_pw h.2
    refine List.pairwise_cons.mpr ⟨fun y hy => ?_, ih⟩
    rcases List.mem_cons.mp hy with rfl | hy
    · exact h.1
    · exact leT_trans h.1 ((List.pairwise_cons.mp ih).1 y hy)
theorem sortedS_pw : ∀ {l : List Str}, sortedS l = true → l.Pairwise leT
  | [], _ => .nil
  | _ :: _, h => risingS_pw h
/-- the sorted list, by insertion -/
def insT (x : Str) : List Str → List Str
  | [] => [x]
  | y :: r => if ltCps y.cps.toList x.cps.toList = true then y :: insT x r else x :: y :: r
def srtT : List Str → List Str
  | [] => []
  | x :: r => insT x (srtT r)
theorem insT_perm (x : Str) : ∀ l, (insT x l).Perm (x :: l)
  | [] => List.Perm.refl _
  | y :: r => by
    unfold insT
    split
    · exact (List.Perm.cons _ (insT_perm x r)).trans (List.Perm.swap _ _ _)
    · exact List.Perm.refl _
theorem srtT_perm : ∀ l, (srtT l).Perm l
  | [] => List.Perm.refl _
  | x :: r => (insT_perm x _).trans (List.Perm.cons _ (srtT_perm r))
theorem insT_pw (x : Str) : ∀ {l}, l.Pairwise leT → (insT x l).Pairwise leT
  | [], _ => List.pairwise_singleton _ _
  | y :: r, h => by
    unfold insT
    split
    · rename_i q
      refine List.pairwise_cons.mpr ⟨fun z hz => ?_, insT_pw x (List.pairwise_cons.mp h).2⟩
      rcases List.mem_cons.mp ((insT_perm x r).mem_iff.mp hz) with rfl | hz
      · cases e : ltCps z.cps.toList y.cps.toList with
        | false => exact e
        | true => have := ltCps_trans q e; rw [ltCps_irrefl] at this; cases this
      · exact (List.pairwise_cons.mp h).1 z hz
    · rename_i q
      have q : leT x y := by unfold leT; simpa using q
      refine List.pairwise_cons.mpr ⟨fun z hz => ?_, h⟩
      rcases List.mem_cons.mp hz with rfl | hz
      · exact q
      · exact leT_trans q ((List.pairwise_cons.mp h).1 z hz)
theorem srtT_pw : ∀ l, (srtT l).Pairwise leT
  | [] => .nil
  | x :: r => insT_pw x (srtT_pw r)
theorem srtT_of {ys xs : List Str} (p : ys.Perm xs) (h : sortedS ys = true) : ys = srtT xs := perm_uniq leT_anti (p.trans (srtT_perm xs).symm) (sortedS_pw h) (srtT_pw xs)
theorem srtT_id {xs : List Str} (h : xs.Pairwise leT) : srtT xs = xs := perm_uniq leT_anti (srtT_perm xs) (srtT_pw xs) h
def insZ (x : Int) : List Int → List Int
  | [] => [x]
  | y :: r => if y < x then y :: insZ x r else x :: y :: r
def srtZ : List Int → List Int
  | [] => []
  | x :: r => insZ x (srtZ r)
theorem insZ_perm (x : Int) : ∀ l, (insZ x l).Perm (x :: l)
  | [] => List.Perm.refl _
  | y :: r => by
    unfold insZ
    split
    · exact (List.Perm.cons _ (insZ_perm x r)).trans (List.Perm.swap _ _ _)
    · exact List.Perm.refl _
theorem srtZ_perm : ∀ l, (srtZ l).Perm l
  | [] => List.Perm.refl _
  | x :: r => (insZ_perm x _).trans (List.Perm.cons _ (srtZ_perm r))
theorem insZ_pw (x : Int) : ∀ {l : List Int}, l.Pairwise (· ≤ ·) → (insZ x l).Pairwise (· ≤ ·)
  | [], _ => List.pairwise_singleton _ _
  | y :: r, h => by
    unfold insZ
    have h1 := List.pairwise_cons.mp h
    split
    · refine List.pairwise_cons.mpr ⟨fun z hz => ?_, insZ_pw x h1.2⟩
      rcases List.mem_cons.mp ((insZ_perm x r).mem_iff.mp hz) with rfl | hz
      · omega
      · exact h1.1 z hz
    · refine List.pairwise_cons.mpr ⟨fun z hz => ?_, h⟩
      rcases List.mem_cons.mp hz with rfl | hz
      · omega
      · have := h1.1 z hz
        omega
theorem srtZ_pw : ∀ l, (srtZ l).Pairwise (· ≤ ·)
  | [] => .nil
  | x :: r => insZ_pw x (srtZ_pw r)
theorem srtZ_of {ys xs : List Int} (p : ys.Perm xs) (h : ys.Pairwise (· ≤ ·)) : ys = srtZ xs := perm_uniq (fun a b h1 h2 => Int.le_antisymm h1 h2) (p.trans (srtZ_perm xs).symm) h (srtZ_pw xs)
theorem srtZ_id {xs : List Int} (h : xs.Pairwise (· ≤ ·)) : srtZ xs = xs := perm_uniq (fun a b h1 h2 => Int.le_antisymm h1 h2) (srtZ_perm xs) (srtZ_pw xs) h
/-! ### the rules -/
def rSortDS : List V → Hp → VK → Prop := fun xs H Q => ∃ (a : Addr) (kvs : List (Key × V)) (ks : List Str), xs = [.ref a] ∧ Rd H a (.dK kvs) ∧ kvs.map (·.1) = ks.map Sum.inr ∧ ks.length < 64 ∧ ∀ ys p, ys.Perm ks → sortedS ys = true → H p = none → Q (.ref p) (upd H p (.lst (ys.map V.str)))
def rSortDI : List V → Hp → VK → Prop := fun xs H Q => ∃ (a : Addr) (kvs : List (Key × V)) (ks : List Int), xs = [.ref a] ∧ Rd H a (.dK kvs) ∧ kvs.map (·.1) = ks.map Sum.inl ∧ ks.length < 64 ∧ ∀ (ys : List Int) (p : Addr), ys.Perm ks → ys.Pairwise (· ≤ ·) → H p = none → Q (.ref p) (upd H p (.lst (ys.map V.int)))
def rSortU (K : PySem.W.Frag) : List V → Hp → VK → Prop := fun xs H Q => rSortedI K xs H Q ∨ rSortedS K xs H Q ∨ rSortDS xs H Q ∨ rSortDI xs H Q
def rMin1 (K : PySem.W.Frag) : List V → Hp → VK → Prop := fun xs H Q => rMin K xs H Q ∨ rMinT K xs H Q
def rDictP (K : PySem.W.Frag) : List V → Hp → VK → Prop := fun xs H Q => ∃ (a : Addr) (ps : List Addr) (kvs : List (Key × V)), xs = [.ref a] ∧ SqL K H a (ps.map V.ref) ∧ Paired (fun p kv => SqT K H p [kV kv.1, kv.2]) ps kvs ∧ ∀ p, H p = none → Q (.ref p) (upd H p (.dK (mergeK [] kvs)))
def rDictD : List V → Hp → VK → Prop := fun xs H Q => ∃ (a : Addr) (kvs : List (Key × V)), xs = [.ref a] ∧ Rd H a (.dK kvs) ∧ ∀ p, H p = none → Q (.ref p) (upd H p (.dK kvs))
def rDictU (K : PySem.W.Frag) : List V → Hp → VK → Prop := fun xs H Q => rDictP K xs H Q ∨ rDictD xs H Q
def rIsB : R2 := fun x y H Q => match x, y with
  | .bl c, .bl b => Q (.bl (c == b)) H
  | .non, .bl _ => Q (.bl false) H
  | .int _, .bl _ => Q (.bl false) H
  | .str _, .bl _ => Q (.bl false) H
  | .ref _, .bl _ => Q (.bl false) H
  | _, _ => False
def rIsU : R2 := fun x y H Q => rIsN x y H Q ∨ rIsB x y H Q
section
variable {X : Cx}
theorem u_sorted (hc : X.calm = true) : CallR X (.builtin "sorted") (rSortU X.K) := cr_sortedI.or (cr_sortedS.or ((call_sortedD hc).or (call_sortedDI hc)))
theorem u_min1 (hc : X.calm = true) (hu : X.A.units + 64 < cLine) : CallR X (.builtin "min") (rMin1 X.K) := (cr_min hc).or (cr_minT hc hu)
theorem u_dict (hc : X.calm = true) : CallR X (.type "dict") (rDictU X.K) := (call_dictP hc).or call_dictD
theorem op_isB : OpR X (compareOp .Is) rIsB := by
  intro pins s σ H x y v u Q I rx ry h
  cases y with
  | bl b =>
    cases ry
    cases x with
    | bl c =>
      cases rx
      exact wpAny_pure (fin_bl I h (by cases c <;> cases b <;> rfl))
    | non =>
      cases rx
      exact wpAny_pure (fin_bl I h rfl)
    | int n =>
      obtain ⟨t, rfl⟩ := rx
      exact wpAny_pure (fin_bl I h rfl)
    | str n =>
      obtain ⟨t, rfl⟩ := rx
      exact wpAny_pure (fin_bl I h rfl)
    | ref n =>
      cases rx
      exact wpAny_pure (fin_bl I h rfl)
    | _ => exact h.elim
  | _ => exact (show False from (by cases x <;> exact h)).elim
theorem u_is : OpR X (compareOp .Is) rIsU := u_isN.or op_isB
end
end Ph
namespace Ph
open PySem PySem.Spec PyProof.Rows L2
section
variable {K : PySem.W.Frag} {B H : Hp} {L L' : List (Addr × HO)} {I : List Im} {Q : VK} {σ : L2.St} {d b : Addr} {A Bk Ct : L2.St → Hp → Prop} {Bt : VK} {α : Type} {f : α → V}
theorem mK_keys {l : List (Str × α)} : (mK f l).map (·.1) = (l.map (·.1)).map Sum.inr := by unfold mK; rw [List.map_map, List.map_map]; rfl
/-- sorted(d): its keys, sorted -/
theorem s_srtK {l : List (Str × α)} (hC : Ctx K B H L I) (m : H d = some (.dK (mK f l))) (z : l.length < 64) (k : ∀ p H1, Ctx K B H1 ((p, .lst ((srtT (l.map (·.1))).map V.str)) :: L) I → Q (.ref p) H1) : rSortU K [.ref d] H Q :=
  .inr (.inr (.inl ⟨d, _, l.map (·.1), rfl, .inl m, mK_keys, by rw [List.length_map]; exact z, fun ys p hp hs hn => by
    rw [srtT_of hp hs]
    exact k p _ (hC.newM hn rfl)⟩))
theorem s_srtL {xs : List Str} (hC : Ctx K B H L I) (m : H d = some (.lst (xs.map V.str))) (z : xs.length < 64) (k : ∀ p H1, Ctx K B H1 ((p, .lst ((srtT xs).map V.str)) :: L) I → Q (.ref p) H1) : rSortU K [.ref d] H Q :=
  .inr (.inl ⟨d, xs, rfl, SqL.of m, z, fun ys p hp hs hn => by
    rw [srtT_of hp hs]
    exact k p _ (hC.newM hn rfl)⟩)
theorem s_srtI {xs : List Int} (hC : Ctx K B H L I) (m : H d = some (.lst (xs.map V.int))) (k : ∀ p H1, Ctx K B H1 ((p, .lst ((srtZ xs).map V.int)) :: L) I → Q (.ref p) H1) : rSortU K [.ref d] H Q :=
  .inl ⟨d, xs, rfl, SqL.of m, fun ys p hp hs hn => by
    rw [srtZ_of hp hs]
    exact k p _ (hC.newM hn rfl)⟩
theorem s_minT {xs : List V} {ks : List (List Sc)} (m : H d = some (.lst xs)) (ht : TupS K H xs ks) (al : allLike ks) (hn : 0 < ks.length) (k : ∀ v, xs[minIx ks]? = some v → Q v H) : rMin1 K [.ref d] H Q :=
  .inr ⟨d, xs, ks, rfl, SqL.of m, ht, al, hn, k⟩
/-! del d[k] -/
def kDelK (x : V) (A : L2.St → Hp → Prop) (σ : L2.St) : VK := fun y H2 => ∃ a kvs k, x = .ref a ∧ H2 a = some (.dK kvs) ∧ y = kV k ∧ (valV kvs k).isSome = true ∧ A σ (upd H2 a (.dK (dropK kvs k)))
theorem s_del {td ty : TE} (h : td σ H fun x H1 => ty σ H1 (kDelK x A σ)) : sDDel td ty ⟨A, Bt, Bk, Ct⟩ σ H := h
theorem dropK_mK {l : List (Str × α)} {k : Str} : dropK (mK f l) (.inr k) = mK f (l.filter fun p => decide (p.1 ≠ k)) := by
  unfold dropK mK
  rw [List.filter_map]
  congr 1
  refine List.filter_congr fun p _ => ?_
  simp
theorem s_delK {l : List (Str × α)} {x : Str} {v : α} (hC : Ctx K B H L I) (m : H d = some (.dK (mK f l))) (e : look l x = some v) (u : Up d (.dK (mK f (l.filter fun p => decide (p.1 ≠ x)))) L L') (k : ∀ H1, Ctx K B H1 L' I → A σ H1) : kDelK (.ref d) A σ (.str x) H :=
  ⟨d, _, .inr x, rfl, m, rfl, by rw [valV_mK, e]; rfl, by rw [dropK_mK]; exact k _ (hC.put u rfl)⟩
/-! is -/
theorem s_uIsN_non (h : Q (.bl true) H) : rIsU .non .non H Q := .inl ⟨rfl, h⟩
theorem s_uIsN_ref {a : Addr} (h : Q (.bl false) H) : rIsU (.ref a) .non H Q := .inl ⟨rfl, h⟩
theorem s_uIsN_int {i : Int} (h : Q (.bl false) H) : rIsU (.int i) .non H Q := .inl ⟨rfl, h⟩
theorem s_uIsN_str {i : Str} (h : Q (.bl false) H) : rIsU (.str i) .non H Q := .inl ⟨rfl, h⟩
theorem s_uIsN_bl {i : Bool} (h : Q (.bl false) H) : rIsU (.bl i) .non H Q := .inl ⟨rfl, h⟩
theorem s_uIsB_s {i : Bool} (h : Q (.bl true) H) : rIsU (.bl i) (.bl i) H Q := .inr (by show Q (.bl (i == i)) H; rw [show (i == i) = true from by cases i <;> rfl]; exact h)
theorem s_uIsB {i j : Bool} (h : Q (.bl (i == j)) H) : rIsU (.bl i) (.bl j) H Q := .inr h
theorem s_uIsB_non {j : Bool} (h : Q (.bl false) H) : rIsU .non (.bl j) H Q := .inr h
theorem s_uIsB_str {j : Bool} {x : Str} (h : Q (.bl false) H) : rIsU (.str x) (.bl j) H Q := .inr h
theorem s_uIsB_int {j : Bool} {x : Int} (h : Q (.bl false) H) : rIsU (.int x) (.bl j) H Q := .inr h
theorem s_uIsB_ref {j : Bool} {x : Addr} (h : Q (.bl false) H) : rIsU (.ref x) (.bl j) H Q := .inr h
theorem s_initV {x : Addr} (h : Q (.ref x) H) : kInit Q x .non H := ⟨rfl, h⟩
theorem s_lcS {wi : TI} {g : TG} {ttS : L2.St → TT} {te : TE} {vs : List Nat} (h : tLc wi g (ttS σ) te vs σ H Q) : tLcS wi g ttS te vs σ H Q := h
theorem s_extL {l b : Addr} {xs zs : List V} (hC : Ctx K B H L I) (m : H b = some (.lst zs)) (m2 : H l = some (.lst xs)) (z : xs.length + zs.length ≤ 100000) (u : Up l (.lst (xs ++ zs)) L L') (k : ∀ H1, Ctx K B H1 L' I → Q (.ref l) H1) : rIAddU (.ref l) (.ref b) H Q :=
  ⟨l, b, xs, zs, rfl, rfl, m2, m, Nat.le_trans z (by decide), k _ (hC.put u rfl)⟩
theorem perm_focus {α : Type} {A M N : List α} {x : α} : (A ++ (M ++ x :: N)).Perm (x :: (A ++ (M ++ N))) := by
  rw [← List.append_assoc, ← List.append_assoc]
  exact List.perm_middle
end
end Ph
namespace Ph
open PySem PySem.Spec PyProof.Rows L2
section
variable {κ α : Type} [DecidableEq κ]
theorem look_none {l : List (κ × α)} {k : κ} : look l k = none ↔ ∀ p, p ∈ l → p.1 ≠ k := by
  induction l with
  | nil => simp [look_nil]
  | cons p r ih =>
    rw [look_cons]
    by_cases e : p.1 = k
    · rw [if_pos e]
      exact ⟨fun z => (by cases z), fun z => absurd e (z p List.mem_cons_self)⟩
    · rw [if_neg e, ih]
      exact ⟨fun z q hq => by
        rcases List.mem_cons.mp hq with rfl | hq
        · exact e
        · exact z q hq, fun z q hq => z q (List.mem_cons_of_mem _ hq)⟩
theorem putR_new {l : List (κ × α)} {k : κ} {v : α} (h : look l k = none) : putR l k v = l ++ [(k, v)] := by
  unfold putR
  rw [look_any, h]
  rfl
/-- keys all different: each row is found -/
theorem look_of_mem {l : List (κ × α)} {k : κ} {v : α} (nd : (l.map (·.1)).Nodup) (h : (k, v) ∈ l) : look l k = some v := by
  induction l with
  | nil => cases h
  | cons p r ih =>
    rw [List.map_cons, List.nodup_cons] at nd
    rw [look_cons]
    rcases List.mem_cons.mp h with e | h
    · subst e
      rw [if_pos rfl]
    · rw [if_neg (fun e => nd.1 (by rw [e]; exact List.mem_map.mpr ⟨_, h, rfl⟩)), ih nd.2 h]
end
theorem _root_.Ph.Pick.mid {x : Addr × HO} : ∀ {M N : List (Addr × HO)}, Pick x (M ++ x :: N) (M ++ N)
  | [], _ => .here
  | _ :: _, _ => .there Pick.mid
theorem _root_.Ph.Up.mid {a : Addr} {o o' : HO} : ∀ {M N : List (Addr × HO)}, Up a o' (M ++ (a, o) :: N) (M ++ (a, o') :: N)
  | [], _ => .here
  | _ :: _, _ => .there Up.mid
theorem mem_mid {α : Type} {x : α} {M N : List α} : x ∈ M ++ x :: N := List.mem_append_right _ List.mem_cons_self
theorem nodup_pw {α : Type} {r : α → α → Prop} {l : List α} (h : l.Pairwise fun x y => r x y ∧ x ≠ y) : l.Nodup := h.imp fun z => z.2
end Ph
namespace Ph
open PySem PySem.Spec PyProof.Rows L2
section
variable {K : PySem.W.Frag} {B H : Hp} {L L' : List (Addr × HO)} {I : List Im} {Q : VK} {σ : L2.St} {J : It} {n : Nat} {G : Hp → Prop} {Y : Nat → Hp → V → Hp → Prop} {g : TG} {tt : TT} {te : TE} {vs : List Nat} {P : Addr} {wi : TI} {tb : Array Value}
def kTupW (g : TG) (tt : TT) (te : TE) (vs : List Nat) (σ : L2.St) (Q : VK) : It → Hp → Prop := fun J H2 => ∃ W : Nat → Nat → List V → Hp → Prop, (∃ m, W 0 m [] H2) ∧ GW J g tt te vs σ (fun _ => True) (fun _ _ _ => True) (fun ys H' => ∀ l, H' l = none → Q (.ref l) (upd H' l (.tup ys))) W
def kTupG (P : Addr) (g : TG) (tt : TT) (te : TE) (vs : List Nat) (σ : L2.St) (Q : VK) : It → Hp → Prop := fun J H1 => GxR.TabG H1 P ∧ ∀ H2, GxR.Tabbed P H1 H2 → kTupW g tt te vs σ Q J H2
theorem s_tupX (h : wi σ H (kTupG P g tt te vs σ Q)) : tTupX P wi g tt te vs σ H Q := h
theorem s_tupGV (hC : Ctx K B H L I) (m : Pick (P, .tbl tb) L L') (f : Im.tri tb ∈ I) (k : ∀ tb' H1, Ctx K B H1 ((P, .tbl tb') :: L') (.tri tb' :: I) → kTupW g tt te vs σ Q J H1) : kTupG P g tt te vs σ Q J H := tabbed_ctx hC m f k
def kTupE (ys : List V) (c : Nat) (Pn : List V → Hp → Prop) : VK := fun y H4 => ys.length < sizeLine ∧ True ∧ (True → (ys ++ [y]).length ≤ c ∧ Pn (ys ++ [y]) H4)
theorem s_tupE {ys : List V} {c : Nat} {Pn : List V → Hp → Prop} {v : V} (z : ys.length < c) (z2 : c ≤ 1000000) (h : Pn (ys ++ [v]) H) : kTupE ys c Pn v H := ⟨by rw [sizeLine_eq]; omega, True.intro, fun _ => ⟨by rw [List.length_append]; exact z, h⟩⟩
theorem tup_w (w : Walk J n G Y) (hn : n ≤ 100000) (Pv : Nat → List V → Hp → Prop) (h0 : Pv 0 [] H) (hG : ∀ i ys H, i ≤ n → Pv i ys H → G H)
    (hs : ∀ i x H H' (ys : List V), i < n → ys.length < i + 1 → i + 1 ≤ 1000000 → Pv i ys H → Y i H x H' → g x (wipe σ vs) H' fun σ2 H2 => wipe σ2 vs = wipe σ vs ∧ tt σ2 H2 fun b H3 => if b = true then te σ2 H3 (kTupE ys (i + 1) (Pv (i + 1))) else ys.length ≤ i + 1 ∧ Pv (i + 1) ys H3)
    (hd : ∀ ys H, Pv n ys H → ∀ l, H l = none → Q (.ref l) (upd H l (.tup ys))) : kTupW g tt te vs σ Q J H := by
  refine ⟨fun i m ys H => m = n - i ∧ i ≤ n ∧ ys.length ≤ i ∧ Pv i ys H, ⟨n, by simp, Nat.zero_le _, Nat.le_refl _, h0⟩, ?_⟩
  rintro i m ys H ⟨rfl, hi, hy, p⟩
  by_cases hlt : i < n
  · refine .inr ⟨w.goes i H hlt (hG i ys H hi p), fun ys H => ys.length ≤ i + 1 ∧ Pv (i + 1) ys H, fun ys' H' p' => ⟨n - (i + 1), by omega, rfl, hlt, p'.1, p'.2⟩, fun x H' y => ?_⟩
    exact hs i x H H' ys hlt (by omega) (by omega) p (w.yields i H x H' hlt (hG i ys H hi p) y)
  · have e : i = n := by omega
    subst e
    exact .inl ⟨w.stops H (hG _ ys H hi p), hd ys H p⟩
/-! rows of scalars -/
def Sc.d : Sc → PyData
  | .i n => .int n
  | .s x => .str x
  | .b k => .bool k
theorem Sc.td (x : Sc) : TD K H x.v x.d := by
  cases x with
  | i n => exact .int n
  | s z => exact .str z
  | b k => exact .bl k
theorem Sc.tds : ∀ d : List Sc, TDs K H (d.map Sc.v) (d.map Sc.d)
  | [] => .nil
  | x :: r => .cons x.td (Sc.tds r)
theorem TupS.mono {H' : Hp} (s : Stb H H') : ∀ {xs ks}, TupS K H xs ks → TupS K H' xs ks
  | _, _, .nil => .nil
  | _, _, .cons a r => .cons (s.sqt a) (r.mono s)
theorem TupS.snoc {t : Addr} {d : List Sc} (h : SqT K H t (d.map Sc.v)) : ∀ {xs ks}, TupS K H xs ks → TupS K H (xs ++ [.ref t]) (ks ++ [d])
  | _, _, .nil => .cons h .nil
  | _, _, .cons a r => .cons a (r.snoc h)
theorem TupS.tds : ∀ {xs ks}, TupS K H xs ks → TDs K H xs (ks.map fun d => .tuple (d.map Sc.d))
  | _, _, .nil => .nil
  | _, _, .cons a r => .cons (.tup a (Sc.tds _)) r.tds
theorem argBest_le {bt : Nat → Nat → Bool} : ∀ k, PySem.argBest bt k ≤ k
  | 0 => Nat.le_refl _
  | k + 1 => by
    unfold PySem.argBest
    split
    · exact Nat.le_refl _
    · exact Nat.le_succ_of_le (argBest_le k)
theorem minIx_lt {ks : List (List Sc)} (h : 0 < ks.length) : minIx ks < ks.length := by
  have := argBest_le (bt := fun i j => lexS (ks.getD i []) (ks.getD j [])) (ks.length - 1)
  unfold minIx
  omega
end
end Ph
namespace Ph
open PySem PySem.Spec PyProof.Rows L2
theorem Pick.app {x : Addr × HO} {L L' : List (Addr × HO)} (h : Pick x L L') : ∀ {M : List (Addr × HO)}, Pick x (M ++ L) (M ++ L')
  | [] => h
  | _ :: _ => .there (Pick.app h)
theorem Up.app {a : Addr} {o' : HO} {L L' : List (Addr × HO)} (h : Up a o' L L') : ∀ {M : List (Addr × HO)}, Up a o' (M ++ L) (M ++ L')
  | [] => h
  | _ :: _ => .there (Up.app h)
theorem mem_app {α : Type} {x : α} {M N : List α} (h : x ∈ N) : x ∈ M ++ N := List.mem_append_right _ h
section
variable {K : PySem.W.Frag} {B H : Hp} {L L' T : List (Addr × HO)} {I J : List Im} {x : Addr × HO}
theorem Ctx.unpick (p : Pick x T L) (h : Ctx K B H (x :: L) I) : Ctx K B H T I := h.perm p.perm.symm
theorem Ctx.keepI (h : Ctx K B H L J) (s : ∀ j, j ∈ I → j ∈ J) : Ctx K B H L I := ⟨h.lay, fun j hj => h.im j (s j hj), h.sb⟩
end
end Ph
namespace Ph
open PySem PySem.Spec PyProof.Rows L2
/-- the block M stands in L; the rest is L' -/
inductive Blk (M : List (Addr × HO)) : List (Addr × HO) → List (Addr × HO) → Prop
  | here {N : List (Addr × HO)} : Blk M (M ++ N) N
  | there {y : Addr × HO} {L L' : List (Addr × HO)} : Blk M L L' → Blk M (y :: L) (y :: L')
  | over {P L L' : List (Addr × HO)} : Blk M L L' → Blk M (P ++ L) (P ++ L')
theorem Blk.perm {M : List (Addr × HO)} : ∀ {L L' : List (Addr × HO)}, Blk M L L' → L.Perm (M ++ L')
  | _, _, .here => List.Perm.refl _
  | _, _, .there h => (List.Perm.cons _ h.perm).trans List.perm_middle.symm
  | _, _, .over (P := P) (L' := L') h => by
    refine (List.Perm.append_left P h.perm).trans ?_
    rw [← List.append_assoc, ← List.append_assoc]
    exact List.Perm.append_right L' List.perm_append_comm
inductive Perm3 : List (Addr × HO) → List (Addr × HO) → Prop
  | nil {F : List (Addr × HO)} : Perm3 F F
  | cons {x : Addr × HO} {L L' T : List (Addr × HO)} : Pick x L L' → Perm3 L' T → Perm3 L (x :: T)
  | blk {M L L' T : List (Addr × HO)} : Blk M L L' → Perm3 L' T → Perm3 L (M ++ T)
theorem Perm3.lay : ∀ {L T : List (Addr × HO)}, Perm3 L T → L.Perm T
  | _, _, .nil => List.Perm.refl _
  | _, _, .cons p h => p.perm.trans (List.Perm.cons _ h.lay)
  | _, _, .blk p h => p.perm.trans (List.Perm.append_left _ h.lay)
end Ph
namespace Ph
open PySem PySem.Spec PyProof.Rows L2
inductive Sel3 : List (Addr × HO) → List (Addr × HO) → Prop
  | refl {L : List (Addr × HO)} : Sel3 L L
  | cons {x : Addr × HO} {L L' T : List (Addr × HO)} : Pick x L L' → Sel3 L' T → Sel3 L (x :: T)
  | blk {M L L' T : List (Addr × HO)} : Blk M L L' → Sel3 L' T → Sel3 L (M ++ T)
  | skip {x : Addr × HO} {L T : List (Addr × HO)} : Sel3 L T → Sel3 (x :: L) T
  | skipB {M L T : List (Addr × HO)} : Sel3 L T → Sel3 (M ++ L) T
  | none {L : List (Addr × HO)} : Sel3 L []
theorem Sel3.perm : ∀ {L T}, Sel3 L T → ∃ J, L.Perm (T ++ J)
  | L, _, .refl => ⟨[], by rw [List.append_nil]⟩
  | _, _, .cons p s => by
    obtain ⟨J, h⟩ := s.perm
    exact ⟨J, p.perm.trans (List.Perm.cons _ h)⟩
  | _, _, .blk p s => by
    obtain ⟨J, h⟩ := s.perm
    exact ⟨J, p.perm.trans (by rw [List.append_assoc]; exact List.Perm.append_left _ h)⟩
  | _, _, .skip s => by
    obtain ⟨J, h⟩ := s.perm
    exact ⟨_ :: J, (List.Perm.cons _ h).trans List.perm_middle.symm⟩
  | _, _, .skipB (M := M) (T := T) s => by
    obtain ⟨J, h⟩ := s.perm
    refine ⟨M ++ J, (List.Perm.append_left M h).trans ?_⟩
    rw [← List.append_assoc, ← List.append_assoc]
    exact List.Perm.append_right J List.perm_append_comm
  | L, _, .none => ⟨L, List.Perm.refl _⟩
theorem Sel3.lay {H : Hp} {L T : List (Addr × HO)} (s : Sel3 L T) (y : Lay H L) : Lay H T := by
  obtain ⟨J, h⟩ := s.perm
  have y := y.perm h
  exact ⟨(List.nodup_append.mp (by rw [← List.map_append]; exact y.nd)).1, fun p hp => y.at_ p (List.mem_append_left _ hp)⟩
end Ph
namespace Ph
open PySem PySem.Spec PyProof.Rows L2
section
variable {α : Type} {f : α → V} {K : PySem.W.Frag} {B H : Hp} {L L' F : List (Addr × HO)} {I : List Im} {Q : VK} {d : Addr}
theorem s_ixKF {o : Obj} {l : List (Str × α)} {x : Str} {v : α} (m : H d = some (.frz o (.dK (mK f l)))) (e : look l x = some v) (q : Q (f v) H) : rIxU K (.ref d) (.str x) H Q :=
  .inr (.inr (.inr ⟨d, f v, rfl, .inl ⟨_, .inr x, .inr ⟨o, m⟩, rfl, by rw [valV_mK, e]; rfl⟩, q⟩))
theorem DNo.of {k : Key} : ∀ {r : List (Key × V)}, (∀ x, x ∈ r → ¬ x.1 = k) → DNo k r
  | [], _ => .nil
  | _ :: _, h => .there (h _ List.mem_cons_self) (DNo.of fun x m => h x (List.mem_cons_of_mem _ m))
theorem RDis.mk : ∀ {l : List (Str × α)} {acc : List (Key × V)}, (l.map (·.1)).Nodup → (∀ p, p ∈ l → ∀ x, x ∈ acc → ¬ x.1 = .inr p.1) → RDis acc (mK f l)
  | [], _, _, _ => .nil
  | p :: r, acc, nd, h => by
    rw [List.map_cons, List.nodup_cons] at nd
    refine .cons (DNo.of (h p List.mem_cons_self)) (RDis.mk nd.2 fun q m x hx => ?_)
    rcases List.mem_cons.mp hx with rfl | hx
    · intro z
      have z : p.1 = q.1 := Sum.inr.inj z
      exact nd.1 (by rw [z]; exact List.mem_map.mpr ⟨q, m, rfl⟩)
    · exact h q (List.mem_cons_of_mem _ m) x hx
theorem merge_mK {l : List (Str × α)} (nd : (l.map (·.1)).Nodup) : mergeK [] (mK f l) = mK f l := by
  have e := (RDis.mk (f := f) (acc := []) nd (fun _ _ x hx => by cases hx)).ok
  rw [List.reverse_nil, List.nil_append] at e
  exact e
theorem s_dictP {ps : List Addr} {l : List (Str × α)} (hC : Ctx K B H L I) (m : H d = some (.lst (ps.map V.ref))) (h : Paired (fun p kv => SqT K H p [kV kv.1, kv.2]) ps (mK f l)) (nd : (l.map (·.1)).Nodup) (k : ∀ p H1, Ctx K B H1 ((p, .dK (mK f l)) :: L) I → Q (.ref p) H1) : rDictU K [.ref d] H Q :=
  .inl ⟨d, ps, mK f l, rfl, SqL.of m, h, fun p hp => by rw [merge_mK nd]; exact k p _ (hC.newM hp rfl)⟩
theorem Paired.snoc {α β : Type} {G : α → β → Prop} {x : α} {y : β} : ∀ {l : List α} {m : List β}, Paired G l m → G x y → Paired G (l ++ [x]) (m ++ [y])
  | _, _, .nil, h => .cons h .nil
  | _, _, .cons a t, h => .cons a (Paired.snoc t h)
/-- the lock goes; the heap stays known -/
theorem s_unlE {od : Obj} {u : HO} {v : V} {H1 H2 : Hp} {L2' : List (Addr × HO)} {J : List Im} (hC0 : Ctx K B H L I) (m : Pick (d, u) L L') (e1 : Stb H H1) (hC : Ctx K H1 H2 L2' J) (f : H2 d = some (.frz od u)) (k : Ctx K B (upd H2 d u) ((d, u) :: L2') I → Q v (upd H2 d u)) : kUnl d od u Q v H2 := ⟨f, k (unlock hC0 m e1 hC f)⟩
theorem sqt_unl {od : Obj} {u : HO} {p : Addr} {xs : List V} (f : H d = some (.frz od u)) (h : SqT K H p xs) : SqT K (upd H d u) p xs := by
  rcases h with (h | ⟨o, h⟩) | h
  · by_cases c : p = d
    · subst c
      rw [f] at h
      cases h
    · exact .inl (.inl (by rw [upd_ne c]; exact h))
  · by_cases c : p = d
    · subst c
      rw [f] at h
      cases h
      exact .inl (.inl upd_same)
    · exact .inl (.inr ⟨o, by rw [upd_ne c]; exact h⟩)
  · exact .inr h
end
end Ph
namespace Ph
open PySem PySem.Spec PyProof.Rows L2
theorem cps_anti {a b : Str} (h1 : ¬ a.cps.toList < b.cps.toList) (h2 : ¬ b.cps.toList < a.cps.toList) : a = b := by
  have e : a.cps.toList = b.cps.toList := List.le_antisymm (List.not_lt.mp h2) (List.not_lt.mp h1)
  cases a; cases b
  exact congrArg _ (Array.toList_inj.mp e)
def Sc.ltT : Sc → Sc → Bool
  | .i m, .i n => decide (m < n)
  | .s x, .s y => decide (x.cps.toList < y.cps.toList)
  | .b p, .b q => !p && q
  | .i _, _ => true
  | .s _, .b _ => true
  | _, _ => false
theorem ltT_like {x y : Sc} (h : x.like y = true) : x.ltT y = x.lt y := by
  cases x <;> cases y <;> first | rfl | cases h
theorem ltT_tri {x y : Sc} (h1 : x.ltT y = false) (h2 : y.ltT x = false) : x = y := by
  cases x with
  | i m => cases y with
    | i n =>
      have a := of_decide_eq_false h1
      have b := of_decide_eq_false h2
      rw [show m = n from by omega]
    | s _ => cases h1
    | b _ => cases h1
  | s u => cases y with
    | i _ => cases h2
    | s v => rw [cps_anti (of_decide_eq_false h1) (of_decide_eq_false h2)]
    | b _ => cases h1
  | b p => cases y with
    | i _ => cases h2
    | s _ => cases h2
    | b q => revert h1 h2; cases p <;> cases q <;> simp [Sc.ltT]
theorem ltT_asym {x y : Sc} (h : x.ltT y = true) : y.ltT x = false := by
  cases x with
  | i m => cases y with
    | i n =>
      have a := of_decide_eq_true h
      exact decide_eq_false (by omega)
    | s _ => rfl
    | b _ => rfl
  | s u => cases y with
    | i _ => cases h
    | s v => exact decide_eq_false (List.lt_asymm (of_decide_eq_true h))
    | b _ => rfl
  | b p => cases y with
    | i _ => cases h
    | s _ => cases h
    | b q => revert h; cases p <;> cases q <;> simp [Sc.ltT]
theorem ltT_tr {x y z : Sc} (h1 : y.ltT x = false) (h2 : z.ltT y = false) : z.ltT x = false := by
  cases x with
  | i m => cases y with
    | i n => cases z with
      | i o =>
        have a := of_decide_eq_false h1
        have b := of_decide_eq_false h2
        exact decide_eq_false (by omega)
      | s _ => rfl
      | b _ => rfl
    | s _ => cases z with
      | i o => cases h2
      | s _ => rfl
      | b _ => rfl
    | b _ => cases z with
      | i o => cases h2
      | s _ => rfl
      | b _ => rfl
  | s u => cases y with
    | i n => cases h1
    | s v => cases z with
      | i o => cases h2
      | s w =>
        have a := of_decide_eq_false h1
        have b := of_decide_eq_false h2
        exact decide_eq_false (List.not_lt.mpr (List.le_trans (List.not_lt.mp a) (List.not_lt.mp b)))
      | b _ => rfl
    | b _ => cases z with
      | i o => cases h2
      | s _ => cases h2
      | b _ => rfl
  | b p => cases y with
    | i n => cases h1
    | s v => cases h1
    | b q => cases z with
      | i o => cases h2
      | s _ => cases h2
      | b r => revert h1 h2; cases p <;> cases q <;> cases r <;> simp [Sc.ltT]
def lexT : List Sc → List Sc → Bool
  | x :: r, y :: t => if x = y then lexT r t else x.ltT y
  | [], _ :: _ => true
  | _, [] => false
theorem lexT_like : ∀ {x y : List Sc}, likeL x y = true → lexT x y = lexS x y
  | [], [], _ => rfl
  | x :: r, y :: t, h => by
    simp only [likeL, Bool.and_eq_true] at h
    simp only [lexT, lexS]
    rw [lexT_like h.2, ltT_like h.1]
  | [], _ :: _, h => by cases h
  | _ :: _, [], h => by cases h
theorem lexT_asym : ∀ {x y : List Sc}, lexT x y = true → lexT y x = false
  | [], [], h => by cases h
  | [], _ :: _, _ => rfl
  | _ :: _, [], h => by cases h
  | x :: r, y :: t, h => by
    simp only [lexT] at h ⊢
    by_cases e : x = y
    · rw [if_pos e] at h
      rw [if_pos e.symm]
      exact lexT_asym h
    · rw [if_neg e] at h
      rw [if_neg fun z => e z.symm]
      exact ltT_asym h
theorem lexT_tr : ∀ {x y z : List Sc}, lexT y x = false → lexT z y = false → lexT z x = false
  | [], _, [], _, _ => rfl
  | [], _, _ :: _, _, _ => rfl
  | _ :: _, [], _, h1, _ => by cases h1
  | _ :: _, _ :: _, [], _, h2 => by cases h2
  | x :: r, y :: t, z :: w, h1, h2 => by
    simp only [lexT] at h1 h2 ⊢
    by_cases e1 : y = x
    · subst e1
      rw [if_pos rfl] at h1
      by_cases e2 : z = y
      · subst e2
        rw [if_pos rfl] at h2 ⊢
        exact lexT_tr h1 h2
      · rw [if_neg e2] at h2 ⊢
        exact h2
    · rw [if_neg e1] at h1
      by_cases e2 : z = y
      · subst e2
        rw [if_neg e1]
        exact h1
      · rw [if_neg e2] at h2
        by_cases e3 : z = x
        · subst e3
          exact absurd (ltT_tri h2 h1) e2
        · rw [if_neg e3]
          exact ltT_tr h1 h2
theorem lexT_refl : ∀ {x : List Sc}, lexT x x = false
  | [] => rfl
  | x :: r => by rw [lexT, if_pos rfl]; exact lexT_refl
/-- the scalar a value is -/
def decSc : Value → Option Sc
  | .int n _ => some (.i n)
  | .str z _ => some (.s z)
  | .bool k => some (.b k)
  | _ => none
theorem dec_rel {x : Sc} {u : Value} (h : RelV x.v u) : decSc u = some x := by
  cases x with
  | i n => obtain ⟨t, rfl⟩ := h; rfl
  | s z => obtain ⟨t, rfl⟩ := h; rfl
  | b k => obtain rfl : u = .bool k := h; rfl
/-- the row that stands at a value -/
def rowOf (g : Heap) : Value → List Sc
  | .ref t => match g.get? t with
    | some o => match o.data with
      | .seq its _ => its.toList.filterMap decSc
      | _ => []
    | none => []
  | _ => []
theorem rel_dec : ∀ {d : List Sc} {its : List Value}, its.length = d.length → (∀ (j : Nat) (x : Sc), d[j]? = some x → ∃ u, its[j]? = some u ∧ RelV x.v u) → its.filterMap decSc = d
  | [], [], _, _ => rfl
  | [], _ :: _, h, _ => by cases h
  | _ :: _, [], h, _ => by cases h
  | x :: d, u :: its, h, r => by
    obtain ⟨u', e, ru⟩ := r 0 x rfl
    cases e
    rw [List.filterMap_cons, dec_rel ru]
    simp only
    rw [rel_dec (d := d) (its := its) (by rw [List.length_cons, List.length_cons] at h; omega) fun j y e => r (j + 1) y e]
/-- a row: its tuple and what it holds -/
def RowAt (g : Heap) (v : Value) (d : List Sc) : Prop := ∃ (t : Addr) (o : Obj) (its : List Value) (n : Nat), v = .ref t ∧ g.get? t = some o ∧ o.cls = .type "tuple" ∧ o.data = .seq its.toArray n ∧ its.length = d.length ∧ ∀ (j : Nat) (x : Sc), d[j]? = some x → ∃ u, its[j]? = some u ∧ RelV x.v u
theorem RowAt.row {g : Heap} {v : Value} {d : List Sc} (h : RowAt g v d) : rowOf g v = d := by
  obtain ⟨t, o, its, n, rfl, ho, hc, hd, hl, hr⟩ := h
  unfold rowOf
  simp only [ho, hd]
  exact rel_dec hl hr
theorem RowAt.keeps {g g' : Heap} {v : Value} {d : List Sc} (h : RowAt g v d) (k : ∀ b o, g.get? b = some o → o.cls = .type "tuple" → g'.get? b = some o) : RowAt g' v d := by
  obtain ⟨t, o, its, n, e, ho, hc, r⟩ := h
  exact ⟨t, o, its, n, e, k _ _ ho hc, hc, r⟩
section
variable {X : Cx} {prog : Program} {w : World} {A : Around} {s : Shared}
theorem kat_rows : ∀ (as bs : List Sc) (ps qs : List Value) (i : Nat), likeL as bs = true → ps.length = as.length → qs.length = bs.length → (∀ (j : Nat) (x : Sc), as[j]? = some x → ∃ u, ps[j]? = some u ∧ RelV x.v u) → (∀ (j : Nat) (x : Sc), bs[j]? = some x → ∃ u, qs[j]? = some u ∧ RelV x.v u) → (∀ c, c ∈ as → c.nob = true) → (i = 0 → ∃ n, as[0]? = some (.i n)) →
    PySem.W.KatLex prog w A true false (fun r s' => s' = s ∧ r = lexT as bs) (ps.zip qs) i s
  | [], [], [], [], _, _, _, _, _, _, _, _ => PySem.W.kat_nil ⟨rfl, rfl⟩
  | x :: as, y :: bs, p :: ps, q :: qs, i, hk, hp, hq, rp, rq, nb, h0 => by
    simp only [likeL, Bool.and_eq_true] at hk
    obtain ⟨u, e1, r1⟩ := rp 0 x rfl
    obtain ⟨v, e2, r2⟩ := rq 0 y rfl
    cases e1
    cases e2
    refine PySem.W.kat_cons (sc_eqAt r1 r2 hk.1 prog w _ _ ?_)
    refine PySem.W.kat_go (fun e => ?_) (fun e => ?_)
    · have e := of_decide_eq_true e
      refine PySem.W.kat_yes ?_
      have e3 : lexT (x :: as) (y :: bs) = lexT as bs := by rw [lexT, if_pos e]
      rw [e3]
      exact kat_rows as bs ps qs (i + 1) hk.2 (by rw [List.length_cons, List.length_cons] at hp; omega) (by rw [List.length_cons, List.length_cons] at hq; omega) (fun j c h => rp (j + 1) c h) (fun j c h => rq (j + 1) c h) (fun c h => nb c (List.mem_cons_of_mem _ h)) (fun z => by omega)
    · have e := of_decide_eq_false e
      have e3 : lexT (x :: as) (y :: bs) = x.lt y := by rw [lexT, if_neg e, ltT_like hk.1]
      rw [e3]
      refine PySem.W.kat_no ?_
      cases i with
      | zero =>
        obtain ⟨n, hn⟩ := h0 rfl
        cases hn
        cases y with
        | i m =>
          obtain ⟨t1, rfl⟩ := r1
          obtain ⟨t2, rfl⟩ := r2
          exact PyProof.Rows.oneLt_int ⟨rfl, rfl⟩
        | s _ => cases hk.1
        | b _ => cases hk.1
      | succ i => exact PySem.W.kat_one _ _ (sc_ltAt r1 r2 hk.1 (nb x List.mem_cons_self) prog w _ _ ⟨rfl, rfl⟩)
theorem firstsR {h : Heap} : ∀ {vs : List Value}, (∀ v, v ∈ vs → ∃ d n, RowAt h v d ∧ d[0]? = some (.i n)) → ∃ fs : List Value, PySem.W.KatTups h vs fs ∧ fs.length = vs.length ∧ ∀ f ∈ fs, ∃ x t, f = Value.int x t
  | [], _ => ⟨[], PySem.W.KatTups.nil, rfl, fun _ hm => by simp at hm⟩
  | v :: vs, hp => by
    obtain ⟨fs, h1, h2, h3⟩ := firstsR (vs := vs) fun v' hm => hp v' (List.mem_cons_of_mem _ hm)
    obtain ⟨d, n, ⟨a, o, its, m, e, ho, hc, hd, hl, hr⟩, h0⟩ := hp v List.mem_cons_self
    subst e
    obtain ⟨u, e1, r1⟩ := hr 0 _ h0
    obtain ⟨t, rfl⟩ := r1
    refine ⟨.int n t :: fs, PySem.W.KatTups.cons ho hc hd (by rw [List.getElem?_toArray]; exact e1) h1, by rw [List.length_cons, List.length_cons, h2], fun f hm => ?_⟩
    rcases List.mem_cons.mp hm with rfl | hm
    · exact ⟨n, t, rfl⟩
    · exact h3 f hm
theorem rows_cmp {vs : List Value} {k : Value → List Sc} (hp : ∀ v, v ∈ vs → RowAt s.heap v (k v)) (al : allLike (vs.map k)) (fi : ∀ v, v ∈ vs → ∃ n, (k v)[0]? = some (.i n)) : SrtO.Cmp prog w A s (tuples' true) (fun p => p.1 ∈ vs) (SrtO.lt2 fun v u => lexT (k v) (k u)) := by
  intro p q hm hm'
  obtain ⟨a, o, its, n, e, ho, hc, hd, hl, hr⟩ := hp _ hm
  obtain ⟨a', o', its', n', e', ho', hc', hd', hl', hr'⟩ := hp _ hm'
  have al1 := al _ (List.mem_map.mpr ⟨_, hm, rfl⟩)
  have lk := al1.2 _ (List.mem_map.mpr ⟨_, hm', rfl⟩)
  show wpAny (model prog w) A (keyLt' (tuples' true) p.1 q.1) (fun r s' => s' = s ∧ r = lexT (k p.1) (k q.1)) (fun _ _ => False) s
  have fi1 := fi _ hm
  generalize k p.1 = d at hl hr lk al1 fi1 ⊢
  generalize k q.1 = d' at hl' hr' lk ⊢
  rw [e, e']
  refine PySem.W.kat_lt ho hd ho' hd' ?_
  rw [show decide (its.toArray.size < its'.toArray.size) = false from decide_eq_false (by rw [List.size_toArray, List.size_toArray, hl, hl', likeL_len lk]; exact Nat.lt_irrefl _)]
  exact kat_rows d d' its its' 0 lk hl hl' hr hr' al1.1 fun _ => fi1
theorem rows_swo (k : Value → List Sc) : SrtO.Swo fun v u => lexT (k v) (k u) := ⟨fun _ _ h => lexT_asym h, fun _ _ _ h1 h2 => lexT_tr h1 h2⟩
theorem rows_sortable {a : Addr} {vs : List Value} {k : Value → List Sc} (h0 : 0 < vs.length) (hp : ∀ v, v ∈ vs → RowAt s.heap v (k v)) (al : allLike (vs.map k)) (fi : ∀ v, v ∈ vs → ∃ n, (k v)[0]? = some (.i n)) (ha : ∀ o, s.heap.get? a = some o → o.cls ≠ .type "tuple") : SrtO.SortableO prog w A s a vs fun v u => lexT (k v) (k u) := by
  intro h' keep
  have hp' : ∀ v, v ∈ vs → RowAt h' v (k v) := fun v hm => (hp v hm).keeps fun b o e c => keep b o (fun z => by subst z; exact ha o e c) e
  obtain ⟨fs, h1, h2, h3⟩ := firstsR (h := h') (vs := vs) fun v hm => by
    obtain ⟨n, hn⟩ := fi v hm
    exact ⟨_, n, hp' v hm, hn⟩
  refine ⟨tuples' true, fun Q E hq => ?_, rows_cmp (s := { s with heap := h' }) hp' al fi⟩
  refine PySem.W.kat_kind (T := .type "int") h1 (by omega) (fun f hm => ?_) (by rfl) ?_
  · obtain ⟨x, t, rfl⟩ := h3 f hm
    exact PySem.W.Looks.now
  · have e : (Value.type "int" != Value.type "tuple") = true := by first | decide +kernel | rfl | decide
    rw [e]
    exact hq
theorem sorted_rows {l : Addr} {vs : List Value} {k : Value → List Sc} {Q : Value → Shared → Prop} {E : Value → Shared → Prop} (hl : s.heap.IsList l vs.toArray) (hz : vs.length ≤ sizeLine) (hp : ∀ v, v ∈ vs → RowAt s.heap v (k v)) (al : allLike (vs.map k)) (fi : ∀ v, v ∈ vs → ∃ n, (k v)[0]? = some (.i n))
    (h : ∀ (h' : Heap) (d : Addr) (out : List Value), SrtO.Srtd (fun v u => lexT (k v) (k u)) out → SrtO.Stb (fun v u => lexT (k v) (k u)) out vs → (∀ b o, s.heap.get? b = some o → h'.get? b = some o) → s.heap.objs.size ≤ d → (∃ n, h'.get? d = some (seqObj "list" out.toArray n)) → Q (.ref d) { s with heap := h' }) :
    wpAny (model prog w) A (call (.builtin "sorted") [.ref l]) Q E s := by
  refine SrtO.sorted_ord (rows_swo k) hl hz (fun h2 h₁ a ha kk => ?_) fun out hs hb => ?_
  · refine rows_sortable (s := { s with heap := h₁ }) (by omega) (fun v hm => (hp v hm).keeps fun b o e _ => (kk b o e).2) al fi fun o e => ?_
    have e' : some o = some (seqObj "list" vs.toArray 0) := e.symm.trans ha
    cases e'
    intro c
    exact absurd (Value.type.inj c) (by decide)
  · exact h _ _ out hs hb (fun b o e => sortedAll_old e) (Nat.le_succ _) (sortedAll_at s.heap vs out.toArray)
theorem row_at_inv {pins : List (Addr × Obj)} {σ : L2.St} {H : Hp} {t : Addr} {d : List Sc} (I : Inv X pins σ H s) (h : SqT X.K H t (d.map Sc.v)) : RowAt s.heap (.ref t) d := by
  obtain ⟨its, ⟨o, e, c, n, hd⟩, l, r⟩ := row_items I h
  exact ⟨t, o, its, n, rfl, e, c, hd, l, r⟩
theorem rows_of {pins : List (Addr × Obj)} {σ : L2.St} {H : Hp} (I : Inv X pins σ H s) : ∀ {xs : List V} {ks : List (List Sc)} {its : List Value}, Vals xs its → TupS X.K H xs ks → its.map (rowOf s.heap) = ks ∧ ∀ v, v ∈ its → ∃ t, v = .ref t ∧ RowAt s.heap v (rowOf s.heap v) ∧ SqT X.K H t ((rowOf s.heap v).map Sc.v)
  | [], ks, _, .nil, h => by cases h; exact ⟨rfl, fun _ h => by cases h⟩
  | x :: xs, ks, u :: its, .cons r rv, h => by
    cases h with
    | cons a ta =>
    rename_i t d ks
    obtain rfl : u = Value.ref t := r
    obtain ⟨h1, h2⟩ := rows_of I rv ta
    have ra := row_at_inv I a
    refine ⟨by rw [List.map_cons, ra.row, h1], fun v hv => ?_⟩
    rcases List.mem_cons.mp hv with rfl | hv
    · refine ⟨t, rfl, ?_, ?_⟩
      · rw [ra.row]; exact ra
      · rw [ra.row]; exact a
    · exact h2 v hv
def rSortTS (K : PySem.W.Frag) : List V → Hp → VK → Prop := fun vs H Q => ∃ (a : Addr) (xs : List V) (ks : List (List Sc)), vs = [.ref a] ∧ SqL K H a xs ∧ TupS K H xs ks ∧ allLike ks ∧ (∀ d, d ∈ ks → ∃ n, d[0]? = some (.i n)) ∧
  ∀ (ys : List V) (ks' : List (List Sc)) (p : Addr), TupS K H ys ks' → ks'.Perm ks → ks'.Pairwise (fun x y => lexS y x = false) → H p = none → Q (.ref p) (upd H p (.lst ys))
theorem tups_back {H : Hp} {K : PySem.W.Frag} {g : Heap} : ∀ {out : List Value}, (∀ v, v ∈ out → ∃ t, v = .ref t ∧ SqT K H t ((rowOf g v).map Sc.v)) → TupS K H (out.map backV) (out.map (rowOf g))
  | [], _ => .nil
  | v :: out, h => by
    obtain ⟨t, rfl, a⟩ := h v List.mem_cons_self
    exact .cons a (tups_back fun u hu => h u (List.mem_cons_of_mem _ hu))
theorem cr_sortTS : CallR X (.builtin "sorted") (rSortTS X.K) := by
  intro pins s σ H vs us Q I r h
  obtain ⟨a, xs, ks, rfl, hs, ht, al, fi, q⟩ := h
  obtain ⟨its, rv, hl, hz⟩ := I.list hs
  obtain ⟨u, rfl, ru⟩ := vals1 r
  obtain rfl : u = Value.ref a := ru
  obtain ⟨e1, e2⟩ := rows_of I rv ht
  refine sorted_rows (k := rowOf s.heap) hl.isList (by rw [← rv.length]; exact hz) (fun v hv => ?_) (by rw [e1]; exact al) (fun v hv => fi _ (by rw [← e1]; exact List.mem_map.mpr ⟨v, hv, rfl⟩)) fun h' d out h1 h2 kp hd hn => ?_
  · obtain ⟨t, _, ra, _⟩ := e2 v hv
    exact ra
  · have h3 : ∀ u ∈ out, ∃ a, u = Value.ref a := fun u hu => by
      obtain ⟨t, e, _⟩ := e2 u (h2.perm.mem_iff.mp hu)
      exact ⟨t, e⟩
    obtain ⟨n, hn⟩ := hn
    have pm : (out.map (rowOf s.heap)).Perm ks := by rw [← e1]; exact h2.perm.map _
    refine ⟨.ref d, upd H d (.lst (out.map backV)), I.laid (t' := s.toks) kp hd ⟨?_, out, n, vals_back h3, hn⟩, rfl, q _ _ d (tups_back fun v hv => ?_) pm ?_ (I.hok.fresh hd)⟩
    · rw [List.length_map, h2.len, ← rv.length]
      exact hz
    · obtain ⟨t, e, _, a⟩ := e2 v (h2.perm.mem_iff.mp hv)
      exact ⟨t, e, a⟩
    · have h4 : (out.map (rowOf s.heap)).Pairwise (fun x y => lexT y x = false) := List.pairwise_map.mpr h1
      refine List.Pairwise.imp_of_mem (fun {x y} hx hy h => ?_) h4
      rw [← lexT_like ((al y (pm.mem_iff.mp hy)).2 x (pm.mem_iff.mp hx))]
      exact h
end
end Ph
namespace Ph
open PySem PySem.Spec PyProof.Rows L2
def rSortV (K : PySem.W.Frag) : List V → Hp → VK → Prop := fun vs H Q => rSortU K vs H Q ∨ rSortTS K vs H Q
def rTupIx (K : PySem.W.Frag) : V → List V → Hp → VK → Prop := fun x xs H Q => ∃ p, ∃ ys : List Str, ∃ z j, x = .ref p ∧ xs = [.str z] ∧ SqT K H p (ys.map V.str) ∧ ys[j]? = some z ∧ (∀ m, m < j → ys[m]? ≠ some z) ∧ Q (.int (j : Nat)) H
section
variable {X : Cx}
theorem u_sortedV (hc : X.calm = true) : CallR X (.builtin "sorted") (rSortV X.K) := (u_sorted hc).or cr_sortTS
theorem mt_tupIx : MtR X "tuple.index" (rTupIx X.K) := mt_tup_index
end
theorem idxOf_first {α : Type} [DecidableEq α] {x : α} : ∀ {l : List α}, x ∈ l → l[l.idxOf x]? = some x ∧ ∀ m, m < l.idxOf x → l[m]? ≠ some x
  | [], h => by cases h
  | y :: l, h => by
    by_cases e : y = x
    · subst e
      rw [List.idxOf_cons_self]
      exact ⟨rfl, fun m hm => absurd hm (Nat.not_lt_zero m)⟩
    · have h2 : x ∈ l := by
        rcases List.mem_cons.mp h with q | q
        · exact absurd q.symm e
        · exact q
      obtain ⟨a, b⟩ := idxOf_first h2
      rw [List.idxOf_cons, show (y == x) = false from by simp [e], cond_false]
      refine ⟨a, fun m hm => ?_⟩
      cases m with
      | zero => intro z; exact e (Option.some.inj z)
      | succ m => exact b m (by omega)
section
variable {α : Type} {f : α → V} {K : PySem.W.Frag} {B H : Hp} {L L' F : List (Addr × HO)} {I : List Im} {Q : VK} {σ : L2.St} {d : Addr}
theorem s_sortV {a : Addr} (h : rSortU K [.ref a] H Q) : rSortV K [.ref a] H Q := .inl h
theorem s_sortTS {a : Addr} {xs : List V} {ks : List (List Sc)} (hC : Ctx K B H L I) (m : H a = some (.lst xs)) (ht : TupS K H xs ks) (al : allLike ks) (fi : ∀ d, d ∈ ks → ∃ n, d[0]? = some (.i n))
    (k : ∀ ys ks' p H1, TupS K H ys ks' → ks'.Perm ks → ks'.Pairwise (fun x y => lexS y x = false) → Ctx K B H1 ((p, .lst ys) :: L) I → Q (.ref p) H1) : rSortV K [.ref a] H Q :=
  .inr ⟨a, xs, ks, rfl, SqL.of m, ht, al, fi, fun ys ks' p h1 h2 h3 hp => k ys ks' p _ h1 h2 h3 (hC.newM hp rfl)⟩
theorem s_lidx {a : Addr} {xs : List V} {ys : List Str} {x : Str} (m : H a = some (.lst xs)) (e : xs = ys.map V.str) (hx : x ∈ ys) (q : Q (.int (ys.idxOf x : Nat)) H) : rIndex K (.ref a) [.str x] H Q := by
  subst e
  obtain ⟨h1, h2⟩ := idxOf_first hx
  refine ⟨a, ys.map V.str, .str x, ys.idxOf x, .str x, rfl, rfl, SqL.of m, rfl, by rw [List.all_map]; exact List.all_eq_true.mpr fun _ _ => rfl, by rw [List.getElem?_map, h1]; rfl, by simp [eqV], fun j z hj hz => ?_, q⟩
  rw [List.getElem?_map] at hz
  obtain ⟨y, hy, rfl⟩ := Option.map_eq_some_iff.mp hz
  have : y ≠ x := fun z => h2 j hj (by rw [hy, z])
  simp [eqV, this]
theorem s_tidx {a : Addr} {xs : List V} {ys : List Str} {x : Str} (m : SqT K H a xs) (e : xs = ys.map V.str) (hx : x ∈ ys) (q : Q (.int (ys.idxOf x : Nat)) H) : rTupIx K (.ref a) [.str x] H Q := by
  subst e
  obtain ⟨h1, h2⟩ := idxOf_first hx
  exact ⟨a, ys, x, ys.idxOf x, rfl, rfl, m, h1, h2, q⟩
/-- d.pop(x), x is there -/
def kPop1 (ty : TE) (σ : L2.St) (Q : VK) : VK := fun x H1 => ∃ a, x = .ref a ∧ IsD H1 a ∧ ty σ H1 fun y H2 => ∃ kvs k v, H2 a = some (.dK kvs) ∧ y = kV k ∧ valV kvs k = some v ∧ Q v (upd H2 a (.dK (dropK kvs k)))
def kPop1y (a : Addr) (Q : VK) : VK := fun y H2 => ∃ kvs k v, H2 a = some (.dK kvs) ∧ y = kV k ∧ valV kvs k = some v ∧ Q v (upd H2 a (.dK (dropK kvs k)))
theorem s_pop1 {td ty : TE} (h : td σ H (kPop1 ty σ Q)) : tDPop1 td ty σ H Q := h
theorem s_pop1d {ty : TE} {r : List (Key × V)} (m : H d = some (.dK r)) (h : ty σ H (kPop1y d Q)) : kPop1 ty σ Q (.ref d) H := ⟨d, rfl, .inl ⟨r, .inl m⟩, h⟩
def kPop2 (ty tx : TE) (σ : L2.St) (Q : VK) : VK := fun x H1 => ∃ a, x = .ref a ∧ IsD H1 a ∧ ty σ H1 fun y H2 => tx σ H2 fun z H3 => ∃ kvs k, H3 a = some (.dK kvs) ∧ y = kV k ∧ (∀ v, valV kvs k = some v → Q v (upd H3 a (.dK (dropK kvs k)))) ∧ (valV kvs k = none → Q z H3)
def kPop2z (a : Addr) (y : V) (Q : VK) : VK := fun z H3 => ∃ kvs k, H3 a = some (.dK kvs) ∧ y = kV k ∧ (∀ v, valV kvs k = some v → Q v (upd H3 a (.dK (dropK kvs k)))) ∧ (valV kvs k = none → Q z H3)
def kPop2y (a : Addr) (tx : TE) (σ : L2.St) (Q : VK) : VK := fun y H2 => tx σ H2 (kPop2z a y Q)
theorem s_pop2 {td ty tx : TE} (h : td σ H (kPop2 ty tx σ Q)) : tDPop2 td ty tx σ H Q := h
theorem s_pop2d {ty tx : TE} {r : List (Key × V)} (m : H d = some (.dK r)) (h : ty σ H (kPop2y d tx σ Q)) : kPop2 ty tx σ Q (.ref d) H := ⟨d, rfl, .inl ⟨r, .inl m⟩, h⟩
theorem s_pop2y {tx : TE} {y : V} (h : tx σ H (kPop2z d y Q)) : kPop2y d tx σ Q y H := h
theorem s_pop1v {l : List (Str × α)} {x : Str} {v : α} (hC : Ctx K B H L I) (m : H d = some (.dK (mK f l))) (e : look l x = some v) (u : Up d (.dK (mK f (l.filter fun p => decide (p.1 ≠ x)))) L L') (k : ∀ H1, Ctx K B H1 L' I → Q (f v) H1) : kPop1y d Q (.str x) H :=
  ⟨mK f l, .inr x, f v, m, rfl, by rw [valV_mK, e]; rfl, by rw [dropK_mK]; exact k _ (hC.put u rfl)⟩
theorem s_pop2v {l : List (Str × α)} {x : Str} {v : α} {z : V} (hC : Ctx K B H L I) (m : H d = some (.dK (mK f l))) (e : look l x = some v) (u : Up d (.dK (mK f (l.filter fun p => decide (p.1 ≠ x)))) L L') (k : ∀ H1, Ctx K B H1 L' I → Q (f v) H1) : kPop2z d (.str x) Q z H :=
  ⟨mK f l, .inr x, m, rfl, fun w hw => by
    rw [valV_mK, e] at hw
    cases hw
    rw [dropK_mK]; exact k _ (hC.put u rfl), fun hw => by rw [valV_mK, e] at hw; cases hw⟩
/-- a for under a lock -/
def uN (d : Addr) (od : Obj) (u : HO) (A : L2.St → Hp → Prop) : L2.St → Hp → Prop := fun σ' H' => H' d = some (.frz od u) ∧ A σ' (upd H' d u)
def uV (d : Addr) (od : Obj) (u : HO) (A : VK) : VK := fun v H' => H' d = some (.frz od u) ∧ A v (upd H' d u)
theorem s_lockS {t : TS} {d : Addr} {u : HO} {A Bk Ct : L2.St → Hp → Prop} {Rt : VK} (hC : Ctx K B H L I) (m : Pick (d, u) L L') (mu : Mut (some u))
    (k : ∀ od H1, Stb H H1 → Ctx K H1 H1 L' (.pr (fun H => H d = some (.frz od u)) (fun _ _ s h => s _ _ h rfl) :: I) → t ⟨uN d od u A, uV d od u Rt, uN d od u Bk, uN d od u Ct⟩ σ H1) : tLock t ⟨A, Rt, Bk, Ct⟩ σ H := by
  have hC := hC.pick m
  have e := hC.lay.at_ _ List.mem_cons_self
  refine ⟨d, u, hC.get List.mem_cons_self, mu, fun od => ?_⟩
  have s : Stb H (upd H d (.frz od u)) := Stb.put e.1 e.2
  refine k od _ s ?_
  refine ⟨⟨(List.nodup_cons.mp hC.lay.nd).2, fun p hp => ?_⟩, fun i hi => ?_, Stb.refl _⟩
  · have q := hC.lay.at_ p (List.mem_cons_of_mem _ hp)
    have ne : p.1 ≠ d := hC.lay.ne (u := p.2) hp
    exact ⟨by rw [upd_ne ne]; exact q.1, q.2⟩
  · rcases List.mem_cons.mp hi with rfl | hi
    · exact upd_same
    · exact Im.mono s (hC.im i hi)
theorem s_unN {od : Obj} {u : HO} {A : L2.St → Hp → Prop} {H1 H2 : Hp} {L2' : List (Addr × HO)} {J : List Im} (hC0 : Ctx K B H L I) (m : Pick (d, u) L L') (e1 : Stb H H1) (hC : Ctx K H1 H2 L2' J) (f : H2 d = some (.frz od u)) (k : Ctx K B (upd H2 d u) ((d, u) :: L2') I → A σ (upd H2 d u)) : uN d od u A σ H2 := ⟨f, k (unlock hC0 m e1 hC f)⟩
end
end Ph
namespace Ph
open PySem PySem.Spec PyProof.Rows L2
theorem drop_cons {α : Type} {l : List α} {i : Nat} {e : α} (h : l[i]? = some e) : l.drop i = e :: l.drop (i + 1) := by
  obtain ⟨hi, q⟩ := List.getElem?_eq_some_iff.mp h
  rw [List.drop_eq_getElem_cons hi, q]
theorem take_snoc {α : Type} {l : List α} {i : Nat} {e : α} (h : l[i]? = some e) : l.take (i + 1) = l.take i ++ [e] := by rw [List.take_succ, h]; rfl
theorem split_cons {α : Type} {l : List α} {i : Nat} {e : α} (h : l[i]? = some e) : l = l.take i ++ e :: l.drop (i + 1) := by rw [← drop_cons h, List.take_append_drop]
section
variable {ε : Type} {K : PySem.W.Frag} {B H : Hp} {L L' F : List (Addr × HO)} {I : List Im} {Q : VK} {σ : L2.St} {A Cb Dc : L2.St → Hp → Prop} {Bt : VK} {J : It} {G : Hp → Prop} {Y : Nat → Hp → V → Hp → Prop} {es : List ε} {kf : ε → V} {cg : ε → Addr × HO}
theorem mid_perm {x : Addr × HO} {P M N F : List (Addr × HO)} : (P ++ ((M ++ x :: N) ++ F)).Perm (x :: (P ++ (M ++ (N ++ F)))) := by
  rw [List.append_assoc, List.cons_append]
  refine (List.Perm.append_left P List.perm_middle).trans ?_
  exact List.perm_middle
/-- what a for keeps: S at each turn, with the cells ahead of the things' own, and the facts -/
theorem for_cells {tg : TG} {tb : TS} (w : Walk J es.length G Y) (hY : ∀ i H x H', Y i H x H' → H' = H ∧ ∃ e, es[i]? = some e ∧ x = kf e) (g : ε → ε) (S : Nat → L2.St → List (Addr × HO) → List Im → Prop)
    (hG : ∀ i σ P I H1 M, S i σ P I → Ctx K B H1 (P ++ M) I → G H1) {P : List (Addr × HO)} (h0 : S 0 σ P I) (hC : Ctx K B H (P ++ (es.map cg ++ F)) I)
    (turn : ∀ (i : Nat) e σ P I H1 R (Z : L2.St → Hp → Prop), es[i]? = some e → S i σ P I → Ctx K B H1 (cg e :: (P ++ R)) I → (∀ σ' P' I' H', S (i + 1) σ' P' I' → Ctx K B H' (cg (g e) :: (P' ++ R)) I' → Z σ' H') → tg (kf e) σ H1 fun σ2 H2 => tb ⟨Z, Bt, A, Z⟩ σ2 H2)
    (k : ∀ σ' P' I' H', S es.length σ' P' I' → Ctx K B H' (P' ++ ((es.map g).map cg ++ F)) I' → A σ' H') : kFor tg tb ⟨A, Bt, Cb, Dc⟩ σ J H := by
  refine for_w w (fun i σ H1 => ∃ P I, S i σ P I ∧ Ctx K B H1 (P ++ ((((es.take i).map g ++ es.drop i).map cg) ++ F)) I) ⟨P, I, h0, hC⟩ (fun i σ H1 _ ⟨P, I, hS, hC⟩ => hG i σ P I H1 _ hS hC) ?_ ?_
  · rintro i x σ H1 H2 hi ⟨P, I, hS, hC⟩ hy
    obtain ⟨rfl, e, he, rfl⟩ := hY _ _ _ _ hy
    rw [drop_cons he, List.map_append, List.map_cons] at hC
    refine turn i e σ P I _ _ _ he hS (hC.perm mid_perm) (fun σ' P' I' H' hS' hC' => ⟨P', I', hS', ?_⟩)
    refine hC'.perm ?_
    rw [take_snoc he]
    simp only [List.map_append, List.map_cons, List.map_nil, List.append_assoc, List.cons_append, List.nil_append]
    exact perm_focus.symm
  · rintro σ H1 ⟨P, I, hS, hC⟩
    rw [List.take_length, List.drop_length, List.append_nil] at hC
    exact k σ P I H1 hS hC
/-- a comprehension that reads -/
theorem lc_cells {tg : TG} {tt : TT} {te : TE} {vs : List Nat} (w : Walk J es.length G Y) (hY : ∀ i H x H', Y i H x H' → H' = H ∧ ∃ e, es[i]? = some e ∧ x = kf e) (p : ε → Bool) (dv : ε → PyData) (hz : es.length ≤ 10000) {P : List (Addr × HO)}
    (hG : ∀ H1 M, Ctx K B H1 (M ++ P) I → G H1) (hC : Ctx K B H (P ++ (es.map cg ++ F)) I)
    (turn : ∀ (i : Nat) e H1 R (Zy : VK) (Zn : Hp → Prop), es[i]? = some e → Ctx K H1 H1 (cg e :: (P ++ R)) I → (∀ H2 x J', p e = true → Ctx K H1 H2 (cg e :: (P ++ R)) J' → (∀ j, j ∈ I → j ∈ J') → TD K H2 x (dv e) → Zy x H2) → (∀ H2 J', p e = false → Ctx K H1 H2 (cg e :: (P ++ R)) J' → (∀ j, j ∈ I → j ∈ J') → Zn H2) →
      tg (kf e) (wipe σ vs) H1 fun σ2 H2 => wipe σ2 vs = wipe σ vs ∧ tt σ2 H2 fun b H3 => if b = true then te σ2 H3 Zy else Zn H3)
    (k : ∀ H' D vr, Ctx K B H' ((D, .lst vr) :: (P ++ (es.map cg ++ F))) (.dats vr ((es.filter p).map dv) :: I) → Q (.ref D) H') : kLc tg tt te vs σ Q J H := by
  refine lc_w w hC (fun D i H1 => ∃ vr, Ctx K B H1 ((D, .lst vr) :: (P ++ (es.map cg ++ F))) (.dats vr (((es.take i).filter p).map dv) :: I)) (fun D H1 hC => ⟨[], hC.add (i := .dats [] []) .nil⟩) (fun D i H1 _ ⟨vr, hC⟩ => ?_) ?_ ?_
  · refine hG H1 ((D, .lst vr) :: (es.map cg ++ F)) ⟨hC.lay.perm ?_, fun j hj => hC.im j (List.mem_cons_of_mem _ hj), hC.sb⟩
    exact List.Perm.cons _ List.perm_append_comm
  · rintro i x D H1 H2 hi ⟨vr, hC⟩ hy
    obtain ⟨rfl, e, he, rfl⟩ := hY _ _ _ _ hy
    have hd : TDs K _ vr (((es.take i).filter p).map dv) := hC.dats List.mem_cons_self
    have hl : vr.length ≤ 10000 := by
      rw [hd.length, List.length_map]
      refine Nat.le_trans (List.length_filter_le _ _) ?_
      rw [List.length_take]
      omega
    have hp : ((D, HO.lst vr) :: (P ++ (es.map cg ++ F))).Perm (cg e :: (P ++ ((D, .lst vr) :: ((es.take i).map cg ++ ((es.drop (i + 1)).map cg ++ F))))) := by
      rw [split_cons he, List.map_append, List.map_cons]
      refine (List.Perm.cons _ mid_perm).trans ?_
      refine (List.Perm.swap _ _ _).trans (List.Perm.cons _ ?_)
      rw [← split_cons he]
      exact List.perm_middle.symm
    have hC1 := hC.rebase
    refine turn i e _ _ _ _ he ⟨hC1.lay.perm hp, fun j hj => hC1.im j (List.mem_cons_of_mem _ hj), hC1.sb⟩ (fun H3 x J' hb hC2 hs ht => ?_) (fun H3 J' hb hC2 hs => ⟨vr, ?_⟩)
    · have hC3 : Ctx K B H3 ((D, .lst vr) :: (P ++ (es.map cg ++ F))) (.dats vr (((es.take i).filter p).map dv) :: .dats [x] [dv e] :: I) := ⟨hC2.lay.perm hp.symm, fun j hj => by
        rcases List.mem_cons.mp hj with rfl | hj
        · exact Im.mono hC2.sb (hC.im _ List.mem_cons_self)
        · rcases List.mem_cons.mp hj with rfl | hj
          · exact TDs.cons ht .nil
          · exact hC2.im j (hs j hj), hC.sb.trans hC2.sb⟩
      refine s_app (acc := vr) hC3 (hC3.get List.mem_cons_self) (by omega) .here (fun H4 hC4 => ⟨vr ++ [x], ?_⟩)
      have h1 := TDs.append (hC4.dats (vs := vr) (ds := ((es.take i).filter p).map dv) List.mem_cons_self) (hC4.dats (vs := [x]) (ds := [dv e]) (List.mem_cons_of_mem _ List.mem_cons_self))
      rw [take_snoc he, List.filter_append, List.map_append, show ([e] : List ε).filter p = [e] from by simp [hb]]
      exact (hC4.add (i := .dats (vr ++ [x]) _) h1).keepI (fun j hj => by
        rcases List.mem_cons.mp hj with rfl | hj
        · exact List.mem_cons_self
        · exact List.mem_cons_of_mem _ (List.mem_cons_of_mem _ (List.mem_cons_of_mem _ hj)))
    · rw [take_snoc he, List.filter_append, show ([e] : List ε).filter p = [] from by simp [hb], List.append_nil]
      exact ⟨hC2.lay.perm hp.symm, fun j hj => by
        rcases List.mem_cons.mp hj with rfl | hj
        · exact Im.mono hC2.sb (hC.im _ List.mem_cons_self)
        · exact hC2.im j (hs j hj), hC.sb.trans hC2.sb⟩
  · rintro D H1 ⟨vr, hC⟩
    rw [List.take_length] at hC
    exact k H1 D vr hC
def YE (es : List ε) (kf : ε → V) : Nat → Hp → V → Hp → Prop := fun i H x H' => H' = H ∧ ∃ e, es[i]? = some e ∧ x = kf e
theorem ye {i : Nat} {H H' : Hp} {x : V} (h : YE es kf i H x H') : H' = H ∧ ∃ e, es[i]? = some e ∧ x = kf e := h
theorem walk_lstE {a : Addr} {xs : List V} (hx : xs = es.map kf) : Walk (Itl K a) es.length (fun H => SqL K H a xs) (YE es kf) := by
  subst hx
  have w := walk_list (K := K) (a := a) (xs := es.map kf)
  rw [List.length_map] at w
  refine ⟨w.goes, w.stops, fun i H x H' hi hg h => ?_⟩
  obtain ⟨rfl, q⟩ := w.yields i H x H' hi hg h
  rw [List.getElem?_map] at q
  obtain ⟨e, he, rfl⟩ := Option.map_eq_some_iff.mp q
  exact ⟨rfl, e, he, rfl⟩
theorem walk_tupE {a : Addr} {xs : List V} (hx : xs = es.map kf) : Walk (Itt K a) es.length (fun H => SqT K H a xs) (YE es kf) := by
  subst hx
  have w := walk_tup (K := K) (a := a) (xs := es.map kf)
  rw [List.length_map] at w
  refine ⟨w.goes, w.stops, fun i H x H' hi hg h => ?_⟩
  obtain ⟨rfl, q⟩ := w.yields i H x H' hi hg h
  rw [List.getElem?_map] at q
  obtain ⟨e, he, rfl⟩ := Option.map_eq_some_iff.mp q
  exact ⟨rfl, e, he, rfl⟩
theorem walk_keysE {d : Addr} {o : Obj} {kk : ε → Key} {vf : ε → V} {kvs : List (Key × V)} (hk : kvs = es.map fun e => (kk e, vf e)) : Walk (Itk d o kvs) es.length (fun H => H d = some (.frz o (.dK kvs))) (YE es fun e => kV (kk e)) := by
  subst hk
  have w := walk_keys (d := d) (o := o) (kvs := es.map fun e => (kk e, vf e))
  rw [List.length_map] at w
  refine ⟨w.goes, w.stops, fun i H x H' hi hg h => ?_⟩
  obtain ⟨rfl, k, v, q, rfl⟩ := w.yields i H x H' hi hg h
  rw [List.getElem?_map] at q
  obtain ⟨e, he, h2⟩ := Option.map_eq_some_iff.mp q
  cases h2
  exact ⟨rfl, e, he, rfl⟩
theorem walk_valsE {d : Addr} {o : Obj} {kk : ε → Key} {vf : ε → V} {kvs : List (Key × V)} (hk : kvs = es.map fun e => (kk e, vf e)) : Walk (Itd d o kvs) es.length (fun H => H d = some (.frz o (.dK kvs))) (YE es vf) := by
  subst hk
  have w := walk_values (d := d) (o := o) (kvs := es.map fun e => (kk e, vf e))
  rw [List.length_map] at w
  refine ⟨w.goes, w.stops, fun i H x H' hi hg h => ?_⟩
  obtain ⟨rfl, k, q⟩ := w.yields i H x H' hi hg h
  rw [List.getElem?_map] at q
  obtain ⟨e, he, h2⟩ := Option.map_eq_some_iff.mp q
  cases h2
  exact ⟨rfl, e, he, rfl⟩
/-- a tuple of a generator that reads -/
theorem tup_cells {tg : TG} {tt : TT} {te : TE} {vs : List Nat} (w : Walk J es.length G (YE es kf)) (p : ε → Bool) (dv : ε → PyData) (hz : es.length ≤ 10000) {P : List (Addr × HO)}
    (hG : ∀ H1 M, Ctx K B H1 (M ++ P) I → G H1) (hC : Ctx K B H (P ++ (es.map cg ++ F)) I)
    (turn : ∀ (i : Nat) e H1 R (Zy : VK) (Zn : Hp → Prop), es[i]? = some e → Ctx K H1 H1 (cg e :: (P ++ R)) I → (∀ H2 x J', p e = true → Ctx K H1 H2 (cg e :: (P ++ R)) J' → (∀ j, j ∈ I → j ∈ J') → TD K H2 x (dv e) → Zy x H2) → (∀ H2 J', p e = false → Ctx K H1 H2 (cg e :: (P ++ R)) J' → (∀ j, j ∈ I → j ∈ J') → Zn H2) →
      tg (kf e) (wipe σ vs) H1 fun σ2 H2 => wipe σ2 vs = wipe σ vs ∧ tt σ2 H2 fun b H3 => if b = true then te σ2 H3 Zy else Zn H3)
    (k : ∀ H' t vr, Ctx K B H' (P ++ (es.map cg ++ F)) (.tup t vr :: .dats vr ((es.filter p).map dv) :: I) → Q (.ref t) H') : kTupW tg tt te vs σ Q J H := by
  refine tup_w w (by omega) (fun i ys H1 => Ctx K B H1 (P ++ (es.map cg ++ F)) (.dats ys (((es.take i).filter p).map dv) :: I)) (hC.add (i := .dats [] []) .nil) (fun i ys H1 _ hC => ?_) ?_ ?_
  · refine hG H1 (es.map cg ++ F) ⟨hC.lay.perm ?_, fun j hj => hC.im j (List.mem_cons_of_mem _ hj), hC.sb⟩
    exact List.perm_append_comm
  · rintro i x H1 H2 ys hi hy1 hy2 hC hy
    obtain ⟨rfl, e, he, rfl⟩ := ye hy
    have hp : (P ++ (es.map cg ++ F)).Perm (cg e :: (P ++ ((es.take i).map cg ++ ((es.drop (i + 1)).map cg ++ F)))) := by
      conv => lhs; rw [split_cons he]
      rw [List.map_append, List.map_cons]
      exact mid_perm
    have hC1 := hC.rebase
    have hw := turn i e H2 ((es.take i).map cg ++ ((es.drop (i + 1)).map cg ++ F)) (kTupE ys (i + 1) fun ys H1 => Ctx K B H1 (P ++ (es.map cg ++ F)) (.dats ys (((es.take (i + 1)).filter p).map dv) :: I)) (fun H3 => ys.length ≤ i + 1 ∧ Ctx K B H3 (P ++ (es.map cg ++ F)) (.dats ys (((es.take (i + 1)).filter p).map dv) :: I)) he ⟨hC1.lay.perm hp, fun j hj => hC1.im j (List.mem_cons_of_mem _ hj), hC1.sb⟩
    refine hw (fun H3 x J' hb hC2 hs ht => ?_) (fun H3 J' hb hC2 hs => ⟨by omega, ?_⟩)
    · refine s_tupE hy1 hy2 ?_
      rw [take_snoc he, List.filter_append, List.map_append, show ([e] : List ε).filter p = [e] from by simp [hb]]
      exact ⟨hC2.lay.perm hp.symm, fun j hj => by
        rcases List.mem_cons.mp hj with rfl | hj
        · exact TDs.append (show TDs K H3 ys (((es.take i).filter p).map dv) from Im.mono (K := K) (i := .dats ys (((es.take i).filter p).map dv)) hC2.sb (hC.im _ List.mem_cons_self)) (TDs.cons ht .nil)
        · exact hC2.im j (hs j hj), hC.sb.trans hC2.sb⟩
    · rw [take_snoc he, List.filter_append, show ([e] : List ε).filter p = [] from by simp [hb], List.append_nil]
      exact ⟨hC2.lay.perm hp.symm, fun j hj => by
        rcases List.mem_cons.mp hj with rfl | hj
        · exact Im.mono hC2.sb (hC.im _ List.mem_cons_self)
        · exact hC2.im j (hs j hj), hC.sb.trans hC2.sb⟩
  · intro ys H1 hC l hl
    rw [List.take_length] at hC
    exact k _ l ys (hC.newT hl)
theorem tds_strs : ∀ {vr : List V} {ns : List Str}, TDs K H vr (ns.map PyData.str) → vr = ns.map V.str
  | _, [], .nil => rfl
  | _, _ :: _, .cons (.str _) r => by rw [tds_strs r]; rfl
theorem tds_ints : ∀ {vr : List V} {ns : List Int}, TDs K H vr (ns.map PyData.int) → vr = ns.map V.int
  | _, [], .nil => rfl
  | _, _ :: _, .cons (.int _) r => by rw [tds_ints r]; rfl
end
end Ph
namespace Ph
open PySem PySem.Spec PyProof.Rows L2
theorem inV_strs {x : Str} : ∀ {ys : List Str}, inV (.str x) (ys.map V.str) = decide (x ∈ ys)
  | [] => rfl
  | y :: ys => by
    have ih := inV_strs (x := x) (ys := ys)
    unfold inV at ih ⊢
    rw [List.map_cons, List.any_cons, ih]
    by_cases q : x = y
    · subst q; simp [eqV]
    · have q2 : y ≠ x := fun z => q z.symm
      simp [eqV, q, q2]
section
variable {K : PySem.W.Frag} {H : Hp} {Q : VK} {a : Addr} {xs : List V} {ys : List Str} {x u v : Str}
theorem s_inT (m : SqT K H a xs) (e : xs = ys.map V.str) (q : Q (.bl (decide (x ∈ ys))) H) : rInV K (.str x) (.ref a) H Q := by
  subst e
  exact .inl (.inl ⟨a, _, rfl, .inr m, rfl, by rw [List.all_map]; exact List.all_eq_true.mpr fun _ _ => rfl, by rw [if_neg Bool.false_ne_true, inV_strs]; exact q⟩)
theorem s_inL (m : H a = some (.lst xs)) (e : xs = ys.map V.str) (q : Q (.bl (decide (x ∈ ys))) H) : rInV K (.str x) (.ref a) H Q := by
  subst e
  exact .inl (.inl ⟨a, _, rfl, .inl (SqL.of m), rfl, by rw [List.all_map]; exact List.all_eq_true.mpr fun _ _ => rfl, by rw [if_neg Bool.false_ne_true, inV_strs]; exact q⟩)
theorem s_in2T (m : SqT K H a [.str u, .str v]) (q : Q (.bl (decide (x = u ∨ x = v))) H) : rInV K (.str x) (.ref a) H Q := s_inT (ys := [u, v]) m rfl (by rw [show decide (x ∈ [u, v]) = decide (x = u ∨ x = v) from by simp]; exact q)
theorem s_in2L (m : H a = some (.lst [.str u, .str v])) (q : Q (.bl (decide (x = u ∨ x = v))) H) : rInV K (.str x) (.ref a) H Q := s_inL (ys := [u, v]) m rfl (by rw [show decide (x ∈ [u, v]) = decide (x = u ∨ x = v) from by simp]; exact q)
end
end Ph
namespace Ph
open PySem PySem.Spec PyProof.Rows L2
section
variable {ε : Type} {K : PySem.W.Frag} {B H : Hp} {L L' F : List (Addr × HO)} {I : List Im} {Q : VK} {σ : L2.St} {J : It} {G : Hp → Prop} {es : List ε} {kf : ε → V}
theorem lc_read {tg : TG} {tt : TT} {te : TE} {vs : List Nat} (w : Walk J es.length G (YE es kf)) (p : ε → Bool) (dv : ε → PyData) (hz : es.length ≤ 99000) (hG : ∀ H1 x, Ctx K B H1 (x :: L) I → G H1) (hC : Ctx K B H L I)
    (turn : ∀ (i : Nat) e H1 D vr (Zy : VK) (Zn : Hp → Prop), es[i]? = some e → Ctx K H1 H1 ((D, .lst vr) :: L) I → (∀ H2 x J', p e = true → Ctx K H1 H2 ((D, .lst vr) :: L) J' → (∀ j, j ∈ I → j ∈ J') → TD K H2 x (dv e) → Zy x H2) → (∀ H2 J', p e = false → Ctx K H1 H2 ((D, .lst vr) :: L) J' → (∀ j, j ∈ I → j ∈ J') → Zn H2) →
      tg (kf e) (wipe σ vs) H1 fun σ2 H2 => wipe σ2 vs = wipe σ vs ∧ tt σ2 H2 fun b H3 => if b = true then te σ2 H3 Zy else Zn H3)
    (k : ∀ H' D vr, Ctx K B H' ((D, .lst vr) :: L) (.dats vr ((es.filter p).map dv) :: I) → Q (.ref D) H') : kLc tg tt te vs σ Q J H := by
  refine lc_w w hC (fun D i H1 => ∃ vr, Ctx K B H1 ((D, .lst vr) :: L) (.dats vr (((es.take i).filter p).map dv) :: I)) (fun D H1 hC => ⟨[], hC.add (i := .dats [] []) .nil⟩) (fun D i H1 _ ⟨vr, hC⟩ => hG H1 _ ⟨hC.lay, fun j hj => hC.im j (List.mem_cons_of_mem _ hj), hC.sb⟩) ?_ ?_
  · rintro i x D H1 H2 hi ⟨vr, hC⟩ hy
    obtain ⟨rfl, e, he, rfl⟩ := ye hy
    have hd : TDs K _ vr (((es.take i).filter p).map dv) := hC.dats List.mem_cons_self
    have hl : vr.length ≤ 99000 := by
      rw [hd.length, List.length_map]
      refine Nat.le_trans (List.length_filter_le _ _) ?_
      rw [List.length_take]
      omega
    have hC1 := hC.rebase
    refine turn i e _ _ _ _ _ he ⟨hC1.lay, fun j hj => hC1.im j (List.mem_cons_of_mem _ hj), hC1.sb⟩ (fun H3 x J' hb hC2 hs ht => ?_) (fun H3 J' hb hC2 hs => ⟨vr, ?_⟩)
    · have hC3 : Ctx K B H3 ((D, .lst vr) :: L) (.dats vr (((es.take i).filter p).map dv) :: .dats [x] [dv e] :: I) := ⟨hC2.lay, fun j hj => by
        rcases List.mem_cons.mp hj with rfl | hj
        · exact Im.mono hC2.sb (hC.im _ List.mem_cons_self)
        · rcases List.mem_cons.mp hj with rfl | hj
          · exact TDs.cons ht .nil
          · exact hC2.im j (hs j hj), hC.sb.trans hC2.sb⟩
      refine s_app (acc := vr) hC3 (hC3.get List.mem_cons_self) (by omega) .here (fun H4 hC4 => ⟨vr ++ [x], ?_⟩)
      have h1 := TDs.append (hC4.dats (vs := vr) (ds := ((es.take i).filter p).map dv) List.mem_cons_self) (hC4.dats (vs := [x]) (ds := [dv e]) (List.mem_cons_of_mem _ List.mem_cons_self))
      rw [take_snoc he, List.filter_append, List.map_append, show ([e] : List ε).filter p = [e] from by simp [hb]]
      exact (hC4.add (i := .dats (vr ++ [x]) _) h1).keepI (fun j hj => by
        rcases List.mem_cons.mp hj with rfl | hj
        · exact List.mem_cons_self
        · exact List.mem_cons_of_mem _ (List.mem_cons_of_mem _ (List.mem_cons_of_mem _ hj)))
    · rw [take_snoc he, List.filter_append, show ([e] : List ε).filter p = [] from by simp [hb], List.append_nil]
      exact ⟨hC2.lay, fun j hj => by
        rcases List.mem_cons.mp hj with rfl | hj
        · exact Im.mono hC2.sb (hC.im _ List.mem_cons_self)
        · exact hC2.im j (hs j hj), hC.sb.trans hC2.sb⟩
  · rintro D H1 ⟨vr, hC⟩
    rw [List.take_length] at hC
    exact k H1 D vr hC
/-- texts of a list of texts: no cells are made -/
theorem lc_strs {tg : TG} {tt : TT} {te : TE} {vs : List Nat} {a : Addr} {ns : List Str} (p : Str → Bool) (hz : ns.length ≤ 99000) (hm : (a, .lst (ns.map V.str)) ∈ L) (hC : Ctx K B H L I)
    (turn : ∀ x H1 (Zy : VK) (Zn : Hp → Prop), (p x = true → Zy (.str x) H1) → (p x = false → Zn H1) → tg (.str x) (wipe σ vs) H1 fun σ2 H2 => wipe σ2 vs = wipe σ vs ∧ tt σ2 H2 fun b H3 => if b = true then te σ2 H3 Zy else Zn H3)
    (k : ∀ H' D, Ctx K B H' ((D, .lst ((ns.filter p).map V.str)) :: L) I → Q (.ref D) H') : kLc tg tt te vs σ Q (Itl K a) H := by
  refine lc_read (es := ns) (kf := V.str) (walk_lstE rfl) p PyData.str hz (fun H1 x hC => SqL.of (hC.get (List.mem_cons_of_mem _ hm))) hC (fun i x H1 D vr Zy Zn he hC hy hn => turn x H1 Zy Zn (fun hb => hy H1 _ I hb hC (fun j hj => hj) (.str x)) (fun hb => hn H1 I hb hC (fun j hj => hj))) (fun H' D vr hC => ?_)
  have hd := hC.dats (vs := vr) List.mem_cons_self
  rw [tds_strs hd] at hC
  exact k H' D ⟨hC.lay, fun j hj => hC.im j (List.mem_cons_of_mem _ hj), hC.sb⟩
end
end Ph
namespace Ph
open PySem PySem.Spec PyProof.Rows L2
abbrev imFz (d : Addr) (od : Obj) (u : HO) : Im := .pr (fun H => H d = some (.frz od u)) (fun _ _ s h => s _ _ h rfl)
section
variable {K : PySem.W.Frag} {B H : Hp} {L L' : List (Addr × HO)} {I : List Im} {Q : VK} {σ : L2.St} {d : Addr} {od : Obj} {u : HO}
theorem _root_.Ph.Ctx.frz (hC : Ctx K B H L I) (m : imFz d od u ∈ I) : H d = some (.frz od u) := hC.pr (P := fun H => H d = some (.frz od u)) m
theorem s_ixKFi {o : Obj} {l : List (Str × V)} {x : Str} {v : V} (m : H d = some (.frz o (.dK (mK id l)))) (e : look l x = some v) (q : Q v H) : rIxU K (.ref d) (.str x) H Q := s_ixKF (f := id) m e q
theorem s_sum {a : Addr} {ns : List Int} {xs : List V} (m : H a = some (.lst xs)) (e : xs = ns.map V.int) (q : Q (.int ns.sum) H) : rSum K [.ref a] H Q := by
  subst e
  exact ⟨a, ns, rfl, SqL.of m, q⟩
theorem s_lockE {t : TE} (hC : Ctx K B H L I) (m : Pick (d, u) L L') (mu : Mut (some u)) (k : ∀ od H1, Stb H H1 → Ctx K H1 H1 L' (imFz d od u :: I) → t σ H1 (kUnl d od u Q)) : tLockE t σ H Q := s_lock hC m mu k
theorem s_lockT {t : TS} {A Bk Ct : L2.St → Hp → Prop} {Rt : VK} (hC : Ctx K B H L I) (m : Pick (d, u) L L') (mu : Mut (some u)) (k : ∀ od H1, Stb H H1 → Ctx K H1 H1 L' (imFz d od u :: I) → t ⟨uN d od u A, uV d od u Rt, uN d od u Bk, uN d od u Ct⟩ σ H1) : tLock t ⟨A, Rt, Bk, Ct⟩ σ H := s_lockS hC m mu k
end
end Ph
namespace Ph
open PySem PySem.Spec PyProof.Rows L2
section
variable {K : PySem.W.Frag} {H : Hp} {Q : VK} {l m : Addr} {ns ms : List Str}
theorem strs_tds : ∀ ns : List Str, TDs K H (ns.map V.str) (ns.map PyData.str)
  | [] => .nil
  | n :: r => .cons (.str n) (strs_tds r)
theorem ints_tds : ∀ ns : List Int, TDs K H (ns.map V.int) (ns.map PyData.int)
  | [] => .nil
  | n :: r => .cons (.int n) (ints_tds r)
theorem strs_sh (so : ∀ x, x ∈ ns → PyData.strOk x = true) : ShL 50 (ns.map PyData.str) := fun d hd => by
  obtain ⟨x, hx, rfl⟩ := List.mem_map.mp hd
  exact .str (so x hx)
theorem s_neStr (hl : H l = some (.lst (ns.map V.str))) (hm : H m = some (.lst [])) (so : ∀ x, x ∈ ns → PyData.strOk x = true) (k : Q (.bl (!ns.isEmpty)) H) : rNeU K (.ref l) (.ref m) H Q :=
  s_neE hl hm (strs_tds ns) (strs_sh so) (by rw [show (ns.map PyData.str).isEmpty = ns.isEmpty from by cases ns <;> rfl]; exact k)
theorem s_eqStr (hl : H l = some (.lst (ns.map V.str))) (hm : H m = some (.lst [])) (so : ∀ x, x ∈ ns → PyData.strOk x = true) (k : Q (.bl ns.isEmpty) H) : rEqU K (.ref l) (.ref m) H Q :=
  s_eqE hl hm (strs_tds ns) (strs_sh so) (by rw [show (ns.map PyData.str).isEmpty = ns.isEmpty from by cases ns <;> rfl]; exact k)
theorem s_neSameS (hl : H l = some (.lst (ns.map V.str))) (hm : H m = some (.lst (ns.map V.str))) (so : ∀ x, x ∈ ns → PyData.strOk x = true) (k : Q (.bl false) H) : rNeU K (.ref l) (.ref m) H Q :=
  s_neSameL hl hm (strs_tds ns) (strs_tds ns) (strs_sh so) k
end
end Ph
namespace Ph
open PySem PySem.Spec PyProof.Rows L2
def TupK (K : PySem.W.Frag) (a : Addr) (xs : List V) : Prop := (∀ H : Hp, SqT K H a xs) ∧ ∃ o : Obj, K.lookup a = some o ∧ o.cls = .type "tuple" ∧ o.dict = none
def strOfV : Value → Option Str
  | .str z _ => some z
  | _ => none
def strsAre : List Value → List Str → Bool
  | [], [] => true
  | .str z _ :: r, s :: t => z == s && strsAre r t
  | _, _ => false
theorem strsAre_ok : ∀ {l : List Value} {ss : List Str}, strsAre l ss = true → Vals (ss.map V.str) l
  | [], [], _ => .nil
  | .str z t :: r, s :: ss, h => by
    simp only [strsAre, Bool.and_eq_true, beq_iff_eq] at h
    obtain ⟨rfl, h⟩ := h
    exact .cons ⟨t, rfl⟩ (strsAre_ok h)
  | [], _ :: _, h => by cases h
  | v :: r, [], h => by cases v <;> cases h
  | .none :: _, _ :: _, h => by cases h
  | .bool _ :: _, _ :: _, h => by cases h
  | .int _ _ :: _, _ :: _, h => by cases h
  | .ref _ :: _, _ :: _, h => by cases h
  | v :: _, _ :: _, h => by
    cases v <;> first | cases h | skip
    simp only [strsAre, Bool.and_eq_true, beq_iff_eq] at h
    obtain ⟨rfl, h⟩ := h
    exact .cons ⟨_, rfl⟩ (strsAre_ok h)
def tupS (K : PySem.W.Frag) (a : Addr) (ss : List Str) : Bool := match K.lookup a with
  | some ⟨.type n, none, .seq its _, _⟩ => n == "tuple" && (strsAre its.toList ss && decide (its.size ≤ 1000))
  | _ => false
theorem tupS_ok {K : PySem.W.Frag} {a : Addr} {ss : List Str} (h : tupS K a ss = true) : TupK K a (ss.map V.str) := by
  unfold tupS at h
  split at h
  · rename_i n its k sl e
    simp only [Bool.and_eq_true, beq_iff_eq, decide_eq_true_eq] at h
    exact ⟨fun H => .inr ⟨_, its, k, e, by rw [h.1], rfl, by rw [sizeLine_eq]; omega, strsAre_ok h.2.1⟩, _, e, by rw [h.1], rfl⟩
  · cases h
theorem s_tyT {K : PySem.W.Frag} {H : Hp} {Q : VK} {σ : L2.St} {p : Addr} {xs : List V} {r : V → List V → Hp → VK → Prop} {tr : TA} (m : TupK K p xs) (h : tr σ H fun xs H2 => r (.ref p) xs H2 Q) : kBm K "tuple" r σ tr Q (.ref p) H := ⟨.inr (.inl ⟨rfl, m.2⟩), h⟩
end Ph
namespace Ph
open PySem PySem.Spec PyProof.Rows L2
def rNeDL : R2 := fun x y H Q => ∃ a b ks ls, x = .ref a ∧ y = .ref b ∧ H a = some (.dK ks) ∧ H b = some (.dK ls) ∧ ks.length ≠ ls.length ∧ Q (.bl true) H
def rNeX (K : PySem.W.Frag) : R2 := fun x y H Q => rNeU K x y H Q ∨ rNeDA x y H Q ∨ rNeDL x y H Q
section
variable {X : Cx}
theorem op_ne_dictL (hu : X.A.units < cLine) : OpR X (compareOp .NotEq) rNeDL := by
  intro pins s σ H x y v u Q I rx ry h
  obtain ⟨a, b, ks, ls, rfl, rfl, ea, eb, hlen, q⟩ := h
  obtain rfl : v = Value.ref a := rx
  obtain rfl : u = Value.ref b := ry
  obtain ⟨_, ya, va, ra, da⟩ := (show ObjOk X.prog X.w H s.heap a (.dK ks) from I.hok a _ ea)
  obtain ⟨_, yb, vb, rb, db⟩ := (show ObjOk X.prog X.w H s.heap b (.dK ls) from I.hok b _ eb)
  have hl : va.length ≠ vb.length := by rw [← ra.length, ← rb.length]; exact hlen
  exact PySem.W.keq_ne (knd := mixKind X.prog X.w) (r := false) ya yb da db hu (fun e => absurd e hl) (fin_bl I q (by simp [hl]))
theorem u_neX (hu : X.A.units + 64 < cLine) : OpR X (compareOp .NotEq) (rNeX X.K) := (u_ne hu).or ((op_ne_dictA (by omega)).or (op_ne_dictL (by omega)))
end
section
variable {K : PySem.W.Frag} {H : Hp} {Q : VK} {a b : Addr} {ks : List (Key × V)}
theorem s_neX0 (m : H a = some (.dK [])) (m2 : H b = some (.dK [])) (q : Q (.bl false) H) : rNeX K (.ref a) (.ref b) H Q := .inr (.inl ⟨a, b, [], [], rfl, rfl, m, m2, rfl, (fun p h => by cases h), q⟩)
theorem s_neX1 (m : H a = some (.dK ks)) (h : 0 < ks.length) (m2 : H b = some (.dK [])) (q : Q (.bl true) H) : rNeX K (.ref a) (.ref b) H Q := .inr (.inr ⟨a, b, ks, [], rfl, rfl, m, m2, (by rw [List.length_nil]; omega), q⟩)
end
end Ph
namespace Ph
open PySem PySem.Spec PyProof.Rows L2
def mI {α : Type} (f : α → V) (l : List (Int × α)) : List (Key × V) := l.map fun p => (.inl p.1, f p.2)
section
variable {α : Type} {f : α → V}
theorem mI_len {l : List (Int × α)} : (mI f l).length = l.length := by unfold mI; rw [List.length_map]
theorem mI_keys {l : List (Int × α)} : (mI f l).map (·.1) = (l.map (·.1)).map Sum.inl := by unfold mI; rw [List.map_map, List.map_map]; rfl
theorem valV_mI {k : Int} : ∀ {l : List (Int × α)}, valV (mI f l) (.inl k) = (look l k).map f
  | [] => rfl
  | p :: r => by
    show valV ((Sum.inl p.1, f p.2) :: mI f r) (.inl k) = _
    rw [look_cons]
    by_cases h : p.1 = k
    · rw [valV_pos (by simp [h]), if_pos h]; rfl
    · rw [valV_neg (by simpa using h), if_neg h, valV_mI]
theorem putK_mI {l : List (Int × α)} {k : Int} {v : α} : putK (mI f l) (.inl k) (f v) = mI f (putR l k v) := by
  unfold putK putR
  rw [valV_any, valV_mI, look_any, Option.isSome_map]
  split
  · unfold mI
    rw [List.map_map, List.map_map]
    refine List.map_congr_left fun p _ => ?_
    by_cases h : p.1 = k <;> simp [h]
  · unfold mI
    rw [List.map_append]; rfl
theorem RDis.mkI : ∀ {l : List (Int × α)} {acc : List (Key × V)}, (l.map (·.1)).Nodup → (∀ p, p ∈ l → ∀ x, x ∈ acc → ¬ x.1 = .inl p.1) → RDis acc (mI f l)
  | [], _, _, _ => .nil
  | p :: r, acc, nd, h => by
    rw [List.map_cons, List.nodup_cons] at nd
    refine .cons (DNo.of (h p List.mem_cons_self)) (RDis.mkI nd.2 fun q m x hx => ?_)
    rcases List.mem_cons.mp hx with rfl | hx
    · intro z
      have z : p.1 = q.1 := Sum.inl.inj z
      exact nd.1 (by rw [z]; exact List.mem_map.mpr ⟨q, m, rfl⟩)
    · exact h q (List.mem_cons_of_mem _ m) x hx
theorem merge_mI {l : List (Int × α)} (nd : (l.map (·.1)).Nodup) : mergeK [] (mI f l) = mI f l := by
  have e := (RDis.mkI (f := f) (acc := []) nd (fun _ _ x hx => by cases hx)).ok
  rw [List.reverse_nil, List.nil_append] at e
  exact e
end
section
variable {α : Type} {f : α → V} {K : PySem.W.Frag} {B H : Hp} {L L' F : List (Addr × HO)} {I : List Im} {Q : VK} {σ : L2.St} {d : Addr}
theorem s_ixI {l : List (Int × α)} {x : Int} {v : α} (m : H d = some (.dK (mI f l))) (e : look l x = some v) (q : Q (f v) H) : rIxU K (.ref d) (.int x) H Q :=
  .inr (.inr (.inr ⟨d, f v, rfl, .inl ⟨_, .inl x, .inl m, rfl, by rw [valV_mI, e]; rfl⟩, q⟩))
theorem s_ixIF {o : Obj} {l : List (Int × α)} {x : Int} {v : α} (m : H d = some (.frz o (.dK (mI f l)))) (e : look l x = some v) (q : Q (f v) H) : rIxU K (.ref d) (.int x) H Q :=
  .inr (.inr (.inr ⟨d, f v, rfl, .inl ⟨_, .inl x, .inr ⟨o, m⟩, rfl, by rw [valV_mI, e]; rfl⟩, q⟩))
theorem s_ixIi {l : List (Int × V)} {x : Int} {v : V} (m : H d = some (.dK (mI id l))) (e : look l x = some v) (q : Q v H) : rIxU K (.ref d) (.int x) H Q := s_ixI (f := id) m e q
theorem s_ixIFi {o : Obj} {l : List (Int × V)} {x : Int} {v : V} (m : H d = some (.frz o (.dK (mI id l)))) (e : look l x = some v) (q : Q v H) : rIxU K (.ref d) (.int x) H Q := s_ixIF (f := id) m e q
theorem s_ninIe {l : List (Int × α)} {x : Int} {v : α} (m : H d = some (.dK (mI f l))) (e : look l x = some v) (q : Q (.bl false) H) : rNotInV K (.int x) (.ref d) H Q :=
  .inl (.inr (.inl ⟨d, _, rfl, .inl ⟨_, .inl x, .inl m, rfl, rfl⟩, by rw [valV_mI, Option.isSome_map, e]; exact q⟩))
theorem s_ninIz {l : List (Int × α)} {x : Int} (m : H d = some (.dK (mI f l))) (e : look l x = none) (q : Q (.bl true) H) : rNotInV K (.int x) (.ref d) H Q :=
  .inl (.inr (.inl ⟨d, _, rfl, .inl ⟨_, .inl x, .inl m, rfl, rfl⟩, by rw [valV_mI, Option.isSome_map, e]; exact q⟩))
theorem s_g1Ie {l : List (Int × V)} {x : Int} {v : V} (m : H d = some (.dK (mI id l))) (e : look l x = some v) (q : Q v H) : kGetK1 d Q (.int x) H := ⟨_, .inl (.inl ⟨_, .inl x, .inl m, rfl, rfl⟩), by rw [valV_mI, e]; exact q⟩
theorem s_g1Iz {l : List (Int × V)} {x : Int} (m : H d = some (.dK (mI id l))) (e : look l x = none) (q : Q .non H) : kGetK1 d Q (.int x) H := ⟨_, .inl (.inl ⟨_, .inl x, .inl m, rfl, rfl⟩), by rw [valV_mI, e]; exact q⟩
theorem s_putI {R : Hp → Prop} {l : List (Int × V)} {x : Int} {v : V} (hC : Ctx K B H L I) (m : H d = some (.dK (mI id l))) (z : l.length < 100000) (u : Up d (.dK (mI id (putR l x v))) L L') (q : ∀ H1, Ctx K B H1 L' I → R H1) : rSetU (.ref d) (.int x) v H R :=
  .inr ⟨d, _, rfl, DPut.k (k := Sum.inl x) m (by rw [mI_len]; exact Nat.lt_of_lt_of_le z (by decide)), by rw [show putK (mI id l) (.inl x) v = mI id (putR l x v) from putK_mI (f := id)]; exact q _ (hC.put u rfl)⟩
theorem s_srtI2 {l : List (Int × α)} (hC : Ctx K B H L I) (m : H d = some (.dK (mI f l))) (z : l.length < 64) (k : ∀ p H1, Ctx K B H1 ((p, .lst ((srtZ (l.map (·.1))).map V.int)) :: L) I → Q (.ref p) H1) : rSortU K [.ref d] H Q :=
  .inr (.inr (.inr ⟨d, _, l.map (·.1), rfl, .inl m, mI_keys, by rw [List.length_map]; exact z, fun ys p hp hs hn => by
    rw [srtZ_of hp hs]
    exact k p _ (hC.newM hn rfl)⟩))
theorem s_dictI {ps : List Addr} {l : List (Int × α)} (hC : Ctx K B H L I) (m : H d = some (.lst (ps.map V.ref))) (h : Paired (fun p kv => SqT K H p [kV kv.1, kv.2]) ps (mI f l)) (nd : (l.map (·.1)).Nodup) (k : ∀ p H1, Ctx K B H1 ((p, .dK (mI f l)) :: L) I → Q (.ref p) H1) : rDictU K [.ref d] H Q :=
  .inl ⟨d, ps, mI f l, rfl, SqL.of m, h, fun p hp => by rw [merge_mI nd]; exact k p _ (hC.newM hp rfl)⟩
theorem s_lenI {kvs : List (Key × V)} (m : H d = some (.dK kvs)) (q : Q (.int kvs.length) H) : rLenU K [.ref d] H Q := s_lenD m q
/-! list(d.items()) -/
theorem pairedImp {α β : Type} {G G2 : α → β → Prop} (g : ∀ x y, G x y → G2 x y) : ∀ {l : List α} {m : List β}, Paired G l m → Paired G2 l m
  | _, _, .nil => .nil
  | _, _, .cons a t => .cons (g _ _ a) (pairedImp g t)
abbrev imPs (K : PySem.W.Frag) (ts : List Addr) (kvs : List (Key × V)) : Im := .pr (fun H => Paired (fun (t : Addr) (q : Key × V) => SqT K H t [kV q.1, q.2]) ts kvs) (fun H H' s h => pairedImp (G := fun (t : Addr) (q : Key × V) => SqT K H t [kV q.1, q.2]) (G2 := fun (t : Addr) (q : Key × V) => SqT K H' t [kV q.1, q.2]) (fun _ _ z => s.sqt z) h)
def kItemsL (Q : VK) : VK := fun x H1 => LiI.rItemsL x H1 Q
theorem s_litE {te : TE} (h : te σ H (kItemsL Q)) : LiI.tListItems te σ H Q := h
theorem s_lit {kvs : List (Key × V)} (hC : Ctx K B H L I) (m : H d = some (.dK kvs)) (k : ∀ p ts H1, Ctx K B H1 ((p, .lst (ts.map V.ref)) :: L) (imPs K ts kvs :: I) → Q (.ref p) H1) : kItemsL Q (.ref d) H := by
  refine ⟨d, kvs, rfl, m, fun H' p ts keep hp hts hn hpl hpd => k p ts H' ?_⟩
  have s : Stb H H' := fun b w hb _ => keep b w hb
  refine ⟨⟨?_, fun q hq => ?_⟩, fun i hi => ?_, hC.sb.trans s⟩
  · rw [List.map_cons, List.nodup_cons]
    refine ⟨fun z => ?_, hC.lay.nd⟩
    obtain ⟨q, hq, e⟩ := List.mem_map.mp z
    have z2 := (hC.lay.at_ q hq).1
    rw [e, hp] at z2
    cases z2
  · rcases List.mem_cons.mp hq with e | hq
    · subst e
      exact ⟨hpl, rfl⟩
    · exact ⟨keep _ _ (hC.lay.at_ q hq).1, (hC.lay.at_ q hq).2⟩
  · rcases List.mem_cons.mp hi with rfl | hi
    · exact pairedImp (fun _ _ z => .inl (.inl z)) hpd
    · exact Im.mono s (hC.im i hi)
end
end Ph
namespace Ph
open PySem PySem.Spec PyProof.Rows L2
section
variable {ε : Type} {K : PySem.W.Frag} {B H : Hp} {L L' F : List (Addr × HO)} {I : List Im} {Q : VK} {σ : L2.St} {J : It} {G : Hp → Prop} {es : List ε} {kf : ε → V} {b0 : Bool}
variable {tg : TG} {tt : TT} {te : TE} {vs : List Nat}
theorem any_read (w : Walk J es.length G (YE es kf)) (p : ε → Bool) (hz : es.length ≤ 90000) (hG : ∀ H1, Ctx K B H1 L I → G H1) (hC : Ctx K B H L I)
    (turn : ∀ (i : Nat) e H1 (Z : VK) (Zn : Hp → Prop), es[i]? = some e → Ctx K B H1 L I → (∀ H2, Ctx K B H2 L I → Z (.bl (p e)) H2) → tg (kf e) (wipe σ vs) H1 fun σ2 H2 => wipe σ2 vs = wipe σ vs ∧ tt σ2 H2 fun b H3 => if b = true then te σ2 H3 Z else Zn H3)
    (k : ∀ H', Ctx K B H' L I → Q (.bl (if b0 = true then es.any p else es.all p)) H') : kAnyW b0 tg tt te vs σ Q J H := by
  refine any_w w (by omega) (fun i H1 => Ctx K B H1 L I ∧ ∀ j, j < i → ∀ e, es[j]? = some e → p e = !b0) ⟨hC, fun j hj => absurd hj (Nat.not_lt_zero _)⟩ (fun i H1 _ h => hG H1 h.1) ?_ ?_
  · rintro i x H1 H2 ys hi hy1 hy2 ⟨hC, hp⟩ hy
    obtain ⟨rfl, e, he, rfl⟩ := ye hy
    exact turn i e H2 (kAnyE b0 ys (i + 1) (fun H1 => Ctx K B H1 L I ∧ ∀ j, j < i + 1 → ∀ e, es[j]? = some e → p e = !b0) Q) _ he hC (fun H3 hC3 => s_anyE hy1 hy2 (by
      by_cases q : p e = b0
      · rw [if_pos q]
        have := k H3 hC3
        cases b0 with
        | true =>
          rw [if_pos rfl, show es.any p = true from List.any_eq_true.mpr ⟨e, List.mem_of_getElem? he, q⟩] at this
          exact this
        | false =>
          rw [if_neg Bool.false_ne_true, show es.all p = false from List.all_eq_false.mpr ⟨e, List.mem_of_getElem? he, by rw [q]; exact Bool.false_ne_true⟩] at this
          exact this
      · rw [if_neg q]
        refine ⟨hC3, fun j hj f hf => ?_⟩
        rcases Nat.lt_succ_iff_lt_or_eq.mp hj with hj | rfl
        · exact hp j hj f hf
        · rw [he] at hf
          cases hf
          cases b0 <;> cases h : p e <;> simp_all))
  · rintro H1 ⟨hC, hp⟩
    have := k H1 hC
    cases b0 with
    | true =>
      rw [if_pos rfl, show es.any p = false from List.any_eq_false.mpr fun e he z => by
        obtain ⟨j, hj⟩ := List.mem_iff_getElem?.mp he
        have := hp j (List.getElem?_eq_some_iff.mp hj).1 e hj
        rw [this] at z; cases z] at this
      exact this
    | false =>
      rw [if_neg Bool.false_ne_true, show es.all p = true from List.all_eq_true.mpr fun e he => by
        obtain ⟨j, hj⟩ := List.mem_iff_getElem?.mp he
        exact hp j (List.getElem?_eq_some_iff.mp hj).1 e hj] at this
      exact this
theorem tup_read (w : Walk J es.length G (YE es kf)) (p : ε → Bool) (dv : ε → PyData) (hz : es.length ≤ 90000) (hG : ∀ H1, Ctx K B H1 L I → G H1) (hC : Ctx K B H L I)
    (turn : ∀ (i : Nat) e H1 (Zy : VK) (Zn : Hp → Prop), es[i]? = some e → Ctx K H1 H1 L I → (∀ H2 x J', p e = true → Ctx K H1 H2 L J' → (∀ j, j ∈ I → j ∈ J') → TD K H2 x (dv e) → Zy x H2) → (∀ H2 J', p e = false → Ctx K H1 H2 L J' → (∀ j, j ∈ I → j ∈ J') → Zn H2) →
      tg (kf e) (wipe σ vs) H1 fun σ2 H2 => wipe σ2 vs = wipe σ vs ∧ tt σ2 H2 fun b H3 => if b = true then te σ2 H3 Zy else Zn H3)
    (k : ∀ H' t vr, Ctx K B H' L (.tup t vr :: .dats vr ((es.filter p).map dv) :: I) → Q (.ref t) H') : kTupW tg tt te vs σ Q J H := by
  refine tup_w w (by omega) (fun i ys H1 => Ctx K B H1 L (.dats ys (((es.take i).filter p).map dv) :: I)) (hC.add (i := .dats [] []) .nil) (fun i ys H1 _ hC => hG H1 (hC.keepI fun j hj => List.mem_cons_of_mem _ hj)) ?_ ?_
  · rintro i x H1 H2 ys hi hy1 hy2 hC hy
    obtain ⟨rfl, e, he, rfl⟩ := ye hy
    have hC1 := hC.rebase
    have hw := turn i e H2 (kTupE ys (i + 1) fun ys H1 => Ctx K B H1 L (.dats ys (((es.take (i + 1)).filter p).map dv) :: I)) (fun H3 => ys.length ≤ i + 1 ∧ Ctx K B H3 L (.dats ys (((es.take (i + 1)).filter p).map dv) :: I)) he ⟨hC1.lay, fun j hj => hC1.im j (List.mem_cons_of_mem _ hj), hC1.sb⟩
    refine hw (fun H3 x J' hb hC2 hs ht => ?_) (fun H3 J' hb hC2 hs => ⟨by omega, ?_⟩)
    · refine s_tupE hy1 hy2 ?_
      rw [take_snoc he, List.filter_append, List.map_append, show ([e] : List ε).filter p = [e] from by simp [hb]]
      exact ⟨hC2.lay, fun j hj => by
        rcases List.mem_cons.mp hj with rfl | hj
        · exact TDs.append (show TDs K H3 ys (((es.take i).filter p).map dv) from Im.mono (K := K) (i := .dats ys (((es.take i).filter p).map dv)) hC2.sb (hC.im _ List.mem_cons_self)) (TDs.cons ht .nil)
        · exact hC2.im j (hs j hj), hC.sb.trans hC2.sb⟩
    · rw [take_snoc he, List.filter_append, show ([e] : List ε).filter p = [] from by simp [hb], List.append_nil]
      exact ⟨hC2.lay, fun j hj => by
        rcases List.mem_cons.mp hj with rfl | hj
        · exact Im.mono hC2.sb (hC.im _ List.mem_cons_self)
        · exact hC2.im j (hs j hj), hC.sb.trans hC2.sb⟩
  · intro ys H1 hC l hl
    rw [List.take_length] at hC
    exact k _ l ys (hC.newT hl)
end
end Ph
namespace Ph
open PySem PySem.Spec PyProof.Rows L2
theorem inV_ints {x : Int} : ∀ {ys : List Int}, inV (.int x) (ys.map V.int) = decide (x ∈ ys)
  | [] => rfl
  | y :: ys => by
    have ih := inV_ints (x := x) (ys := ys)
    unfold inV at ih ⊢
    rw [List.map_cons, List.any_cons, ih]
    by_cases q : x = y
    · subst q; simp [eqV]
    · have q2 : y ≠ x := fun z => q z.symm
      simp [eqV, q, q2]
theorem inV_nonS : ∀ {ys : List Str}, inV .non (ys.map V.str) = false
  | [] => rfl
  | y :: ys => by
    have ih := inV_nonS (ys := ys)
    unfold inV at ih ⊢
    rw [List.map_cons, List.any_cons, ih]
    simp [eqV]
section
variable {K : PySem.W.Frag} {H : Hp} {Q : VK} {a : Addr} {xs : List V} {ys : List Str} {x : Str}
theorem s_inLI {n : Int} {ns : List Int} (m : H a = some (.lst (ns.map V.int))) (q : Q (.bl (decide (n ∈ ns))) H) : rInV K (.int n) (.ref a) H Q :=
  .inl (.inl ⟨a, _, rfl, .inl (SqL.of m), rfl, by rw [List.all_map]; exact List.all_eq_true.mpr fun _ _ => rfl, by rw [if_neg Bool.false_ne_true, inV_ints]; exact q⟩)
theorem s_ninT (m : SqT K H a xs) (e : xs = ys.map V.str) (q : Q (.bl (!decide (x ∈ ys))) H) : rNotInV K (.str x) (.ref a) H Q := by
  subst e
  exact .inl (.inl ⟨a, _, rfl, .inr m, rfl, by rw [List.all_map]; exact List.all_eq_true.mpr fun _ _ => rfl, by rw [if_pos rfl, inV_strs]; exact q⟩)
theorem s_inNL (m : H a = some (.lst xs)) (e : xs = ys.map V.str) (q : Q (.bl false) H) : rInV K .non (.ref a) H Q := by
  subst e
  exact .inl (.inl ⟨a, _, rfl, .inl (SqL.of m), rfl, by rw [List.all_map]; exact List.all_eq_true.mpr fun _ _ => rfl, by rw [if_neg Bool.false_ne_true, inV_nonS]; exact q⟩)
theorem s_ninNL (m : H a = some (.lst [.non, .str x])) {y : V} (hy : y = .non ∨ ∃ z, y = .str z) (q : Q (.bl (!decide (y = .non ∨ y = .str x))) H) : rNotInV K y (.ref a) H Q := by
  rcases hy with rfl | ⟨z, rfl⟩
  · exact .inl (.inl ⟨a, _, rfl, .inl (SqL.of m), rfl, rfl, by rw [if_pos rfl, show inV V.non [.non, .str x] = true from by unfold inV; simp [eqV]]; simpa using q⟩)
  · refine .inl (.inl ⟨a, _, rfl, .inl (SqL.of m), rfl, rfl, ?_⟩)
    rw [if_pos rfl, show inV (V.str z) [.non, .str x] = decide (z = x) from by
      unfold inV
      by_cases h : z = x
      · subst h; simp [eqV]
      · have h2 : x ≠ z := fun w => h w.symm
        simp [eqV, h, h2]]
    simpa using q
end
section
variable {H : Hp} {σ : L2.St} {d : Addr} {R : It → Hp → Prop}
def kVals (R : It → Hp → Prop) : VK := fun x H1 => ∃ d o kvs, x = .ref d ∧ H1 d = some (.frz o (.dK kvs)) ∧ R (Itd d o kvs) H1
theorem s_valsE {td : TE} (h : td σ H (kVals R)) : iVals td σ H R := h
theorem s_valsK {o : Obj} {kvs : List (Key × V)} (m : H d = some (.frz o (.dK kvs))) (h : R (Itd d o kvs) H) : kVals R (.ref d) H := ⟨d, o, kvs, rfl, m, h⟩
end
theorem eqv_strs : ∀ {xs ys : List Str}, PyData.eqvAll (xs.map PyData.str) (ys.map PyData.str) = decide (xs = ys)
  | [], [] => by simp [PyData.eqvAll]
  | [], _ :: _ => by simp [PyData.eqvAll]
  | _ :: _, [] => by simp [PyData.eqvAll]
  | x :: xs, y :: ys => by
    rw [List.map_cons, List.map_cons, PyData.eqvAll, eqv_strs, PyData.eqv]
    by_cases h1 : x = y
    · by_cases h2 : xs = ys <;> simp [h1, h2]
    · simp [h1]
section
variable {K : PySem.W.Frag} {H : Hp} {Q : VK} {l m : Addr} {ns ms : List Str}
theorem s_eqSS (hl : H l = some (.lst (ns.map V.str))) (hm : H m = some (.lst (ms.map V.str))) (s1 : ∀ x, x ∈ ns → PyData.strOk x = true) (s2 : ∀ x, x ∈ ms → PyData.strOk x = true) (k : Q (.bl (decide (ns = ms))) H) : rEqU K (.ref l) (.ref m) H Q :=
  s_eqD (Dp.lst (SqL.of hl) (strs_tds ns).dp) (Dp.lst (SqL.of hm) (strs_tds ms).dp) ((strs_sh s1).list.shaped (by decide)) ((strs_sh s2).list.shaped (by decide)) (by rw [PyData.eqv, eqv_strs]; exact k)
theorem s_neSS (hl : H l = some (.lst (ns.map V.str))) (hm : H m = some (.lst (ms.map V.str))) (s1 : ∀ x, x ∈ ns → PyData.strOk x = true) (s2 : ∀ x, x ∈ ms → PyData.strOk x = true) (k : Q (.bl (!decide (ns = ms))) H) : rNeU K (.ref l) (.ref m) H Q :=
  s_neD (Dp.lst (SqL.of hl) (strs_tds ns).dp) (Dp.lst (SqL.of hm) (strs_tds ms).dp) ((strs_sh s1).list.shaped (by decide)) ((strs_sh s2).list.shaped (by decide)) (by rw [PyData.eqv, eqv_strs]; exact k)
end
end Ph
namespace Ph
open PySem PySem.Spec PyProof.Rows L2
section
variable {ε : Type} {K : PySem.W.Frag} {B H : Hp} {L L' F : List (Addr × HO)} {I : List Im} {Q : VK} {σ : L2.St} {J : It} {G : Hp → Prop} {es : List ε} {kf : ε → V}
theorem lc_pick {tg : TG} {tt : TT} {te : TE} {vs : List Nat} (w : Walk J es.length G (YE es kf)) (p : ε → Bool) (vf : ε → V) (hz : es.length ≤ 99000) (hG : ∀ H1 x, Ctx K B H1 (x :: L) I → G H1) (hC : Ctx K B H L I)
    (turn : ∀ (i : Nat) e H1 D vr (Zy : VK) (Zn : Hp → Prop), es[i]? = some e → Ctx K B H1 ((D, .lst vr) :: L) I → (∀ H2 J', p e = true → Ctx K B H2 ((D, .lst vr) :: L) J' → (∀ j, j ∈ I → j ∈ J') → Zy (vf e) H2) → (∀ H2 J', p e = false → Ctx K B H2 ((D, .lst vr) :: L) J' → (∀ j, j ∈ I → j ∈ J') → Zn H2) →
      tg (kf e) (wipe σ vs) H1 fun σ2 H2 => wipe σ2 vs = wipe σ vs ∧ tt σ2 H2 fun b H3 => if b = true then te σ2 H3 Zy else Zn H3)
    (k : ∀ H' D, Ctx K B H' ((D, .lst ((es.filter p).map vf)) :: L) I → Q (.ref D) H') : kLc tg tt te vs σ Q J H := by
  refine lc_w w hC (fun D i H1 => Ctx K B H1 ((D, .lst (((es.take i).filter p).map vf)) :: L) I) (fun D H1 hC => hC) (fun D i H1 _ hC => hG H1 _ hC) ?_ ?_
  · rintro i x D H1 H2 hi hC hy
    obtain ⟨rfl, e, he, rfl⟩ := ye hy
    have hl : (((es.take i).filter p).map vf).length ≤ 99000 := by
      rw [List.length_map]
      refine Nat.le_trans (List.length_filter_le _ _) ?_
      rw [List.length_take]
      omega
    refine turn i e _ _ _ _ _ he hC (fun H3 J' hb hC2 hs => ?_) (fun H3 J' hb hC2 hs => ?_)
    · have hC3 : Ctx K B H3 ((D, .lst (((es.take i).filter p).map vf)) :: L) I := hC2.keepI hs
      refine s_app hC3 (hC3.get List.mem_cons_self) (by omega) .here (fun H4 hC4 => ?_)
      rw [take_snoc he, List.filter_append, List.map_append, show ([e] : List ε).filter p = [e] from by simp [hb]]
      exact hC4
    · show Ctx K B H3 ((D, .lst (((es.take (i + 1)).filter p).map vf)) :: L) I
      rw [take_snoc he, List.filter_append, show ([e] : List ε).filter p = [] from by simp [hb], List.append_nil]
      exact hC2.keepI hs
  · rintro D H1 hC
    rw [List.take_length] at hC
    exact k H1 D hC
end
end Ph
namespace Ph
open PySem PySem.Spec PyProof.Rows L2
def rNeLL : R2 := fun x y H Q => ∃ l b xs ys, x = .ref l ∧ y = .ref b ∧ H l = some (.lst xs) ∧ H b = some (.lst ys) ∧ xs.length ≠ ys.length ∧ Q (.bl true) H
def rNeY (K : PySem.W.Frag) : R2 := fun x y H Q => rNeU K x y H Q ∨ rNeLL x y H Q
section
variable {X : Cx}
theorem op_neLL (hu : X.A.units < cLine) : OpR X (compareOp .NotEq) rNeLL := by
  intro pins s σ H x y v u Q I rx ry h
  obtain ⟨l, b, xs, ys, rfl, rfl, el, eb, hlen, q⟩ := h
  obtain rfl : v = Value.ref l := rx
  obtain rfl : u = Value.ref b := ry
  obtain ⟨_, va, ca, ra, da⟩ := (show ObjOk X.prog X.w H s.heap l (.lst xs) from I.hok l _ el)
  obtain ⟨_, vb, cb, rb, db⟩ := (show ObjOk X.prog X.w H s.heap b (.lst ys) from I.hok b _ eb)
  have la : xs.length = va.length := ra.length
  have lb : ys.length = vb.length := rb.length
  refine PySem.SeqAt.RcNeAt.lists_lengths (items := va.toArray) (items2 := vb.toArray) ⟨_, da, rfl, _, rfl⟩ ⟨_, db, rfl, _, rfl⟩ ?_ hu _ _ _ _ (fin_bl I q rfl)
  simp only [List.size_toArray, bne_iff_ne, ne_eq]
  omega
theorem u_neY (hu : X.A.units + 64 < cLine) : OpR X (compareOp .NotEq) (rNeY X.K) := (u_ne hu).or (op_neLL (by omega))
end
section
variable {K : PySem.W.Frag} {H : Hp} {Q : VK} {a b : Addr} {xs : List V}
theorem s_neY (hl : H a = some (.lst xs)) (hm : H b = some (.lst [])) (q : Q (.bl (!xs.isEmpty)) H) : rNeY K (.ref a) (.ref b) H Q := by
  cases xs with
  | nil => exact .inl (s_ne00 hl hm q)
  | cons x r => exact .inr ⟨a, b, _, _, rfl, rfl, hl, hm, by simp, q⟩
end
end Ph
namespace Ph
open PySem PySem.Spec PyProof.Rows L2 LamX
/-- told: try: return a() / except C1: return r1 / except C2: return r2 -/
def kTold2 (K : PySem.W.Frag) (C1 : Addr) (r1 : Str) (C2 : Addr) (r2 : Str) (Q : VK) : XK := fun cls _ H' => ∃ b, PySem.W.exmOne K cls (.ref C1) = some b ∧ (b = true → Q (.str r1) H') ∧ (b = false → ∃ b2, PySem.W.exmOne K cls (.ref C2) = some b2 ∧ (b2 = true → Q (.str r2) H') ∧ (b2 = false → False))
def TTold2 (K : PySem.W.Frag) (C1 : Addr) (r1 : Str) (C2 : Addr) (r2 : Str) : (XK → Hp → VK → Prop) → Hp → VK → Prop := fun tl H Q => tl (kTold2 K C1 r1 C2 r2 Q) H Q
theorem told_gives2 {X : Cx} {Ng : List Str} {x a e1 e2 q r1 r2 : Str} {sg : Scope} {g C1 C2 : Addr} {cdg : Value} {j1 j2 : Nat} {p1 p2 p3 p4 p5 p6 p7 p8 p9 p10 p11 p12 : Pos} (hge1 : sg.names.lookup e1 = some .globalImplicit) (hme1 : X.mg e1 = some (.ref C1)) (hde1 : (e1 == ("__debug__" : Str)) = false)
    (hge2 : sg.names.lookup e2 = some .globalImplicit) (hme2 : X.mg e2 = some (.ref C2)) (hde2 : (e2 == ("__debug__" : Str)) = false) (h0 : ∀ f : Addr, (L2.start Ng [V.ref f])[0]? = some (some (V.ref f))) :
    GivesTo X Ng x sg g cdg [.Try [.Return (some (.Call (.Name a p1) [] [] p2)) p3] [.ExceptHandler (some (.Name e1 p4)) none [.Return (some (.Constant (.str r1) j1 p5)) p6] p7, .ExceptHandler (some (.Name e2 p9)) none [.Return (some (.Constant (.str r2) j2 p10)) p11] p12] [] [] p8] a q (TTold2 X.K C1 r1 C2 r2) := by
  intro f c' s H Q tl act hc h
  have hgl1 : Gl (cxOf C8.CX0 X.prog X.w X.K X.mg X.base Ng x sg g cdg X.A X.stack s H C8.E0).nox e1 := hge1
  have hgl2 : Gl (cxOf C8.CX0 X.prog X.w X.K X.mg X.base Ng x sg g cdg X.A X.stack s H C8.E0).nox e2 := hge2
  refine ⟨_, pss_one (ps_try_many (X := (cxOf C8.CX0 X.prog X.w X.K X.mg X.base Ng x sg g cdg X.A X.stack s H C8.E0).nox)
      (tb := fun W D σ H => ∃ Ech : XK, (∀ cls d σ' H', Ech cls d H' → W cls d σ' H') ∧ σ[0]? = some (some (.ref f)) ∧ H c' = some (CodeO c' q) ∧ tl Ech H D.rt)
      rfl rfl LamX.takes0 (fun W pn xe tk _ => ?_) (HdsOk.cons (c := .ref C1) ⟨hgl1, hde1, .inl hme1⟩ (fun a oe cls d pn _ _ => pss_one (ps_ret pe_str)) (HdsOk.cons (c := .ref C2) ⟨hgl2, hde2, .inl hme2⟩ (fun a oe cls d pn _ _ => pss_one (ps_ret pe_str)) .nil))), ?_⟩
  · refine ⟨fun pins s' σ H' D I h' => ?_⟩
    obtain ⟨Ech, hW, h1, h2, h3⟩ := h'
    have hp := act W pn xe Ech p1 p2 tk hW
    have hq := pss_one (ps_ret (pos := p3) hp)
    exact hq.run pins s' σ H' D I ⟨h1, h2, h3⟩
  · exact ⟨kTold2 X.K C1 r1 C2 r2 Q, fun cls d σ' H' ⟨b, e1, e2, e3⟩ => ⟨b, e1, fun hb a _ => e2 hb, fun hb => (e3 hb).imp fun b2 z => ⟨z.1, fun hb a _ => z.2.1 hb, fun hb => z.2.2 hb⟩⟩, h0 f, hc, h⟩
/-- x(lambda: body), x the teller -/
theorem pe_lamP2 {X : Cx} {x a r1 r2 : Str} {g c P C1 C2 : Addr} {k : Nat} {pg : Arguments} {bg : List Stmt} {sg : Scope} {dV kV doc pm cdv ct oc : Value} {an od : Option Addr} {osl : Array (Option Value)} {Ng : List Str}
    {ps : Arguments} {body : Expr} {sc : Scope} {t : XK → TE} {p lpos pos : Pos} (hg : Gl X x) (hm : X.mg x = some (.ref g)) (hk : PySem.W.keepIn X.K (.ref g) = true)
    (lk : X.K.lookup g = some ⟨oc, od, .func (PySem.W.fnOf x x pg bg sg dV kV doc pm an cdv ct), osl⟩) (hcg : PySem.W.codeIn X.K cdv x = true) (hb : L2.Binds X.K (PySem.W.fnOf x x pg bg sg dV kV doc pm an cdv ct) [a] []) (Sg : FnScope Ng [a] sg) (hNg : Ng[0]? = some a) (hva : Vis sg a)
    (hG : GivesTo X Ng x sg g cdv bg a (X.env.qual ++ "<lambda>") (TTold2 X.K C1 r1 C2 r2))
    (TB : LamX.TabB X.base X.mg c P) (hcode : X.env.code = .ref c) (hr : Room (k + 2) X.A) (L : LamS X.env.scope sc) (hdef : defaultsOf ps X.env = ([], []))
    (hbind : ∀ (q : Str) (cl : List (Str × Addr)) (pm cv ctv : Value), bindArgs (PySem.W.kla_fn "<lambda>" q ps body sc cl pm cv ctv) ⟨[], []⟩ = pure [])
    (hbody : ∀ (A : Around) (outer : List Env) (s : Shared) (H : Hp) (E : XK) (f c' : Addr), Room k (A.deeper (lamEnv X sc s.heap.objs.size f c')) → PE (lamCx X A outer s H E sc f c') body (t E))
    (hdb : (x == ("__debug__" : Str)) = false := by decide) (hd : (a == ("__debug__" : Str)) = false := by decide) (hcd : (a == ("__classdict__" : Str)) = false := by decide) :
    PE X (.Call (.Name x p) [.Lambda ps body sc lpos] [] pos) (tLamP P (X.env.qual ++ "<lambda>") (TTold2 X.K C1 r1 C2 r2) t) := by
  refine ⟨fun pins s σ H Q I h => ?_⟩
  obtain ⟨hT, h⟩ := h
  refine wpAny_Call_Name_kw (ld_glob I hg hm ?_ hdb)
  refine PySem.W.callWith_K (h₀ := X.base) I.ok.mod.kin hk ?_ (by rfl) (by rfl)
  show wpAny _ _ (spliced ((false, eval (.Lambda ps body sc lpos) X.env) :: backTo pos (starEach [] X.env))) _ _ s
  refine Calls.spliced_cons (lamC_make I TB hcode hT hdef (L.has I.ok) fun f c' H1 s' I1 eP T1 hf hco => ?_)
  refine Calls.spliced_nil ⟨I1.kIn, ?_⟩
  have rc : codeAny (model X.prog X.w) X.A (.call (.ref g) ⟨[.ref f], []⟩) (CR C8.CX0 X.stack X.prog X.w H1 s' Q C8.E0) s' := by
    refine run_ofS (N := Ng) (ps := [a]) (us := [.ref f]) (vs := [.ref f]) lk hcg Sg hr I1.env0 (hb s' [.ref f] I1.kIn rfl) (.cons rfl .nil) rfl fun hr' => ?_
    obtain ⟨t', ht', hq'⟩ := hG f c' s' H1 Q (fun E H' Q' => H' f = some (LamC f c' (X.env.qual ++ "<lambda>") ps body sc (cloFrom X.env.cells sc.names [])) ∧ t E σ H' Q')
      (fun W pn xe E p1 p2 tk hW => pe_actC (i := 0) I1 L (hbind _ _ · _ ·) tk hW hr' (fun A outer s H hr2 => hbody A outer s H E f c' hr2) hNg hva hd hcd) hco ⟨hf, h H1 eP T1⟩
    exact ⟨t', ht'.nox, hq'⟩
  refine wpAny_call (codeAny_mono rc fun r s2 hq => ?_)
  cases r with
  | error e => exact (show False from hq).elim
  | ok fl =>
    cases fl with
    | ret u => exact I1.after hq
    | next => exact False.elim hq
    | brk => exact False.elim hq
    | cont => exact False.elim hq
section
variable {K : PySem.W.Frag} {B H : Hp} {L L' : List (Addr × HO)} {I : List Im} {Q : VK} {σ : L2.St} {P C1 C2 D : Addr} {q r1 r2 : Str} {tb : Array Value} {d : Option Addr}
theorem s_lam2 {t : XK → TE} (hC : Ctx K B H L I) (m : Pick (P, .tbl tb) L L') (f : Im.tab q tb ∈ I) (k : ∀ tb' H1, Ctx K B H1 ((P, .tbl tb') :: L') (.tab q tb' :: I) → t (kTold2 K C1 r1 C2 r2 Q) σ H1 Q) : tLamP P q (TTold2 K C1 r1 C2 r2) t σ H Q := by
  have hC := hC.pick m
  have e0 := hC.get List.mem_cons_self
  refine ⟨(hC.tab f).tabS e0, fun H1 e t1 => ?_⟩
  obtain ⟨tb', h1, h2, h3⟩ := t1
  exact k tb' H1 ((hC.but List.mem_cons_self .here rfl e h1).add (i := .tab q tb') ⟨h2, h3⟩)
theorem s_told2a (e : PySem.W.exmOne K (.ref D) (.ref C1) = some true) (h : Q (.str r1) H) : kTold2 K C1 r1 C2 r2 Q (.ref D) d H := ⟨true, e, fun _ => h, fun q => by cases q⟩
theorem s_told2b (e : PySem.W.exmOne K (.ref D) (.ref C1) = some false) (e2 : PySem.W.exmOne K (.ref D) (.ref C2) = some true) (h : Q (.str r2) H) : kTold2 K C1 r1 C2 r2 Q (.ref D) d H := ⟨false, e, (fun q => by cases q), fun _ => ⟨true, e2, fun _ => h, fun q => by cases q⟩⟩
end
def rIMulU : R2 := rI CMul fun i j => .int (i * j)
def rIDivU : R2 := rI CDiv fun i j => .int (i / j)
theorem u_imul {X : Cx} : OpR X (inplaceOp .Mult) rIMulU := iop_mul
theorem u_ifdiv {X : Cx} : OpR X (inplaceOp .FloorDiv) rIDivU := iop_fdiv
section
variable {H : Hp} {Q : VK} {i j : Int}
theorem s_imulI (c : CMul i j) (h : Q (.int (i * j)) H) : rIMulU (.int i) (.int j) H Q := ⟨i, j, rfl, rfl, c, h⟩
theorem s_idivI (c : CDiv i j) (h : Q (.int (i / j)) H) : rIDivU (.int i) (.int j) H Q := ⟨i, j, rfl, rfl, c, h⟩
end
end Ph
namespace Ph
open PySem PySem.Spec PyProof.Rows L2
theorem stored_new {K : Type} [DecidableEq K] : ∀ (ps xs : List (K × Addr × Value)), ((xs ++ ps).map (·.1)).Nodup → storedAllH xs ps = xs ++ ps
  | [], xs, _ => by rw [List.append_nil]; rfl
  | p :: ps, xs, nd => by
    show storedAllH (storedH xs p.1 p.2.1 p.2.2) ps = _
    have hno : atKey xs p.1 = none := by
      cases h : atKey xs p.1 with
      | none => rfl
      | some q =>
        exfalso
        rw [List.map_append, List.map_cons] at nd
        have hd := (List.nodup_append.mp nd).2.2
        have : ∃ x, x ∈ xs ∧ x.1 = p.1 := by
          unfold atKey at h
          cases hf : xs.find? (fun x => decide (x.1 = p.1)) with
          | none => simp [hf] at h
          | some x => exact ⟨x, List.mem_of_find?_eq_some hf, of_decide_eq_true (List.find?_some (p := fun x : K × Addr × Value => decide (x.1 = p.1)) hf)⟩
        obtain ⟨x, hx, e⟩ := this
        exact hd x.1 (List.mem_map.mpr ⟨x, hx, rfl⟩) p.1 List.mem_cons_self e
    rw [storedH_new hno, stored_new ps _ (by rw [List.append_assoc]; exact nd), List.append_assoc]
    rfl
/-- a row of the list: the pair, its key's place, its key, its value -/
abbrev T3 := Addr × Addr × List Key × V
def rDictPT (K : PySem.W.Frag) : List V → Hp → VK → Prop := fun xs H Q => ∃ (a : Addr) (ts : List T3), xs = [.ref a] ∧ SqL K H a (ts.map fun t => V.ref t.1) ∧ (∀ t, t ∈ ts → SqT K H t.1 [.ref t.2.1, t.2.2.2] ∧ H t.2.1 = some (.tup (t.2.2.1.map kV))) ∧ (ts.map fun t => t.2.2.1).Nodup ∧
  ∀ p, H p = none → Q (.ref p) (upd H p (.dT (ts.map fun t => t.2.2)))
theorem trips_of {X : Cx} {pins : List (Addr × Obj)} {σ : L2.St} {H : Hp} {s : Shared} (I : Inv X pins σ H s) : ∀ {ts : List T3}, (∀ t, t ∈ ts → SqT X.K H t.1 [.ref t.2.1, t.2.2.2] ∧ H t.2.1 = some (.tup (t.2.2.1.map kV))) →
    ∃ ys : List Value, Paired (fun (t : T3) y => RelV t.2.2.2 y ∧ IsTup s.heap t.1 #[.ref t.2.1, y]) ts ys
  | [], _ => ⟨[], .nil⟩
  | t :: ts, h => by
    obtain ⟨ys, hp⟩ := trips_of I (ts := ts) fun t ht => h t (List.mem_cons_of_mem _ ht)
    obtain ⟨its, rv, ht, _⟩ := I.tuple (h t List.mem_cons_self).1
    obtain ⟨u, y, ei, ru, ry⟩ := vals2 rv
    subst ei
    cases (show u = Value.ref t.2.1 from ru)
    exact ⟨y :: ys, .cons ⟨ry, ht⟩ hp⟩
theorem pairAt {α β : Type} {R : α → β → Prop} : ∀ {l : List α} {m : List β}, Paired R l m → ∀ {i : Nat} {x : α} {y : β}, l[i]? = some x → m[i]? = some y → R x y
  | _, _, .cons h t, 0, x, y, e1, e2 => by
    cases (show _ = x from Option.some.inj e1)
    cases (show _ = y from Option.some.inj e2)
    exact h
  | _, _, .cons h t, i + 1, x, y, e1, e2 => pairAt t (i := i) (by simpa using e1) (by simpa using e2)
  | _, _, .nil, i, x, y, e1, _ => by simp at e1
theorem cr_dictPT {X : Cx} (hcalm : X.calm = true) (hu : X.A.units + 64 < cLine) : CallR X (.type "dict") (rDictPT X.K) := by
  intro pins s σ H xs us Q I r q
  obtain ⟨a, ts, ex, hq, ht, nd, q⟩ := q
  subst ex
  obtain ⟨u, eu, rx⟩ := vals1 r
  subst eu
  cases rx
  obtain ⟨its, rv, pl, hz⟩ := I.list hq
  have ei := refs_at (ps := ts.map fun t => t.1) (us := its) (by rw [List.map_map]; exact rv)
  subst ei
  rw [List.length_map] at hz
  obtain ⟨ys, hp⟩ := trips_of I ht
  have hlen : ys.length = ts.length := (Paired.length hp).symm
  obtain ⟨o, n, ho, hc, hd, hdat⟩ := pl
  have hprs : (List.zipWith (fun (t : T3) y => (Value.ref t.2.1, y)) ts ys).length = ts.length := by rw [List.length_zipWith]; omega
  have hps3 : (List.zipWith (fun (t : T3) y => (t.2.2.1, t.2.1, y)) ts ys).length = ts.length := by rw [List.length_zipWith]; omega
  have hk3 : (List.zipWith (fun (t : T3) y => (t.2.2.1, t.2.1, y)) ts ys).map (·.1) = ts.map fun t => t.2.2.1 := by
    refine List.ext_getElem? fun i => ?_
    rw [List.getElem?_map, List.getElem?_zipWith, List.getElem?_map]
    cases ht' : ts[i]? with
    | none => rfl
    | some t =>
      have hi : i < ys.length := by rw [hlen]; exact (List.getElem?_eq_some_iff.mp ht').1
      rw [List.getElem?_eq_getElem hi]
      rfl
  refine PySem.call_dict_pairsH (knd := tupleKind (mixKind X.prog X.w)) (ps := List.zipWith (fun (t : T3) y => (t.2.2.1, t.2.1, y)) ts ys)
    (PairArg.list a ((ts.map fun t => t.1).map Value.ref).toArray (fun j => ((ts[j]?).map fun t => t.1).getD a) (List.zipWith (fun (t : T3) y => (Value.ref t.2.1, y)) ts ys)) (I.ok.hd hcalm) (show X.A.in1.in1.units < cLine from ?_) ⟨⟨o, n, ho, hc, hd, hdat⟩, ?_, fun j k v e => ?_⟩ ⟨by rw [hps3, hprs], fun i key v e => ?_⟩ (fun h' hk x hx => ?_) (by rw [hprs]; exact hz) fun h' tk hd' hk => ?_
  · show X.A.units + 1 + 1 < cLine
    omega
  · simp [hprs]
  · obtain ⟨t, y, e1, e2, e3⟩ := List.getElem?_zipWith_eq_some.mp e
    cases e3
    have hr := pairAt hp e1 e2
    refine ⟨by simp [e1], ?_⟩
    show PairAt s.heap (((ts[j]?).map fun t => t.1).getD a) _ _
    rw [e1]
    obtain ⟨o2, h1, h2, n2, h3⟩ := hr.2
    exact .inl ⟨o2, h1, h2, n2, h3⟩
  · obtain ⟨t, y, e1, e2, e3⟩ := List.getElem?_zipWith_eq_some.mp e
    cases e3
    exact ⟨t.2.2.1, t.2.1, List.getElem?_zipWith_eq_some.mpr ⟨t, v, e1, e2, rfl⟩, rfl⟩
  · obtain ⟨i, e⟩ := List.mem_iff_getElem?.mp hx
    obtain ⟨t, y, e1, e2, e3⟩ := List.getElem?_zipWith_eq_some.mp e
    subst e3
    obtain ⟨o2, its2, n2, h1, h2, h3, h4⟩ := (show IsTupleKey (mixKind X.prog X.w) s.heap t.2.2.1 t.2.1 from key_of I.hok (ht t (List.mem_of_getElem? e1)).2)
    exact ⟨o2, its2, n2, hk _ _ (Nat.ne_of_lt (Heap.lt_size h1)) (fun z => by cases z) h1, h2, h3, h4⟩
  · have hm : (s.heap.objs.size == sysModules) = false := beq_eq_false_iff_ne.mpr (Nat.ne_of_gt I.big)
    rw [stored_new _ [] (by rw [List.nil_append, hk3]; exact nd), List.nil_append] at hd'
    obtain ⟨o3, es, ep, g1, g2, g3, g4, _, g6⟩ := hd'
    refine ⟨.ref s.heap.objs.size, upd H s.heap.objs.size (.dT (ts.map fun t => t.2.2)), I.laid (t' := tk) (fun b u e => hk b u (fun z => by cases z) e) (Nat.le_refl _) (show ObjOk X.prog X.w _ _ _ (.dT (ts.map fun t => t.2.2)) from ⟨by rw [List.length_map]; exact hz, hm, _, ?_, o3, es, ep, g1, g2, g3, g4, g6⟩), rfl, q _ (I.hok.fresh (Nat.le_refl _))⟩
    have key : ∀ (H2 : Hp), (∀ b xs, H b = some (.tup xs) → H2 b = some (.tup xs)) → ∀ {ts : List T3} {ys : List Value}, Paired (fun (t : T3) y => RelV t.2.2.2 y ∧ IsTup s.heap t.1 #[.ref t.2.1, y]) ts ys → (∀ t, t ∈ ts → H t.2.1 = some (.tup (t.2.2.1.map kV))) →
        Paired (fun (p : List Key × V) (q : List Key × Addr × Value) => p.1 = q.1 ∧ H2 q.2.1 = some (.tup (p.1.map kV)) ∧ RelV p.2 q.2.2) (ts.map fun t => t.2.2) (List.zipWith (fun (t : T3) y => (t.2.2.1, t.2.1, y)) ts ys) := by
      intro H2 hk2 ts ys hp
      induction hp with
      | nil => exact fun _ => .nil
      | cons h _ ih => exact fun ht => .cons ⟨rfl, hk2 _ _ (ht _ List.mem_cons_self), h.1⟩ (ih fun t h => ht t (List.mem_cons_of_mem _ h))
    exact key _ (fun b xs e => by rw [upd_ne (ne_of_none e (I.hok.fresh (Nat.le_refl _)))]; exact e) hp fun t h => (ht t h).2
def rDictV (K : PySem.W.Frag) : List V → Hp → VK → Prop := fun xs H Q => rDictU K xs H Q ∨ rDictPT K xs H Q
theorem u_dictV {X : Cx} (hc : X.calm = true) (hu : X.A.units + 64 < cLine) : CallR X (.type "dict") (rDictV X.K) := (u_dict hc).or (cr_dictPT hc hu)
/-- x not in "..", a written text -/
theorem elt_ninC {X : Cx} {sc : Scope} {x z : Str} {j : Nat} {p1 p2 p3 : Pos} (hk : sc.kind = .function) (hl : sc.names.lookup x = some .local)
    (hd : (x == ("__debug__" : Str)) = false := by decide) : EltG X sc x (.Compare (.Name x p1) [.NotIn] [.Constant (.str z) j p2] p3) (fun c => !decide (c ∈ z.cps.toList)) := by
  intro ce A' E' c t zz m hA hsc hglo hns hn hx
  refine wpAny_Compare1 ?_
  refine wpAny_Name (wpAny_loadName_local (by rw [hsc]; exact hk) (show ce.scope.names.lookup x = some .local by rw [hsc]; exact hl) hn hx ?_) hd
  refine wpAny_Constant_str ?_
  refine PySem.P.notIn_str ⟨?_, GxR.keeps_tok _ _⟩
  show Value.bool _ = Value.bool _
  rw [PySem.StrLaws.found_one]
end Ph
namespace Ph
open PySem PySem.Spec PyProof.Rows L2
/-- rows with keys (text, text) -/
def mP {α : Type} (f : α → V) (l : List ((Str × Str) × α)) : List (List Key × V) := l.map fun p => ([.inr p.1.1, .inr p.1.2], f p.2)
abbrev k2S (k : Str × Str) : List V := [.str k.1, .str k.2]
theorem keyP_inj {a b : Str × Str} : ([Sum.inr a.1, Sum.inr a.2] : List Key) = [.inr b.1, .inr b.2] ↔ a = b := by
  obtain ⟨a1, a2⟩ := a
  obtain ⟨b1, b2⟩ := b
  constructor
  · intro h
    injection h with h1 h2
    injection h2 with h2 _
    injection h1 with h1
    injection h2 with h2
    exact Prod.ext h1 h2
  · intro h; cases h; rfl
section
variable {α : Type} {f : α → V}
theorem mP_len {l : List ((Str × Str) × α)} : (mP f l).length = l.length := by unfold mP; rw [List.length_map]
theorem valV_mP {k : Str × Str} : ∀ {l : List ((Str × Str) × α)}, valV (mP f l) [.inr k.1, .inr k.2] = (look l k).map f
  | [] => rfl
  | p :: r => by
    show valV (([Sum.inr p.1.1, Sum.inr p.1.2], f p.2) :: mP f r) [.inr k.1, .inr k.2] = _
    rw [look_cons]
    by_cases h : p.1 = k
    · rw [valV_pos (keyP_inj.mpr h), if_pos h]; rfl
    · rw [valV_neg (fun e => h (keyP_inj.mp e)), if_neg h, valV_mP]
theorem putK_mP {l : List ((Str × Str) × α)} {k : Str × Str} {v : α} : putK (mP f l) [.inr k.1, .inr k.2] (f v) = mP f (putR l k v) := by
  unfold putK putR
  rw [valV_any, valV_mP, look_any, Option.isSome_map]
  split
  · unfold mP
    rw [List.map_map, List.map_map]
    refine List.map_congr_left fun p _ => ?_
    by_cases h : p.1 = k
    · have e := keyP_inj.mpr h
      simp only [Function.comp, e, h, if_true]
    · have e : ¬ ([Sum.inr p.1.1, Sum.inr p.1.2] : List Key) = [.inr k.1, .inr k.2] := fun e => h (keyP_inj.mp e)
      simp only [Function.comp, e, h, if_false]
  · unfold mP
    rw [List.map_append]; rfl
theorem dropK_mP {l : List ((Str × Str) × α)} {k : Str × Str} : dropK (mP f l) [.inr k.1, .inr k.2] = mP f (l.filter fun p => decide (p.1 ≠ k)) := by
  unfold dropK mP
  rw [List.filter_map]
  congr 1
  refine List.filter_congr fun p _ => ?_
  show decide (([Sum.inr p.1.1, Sum.inr p.1.2] : List Key) ≠ [.inr k.1, .inr k.2]) = decide (p.1 ≠ k)
  by_cases h : p.1 = k
  · rw [decide_eq_false (show ¬ ([Sum.inr p.1.1, Sum.inr p.1.2] : List Key) ≠ [.inr k.1, .inr k.2] from fun z => z (keyP_inj.mpr h)), decide_eq_false (show ¬ p.1 ≠ k from fun z => z h)]
  · rw [decide_eq_true (show ([Sum.inr p.1.1, Sum.inr p.1.2] : List Key) ≠ [.inr k.1, .inr k.2] from fun z => h (keyP_inj.mp z)), decide_eq_true h]
end
section
variable {K : PySem.W.Frag} {B H : Hp} {L L' : List (Addr × HO)} {I : List Im} {Q : VK} {σ : L2.St} {d b : Addr} {x y : Str}
theorem s_ixP {l : List ((Str × Str) × V)} {v : V} (m : H d = some (.dT (mP id l))) (mb : H b = some (.tup [.str x, .str y])) (e : look l (x, y) = some v) (q : Q v H) : rIxU K (.ref d) (.ref b) H Q :=
  .inr (.inr (.inr ⟨d, v, rfl, .inr ⟨_, [.inr x, .inr y], b, .inl m, rfl, mb, by rw [valV_mP (k := (x, y)), e]; rfl⟩, q⟩))
theorem s_ixPF {l : List ((Str × Str) × V)} {v : V} {o : Obj} (m : H d = some (.frz o (.dT (mP id l)))) (mb : H b = some (.tup [.str x, .str y])) (e : look l (x, y) = some v) (q : Q v H) : rIxU K (.ref d) (.ref b) H Q :=
  .inr (.inr (.inr ⟨d, v, rfl, .inr ⟨_, [.inr x, .inr y], b, .inr ⟨o, m⟩, rfl, mb, by rw [valV_mP (k := (x, y)), e]; rfl⟩, q⟩))
theorem s_inP {l : List ((Str × Str) × V)} (m : H d = some (.dT (mP id l))) (mb : H b = some (.tup [.str x, .str y])) (q : Q (.bl (look l (x, y)).isSome) H) : rInV K (.ref b) (.ref d) H Q :=
  .inl (.inr (.inl ⟨d, _, rfl, .inr ⟨_, [.inr x, .inr y], b, .inl m, rfl, mb, rfl⟩, by rw [valV_mP (k := (x, y)), Option.isSome_map]; exact q⟩))
theorem s_g1P {l : List ((Str × Str) × V)} (m : H d = some (.dT (mP id l))) (mb : H b = some (.tup [.str x, .str y])) (q : Q ((look l (x, y)).getD .non) H) : kGetK1 d Q (.ref b) H :=
  ⟨_, .inl (.inr ⟨_, [.inr x, .inr y], b, .inl m, rfl, mb, rfl⟩), by rw [valV_mP (k := (x, y)), Option.map_id]; exact q⟩
theorem s_g2P {l : List ((Str × Str) × V)} {z : V} (m : H d = some (.dT (mP id l))) (mb : H b = some (.tup [.str x, .str y])) (q : Q ((look l (x, y)).getD z) H) : kGetZ2 d (.ref b) Q z H :=
  ⟨_, .inl (.inr ⟨_, [.inr x, .inr y], b, .inl m, rfl, mb, rfl⟩), by rw [valV_mP (k := (x, y)), Option.map_id]; exact q⟩
theorem s_putP {R : Hp → Prop} {l : List ((Str × Str) × V)} {v : V} (hC : Ctx K B H L I) (m : H d = some (.dT (mP id l))) (mb : H b = some (.tup [.str x, .str y])) (z : l.length < 100000) (u : Up d (.dT (mP id (putR l (x, y) v))) L L') (q : ∀ H1, Ctx K B H1 L' I → R H1) : rSetU (.ref d) (.ref b) v H R :=
  .inr ⟨d, _, rfl, DPut.t (k := [Sum.inr x, Sum.inr y]) m mb (by rw [mP_len]; exact Nat.lt_of_lt_of_le z (by decide)), by rw [show putK (mP id l) [.inr x, .inr y] v = mP id (putR l (x, y) v) from putK_mP (f := id) (k := (x, y))]; exact q _ (hC.put u rfl)⟩
/-- dict(l) of a list of pairs with such keys -/
theorem s_dictP2 {ts : List (Addr × Addr × (Str × Str) × V)} (hC : Ctx K B H L I) (m : H d = some (.lst (ts.map fun t => V.ref t.1))) (h : ∀ t, t ∈ ts → SqT K H t.1 [.ref t.2.1, t.2.2.2] ∧ H t.2.1 = some (.tup [.str t.2.2.1.1, .str t.2.2.1.2])) (nd : (ts.map fun t => t.2.2.1).Nodup)
    (k : ∀ p H1, Ctx K B H1 ((p, .dT (mP id (ts.map fun t => t.2.2))) :: L) I → Q (.ref p) H1) : rDictV K [.ref d] H Q := by
  refine .inr ⟨d, ts.map fun t => (t.1, t.2.1, [.inr t.2.2.1.1, .inr t.2.2.1.2], t.2.2.2), rfl, SqL.of (by rw [List.map_map]; exact m), fun t ht => ?_, ?_, fun p hp => ?_⟩
  · obtain ⟨t0, h0, rfl⟩ := List.mem_map.mp ht
    exact h t0 h0
  · rw [List.map_map]
    have : (ts.map fun t => ([.inr t.2.2.1.1, .inr t.2.2.1.2] : List Key)) = (ts.map fun t => t.2.2.1).map fun k => ([.inr k.1, .inr k.2] : List Key) := by rw [List.map_map]; rfl
    show (ts.map fun t => ([.inr t.2.2.1.1, .inr t.2.2.1.2] : List Key)).Nodup
    rw [this]
    exact List.Pairwise.map _ (fun a b hne e => hne (keyP_inj.mp e)) nd
  · rw [List.map_map]
    have e : (ts.map ((fun t : T3 => t.2.2) ∘ fun t => (t.1, t.2.1, [.inr t.2.2.1.1, .inr t.2.2.1.2], t.2.2.2))) = mP id (ts.map fun t => t.2.2) := by unfold mP; rw [List.map_map]; rfl
    rw [e]
    exact k p _ (hC.newM hp rfl)
end
end Ph
namespace Ph
open PySem PySem.Spec PyProof.Rows L2
section
variable {K : PySem.W.Frag} {H : Hp} {Q : VK}
theorem s_isiS_str {x : Str} (h : Q (.bl true) H) : rIsi K [.str x, .ty "str"] H Q := ⟨_, _, _, _, true, rfl, .ty _, .base (.str x), by rfl, h⟩
theorem s_isiS_int {x : Str} (h : Q (.bl false) H) : rIsi K [.str x, .ty "int"] H Q := ⟨_, _, _, _, false, rfl, .ty _, .base (.str x), by rfl, h⟩
theorem s_isiS_bool {x : Str} (h : Q (.bl false) H) : rIsi K [.str x, .ty "bool"] H Q := ⟨_, _, _, _, false, rfl, .ty _, .base (.str x), by rfl, h⟩
theorem s_isiS_tuple {x : Str} (h : Q (.bl false) H) : rIsi K [.str x, .ty "tuple"] H Q := ⟨_, _, _, _, false, rfl, .ty _, .base (.str x), by rfl, h⟩
theorem s_isiI_str {x : Int} (h : Q (.bl false) H) : rIsi K [.int x, .ty "str"] H Q := ⟨_, _, _, _, false, rfl, .ty _, .base (.int x), by rfl, h⟩
theorem s_isiI_int {x : Int} (h : Q (.bl true) H) : rIsi K [.int x, .ty "int"] H Q := ⟨_, _, _, _, true, rfl, .ty _, .base (.int x), by rfl, h⟩
theorem s_isiI_bool {x : Int} (h : Q (.bl false) H) : rIsi K [.int x, .ty "bool"] H Q := ⟨_, _, _, _, false, rfl, .ty _, .base (.int x), by rfl, h⟩
theorem s_isiI_tuple {x : Int} (h : Q (.bl false) H) : rIsi K [.int x, .ty "tuple"] H Q := ⟨_, _, _, _, false, rfl, .ty _, .base (.int x), by rfl, h⟩
theorem s_isiB_str {x : Bool} (h : Q (.bl false) H) : rIsi K [.bl x, .ty "str"] H Q := ⟨_, _, _, _, false, rfl, .ty _, .base (.bl x), by rfl, h⟩
theorem s_isiB_int {x : Bool} (h : Q (.bl true) H) : rIsi K [.bl x, .ty "int"] H Q := ⟨_, _, _, _, true, rfl, .ty _, .base (.bl x), by rfl, h⟩
theorem s_isiB_bool {x : Bool} (h : Q (.bl true) H) : rIsi K [.bl x, .ty "bool"] H Q := ⟨_, _, _, _, true, rfl, .ty _, .base (.bl x), by rfl, h⟩
theorem s_isiB_tuple {x : Bool} (h : Q (.bl false) H) : rIsi K [.bl x, .ty "tuple"] H Q := ⟨_, _, _, _, false, rfl, .ty _, .base (.bl x), by rfl, h⟩
theorem s_isiN_str  (h : Q (.bl false) H) : rIsi K [.non, .ty "str"] H Q := ⟨_, _, _, _, false, rfl, .ty _, .base .non, by rfl, h⟩
theorem s_isiN_int  (h : Q (.bl false) H) : rIsi K [.non, .ty "int"] H Q := ⟨_, _, _, _, false, rfl, .ty _, .base .non, by rfl, h⟩
theorem s_isiN_bool  (h : Q (.bl false) H) : rIsi K [.non, .ty "bool"] H Q := ⟨_, _, _, _, false, rfl, .ty _, .base .non, by rfl, h⟩
theorem s_isiN_tuple  (h : Q (.bl false) H) : rIsi K [.non, .ty "tuple"] H Q := ⟨_, _, _, _, false, rfl, .ty _, .base .non, by rfl, h⟩
end
end Ph
namespace Ph
open PySem PySem.Spec PyProof PyProof.Rows L2
open PySem.Calls
section
variable {prog : Program} {w : World} {A : Around} {E : Value → Shared → Prop} {s : Shared} {b : Bool}
theorem call_abs_bool {Q : Value → Shared → Prop} (h : ∀ u tk, Q (.int (if b then 1 else 0) u) { s with toks := tk }) :
    wpAny (model prog w) A (call (.builtin "abs") [.bool b]) Q E s := by
  refine call_function_entry kind_abs plain_abs entry_abs (args_abs _) ?_
  unfold Builtin.«abs»
  refine wpAny_bind (m := oneArg "abs" _) (wpAny_pure ?_)
  refine wpAny_bind (m := callSpecial? (.bool b) (Str.ofString "__abs__")) (wpAny_callSpecial?_slot (name := Str.ofString "__abs__") (PyProof.Rows.typeIs_bool' s b) F.slot_bool_abs
    (wpAny_call_entry F.slot_bool_abs (PyProof.Rows.typeIs_bool' s b) entry_int_abs ?_ (args_int_abs _)))
  have h' := h s.toks (s.toks + 1)
  cases b
  · exact wpAny_ret_mkInt (wpAny_pure ⟨_, rfl, h'⟩)
  · exact wpAny_ret_mkInt (wpAny_pure ⟨_, rfl, h'⟩)
end
def rAbsU : List V → Hp → VK → Prop := fun xs H Q => (∃ i, xs = [.int i] ∧ Q (.int (if i < 0 then -i else i)) H) ∨ ∃ b, xs = [.bl b] ∧ Q (.int (if b then 1 else 0)) H
theorem call_absB {X : Cx} : CallR X (.builtin "abs") (fun xs H Q => ∃ b, xs = [.bl b] ∧ Q (.int (if b then 1 else 0)) H) := by
  intro pins s σ H xs us Q I r h
  obtain ⟨b, rfl, q⟩ := h
  obtain ⟨u, rfl, r1⟩ := vals1 r
  have hu : u = .bool b := by first | exact r1 | (cases r1; rfl)
  subst hu
  exact call_abs_bool fun u tk => ⟨.int (if b then 1 else 0), H, I.tok _, ⟨_, rfl⟩, q⟩
theorem u_abs {X : Cx} : CallR X (.builtin "abs") rAbsU := call_abs.or call_absB
section
variable {H : Hp} {Q : VK}
theorem s_absI {i : Int} (h : Q (.int (if i < 0 then -i else i)) H) : rAbsU [.int i] H Q := .inl ⟨i, rfl, h⟩
theorem s_absB {b : Bool} (h : Q (.int (if b then 1 else 0)) H) : rAbsU [.bl b] H Q := .inr ⟨b, rfl, h⟩
end
end Ph
namespace Ph
open PySem PySem.Spec PyProof.Rows L2
section
theorem upd_self {H : Hp} {d : Addr} {o : HO} (h : H d = some o) : upd H d o = H := by
  funext b
  by_cases e : b = d
  · subst e; rw [upd_same, h]
  · rw [upd_ne e]
theorem look_del {κ α : Type} [DecidableEq κ] {k j : κ} : ∀ {l : List (κ × α)}, look (l.filter fun p => decide (p.1 ≠ k)) j = if j = k then none else look l j
  | [] => by simp [look_nil]
  | p :: r => by
    rw [List.filter_cons]
    by_cases h : p.1 = k
    · rw [if_neg (by simp [h]), look_del, look_cons]
      by_cases q : j = k
      · rw [if_pos q, if_pos q]
      · rw [if_neg q, if_neg q, if_neg (fun z => q (z.symm.trans h))]
    · rw [if_pos (by simp [h]), look_cons, look_cons, look_del]
      by_cases q : j = k
      · rw [if_pos q, if_pos q, if_neg (fun z => h (z.trans q))]
      · rw [if_neg q, if_neg q]
theorem del_none {κ α : Type} [DecidableEq κ] {k : κ} {l : List (κ × α)} (h : look l k = none) : (l.filter fun p => decide (p.1 ≠ k)) = l :=
  List.filter_eq_self.mpr fun p hp => decide_eq_true (look_none.mp h p hp)
variable {K : PySem.W.Frag} {B H : Hp} {L L' : List (Addr × HO)} {I : List Im} {Q : VK} {σ : L2.St} {d b : Addr} {x y : Str} {z : V}
theorem s_tyDK {r0 : List (Key × V)} {r : V → List V → Hp → VK → Prop} {tr : TA} (e : H d = some (.dK r0)) (h : tr σ H fun xs H2 => r (.ref d) xs H2 Q) : kBm K "dict" r σ tr Q (.ref d) H := ⟨.inr (.inr (.inl ⟨rfl, .inl ⟨_, e⟩⟩)), h⟩
theorem s_tyDT {r0 : List (List Key × V)} {r : V → List V → Hp → VK → Prop} {tr : TA} (e : H d = some (.dT r0)) (h : tr σ H fun xs H2 => r (.ref d) xs H2 Q) : kBm K "dict" r σ tr Q (.ref d) H := ⟨.inr (.inr (.inl ⟨rfl, .inr ⟨_, e⟩⟩)), h⟩
theorem s_popP {l : List ((Str × Str) × V)} (hC : Ctx K B H L I) (m : H d = some (.dT (mP id l))) (mb : H b = some (.tup [.str x, .str y])) (u : Up d (.dT (mP id (l.filter fun p => decide (p.1 ≠ (x, y))))) L L') (k : ∀ v H1, Ctx K B H1 L' I → Q v H1) : DX.rPopT (.ref d) [.ref b, z] H Q :=
  ⟨d, mP id l, [.inr x, .inr y], b, z, rfl, rfl, m, mb, fun v hv => by
    rw [show dropK (mP id l) [.inr x, .inr y] = _ from dropK_mP (f := id) (k := (x, y))]
    exact k v _ (hC.put u rfl), fun hn => by
    have hl : look l (x, y) = none := by
      have e := valV_mP (f := id) (l := l) (k := (x, y))
      rw [hn] at e
      cases h : look l (x, y) with
      | none => rfl
      | some w => rw [h] at e; cases e
    rw [del_none hl] at u
    have := hC.put u rfl
    rw [upd_self m] at this
    exact k z _ this⟩
theorem s_pop2a {α : Type} {f : α → V} {l : List (Str × α)} (hC : Ctx K B H L I) (m : H d = some (.dK (mK f l))) (u : Up d (.dK (mK f (l.filter fun p => decide (p.1 ≠ x)))) L L') (k : ∀ v H1, Ctx K B H1 L' I → Q v H1) : kPop2z d (.str x) Q z H :=
  ⟨mK f l, .inr x, m, rfl, fun v hv => by
    rw [dropK_mK]
    exact k v _ (hC.put u rfl), fun hn => by
    have hl : look l x = none := by
      rw [valV_mK] at hn
      cases h : look l x with
      | none => rfl
      | some w => rw [h] at hn; cases hn
    rw [del_none hl] at u
    have := hC.put u rfl
    rw [upd_self m] at this
    exact k z _ this⟩
end
end Ph
namespace Ph
open PySem PySem.Spec PyProof.Rows L2
def kVo : Option Key → V
  | none => .non
  | some k => kV k
theorem kVo_is {P : Program} {w : World} {k : Option Key} {u : Value} (r : RelV (kVo k) u) : (noneKind P w).is k u = true := by
  cases k with
  | none =>
    obtain rfl : u = Value.none := r
    rfl
  | some k => exact kV_is (P := P) (w := w) (k := k) r
theorem items_areO {P : Program} {w : World} : ∀ {ks : List (Option Key)} {us : List Value}, Vals (ks.map kVo) us → ItemsAre (noneKind P w) ks us
  | [], _, r => by rw [List.map_nil] at r; cases r; exact .nil
  | k :: ks, _, r => by
    rw [List.map_cons] at r
    cases r with
    | cons h t => exact .cons (kVo_is h) (items_areO t)
theorem items_some {P : Program} {w : World} {ks : List Key} {us : List Value} (h : ItemsAre (mixKind P w) ks us) : ItemsAre (noneKind P w) (ks.map some) us := by
  induction h with
  | nil => exact .nil
  | cons h1 _ ih => exact .cons h1 ih
theorem key_ofO {P : Program} {w : World} {H : Hp} {h : Heap} {a : Addr} {ks : List (Option Key)} (ok : HOk P w H h) (e : H a = some (.tup (ks.map kVo))) : (tupleKind (noneKind P w)).is h ks a := by
  obtain ⟨_, its, r, o, h1, h2, n, h3⟩ := (show ObjOk P w H h a (.tup (ks.map kVo)) from ok a _ e)
  exact ⟨o, its.toArray, n, h1, h2, h3, by simpa using items_areO r⟩
theorem map_some_inj : ∀ {a b : List Key}, List.map (some : Key → Option Key) a = List.map some b → a = b
  | [], [], _ => rfl
  | [], _ :: _, h => by cases h
  | _ :: _, [], h => by cases h
  | x :: a, y :: b, h => by
    injection h with h1 h2
    rw [Option.some.inj h1, map_some_inj h2]
theorem dictO {P : Program} {w : World} {h : Heap} {d : Addr} {xs : List (List Key × Addr × Value)} (m : h.DictOfH (tupleKind (mixKind P w)) d xs) : h.DictOfH (tupleKind (noneKind P w)) d (xs.map fun x => (List.map some x.1, x.2)) := by
  obtain ⟨o, es, ep, h1, h2, h3, h4, h5, h6⟩ := m
  refine ⟨o, es, ep, h1, h2, h3, ?_, fun x hx => ?_, ?_⟩
  · rw [h4, List.map_map]
    refine List.map_congr_left fun x _ => ?_
    show DictEntry.mk (tupleKeyHash (mixKind P w) x.1) _ _ = DictEntry.mk (tupleKeyHash (noneKind P w) (List.map some x.1)) _ _
    have e : tupleKeyHash (noneKind P w) (List.map some x.1) = tupleKeyHash (mixKind P w) x.1 := by
      unfold tupleKeyHash
      rw [List.map_map]
      rfl
    rw [e]
  · obtain ⟨y, hy, rfl⟩ := List.mem_map.mp hx
    obtain ⟨o', its, n, q1, q2, q3, q4⟩ := h5 y hy
    exact ⟨o', its, n, q1, q2, q3, items_some q4⟩
  · rw [List.map_map]
    have : (xs.map ((fun x : List (Option Key) × Addr × Value => x.1) ∘ fun x : List Key × Addr × Value => (List.map some x.1, x.2))) = (xs.map (·.1)).map (fun k => List.map some k) := by rw [List.map_map]; rfl
    rw [this]
    refine List.Pairwise.map _ (fun a b hne e => hne ?_) h6
    exact map_some_inj e
theorem atO {xs : List (List Key × Addr × Value)} {ks : List (Option Key)} (hn : none ∈ ks) : atKey (xs.map fun x => (List.map some x.1, x.2)) ks = none := by
  unfold atKey
  rw [List.find?_eq_none.mpr]
  · rfl
  · intro x hx z
    obtain ⟨y, _, rfl⟩ := List.mem_map.mp hx
    have e : List.map some y.1 = ks := of_decide_eq_true z
    rw [← e] at hn
    obtain ⟨k, _, hk⟩ := List.mem_map.mp hn
    cases hk
def DGetM (H : Hp) (a : Addr) (y : V) (r : Option V) : Prop := DGetN H a y r ∨ ∃ (kvs : List (List Key × V)) (ks : List (Option Key)) (b : Addr), Rd H a (.dT kvs) ∧ y = .ref b ∧ H b = some (.tup (ks.map kVo)) ∧ none ∈ ks ∧ r = none
def tGet2M (td ty tx : TE) : TE := fun σ H Q => td σ H fun x H1 => ∃ a, x = .ref a ∧ IsD H1 a ∧ ty σ H1 fun y H2 => tx σ H2 fun z H3 => ∃ o, DGetM H3 a y o ∧ Q (o.getD z) H3
section
variable {X : Cx} {pins : List (Addr × Obj)} {σ : L2.St} {H : Hp} {s : Shared} {a : Addr} {y d : V} {u r : Value} {o : Option V} {A : Around} {E : Value → Shared → Prop}
theorem d_get2M {Q : Value → Shared → Prop} (hu : A.units + 1 < cLine) (I : Inv X pins σ H s) (g : DGetM H a y o) (ry : RelV y u) (rd : RelV d r) (h : ∀ w' s', Inv X pins σ H s' → RelV (o.getD d) w' → Q w' s') :
    wpAny (model X.prog X.w) A (call (.builtin "dict.get") [.ref a, u, r]) Q E s := by
  rcases g with g | ⟨kvs, ks, b, e, rfl, eb, hn, rfl⟩
  · exact d_get2N hu I g ry rd h
  · cases (show u = Value.ref b from ry)
    obtain ⟨z, hd, xs, rel, dd⟩ := dt_rd I.hok e
    refine call_meetsIn PySem.F.slot_dict_get dd.typeIs PySem.F.entry_dict_get (PySem.F.args_dict_get_3 _ _ _) (meetsH_dict_get_default (tupleKind (noneKind X.prog X.w)) a b hd r) ⟨tupleKind_room_in1 hu, ks, _, key_ofO I.hok eb, dictO dd, h _ _ (I.tok _) ?_⟩
    rw [atO hn]
    exact rd
end
section
variable {X : Cx} {o e f : Expr} {apos cpos : Pos} {td ty tx : TE}
theorem pe_get2M (hu : X.A.units + 64 < cLine) (ho : PE X o td) (he : PE X e ty) (hf : PE X f tx) (m : M2 X o "get" apos e f cpos) : PE X (.Call (.Attribute o "get" apos) [e, f] [] cpos) (tGet2M td ty tx) := by
  refine ⟨fun pins s σ H Q I h => ?_⟩
  refine wpAny_Call_method m.base m.few m.line PySem.F.plainAttrs_dict PySem.F.slot_dict_get PySem.F.type_dict_get (thn (ho.run pins s σ H _ I h) fun u s1 ⟨x, H1, I1, rx, a, ex, d, q1⟩ => ?_)
  subst ex
  obtain rfl : u = Value.ref a := rx
  obtain ⟨t1, t2, _⟩ := isD_at I1 d
  refine ⟨t1, t2, ?_⟩
  rw [m.trees]
  refine Calls.callWith_builtin rfl (Calls.evalArgs_plain (Calls.spliced_cons (thn (he.run pins s1 σ H1 _ I1 q1) fun iv s2 ⟨y, H2, I2, ry, q2⟩ =>
    Calls.spliced_cons (thn (hf.run pins s2 σ H2 _ I2 q2) fun fv s3 ⟨z, H3, I3, rz, ov, g, q3⟩ => Calls.spliced_nil ?_))))
  exact d_get2M (by omega) I3 g ry rz fun w' s4 I4 rw' => ⟨_, H3, I4, rw', q3⟩
end
section
variable {H : Hp} {Q : VK} {σ : L2.St} {d b : Addr}
def kGet2M (ty tx : TE) (σ : L2.St) (Q : VK) : VK := fun x H1 => ∃ a, x = .ref a ∧ IsD H1 a ∧ ty σ H1 fun y H2 => tx σ H2 fun z H3 => ∃ o, DGetM H3 a y o ∧ Q (o.getD z) H3
def kGetZ2M (a : Addr) (y : V) (Q : VK) : VK := fun z H3 => ∃ o, DGetM H3 a y o ∧ Q (o.getD z) H3
def kGetY2M (a : Addr) (tx : TE) (σ : L2.St) (Q : VK) : VK := fun y H2 => tx σ H2 (kGetZ2M a y Q)
theorem s_g2M {td ty tx : TE} (h : td σ H (kGet2M ty tx σ Q)) : tGet2M td ty tx σ H Q := h
theorem s_g2MK {ty tx : TE} {l : List (Key × V)} (m : H d = some (.dK l)) (h : ty σ H (kGetY2M d tx σ Q)) : kGet2M ty tx σ Q (.ref d) H := ⟨d, rfl, .inl ⟨l, .inl m⟩, h⟩
theorem s_g2MT {ty tx : TE} {l : List (List Key × V)} (m : H d = some (.dT l)) (h : ty σ H (kGetY2M d tx σ Q)) : kGet2M ty tx σ Q (.ref d) H := ⟨d, rfl, .inr ⟨l, .inl m⟩, h⟩
theorem s_g2My {tx : TE} {y : V} (h : tx σ H (kGetZ2M d y Q)) : kGetY2M d tx σ Q y H := h
theorem s_g2Mo {y z : V} (h : kGetZ2 d y Q z H) : kGetZ2M d y Q z H := by
  obtain ⟨o, g, q⟩ := h
  exact ⟨o, .inl g, q⟩
theorem s_g2Mn {x : Str} {z : V} {l : List (List Key × V)} (m : H d = some (.dT l)) (mb : H b = some (.tup [.non, .str x])) (q : Q z H) : kGetZ2M d (.ref b) Q z H :=
  ⟨none, .inr ⟨l, [none, some (.inr x)], b, .inl m, rfl, mb, List.mem_cons_self, rfl⟩, q⟩
theorem s_g2iv {l : List (Str × V)} {x : Str} {z : V} (m : H d = some (.dK (mK id l))) (q : Q ((look l x).getD z) H) : kGetZ2 d (.str x) Q z H := s_g2Kv m (by rw [Option.map_id]; exact q)
end
end Ph
namespace Ph
open PySem PySem.Spec PyProof.Rows L2
abbrev PrF (K : PySem.W.Frag) (H : Hp) (p : Addr) (kv : Key × V) : Prop := SqT K H p [kV kv.1, kv.2]
section
variable {K : PySem.W.Frag} {B H H' : Hp} {L L' : List (Addr × HO)} {I : List Im} {Q : VK} {σ : L2.St} {d : Addr}
theorem prf_mono {ps : List Addr} {l : List (Key × V)} (s : Stb H H') (h : Paired (PrF K H) ps l) : Paired (PrF K H') ps l := Paired.mapP h fun p kv z => s.sqt z
theorem prf_unl {d : Addr} {od : Obj} {u : HO} {ps : List Addr} {l : List (Key × V)} (f : H d = some (.frz od u)) (h : Paired (PrF K H) ps l) : Paired (PrF K (upd H d u)) ps l := Paired.mapP h fun p kv z => sqt_unl f z
abbrev imP (K : PySem.W.Frag) (ps : List Addr) (l : List (Key × V)) : Im := .pr (fun H => Paired (PrF K H) ps l) (fun _ _ s h => prf_mono s h)
theorem mK_app {l m : List (Str × V)} : mK id (l ++ m) = mK id l ++ mK id m := List.map_append
theorem mK_at {l : List (Str × V)} {i : Nat} {k : Key} {v : V} (h : (mK id l)[i]? = some (k, v)) : ∃ x, l[i]? = some (x, v) ∧ k = .inr x := by
  unfold mK at h
  rw [List.getElem?_map] at h
  cases e : l[i]? with
  | none => rw [e] at h; cases h
  | some q => rw [e] at h; cases h; exact ⟨q.1, rfl, rfl⟩
theorem pairsK {td : TE} {g : TG} {tt : TT} {te : TE} {vs : List Nat} {l : List (Str × V)} (p : Str → Bool) (htd : ∀ H Q, Q (.ref d) H → td σ H Q) (hC : Ctx K B H L I) (m : Pick (d, .dK (mK id l)) L L') (hz : l.length ≤ 90000)
    (turn : ∀ x v H1 D acc od (Zy : VK) (Zn : Hp → Prop), (x, v) ∈ l → Ctx K H1 H1 ((D, .lst acc) :: L') (imFz d od (.dK (mK id l)) :: I) →
      (∀ H2 tp J', p x = true → Ctx K H1 H2 ((D, .lst acc) :: L') J' → (∀ j, j ∈ imFz d od (.dK (mK id l)) :: I → j ∈ J') → SqT K H2 tp [.str x, v] → Zy (.ref tp) H2) →
      (∀ H2 J', p x = false → Ctx K H1 H2 ((D, .lst acc) :: L') J' → (∀ j, j ∈ imFz d od (.dK (mK id l)) :: I → j ∈ J') → Zn H2) →
      g (.str x) (wipe σ vs) H1 fun σ2 H2 => wipe σ2 vs = wipe σ vs ∧ tt σ2 H2 fun b H3 => if b = true then te σ2 H3 Zy else Zn H3)
    (k : ∀ H' D ps, Ctx K B H' ((d, .dK (mK id l)) :: (D, .lst (ps.map V.ref)) :: L') (imP K ps (mK id (l.filter fun q => p q.1)) :: I) → Q (.ref D) H') :
    tLockE (tLc (iKeys td) g tt te vs) σ H Q := by
  have hC0 := hC
  refine s_lockE hC m trivial (fun od H1 s1 hC => ?_)
  refine s_lc (s_keys (htd _ _ (s_keysK (hC.frz List.mem_cons_self) ?_)))
  refine lc_w walk_keys hC (fun D i H2 => ∃ ps, Ctx K H1 H2 ((D, .lst (ps.map V.ref)) :: L') (imP K ps (mK id ((l.take i).filter fun q => p q.1)) :: imFz d od (.dK (mK id l)) :: I)) (fun D H2 hC => ⟨[], hC.add (i := imP K [] []) .nil⟩) (fun D i H2 _ ⟨ps, hC⟩ => hC.frz (List.mem_cons_of_mem _ List.mem_cons_self)) ?_ ?_
  · rintro i x D H2 H3 hi ⟨ps, hC⟩ ⟨rfl, k, v, hk, hx⟩
    obtain ⟨x, he, rfl⟩ := mK_at hk
    subst hx
    have hP := hC.pr (P := fun H => Paired (PrF K H) ps (mK id ((l.take i).filter fun q => p q.1))) List.mem_cons_self
    have hl : ps.length ≤ 90000 := by
      have q := hP.length
      unfold mK at q
      rw [List.length_map] at q
      have q2 := List.length_filter_le (fun q : Str × V => p q.1) (l.take i)
      rw [List.length_take] at q2
      omega
    have hC1 := hC.rebase
    refine turn x v _ D (ps.map V.ref) od _ _ (List.mem_of_getElem? he) ⟨hC1.lay, fun j hj => hC1.im j (List.mem_cons_of_mem _ hj), hC1.sb⟩ (fun H4 tp J' hb hC2 hs ht => ?_) (fun H4 J' hb hC2 hs => ⟨ps, ?_⟩)
    · have hC3 : Ctx K H1 H4 ((D, .lst (ps.map V.ref)) :: L') (imP K (ps ++ [tp]) (mK id (((l.take i).filter fun q => p q.1) ++ [(x, v)])) :: imFz d od (.dK (mK id l)) :: I) := ⟨hC2.lay, fun j hj => by
        rcases List.mem_cons.mp hj with rfl | hj
        · show Paired (PrF K H4) (ps ++ [tp]) (mK id (((l.take i).filter fun q => p q.1) ++ [(x, v)]))
          rw [mK_app]
          exact Paired.snoc (prf_mono hC2.sb hP) ht
        · exact hC2.im j (hs j hj), hC.sb.trans hC2.sb⟩
      refine s_app (acc := ps.map V.ref) hC3 (hC3.get List.mem_cons_self) (by rw [List.length_map]; omega) .here (fun H5 hC5 => ⟨ps ++ [tp], ?_⟩)
      rw [take_snoc he, List.filter_append, show ([(x, v)] : List (Str × V)).filter (fun q => p q.1) = [(x, v)] from by simp [hb], List.map_append]
      exact hC5
    · rw [take_snoc he, List.filter_append, show ([(x, v)] : List (Str × V)).filter (fun q => p q.1) = [] from by simp [hb], List.append_nil]
      exact ⟨hC2.lay, fun j hj => by
        rcases List.mem_cons.mp hj with rfl | hj
        · exact prf_mono hC2.sb hP
        · exact hC2.im j (hs j hj), hC.sb.trans hC2.sb⟩
  · rintro D H2 ⟨ps, hC⟩
    have f := hC.frz (d := d) (od := od) (u := .dK (mK id l)) (List.mem_cons_of_mem _ List.mem_cons_self)
    have hP := hC.pr (P := fun H => Paired (PrF K H) ps (mK id ((l.take (mK id l).length).filter fun q => p q.1))) List.mem_cons_self
    rw [show l.take (mK id l).length = l from by unfold mK; rw [List.length_map, List.take_length]] at hP
    refine s_unlE hC0 m s1 hC f (fun hC => ?_)
    exact k _ D ps (hC.add (i := imP K ps _) (prf_unl f hP))
/-- what a pair over a tuple key is -/
abbrev T4 := Addr × Addr × (Str × Str) × V
def TsOk (K : PySem.W.Frag) (H : Hp) (ts : List T4) : Prop := ∀ t, t ∈ ts → SqT K H t.1 [.ref t.2.1, t.2.2.2] ∧ H t.2.1 = some (.tup [.str t.2.2.1.1, .str t.2.2.1.2])
theorem tsok_mono {ts : List T4} (s : Stb H H') (h : TsOk K H ts) : TsOk K H' ts := fun t ht => ⟨s.sqt (h t ht).1, s _ _ (h t ht).2 rfl⟩
theorem tsok_unl {od : Obj} {u : HO} {ts : List T4} (f : H d = some (.frz od u)) (h : TsOk K H ts) : TsOk K (upd H d u) ts := fun t ht => ⟨sqt_unl f (h t ht).1, by
  have q := (h t ht).2
  rw [upd_ne (fun z => by rw [z, f] at q; cases q)]
  exact q⟩
abbrev imT (K : PySem.W.Frag) (ts : List T4) : Im := .pr (fun H => TsOk K H ts) (fun _ _ s h => tsok_mono s h)
theorem mP_at {l : List ((Str × Str) × V)} {i : Nat} {k : List Key} {v : V} (h : (mP id l)[i]? = some (k, v)) : ∃ x, l[i]? = some (x, v) ∧ k = [.inr x.1, .inr x.2] := by
  unfold mP at h
  rw [List.getElem?_map] at h
  cases e : l[i]? with
  | none => rw [e] at h; cases h
  | some q => rw [e] at h; cases h; exact ⟨q.1, rfl, rfl⟩
theorem pairsT {td : TE} {g : TG} {tt : TT} {te : TE} {vs : List Nat} {l : List ((Str × Str) × V)} (p : Str × Str → Bool) (htd : ∀ H Q, Q (.ref d) H → td σ H Q) (hC : Ctx K B H L I) (m : Pick (d, .dT (mP id l)) L L') (hz : l.length ≤ 90000)
    (turn : ∀ x v b H1 D acc od (Zy : VK) (Zn : Hp → Prop), (x, v) ∈ l → H1 b = some (.tup [.str x.1, .str x.2]) → Ctx K H1 H1 ((D, .lst acc) :: L') (imFz d od (.dT (mP id l)) :: I) →
      (∀ H2 tp J', p x = true → Ctx K H1 H2 ((D, .lst acc) :: L') J' → (∀ j, j ∈ imFz d od (.dT (mP id l)) :: I → j ∈ J') → SqT K H2 tp [.ref b, v] → Zy (.ref tp) H2) →
      (∀ H2 J', p x = false → Ctx K H1 H2 ((D, .lst acc) :: L') J' → (∀ j, j ∈ imFz d od (.dT (mP id l)) :: I → j ∈ J') → Zn H2) →
      g (.ref b) (wipe σ vs) H1 fun σ2 H2 => wipe σ2 vs = wipe σ vs ∧ tt σ2 H2 fun b H3 => if b = true then te σ2 H3 Zy else Zn H3)
    (k : ∀ H' D ts, ts.map (fun t => t.2.2) = (l.filter fun q => p q.1) → Ctx K B H' ((d, .dT (mP id l)) :: (D, .lst (ts.map fun t => V.ref t.1)) :: L') (imT K ts :: I) → Q (.ref D) H') :
    tLockE (tLc (iKeys td) g tt te vs) σ H Q := by
  have hC0 := hC
  refine s_lockE hC m trivial (fun od H1 s1 hC => ?_)
  refine s_lc (s_keys (htd _ _ (s_keysT (hC.frz List.mem_cons_self) ?_)))
  refine lc_w walk_keysT hC (fun D i H2 => ∃ ts : List T4, ts.map (fun t => t.2.2) = ((l.take i).filter fun q => p q.1) ∧ Ctx K H1 H2 ((D, .lst (ts.map fun t => V.ref t.1)) :: L') (imT K ts :: imFz d od (.dT (mP id l)) :: I)) (fun D H2 hC => ⟨[], rfl, hC.add (i := imT K []) (fun _ h => nomatch h)⟩) (fun D i H2 _ ⟨ts, _, hC⟩ => hC.frz (List.mem_cons_of_mem _ List.mem_cons_self)) ?_ ?_
  · rintro i x D H2 H3 hi ⟨ts, ets, hC⟩ ⟨rfl, k, v, b, hk, rfl, hb0⟩
    obtain ⟨x, he, rfl⟩ := mP_at hk
    have hP := hC.pr (P := fun H => TsOk K H ts) List.mem_cons_self
    have hl : ts.length ≤ 90000 := by
      have q := congrArg List.length ets
      rw [List.length_map] at q
      have q2 := List.length_filter_le (fun q : (Str × Str) × V => p q.1) (l.take i)
      rw [List.length_take] at q2
      omega
    have hC1 := hC.rebase
    refine turn x v b _ D _ od _ _ (List.mem_of_getElem? he) hb0 ⟨hC1.lay, fun j hj => hC1.im j (List.mem_cons_of_mem _ hj), hC1.sb⟩ (fun H4 tp J' hb hC2 hs ht => ?_) (fun H4 J' hb hC2 hs => ⟨ts, ?_, ?_⟩)
    · have hC3 : Ctx K H1 H4 ((D, .lst (ts.map fun t => V.ref t.1)) :: L') (imT K (ts ++ [(tp, b, x, v)]) :: imFz d od (.dT (mP id l)) :: I) := ⟨hC2.lay, fun j hj => by
        rcases List.mem_cons.mp hj with rfl | hj
        · show TsOk K H4 (ts ++ [(tp, b, x, v)])
          intro t ht'
          rcases List.mem_append.mp ht' with h | h
          · exact tsok_mono hC2.sb hP t h
          · rw [List.mem_singleton.mp h]
            exact ⟨ht, hC2.sb _ _ hb0 rfl⟩
        · exact hC2.im j (hs j hj), hC.sb.trans hC2.sb⟩
      refine s_app (acc := ts.map fun t => V.ref t.1) hC3 (hC3.get List.mem_cons_self) (by rw [List.length_map]; omega) .here (fun H5 hC5 => ⟨ts ++ [(tp, b, x, v)], ?_, ?_⟩)
      · rw [take_snoc he, List.filter_append, show ([(x, v)] : List ((Str × Str) × V)).filter (fun q => p q.1) = [(x, v)] from by simp [hb], List.map_append, ets]; rfl
      · rw [List.map_append]
        exact hC5
    · rw [take_snoc he, List.filter_append, show ([(x, v)] : List ((Str × Str) × V)).filter (fun q => p q.1) = [] from by simp [hb], List.append_nil]
      exact ets
    · exact ⟨hC2.lay, fun j hj => by
        rcases List.mem_cons.mp hj with rfl | hj
        · exact tsok_mono hC2.sb hP
        · exact hC2.im j (hs j hj), hC.sb.trans hC2.sb⟩
  · rintro D H2 ⟨ts, ets, hC⟩
    have f := hC.frz (d := d) (od := od) (u := .dT (mP id l)) (List.mem_cons_of_mem _ List.mem_cons_self)
    have hP := hC.pr (P := fun H => TsOk K H ts) List.mem_cons_self
    rw [show l.take (mP id l).length = l from by unfold mP; rw [List.length_map, List.take_length]] at ets
    refine s_unlE hC0 m s1 hC f (fun hC => ?_)
    exact k _ D ts ets (hC.add (i := imT K ts) (tsok_unl f hP))
end
end Ph
namespace Ph
open PySem PySem.Spec PyProof PyProof.Rows L2
open PySem.W (KeqHitsP samePairsP)
section
variable {prog : Program} {w : World} {K : Type} [DecidableEq K] {knd : KeyKind prog w K} {A : Around} {s : Shared}
theorem rcNe_dicts {a b : Addr} {ka kb : List (K × Value)} {r : Bool} (ha : (a == sysModules) = false) (hb : (b == sysModules) = false)
    (da : s.heap.DictOf knd a ka) (db : s.heap.DictOf knd b kb) (hu : A.units < cLine) (hits : ka.length = kb.length → KeqHitsP prog w A.in1 s kb ka r) (E Q : Value → Shared → Prop) (h : Q (.bool (!(ka.length == kb.length && r))) s) : wpAny (model prog w) A (richCompare .NotEq (.ref a) (.ref b)) Q E s := by
  refine wpAny_richCompare_same_room (op := .NotEq) da.typeIs db.typeIs PySem.F.slot_dict_ne (wpAny_call_entry PySem.F.slot_dict_ne da.typeIs PySem.F.entry_dict_ne ?_ (PySem.F.args_dict_ne_2 _ _)) hu
  show wpAny _ _ (Builtin.Dict.dictSlotArgs "__ne__" ⟨[.ref a, .ref b], []⟩ >>= _) _ _ s
  refine wpAny_bind ?_
  unfold Builtin.Dict.dictSlotArgs
  refine wpAny_bind (PySem.wpAny_notOrdered_dict da.typeIs ?_)
  show wpAny _ _ (pure (Value.ref a, Value.ref b)) _ _ s
  refine wpAny_pure ?_
  refine wpAny_bind (wpAny_isInstance (T := "dict") db.typeIs PySem.F.sub_dict_dict ?_)
  simp only [Bool.not_true, Bool.false_eq_true, if_false]
  refine wpAny_bind (wpAny_pure (wpAny_bind (wpAny_pure ?_)))
  refine wpAny_bind (samePairsP ha hb da db hits ?_)
  refine wpAny_pure ⟨_, rfl, ?_, ?_⟩
  · exact fun x => nomatch x
  · simpa using h
end
def rNeDk : R2 := fun x y H Q => ∃ a b ks ls, x = .ref a ∧ y = .ref b ∧ H a = some (.dK ks) ∧ H b = some (.dK ls) ∧ ks.length = ls.length ∧ (∀ p, p ∈ ks → valV ls p.1 = some p.2 ∧ flatB p.2 = true) ∧ Q (.bl false) H
def rNeW (K : PySem.W.Frag) : R2 := fun x y H Q => rNeY K x y H Q ∨ rNeDk x y H Q
section
variable {X : Cx}
theorem op_neDk (hu : X.A.units + 64 < cLine) : OpR X (compareOp .NotEq) rNeDk := by
  intro pins s σ H x y v u Q I rx ry h
  obtain ⟨a, b, ks, ls, rfl, rfl, ha, hb, hl, hp, q⟩ := h
  obtain rfl : v = Value.ref a := rx
  obtain rfl : u = Value.ref b := ry
  obtain ⟨_, ya, va, ra, da⟩ := (show ObjOk X.prog X.w H s.heap a (.dK ks) from I.hok a _ ha)
  obtain ⟨_, yb, vb, rb, db⟩ := (show ObjOk X.prog X.w H s.heap b (.dK ls) from I.hok b _ hb)
  refine rcNe_dicts (knd := mixKind X.prog X.w) (r := true) ya yb da db (by omega) (fun _ => hits_run (F := fun x y => x = y ∧ flatB x = true) (fun x y v u z r1 r2 => ?_) rb ra (fun p hm => ⟨p.2, (hp p hm).1, rfl, (hp p hm).2⟩)) _ _ ?_
  · obtain ⟨rfl, f⟩ := z
    exact (eqAt_same r1 r2 f).eqP
  · have e : va.length = vb.length := by rw [← ra.length, ← rb.length]; exact hl
    rw [show (!(va.length == vb.length && true)) = false from by rw [e]; simp]
    exact ⟨.bl false, H, I, rfl, q⟩
theorem u_neW (hu : X.A.units + 64 < cLine) : OpR X (compareOp .NotEq) (rNeW X.K) := (u_neY hu).or (op_neDk hu)
end
section
variable {K : PySem.W.Frag} {H : Hp} {Q : VK} {a b : Addr} {x y : V}
theorem s_neWo (h : rNeU K x y H Q) : rNeW K x y H Q := .inl (.inl h)
/-- rows of texts -/
theorem s_neDk {l m : List (Str × V)} (ha : H a = some (.dK (mK id l))) (hb : H b = some (.dK (mK id m))) (hl : l.length = m.length) (hp : ∀ p, p ∈ l → look m p.1 = some p.2 ∧ flatB p.2 = true) (q : Q (.bl false) H) : rNeW K (.ref a) (.ref b) H Q :=
  .inr ⟨a, b, _, _, rfl, rfl, ha, hb, by unfold mK; rw [List.length_map, List.length_map]; exact hl, fun p h => by
    unfold mK at h
    obtain ⟨z, hz, rfl⟩ := List.mem_map.mp h
    exact ⟨by rw [valV_mK, (hp z hz).1]; rfl, (hp z hz).2⟩, q⟩
end
end Ph
namespace Ph
open PySem PySem.Spec PyProof.Rows L2
variable {K : PySem.W.Frag} {X : Cx} {H : Hp} {Q : VK}
def rMulW : R2 := fun x y H Q => rMulU x y H Q ∨ ∃ a : Str, x = .str a ∧ ((y = .int 0 ∧ Q (.str "") H) ∨ (y = .int 1 ∧ Q (.str a) H))
theorem u_mulW : OpR X (binaryOp .Mult) rMulW := by
  intro pins s σ H x y v u Q I rx ry h
  rcases h with h | ⟨i, rfl, ⟨rfl, q⟩ | ⟨rfl, q⟩⟩
  · exact u_mul pins s σ H x y v u Q I rx ry h
  · obtain ⟨t, rfl⟩ := rx
    obtain ⟨t2, rfl⟩ := ry
    exact PySem.P.mul_str_none (by decide) (by decide) ⟨.str _, H, I.tok _, ⟨_, rfl⟩, q⟩
  · obtain ⟨t, rfl⟩ := rx
    obtain ⟨t2, rfl⟩ := ry
    refine PySem.P.mul_str (by decide) (fun _ h => absurd h (by simp)) (fun _ h => absurd h (by simp)) ?_
    rw [if_neg (by decide), if_pos (by rfl)]
    exact ⟨.str _, H, I, ⟨_, rfl⟩, q⟩
theorem s_mulW {x : Str} {k : Int} (h0 : 0 ≤ k) (h1 : k ≤ 1000) (h3 : 1 ≤ x.length) (h4 : x.length ≤ 1000) (h : ∀ y : Str, y.cps.toList = (List.replicate k.toNat x.cps.toList).flatten → Q (.str y) H) : rMulW (.str x) (.int k) H Q := by
  by_cases c0 : k = 0
  · subst c0
    exact .inr ⟨x, rfl, .inl ⟨rfl, h _ rfl⟩⟩
  · by_cases c1 : k = 1
    · subst c1
      exact .inr ⟨x, rfl, .inr ⟨rfl, h _ (by simp)⟩⟩
    · exact .inl (s_mulS (by omega) h1 h3 h4 (h _ (repS_list x k.toNat)))
end Ph
namespace Ph
open PySem PySem.Spec PyProof.Rows L2
section
variable {K : PySem.W.Frag} {H B : Hp} {Q : VK} {d : Addr} {L L' : List (Addr × HO)} {I : List Im}
theorem s_ixSc {z : Str} {i : Int} {c : Nat} (hz : z.length ≤ 100000) (e : atI z.cps.toList i = some c) (q : Q (.str ⟨#[c]⟩) H) : rIxU K (.str z) (.int i) H Q := .inr (.inr (.inl ⟨z, i, c, rfl, rfl, by rw [sizeLine_eq]; omega, e, q⟩))
theorem s_lenKm {α : Type} {f : α → V} {l : List (Str × α)} (m : H d = some (.dK (mK f l))) (q : Q (.int l.length) H) : rLenU K [.ref d] H Q := s_lenD m (by unfold mK; rw [List.length_map]; exact q)
theorem s_lenKi {l : List (Str × V)} (m : H d = some (.dK (mK id l))) (q : Q (.int l.length) H) : rLenU K [.ref d] H Q := s_lenKm m q
end
end Ph
namespace Ph
open PySem PySem.Spec PyProof.Rows L2
abbrev rPart1 : V → List V → Hp → VK → Prop := fun x xs H Q => ∃ a b, x = .str a ∧ xs = [.str b] ∧ (b.length == 0) = false ∧ a.length ≤ sizeLine ∧
      ∀ p, H p = none → Q (.ref p) (upd H p (.tup [.str (Txt.partition a b).1, .str (Txt.partition a b).2.1, .str (Txt.partition a b).2.2]))
abbrev rStW : V → List V → Hp → VK → Prop := fun x xs H Q => ∃ a b, x = .str a ∧ xs = [.str b] ∧ Q (.bl (Txt.startswith a b)) H
abbrev rEnW : V → List V → Hp → VK → Prop := fun x xs H Q => ∃ a b, x = .str a ∧ xs = [.str b] ∧ Q (.bl (Txt.endswith a b)) H
abbrev rJoin1 (K : PySem.W.Frag) : V → List V → Hp → VK → Prop := fun x xs H Q => ∃ a p, ∃ ys : List Str, x = .str a ∧ xs = [.ref p] ∧ (SqL K H p (ys.map V.str) ∨ SqT K H p (ys.map V.str)) ∧
      (ys.map (·.length)).sum + ys.length * a.length ≤ 16777216 ∧ Q (.str (Txt.join a ys)) H
abbrev tJoined (ts : List TE) : TE := fun σ H Q => tJs ts Str.empty σ H fun out H1 => Q (.str out) H1
section
variable {K : PySem.W.Frag} {B H : Hp} {L L' : List (Addr × HO)} {I : List Im} {Q : VK} {σ : L2.St}
theorem s_part {a b : Str} (hC : Ctx K B H L I) (hb : (b.length == 0) = false) (hz : a.length ≤ 100000) (k : ∀ p H1, Ctx K B H1 L (.tup p [.str (Txt.partition a b).1, .str (Txt.partition a b).2.1, .str (Txt.partition a b).2.2] :: I) → Q (.ref p) H1) : rPart1 (.str a) [.str b] H Q :=
  ⟨a, b, rfl, rfl, hb, by rw [sizeLine_eq]; omega, fun p hp => k p _ (hC.newT hp)⟩
theorem s_stW {a b : Str} (q : Q (.bl (Txt.startswith a b)) H) : rStW (.str a) [.str b] H Q := ⟨a, b, rfl, rfl, q⟩
theorem s_enW {a b : Str} (q : Q (.bl (Txt.endswith a b)) H) : rEnW (.str a) [.str b] H Q := ⟨a, b, rfl, rfl, q⟩
theorem s_join {a : Str} {p : Addr} {ys : List Str} (m : H p = some (.lst (ys.map V.str))) (hz : (ys.map (·.length)).sum + ys.length * a.length ≤ 16777216) (q : Q (.str (Txt.join a ys)) H) : rJoin1 K (.str a) [.ref p] H Q :=
  ⟨a, p, ys, rfl, rfl, .inl (SqL.of m), hz, q⟩
end
end Ph
namespace Ph
open PySem PySem.Spec PyProof PyProof.Rows L2
def relabelS (scope sc : Scope) : Scope :=
  { scope with names := scope.names.map fun (n, k) => if (k == NameKind.free && sc.kind == .function && sc.names.lookup n == some .cell) then (n, NameKind.cell) else (n, k) }
theorem blkOk_in {X : Cx} {s : Shared} {H : Hp} {sc1 scope dsc : Scope} {cl : List (Str × Addr)} {C : Addr} {fp : List Addr} {N : List Str} {own : List (Str × Nat)} (hN : X.N = N) (hs : X.env.scope = dsc) (h : blkC N (relabelS sc1 dsc) scope own = true) :
    BlkOk (X.blk s H sc1 (compEnvC sc1 cl C X.env) fp).N (X.blk s H sc1 (compEnvC sc1 cl C X.env) fp).env.scope scope own := by
  subst hN
  subst hs
  exact blkOk_by (sc := relabelS sc1 X.env.scope) h
end Ph
namespace Ph
open PySem PySem.Spec PyProof.Rows L2
theorem args_maxD (a d : Value) : argsOk "max" ⟨[a], [(Str.ofString "default", d)]⟩ := by unfold argsOk; kernel_rfl
section
variable {prog : Program} {w : World} {A : Around} {E : Value → Shared → Prop} {s : Shared}
theorem call_tree_kw {id : String} {b : Builtin} {args : List Value} {kw : List (Str × Value)} {Q : Value → Shared → Prop} (hk : builtinKind id = none) (hp : plainId id = true)
    (hb : entryFor table id = some b) (ha : argsOk id ⟨args, kw⟩)
    (hc : wpAny (model prog w) A.in1 (b ⟨args, kw⟩) (fun fin s' => match fin with
      | .done f => (match (Except.ok f : Result) with | .ok (.ret v) => Q v s' | .ok _ => False | .error e => E e s')
      | .again c' => c'.quiet = true ∧ codeAny (model prog w) A c' (fun r s' => match r with | .ok (.ret v) => Q v s' | .ok _ => False | .error e => E e s') s') E s) :
    wpAny (model prog w) A (call (.builtin id) args kw) Q E s := by
  refine wpAny_call (codeAny_call_builtin hp hb ?_)
  simp only [checkBuiltinCall, hk]
  cases hsig : Manifest.signature? id with
  | none => exact wpAny_pure hc
  | some sig =>
    simp only [argsOk, hsig] at ha
    have h2 : Bind.checkArgs id sig ⟨args, kw⟩ = pure () := ha
    show wpAny _ A.in1 (Bind.checkArgs id sig ⟨args, kw⟩) _ _ s
    rw [h2]; exact wpAny_pure hc
end
section
variable {pr : Program} {wd : World} {Z : Around} {R : Result → Shared → Prop} {it : Addr} {fp wr : List Addr} {n : Nat} {P : Nat → Value → Prop} {St : Nat → Heap → Prop} {h0 : Heap} {bt : Nat → Nat → Bool} {S : Addr} {d : Value}
theorem max_loopK (W : Walks pr wd Z.in1 it fp wr n P St) (cmp : CmpG pr wd Z.in1 .Gt h0 P bt) (hf : S ∉ fp) (hw0 : ∀ b ∈ wr, h0.get? b = none) (hS0 : h0.get? S = none) :
    ∀ (k j : Nat) (z : Shared) (best : Value) (c : Nat), n - (j + 1) = k → j + 1 ≤ n → St (j + 1) z.heap → P (argBest bt j) best → (∀ b o, h0.get? b = some o → z.heap.get? b = some o) →
    z.heap.get? S = some { cls := .type "list", dict := none, data := .seq #[best, best] c, slots := #[] } →
    (∀ v h' tk, P (argBest bt (n - 1)) v → (∀ b o, h0.get? b = some o → h'.get? b = some o) → R (.ok (.ret v)) { z with heap := h', toks := tk }) →
    codeAny (model pr wd) Z (.builtin "max.loop" ⟨[.ref it, .none, .ref S], [(Str.ofString "default", d)]⟩) R z := by
  have hSw : S ∉ wr := fun q => hf (W.sub _ q)
  have nam : (toString "max" ++ toString ".loop" : String) = "max.loop" := by decide
  have kp : ∀ {g g' : Heap}, (∀ b o, h0.get? b = some o → g.get? b = some o) → (∀ b o, b ∉ wr → g.get? b = some o → g'.get? b = some o) → ∀ b o, h0.get? b = some o → g'.get? b = some o := fun k1 k2 b o e =>
    k2 b o (fun q => by rw [hw0 b q] at e; cases e) (k1 b o e)
  have kS : ∀ {g : Heap} (f : Obj → Obj), (∀ b o, h0.get? b = some o → g.get? b = some o) → ∀ b o, h0.get? b = some o → (g.update S f).get? b = some o := fun f k1 b o e =>
    (Heap.get?_update_other _ _ (fun q : S = b => by rw [← q, hS0] at e; cases e)).trans (k1 b o e)
  intro k
  induction k with
  | zero =>
    intro j z best c ek ej st pb old eS fin
    have last : j + 1 = n := by omega
    refine codeAny_builtin F.entry_max_loop ?_
    rw [Around.under_plainId F.plain_max_loop _]
    show wpAny _ Z.in1 (seqItems? (.ref S) >>= _) _ _ z
    refine wpAny_bind (wpAny_seqItems eS rfl ?_)
    show wpAny _ Z.in1 (tryCatch (pyNext (.ref it)) _ >>= _) _ _ z
    refine wpAny_bind (wpAny_tryCatch (W.done z _ _ (last ▸ st) fun g tk gk => ?_))
    have eS2 := gk S _ hSw eS
    show wpAny _ Z.in1 (updateSeq S (fun _ => #[]) >>= _) _ _ _
    refine wpAny_bind (wpAny_updateSeq eS2 rfl (wpAny_bind (wpAny_letGo (wpAny_pure ?_))))
    exact fin best _ tk (by rw [← last]; exact pb) (kS _ (kp old gk))
  | succ k ih =>
    intro j z best c ek ej st pb old eS fin
    have more : j + 1 < n := by omega
    refine codeAny_builtin F.entry_max_loop ?_
    rw [Around.under_plainId F.plain_max_loop _]
    show wpAny _ Z.in1 (seqItems? (.ref S) >>= _) _ _ z
    refine wpAny_bind (wpAny_seqItems eS rfl ?_)
    show wpAny _ Z.in1 (tryCatch (pyNext (.ref it)) _ >>= _) _ _ z
    refine wpAny_bind (wpAny_tryCatch (W.item (j + 1) z _ _ more st fun v g tk pv st2 gk => ?_))
    have eS2 := gk S _ hSw eS
    have old2 := kp old gk
    show wpAny _ Z.in1 (tryCatch (holding [v, v] (richCompare .Gt v best >>= _)) _ >>= _) _ _ _
    refine wpAny_bind (wpAny_tryCatch (wpAny_holding (wpAny_bind (cmp (j + 1) (argBest bt j) v best _ _ _ old2 pv pb ?_))))
    refine wpAny_bind (wpAny_holding (wpAny_truthy_bool (wpAny_bind (wpAny_letGo (wpAny_pure ?_)))))
    cases hb : bt (j + 1) (argBest bt j) with
    | true =>
      simp only [if_true]
      refine wpAny_bind (wpAny_updateSeq eS2 rfl (wpAny_bind (wpAny_letGo ?_)))
      rw [nam]
      refine wpAny_pure ⟨plainId_quiet F.plain_max_loop _, ih (j + 1) _ v _ (by omega) more (W.frame _ _ _ st2 fun b q o e => ?_) (by simp only [argBest, hb, if_true]; exact pv) (kS _ old2) (Heap.get?_update_self _ eS2 rfl) fun v2 g2 tk2 pv2 gk2 => fin v2 g2 tk2 pv2 gk2⟩
      exact (Heap.get?_update_other _ _ (fun e2 : S = b => hf (by rw [e2]; exact q))).trans e
    | false =>
      simp only [Bool.false_eq_true, if_false]
      refine wpAny_bind (wpAny_letGo ?_)
      rw [nam]
      exact wpAny_pure ⟨plainId_quiet F.plain_max_loop _, ih (j + 1) _ best c (by omega) more st2 (by simp only [argBest, hb, Bool.false_eq_true, if_false]; exact pb) old2 eS2 fun v2 g2 tk2 pv2 gk2 => fin v2 g2 tk2 pv2 gk2⟩
theorem max_firstK (W : Walks pr wd Z.in1 it fp wr n P St) (cmp : CmpG pr wd Z.in1 .Gt h0 P bt) (hf : S ∉ fp) (hw0 : ∀ b ∈ wr, h0.get? b = none) (hS0 : h0.get? S = none) (hn : 0 < n) {z : Shared} {c : Nat} (st : St 0 z.heap) (old : ∀ b o, h0.get? b = some o → z.heap.get? b = some o)
    (eS : z.heap.get? S = some { cls := .type "list", dict := none, data := .seq #[] c, slots := #[] })
    (fin : ∀ v h' tk, P (argBest bt (n - 1)) v → (∀ b o, h0.get? b = some o → h'.get? b = some o) → R (.ok (.ret v)) { z with heap := h', toks := tk }) :
    codeAny (model pr wd) Z (.builtin "max.loop" ⟨[.ref it, .none, .ref S], [(Str.ofString "default", d)]⟩) R z := by
  have hSw : S ∉ wr := fun q => hf (W.sub _ q)
  have nam : (toString "max" ++ toString ".loop" : String) = "max.loop" := by decide
  refine codeAny_builtin F.entry_max_loop ?_
  rw [Around.under_plainId F.plain_max_loop _]
  show wpAny _ Z.in1 (seqItems? (.ref S) >>= _) _ _ z
  refine wpAny_bind (wpAny_seqItems eS rfl ?_)
  show wpAny _ Z.in1 (tryCatch (pyNext (.ref it)) _ >>= _) _ _ z
  refine wpAny_bind (wpAny_tryCatch (W.item 0 z _ _ hn st fun v g tk pv st2 gk => ?_))
  have eS2 := gk S _ hSw eS
  show wpAny _ Z.in1 (updateSeq S (fun _ => #[v, v]) >>= _) _ _ _
  refine wpAny_bind (wpAny_updateSeq eS2 rfl ?_)
  rw [nam]
  refine wpAny_pure ⟨plainId_quiet F.plain_max_loop _, max_loopK W cmp hf hw0 hS0 _ 0 _ v _ rfl hn (W.frame _ _ _ st2 fun b q o e => ?_) pv (fun b o e => ?_) (Heap.get?_update_self _ eS2 rfl) fun v2 g2 tk2 pv2 gk2 => fin v2 g2 tk2 pv2 gk2⟩
  · exact (Heap.get?_update_other _ _ (fun e2 : S = b => hf (by rw [e2]; exact q))).trans e
  · exact (Heap.get?_update_other _ _ (fun q : S = b => by rw [← q, hS0] at e; cases e)).trans (gk b o (fun q => by rw [hw0 b q] at e; cases e) (old b o e))
end
section
variable {d : Value} {pr : Program} {wd : World} {Z : Around} {E : Value → Shared → Prop} {z : Shared} {l : Addr} {xs : Array Value} {bt : Nat → Nat → Bool} {P : Nat → Value → Prop}
theorem max_listK {Q : Value → Shared → Prop} (hh : Z.handled = none) (hl : z.heap.IsList l xs) (hn : 0 < xs.size) (cmp : CmpG pr wd Z.in1 .Gt z.heap (fun i v => xs[i]? = some v) bt)
    (fin : ∀ v h' tk, xs[argBest bt (xs.size - 1)]? = some v → (∀ b o, z.heap.get? b = some o → h'.get? b = some o) → Q v { z with heap := h', toks := tk }) :
    wpAny (model pr wd) Z (call (.builtin "max") [.ref l] [(Str.ofString "default", d)]) Q E z := by
  have nam : (toString "max" ++ toString ".loop" : String) = "max.loop" := by decide
  have hlt : l < z.heap.objs.size := by obtain ⟨_, e, _⟩ := hl; exact Heap.lt_size e
  refine call_tree_kw F.kind_max F.plain_max F.entry_max (args_maxD _ _) ?_
  show wpAny _ Z.in1 (Builtin.Builtins.bindParams "max" ["key", "default"] 0 ⟨[], [(Str.ofString "default", d)]⟩ >>= _) _ _ z
  refine wpAny_bind (wpAny_of_eq (show Builtin.Builtins.bindParams "max" ["key", "default"] 0 ⟨[], [(Str.ofString "default", d)]⟩ = pure [none, some d] from rfl) (wpAny_bind (wpAny_pure ?_)))
  refine wpAny_bind (wpAny_pyIter_list hl ?_)
  refine wpAny_bind (wpAny_newObj_type ?_)
  rw [nam]
  have sz : (z.heap.push { cls := .type "list_iterator", data := .fields #[.ref l, .int 0 0] }).objs.size = z.heap.objs.size + 1 := Heap.size_push ..
  have no : ∀ {b : Addr}, z.heap.objs.size ≤ b → z.heap.get? b = none := fun {b} hb => by
    cases e : z.heap.get? b with
    | none => rfl
    | some o => exact absurd (Heap.lt_size e) (Nat.not_lt.mpr hb)
  have st0 : ((z.heap.push { cls := .type "list_iterator", data := .fields #[.ref l, .int 0 0] }).push { cls := .type "list", data := .seq #[] }).IsListIter z.heap.objs.size l 0 ∧ ((z.heap.push { cls := .type "list_iterator", data := .fields #[.ref l, .int 0 0] }).push { cls := .type "list", data := .seq #[] }).IsList l xs :=
    ⟨⟨_, Heap.get?_push_of_some _ (Heap.get?_push_size _ rfl), rfl, rfl⟩, (hl.push _).push _⟩
  refine wpAny_pure ⟨plainId_quiet F.plain_max_loop _, max_firstK (h0 := z.heap) (S := (z.heap.push { cls := .type "list_iterator", data := .fields #[.ref l, .int 0 0] }).objs.size) (Walks.list (A := Z.in1) hh z.heap.objs.size l (Nat.ne_of_lt hlt) xs) cmp (fun q => ?_) (fun b q => ?_) (no (by rw [sz]; exact Nat.le_succ _)) hn st0 (fun b o e => Heap.get?_push_of_some _ (Heap.get?_push_of_some _ e)) (Heap.get?_push_size _ rfl) fun v g tk pv gk => fin v g tk pv gk⟩
  · simp only [List.mem_cons, List.not_mem_nil, or_false] at q
    rcases q with q | q
    · rw [sz] at q; exact absurd q (Nat.ne_of_gt (Nat.lt_succ_self _))
    · rw [sz] at q; exact absurd hlt (Nat.not_lt.mpr (q ▸ Nat.le_succ _))
  · simp only [List.mem_cons, List.not_mem_nil, or_false] at q
    exact no (by rw [q]; exact Nat.le_refl _)
end
end Ph
namespace Ph
open PySem PySem.Spec PyProof.Rows L2
/-- no texts -/
def Sc.nos : Sc → Bool
  | .s _ => false
  | _ => true
theorem sc_gtAt {A : Around} {s : Shared} {x y : Sc} {u w : Value} (hx : RelV x.v u) (hy : RelV y.v w) (k : x.like y = true) (n : x.nos = true) : Ob.RcOp .Gt A s u w (y.lt x) := by
  cases x with
  | i n =>
    cases y with
    | i m =>
      obtain ⟨t, rfl⟩ := hx
      obtain ⟨t', rfl⟩ := hy
      exact Ob.RcOp.gt_int _ _ _ _
    | _ => cases k
  | s z => cases n
  | b p =>
    cases y with
    | b q =>
      obtain rfl : u = .bool p := hx
      obtain rfl : w = .bool q := hy
      intro P W Q E h
      refine gt_bool ?_
      rw [show decide (b2i p > b2i q) = Sc.lt (.b q) (.b p) from by cases p <;> cases q <;> rfl]
      exact h
    | _ => cases k
theorem lexAt_lexG {e r : Nat → Bool} : ∀ (ps qs as bs : List Sc) (i : Nat), i = ps.length → ps.length = qs.length → likeL as bs = true →
    (∀ j x y, (ps ++ as)[j]? = some x → (qs ++ bs)[j]? = some y → e j = decide (x = y) ∧ (x ≠ y → r j = y.lt x)) → Ob.lexAt e r false i as.length = lexS bs as
  | ps, qs, [], [], i, hi, hl, hk, h => rfl
  | ps, qs, x :: as, y :: bs, i, hi, hl, hk, h => by
    simp only [likeL, Bool.and_eq_true] at hk
    have h0 := h i x y (by rw [hi, List.getElem?_append_right (Nat.le_refl _), Nat.sub_self]; rfl) (by rw [hi, hl, List.getElem?_append_right (Nat.le_refl _), Nat.sub_self]; rfl)
    have ih := lexAt_lexG (e := e) (r := r) (ps ++ [x]) (qs ++ [y]) as bs (i + 1) (by rw [List.length_append, hi]; rfl) (by rw [List.length_append, List.length_append, hl]; rfl) hk.2 (fun j u w e1 e2 => h j u w (by simpa using e1) (by simpa using e2))
    rw [List.length_cons, Ob.lexAt_succ, h0.1, lexS]
    by_cases q : x = y
    · rw [if_pos (decide_eq_true q), if_pos q.symm, ih]
    · rw [if_neg (show ¬ decide (x = y) = true by rw [decide_eq_false q]; exact Bool.false_ne_true), if_neg (fun z : y = x => q z.symm), h0.2 q]
  | _, _, [], _ :: _, _, _, _, hk, _ => by cases hk
  | _, _, _ :: _, [], _, _, _, hk, _ => by cases hk
def allLikeN (ks : List (List Sc)) : Prop := ∀ a, a ∈ ks → (∀ c, c ∈ a → c.nos = true) ∧ ∀ b, b ∈ ks → likeL a b = true
section
variable {d : Value} {pr : Program} {wd : World} {Z : Around} {E : Value → Shared → Prop} {z : Shared} {l : Addr} {xs : Array Value}
theorem max_emptyK {Q : Value → Shared → Prop} (hh : Z.handled = none) (hl : z.heap.IsList l xs) (hn : xs.size = 0)
    (fin : ∀ h' tk, (∀ b o, z.heap.get? b = some o → h'.get? b = some o) → Q d { z with heap := h', toks := tk }) :
    wpAny (model pr wd) Z (call (.builtin "max") [.ref l] [(Str.ofString "default", d)]) Q E z := by
  have nam : (toString "max" ++ toString ".loop" : String) = "max.loop" := by decide
  have hlt : l < z.heap.objs.size := by obtain ⟨_, e, _⟩ := hl; exact Heap.lt_size e
  refine call_tree_kw F.kind_max F.plain_max F.entry_max (args_maxD _ _) ?_
  show wpAny _ Z.in1 (Builtin.Builtins.bindParams "max" ["key", "default"] 0 ⟨[], [(Str.ofString "default", d)]⟩ >>= _) _ _ z
  refine wpAny_bind (wpAny_of_eq (show Builtin.Builtins.bindParams "max" ["key", "default"] 0 ⟨[], [(Str.ofString "default", d)]⟩ = pure [none, some d] from rfl) (wpAny_bind (wpAny_pure ?_)))
  refine wpAny_bind (wpAny_pyIter_list hl ?_)
  refine wpAny_bind (wpAny_newObj_type ?_)
  rw [nam]
  have sz : (z.heap.push { cls := .type "list_iterator", data := .fields #[.ref l, .int 0 0] }).objs.size = z.heap.objs.size + 1 := Heap.size_push ..
  have no : ∀ {b : Addr}, z.heap.objs.size ≤ b → z.heap.get? b = none := fun {b} hb => by
    cases e : z.heap.get? b with
    | none => rfl
    | some o => exact absurd (Heap.lt_size e) (Nat.not_lt.mpr hb)
  have st0 : ((z.heap.push { cls := .type "list_iterator", data := .fields #[.ref l, .int 0 0] }).push { cls := .type "list", data := .seq #[] }).IsListIter z.heap.objs.size l 0 ∧ ((z.heap.push { cls := .type "list_iterator", data := .fields #[.ref l, .int 0 0] }).push { cls := .type "list", data := .seq #[] }).IsList l xs :=
    ⟨⟨_, Heap.get?_push_of_some _ (Heap.get?_push_size _ rfl), rfl, rfl⟩, (hl.push _).push _⟩
  refine wpAny_pure ⟨plainId_quiet F.plain_max_loop _, ?_⟩
  have W := Walks.list (prog := pr) (w := wd) (A := Z.in1) hh z.heap.objs.size l (Nat.ne_of_lt hlt) xs
  rw [hn] at W
  refine codeAny_builtin F.entry_max_loop ?_
  rw [Around.under_plainId F.plain_max_loop _]
  have eS : ((z.heap.push { cls := .type "list_iterator", data := .fields #[.ref l, .int 0 0] }).push { cls := .type "list", data := .seq #[] }).get? (z.heap.push { cls := .type "list_iterator", data := .fields #[.ref l, .int 0 0] }).objs.size = some { cls := .type "list", dict := none, data := .seq #[] 0, slots := #[] } := Heap.get?_push_size _ rfl
  show wpAny _ Z.in1 (seqItems? (.ref (z.heap.push { cls := .type "list_iterator", data := .fields #[.ref l, .int 0 0] }).objs.size) >>= _) _ _ _
  refine wpAny_bind (wpAny_seqItems eS rfl ?_)
  show wpAny _ Z.in1 (tryCatch (pyNext (.ref z.heap.objs.size)) _ >>= _) _ _ _
  refine wpAny_bind (wpAny_tryCatch (W.done _ _ _ st0 fun g tk gk => ?_))
  refine wpAny_bind (wpAny_rule (wpAny_pure ?_))
  refine fin g tk fun b o e => gk b o (fun q => ?_) (Heap.get?_push_of_some _ (Heap.get?_push_of_some _ e))
  simp only [List.mem_cons, List.not_mem_nil, or_false] at q
  rw [q] at e
  rw [no (Nat.le_refl _)] at e
  cases e
end
section
variable {X : Cx}
theorem gt_rows {A : Around} {s : Shared} {l b : Addr} {x y : List Sc} {p q : List Value} (hu : A.units < cLine) (hl : s.heap.IsTuple l p.toArray) (hb : s.heap.IsTuple b q.toArray) (lx : p.length = x.length) (ly : q.length = y.length)
    (hx : ∀ (j : Nat) (c : Sc), x[j]? = some c → ∃ u, p[j]? = some u ∧ RelV c.v u) (hy : ∀ (j : Nat) (c : Sc), y[j]? = some c → ∃ u, q[j]? = some u ∧ RelV c.v u) (k : likeL x y = true) (nb : ∀ c, c ∈ x → c.nos = true) : Ob.RcOp .Gt A s (.ref l) (.ref b) (lexS y x) := by
  have hxy := likeL_len k
  have g : ∀ j (h1 : j < p.toArray.size) (h2 : j < q.toArray.size), ∃ c e, x[j]? = some c ∧ y[j]? = some e ∧ RelV c.v p.toArray[j] ∧ RelV e.v q.toArray[j] := fun j h1 h2 => by
    rw [List.size_toArray] at h1 h2
    have h3 : j < x.length := by omega
    have h4 : j < y.length := by omega
    obtain ⟨u, e1, r1⟩ := hx j _ (List.getElem?_eq_getElem h3)
    obtain ⟨w, e2, r2⟩ := hy j _ (List.getElem?_eq_getElem h4)
    refine ⟨_, _, List.getElem?_eq_getElem h3, List.getElem?_eq_getElem h4, ?_, ?_⟩
    · rw [List.getElem?_eq_getElem h1] at e1
      have := Option.some.inj e1
      rw [List.getElem_toArray, this]
      exact r1
    · rw [List.getElem?_eq_getElem h2] at e2
      have := Option.some.inj e2
      rw [List.getElem_toArray, this]
      exact r2
  have R := Ob.RcOp.tuples_gt (A := A) (s := s) (e := fun j => decide (x[j]? = y[j]?)) (r := fun j => match x[j]?, y[j]? with | some c, some e => e.lt c | _, _ => false) hl hb hu
    (fun j h1 h2 => by
      obtain ⟨c, e, e1, e2, r1, r2⟩ := g j h1 h2
      rw [show decide (x[j]? = y[j]?) = decide (c = e) from by rw [e1, e2]; simp]
      exact sc_eqAt r1 r2 (likeL_at k e1 e2))
    (fun j h1 h2 _ => by
      obtain ⟨c, e, e1, e2, r1, r2⟩ := g j h1 h2
      simp only [e1, e2]
      exact sc_gtAt r1 r2 (likeL_at k e1 e2) (nb c (List.mem_of_getElem? e1)))
  rw [List.size_toArray, List.size_toArray, lx, ly, ← hxy, Nat.min_self, decide_eq_false (Nat.lt_irrefl _)] at R
  rw [lexAt_lexG [] [] x y 0 rfl rfl k (fun j c e e1 e2 => by
    simp only [List.nil_append] at e1 e2
    rw [e1, e2]
    exact ⟨by simp, fun _ => rfl⟩)] at R
  exact R
theorem cmp_rowsG {pins : List (Addr × Obj)} {σ : L2.St} {H : Hp} {s : Shared} {A : Around} {xs : List V} {ks : List (List Sc)} {its : List Value} (I : Inv X pins σ H s) (hu : A.units < cLine) (rv : Vals xs its) (ht : TupS X.K H xs ks) (al : allLikeN ks) :
    CmpG X.prog X.w A .Gt s.heap (fun i v => its.toArray[i]? = some v) (fun i j => lexS (ks.getD j []) (ks.getD i [])) := by
  intro i j x y z Q E old px py q
  obtain ⟨x', ex, rx⟩ := row_at' rv px
  obtain ⟨y', ey, ry⟩ := row_at' rv py
  obtain ⟨t1, d1, rfl, k1, s1⟩ := ht.at_ ex
  obtain ⟨t2, d2, rfl, k2, s2⟩ := ht.at_ ey
  obtain rfl : x = Value.ref t1 := rx
  obtain rfl : y = Value.ref t2 := ry
  obtain ⟨p1, h1, l1, g1⟩ := row_items I s1
  obtain ⟨p2, h2, l2, g2⟩ := row_items I s2
  have m1 := List.mem_of_getElem? k1
  have m2 := List.mem_of_getElem? k2
  have e1 : ks.getD i [] = d1 := by rw [List.getD_eq_getElem?_getD, k1]; rfl
  have e2 : ks.getD j [] = d2 := by rw [List.getD_eq_getElem?_getD, k2]; rfl
  have w := gt_rows (A := A) (s := z) hu (tup_keep h1 old) (tup_keep h2 old) l1 l2 g1 g2 ((al d1 m1).2 d2 m2) (al d1 m1).1
  dsimp only at q
  rw [e1, e2] at q
  exact w X.prog X.w E Q q
def rMaxT (K : PySem.W.Frag) : List V → Hp → VK → Prop := fun vs H Q => ∃ (a : Addr) (xs : List V) (ks : List (List Sc)), vs = [.ref a] ∧ SqL K H a xs ∧ TupS K H xs ks ∧ allLikeN ks ∧ 0 < ks.length ∧ ∀ v, xs[maxIx ks]? = some v → Q v H
theorem cr_maxT (hc : X.calm = true) (hu : X.A.units + 64 < cLine) : CallR X (.builtin "max") (rMaxT X.K) := by
  intro pins s σ H vs us Q I r h
  obtain ⟨a, xs, ks, rfl, hs, ht, al, hn, q⟩ := h
  obtain ⟨its, rv, hl, _⟩ := I.list hs
  obtain ⟨u, rfl, ru⟩ := vals1 r
  obtain rfl : u = Value.ref a := ru
  have len : its.toArray.size = ks.length := by rw [List.size_toArray, ← Vals.length rv, ht.length]
  refine max_listG (I.ok.hd hc) hl.isList (by rw [len]; exact hn) (cmp_rowsG I (by show X.A.units + 1 < cLine; omega) rv ht al) fun v g tk e gk => ?_
  rw [len] at e
  obtain ⟨x, ex, rx⟩ := row_at' rv e
  exact ⟨x, H, I.kept (t' := tk) gk, rx, q x ex⟩
def rMaxDT (K : PySem.W.Frag) : List V → List V → Hp → VK → Prop := fun vs zs H Q => ∃ (a : Addr) (xs : List V) (ks : List (List Sc)) (dv : V), vs = [.ref a] ∧ zs = [dv] ∧ SqL K H a xs ∧ TupS K H xs ks ∧ allLikeN ks ∧ (ks = [] → Q dv H) ∧ ∀ v, 0 < ks.length → xs[maxIx ks]? = some v → Q v H
theorem cr_maxDT (hc : X.calm = true) (hu : X.A.units + 64 < cLine) : CallRK X (.builtin "max") [Str.ofString "default"] (rMaxDT X.K) := by
  intro pins s σ H vs zs us ws Q I r rz h
  obtain ⟨a, xs, ks, dv, rfl, rfl, hs, ht, al, q0, q⟩ := h
  obtain ⟨its, rv, hl, _⟩ := I.list hs
  obtain ⟨u, rfl, ru⟩ := vals1 r
  obtain rfl : u = Value.ref a := ru
  obtain ⟨d, rfl, rd⟩ := vals1 rz
  have len : its.toArray.size = ks.length := by rw [List.size_toArray, ← Vals.length rv, ht.length]
  show wpAny _ _ (call (.builtin "max") [.ref a] [(Str.ofString "default", d)]) _ _ _
  by_cases hn : 0 < ks.length
  · refine max_listK (I.ok.hd hc) hl.isList (by rw [len]; exact hn) (cmp_rowsG I (by show X.A.units + 1 < cLine; omega) rv ht al) fun v g tk e gk => ?_
    rw [len] at e
    obtain ⟨x, ex, rx⟩ := row_at' rv e
    exact ⟨x, H, I.kept (t' := tk) gk, rx, q x hn ex⟩
  · have hk : ks = [] := List.eq_nil_of_length_eq_zero (by omega)
    refine max_emptyK (I.ok.hd hc) hl.isList (by rw [len, hk]; rfl) fun g tk gk => ?_
    exact ⟨dv, H, I.kept (t' := tk) gk, rd, q0 hk⟩
end
end Ph
namespace Ph
open PySem PySem.Spec PyProof PyProof.Rows L2
section
variable {X : Cx} {pins : List (Addr × Obj)} {σ : L2.St} {H : Hp} {s : Shared} {d : Addr} {o : Obj}
theorem dt_rows {kvs : List (List Key × V)} {xs : List (List Key × Addr × Value)} {es : Array DictEntry} (pr : KT H kvs xs) (he : es.toList = xs.map (entryOfKey (tupleKind (mixKind X.prog X.w)))) :
    es.size = kvs.length ∧ ∀ i (hi : i < es.size), ∃ k v q, kvs[i]? = some (k, v) ∧ es[i].key = .ref q ∧ H q = some (.tup (k.map kV)) ∧ RelV v es[i].val := by
  have l1 : es.size = xs.length := size_of_entries he
  have l2 : kvs.length = xs.length := Paired.length pr
  refine ⟨by omega, fun i hi => ?_⟩
  obtain ⟨⟨k, v⟩, hkv⟩ : ∃ p, kvs[i]? = some p := ⟨kvs[i]'(by omega), List.getElem?_eq_getElem (by omega)⟩
  obtain ⟨b, hb, e1, e2, e3⟩ := paired_get pr hkv
  have q := entry_at he i
  rw [hb, Array.getElem?_eq_getElem hi] at q
  have q2 := Option.some.inj q
  exact ⟨k, v, b.2.1, hkv, by rw [q2]; rfl, e2, by rw [q2]; exact e3⟩
theorem frzTv {kvs : List (List Key × V)} (I : Inv X pins σ H s) (h : H d = some (.frz o (.dT kvs))) :
    (d == sysModules) = false ∧ s.heap.get? d = some o ∧ o.ExactDict ∧ ∃ (es : Array DictEntry) (ep : Nat), o.data = .dict es ep ∧ es.size = kvs.length ∧ kvs.length ≤ sizeLine ∧
      ∀ i (hi : i < es.size), ∃ k v q, kvs[i]? = some (k, v) ∧ es[i].key = .ref q ∧ H q = some (.tup (k.map kV)) ∧ RelV v es[i].val := by
  obtain ⟨hd, z, hs, xs, pr, o', es, ep, ho, hx, hdt, he, _⟩ := I.hok d _ h
  rw [hd] at ho
  cases ho
  obtain ⟨a1, a2⟩ := dt_rows (X := X) pr he
  exact ⟨hs, hd, hx, es, ep, hdt, a1, z, a2⟩
end
/-- the pairs of a locked dict with tuple keys -/
def ItiT (d : Addr) (o : Obj) (kvs : List (List Key × V)) : It :=
  ⟨fun i H => H d = some (.frz o (.dT kvs)) ∧ i < kvs.length, fun i H x H' => ∃ T k v q, kvs[i]? = some (k, v) ∧ x = .ref T ∧ H T = none ∧ H q = some (.tup (k.map kV)) ∧ H' = upd H T (.tup [.ref q, v]), fun i H => H d = some (.frz o (.dT kvs)) ∧ kvs.length ≤ i⟩
section
variable {P : Program} {w : World} {K : PySem.W.Frag} {tg : Expr} {d : Addr} {o : Obj} {es : Array DictEntry} {ep : Nat}
theorem turn_itemsT {kvs : List (List Key × V)} {elts : List Expr} {kk : Nat} {tpos : Pos} (it : Addr) (hod : o.data = .dict es ep) :
    Turn P w K (.Tuple elts kk tpos) (ItiT d o kvs) [it] it (fun i h => ∃ ok ov, IsItemIter h it d i kvs.length ep ok ov) where
  mem := by simp
  obj := fun i h st b hb => by
    have e : b = it := by simpa using hb
    subst e
    obtain ⟨ok, ov, e⟩ := st
    exact ⟨_, e, fun v z => nomatch z⟩
  keep := fun i h h' st k => let ⟨ok, ov, e⟩ := st; ⟨ok, ov, k it (by simp) _ e⟩
  item := by
    intro X hP hw hK hc i pins s σ H E I hf st hg
    subst hP hw hK
    obtain ⟨hd, hi⟩ := hg
    obtain ⟨hs, hgd, hx, es', ep', hdt, hsz, _, ent⟩ := frzTv I hd
    obtain ⟨rfl, rfl⟩ := dict_ep hod hdt
    have hi' : i < es'.size := by omega
    obtain ⟨k, v, q, hkv, hkey, hq, hv⟩ := ent i hi'
    obtain ⟨ok, ov, he⟩ := st
    rw [← hsz] at he
    have hlt : it < s.heap.objs.size := Heap.lt_size he
    refine wpAny_pyNext_items_item_raw he ⟨o, hgd, hx, hdt⟩ hi' fun h' ho hT hz hk => ?_
    refine ⟨_, rfl, wpAny_letOwnedTupleGo_items (s := { s with heap := h' }) ho fun h'' he' sb => ?_⟩
    rw [hkey] at hT
    have hT2 : h''.get? s.heap.objs.size = some { cls := .type "tuple", data := .seq #[.ref q, es'[i].val] } := (sb.2 _ (Nat.ne_of_gt hlt)).trans hT
    have new : ObjOk X.prog X.w (upd H s.heap.objs.size (.tup [.ref q, v])) h'' s.heap.objs.size (.tup [.ref q, v]) :=
      ⟨by show 2 ≤ sizeLine; decide, [.ref q, es'[i].val], .cons rfl (.cons hv .nil), ⟨_, hT2, rfl, _, rfl⟩⟩
    have I1 : Inv X pins σ (upd H s.heap.objs.size (.tup [.ref q, v])) { s with heap := h'' } :=
      I.turnedNew (t' := s.toks) (ch := [it]) (fun b ob hb e => (sb.2 b (by simpa using hb)).trans (hk b ob (by simpa using hb) e)) hf (Nat.le_refl _) new
    refine ⟨.ref s.heap.objs.size, _, I1, rfl, ⟨_, k, v, q, hkv, rfl, I.hok.fresh (Nat.le_refl _), hq, rfl⟩, ⟨.ref q, es'[i].val, ?_⟩, fun b hb => ?_⟩
    · rw [← hsz]
      rw [hkey] at he'
      exact he'
    · have e : b = it := by simpa using hb
      rw [e, upd_ne (Nat.ne_of_lt hlt)]
      exact (hf it (by simp)).1
  done := by
    intro X hP hw hK hc i pins s σ H E I hf st hg
    subst hP hw hK
    obtain ⟨hd, hi⟩ := hg
    obtain ⟨f0, f1, f2, f3, f4, f5⟩ := hf it (by simp)
    obtain ⟨hs, hgd, hx, es', ep', hdt, hsz, _, ent⟩ := frzTv I hd
    obtain ⟨rfl, rfl⟩ := dict_ep hod hdt
    obtain ⟨ok, ov, he⟩ := st
    rw [← hsz] at he
    exact wpAny_pyNext_items_end_raw (I.ok.hd hc) he ⟨o, hgd, hx, hdt⟩ (by omega) fun h' eb => ⟨rfl, I.turned (t' := s.toks) (fun b ob hb e => eb b ob hb e) f0 f1 f3 f4 f5⟩
  self := fun A i s Q E st h => let ⟨_, _, e⟩ := st; PySem.W.kcp_self e h
end
/-- d.items(), d's keys tuples, d locked -/
def iItemsT (td : TE) : TI := fun σ H R => td σ H fun x H1 => ∃ d o kvs, x = .ref d ∧ H1 d = some (.frz o (.dT kvs)) ∧ R (ItiT d o kvs) H1
section
variable {X : Cx} {tg e : Expr} {td : TE} {apos cpos : Pos}
theorem pi_itemsT {elts : List Expr} {kk : Nat} {tpos : Pos} (he : PE X e td) (hbase : attributeBase e "items" X.env (eval e X.env) = eval e X.env := by rfl) (hline : (apos.endLine == cpos.line) = true := by rfl) :
    PI X (.Tuple elts kk tpos) (.Call (.Attribute e "items" apos) [] [] cpos) (iItemsT td) := by
  refine ⟨fun pins s σ H R I h => ?_⟩
  refine wpAny_Call_method (T := "dict") (id := "dict.items") hbase rfl hline F.plainAttrs_dict F.slot_dict_items F.type_dict_items (thn (he.run pins s σ H _ I h) fun u s1 ⟨x, H1, I1, rx, d, o, kvs, ex, hd, q⟩ => ?_)
  subst ex
  obtain rfl : u = Value.ref d := rx
  obtain ⟨hs, hgd, hx, es, ep, hdt, hsz, _, ent⟩ := frzTv I1 hd
  have raw : s1.heap.DictRaw d es ep := ⟨o, hgd, hx, hdt⟩
  refine ⟨raw.typeIs, (fun a e => by cases e; exact ⟨o, hgd, hx.2.1⟩), ?_⟩
  have I2 : Inv X pins σ H1 { s1 with heap := s1.heap.push { cls := .type "dict_items", data := .fields #[.ref d] } } := I1.kept (t' := s1.toks) fun b ob q => Heap.get?_push_of_some _ q
  have fin : wpAny (model X.prog X.w) X.A (pyIter (.ref s1.heap.objs.size)) (PIE X pins σ (.Tuple elts kk tpos) R) X.xe { s1 with heap := s1.heap.push { cls := .type "dict_items", data := .fields #[.ref d] } } := by
    refine wpAny_pyIter_items_raw (d := d) ⟨_, Heap.get?_push_size _ rfl, rfl, rfl⟩ (raw.push _) (pi_one (tk := s1.toks) I2 _ (turn_itemsT _ hdt) ⟨.none, .none, ?_⟩ q)
    rw [hsz]
    exact Heap.get?_push_size _ rfl
  show wpAny _ _ (callWith cpos (.builtin "dict.items") [.ref d] [] []) _ X.xe s1
  exact method_meetsIn F.slot_dict_items F.entry_dict_items rfl (PySem.evalArgs_none ⟨rfl, raw.typeIs, F.args_dict_items_1 _, _, meets_dict_items_raw d hs, ⟨es, ep, raw⟩, fin⟩)
end
theorem walk_itemsT {d : Addr} {o : Obj} {kvs : List (List Key × V)} : Walk (ItiT d o kvs) kvs.length (fun H => H d = some (.frz o (.dT kvs)))
    (fun i H x H' => ∃ T k v q, kvs[i]? = some (k, v) ∧ x = .ref T ∧ H T = none ∧ H q = some (.tup (k.map kV)) ∧ H' = upd H T (.tup [.ref q, v])) :=
  ⟨fun _ _ hi q => ⟨q, hi⟩, fun _ q => ⟨q, Nat.le_refl _⟩, fun _ _ _ _ _ _ y => y⟩
/-! list(d.items()), d's keys tuples -/
def putL : Hp → List Addr → List (List V) → Hp
  | H, a :: as, r :: rs => putL (upd H a (.tup r)) as rs
  | H, _, _ => H
theorem putL_off {b : Addr} : ∀ (as : List Addr) (rs : List (List V)) (H : Hp), b ∉ as → putL H as rs b = H b
  | [], _, _, _ => rfl
  | _ :: _, [], _, _ => rfl
  | a :: as, r :: rs, H, h => by
    show putL (upd H a (.tup r)) as rs b = H b
    rw [putL_off as rs _ (fun z => h (List.mem_cons_of_mem _ z)), upd_ne (fun z => h (by rw [z]; exact List.mem_cons_self))]
theorem putL_at : ∀ (as : List Addr) (rs : List (List V)) (H : Hp), as.length = rs.length → as.Nodup → ∀ (j : Nat) (a : Addr), as[j]? = some a → ∃ r, rs[j]? = some r ∧ putL H as rs a = some (.tup r)
  | [], [], _, _, _, j, a, h => by simp at h
  | [], _ :: _, _, h, _, _, _, _ => by cases h
  | _ :: _, [], _, h, _, _, _, _ => by cases h
  | a :: as, r :: rs, H, h, hn, 0, b, e => by
    have hn' := List.nodup_cons.mp hn
    cases (show a = b from Option.some.inj e)
    refine ⟨r, rfl, ?_⟩
    show putL (upd H a (.tup r)) as rs a = some (.tup r)
    rw [putL_off as rs _ hn'.1, upd_same]
  | a :: as, r :: rs, H, h, hn, j + 1, b, e => by
    have hn' := List.nodup_cons.mp hn
    exact putL_at as rs (upd H a (.tup r)) (Nat.succ.inj h) hn'.2 j b (by simpa using e)
def rItemsLT : V → Hp → VK → Prop := fun x H Q => ∃ (d : Addr) (kvs : List (List Key × V)), x = .ref d ∧ H d = some (.dT kvs) ∧
  ∀ (H' : Hp) (p : Addr) (ts : List Addr), (∀ b o, H b = some o → H' b = some o) → H p = none → H' p = some (.lst (ts.map V.ref)) → ts.length = kvs.length → (∀ (j : Nat) (t : Addr), ts[j]? = some t → ∃ k v q, kvs[j]? = some (k, v) ∧ H' q = some (.tup (k.map kV)) ∧ H' t = some (.tup [.ref q, v])) → Q (.ref p) H'
def tListItemsT (te : TE) : TE := fun σ H Q => te σ H fun x H1 => rItemsLT x H1 Q
section
variable {X : Cx} {e : Expr} {te : TE} {p apos cpos pos : Pos}
theorem items_laidT {pins : List (Addr × Obj)} {σ : L2.St} {H : Hp} {s : Shared} {h' : Heap} {tk : Nat} {kvs : List (List Key × V)} {es : Array DictEntry} {acc : Array Value} {c : Nat} {as : List Addr} (I : Inv X pins σ H s) (hz : kvs.length ≤ sizeLine) (hsz : es.size = kvs.length)
    (ent : ∀ i (hi : i < es.size), ∃ k v q, kvs[i]? = some (k, v) ∧ es[i].key = .ref q ∧ H q = some (.tup (k.map kV)) ∧ RelV v es[i].val)
    (hk : ∀ b o, s.heap.get? b = some o → h'.get? b = some o) (hS : h'.get? s.heap.objs.size = some { cls := .type "list", dict := none, data := .seq acc c, slots := #[] }) (hl : as.length = es.size) (hG : PySem.W.DilG es s.heap.objs.size h' as) (hacc : acc.toList = as.map Value.ref) :
    ∃ H' : Hp, (∀ b o, H b = some o → H' b = some o) ∧ H s.heap.objs.size = none ∧ H' s.heap.objs.size = some (.lst (as.map V.ref)) ∧ (∀ (j : Nat) (t : Addr), as[j]? = some t → ∃ k v q, kvs[j]? = some (k, v) ∧ H' q = some (.tup (k.map kV)) ∧ H' t = some (.tup [.ref q, v])) ∧ Inv X pins σ H' { s with heap := h', toks := tk } := by
  have hSn : s.heap.objs.size ∉ as := fun z => Nat.lt_irrefl _ (hG.above _ z)
  have nd : as.Nodup := List.Pairwise.imp (fun {a b} (h : a < b) => Nat.ne_of_lt h) hG.rise
  have new : ∀ t ∈ as, H t = none := fun t ht => I.hok.fresh (Nat.le_of_lt (hG.above t ht))
  have newS : H s.heap.objs.size = none := I.hok.fresh (Nat.le_refl _)
  have rowsx : ∃ rs : List (List V), rs.length = es.size ∧ ∀ (j : Nat) (r : List V), rs[j]? = some r → ∃ (hj : j < es.size) (k : List Key) (v : V) (q : Addr), kvs[j]? = some (k, v) ∧ es[j].key = .ref q ∧ H q = some (.tup (k.map kV)) ∧ RelV v es[j].val ∧ r = [.ref q, v] := by
    have all : ∀ n, n ≤ es.size → ∃ rs : List (List V), rs.length = n ∧ ∀ (j : Nat) (r : List V), rs[j]? = some r → ∃ (hj : j < es.size) (k : List Key) (v : V) (q : Addr), kvs[j]? = some (k, v) ∧ es[j].key = .ref q ∧ H q = some (.tup (k.map kV)) ∧ RelV v es[j].val ∧ r = [.ref q, v] := by
      intro n
      induction n with
      | zero => exact fun _ => ⟨[], rfl, fun j r h => by simp at h⟩
      | succ n ih =>
        intro hn
        obtain ⟨rs, hl, hr⟩ := ih (by omega)
        obtain ⟨k, v, q, e1, e2, e3, e4⟩ := ent n (by omega)
        refine ⟨rs ++ [[.ref q, v]], by rw [List.length_append, hl]; rfl, fun j r h => ?_⟩
        by_cases hj : j < n
        · rw [List.getElem?_append_left (by omega)] at h
          exact hr j r h
        · have hj2 : j = n := by
            by_cases q2 : j = n
            · exact q2
            · rw [List.getElem?_eq_none (by rw [List.length_append, hl]; show n + 1 ≤ j; omega)] at h
              cases h
          subst hj2
          rw [List.getElem?_append_right (by omega), hl, Nat.sub_self] at h
          cases (show [V.ref q, v] = r from Option.some.inj h)
          exact ⟨by omega, k, v, q, e1, e2, e3, e4, rfl⟩
    exact all es.size (Nat.le_refl _)
  obtain ⟨rs, lr, hr⟩ := rowsx
  have atP := putL_at as rs (upd H s.heap.objs.size (.lst (as.map V.ref))) (by omega) nd
  have off : ∀ b, b ∉ as → b ≠ s.heap.objs.size → putL (upd H s.heap.objs.size (.lst (as.map V.ref))) as rs b = H b := fun b h1 h2 => by rw [putL_off as rs _ h1, upd_ne h2]
  have low : ∀ b o, s.heap.get? b = some o → b ∉ as ∧ b ≠ s.heap.objs.size := fun b o e => ⟨fun z => absurd (Heap.lt_size e) (Nat.not_lt.mpr (Nat.le_of_lt (hG.above b z))), Nat.ne_of_lt (Heap.lt_size e)⟩
  have kp : ∀ b u, H b = some u → (putL (upd H s.heap.objs.size (.lst (as.map V.ref))) as rs) b = some u := fun b u e => by
    rw [off b (fun z => by rw [new b z] at e; cases e) (fun z => by rw [z, newS] at e; cases e)]
    exact e
  have eS : putL (upd H s.heap.objs.size (.lst (as.map V.ref))) as rs s.heap.objs.size = some (.lst (as.map V.ref)) := by rw [putL_off as rs _ hSn, upd_same]
  refine ⟨putL (upd H s.heap.objs.size (.lst (as.map V.ref))) as rs, kp, newS, eS, fun j t ht => ?_, ?_⟩
  · obtain ⟨r, e1, e2⟩ := atP j t ht
    obtain ⟨hj, k, v, q, f1, f2, f3, f4, rfl⟩ := hr j r e1
    exact ⟨k, v, q, f1, kp _ _ f3, e2⟩
  refine I.call' (ch := []) rfl ⟨fun b o q _ _ _ => hk b o q, fun b o q _ _ _ => ⟨o.slots, hk b o q⟩, fun b o q n _ => ?_, fun b o q _ => ⟨o, hk b o q⟩, fun b xs q => kp b _ q, fun b o u q => kp b _ q, fun b ps q => ⟨#[], by rw [kp b _ q]; simp⟩⟩ (fun b u q => ?_) I.bare fun b z => by simp at z
  · obtain ⟨z1, z2⟩ := low b o q
    rw [off b z1 z2]
    exact n
  · by_cases hb : b ∈ as
    · obtain ⟨j, e1⟩ := List.mem_iff_getElem?.mp hb
      obtain ⟨r, e2, e3⟩ := atP j b e1
      rw [e3] at q
      cases q
      obtain ⟨hj, k, v, q, f1, f2, f3, f4, rfl⟩ := hr j r e2
      obtain ⟨_, g3⟩ := hG.pairs j b e1
      rw [f2] at g3
      exact ⟨by show 2 ≤ sizeLine; decide, [.ref q, es[j].val], .cons rfl (.cons f4 .nil), ⟨_, g3, rfl, _, rfl⟩⟩
    · by_cases hb2 : b = s.heap.objs.size
      · rw [hb2] at q ⊢
        rw [eS] at q
        cases q
        refine ⟨by rw [List.length_map]; omega, acc.toList, c, by rw [hacc]; exact LiI.vals_refs as, ?_⟩
        rw [Array.toArray_toList]
        exact hS
      · rw [off b hb hb2] at q
        exact (I.hok b u q).stay (fun d v _ y => hk d v y) (fun d y => kp d _ y) fun d xs y => kp d _ y
/-- list(e.items()) -/
theorem pe_listItemsT (hc : X.calm = true) (he : PE X e te) (hg : Gl X "list") (hm : X.mg "list" = none) (hv : bootBuiltins "list" = some (.type "list")) (hbase : attributeBase e "items" X.env (eval e X.env) = eval e X.env := by rfl) (hline : (apos.endLine == cpos.line) = true := by rfl)
    (hs : starEach [.Call (.Attribute e "items" apos) [] [] cpos] X.env = (false, eval (.Call (.Attribute e "items" apos) [] [] cpos) X.env) :: starEach [] X.env := by rfl) :
    PE X (.Call (.Name "list" p) [.Call (.Attribute e "items" apos) [] [] cpos] [] pos) (tListItemsT te) := by
  refine ⟨fun pins s σ H Q I hq => ?_⟩
  refine wpAny_Call_Name_kw (ld_blt I hg hm hv ?_)
  refine PyProof.Rows.callWith_type1 ?_ hs rfl
  rw [hs]
  show wpAny _ _ (spliced ((false, eval (.Call (.Attribute e "items" apos) [] [] cpos) X.env) :: backTo pos (starEach [] X.env))) _ _ s
  refine Calls.spliced_cons ?_
  refine wpAny_Call_method (T := "dict") (id := "dict.items") hbase rfl hline F.plainAttrs_dict F.slot_dict_items F.type_dict_items (thn (he.run pins s σ H _ I hq) fun u s1 ⟨x, H1, I1, rx, d, kvs, ex, hd, q⟩ => ?_)
  subst ex
  obtain rfl : u = Value.ref d := rx
  obtain ⟨hz, hs0, xs, pr, o, es, ep, ho, hx, hdt, hes, _⟩ := (show ObjOk X.prog X.w H1 s1.heap d (.dT kvs) from I1.hok d _ hd)
  obtain ⟨hsz, ent⟩ := dt_rows (X := X) pr hes
  have raw : s1.heap.DictRaw d es ep := ⟨o, ho, hx, hdt⟩
  have I2 : Inv X pins σ H1 { s1 with heap := s1.heap.push { cls := .type "dict_items", data := .fields #[.ref d] } } := I1.kept (t' := s1.toks) fun b ob q => Heap.get?_push_of_some _ q
  refine ⟨raw.typeIs, (fun a e => by cases e; exact ⟨o, ho, hx.2.1⟩), ?_⟩
  show wpAny _ _ (callWith cpos (.builtin "dict.items") [.ref d] [] []) _ X.xe s1
  refine method_meetsIn F.slot_dict_items F.entry_dict_items rfl (PySem.evalArgs_none ⟨rfl, raw.typeIs, F.args_dict_items_1 _, _, meets_dict_items_raw d hs0, ⟨es, ep, raw⟩, ?_⟩)
  refine Calls.spliced_nil ?_
  refine PySem.W.dil_call (es := es) (ep := ep) (I1.ok.hd hc) ⟨_, Heap.get?_push_size _ rfl, rfl, rfl⟩ (raw.push _) (by omega) fun h' tk acc c as hk hS hl hG hacc => ?_
  obtain ⟨H', k1, k2, k3, k4, J⟩ := items_laidT (tk := tk) I2 hz hsz ent hk hS hl hG hacc
  exact ⟨.ref _, H', J, rfl, q H' _ as k1 k2 k3 (by omega) k4⟩
end
/-! dict() of pairs, keys may come again -/
def storeT (l : List (List Key × V)) (acc : List (List Key × V)) : List (List Key × V) := l.foldl (fun acc p => putK acc p.1 p.2) acc
def rDictPD (K : PySem.W.Frag) : List V → Hp → VK → Prop := fun xs H Q => ∃ (a : Addr) (ts : List T3), xs = [.ref a] ∧ SqL K H a (ts.map fun t => V.ref t.1) ∧ (∀ t, t ∈ ts → SqT K H t.1 [.ref t.2.1, t.2.2.2] ∧ H t.2.1 = some (.tup (t.2.2.1.map kV))) ∧
  ∀ p, H p = none → Q (.ref p) (upd H p (.dT (storeT (ts.map fun t => t.2.2) [])))
theorem kt_store {H : Hp} {R : T3 → Value → Prop} (hR : ∀ t y, R t y → RelV t.2.2.2 y) : ∀ {ts : List T3} {ys : List Value}, Paired R ts ys → (∀ t, t ∈ ts → H t.2.1 = some (.tup (t.2.2.1.map kV))) → ∀ {kvs : List (List Key × V)} {xs : List (List Key × Addr × Value)}, KT H kvs xs →
    KT H (storeT (ts.map fun t => t.2.2) kvs) (storedAllH xs (List.zipWith (fun (t : T3) y => (t.2.2.1, t.2.1, y)) ts ys))
  | _, _, .nil, _, _, _, r => r
  | _, _, .cons (a := t) (b := y) h tl, ht, kvs, xs, r => kt_store hR tl (fun t h => ht t (List.mem_cons_of_mem _ h)) (KT.put r t.2.2.1 (ht t List.mem_cons_self) (hR _ _ h))
theorem putK_len (kvs : List (List Key × V)) (k : List Key) (v : V) : (putK kvs k v).length ≤ kvs.length + 1 := length_putK kvs k v
theorem storeT_len : ∀ (l acc : List (List Key × V)), (storeT l acc).length ≤ acc.length + l.length
  | [], acc => Nat.le_refl _
  | p :: l, acc => by
    have := storeT_len l (putK acc p.1 p.2)
    have := putK_len acc p.1 p.2
    show (storeT l (putK acc p.1 p.2)).length ≤ acc.length + (l.length + 1)
    omega
theorem cr_dictPD {X : Cx} (hcalm : X.calm = true) (hu : X.A.units + 64 < cLine) : CallR X (.type "dict") (rDictPD X.K) := by
  intro pins s σ H xs us Q I r q
  obtain ⟨a, ts, ex, hq, ht, q⟩ := q
  subst ex
  obtain ⟨u, eu, rx⟩ := vals1 r
  subst eu
  cases rx
  obtain ⟨its, rv, pl, hz⟩ := I.list hq
  have ei := refs_at (ps := ts.map fun t => t.1) (us := its) (by rw [List.map_map]; exact rv)
  subst ei
  rw [List.length_map] at hz
  obtain ⟨ys, hp⟩ := trips_of I ht
  have hlen : ys.length = ts.length := (Paired.length hp).symm
  obtain ⟨o, n, ho, hc, hd, hdat⟩ := pl
  have hprs : (List.zipWith (fun (t : T3) y => (Value.ref t.2.1, y)) ts ys).length = ts.length := by rw [List.length_zipWith]; omega
  have hps3 : (List.zipWith (fun (t : T3) y => (t.2.2.1, t.2.1, y)) ts ys).length = ts.length := by rw [List.length_zipWith]; omega
  refine PySem.call_dict_pairsH (knd := tupleKind (mixKind X.prog X.w)) (ps := List.zipWith (fun (t : T3) y => (t.2.2.1, t.2.1, y)) ts ys)
    (PairArg.list a ((ts.map fun t => t.1).map Value.ref).toArray (fun j => ((ts[j]?).map fun t => t.1).getD a) (List.zipWith (fun (t : T3) y => (Value.ref t.2.1, y)) ts ys)) (I.ok.hd hcalm) (show X.A.in1.in1.units < cLine from ?_) ⟨⟨o, n, ho, hc, hd, hdat⟩, ?_, fun j k v e => ?_⟩ ⟨by rw [hps3, hprs], fun i key v e => ?_⟩ (fun h' hk x hx => ?_) (by rw [hprs]; exact hz) fun h' tk hd' hk => ?_
  · show X.A.units + 1 + 1 < cLine
    omega
  · simp [hprs]
  · obtain ⟨t, y, e1, e2, e3⟩ := List.getElem?_zipWith_eq_some.mp e
    cases e3
    have hr := pairAt hp e1 e2
    refine ⟨by simp [e1], ?_⟩
    show PairAt s.heap (((ts[j]?).map fun t => t.1).getD a) _ _
    rw [e1]
    obtain ⟨o2, h1, h2, n2, h3⟩ := hr.2
    exact .inl ⟨o2, h1, h2, n2, h3⟩
  · obtain ⟨t, y, e1, e2, e3⟩ := List.getElem?_zipWith_eq_some.mp e
    cases e3
    exact ⟨t.2.2.1, t.2.1, List.getElem?_zipWith_eq_some.mpr ⟨t, v, e1, e2, rfl⟩, rfl⟩
  · obtain ⟨i, e⟩ := List.mem_iff_getElem?.mp hx
    obtain ⟨t, y, e1, e2, e3⟩ := List.getElem?_zipWith_eq_some.mp e
    subst e3
    obtain ⟨o2, its2, n2, h1, h2, h3, h4⟩ := (show IsTupleKey (mixKind X.prog X.w) s.heap t.2.2.1 t.2.1 from key_of I.hok (ht t (List.mem_of_getElem? e1)).2)
    exact ⟨o2, its2, n2, hk _ _ (Nat.ne_of_lt (Heap.lt_size h1)) (fun z => by cases z) h1, h2, h3, h4⟩
  · have hm : (s.heap.objs.size == sysModules) = false := beq_eq_false_iff_ne.mpr (Nat.ne_of_gt I.big)
    obtain ⟨o3, es, ep, g1, g2, g3, g4, _, g6⟩ := hd'
    have hl2 : (storeT (ts.map fun t => t.2.2) []).length ≤ sizeLine := by
      have := storeT_len (ts.map fun t => t.2.2) []
      rw [List.length_map] at this
      simp only [List.length_nil] at this
      omega
    refine ⟨.ref s.heap.objs.size, upd H s.heap.objs.size (.dT (storeT (ts.map fun t => t.2.2) [])), I.laid (t' := tk) (fun b u e => hk b u (fun z => by cases z) e) (Nat.le_refl _) (show ObjOk X.prog X.w _ _ _ (.dT (storeT (ts.map fun t => t.2.2) [])) from ⟨hl2, hm, _, ?_, o3, es, ep, g1, g2, g3, g4, g6⟩), rfl, q _ (I.hok.fresh (Nat.le_refl _))⟩
    exact KT.keeps (kt_store (fun t y h => h.1) hp (fun t h => (ht t h).2) .nil) fun b xs e => by rw [upd_ne (ne_of_none e (I.hok.fresh (Nat.le_refl _)))]; exact e
def rDictW (K : PySem.W.Frag) : List V → Hp → VK → Prop := fun xs H Q => rDictV K xs H Q ∨ rDictPD K xs H Q
theorem u_dictW {X : Cx} (hc : X.calm = true) (hu : X.A.units + 64 < cLine) : CallR X (.type "dict") (rDictW X.K) := (u_dictV hc hu).or (cr_dictPD hc hu)
/-! lambdas in a comprehension -/
theorem lamS_in {X : Cx} {s : Shared} {H : Hp} {sc1 scope dsc : Scope} {cl : List (Str × Addr)} {C : Addr} {fp : List Addr} (hs : X.env.scope = dsc) (h : LamX.lamSB (relabelS sc1 dsc) scope = true) :
    LamX.LamS (X.blk s H sc1 (compEnvC sc1 cl C X.env) fp).env.scope scope := by
  subst hs
  exact LamX.lamS_by (sc := relabelS sc1 X.env.scope) h
end Ph
namespace Ph
open PySem PySem.Spec PyProof PyProof.Rows L2
theorem d_dictSetT {X : Cx} {pins : List (Addr × Obj)} {σ : L2.St} {H : Hp} {s : Shared} {E : Value → Shared → Prop} {D b : Addr} {kvs : List (List Key × V)} {k : List Key} {v : V} {u r : Value} {Q : Unit → Shared → Prop} (hu : X.A.units + 64 < cLine) (I : Inv X pins σ H s) (hD : H D = some (.dT kvs)) (hb : H b = some (.tup (k.map kV))) (hz : kvs.length < sizeLine)
    (ry : RelV (.ref b) u) (rv : RelV v r) (h : ∀ s', Inv X pins σ (upd H D (.dT (putK kvs k v))) s' → Q () s') : wpAny (model X.prog X.w) X.A (dictSet D u r) Q E s := by
  cases (show u = Value.ref b from ry)
  obtain ⟨z, hd, xs, rel, dd⟩ := dt_of I.hok hD
  have hzx : xs.length ≤ sizeLine := by rw [← Paired.length rel]; exact z
  have hl : (putK kvs k v).length ≤ sizeLine := by have := length_putK kvs k v; omega
  refine wpAny_dictSet_heap (hsz := hzx) (show X.A.units < cLine by omega) (key_of I.hok hb) dd fun h' dd' hs => h _ ?_
  obtain ⟨q, es, ep, hq, h2, h3, h4, _, h5⟩ := dd'
  refine d_write I (by rw [hD]; exact True.intro) hs ⟨q, hq⟩ ⟨hl, hd, _, (rel.put k hb rv).keeps fun c ys ec => ?_, q, es, ep, hq, h2, h3, h4, h5⟩
  rw [upd_ne (ne_of ec hD (fun z => nomatch z))]
  exact ec
def tDcT (wi : TI) (g : TG) (tt : TT) (tk tv : TE) (vs : List Nat) : TE := fun σ H Q => wi σ H fun J H1 => ∀ D, H1 D = none → ∃ W : Nat → Nat → Hp → Prop, (∃ m, W 0 m (upd H1 D (.dT []))) ∧ ∀ i m H, W i m H →
  (J.stop i H ∧ Q (.ref D) H) ∨ (J.go i H ∧ ∃ Nx : Hp → Prop, (∀ H', Nx H' → ∃ m', m' < m ∧ W (i + 1) m' H') ∧ ∀ x H', J.yld i H x H' → g x (wipe σ vs) H' fun σ2 H2 => wipe σ2 vs = wipe σ vs ∧ tt σ2 H2 fun b H3 =>
    if b = true then tk σ2 H3 fun y H4 => tv σ2 H4 fun z H5 => ∃ kvs k bb, y = .ref bb ∧ H5 bb = some (.tup (k.map kV)) ∧ H5 D = some (.dT kvs) ∧ kvs.length < sizeLine ∧ Nx (upd H5 D (.dT (putK kvs k z))) else Nx H3)
section
variable {X : Cx}
theorem dcT_core {pins : List (Addr × Obj)} {s : Shared} {σ : L2.St} {H : Hp} {Q : VK} {kx vx tg iter : Expr} {ifs : List Expr} {scope : Scope} {own : List (Str × Nat)} {pos pos' : Pos} {wi : TI} {g : TG} {tt : TT} {tk tv : TE} {use : Option (Value → Sem Unit)} {Qf : Value → Shared → Prop}
    (hc : X.calm = true) (hu : X.A.units + 64 < cLine) (hN : X.N.Nodup) (I : Inv X pins σ H s) (hi : PI X tg iter wi) (ok : BlkOk X.N X.env.scope scope own)
    (hg : ∀ (s : Shared) (H : Hp) (C : Addr) (cl : List (Str × Addr)) (fp : List Addr), PG (X.blk s H scope (compEnvC scope cl C X.env) fp) tg g) (ht : ∀ (s : Shared) (H : Hp) (C : Addr) (cl : List (Str × Addr)) (fp : List Addr), PTs (X.blk s H scope (compEnvC scope cl C X.env) fp) ifs tt)
    (hk : ∀ (s : Shared) (H : Hp) (C : Addr) (cl : List (Str × Addr)) (fp : List Addr), PE (X.blk s H scope (compEnvC scope cl C X.env) fp) kx tk)
    (he : ∀ (s : Shared) (H : Hp) (C : Addr) (cl : List (Str × Addr)) (fp : List Addr), PE (X.blk s H scope (compEnvC scope cl C X.env) fp) vx tv) (hs : ∀ x, foldedSetIterable iter X.env x = pure x)
    (h : tDcT wi g tt tk tv (own.map (·.2)) σ H Q)
    (hRR : ∀ D C s' m H', Inv X pins σ H' s' → Q (.ref D) H' → s'.heap.Ns C m → FpOk X pins H' C → compPost (model X.prog X.w) X.A X.xe use Qf (.ref D) C (.ok .next) s') :
    wpAny (model X.prog X.w) X.A (comprehension (.DictComp kx vx [⟨tg, iter, ifs, 0⟩] scope pos) scope X.env pos' newDict false (eval iter X.env) use) Qf X.xe s := by
  have hfree : ∀ y ∈ scope.names, y.2 = .free → ∃ c, X.env.cells.lookup y.1 = some c := fun y hy e => by
    rcases ok.free y hy e with k | k
    · exact I.ok.has _ (.inl k)
    · exact I.ok.has _ (.inr k)
  refine wpAny_comprehension_free (use := use) rfl hs (closure_ok hfree) ok.kind (fun y hy e => by rw [ok.uniq y hy, e])
    (thn (hi.run pins s σ H _ I h) fun xv s1 hx => thn hx fun itv s2 h2 => ?_)
  obtain ⟨it, fp, tn, J, H2, e, I2, T, st2, f2, q⟩ := h2
  subst e
  refine wpAny_newObj_type (newEnv_comp ?_)
  generalize hD : s2.heap.objs.size = D
  have hDn : H2 D = none := I2.hok.fresh (Nat.le_of_eq hD)
  obtain ⟨W, ⟨m0, w0⟩, turn⟩ := q D hDn
  -- the new list
  generalize hs3 : ({ s2 with heap := s2.heap.push { cls := .type "dict", data := .dict #[] } } : Shared) = s3
  have I3 : Inv X pins σ (upd H2 D (.dT [])) s3 := by
    rw [← hs3]
    refine I2.laid (t' := s2.toks) (fun b o e => Heap.get?_push_of_some _ e) (Nat.le_of_eq hD) ?_
    rw [← hD]
    exact dt_empty s2.heap I2.big
  have h3 : s3.heap = s2.heap.push { cls := .type "dict", data := .dict #[] } := by rw [← hs3]
  have sz : ∀ b ∈ fp, b < s2.heap.objs.size := fun b hb => by
    obtain ⟨o, e, _⟩ := T.obj _ _ st2 b hb
    exact Heap.lt_size e
  have f3 : ∀ b ∈ fp, FpOk X pins (upd H2 D (.dT [])) b ∧ b < s3.heap.objs.size := fun b hb => by
    have hlt := sz b hb
    refine ⟨⟨?_, (f2 b hb).2⟩, by rw [h3, Heap.size_push]; exact Nat.lt_succ_of_lt hlt⟩
    rw [upd_ne (by rw [← hD]; exact Nat.ne_of_lt hlt)]
    exact (f2 b hb).1
  have st3 : tn 0 s3.heap := T.keep _ _ _ st2 fun b _ o e => by rw [h3]; exact Heap.get?_push_of_some _ e
  have I4 := block_start I3 ok hN f3
  have pg := hg s3 (upd H2 D (.dT [])) s3.heap.objs.size (cellsFrom (s3.heap.objs.size + 1) scope.names (cloFrom X.env.cells scope.names [])) fp
  have pt := ht s3 (upd H2 D (.dT [])) s3.heap.objs.size (cellsFrom (s3.heap.objs.size + 1) scope.names (cloFrom X.env.cells scope.names [])) fp
  have pk := hk s3 (upd H2 D (.dT [])) s3.heap.objs.size (cellsFrom (s3.heap.objs.size + 1) scope.names (cloFrom X.env.cells scope.names [])) fp
  have pe := he s3 (upd H2 D (.dT [])) s3.heap.objs.size (cellsFrom (s3.heap.objs.size + 1) scope.names (cloFrom X.env.cells scope.names [])) fp
  show codeAny _ _ (.compStart (.DictComp kx vx [⟨tg, iter, ifs, 0⟩] scope pos) 0 (.ref it) (.ref D) (compEnvC scope (cellsFrom (s3.heap.objs.size + 1) scope.names (cloFrom X.env.cells scope.names [])) s3.heap.objs.size X.env)) (compPost (model X.prog X.w) X.A X.xe use Qf (.ref D) s3.heap.objs.size) { s3 with heap := pushCells (s3.heap.push { cls := .type "dict", data := .dict #[] }) scope.names }
  have nfp : ∀ b ∈ fp, (upd H2 D (.dT [])) b = none := fun b hb => (f3 b hb).1.1
  generalize hce : compEnvC scope (cellsFrom (s3.heap.objs.size + 1) scope.names (cloFrom X.env.cells scope.names [])) s3.heap.objs.size X.env = ce at I4 pg pt pk pe ⊢
  have cL : ce.locals = s3.heap.objs.size := by subst hce; rfl
  generalize hH3 : upd H2 D (.dT []) = H3 at I3 I4 pg pt pk pe w0 nfp f3
  generalize hs4 : ({ s3 with heap := pushCells (s3.heap.push { cls := .type "dict", data := .dict #[] }) scope.names } : Shared) = s4 at I4 ⊢
  have st4 : tn 0 s4.heap := T.keep _ _ _ st3 fun b _ o e => by rw [← hs4]; exact pushCells_keeps _ _ _ _ (Heap.get?_push_of_some _ e)
  have stat : ∀ {σ' : L2.St} {H' : Hp} {s' : Shared}, Inv (X.blk s3 H3 scope ce fp) [] σ' H' s' → (∀ b ∈ fp, H' b = none) → ∀ b ∈ fp, FpOk (X.blk s3 H3 scope ce fp) [] H' b := fun {σ' H' s'} I' hn b hb =>
    ⟨hn b hb, (I'.ok.exf b hb).1, I'.ok.exfs b hb, .inl hb, fun x c e => (I'.ok.exf b hb).2 x c e, fun p hp => absurd (show p ∈ ([] : List (Addr × Obj)) ++ [] from hp) (by simp)⟩
  have loop : codeAny (model X.prog X.w) X.A (.compLoop (.DictComp kx vx [⟨tg, iter, ifs, 0⟩] scope pos) 0 (.ref it) (.ref D) ce) (compPost (model X.prog X.w) X.A X.xe use Qf (.ref D) s3.heap.objs.size) s4 := by
    refine compLoop_anyD (fun n s' => ∃ i H', Inv (X.blk s3 H3 scope ce fp) [] (wipe σ (own.map (·.2))) H' s' ∧ tn i s'.heap ∧ (∀ b ∈ fp, H' b = none) ∧ W i n H') ?_ m0 ⟨0, H3, I4, st4, nfp, w0⟩
    rintro n s5 ⟨i, H5, I5, st5, n5, w5⟩
    rcases turn i n H5 w5 with ⟨stop, qq⟩ | ⟨go, Nx, hNx, step⟩
    · have td := T.done (X.blk s3 H3 scope ce fp) rfl rfl rfl hc i [] s5 _ H5 (fun _ _ => False) I5 (stat I5 n5) st5 stop
      refine thnF td fun r s6 ⟨hr, I6⟩ => ?_
      subst hr
      -- back in the def's context
      have I7 : Inv X pins σ H5 s6 := I3.call' (ch := fp) I6.os I6.base I6.hok I6.bare fun b hb => ⟨(f3 b hb).1.2.2.2.1, (f3 b hb).1.2.1, (f3 b hb).1.2.2.2.2.1, (f3 b hb).1.2.2.2.2.2⟩
      have nC : H5 s3.heap.objs.size = none := by
        have z : H5 ce.locals = none := I6.free
        rw [cL] at z
        exact z
      obtain ⟨m, hn, _⟩ := I6.loc
      have hn : s6.heap.Ns ce.locals m := hn
      rw [cL] at hn
      exact hRR D s3.heap.objs.size s6 m H5 I7 qq hn (I3.fpOk (Nat.le_refl _) nC)
    · have ti := T.item (X.blk s3 H3 scope ce fp) rfl rfl rfl hc i [] s5 _ H5 (fun _ _ => False) I5 (stat I5 n5) st5 go
      refine thnF ti fun r s6 ⟨u, hr, h6⟩ => ?_
      subst hr
      refine thnF h6 fun _ s7 ⟨x, H7, I7, r7, y7, st7, n7⟩ => ?_
      have I7' := I7.pinned (stat I7 n7) (T.obj _ _ st7)
      refine thnF (pg.run _ s7 _ H7 x u _ I7' r7 (step x H7 y7)) fun _ s8 ⟨σ8, H8, I8, hw8, q8⟩ => ?_
      refine thnF (pt.run _ s8 σ8 H8 _ I8 q8) fun b s9 ⟨H9, I9, q9⟩ => ?_
      -- the turn's end
      have fin : ∀ {s' : Shared} {H' : Hp}, Inv (X.blk s3 H3 scope ce fp) ([] ++ pinsAt fp s7.heap) σ8 H' s' → Nx H' → ∃ m, m < n ∧ ∃ i H', Inv (X.blk s3 H3 scope ce fp) [] (wipe σ (own.map (·.2))) H' s' ∧ tn i s'.heap ∧ (∀ b ∈ fp, H' b = none) ∧ W i m H' := fun {s' H'} I' nx => by
        obtain ⟨m', hm, w'⟩ := hNx H' nx
        have pin' : ∀ b ∈ fp, ∀ o, s7.heap.get? b = some o → s'.heap.get? b = some o ∧ H' b = none := fun b hb o e =>
          let z := I'.pin (b, o) (List.mem_append_right _ (List.mem_append_right _ (mem_pinsAt hb e)))
          ⟨z.1, z.2.1⟩
        have hl : (wipe σ (own.map (·.2))).length = σ8.length := by rw [← hw8, wipe_length]
        refine ⟨m', hm, i + 1, H', (I'.unpinned (pins := [])).weak hl (fun j v e => ?_), T.keep _ _ _ st7 fun b hb o e => (pin' b hb o e).1, fun b hb => ?_, w'⟩
        · rw [← hw8] at e
          exact (wipe_some e).1
        · obtain ⟨o, e, _⟩ := T.obj _ _ st7 b hb
          exact (pin' b hb o e).2
      cases b with
      | false =>
        simp only [Bool.false_eq_true, if_false] at q9 ⊢
        exact fin I9 q9
      | true =>
        simp only [if_true] at q9 ⊢
        refine thnF (pk.run _ s9 σ8 H9 _ I9 q9) fun z s10 ⟨yk, H10, I10, r10, q10⟩ => ?_
        refine thnF (pe.run _ s10 σ8 H10 _ I10 q10) fun z2 s11 ⟨yv, H11, I11, r11, kvs, k, bb, ek, hb11, hD11, hz11, nx⟩ => ?_
        subst ek
        exact d_dictSetT (X := X.blk s3 H3 scope ce fp) hu I11 hD11 hb11 hz11 r10 r11 fun s12 I12 => fin I12 nx
  exact codeAny_compStart_dict loop (T.self X.A 0 _ _ _ st4 loop)
/-- as a value -/
theorem pe_dcT {kx vx tg iter : Expr} {ifs : List Expr} {scope : Scope} {own : List (Str × Nat)} {pos : Pos} {wi : TI} {g : TG} {tt : TT} {tk tv : TE} (hc : X.calm = true) (hu : X.A.units + 64 < cLine) (hN : X.N.Nodup) (hi : PI X tg iter wi) (ok : BlkOk X.N X.env.scope scope own)
    (hg : ∀ (s : Shared) (H : Hp) (C : Addr) (cl : List (Str × Addr)) (fp : List Addr), PG (X.blk s H scope (compEnvC scope cl C X.env) fp) tg g) (ht : ∀ (s : Shared) (H : Hp) (C : Addr) (cl : List (Str × Addr)) (fp : List Addr), PTs (X.blk s H scope (compEnvC scope cl C X.env) fp) ifs tt)
    (hk : ∀ (s : Shared) (H : Hp) (C : Addr) (cl : List (Str × Addr)) (fp : List Addr), PE (X.blk s H scope (compEnvC scope cl C X.env) fp) kx tk)
    (he : ∀ (s : Shared) (H : Hp) (C : Addr) (cl : List (Str × Addr)) (fp : List Addr), PE (X.blk s H scope (compEnvC scope cl C X.env) fp) vx tv) (hs : ∀ x, foldedSetIterable iter X.env x = pure x := by intro _; rfl) :
    PE X (.DictComp kx vx [⟨tg, iter, ifs, 0⟩] scope pos) (tDcT wi g tt tk tv (own.map (·.2))) := by
  refine ⟨fun pins s σ H Q I h => ?_⟩
  rw [arm_eval_DictComp]
  refine dcT_core hc hu hN I hi ok hg ht hk he hs h fun D C s' m H' I' q hn f => ⟨m, hn, fun h'' sb => ?_⟩
  obtain ⟨f0, f1, f2, f3, f4, f5⟩ := f
  exact ⟨.ref D, H', I'.turned (t' := s'.toks) (fun b o hb e => (sb.2 b hb).trans e) f0 f1 f3 f4 f5, rfl, q⟩
end
end Ph
namespace Ph
open PySem PySem.Spec PyProof PyProof.Rows L2
section
variable {prog : Program} {w : World} {K : Type} [DecidableEq K] {knd : HeapKind prog w K} {A : Around} {E : Value → Shared → Prop} {s : Shared}
theorem samePairsH {nm : String} {a b : Addr} {xa xb : List (K × Addr × Value)} {Q : Bool → Shared → Prop} (hu : knd.room A) (ha : (a == sysModules) = false) (hb : (b == sysModules) = false)
    (da : s.heap.DictOfH knd a xa) (db : s.heap.DictOfH knd b xb) (hl : xa.length = xb.length) (hits : ∀ (x : K × Addr × Value), x ∈ xa → ∃ (j : Nat) (p : Addr × Value), xb[j]? = some (x.1, p) ∧ SeqAt.EqAt A s x.2.2 p.2 true) (h : Q true s) :
    wpAny (model prog w) A (Builtin.Dict.samePairs nm a b) Q E s := by
  obtain ⟨oa, es, ep, hoa, _, hda, hea, hia, hna⟩ := da
  obtain ⟨ob, es', ep', hob, _, hdb, heb, hib, hnb⟩ := db
  have hla : es.size = xa.length := size_of_entries hea
  have hlb : es'.size = xb.length := size_of_entries heb
  unfold Builtin.Dict.samePairs Builtin.Dict.showsAll
  rw [if_neg (show ¬ (a == sysModules) = true by rw [ha]; exact Bool.false_ne_true), if_neg (show ¬ (b == sysModules) = true by rw [hb]; exact Bool.false_ne_true)]
  refine wpAny_bind (wpAny_pure (wpAny_bind (wpAny_pure ?_)))
  refine wpAny_bind (wpAny_dictEntries hoa hda ?_)
  dsimp only
  refine wpAny_bind (wpAny_dictEntries hob hdb ?_)
  have hsz : es.size = es'.size := by omega
  rw [if_neg (by rw [hsz]; simp)]
  refine wpAny_bind (wpAny_dictEpoch hoa hda ?_)
  refine wpAny_bind ?_
  rw [Std.Legacy.Range.forIn_eq_forIn_range']
  simp only [Std.Legacy.Range.size, Nat.sub_zero, Nat.add_sub_cancel, Nat.div_one]
  refine wpAny_forIn_list _
    (fun rest q s' => s' = s ∧ q = (none, ()) ∧ ∃ i, rest = List.range' i (es.size - i) ∧ i ≤ es.size)
    _ ?_ ?_ _ _ ⟨rfl, rfl, 0, by simp, Nat.zero_le _⟩
  · rintro x rest q s' ⟨rfl, rfl, i, hr, hi⟩
    have hlt : i < es.size := by
      rcases Nat.lt_or_ge i es.size with h | h
      · exact h
      · rw [Nat.sub_eq_zero_of_le h] at hr; simp at hr
    obtain ⟨rfl, hrest⟩ : x = i ∧ rest = List.range' (i + 1) (es.size - (i + 1)) := by
      have e : es.size - i = (es.size - (i + 1)) + 1 := by omega
      rw [e, List.range'_succ] at hr
      injection hr with h1 h2
      exact ⟨h1, h2⟩
    refine wpAny_bind (wpAny_dictEntries hoa hda ?_)
    have hlt' : x < xa.length := by omega
    have ent : es[x] = entryOfKey knd xa[x] := by
      have e := entry_at hea x
      rw [Array.getElem?_eq_getElem hlt, List.getElem?_eq_getElem hlt', Option.map_some] at e
      exact Option.some.inj e
    rw [Array.getElem?_eq_getElem hlt]
    obtain ⟨j, p, hj, he⟩ := hits xa[x] (List.getElem_mem hlt')
    have hkey := hia xa[x] (List.getElem_mem hlt')
    show wpAny _ _ (holding [es[x].key, es[x].val] _ >>= _) _ _ _
    rw [ent]
    refine wpAny_bind (wpAny_holding (wpAny_bind (wpAny_dictFind_heap (k := xa[x].1) hu hkey hob hdb heb hib hnb (fun hno => absurd hj (hno j p)) fun j2 p2 hj2 => ?_)))
    have e2 : j2 = j := idxH_unique hnb hj2 hj
    subst e2
    rw [hj] at hj2
    cases hj2
    refine wpAny_bind (wpAny_dictEntries hob hdb ?_)
    have entb : es'[j2]? = some (entryOfKey knd (xa[x].1, p)) := by rw [entry_at heb j2, hj]; rfl
    rw [entb]
    refine wpAny_holding (he prog w _ _ ?_)
    show wpAny _ _ (if (!true) = true then _ else _) _ _ _
    rw [if_neg (by decide)]
    refine wpAny_bind (wpAny_dictEpoch hoa hda ?_)
    rw [if_neg (by simp)]
    exact wpAny_pure ⟨rfl, rfl, x + 1, hrest, hlt⟩
  · rintro q s' ⟨rfl, rfl, i, hr, hi⟩
    exact wpAny_pure h
theorem rcNe_dictsH {a b : Addr} {xa xb : List (K × Addr × Value)} (hk : knd.room A.in1) (ha : (a == sysModules) = false) (hb : (b == sysModules) = false)
    (da : s.heap.DictOfH knd a xa) (db : s.heap.DictOfH knd b xb) (hu : A.units < cLine) (hl : xa.length = xb.length) (hits : ∀ (x : K × Addr × Value), x ∈ xa → ∃ (j : Nat) (p : Addr × Value), xb[j]? = some (x.1, p) ∧ SeqAt.EqAt A.in1 s x.2.2 p.2 true) {Q : Value → Shared → Prop} (h : Q (.bool false) s) : wpAny (model prog w) A (compareOp .NotEq (.ref a) (.ref b)) Q E s := by
  have ra : ∃ es ep, s.heap.DictRaw a es ep := let ⟨es, ep, x, _⟩ := da.raw; ⟨es, ep, x⟩
  have rb : ∃ es ep, s.heap.DictRaw b es ep := let ⟨es, ep, x, _⟩ := db.raw; ⟨es, ep, x⟩
  obtain ⟨_, _, ra⟩ := ra
  obtain ⟨_, _, rb⟩ := rb
  refine wpAny_richCompare_same_room (op := .NotEq) ra.typeIs rb.typeIs PySem.F.slot_dict_ne (wpAny_call_entry PySem.F.slot_dict_ne ra.typeIs PySem.F.entry_dict_ne ?_ (PySem.F.args_dict_ne_2 _ _)) hu
  show wpAny _ _ (Builtin.Dict.dictSlotArgs "__ne__" ⟨[.ref a, .ref b], []⟩ >>= _) _ _ s
  refine wpAny_bind ?_
  unfold Builtin.Dict.dictSlotArgs
  refine wpAny_bind (PySem.wpAny_notOrdered_dict ra.typeIs ?_)
  show wpAny _ _ (pure (Value.ref a, Value.ref b)) _ _ s
  refine wpAny_pure ?_
  refine wpAny_bind (wpAny_isInstance (T := "dict") rb.typeIs PySem.F.sub_dict_dict ?_)
  simp only [Bool.not_true, Bool.false_eq_true, if_false]
  refine wpAny_bind (wpAny_pure (wpAny_bind (wpAny_pure ?_)))
  refine wpAny_bind (samePairsH hk ha hb da db hl hits ?_)
  refine wpAny_pure ⟨_, rfl, ?_, ?_⟩
  · exact fun x => nomatch x
  · exact h
end
def rNeDT : R2 := fun x y H Q => ∃ a b ks ls, x = .ref a ∧ y = .ref b ∧ H a = some (.dT ks) ∧ H b = some (.dT ls) ∧ ks.length = ls.length ∧ (∀ p, p ∈ ks → (p.1, p.2) ∈ ls ∧ flatB p.2 = true) ∧ Q (.bl false) H
def rNeZ (K : PySem.W.Frag) : R2 := fun x y H Q => rNeW K x y H Q ∨ rNeDT x y H Q
theorem op_neDT {X : Cx} (hu : X.A.units + 64 < cLine) : OpR X (compareOp .NotEq) rNeDT := by
  intro pins s σ H x y v u Q I rx ry h
  obtain ⟨a, b, ks, ls, rfl, rfl, ha, hb, hl, hp, q⟩ := h
  obtain rfl : v = Value.ref a := rx
  obtain rfl : u = Value.ref b := ry
  obtain ⟨_, ya, va, ra, da⟩ := dt_of I.hok ha
  obtain ⟨_, yb, vb, rb, db⟩ := dt_of I.hok hb
  have e1 := Paired.length ra
  have e2 := Paired.length rb
  refine rcNe_dictsH (knd := tupleKind (mixKind X.prog X.w)) (show X.A.units + 1 < cLine by omega) ya yb da db (by omega) (by omega) (fun x hx => ?_) ⟨.bl false, H, I, rfl, q⟩
  obtain ⟨i, hi⟩ := List.mem_iff_getElem?.mp hx
  have hi2 : i < ks.length := by
    have := (List.getElem?_eq_some_iff.mp hi).1
    omega
  have hr := pairAt ra (List.getElem?_eq_getElem hi2) hi
  obtain ⟨hm, hf⟩ := hp _ (List.getElem_mem hi2)
  obtain ⟨j, hj⟩ := List.mem_iff_getElem?.mp hm
  obtain ⟨z, hz, z1, z2, z3⟩ := paired_get rb hj
  refine ⟨j, z.2, by rw [hz, ← hr.1, z1], ?_⟩
  have q := eqAt_same (A := X.A.in1) (s := s) hr.2.2 z3 hf
  exact q
theorem u_neZ {X : Cx} (hu : X.A.units + 64 < cLine) : OpR X (compareOp .NotEq) (rNeZ X.K) := (u_neW hu).or (op_neDT hu)
end Ph
namespace Ph
open PySem PySem.Spec PyProof PyProof.Rows L2
theorem part_len (a b : Str) : (Txt.partition a b).1.length + (Txt.partition a b).2.1.length + (Txt.partition a b).2.2.length = a.length := by
  have h := congrArg Str.length (StrLaws.partition_sum a b)
  rw [PySem.Str.length_append, PySem.Str.length_append] at h
  exact h
section
variable {K : PySem.W.Frag} {B H : Hp} {L L' : List (Addr × HO)} {I : List Im} {Q : VK} {σ : L2.St} {d b P : Addr} {x y : Str} {tb : Array Value}
/-! partition, with names -/
theorem s_partG {a b x m r : Str} (hC : Ctx K B H L I) (e : Txt.partition a b = (x, m, r)) (hb : (b.length == 0) = false) (hz : a.length ≤ 100000) (k : ∀ p H1, Ctx K B H1 L (.tup p [.str x, .str m, .str r] :: I) → Q (.ref p) H1) : rPart1 (.str a) [.str b] H Q :=
  s_part hC hb hz (by rw [e]; exact k)
/-! f-strings -/
def kJ (ts : List TE) (acc : Str) (σ : L2.St) (Q : Str → Hp → Prop) : VK := fun x H1 => ∃ y : Str, x = .str y ∧ (acc ++ y).length ≤ sizeLine ∧ tJs ts (acc ++ y) σ H1 Q
theorem s_joined {t : TE} {ts : List TE} (h : t σ H (kJ ts Str.empty σ fun out H1 => Q (.str out) H1)) : tJoined (t :: ts) σ H Q := h
theorem s_js {t : TE} {ts : List TE} {acc y : Str} {Qs : Str → Hp → Prop} (z : (acc ++ y).length ≤ 100000) (h : t σ H (kJ ts (acc ++ y) σ Qs)) : kJ (t :: ts) acc σ Qs (.str y) H := ⟨y, rfl, Nat.le_trans z (by decide), h⟩
theorem s_jsE {acc y : Str} {Qs : Str → Hp → Prop} (z : (acc ++ y).length ≤ 100000) (h : Qs (acc ++ y) H) : kJ [] acc σ Qs (.str y) H := ⟨y, rfl, Nat.le_trans z (by decide), h⟩
def kFmt (Q : VK) : VK := fun x H1 => (∃ y : Str, x = .str y ∧ y.length ≤ sizeLine ∧ Q (.str y) H1) ∨ ∃ i : Int, x = .int i ∧ i.natAbs.log2 < 1920 ∧ Q (.str (toString i)) H1
theorem s_fmt {t : TE} (h : t σ H (kFmt Q)) : tFmt t σ H Q := h
theorem s_fmtS {y : Str} (z : y.length ≤ 100000) (h : Q (.str y) H) : kFmt Q (.str y) H := .inl ⟨y, rfl, Nat.le_trans z (by decide), h⟩
/-! a sign in a text; a text walked -/
theorem s_inS1 {c : Nat} {z : Str} (q : Q (.bl (decide (c ∈ z.cps.toList))) H) : rInV K (.str ⟨#[c]⟩) (.str z) H Q := .inl (.inr (.inr ⟨_, _, rfl, rfl, by rw [PySem.StrLaws.found_one]; exact q⟩))
theorem s_ninS1 {c : Nat} {z : Str} (q : Q (.bl (!decide (c ∈ z.cps.toList))) H) : rNotInV K (.str ⟨#[c]⟩) (.str z) H Q := .inl (.inr (.inr ⟨_, _, rfl, rfl, by rw [PySem.StrLaws.found_one]; exact q⟩))
def kStrI (R : It → Hp → Prop) : VK := fun v H1 => ∃ x, v = .str x ∧ R (Its x) H1
theorem s_istr {te : TE} {R : It → Hp → Prop} (h : te σ H (kStrI R)) : iStr te σ H R := h
theorem s_istrV {z : Str} {R : It → Hp → Prop} (h : R (Its z) H) : kStrI R (.str z) H := ⟨z, rfl, h⟩
theorem anyS_w {z : Str} {b0 : Bool} {g : TG} {te : TE} {vs : List Nat} (f : Nat → Bool) (hz : z.length ≤ 100000)
    (hs : ∀ c (Zy : VK) (Zn : Hp → Prop), Zy (.bl (f c)) H → g (.str ⟨#[c]⟩) (wipe σ vs) H fun σ2 H2 => wipe σ2 vs = wipe σ vs ∧ tYes σ2 H2 fun b H3 => if b = true then te σ2 H3 Zy else Zn H3)
    (k1 : (∃ c, c ∈ z.cps.toList ∧ f c = b0) → Q (.bl b0) H) (k2 : (∀ c, c ∈ z.cps.toList → f c = !b0) → Q (.bl (!b0)) H) : kAnyW b0 g tYes te vs σ Q (Its z) H := by
  refine any_w walk_str (show z.cps.size ≤ 100000 from hz) (fun i H' => H' = H ∧ ∀ j c, j < i → z.cps[j]? = some c → f c = !b0) ⟨rfl, fun j c h => absurd h (Nat.not_lt_zero _)⟩ (fun _ _ _ _ => trivial) ?_ ?_
  · rintro i v H1 H2 ys hi hy hm ⟨rfl, hp⟩ ⟨rfl, c, hc, rfl⟩
    refine hs c _ _ (s_anyE hy hm ?_)
    by_cases e : f c = b0
    · rw [if_pos e]
      exact k1 ⟨c, by rw [← Array.getElem?_toList] at hc; exact List.mem_of_getElem? hc, e⟩
    · rw [if_neg e]
      refine ⟨rfl, fun j c' hj hc' => ?_⟩
      by_cases q : j < i
      · exact hp j c' q hc'
      · have : j = i := by omega
        subst this
        rw [hc] at hc'
        cases hc'
        cases h : f c <;> cases b0 <;> simp_all
  · rintro H' ⟨rfl, hp⟩
    exact k2 fun c hc => by
      obtain ⟨j, hj⟩ := List.mem_iff_getElem?.mp hc
      rw [Array.getElem?_toList] at hj
      exact hp j c (Array.getElem?_eq_some_iff.mp hj).1 hj
/-- any(f(c) for c in z) -/
theorem anyS_t {z : Str} {g : TG} {te : TE} {vs : List Nat} (f : Nat → Bool) (hz : z.length ≤ 100000)
    (hs : ∀ c (Zy : VK) (Zn : Hp → Prop), Zy (.bl (f c)) H → g (.str ⟨#[c]⟩) (wipe σ vs) H fun σ2 H2 => wipe σ2 vs = wipe σ vs ∧ tYes σ2 H2 fun b H3 => if b = true then te σ2 H3 Zy else Zn H3)
    (k : Q (.bl (z.cps.toList.any f)) H) : kAnyW true g tYes te vs σ Q (Its z) H := by
  refine anyS_w f hz hs (fun ⟨c, h1, h2⟩ => ?_) (fun h => ?_)
  · rw [List.any_eq_true.mpr ⟨c, h1, h2⟩] at k
    exact k
  · rw [List.any_eq_false.mpr (fun c hc => by rw [h c hc]; simp)] at k
    exact k
/-- all(f(c) for c in z) -/
theorem allS_t {z : Str} {g : TG} {te : TE} {vs : List Nat} (f : Nat → Bool) (hz : z.length ≤ 100000)
    (hs : ∀ c (Zy : VK) (Zn : Hp → Prop), Zy (.bl (f c)) H → g (.str ⟨#[c]⟩) (wipe σ vs) H fun σ2 H2 => wipe σ2 vs = wipe σ vs ∧ tYes σ2 H2 fun b H3 => if b = true then te σ2 H3 Zy else Zn H3)
    (k : Q (.bl (z.cps.toList.all f)) H) : kAnyW false g tYes te vs σ Q (Its z) H := by
  refine anyS_w f hz hs (fun ⟨c, h1, h2⟩ => ?_) (fun h => ?_)
  · rw [List.all_eq_false.mpr ⟨c, h1, by rw [h2]; simp⟩] at k
    exact k
  · rw [List.all_eq_true.mpr (fun c hc => by rw [h c hc]; rfl)] at k
    exact k
/-! max of tuples -/
def kCkA (r : List V → List V → Hp → VK → Prop) (tk : TA) (σ : L2.St) (Q : VK) : List V → Hp → Prop := fun vs H1 => tk σ H1 fun zs H2 => r vs zs H2 Q
theorem s_ckw {r : List V → List V → Hp → VK → Prop} {t tk : TA} (h : t σ H (kCkA r tk σ Q)) : tCKw r t tk σ H Q := h
theorem s_ckA {r : List V → List V → Hp → VK → Prop} {tk : TA} {vs : List V} (h : tk σ H fun zs H2 => r vs zs H2 Q) : kCkA r tk σ Q vs H := h
theorem s_maxT {xs : List V} {ks : List (List Sc)} (m : H d = some (.lst xs)) (ht : TupS K H xs ks) (al : allLikeN ks) (hn : 0 < ks.length) (k : ∀ v, xs[maxIx ks]? = some v → Q v H) : rMaxT K [.ref d] H Q := ⟨d, xs, ks, rfl, SqL.of m, ht, al, hn, k⟩
theorem s_maxDT {xs : List V} {ks : List (List Sc)} {dv : V} (m : H d = some (.lst xs)) (ht : TupS K H xs ks) (al : allLikeN ks) (k0 : ks = [] → Q dv H) (k : ∀ v, 0 < ks.length → xs[maxIx ks]? = some v → Q v H) : rMaxDT K [.ref d] [dv] H Q := ⟨d, xs, ks, dv, rfl, rfl, SqL.of m, ht, al, k0, k⟩
/-! dicts with tuple keys -/
theorem s_neZ {a : Addr} {l : List ((Str × Str) × V)} (ha : H a = some (.dT (mP id l))) (hb : H b = some (.dT (mP id l))) (fl : ∀ p, p ∈ l → flatB p.2 = true) (q : Q (.bl false) H) : rNeZ K (.ref a) (.ref b) H Q :=
  .inr ⟨a, b, _, _, rfl, rfl, ha, hb, rfl, fun p hp => by
    refine ⟨hp, ?_⟩
    unfold mP at hp
    obtain ⟨z, hz, rfl⟩ := List.mem_map.mp hp
    exact fl z hz, q⟩
theorem s_neZo {x y : V} (h : rNeU K x y H Q) : rNeZ K x y H Q := .inl (s_neWo h)
def kItemsT (R : It → Hp → Prop) : VK := fun x H1 => ∃ d o kvs, x = .ref d ∧ H1 d = some (.frz o (.dT kvs)) ∧ R (ItiT d o kvs) H1
theorem s_itemsT {td : TE} {R : It → Hp → Prop} (h : td σ H (kItemsT R)) : iItemsT td σ H R := h
theorem s_itemsTV {o : Obj} {kvs : List (List Key × V)} {R : It → Hp → Prop} (m : H d = some (.frz o (.dT kvs))) (h : R (ItiT d o kvs) H) : kItemsT R (.ref d) H := ⟨d, o, kvs, rfl, m, h⟩
def kDcT (g : TG) (tt : TT) (tk tv : TE) (vs : List Nat) (σ : L2.St) (Q : VK) : It → Hp → Prop := fun J H1 => ∀ D, H1 D = none → ∃ W : Nat → Nat → Hp → Prop, (∃ m, W 0 m (upd H1 D (.dT []))) ∧ ∀ i m H, W i m H →
  (J.stop i H ∧ Q (.ref D) H) ∨ (J.go i H ∧ ∃ Nx : Hp → Prop, (∀ H', Nx H' → ∃ m', m' < m ∧ W (i + 1) m' H') ∧ ∀ x H', J.yld i H x H' → g x (wipe σ vs) H' fun σ2 H2 => wipe σ2 vs = wipe σ vs ∧ tt σ2 H2 fun b H3 =>
    if b = true then tk σ2 H3 fun y H4 => tv σ2 H4 fun z H5 => ∃ kvs k bb, y = .ref bb ∧ H5 bb = some (.tup (k.map kV)) ∧ H5 D = some (.dT kvs) ∧ kvs.length < sizeLine ∧ Nx (upd H5 D (.dT (putK kvs k z))) else Nx H3)
theorem s_dcT {wi : TI} {g : TG} {tt : TT} {tk tv : TE} {vs : List Nat} (h : wi σ H (kDcT g tt tk tv vs σ Q)) : tDcT wi g tt tk tv vs σ H Q := h
theorem dcT_w {J : It} {n : Nat} {G : Hp → Prop} {Y : Nat → Hp → V → Hp → Prop} (w : Walk J n G Y) {g : TG} {tt : TT} {tk tv : TE} {vs : List Nat} (hC : Ctx K B H L I) (Pv : Addr → Nat → Hp → Prop) (h0 : ∀ D H1, Ctx K B H1 ((D, .dT []) :: L) I → Pv D 0 H1) (hG : ∀ D i H, i ≤ n → Pv D i H → G H)
    (hs : ∀ i x D H H', i < n → Pv D i H → Y i H x H' → g x (wipe σ vs) H' fun σ2 H2 => wipe σ2 vs = wipe σ vs ∧ tt σ2 H2 fun b H3 =>
      if b = true then tk σ2 H3 fun y H4 => tv σ2 H4 fun z H5 => ∃ kvs k bb, y = .ref bb ∧ H5 bb = some (.tup (k.map kV)) ∧ H5 D = some (.dT kvs) ∧ kvs.length < sizeLine ∧ Pv D (i + 1) (upd H5 D (.dT (putK kvs k z))) else Pv D (i + 1) H3)
    (hd : ∀ D H, Pv D n H → Q (.ref D) H) : kDcT g tt tk tv vs σ Q J H := by
  intro D hD
  refine ⟨fun i m H => m = n - i ∧ i ≤ n ∧ Pv D i H, ⟨n, by simp, Nat.zero_le _, h0 D _ (hC.newM hD rfl)⟩, ?_⟩
  rintro i m H ⟨rfl, hi, p⟩
  have q := hG D i H hi p
  by_cases hlt : i < n
  · refine .inr ⟨w.goes i H hlt q, Pv D (i + 1), fun H' p' => ⟨n - (i + 1), by omega, rfl, hlt, p'⟩, fun x H' y => hs i x D H H' hlt p (w.yields i H x H' hlt q y)⟩
  · have e : i = n := by omega
    subst e
    exact .inl ⟨w.stops H q, hd D H p⟩
theorem look_snoc_none {κ α : Type} [DecidableEq κ] {l : List (κ × α)} {i : Nat} {x : κ} {v : α} (nd : (l.map (·.1)).Nodup) (h : l[i]? = some (x, v)) (p : κ × α → Bool) : look ((l.take i).filter p) x = none := by
  rw [look_none]
  intro q hq e
  have hm := (List.mem_filter.mp hq).1
  obtain ⟨j, hj⟩ := List.mem_iff_getElem?.mp hm
  rw [List.getElem?_take] at hj
  split at hj
  · rename_i hlt
    have hi : i < l.length := (List.getElem?_eq_some_iff.mp h).1
    have hjl : j < l.length := by omega
    have e1 : (l.map (·.1))[j]'(by rw [List.length_map]; omega) = x := by
      rw [List.getElem_map]
      rw [List.getElem?_eq_getElem hjl] at hj
      rw [Option.some.inj hj]
      exact e
    have e2 : (l.map (·.1))[i]'(by rw [List.length_map]; omega) = x := by
      rw [List.getElem_map]
      rw [List.getElem?_eq_getElem hi] at h
      rw [Option.some.inj h]
    have hp := List.pairwise_iff_getElem.mp nd j i (by rw [List.length_map]; omega) (by rw [List.length_map]; omega) hlt
    exact hp (e1.trans e2.symm)
  · cases hj
/-- {k: v for k, v in d.items() if ..} -/
theorem dcT_items {td : TE} {g : TG} {tt : TT} {tk tv : TE} {vs : List Nat} {l : List ((Str × Str) × V)} (p : (Str × Str) × V → Bool) (htd : ∀ H Q, Q (.ref d) H → td σ H Q) (hC : Ctx K B H L I) (m : Pick (d, .dT (mP id l)) L L') (hz : l.length ≤ 90000) (nd : (l.map (·.1)).Nodup)
    (turn : ∀ x v b T H1 (R : L2.St → Hp → Prop), (x, v) ∈ l → SqT K H1 T [.ref b, v] → (∀ σ2, wipe σ2 vs = wipe σ vs → (∀ Qb : Bool → Hp → Prop, Qb (p (x, v)) H1 → tt σ2 H1 Qb) → (∀ Qk : VK, Qk (.ref b) H1 → tk σ2 H1 Qk) → (∀ Qv : VK, Qv v H1 → tv σ2 H1 Qv) → R σ2 H1) → g (.ref T) (wipe σ vs) H1 R)
    (k : ∀ H' D, Ctx K B H' ((d, .dT (mP id l)) :: (D, .dT (mP id (l.filter p))) :: L') I → Q (.ref D) H') :
    tLockE (tDcT (iItemsT td) g tt tk tv vs) σ H Q := by
  have hC0 := hC
  refine s_lockE hC m trivial (fun od H1 s1 hC => ?_)
  refine s_dcT (s_itemsT (htd _ _ (s_itemsTV (hC.frz List.mem_cons_self) ?_)))
  refine dcT_w walk_itemsT hC (fun D i H2 => Ctx K H1 H2 ((D, .dT (mP id ((l.take i).filter p))) :: L') (imFz d od (.dT (mP id l)) :: I)) (fun D H2 hC => hC) (fun D i H2 _ hC => hC.frz List.mem_cons_self) ?_ ?_
  · rintro i x D H2 H3 hi hC ⟨T, k, v, q, hk, rfl, hT, hq, rfl⟩
    obtain ⟨x, he, rfl⟩ := mP_at hk
    have hC3 := hC.newT (xs := [.ref q, v]) hT
    have hq3 : upd H2 T (.tup [.ref q, v]) q = some (.tup [.str x.1, .str x.2]) := by
      rw [upd_ne (ne_of_none hq hT)]
      exact hq
    refine turn x v q T _ _ (List.mem_of_getElem? he) (hC3.tup List.mem_cons_self) (fun σ2 hw ht hk2 hv2 => ⟨hw, ht _ ?_⟩)
    by_cases hp : p (x, v) = true
    · rw [if_pos hp]
      refine hk2 _ (hv2 _ ⟨_, [.inr x.1, .inr x.2], q, rfl, hq3, hC3.get List.mem_cons_self, ?_, ?_⟩)
      · rw [mP_len]
        have q2 := List.length_filter_le p (l.take i)
        rw [List.length_take] at q2
        rw [sizeLine_eq]
        omega
      · have e := putK_mP (f := id) (l := (l.take i).filter p) (k := x) (v := v)
        rw [show (id v : V) = v from rfl] at e
        rw [e, putR_new (look_snoc_none nd he p)]
        rw [show (l.take (i + 1)).filter p = (l.take i).filter p ++ [(x, v)] from by rw [take_snoc he, List.filter_append]; simp [hp]]
        have hC4 := hC3.put (o' := .dT (mP id ((l.take i).filter p ++ [(x, v)]))) .here rfl
        exact ⟨hC4.lay, fun j hj => hC4.im j (List.mem_cons_of_mem _ hj), hC4.sb⟩
    · rw [if_neg hp]
      rw [show (l.take (i + 1)).filter p = (l.take i).filter p from by rw [take_snoc he, List.filter_append]; simp [hp]]
      exact ⟨hC3.lay, fun j hj => hC3.im j (List.mem_cons_of_mem _ hj), hC3.sb⟩
  · intro D H2 hC
    rw [show l.take (mP id l).length = l from by rw [mP_len, List.take_length]] at hC
    refine s_unlE hC0 m s1 hC (hC.frz (od := od) (u := .dT (mP id l)) List.mem_cons_self) (fun hC => ?_)
    exact k _ D hC
/-- list(d.items()) -/
theorem rows_pick : ∀ (ts : List Addr) (l : List ((Str × Str) × V)), ts.length = l.length → (∀ (j : Nat) (t : Addr), ts[j]? = some t → ∃ k v q, (mP id l)[j]? = some (k, v) ∧ H q = some (.tup (k.map kV)) ∧ H t = some (.tup [.ref q, v])) →
    ∃ rs : List T4, (rs.map fun t => V.ref t.1) = ts.map V.ref ∧ rs.map (fun t => t.2.2) = l ∧ TsOk K H rs
  | [], [], _, _ => ⟨[], rfl, rfl, fun t h => nomatch h⟩
  | [], _ :: _, h, _ => by cases h
  | _ :: _, [], h, _ => by cases h
  | t :: ts, x :: l, hl, h => by
    obtain ⟨rs, h1, h2, h3⟩ := rows_pick ts l (Nat.succ.inj hl) (fun j t' e => by
      have := h (j + 1) t' (by simpa using e)
      simpa [mP] using this)
    obtain ⟨k, v, q, e1, e2, e3⟩ := h 0 t rfl
    have e1 : some (([.inr x.1.1, .inr x.1.2] : List Key), x.2) = some (k, v) := e1
    cases e1
    refine ⟨(t, q, x.1, x.2) :: rs, by simp [h1], by simp [h2], fun t' ht => ?_⟩
    rcases List.mem_cons.mp ht with rfl | ht
    · exact ⟨.inl (.inl e3), e2⟩
    · exact h3 t' ht
def kItemsLT (Q : VK) : VK := fun x H1 => rItemsLT x H1 Q
theorem s_litTE {te : TE} (h : te σ H (kItemsLT Q)) : tListItemsT te σ H Q := h
theorem s_litT {l : List ((Str × Str) × V)} (hC : Ctx K B H L I) (m : H d = some (.dT (mP id l))) (k : ∀ p (rs : List T4) H1, rs.map (fun t => t.2.2) = l → Ctx K B H1 ((p, .lst (rs.map fun t => V.ref t.1)) :: L) (imT K rs :: I) → Q (.ref p) H1) : kItemsLT Q (.ref d) H := by
  refine ⟨d, _, rfl, m, fun H' p ts keep hp hpl hl hr => ?_⟩
  obtain ⟨rs, h1, h2, h3⟩ := rows_pick (K := K) ts l (by rw [hl, mP_len]) hr
  rw [← h1] at hpl
  refine k p rs H' h2 ?_
  have s : Stb H H' := fun b w hb _ => keep b w hb
  refine ⟨⟨?_, fun q hq => ?_⟩, fun i hi => ?_, hC.sb.trans s⟩
  · rw [List.map_cons, List.nodup_cons]
    refine ⟨fun z => ?_, hC.lay.nd⟩
    obtain ⟨q, hq, e⟩ := List.mem_map.mp z
    have z2 := (hC.lay.at_ q hq).1
    rw [e, hp] at z2
    cases z2
  · rcases List.mem_cons.mp hq with e | hq
    · subst e
      exact ⟨hpl, rfl⟩
    · exact ⟨keep _ _ (hC.lay.at_ q hq).1, (hC.lay.at_ q hq).2⟩
  · rcases List.mem_cons.mp hi with rfl | hi
    · exact h3
    · exact Im.mono s (hC.im i hi)
/-- dict() of such pairs -/
def storeP (l : List ((Str × Str) × V)) : List ((Str × Str) × V) := l.foldl (fun acc p => putR acc p.1 p.2) []
theorem storeT_mP : ∀ (l acc : List ((Str × Str) × V)), storeT (mP id l) (mP id acc) = mP id (l.foldl (fun acc p => putR acc p.1 p.2) acc)
  | [], _ => rfl
  | x :: l, acc => by
    show storeT (mP id l) (putK (mP id acc) [.inr x.1.1, .inr x.1.2] x.2) = _
    have e := putK_mP (f := id) (l := acc) (k := x.1) (v := x.2)
    rw [show (id x.2 : V) = x.2 from rfl] at e
    rw [e, storeT_mP]
    rfl
theorem storeP_snoc {l : List ((Str × Str) × V)} {x : (Str × Str) × V} : storeP (l ++ [x]) = putR (storeP l) x.1 x.2 := by
  unfold storeP
  rw [List.foldl_append]
  rfl
theorem storeP_nd : ∀ {l : List ((Str × Str) × V)}, (l.map (·.1)).Nodup → storeP l = l := by
  intro l nd
  have : ∀ n, n ≤ l.length → storeP (l.take n) = l.take n := by
    intro n
    induction n with
    | zero => intro _; rfl
    | succ n ih =>
      intro hn
      have he : l[n]? = some l[n] := List.getElem?_eq_getElem hn
      rw [take_snoc he, storeP_snoc, ih (by omega)]
      have := look_snoc_none (x := l[n].1) (v := l[n].2) nd he (fun _ => true)
      rw [List.filter_eq_self.mpr (fun _ _ => rfl)] at this
      exact putR_new this
  have := this l.length (Nat.le_refl _)
  rwa [List.take_length] at this
theorem s_dictPW {rs : List T4} (hC : Ctx K B H L I) (m : H d = some (.lst (rs.map fun t => V.ref t.1))) (h : TsOk K H rs) (k : ∀ p H1, Ctx K B H1 ((p, .dT (mP id (storeP (rs.map fun t => t.2.2)))) :: L) I → Q (.ref p) H1) : rDictW K [.ref d] H Q := by
  refine .inr ⟨d, rs.map fun t => (t.1, t.2.1, [.inr t.2.2.1.1, .inr t.2.2.1.2], t.2.2.2), rfl, SqL.of (by rw [List.map_map]; exact m), fun t ht => ?_, fun p hp => ?_⟩
  · obtain ⟨t0, h0, rfl⟩ := List.mem_map.mp ht
    exact h t0 h0
  · rw [List.map_map]
    have e : (rs.map ((fun t : T3 => t.2.2) ∘ fun t => (t.1, t.2.1, [.inr t.2.2.1.1, .inr t.2.2.1.2], t.2.2.2))) = mP id (rs.map fun t => t.2.2) := by unfold mP; rw [List.map_map]; rfl
    rw [e, show ([] : List (List Key × V)) = mP id [] from rfl, storeT_mP]
    exact k p _ (hC.newM hp rfl)
end
end Ph
namespace Ph
open PySem PySem.Spec PyProof PyProof.Rows L2
section
variable {K : PySem.W.Frag} {B H : Hp} {L L' : List (Addr × HO)} {I : List Im} {Q : VK} {σ : L2.St} {d b P : Addr} {x y : Str} {tb : Array Value}
theorem dcT_itemsF {td : TE} {g : TG} {tt : TT} {tk tv : TE} {vs : List Nat} {l : List ((Str × Str) × V)} (p : (Str × Str) × V → Bool) (hC : Ctx K B H L I) (m : Pick (d, .dT (mP id l)) L L') (hz : l.length ≤ 90000) (nd : (l.map (·.1)).Nodup) (htd : ∀ od H1 (Q : VK), Ctx K H1 H1 L' (imFz d od (.dT (mP id l)) :: I) → Q (.ref d) H1 → td σ H1 Q)
    (turn : ∀ x v b T H1 (R : L2.St → Hp → Prop), (x, v) ∈ l → SqT K H1 T [.ref b, v] → (∀ σ2, wipe σ2 vs = wipe σ vs → (∀ Qb : Bool → Hp → Prop, Qb (p (x, v)) H1 → tt σ2 H1 Qb) → (∀ Qk : VK, Qk (.ref b) H1 → tk σ2 H1 Qk) → (∀ Qv : VK, Qv v H1 → tv σ2 H1 Qv) → R σ2 H1) → g (.ref T) (wipe σ vs) H1 R)
    (k : ∀ H' D, Ctx K B H' ((d, .dT (mP id l)) :: (D, .dT (mP id (l.filter p))) :: L') I → Q (.ref D) H') :
    tLockE (tDcT (iItemsT td) g tt tk tv vs) σ H Q := by
  have hC0 := hC
  refine s_lockE hC m trivial (fun od H1 s1 hC => ?_)
  refine s_dcT (s_itemsT (htd od _ _ hC (s_itemsTV (hC.frz List.mem_cons_self) ?_)))
  refine dcT_w walk_itemsT hC (fun D i H2 => Ctx K H1 H2 ((D, .dT (mP id ((l.take i).filter p))) :: L') (imFz d od (.dT (mP id l)) :: I)) (fun D H2 hC => hC) (fun D i H2 _ hC => hC.frz List.mem_cons_self) ?_ ?_
  · rintro i x D H2 H3 hi hC ⟨T, k, v, q, hk, rfl, hT, hq, rfl⟩
    obtain ⟨x, he, rfl⟩ := mP_at hk
    have hC3 := hC.newT (xs := [.ref q, v]) hT
    have hq3 : upd H2 T (.tup [.ref q, v]) q = some (.tup [.str x.1, .str x.2]) := by
      rw [upd_ne (ne_of_none hq hT)]
      exact hq
    refine turn x v q T _ _ (List.mem_of_getElem? he) (hC3.tup List.mem_cons_self) (fun σ2 hw ht hk2 hv2 => ⟨hw, ht _ ?_⟩)
    by_cases hp : p (x, v) = true
    · rw [if_pos hp]
      refine hk2 _ (hv2 _ ⟨_, [.inr x.1, .inr x.2], q, rfl, hq3, hC3.get List.mem_cons_self, ?_, ?_⟩)
      · rw [mP_len]
        have q2 := List.length_filter_le p (l.take i)
        rw [List.length_take] at q2
        rw [sizeLine_eq]
        omega
      · have e := putK_mP (f := id) (l := (l.take i).filter p) (k := x) (v := v)
        rw [show (id v : V) = v from rfl] at e
        rw [e, putR_new (look_snoc_none nd he p)]
        rw [show (l.take (i + 1)).filter p = (l.take i).filter p ++ [(x, v)] from by rw [take_snoc he, List.filter_append]; simp [hp]]
        have hC4 := hC3.put (o' := .dT (mP id ((l.take i).filter p ++ [(x, v)]))) .here rfl
        exact ⟨hC4.lay, fun j hj => hC4.im j (List.mem_cons_of_mem _ hj), hC4.sb⟩
    · rw [if_neg hp]
      rw [show (l.take (i + 1)).filter p = (l.take i).filter p from by rw [take_snoc he, List.filter_append]; simp [hp]]
      exact ⟨hC3.lay, fun j hj => hC3.im j (List.mem_cons_of_mem _ hj), hC3.sb⟩
  · intro D H2 hC
    rw [show l.take (mP id l).length = l from by rw [mP_len, List.take_length]] at hC
    refine s_unlE hC0 m s1 hC (hC.frz (od := od) (u := .dT (mP id l)) List.mem_cons_self) (fun hC => ?_)
    exact k _ D hC
def kDc (g : TG) (tt : TT) (tk tv : TE) (vs : List Nat) (σ : L2.St) (Q : VK) : It → Hp → Prop := fun J H1 => ∀ D, H1 D = none → ∃ W : Nat → Nat → Hp → Prop, (∃ m, W 0 m (upd H1 D (.dK []))) ∧ ∀ i m H, W i m H →
  (J.stop i H ∧ Q (.ref D) H) ∨ (J.go i H ∧ ∃ Nx : Hp → Prop, (∀ H', Nx H' → ∃ m', m' < m ∧ W (i + 1) m' H') ∧ ∀ x H', J.yld i H x H' → g x (wipe σ vs) H' fun σ2 H2 => wipe σ2 vs = wipe σ vs ∧ tt σ2 H2 fun b H3 =>
    if b = true then tk σ2 H3 fun y H4 => tv σ2 H4 fun z H5 => ∃ kvs k, y = kV k ∧ H5 D = some (.dK kvs) ∧ kvs.length < sizeLine ∧ Nx (upd H5 D (.dK (putK kvs k z))) else Nx H3)
theorem s_dc {wi : TI} {g : TG} {tt : TT} {tk tv : TE} {vs : List Nat} (h : wi σ H (kDc g tt tk tv vs σ Q)) : tDc wi g tt tk tv vs σ H Q := h
theorem dc_w {J : It} {n : Nat} {G : Hp → Prop} {Y : Nat → Hp → V → Hp → Prop} (w : Walk J n G Y) {g : TG} {tt : TT} {tk tv : TE} {vs : List Nat} (hC : Ctx K B H L I) (Pv : Addr → Nat → Hp → Prop) (h0 : ∀ D H1, Ctx K B H1 ((D, .dK []) :: L) I → Pv D 0 H1) (hG : ∀ D i H, i ≤ n → Pv D i H → G H)
    (hs : ∀ i x D H H', i < n → Pv D i H → Y i H x H' → g x (wipe σ vs) H' fun σ2 H2 => wipe σ2 vs = wipe σ vs ∧ tt σ2 H2 fun b H3 =>
      if b = true then tk σ2 H3 fun y H4 => tv σ2 H4 fun z H5 => ∃ kvs k, y = kV k ∧ H5 D = some (.dK kvs) ∧ kvs.length < sizeLine ∧ Pv D (i + 1) (upd H5 D (.dK (putK kvs k z))) else Pv D (i + 1) H3)
    (hd : ∀ D H, Pv D n H → Q (.ref D) H) : kDc g tt tk tv vs σ Q J H := by
  intro D hD
  refine ⟨fun i m H => m = n - i ∧ i ≤ n ∧ Pv D i H, ⟨n, by simp, Nat.zero_le _, h0 D _ (hC.newM hD rfl)⟩, ?_⟩
  rintro i m H ⟨rfl, hi, p⟩
  have q := hG D i H hi p
  by_cases hlt : i < n
  · refine .inr ⟨w.goes i H hlt q, Pv D (i + 1), fun H' p' => ⟨n - (i + 1), by omega, rfl, hlt, p'⟩, fun x H' y => hs i x D H H' hlt p (w.yields i H x H' hlt q y)⟩
  · have e : i = n := by omega
    subst e
    exact .inl ⟨w.stops H q, hd D H p⟩
/-- rows put one after the other -/
def putsR {κ α : Type} [DecidableEq κ] (l : List (κ × α)) : List (κ × α) := l.foldl (fun acc p => putR acc p.1 p.2) []
theorem putsR_snoc {κ α : Type} [DecidableEq κ] {l : List (κ × α)} {x : κ × α} : putsR (l ++ [x]) = putR (putsR l) x.1 x.2 := by
  unfold putsR
  rw [List.foldl_append]
  rfl
theorem foldl_putR_len {κ α : Type} [DecidableEq κ] : ∀ (l acc : List (κ × α)), (l.foldl (fun acc p => putR acc p.1 p.2) acc).length ≤ acc.length + l.length
  | [], acc => Nat.le_refl _
  | p :: l, acc => by
    have h1 := foldl_putR_len l (putR acc p.1 p.2)
    have h2 := putR_len (l := acc) (k := p.1) (v := p.2)
    simp only [List.foldl_cons, List.length_cons]
    omega
theorem putsR_len {κ α : Type} [DecidableEq κ] {l : List (κ × α)} : (putsR l).length ≤ l.length := by
  have h := foldl_putR_len l []
  simpa [putsR] using h
variable {ε : Type} {J : It} {G : Hp → Prop} {es : List ε} {kf : ε → V}
theorem dc_pick {tg : TG} {tt : TT} {tk tv : TE} {vs : List Nat} (w : Walk J es.length G (YE es kf)) (p : ε → Bool) (kx : ε → Str) (vf : ε → V) (hz : es.length ≤ 90000) (hG : ∀ H1 x, Ctx K B H1 (x :: L) I → G H1) (hC : Ctx K B H L I)
    (turn : ∀ (i : Nat) e H1 D kvs (Zy : V → VK) (Zn : Hp → Prop), es[i]? = some e → Ctx K B H1 ((D, .dK kvs) :: L) I → (∀ H2 J', p e = true → Ctx K B H2 ((D, .dK kvs) :: L) J' → (∀ j, j ∈ I → j ∈ J') → Zy (.str (kx e)) (vf e) H2) → (∀ H2 J', p e = false → Ctx K B H2 ((D, .dK kvs) :: L) J' → (∀ j, j ∈ I → j ∈ J') → Zn H2) →
      tg (kf e) (wipe σ vs) H1 fun σ2 H2 => wipe σ2 vs = wipe σ vs ∧ tt σ2 H2 fun b H3 => if b = true then tk σ2 H3 fun y H4 => tv σ2 H4 (Zy y) else Zn H3)
    (k : ∀ H' D, Ctx K B H' ((D, .dK (mK id (putsR ((es.filter p).map fun e => (kx e, vf e))))) :: L) I → Q (.ref D) H') : kDc tg tt tk tv vs σ Q J H := by
  refine dc_w w hC (fun D i H1 => Ctx K B H1 ((D, .dK (mK id (putsR (((es.take i).filter p).map fun e => (kx e, vf e))))) :: L) I) (fun D H1 hC => hC) (fun D i H1 _ hC => hG H1 _ hC) ?_ ?_
  · rintro i x D H1 H2 hi hC hy
    obtain ⟨rfl, e, he, rfl⟩ := ye hy
    have hl : (mK id (putsR (((es.take i).filter p).map fun e => (kx e, vf e)))).length ≤ 90000 := by
      rw [mK_len]
      refine Nat.le_trans putsR_len ?_
      rw [List.length_map]
      refine Nat.le_trans (List.length_filter_le _ _) ?_
      rw [List.length_take]
      omega
    refine turn i e _ _ _ (fun y z H5 => ∃ kvs k, y = kV k ∧ H5 D = some (.dK kvs) ∧ kvs.length < sizeLine ∧ _) _ he hC (fun H3 J' hb hC2 hs => ?_) (fun H3 J' hb hC2 hs => ?_)
    · have hC3 := hC2.keepI hs
      refine ⟨_, .inr (kx e), rfl, hC3.get List.mem_cons_self, ?_, ?_⟩
      · rw [sizeLine_eq]
        omega
      · have e1 := putK_mK (f := id) (l := putsR (((es.take i).filter p).map fun e => (kx e, vf e))) (k := kx e) (v := vf e)
        rw [show (id (vf e) : V) = vf e from rfl] at e1
        rw [e1, take_snoc he, List.filter_append, List.map_append, show ([e] : List ε).filter p = [e] from by simp [hb], List.map_cons, List.map_nil, putsR_snoc]
        exact hC3.put .here rfl
    · show Ctx K B H3 ((D, .dK (mK id (putsR (((es.take (i + 1)).filter p).map fun e => (kx e, vf e))))) :: L) I
      rw [take_snoc he, List.filter_append, show ([e] : List ε).filter p = [] from by simp [hb], List.append_nil]
      exact hC2.keepI hs
  · rintro D H1 hC
    rw [List.take_length] at hC
    exact k H1 D hC
end
/-! lists of different lengths, of anything: == -/
def rEqLL : R2 := fun x y H Q => ∃ l b xs ys, x = .ref l ∧ y = .ref b ∧ H l = some (.lst xs) ∧ H b = some (.lst ys) ∧ xs.length ≠ ys.length ∧ Q (.bl false) H
def rEqY (K : PySem.W.Frag) : R2 := fun x y H Q => rEqU K x y H Q ∨ rEqLL x y H Q
section
variable {X : Cx}
theorem op_eqLL (hu : X.A.units < cLine) : OpR X (compareOp .Eq) rEqLL := by
  intro pins s σ H x y v u Q I rx ry h
  obtain ⟨l, b, xs, ys, rfl, rfl, el, eb, hlen, q⟩ := h
  obtain rfl : v = Value.ref l := rx
  obtain rfl : u = Value.ref b := ry
  obtain ⟨_, va, ca, ra, da⟩ := (show ObjOk X.prog X.w H s.heap l (.lst xs) from I.hok l _ el)
  obtain ⟨_, vb, cb, rb, db⟩ := (show ObjOk X.prog X.w H s.heap b (.lst ys) from I.hok b _ eb)
  have la : xs.length = va.length := ra.length
  have lb : ys.length = vb.length := rb.length
  refine PySem.SeqAt.RcAt.lists_lengths (items := va.toArray) (items2 := vb.toArray) ⟨_, da, rfl, _, rfl⟩ ⟨_, db, rfl, _, rfl⟩ ?_ hu _ _ _ _ (fin_bl I q rfl)
  simp only [List.size_toArray, bne_iff_ne, ne_eq]
  omega
theorem u_eqY (hu : X.A.units + 64 < cLine) : OpR X (compareOp .Eq) (rEqY X.K) := (u_eq hu).or (op_eqLL (by omega))
end
section
variable {K : PySem.W.Frag} {B H : Hp} {L L' : List (Addr × HO)} {I : List Im} {Q : VK} {a b d : Addr} {xs : List V}
theorem s_eqY (hl : H a = some (.lst xs)) (hm : H b = some (.lst [])) (q : Q (.bl xs.isEmpty) H) : rEqY K (.ref a) (.ref b) H Q := by
  cases xs with
  | nil => exact .inl (s_eq00 hl hm q)
  | cons x r => exact .inr ⟨a, b, _, _, rfl, rfl, hl, hm, by simp, q⟩
theorem merge_mKfold : ∀ (l acc : List (Str × V)), mergeK (mK id acc) (mK id l) = mK id (l.foldl (fun acc p => putR acc p.1 p.2) acc)
  | [], _ => rfl
  | x :: l, acc => by
    show mergeK (putK (mK id acc) (.inr x.1) x.2) (mK id l) = _
    have e := putK_mK (f := id) (l := acc) (k := x.1) (v := x.2)
    rw [show (id x.2 : V) = x.2 from rfl] at e
    rw [e, merge_mKfold l]
    rfl
theorem merge_putsR {l : List (Str × V)} : mergeK [] (mK id l) = mK id (putsR l) := merge_mKfold l []
theorem s_dictPm {ps : List Addr} {l : List (Str × V)} (hC : Ctx K B H L I) (m : H d = some (.lst (ps.map V.ref))) (h : Paired (fun p kv => SqT K H p [kV kv.1, kv.2]) ps (mK id l)) (k : ∀ p H1, Ctx K B H1 ((p, .dK (mK id (putsR l))) :: L) I → Q (.ref p) H1) : rDictU K [.ref d] H Q :=
  .inl ⟨d, ps, mK id l, rfl, SqL.of m, h, fun p hp => k p _ (by rw [merge_putsR]; exact hC.newM hp rfl)⟩
end
end Ph
namespace Wk
open PySem PySem.Spec PyProof.Rows L2 Ph
def top (i : Nat) : Stmt := PySem.Challenge.pw_phonestack_k17_apps_that_open_addresses.main.body.getD i (.Pass ⟨0, 0, 0, 0⟩)
abbrev s_Claim__init : Stmt := inClass (top 7) 0
abbrev N_Claim__init : List Str := ["self", "app", "scheme", "host", "path", "proved"]
theorem sc_Claim__init : FnScope N_Claim__init ["self", "app", "scheme", "host", "path", "proved"] (defScope s_Claim__init) := ⟨rfl, rfl, rfl, by decide +kernel, rfl, by decide +kernel, by decide +kernel⟩
abbrev s_Openers__init : Stmt := inClass (top 10) 0
abbrev N_Openers__init : List Str := ["self"]
theorem sc_Openers__init : FnScope N_Openers__init ["self"] (defScope s_Openers__init) := ⟨rfl, rfl, rfl, by decide +kernel, rfl, by decide +kernel, by decide +kernel⟩
abbrev s_Openers_claim : Stmt := inClass (top 10) 1
abbrev N_Openers_claim : List Str := ["self", "app", "address", "proved", "scheme", "mark", "rest", "host", "slash", "path", "plain", "key", "one"]
theorem sc_Openers_claim : FnScope N_Openers_claim ["self", "app", "address", "proved"] (defScope s_Openers_claim) := ⟨rfl, rfl, rfl, by decide +kernel, rfl, by decide +kernel, by decide +kernel⟩
abbrev s_Openers_forget : Stmt := inClass (top 10) 2
abbrev N_Openers_forget : List Str := ["self", "app", "one", "key", "name"]
theorem sc_Openers_forget : FnScope N_Openers_forget ["self", "app"] (defScope s_Openers_forget) := ⟨rfl, rfl, rfl, by decide +kernel, rfl, by decide +kernel, by decide +kernel⟩
abbrev s_Openers_fitting : Stmt := inClass (top 10) 3
abbrev N_Openers_fitting : List Str := ["self", "address", "scheme", "host", "path", "rows", "one", "fits", "row", "best", "key", "app"]
theorem sc_Openers_fitting : FnScope N_Openers_fitting ["self", "address"] (defScope s_Openers_fitting) := ⟨rfl, rfl, rfl, by decide +kernel, rfl, by decide +kernel, by decide +kernel⟩
abbrev s_Openers_want_always : Stmt := inClass (top 10) 4
abbrev N_Openers_want_always : List Str := ["self", "app", "address", "scheme", "host", "path", "one", "fits"]
theorem sc_Openers_want_always : FnScope N_Openers_want_always ["self", "app", "address"] (defScope s_Openers_want_always) := ⟨rfl, rfl, rfl, by decide +kernel, rfl, by decide +kernel, by decide +kernel⟩
abbrev s_Openers_opens : Stmt := inClass (top 10) 5
abbrev N_Openers_opens : List Str := ["self", "address", "scheme", "host", "path", "app", "one", "names"]
theorem sc_Openers_opens : FnScope N_Openers_opens ["self", "address"] (defScope s_Openers_opens) := ⟨rfl, rfl, rfl, by decide +kernel, rfl, by decide +kernel, by decide +kernel⟩
abbrev s_check_name : Stmt := top 5
abbrev N_check_name : List Str := ["name", "sign"]
theorem sc_check_name : FnScope N_check_name ["name"] (defScope s_check_name) := ⟨rfl, rfl, rfl, by decide +kernel, rfl, by decide +kernel, by decide +kernel⟩
abbrev s_parts_of_address : Stmt := top 8
abbrev N_parts_of_address : List Str := ["address", "scheme", "mark", "rest", "host", "slash", "path", "plain", "sign", "good"]
theorem sc_parts_of_address : FnScope N_parts_of_address ["address"] (defScope s_parts_of_address) := ⟨rfl, rfl, rfl, by decide +kernel, rfl, by decide +kernel, by decide +kernel⟩
abbrev s_covers_host : Stmt := top 9
abbrev N_covers_host : List Str := ["claimed", "host"]
theorem sc_covers_host : FnScope N_covers_host ["claimed", "host"] (defScope s_covers_host) := ⟨rfl, rfl, rfl, by decide +kernel, rfl, by decide +kernel, by decide +kernel⟩
abbrev s_law_dice : Stmt := top 12
abbrev N_law_dice : List Str := ["cell"]
theorem sc_law_dice : FnScope N_law_dice ["cell"] (defScope s_law_dice) := ⟨rfl, rfl, rfl, by decide +kernel, rfl, by decide +kernel, by decide +kernel⟩
abbrev s_law_roll : Stmt := top 13
abbrev N_law_roll : List Str := ["dice", "many", "found"]
theorem sc_law_roll : FnScope N_law_roll ["dice", "many"] (defScope s_law_roll) := ⟨rfl, rfl, rfl, by decide +kernel, rfl, by decide +kernel, by decide +kernel⟩
abbrev s_law_rounds : Stmt := top 14
abbrev N_law_rounds : List Str := ["script", "most", "cells", "cell"]
theorem sc_law_rounds : FnScope N_law_rounds ["script", "most"] (defScope s_law_rounds) := ⟨rfl, rfl, rfl, by decide +kernel, rfl, by decide +kernel, by decide +kernel⟩
abbrev s_law_told : Stmt := top 15
abbrev N_law_told : List Str := ["what"]
theorem sc_law_told : FnScope N_law_told ["what"] (defScope s_law_told) := ⟨rfl, rfl, rfl, by decide +kernel, rfl, by decide +kernel, by decide +kernel⟩
abbrev s_law_fit : Stmt := top 16
abbrev N_law_fit : List Str := ["claimed", "host"]
theorem sc_law_fit : FnScope N_law_fit ["claimed", "host"] (defScope s_law_fit) := ⟨rfl, rfl, rfl, by decide +kernel, rfl, by decide +kernel, by decide +kernel⟩
abbrev s_law_best : Stmt := top 17
abbrev N_law_best : List Str := ["claims", "scheme", "host", "path", "app", "kind", "claimed", "start", "proved", "rows", "row", "best", "key"]
theorem sc_law_best : FnScope N_law_best ["claims", "scheme", "host", "path"] (defScope s_law_best) := ⟨rfl, rfl, rfl, by decide +kernel, rfl, by decide +kernel, by decide +kernel⟩
abbrev s_law : Stmt := top 18
abbrev N_law : List Str := ["script", "hosts", "paths", "dice", "openers", "claims", "always", "step", "sort", "app", "scheme", "host", "path", "claimed", "proved", "row", "there", "fits", "key", "one", "best", "wanted", "due", "fresh", "bad", "worse"]
theorem sc_law : FnScope N_law ["script"] (defScope s_law) := ⟨rfl, rfl, rfl, by decide +kernel, rfl, by decide +kernel, by decide +kernel⟩
structure Adr where
  c_Claim : Addr
  c_Openers : Addr
  c_NameFault : Addr
  f_Claim__init : Addr
  fd_Claim__init : FuncData
  f_Openers__init : Addr
  fd_Openers__init : FuncData
  f_Openers_claim : Addr
  fd_Openers_claim : FuncData
  f_Openers_forget : Addr
  fd_Openers_forget : FuncData
  f_Openers_fitting : Addr
  fd_Openers_fitting : FuncData
  f_Openers_want_always : Addr
  fd_Openers_want_always : FuncData
  f_Openers_opens : Addr
  fd_Openers_opens : FuncData
  f_check_name : Addr
  fd_check_name : FuncData
  f_parts_of_address : Addr
  fd_parts_of_address : FuncData
  f_covers_host : Addr
  fd_covers_host : FuncData
  f_law_dice : Addr
  fd_law_dice : FuncData
  f_law_roll : Addr
  fd_law_roll : FuncData
  f_law_rounds : Addr
  fd_law_rounds : FuncData
  f_law_told : Addr
  fd_law_told : FuncData
  f_law_fit : Addr
  fd_law_fit : FuncData
  f_law_best : Addr
  fd_law_best : FuncData
  f_law : Addr
  fd_law : FuncData
  cc_Openers_claim : Addr
  tb_Openers_claim : Addr
  cc_Openers_opens : Addr
  tb_Openers_opens : Addr
  cc_check_name : Addr
  tb_check_name : Addr
  cc_parts_of_address : Addr
  tb_parts_of_address : Addr
  cc_law : Addr
  tb_law : Addr
structure Txt (K : PySem.W.Frag) (mg : Str → Option Value) (a : Adr) : Prop where
  cl_Claim : Cls K a.c_Claim
  na_Claim_app : NoAttr K a.c_Claim "app"
  na_Claim_scheme : NoAttr K a.c_Claim "scheme"
  na_Claim_host : NoAttr K a.c_Claim "host"
  na_Claim_path : NoAttr K a.c_Claim "path"
  na_Claim_proved : NoAttr K a.c_Claim "proved"
  mgc_Claim : mg "Claim" = some (.ref a.c_Claim)
  mk_Claim : Mk K a.c_Claim a.f_Claim__init
  cl_Openers : Cls K a.c_Openers
  na_Openers_claims : NoAttr K a.c_Openers "claims"
  na_Openers_always : NoAttr K a.c_Openers "always"
  mgc_Openers : mg "Openers" = some (.ref a.c_Openers)
  mk_Openers : Mk K a.c_Openers a.f_Openers__init
  fn_Claim__init : FunD K "__init__" "Claim.__init__" (defArgs s_Claim__init) (defBody s_Claim__init) (defScope s_Claim__init) [(.bl false)] [] a.f_Claim__init a.fd_Claim__init
  bi_Claim__init : Binds K a.fd_Claim__init ["self", "app", "scheme", "host", "path", "proved"] []
  bi_Claim__init_5 : ∃ ds, Vals [(.bl false)] ds ∧ Binds K a.fd_Claim__init ["self", "app", "scheme", "host", "path", "proved"] ds
  fn_Openers__init : FunD K "__init__" "Openers.__init__" (defArgs s_Openers__init) (defBody s_Openers__init) (defScope s_Openers__init) [] [] a.f_Openers__init a.fd_Openers__init
  bi_Openers__init : Binds K a.fd_Openers__init ["self"] []
  me_Openers_claim : Meth K a.c_Openers "claim" a.f_Openers_claim
  fn_Openers_claim : FunD K "claim" "Openers.claim" (defArgs s_Openers_claim) (defBody s_Openers_claim) (defScope s_Openers_claim) [(.bl false)] [] a.f_Openers_claim a.fd_Openers_claim
  bi_Openers_claim : Binds K a.fd_Openers_claim ["self", "app", "address", "proved"] []
  bi_Openers_claim_3 : ∃ ds, Vals [(.bl false)] ds ∧ Binds K a.fd_Openers_claim ["self", "app", "address", "proved"] ds
  me_Openers_forget : Meth K a.c_Openers "forget" a.f_Openers_forget
  fn_Openers_forget : FunD K "forget" "Openers.forget" (defArgs s_Openers_forget) (defBody s_Openers_forget) (defScope s_Openers_forget) [] [] a.f_Openers_forget a.fd_Openers_forget
  bi_Openers_forget : Binds K a.fd_Openers_forget ["self", "app"] []
  me_Openers_fitting : Meth K a.c_Openers "fitting" a.f_Openers_fitting
  fn_Openers_fitting : FunD K "fitting" "Openers.fitting" (defArgs s_Openers_fitting) (defBody s_Openers_fitting) (defScope s_Openers_fitting) [] [] a.f_Openers_fitting a.fd_Openers_fitting
  bi_Openers_fitting : Binds K a.fd_Openers_fitting ["self", "address"] []
  me_Openers_want_always : Meth K a.c_Openers "want_always" a.f_Openers_want_always
  fn_Openers_want_always : FunD K "want_always" "Openers.want_always" (defArgs s_Openers_want_always) (defBody s_Openers_want_always) (defScope s_Openers_want_always) [] [] a.f_Openers_want_always a.fd_Openers_want_always
  bi_Openers_want_always : Binds K a.fd_Openers_want_always ["self", "app", "address"] []
  me_Openers_opens : Meth K a.c_Openers "opens" a.f_Openers_opens
  fn_Openers_opens : FunD K "opens" "Openers.opens" (defArgs s_Openers_opens) (defBody s_Openers_opens) (defScope s_Openers_opens) [] [] a.f_Openers_opens a.fd_Openers_opens
  bi_Openers_opens : Binds K a.fd_Openers_opens ["self", "address"] []
  mg_check_name : mg "check_name" = some (.ref a.f_check_name)
  fn_check_name : FunD K "check_name" "check_name" (defArgs s_check_name) (defBody s_check_name) (defScope s_check_name) [] [] a.f_check_name a.fd_check_name
  bi_check_name : Binds K a.fd_check_name ["name"] []
  mg_parts_of_address : mg "parts_of_address" = some (.ref a.f_parts_of_address)
  fn_parts_of_address : FunD K "parts_of_address" "parts_of_address" (defArgs s_parts_of_address) (defBody s_parts_of_address) (defScope s_parts_of_address) [] [] a.f_parts_of_address a.fd_parts_of_address
  bi_parts_of_address : Binds K a.fd_parts_of_address ["address"] []
  mg_covers_host : mg "covers_host" = some (.ref a.f_covers_host)
  fn_covers_host : FunD K "covers_host" "covers_host" (defArgs s_covers_host) (defBody s_covers_host) (defScope s_covers_host) [] [] a.f_covers_host a.fd_covers_host
  bi_covers_host : Binds K a.fd_covers_host ["claimed", "host"] []
  mg_law_dice : mg "_law_dice" = some (.ref a.f_law_dice)
  fn_law_dice : FunD K "_law_dice" "_law_dice" (defArgs s_law_dice) (defBody s_law_dice) (defScope s_law_dice) [] [] a.f_law_dice a.fd_law_dice
  bi_law_dice : Binds K a.fd_law_dice ["cell"] []
  mg_law_roll : mg "_law_roll" = some (.ref a.f_law_roll)
  fn_law_roll : FunD K "_law_roll" "_law_roll" (defArgs s_law_roll) (defBody s_law_roll) (defScope s_law_roll) [] [] a.f_law_roll a.fd_law_roll
  bi_law_roll : Binds K a.fd_law_roll ["dice", "many"] []
  mg_law_rounds : mg "_law_rounds" = some (.ref a.f_law_rounds)
  fn_law_rounds : FunD K "_law_rounds" "_law_rounds" (defArgs s_law_rounds) (defBody s_law_rounds) (defScope s_law_rounds) [] [] a.f_law_rounds a.fd_law_rounds
  bi_law_rounds : Binds K a.fd_law_rounds ["script", "most"] []
  mg_law_told : mg "_law_told" = some (.ref a.f_law_told)
  fn_law_told : FunD K "_law_told" "_law_told" (defArgs s_law_told) (defBody s_law_told) (defScope s_law_told) [] [] a.f_law_told a.fd_law_told
  bi_law_told : Binds K a.fd_law_told ["what"] []
  mg_law_fit : mg "_law_fit" = some (.ref a.f_law_fit)
  fn_law_fit : FunD K "_law_fit" "_law_fit" (defArgs s_law_fit) (defBody s_law_fit) (defScope s_law_fit) [] [] a.f_law_fit a.fd_law_fit
  bi_law_fit : Binds K a.fd_law_fit ["claimed", "host"] []
  mg_law_best : mg "_law_best" = some (.ref a.f_law_best)
  fn_law_best : FunD K "_law_best" "_law_best" (defArgs s_law_best) (defBody s_law_best) (defScope s_law_best) [] [] a.f_law_best a.fd_law_best
  bi_law_best : Binds K a.fd_law_best ["claims", "scheme", "host", "path"] []
  mg_law : mg "law" = some (.ref a.f_law)
  fn_law : FunD K "law" "law" (defArgs s_law) (defBody s_law) (defScope s_law) [] [] a.f_law a.fd_law
  bi_law : Binds K a.fd_law ["script"] []
  no_abs : mg "abs" = none
  no_all : mg "all" = none
  no_any : mg "any" = none
  no_dict : mg "dict" = none
  no_int : mg "int" = none
  no_len : mg "len" = none
  no_list : mg "list" = none
  no_max : mg "max" = none
  no_range : mg "range" = none
  no_sorted : mg "sorted" = none
  no_tuple : mg "tuple" = none
  gl_NAME_LETTERS : ∃ t, mg "NAME_LETTERS" = some (.str "abcdefghijklmnopqrstuvwxyz0123456789." t)
  mgc_NameFault : mg "NameFault" = some (.ref a.c_NameFault)
  xc_NameFault : PySem.W.excIn K a.c_NameFault [.type "ValueError", .type "Exception", .type "BaseException", .type "object"] "ValueError.__new__" = true
  kc_NameFault : PySem.W.keepIn K (.ref a.c_NameFault) = true
  bc_NameFault : PySem.W.subIn K (.ref a.c_NameFault) (.type "BaseException") = some true
  tc_NameFault : PySem.W.typeIn K (.ref a.c_NameFault) = some (.type "type")
  ec_NameFault : PySem.W.exmOne K (.ref a.c_NameFault) (.ref a.c_NameFault) = some true
  cd_Openers_claim : a.fd_Openers_claim.code = .ref a.cc_Openers_claim
  cd_Openers_opens : a.fd_Openers_opens.code = .ref a.cc_Openers_opens
  cd_check_name : a.fd_check_name.code = .ref a.cc_check_name
  cd_parts_of_address : a.fd_parts_of_address.code = .ref a.cc_parts_of_address
  cd_law : a.fd_law.code = .ref a.cc_law
end Wk
namespace Wk
open PySem PySem.Spec PyProof.Rows L2 Ph
/-! ### texts -/
def plainS : Str := "abcdefghijklmnopqrstuvwxyz0123456789"
def APS : List Str := ["mail", "maps", "notes", "shop"]
def SC : List Str := ["web", "geo", "tel"]
def HOS : List Str := ["a.com", "x.a.com", "b.org", "com"]
def PA : List Str := ["", "/", "/x", "/x/y", "/z"]
def CH : List Str := ["a.com", "x.a.com", "b.org", "com", "*", "*.a.com", "*.x.a.com", "*.b.org", "*.com"]
/-- the parts of an address -/
def Pts (s sc mk ho sl pa : Str) : Prop := ∃ r, Txt.partition s "://" = (sc, mk, r) ∧ Txt.partition r "/" = (ho, sl, pa)
def okP (s sc mk ho : Str) : Bool := (decide (mk ≠ "") && (decide (sc ≠ "") && sc.cps.toList.all fun c => decide (c ∈ plainS.cps.toList))) && (!decide (ho = "") && (!(ho.cps.toList.any fun c => !decide (c ∈ (plainS ++ ".-").cps.toList)) && !decide ((s.length : Int) > 200)))
def adr (sc ho pa : Str) : Str := sc ++ "://" ++ ho ++ pa
def plainH (ho : Str) : Str := if Txt.startswith ho "*." = true then cutS ho (some 2) none else if ho = "*" then "x" else ho
def joinA (sc mk ho sl pa : Str) : Str := Str.empty ++ sc ++ mk ++ plainH ho ++ sl ++ pa
def covI (c h : Str) : Option Int := if c = h then some 2 else if c = "*" then some 0 else if (Txt.startswith c "*." && Txt.endswith h (cutS c (some 1) none)) = true then some 1 else none
def covV (c h : Str) : V := match covI c h with
  | some n => .int n
  | none => .non
/-! ### claims -/
structure CL where
  ap : Str
  sc : Str
  ho : Str
  pa : Str
  pr : Bool
  ad : Addr
  dx : Addr
def ccell (a : Adr) (e : CL) : Addr × HO := (e.ad, .ins a.c_Claim e.dx [("app", .str e.ap), ("scheme", .str e.sc), ("host", .str e.ho), ("path", .str e.pa), ("proved", .bl e.pr)])
def ccells (a : Adr) (cs : List CL) : List (Addr × HO) := cs.map (ccell a)
structure ClOk (e : CL) : Prop where
  ap : e.ap ∈ APS
  sc : e.sc ∈ SC
  ho : e.ho ∈ CH
  pa : e.pa ∈ PA
structure ClsOk (cs : List CL) : Prop where
  len : cs.length ≤ 30
  all : ∀ e, e ∈ cs → ClOk e
abbrev Alw := List ((Str × Str) × V)
structure AlwOk (w : Alw) : Prop where
  len : w.length ≤ 30
  nd : (w.map (·.1)).Nodup
  all : ∀ p, p ∈ w → ∃ x, x ∈ APS ∧ p.2 = .str x
abbrev OL (a : Adr) (so dx cd wd : Addr) (cs : List CL) (w : Alw) (F : List (Addr × HO)) : List (Addr × HO) :=
  (so, .ins a.c_Openers dx [("claims", .ref cd), ("always", .ref wd)]) :: (cd, .lst (cs.map fun e => V.ref e.ad)) :: (wd, .dT (mP id w)) :: (ccells a cs ++ F)
abbrev KT (a : Adr) (qc qo qn qp : Array Value) (F : List (Addr × HO)) : List (Addr × HO) := (a.tb_Openers_claim, .tbl qc) :: (a.tb_Openers_opens, .tbl qo) :: (a.tb_check_name, .tbl qn) :: (a.tb_parts_of_address, .tbl qp) :: F
structure TK (qc qo qn qp : Array Value) : Prop where
  c : TriplesOk qc.toList
  o : TriplesOk qo.toList
  n : TriplesOk qn.toList
  p : TriplesOk qp.toList
/-! ### what the defs tell -/
def keyB (cs : List CL) (ap sc ho pa : Str) : Bool := cs.any fun e => decide (e.ap = ap ∧ e.sc = sc ∧ e.ho = ho ∧ e.pa = pa)
def fitsB (cs : List CL) (ap sc ho : Str) : Bool := cs.any fun e => decide (e.ap = ap ∧ e.sc = sc ∧ (covI e.ho ho).isSome = true)
def opB (cs : List CL) (x : Str) (sc ho pa : Str) : Bool := cs.any fun e => decide (e.ap = x ∧ e.sc = sc ∧ (covI e.ho ho).isSome = true ∧ Txt.startswith pa e.pa = true)
/-- a claim that fits: its key -/
def fitK (e : CL) (sc ho pa : Str) : Option (List Sc) := if e.sc = sc ∧ Txt.startswith pa e.pa = true then (covI e.ho ho).map fun n => [.b e.pr, .i n, .i e.pa.length] else none
def rowsK (cs : List CL) (sc ho pa : Str) : List (List Sc × Str) := cs.filterMap fun e => (fitK e sc ho pa).map fun k => (k, e.ap)
def bestK (rs : List (List Sc × Str)) : Option (List Sc) := (rs.map (·.1))[maxIx (rs.map (·.1))]?
def dedS (l : List Str) : List (Str × V) := l.foldl (fun acc x => putR acc x (.bl true)) []
def namesL (cs : List CL) (sc ho pa : Str) : List Str := srtT ((dedS (((rowsK cs sc ho pa).filter fun r => decide (some r.1 = bestK (rowsK cs sc ho pa))).map (·.2))).map (·.1))
def wantV (w : Alw) (sc ho : Str) : V := (look w (sc, ho)).getD .non
def opensB (cs : List CL) (w : Alw) (sc ho pa : Str) : Bool := match wantV w sc ho with
  | .str x => opB cs x sc ho pa
  | _ => false
def dV : V → PyData
  | .str x => .str x
  | _ => .none
def namesD : List Str → PyData
  | [] => .tuple [.str "none"]
  | [x] => .tuple [.str "app", .str x]
  | xs => .tuple [.str "ask", .tuple (xs.map PyData.str)]
def opensD (cs : List CL) (w : Alw) (sc ho pa : Str) : PyData := if opensB cs w sc ho pa = true then .tuple [.str "app", dV (wantV w sc ho)] else namesD (namesL cs sc ho pa)
/-- a claim as the law's row -/
def rowV (e : CL) : List V := [.str e.ap, .str e.sc, .str e.ho, .str e.pa, .bl e.pr]
/-! ### the promises -/
def sp_Claim__init (K : PySem.W.Frag) (a : Adr) : Sp := fun vs H Q E => vs.length = 6 ∧ ∃ (x dx : Addr) (ap sc ho pa : Str) (pr : Bool) (F : List (Addr × HO)), vs = [.ref x, .str ap, .str sc, .str ho, .str pa, .bl pr] ∧ Lay H ((x, .ins a.c_Claim dx []) :: F) ∧
  ∀ H', Stb H H' → Lay H' (ccell a ⟨ap, sc, ho, pa, pr, x, dx⟩ :: F) → Q .non H'
def sp_Openers__init (K : PySem.W.Frag) (a : Adr) : Sp := fun vs H Q E => vs.length = 1 ∧ ∃ (x dx : Addr) (F : List (Addr × HO)), vs = [.ref x] ∧ Lay H ((x, .ins a.c_Openers dx []) :: F) ∧
  ∀ H' cd wd, Stb H H' → Lay H' (OL a x dx cd wd [] [] F) → Q .non H'
def sp_check_name (K : PySem.W.Frag) (a : Adr) : Sp := fun vs H Q E => vs.length = 1 ∧ ∃ (nm : Str) (q : Array Value) (F : List (Addr × HO)), vs = [.str nm] ∧ Lay H ((a.tb_check_name, .tbl q) :: F) ∧ TriplesOk q.toList ∧ (nm ∈ APS ∨ nm = "Bad Name") ∧
  (nm ∈ APS → ∀ H' q', Stb H H' → Lay H' ((a.tb_check_name, .tbl q') :: F) → TriplesOk q'.toList → Q .non H') ∧
  (nm = "Bad Name" → ∀ H' q', Stb H H' → Lay H' ((a.tb_check_name, .tbl q') :: F) → TriplesOk q'.toList → E (.ref a.c_NameFault) none H')
def sp_parts_of_address (K : PySem.W.Frag) (a : Adr) : Sp := fun vs H Q E => vs.length = 1 ∧ ∃ (s sc mk ho sl pa : Str) (q : Array Value) (F : List (Addr × HO)), vs = [.str s] ∧ s.length ≤ 1000 ∧ Pts s sc mk ho sl pa ∧ Lay H ((a.tb_parts_of_address, .tbl q) :: F) ∧ TriplesOk q.toList ∧
  (okP s sc mk ho = true → ∀ H' p q', Stb H H' → Lay H' ((a.tb_parts_of_address, .tbl q') :: F) → TriplesOk q'.toList → SqT K H' p [.str sc, .str ho, .str (sl ++ pa)] → Q (.ref p) H') ∧
  (okP s sc mk ho = false → ∀ H' q', Stb H H' → Lay H' ((a.tb_parts_of_address, .tbl q') :: F) → TriplesOk q'.toList → E (.ref a.c_NameFault) none H')
def sp_covers_host (K : PySem.W.Frag) (a : Adr) : Sp := fun vs H Q E => vs.length = 2 ∧ ∃ (c h : Str) (L : List (Addr × HO)), vs = [.str c, .str h] ∧ c.length ≤ 1000 ∧ Lay H L ∧ ∀ H', Stb H H' → Lay H' L → Q (covV c h) H'
def sp_law_fit (K : PySem.W.Frag) (a : Adr) : Sp := fun vs H Q E => vs.length = 2 ∧ ∃ (c h : Str) (L : List (Addr × HO)), vs = [.str c, .str h] ∧ c ∈ CH ∧ h ∈ HOS ∧ Lay H L ∧ ∀ H', Stb H H' → Lay H' L → Q (covV c h) H'
def sp_Openers_claim (K : PySem.W.Frag) (a : Adr) : Sp := fun vs H Q E => vs.length = 4 ∧ ∃ (so dx cd wd : Addr) (ap s sc mk ho sl pa sc2 mk2 ho2 sl2 pa2 : Str) (pr : Bool) (cs : List CL) (w : Alw) (qc qo qn qp : Array Value) (F : List (Addr × HO)), vs = [.ref so, .str ap, .str s, .bl pr] ∧ s.length ≤ 400 ∧
  (ap ∈ APS ∨ ap = "Bad Name") ∧ Pts s sc mk ho sl pa ∧ Pts (joinA sc mk ho sl pa) sc2 mk2 ho2 sl2 pa2 ∧ ClsOk cs ∧ (ap ∈ APS → okP (joinA sc mk ho sl pa) sc2 mk2 ho2 = true → sc ∈ SC ∧ ho ∈ CH ∧ sl ++ pa ∈ PA) ∧ Lay H (KT a qc qo qn qp (OL a so dx cd wd cs w F)) ∧ TK qc qo qn qp ∧
  (ap ∈ APS → okP (joinA sc mk ho sl pa) sc2 mk2 ho2 = true → keyB cs ap sc ho (sl ++ pa) = false → ∀ H' ad d qc qo qn qp, Stb H H' → Lay H' (KT a qc qo qn qp (OL a so dx cd wd (cs ++ [⟨ap, sc, ho, sl ++ pa, pr, ad, d⟩]) w F)) → TK qc qo qn qp → Q .non H') ∧
  (¬ (ap ∈ APS ∧ okP (joinA sc mk ho sl pa) sc2 mk2 ho2 = true ∧ keyB cs ap sc ho (sl ++ pa) = false) → ∀ H' qc qo qn qp, Stb H H' → Lay H' (KT a qc qo qn qp (OL a so dx cd wd cs w F)) → TK qc qo qn qp → E (.ref a.c_NameFault) none H')
def sp_Openers_forget (K : PySem.W.Frag) (a : Adr) : Sp := fun vs H Q E => vs.length = 2 ∧ ∃ (so dx cd wd : Addr) (ap : Str) (cs : List CL) (w : Alw) (F : List (Addr × HO)), vs = [.ref so, .str ap] ∧ ClsOk cs ∧ AlwOk w ∧ Lay H (OL a so dx cd wd cs w F) ∧
  ∀ H' cd wd, Stb H H' → Lay H' (OL a so dx cd wd (cs.filter fun e => decide (e.ap ≠ ap)) (w.filter fun p => decide (p.2 ≠ .str ap)) F) → Q .non H'
def sp_Openers_fitting (K : PySem.W.Frag) (a : Adr) : Sp := fun vs H Q E => vs.length = 2 ∧ ∃ (so dx cd wd : Addr) (sc ho pa : Str) (cs : List CL) (w : Alw) (qc qo qn qp : Array Value) (F : List (Addr × HO)), vs = [.ref so, .str (adr sc ho pa)] ∧ sc ∈ SC ∧ ho ∈ HOS ∧ pa ∈ PA ∧ ClsOk cs ∧ Lay H (KT a qc qo qn qp (OL a so dx cd wd cs w F)) ∧ TK qc qo qn qp ∧
  ∀ H' t qc qo qn qp, Stb H H' → Lay H' (KT a qc qo qn qp (OL a so dx cd wd cs w F)) → TK qc qo qn qp → SqT K H' t ((namesL cs sc ho pa).map V.str) → Q (.ref t) H'
def sp_Openers_want_always (K : PySem.W.Frag) (a : Adr) : Sp := fun vs H Q E => vs.length = 3 ∧ ∃ (so dx cd wd : Addr) (ap sc ho pa : Str) (cs : List CL) (w : Alw) (qc qo qn qp : Array Value) (F : List (Addr × HO)), vs = [.ref so, .str ap, .str (adr sc ho pa)] ∧ sc ∈ SC ∧ ho ∈ HOS ∧ pa ∈ PA ∧ ClsOk cs ∧ w.length ≤ 1000 ∧ Lay H (KT a qc qo qn qp (OL a so dx cd wd cs w F)) ∧ TK qc qo qn qp ∧
  (fitsB cs ap sc ho = true → ∀ H' qc qo qn qp, Stb H H' → Lay H' (KT a qc qo qn qp (OL a so dx cd wd cs (putR w (sc, ho) (.str ap)) F)) → TK qc qo qn qp → Q .non H') ∧
  (fitsB cs ap sc ho = false → ∀ H' qc qo qn qp, Stb H H' → Lay H' (KT a qc qo qn qp (OL a so dx cd wd cs w F)) → TK qc qo qn qp → E (.ref a.c_NameFault) none H')
def sp_Openers_opens (K : PySem.W.Frag) (a : Adr) : Sp := fun vs H Q E => vs.length = 2 ∧ ∃ (so dx cd wd : Addr) (sc ho pa : Str) (cs : List CL) (w : Alw) (qc qo qn qp : Array Value) (F : List (Addr × HO)), vs = [.ref so, .str (adr sc ho pa)] ∧ sc ∈ SC ∧ ho ∈ HOS ∧ pa ∈ PA ∧ ClsOk cs ∧ AlwOk w ∧ Lay H (KT a qc qo qn qp (OL a so dx cd wd cs w F)) ∧ TK qc qo qn qp ∧
  ∀ H' v qc qo qn qp, Stb H H' → Lay H' (KT a qc qo qn qp (OL a so dx cd wd cs w F)) → TK qc qo qn qp → TD K H' v (opensD cs w sc ho pa) → Q v H'
def sp_law_dice (K : PySem.W.Frag) (a : Adr) : Sp := fun vs H Q E => vs.length = 1 ∧ ∃ (c : Int) (L : List (Addr × HO)), vs = [.int c] ∧ Lay H L ∧ ∀ p H' (i j k : Int), Stb H H' → Lay H' ((p, .lst [.int i, .int j, .int k]) :: L) → Q (.ref p) H'
def sp_law_roll (K : PySem.W.Frag) (a : Adr) : Sp := fun vs H Q E => vs.length = 2 ∧ ∃ (d : Addr) (m i j k : Int) (F : List (Addr × HO)), vs = [.ref d, .int m] ∧ Lay H ((d, .lst [.int i, .int j, .int k]) :: F) ∧ 0 < m ∧ m ≤ 100000000 ∧
  ∀ (r i' j' k' : Int) H', 0 ≤ r → r < m → Stb H H' → Lay H' ((d, .lst [.int i', .int j', .int k']) :: F) → Q (.int r) H'
def DL (ds : List (Addr × Int × Int × Int)) : List (Addr × HO) := ds.map fun d => (d.1, HO.lst [.int d.2.1, .int d.2.2.1, .int d.2.2.2])
def sp_law_rounds (K : PySem.W.Frag) (a : Adr) : Sp := fun vs H Q E => vs.length = 2 ∧ ∃ (s : Addr) (m : Int) (ns : List Int) (L : List (Addr × HO)), vs = [.ref s, .int m] ∧ SqL K H s (ns.map V.int) ∧ Lay H L ∧ 0 ≤ m ∧ m ≤ 1000 ∧
  ∀ p (ds : List (Addr × Int × Int × Int)) H', Stb H H' → Lay H' ((p, .lst (ds.map fun d => V.ref d.1)) :: (DL ds ++ L)) → Q (.ref p) H'
def sp_law_best (K : PySem.W.Frag) (a : Adr) : Sp := fun vs H Q E => vs.length = 4 ∧ ∃ (lc : Addr) (ts : List Addr) (cs : List CL) (sc ho pa : Str) (L : List (Addr × HO)), vs = [.ref lc, .str sc, .str ho, .str pa] ∧ sc ∈ SC ∧ ho ∈ HOS ∧ pa ∈ PA ∧ ClsOk cs ∧ Paired (fun (t : Addr) (e : CL) => SqT K H t (rowV e)) ts cs ∧ Lay H ((lc, .lst (ts.map V.ref)) :: L) ∧
  ∀ H' p, Stb H H' → Lay H' ((p, .lst ((namesL cs sc ho pa).map V.str)) :: (lc, .lst (ts.map V.ref)) :: L) → Q (.ref p) H'
def sp_law_told (K : PySem.W.Frag) (a : Adr) : Sp := fun vs H Q E => vs.length = 1 ∧ False
def sp_law (K : PySem.W.Frag) (a : Adr) : Sp := fun vs H Q E => vs.length = 1 ∧ ∃ (s : Addr) (ns : List Int), vs = [.ref s] ∧ SqL K H s (ns.map V.int) ∧ Lay H [(a.tb_Openers_claim, .tbl #[]), (a.tb_Openers_opens, .tbl #[]), (a.tb_check_name, .tbl #[]), (a.tb_parts_of_address, .tbl #[]), (a.tb_law, .tbl #[])] ∧ ∀ H', Q (.bl true) H'
end Wk
namespace Wk
open PySem PySem.Spec PyProof.Rows L2 Ph
open LamX (TTold)
open GxR (tAnyS)
def t_Claim__init (K : PySem.W.Frag) (a : Adr) (E : XK) : TS :=
  (tSeq (sFld K (tVar 0) (tVar 1) "app") (tSeq (sFld K (tVar 0) (tVar 2) "scheme") (tSeq (sFld K (tVar 0) (tVar 3) "host") (tSeq (sFld K (tVar 0) (tVar 4) "path") (sFld K (tVar 0) (tVar 5) "proved")))))
def t_Openers__init (K : PySem.W.Frag) (a : Adr) (E : XK) : TS :=
  (tSeq (sFld K (tVar 0) (tLst tNil) "claims") (sFld K (tVar 0) tDNewT "always"))
def t_Openers_claim_tail0 (K : PySem.W.Frag) (a : Adr) (E : XK) : TS :=
  (tSeq (tIfS (tTruth K (tAnyX true a.tb_Openers_claim (iList K (tFld K (tVar 0) "claims")) (gName 12) tYes (tOp (rEqU K) (tTup (tCons (tFld K (tVar 12) "app") (tCons (tFld K (tVar 12) "scheme") (tCons (tFld K (tVar 12) "host") (tCons (tFld K (tVar 12) "path") tNil))))) (tVar 11)) [12])) (tRaiseE a.c_NameFault E) tNext) (tDrop (tBM K "list" rAppend (tFld K (tVar 0) "claims") (tCons (tMake a.c_Claim (sp_Claim__init K a) [] E (tCons (tVar 1) (tCons (tVar 4) (tCons (tVar 7) (tCons (tOp (rAddU K) (tVar 8) (tVar 9)) (tCons (tVar 3) tNil)))))) tNil))))
def t_Openers_claim_tail1 (K : PySem.W.Frag) (a : Adr) (E : XK) : TS :=
  (tSeq (tDrop (tCall (sp_parts_of_address K a) [] E (tCons (tJoined [(tFmt (tVar 4)), (tFmt (tVar 5)), (tFmt (tVar 10)), (tFmt (tVar 8)), (tFmt (tVar 9))]) tNil))) (tSeq (tAsg (tTup (tCons (tVar 1) (tCons (tVar 4) (tCons (tVar 7) (tCons (tOp (rAddU K) (tVar 8) (tVar 9)) tNil))))) (gName 11)) (t_Openers_claim_tail0 K a E)))
def t_Openers_claim (K : PySem.W.Frag) (a : Adr) (E : XK) : TS :=
  (tSeq (tDrop (tCall (sp_check_name K a) [] E (tCons (tVar 1) tNil))) (tSeq (tAsg (tM1 rPart1 (tVar 2) (tC (.str "://"))) (gTup K 3 (gCons (gName 4) (gCons (gName 5) (gCons (gName 6) gNil))))) (tSeq (tAsg (tM1 rPart1 (tVar 6) (tC (.str "/"))) (gTup K 3 (gCons (gName 7) (gCons (gName 8) (gCons (gName 9) gNil))))) (tSeq (tAsg (tIf (tTruth K (tM1 rStW (tVar 7) (tC (.str "*.")))) (tSl (rSlU K) (tVar 7) (tPart (tC (.int 2))) tNoPart) (tIf (tTest (tOp (rEqU K) (tVar 7) (tC (.str "*")))) (tC (.str "x")) (tVar 7))) (gName 10)) (t_Openers_claim_tail1 K a E)))))
def t_Openers_forget (K : PySem.W.Frag) (a : Adr) (E : XK) : TS :=
  (tSeq (sFld K (tVar 0) (tLc (iList K (tFld K (tVar 0) "claims")) (gName 2) (tTest (tOp (rNeU K) (tFld K (tVar 2) "app") (tVar 1))) (tVar 2) [2]) "claims") (sFld K (tVar 0) (tLockE (tDcT (iItemsT (tFld K (tVar 0) "always")) (gTup K 2 (gCons (gName 3) (gCons (gName 4) gNil))) (tTest (tOp (rNeU K) (tVar 4) (tVar 1))) (tVar 3) (tVar 4) [3, 4])) "always"))
def t_Openers_fitting_for0 (K : PySem.W.Frag) (a : Adr) (E : XK) : TS :=
  (tSeq (tAsg (tCall (sp_covers_host K a) [] E (tCons (tFld K (tVar 6) "host") (tCons (tVar 3) tNil))) (gName 7)) (tIfS (tAnd (tTest (tOp (rEqU K) (tFld K (tVar 6) "scheme") (tVar 2))) (tAnd (tTest (tOp rNotN (tVar 7) (tC .non))) (tTruth K (tM1 rStW (tVar 4) (tFld K (tVar 6) "path"))))) (tDrop (tBM K "list" rAppend (tVar 5) (tCons (tTup (tCons (tTup (tCons (tFld K (tVar 6) "proved") (tCons (tVar 7) (tCons (tCB (rLenU K) (tCons (tFld K (tVar 6) "path") tNil)) tNil)))) (tCons (tFld K (tVar 6) "app") tNil))) tNil))) tNext))
def t_Openers_fitting_tail1 (K : PySem.W.Frag) (a : Adr) (E : XK) : TS :=
  (tRet (tCB (rTupOf K) (tCons (tCB (rSortU K) (tCons (tDc (iList K (tVar 5)) (gTup K 2 (gCons (gName 10) (gCons (gName 11) gNil))) (tTest (tOp (rEqU K) (tVar 10) (tVar 9))) (tVar 11) (tC (.bl true)) [10, 11]) tNil)) tNil)))
def t_Openers_fitting_tail2 (K : PySem.W.Frag) (a : Adr) (E : XK) : TS :=
  (tSeq (tAsg (tCKw (rMaxDT K) (tCons (tLc (iList K (tVar 5)) (gName 8) tYes (tOp (rIxU K) (tVar 8) (tC (.int 0))) [8]) tNil) (tCons (tC .non) tNil)) (gName 9)) (t_Openers_fitting_tail1 K a E))
def t_Openers_fitting_tail3 (K : PySem.W.Frag) (a : Adr) (E : XK) : TS :=
  (tSeq (tAsg (tLst tNil) (gName 5)) (tSeq (tFor (iList K (tFld K (tVar 0) "claims")) (gName 6) (t_Openers_fitting_for0 K a E)) (t_Openers_fitting_tail2 K a E)))
def t_Openers_fitting (K : PySem.W.Frag) (a : Adr) (E : XK) : TS :=
  (tSeq (tAsg (tCall (sp_parts_of_address K a) [] E (tCons (tVar 1) tNil)) (gTup K 3 (gCons (gName 2) (gCons (gName 3) (gCons (gName 4) gNil))))) (t_Openers_fitting_tail3 K a E))
def t_Openers_want_always (K : PySem.W.Frag) (a : Adr) (E : XK) : TS :=
  (tSeq (tAsg (tCall (sp_parts_of_address K a) [] E (tCons (tVar 2) tNil)) (gTup K 3 (gCons (gName 3) (gCons (gName 4) (gCons (gName 5) gNil))))) (tSeq (tAsg (tLc (iList K (tFld K (tVar 0) "claims")) (gName 6) (tAnd (tTest (tOp (rEqU K) (tFld K (tVar 6) "app") (tVar 1))) (tAnd (tTest (tOp (rEqU K) (tFld K (tVar 6) "scheme") (tVar 3))) (tTest (tOp rNotN (tCall (sp_covers_host K a) [] E0 (tCons (tFld K (tVar 6) "host") (tCons (tVar 4) tNil))) (tC .non))))) (tVar 6) [6]) (gName 7)) (tSeq (tIfS (tTest (tOp (rEqY K) (tVar 7) (tLst tNil))) (tRaiseE a.c_NameFault E) tNext) (tAsg (tVar 1) (gSub (tFld K (tVar 0) "always") (tTup (tCons (tVar 3) (tCons (tVar 4) tNil))) rSetU)))))
def t_Openers_opens_tail0 (K : PySem.W.Frag) (a : Adr) (E : XK) : TS :=
  (tSeq (tAsg (tMeth a.c_Openers "fitting" (sp_Openers_fitting K a) [] E (tVar 0) (tCons (tVar 1) tNil)) (gName 7)) (tSeq (tIfS (tTest (tOp (rEqU K) (tVar 7) (tTup tNil))) (tRet (tTup (tCons (tC (.str "none")) tNil))) tNext) (tRet (tIf (tTest (tOp (rEqU K) (tCB (rLenU K) (tCons (tVar 7) tNil)) (tC (.int 1)))) (tTup (tCons (tC (.str "app")) (tCons (tOp (rIxU K) (tVar 7) (tC (.int 0))) tNil))) (tTup (tCons (tC (.str "ask")) (tCons (tVar 7) tNil)))))))
def t_Openers_opens (K : PySem.W.Frag) (a : Adr) (E : XK) : TS :=
  (tSeq (tAsg (tCall (sp_parts_of_address K a) [] E (tCons (tVar 1) tNil)) (gTup K 3 (gCons (gName 2) (gCons (gName 3) (gCons (gName 4) gNil))))) (tSeq (tAsg (tGet1 (tFld K (tVar 0) "always") (tTup (tCons (tVar 2) (tCons (tVar 3) tNil)))) (gName 5)) (tSeq (tIfS (tTruth K (tAnyX true a.tb_Openers_opens (iList K (tFld K (tVar 0) "claims")) (gName 6) tYes (tAndV (tOp (rEqU K) (tFld K (tVar 6) "app") (tVar 5)) (tAndV (tOp (rEqU K) (tFld K (tVar 6) "scheme") (tVar 2)) (tAndV (tOp rNotN (tCall (sp_covers_host K a) [] E0 (tCons (tFld K (tVar 6) "host") (tCons (tVar 3) tNil))) (tC .non)) (tM1 rStW (tVar 4) (tFld K (tVar 6) "path"))))) [6])) (tRet (tTup (tCons (tC (.str "app")) (tCons (tVar 5) tNil)))) tNext) (t_Openers_opens_tail0 K a E))))
def t_check_name (K : PySem.W.Frag) (a : Adr) (E : XK) : TS :=
  (tIfS (tOr (tNot (tTest (tChain rLt rLe (tC (.int 0)) (tCB (rLenU K) (tCons (tVar 0) tNil)) (tC (.int 30))))) (tOr (tTruth K (tAnyS a.tb_check_name (fun c => !decide (c ∈ ("abcdefghijklmnopqrstuvwxyz0123456789." : Str).cps.toList)) (tVar 0))) (tOr (tTest (tOp (rEqU K) (tOp (rIxU K) (tVar 0) (tC (.int 0))) (tC (.str ".")))) (tTest (tOp (rEqU K) (tOp (rIxU K) (tVar 0) (tUn rNeg (tC (.int 1)))) (tC (.str "."))))))) (tRaiseE a.c_NameFault E) tNext)
def t_parts_of_address (K : PySem.W.Frag) (a : Adr) (E : XK) : TS :=
  (tSeq (tAsg (tM1 rPart1 (tVar 0) (tC (.str "://"))) (gTup K 3 (gCons (gName 1) (gCons (gName 2) (gCons (gName 3) gNil))))) (tSeq (tAsg (tM1 rPart1 (tVar 3) (tC (.str "/"))) (gTup K 3 (gCons (gName 4) (gCons (gName 5) (gCons (gName 6) gNil))))) (tSeq (tAsg (tC (.str "abcdefghijklmnopqrstuvwxyz0123456789")) (gName 7)) (tSeq (tAsg (tAndV (tOp (rNeU K) (tVar 2) (tC (.str ""))) (tAndV (tOp (rNeU K) (tVar 1) (tC (.str ""))) (tAnyX false a.tb_parts_of_address (iStr (tVar 1)) (gName 8) tYes (tOp (rInV K) (tVar 8) (tVar 7)) [8]))) (gName 9)) (tSeq (tIfS (tOr (tNot (tTruth K (tVar 9))) (tOr (tTest (tOp (rEqU K) (tVar 4) (tC (.str "")))) (tOr (tTruth K (tAnyX true a.tb_parts_of_address (iStr (tVar 4)) (gName 8) tYes (tOp (rNotInV K) (tVar 8) (tOp (rAddU K) (tVar 7) (tC (.str ".-")))) [8])) (tTest (tOp rGt (tCB (rLenU K) (tCons (tVar 0) tNil)) (tC (.int 200))))))) (tRaiseE a.c_NameFault E) tNext) (tRet (tTup (tCons (tVar 1) (tCons (tVar 4) (tCons (tOp (rAddU K) (tVar 5) (tVar 6)) tNil))))))))))
def t_covers_host (K : PySem.W.Frag) (a : Adr) (E : XK) : TS :=
  (tSeq (tIfS (tTest (tOp (rEqU K) (tVar 0) (tVar 1))) (tRet (tC (.int 2))) tNext) (tSeq (tIfS (tTest (tOp (rEqU K) (tVar 0) (tC (.str "*")))) (tRet (tC (.int 0))) tNext) (tRet (tIf (tAnd (tTruth K (tM1 rStW (tVar 0) (tC (.str "*.")))) (tTruth K (tM1 rEnW (tVar 1) (tSl (rSlU K) (tVar 0) (tPart (tC (.int 1))) tNoPart)))) (tC (.int 1)) (tC .non)))))
def t_law_dice (K : PySem.W.Frag) (a : Adr) (E : XK) : TS :=
  (tSeq (tIfS (tTest (tChain rLt rLt (tOp rSubU (tC (.int 0)) (tC (.int 10))) (tVar 0) (tC (.int 10)))) (tRet (tLst (tCons (tCB (rAbsU) (tCons (tVar 0) tNil)) (tCons (tC (.int 0)) (tCons (tC (.int 2)) tNil))))) tNext) (tRet (tLst (tCons (tVar 0) (tCons (tOp (rAddU K) (tC (.int 1)) (tOp rModU (tCB (rInt1) (tCons (tVar 0) tNil)) (tC (.int 1009)))) (tCons (tCB (rInt1) (tCons (tOp rGe (tVar 0) (tOp rPowU (tC (.int 10)) (tC (.int 18)))) tNil)) tNil))))))
def t_law_roll (K : PySem.W.Frag) (a : Adr) (E : XK) : TS :=
  (tSeq (tIfS (tOr (tTest (tOp (rEqU K) (tOp (rIxU K) (tVar 0) (tC (.int 2))) (tC (.int 2)))) (tAnd (tTest (tOp (rEqU K) (tOp (rIxU K) (tVar 0) (tC (.int 2))) (tC (.int 1)))) (tTest (tOp rGt (tOp (rIxU K) (tVar 0) (tC (.int 0))) (tC (.int 0)))))) (tSeq (tAsg (tOp rModU (tCB (rInt1) (tCons (tOp (rIxU K) (tVar 0) (tC (.int 0))) tNil)) (tVar 1)) (gName 2)) (tSeq (tAsg (tOp rDivU (tOp (rIxU K) (tVar 0) (tC (.int 0))) (tVar 1)) (gSub (tVar 0) (tC (.int 0)) rSetU)) (tRet (tVar 2)))) tNext) (tSeq (tAsg (tC (.int 0)) (gSub (tVar 0) (tC (.int 2)) rSetU)) (tSeq (tIfS (tTest (tOp rGt (tVar 1) (tC (.int 100000000)))) tNever tNext) (tSeq (tAsg (tOp rModU (tCB (rInt1) (tCons (tOp (rAddU K) (tOp (rAddU K) (tOp rMulU (tOp (rIxU K) (tVar 0) (tC (.int 0))) (tC (.int 48271))) (tOp rMulU (tOp (rIxU K) (tVar 0) (tC (.int 1))) (tC (.int 69621)))) (tC (.int 11))) tNil)) (tC (.int 2147483647))) (gSub (tVar 0) (tC (.int 0)) rSetU)) (tSeq (tAsg (tOp (rAddU K) (tOp (rIxU K) (tVar 0) (tC (.int 1))) (tC (.int 1))) (gSub (tVar 0) (tC (.int 1)) rSetU)) (tRet (tOp rModU (tCB (rInt1) (tCons (tOp rDivU (tOp (rIxU K) (tVar 0) (tC (.int 0))) (tC (.int 7))) tNil)) (tVar 1))))))))
def t_law_rounds (K : PySem.W.Frag) (a : Adr) (E : XK) : TS :=
  (tSeq (tAsg (tSl (rSlU K) (tVar 0) tNoPart (tPart (tVar 1))) (gName 2)) (tSeq (tIfS (tTest (tOp (rEqU K) (tVar 2) (tLst tNil))) (tAsg (tLst (tCons (tC (.int 0)) tNil)) (gName 2)) tNext) (tRet (tLc (iList K (tVar 2)) (gName 3) tYes (tCall (sp_law_dice K a) [] E0 (tCons (tVar 3) tNil)) [3]))))
def t_law_fit (K : PySem.W.Frag) (a : Adr) (E : XK) : TS :=
  (tSeq (tIfS (tOr (tTest (tOp (rEqU K) (tVar 0) (tVar 1))) (tTest (tOp (rEqU K) (tVar 0) (tC (.str "*"))))) (tRet (tIf (tTest (tOp (rEqU K) (tVar 0) (tVar 1))) (tC (.int 2)) (tC (.int 0)))) tNext) (tRet (tIf (tAnd (tTest (tOp (rEqU K) (tSl (rSlU K) (tVar 0) tNoPart (tPart (tC (.int 2)))) (tC (.str "*.")))) (tAnd (tTest (tOp (rEqU K) (tSl (rSlU K) (tVar 1) (tPart (tOp (rAddU K) (tOp rSubU (tCB (rLenU K) (tCons (tVar 1) tNil)) (tCB (rLenU K) (tCons (tVar 0) tNil))) (tC (.int 1)))) tNoPart) (tSl (rSlU K) (tVar 0) (tPart (tC (.int 1))) tNoPart))) (tTest (tOp rGe (tCB (rLenU K) (tCons (tVar 1) tNil)) (tOp rSubU (tCB (rLenU K) (tCons (tVar 0) tNil)) (tC (.int 1))))))) (tC (.int 1)) (tC .non))))
def t_law_best_tail0 (K : PySem.W.Frag) (a : Adr) (E : XK) : TS :=
  (tRet (tCB (rSortU K) (tCons (tCB (rDictU K) (tCons (tLc (iList K (tVar 9)) (gTup K 2 (gCons (gName 12) (gCons (gName 4) gNil))) (tTest (tOp (rEqU K) (tVar 12) (tVar 11))) (tTup (tCons (tVar 4) (tCons (tC (.int 1)) tNil))) [12, 4]) tNil)) tNil)))
def t_law_best_tail1 (K : PySem.W.Frag) (a : Adr) (E : XK) : TS :=
  (tSeq (tAsg (tIf (tTest (tOp (rNeY K) (tVar 9) (tLst tNil))) (tCB (rMaxT K) (tCons (tLc (iList K (tVar 9)) (gName 10) tYes (tOp (rIxU K) (tVar 10) (tC (.int 0))) [10]) tNil)) (tC .non)) (gName 11)) (t_law_best_tail0 K a E))
def t_law_best (K : PySem.W.Frag) (a : Adr) (E : XK) : TS :=
  (tSeq (tAsg (tLc (iList K (tVar 0)) (gTup K 5 (gCons (gName 4) (gCons (gName 5) (gCons (gName 6) (gCons (gName 7) (gCons (gName 8) gNil)))))) (tAnd (tTest (tOp (rEqU K) (tVar 5) (tVar 1))) (tAnd (tTest (tOp rNotN (tCall (sp_law_fit K a) [] E0 (tCons (tVar 6) (tCons (tVar 2) tNil))) (tC .non))) (tTest (tOp (rEqU K) (tSl (rSlU K) (tVar 3) tNoPart (tPart (tCB (rLenU K) (tCons (tVar 7) tNil)))) (tVar 7))))) (tTup (tCons (tTup (tCons (tVar 8) (tCons (tCall (sp_law_fit K a) [] E0 (tCons (tVar 6) (tCons (tVar 2) tNil))) (tCons (tCB (rLenU K) (tCons (tVar 7) tNil)) tNil)))) (tCons (tVar 4) tNil))) [4, 5, 6, 7, 8]) (gName 9)) (t_law_best_tail1 K a E))
def t_law_tail0 (K : PySem.W.Frag) (a : Adr) (E : XK) : TS :=
  (tAsg (tOp (rAddU K) (tVar 5) (tOp rMulU (tLst (tCons (tTup (tCons (tVar 9) (tCons (tVar 10) (tCons (tVar 13) (tCons (tVar 12) (tCons (tVar 14) tNil)))))) tNil)) (tCB (rInt1) (tCons (tNotV (tVar 16)) tNil)))) (gName 5))
def t_law_tail1 (K : PySem.W.Frag) (a : Adr) (E : XK) : TS :=
  (tSeq (tIfS (tTest (tOp (rNeU K) (tOp (rEqU K) (tLamP a.tb_law (lamq "law") (TTold K a.c_NameFault "NameFault") (fun E => (tMeth a.c_Openers "claim" (sp_Openers_claim K a) [] E (tVar 4) (tCons (tVar 9) (tCons (tOp (rAddU K) (tOp (rAddU K) (tOp (rAddU K) (tVar 10) (tC (.str "://"))) (tVar 13)) (tVar 12)) (tCons (tVar 14) tNil)))))) (tC (.str "NameFault"))) (tVar 16))) (tRet (tC (.bl false))) tNext) (t_law_tail0 K a E))
def t_law_tail2 (K : PySem.W.Frag) (a : Adr) (E : XK) : TS :=
  (tSeq (tAsg (tOp (rNeY K) (tLc (iList K (tVar 5)) (gName 15) (tTest (tOp (rEqU K) (tSl (rSlU K) (tVar 15) tNoPart (tPart (tC (.int 4)))) (tTup (tCons (tVar 9) (tCons (tVar 10) (tCons (tVar 13) (tCons (tVar 12) tNil))))))) (tVar 15) [15]) (tLst tNil)) (gName 16)) (t_law_tail1 K a E))
def t_law_if3 (K : PySem.W.Frag) (a : Adr) (E : XK) : TS :=
  (tSeq (tAsg (tOp (rEqU K) (tCall (sp_law_roll K a) [] E (tCons (tVar 3) (tCons (tC (.int 3)) tNil))) (tC (.int 0))) (gName 14)) (t_law_tail2 K a E))
def t_law_tail4 (K : PySem.W.Frag) (a : Adr) (E : XK) : TS :=
  (tAsg (tCB (rDictW K) (tCons (tOp (rAddU K) (tListItemsT (tVar 6)) (tOp rMulU (tLst (tCons (tTup (tCons (tTup (tCons (tVar 10) (tCons (tVar 11) tNil))) (tCons (tVar 9) tNil))) tNil)) (tCB (rInt1) (tCons (tVar 17) tNil)))) tNil)) (gName 6))
def t_law_tail5 (K : PySem.W.Frag) (a : Adr) (E : XK) : TS :=
  (tSeq (tIfS (tTest (tOp (rNeU K) (tOp (rEqU K) (tLamP a.tb_law (lamq "law") (TTold K a.c_NameFault "NameFault") (fun E => (tMeth a.c_Openers "want_always" (sp_Openers_want_always K a) [] E (tVar 4) (tCons (tVar 9) (tCons (tOp (rAddU K) (tOp (rAddU K) (tOp (rAddU K) (tVar 10) (tC (.str "://"))) (tVar 11)) (tVar 12)) tNil))))) (tC (.str "NameFault"))) (tNotV (tVar 17)))) (tRet (tC (.bl false))) tNext) (t_law_tail4 K a E))
def t_law_if6 (K : PySem.W.Frag) (a : Adr) (E : XK) : TS :=
  (tSeq (tAsg (tOp (rNeY K) (tLc (iList K (tVar 5)) (gName 15) (tAnd (tTest (tOp (rEqU K) (tOp (rIxU K) (tVar 15) (tC (.int 0))) (tVar 9))) (tAnd (tTest (tOp (rEqU K) (tOp (rIxU K) (tVar 15) (tC (.int 1))) (tVar 10))) (tTest (tOp rNotN (tCall (sp_law_fit K a) [] E0 (tCons (tOp (rIxU K) (tVar 15) (tC (.int 2))) (tCons (tVar 11) tNil))) (tC .non))))) (tVar 15) [15]) (tLst tNil)) (gName 17)) (t_law_tail5 K a E))
def t_law_tail7 (K : PySem.W.Frag) (a : Adr) (E : XK) : TS :=
  (tAsg (tTup (tCons (tLc (iList K (tVar 5)) (gName 15) (tTest (tOp (rNeU K) (tOp (rIxU K) (tVar 15) (tC (.int 0))) (tVar 9))) (tVar 15) [15]) (tCons (tCB (rDictV K) (tCons (tLockE (tLc (iKeys (tVar 6)) (gName 18) (tTest (tOp (rNeU K) (tOp (rIxU K) (tVar 6) (tVar 18)) (tVar 9))) (tTup (tCons (tVar 18) (tCons (tOp (rIxU K) (tVar 6) (tVar 18)) tNil))) [18])) tNil)) tNil))) (gTup K 2 (gCons (gName 5) (gCons (gName 6) gNil))))
def t_law_else8 (K : PySem.W.Frag) (a : Adr) (E : XK) : TS :=
  (tSeq (tDrop (tMeth a.c_Openers "forget" (sp_Openers_forget K a) [] E (tVar 4) (tCons (tVar 9) tNil))) (t_law_tail7 K a E))
def t_law_tail9 (K : PySem.W.Frag) (a : Adr) (E : XK) : TS :=
  (tIfS (tOr (tTest (tOp (rNeU K) (tLc (iList K (tFld K (tVar 4) "claims")) (gName 19) tYes (tTup (tCons (tFld K (tVar 19) "app") (tCons (tFld K (tVar 19) "scheme") (tCons (tFld K (tVar 19) "host") (tCons (tFld K (tVar 19) "path") (tCons (tFld K (tVar 19) "proved") tNil)))))) [19]) (tVar 5))) (tTest (tOp (rNeZ K) (tFld K (tVar 4) "always") (tVar 6)))) (tRet (tC (.bl false))) tNext)
def t_law_tail10 (K : PySem.W.Frag) (a : Adr) (E : XK) : TS :=
  (tSeq (tIfS (tTest (tOp rLt (tVar 8) (tC (.int 5)))) (t_law_if3 K a E) (tIfS (tTest (tOp rLt (tVar 8) (tC (.int 7)))) (t_law_if6 K a E) (t_law_else8 K a E))) (t_law_tail9 K a E))
def t_law_tail11 (K : PySem.W.Frag) (a : Adr) (E : XK) : TS :=
  (tSeq (tAsg (tOp (rIxU K) (tLst (tCons (tVar 11) (tCons (tC (.str "*")) (tCons (tOp (rAddU K) (tC (.str "*.")) (tVar 11)) (tCons (tVar 11) tNil))))) (tCall (sp_law_roll K a) [] E (tCons (tVar 3) (tCons (tC (.int 4)) tNil)))) (gName 13)) (t_law_tail10 K a E))
def t_law_tail12 (K : PySem.W.Frag) (a : Adr) (E : XK) : TS :=
  (tSeq (tAsg (tTup (tCons (tOp (rIxU K) (tLst (tCons (tC (.str "web")) (tCons (tC (.str "web")) (tCons (tC (.str "geo")) tNil)))) (tCall (sp_law_roll K a) [] E (tCons (tVar 3) (tCons (tC (.int 3)) tNil)))) (tCons (tOp (rIxU K) (tVar 1) (tCall (sp_law_roll K a) [] E (tCons (tVar 3) (tCons (tC (.int 4)) tNil)))) (tCons (tOp (rIxU K) (tVar 2) (tCall (sp_law_roll K a) [] E (tCons (tVar 3) (tCons (tC (.int 5)) tNil)))) tNil)))) (gTup K 3 (gCons (gName 10) (gCons (gName 11) (gCons (gName 12) gNil))))) (t_law_tail11 K a E))
def t_law_for13 (K : PySem.W.Frag) (a : Adr) (E : XK) : TS :=
  (tSeq (tAsg (tTup (tCons (tCall (sp_law_roll K a) [] E (tCons (tVar 3) (tCons (tC (.int 8)) tNil))) (tCons (tOp (rIxU K) (tLst (tCons (tC (.str "mail")) (tCons (tC (.str "maps")) (tCons (tC (.str "notes")) (tCons (tC (.str "shop")) tNil))))) (tCall (sp_law_roll K a) [] E (tCons (tVar 3) (tCons (tC (.int 4)) tNil)))) tNil))) (gTup K 2 (gCons (gName 8) (gCons (gName 9) gNil)))) (t_law_tail12 K a E))
def t_law_tail14 (K : PySem.W.Frag) (a : Adr) (E : XK) : TS :=
  (tIfS (tOr (tTest (tOp (rNeU K) (tMeth a.c_Openers "opens" (sp_Openers_opens K a) [] E (tVar 4) (tCons (tOp (rAddU K) (tOp (rAddU K) (tOp (rAddU K) (tVar 10) (tC (.str "://"))) (tVar 11)) (tVar 12)) tNil)) (tVar 22))) (tOr (tTest (tOp (rNeU K) (tCB (rListOf K) (tCons (tMeth a.c_Openers "fitting" (sp_Openers_fitting K a) [] E (tVar 4) (tCons (tOp (rAddU K) (tOp (rAddU K) (tOp (rAddU K) (tVar 10) (tC (.str "://"))) (tVar 11)) (tVar 12)) tNil)) tNil)) (tVar 20))) (tTest (tOp (rNeU K) (tCall (sp_parts_of_address K a) [] E (tCons (tOp (rAddU K) (tOp (rAddU K) (tOp (rAddU K) (tVar 10) (tC (.str "://"))) (tVar 11)) (tVar 12)) tNil)) (tTup (tCons (tVar 10) (tCons (tVar 11) (tCons (tVar 12) tNil)))))))) (tRet (tC (.bl false))) tNext)
def t_law_tail15 (K : PySem.W.Frag) (a : Adr) (E : XK) : TS :=
  (tSeq (tAsg (tIf (tTruth K (tVar 17)) (tTup (tCons (tC (.str "app")) (tCons (tVar 21) tNil))) (tIf (tTest (tOp (rEqU K) (tVar 20) (tLst tNil))) (tTup (tCons (tC (.str "none")) tNil)) (tIf (tTest (tOp (rEqU K) (tCB (rLenU K) (tCons (tVar 20) tNil)) (tC (.int 1)))) (tTup (tCons (tC (.str "app")) (tCons (tOp (rIxU K) (tVar 20) (tC (.int 0))) tNil))) (tTup (tCons (tC (.str "ask")) (tCons (tCB (rTupOf K) (tCons (tVar 20) tNil)) tNil)))))) (gName 22)) (t_law_tail14 K a E))
def t_law_tail16 (K : PySem.W.Frag) (a : Adr) (E : XK) : TS :=
  (tSeq (tAsg (tOp (rNeY K) (tLc (iList K (tVar 5)) (gName 15) (tAnd (tTest (tOp (rEqU K) (tOp (rIxU K) (tVar 15) (tC (.int 0))) (tVar 21))) (tAnd (tTest (tOp (rEqU K) (tOp (rIxU K) (tVar 15) (tC (.int 1))) (tVar 10))) (tAnd (tTest (tOp rNotN (tCall (sp_law_fit K a) [] E0 (tCons (tOp (rIxU K) (tVar 15) (tC (.int 2))) (tCons (tVar 11) tNil))) (tC .non))) (tTest (tOp (rEqU K) (tSl (rSlU K) (tVar 12) tNoPart (tPart (tCB (rLenU K) (tCons (tOp (rIxU K) (tVar 15) (tC (.int 3))) tNil)))) (tOp (rIxU K) (tVar 15) (tC (.int 3)))))))) (tVar 15) [15]) (tLst tNil)) (gName 17)) (t_law_tail15 K a E))
def t_law_for17 (K : PySem.W.Frag) (a : Adr) (E : XK) : TS :=
  (tSeq (tAsg (tTup (tCons (tCall (sp_law_best K a) [] E (tCons (tVar 5) (tCons (tVar 10) (tCons (tVar 11) (tCons (tVar 12) tNil))))) (tCons (tGet1 (tVar 6) (tTup (tCons (tVar 10) (tCons (tVar 11) tNil)))) tNil))) (gTup K 2 (gCons (gName 20) (gCons (gName 21) gNil)))) (t_law_tail16 K a E))
def t_law_for18 (K : PySem.W.Frag) (a : Adr) (E : XK) : TS :=
  (tIfS (tTest (tOp (rNeU K) (tCall (sp_covers_host K a) [] E (tCons (tVar 13) (tCons (tVar 11) tNil))) (tCall (sp_law_fit K a) [] E (tCons (tVar 13) (tCons (tVar 11) tNil))))) (tRet (tC (.bl false))) tNext)
def t_law_tail19 (K : PySem.W.Frag) (a : Adr) (E : XK) : TS :=
  (tFor (iList K (tOp (rAddU K) (tOp (rAddU K) (tVar 1) (tLst (tCons (tC (.str "*")) tNil))) (tLc (iList K (tVar 1)) (gName 19) tYes (tOp (rAddU K) (tC (.str "*.")) (tVar 19)) [19]))) (gName 13) (t_law_for18 K a E))
def t_law_for20 (K : PySem.W.Frag) (a : Adr) (E : XK) : TS :=
  (tSeq (tFor (iList K (tVar 2)) (gName 12) (t_law_for17 K a E)) (t_law_tail19 K a E))
def t_law_for21 (K : PySem.W.Frag) (a : Adr) (E : XK) : TS :=
  (tFor (iList K (tVar 1)) (gName 11) (t_law_for20 K a E))
def t_law_for22 (K : PySem.W.Frag) (a : Adr) (E : XK) : TS :=
  (tSeq (tAsg (tTup (tCons (tMake a.c_Openers (sp_Openers__init K a) [] E tNil) (tCons (tLst tNil) (tCons tDNewT tNil)))) (gTup K 3 (gCons (gName 4) (gCons (gName 5) (gCons (gName 6) gNil))))) (tSeq (tFor (iRng1 (tCons (tCall (sp_law_roll K a) [] E (tCons (tVar 3) (tCons (tC (.int 22)) tNil))) tNil)) (gName 7) (t_law_for13 K a E)) (tFor (iList K (tLst (tCons (tC (.str "web")) (tCons (tC (.str "geo")) (tCons (tC (.str "tel")) tNil))))) (gName 10) (t_law_for21 K a E))))
def t_law_tail23 (K : PySem.W.Frag) (a : Adr) (E : XK) : TS :=
  (tRet (tAndV (tOp (rEqU K) (tLamP a.tb_law (lamq "law") (TTold K a.c_NameFault "NameFault") (fun E => (tMeth a.c_Openers "claim" (sp_Openers_claim K a) [(.bl false)] E (tVar 23) (tCons (tC (.str "Bad Name")) (tCons (tC (.str "web://a.com")) tNil))))) (tC (.str "NameFault"))) (tAndV (tOp (rEqU K) (tFld K (tVar 23) "claims") (tLst tNil)) (tAndV (tOp rIsU (tFld K (tMake a.c_Claim (sp_Claim__init K a) [(.bl false)] E (tCons (tC (.str "a")) (tCons (tC (.str "web")) (tCons (tC (.str "*")) (tCons (tC (.str "")) tNil))))) "proved") (tC (.bl false))) (tOp (rEqU K) (tMeth a.c_Openers "opens" (sp_Openers_opens K a) [] E (tVar 23) (tCons (tC (.str "web://a.com")) tNil)) (tTup (tCons (tC (.str "none")) tNil)))))))
def t_law_tail24 (K : PySem.W.Frag) (a : Adr) (E : XK) : TS :=
  (tSeq (tIfS (tOr (tTest (tOp (rNeU K) (tLc (iList K (tVar 24)) (gName 19) (tTest (tOp (rNeU K) (tLamP a.tb_law (lamq "law") (TTold K a.c_NameFault "NameFault") (fun E => (tCall (sp_parts_of_address K a) [] E (tCons (tVar 19) tNil)))) (tC (.str "NameFault")))) (tVar 19) [19]) (tLst tNil))) (tTest (tOp (rNeU K) (tLc (iList K (tVar 25)) (gName 19) (tTest (tOp (rNeU K) (tLamP a.tb_law (lamq "law") (TTold K a.c_NameFault "NameFault") (fun E => (tMeth a.c_Openers "claim" (sp_Openers_claim K a) [(.bl false)] E (tVar 23) (tCons (tC (.str "mail")) (tCons (tVar 19) tNil))))) (tC (.str "NameFault")))) (tVar 19) [19]) (tLst tNil)))) (tRet (tC (.bl false))) tNext) (t_law_tail23 K a E))
def t_law_tail25 (K : PySem.W.Frag) (a : Adr) (E : XK) : TS :=
  (tSeq (tAsg (tLst (tCons (tC (.str "web:/a.com")) (tCons (tC (.str "a.com")) (tCons (tC (.str "web://")) (tCons (tC (.str "Web://a.com")) (tCons (tC (.str "web://A.com")) (tCons (tC (.str "web://a com")) (tCons (tOp (rAddU K) (tC (.str "web://")) (tOp rMulU (tC (.str "a")) (tC (.int 200)))) (tCons (tC (.str "://a.com")) tNil))))))))) (gName 24)) (tSeq (tAsg (tLst (tCons (tC (.str "web://a*b")) (tCons (tC (.str "web://x.*.y")) (tCons (tC (.str "web://**")) (tCons (tC (.str "web://*x")) (tCons (tC (.str "web://")) tNil)))))) (gName 25)) (t_law_tail24 K a E)))
def t_law_tail26 (K : PySem.W.Frag) (a : Adr) (E : XK) : TS :=
  (tSeq (tAsg (tMake a.c_Openers (sp_Openers__init K a) [] E tNil) (gName 23)) (t_law_tail25 K a E))
def t_law (K : PySem.W.Frag) (a : Adr) (E : XK) : TS :=
  (tSeq (tPar 1 2 (tCons (tLst (tCons (tC (.str "a.com")) (tCons (tC (.str "x.a.com")) (tCons (tC (.str "b.org")) (tCons (tC (.str "com")) tNil))))) (tCons (tLst (tCons (tC (.str "")) (tCons (tC (.str "/")) (tCons (tC (.str "/x")) (tCons (tC (.str "/x/y")) (tCons (tC (.str "/z")) tNil)))))) tNil))) (tSeq (tFor (iList K (tCall (sp_law_rounds K a) [] E (tCons (tVar 0) (tCons (tC (.int 1)) tNil)))) (gName 3) (t_law_for22 K a E)) (t_law_tail26 K a E)))
end Wk
namespace Wk
open PySem PySem.Spec PyProof.Rows L2 Ph
section
variable {K : PySem.W.Frag} {a : Adr} {B H : Hp} {Q : VK} {E : XK} {L F O : List (Addr × HO)} {I : List Im}
theorem c_dice {c : Int} (hC : Ctx K B H L I) (k : ∀ p i j l H1, Ctx K B H1 ((p, .lst [.int i, .int j, .int l]) :: L) I → Q (.ref p) H1) : sp_law_dice K a [.int c] H Q E :=
  ⟨rfl, c, L, rfl, hC.lay, fun p H' i j l s y => k p i j l H' (hC.moved s y)⟩
theorem c_roll {d : Addr} {m i j l : Int} (hC : Ctx K B H L I) (pk : Pick (d, .lst [.int i, .int j, .int l]) L F) (h0 : 0 < m) (h1 : m ≤ 100000000)
    (k : ∀ r i' j' l' H1, 0 ≤ r → r < m → Ctx K B H1 ((d, .lst [.int i', .int j', .int l']) :: F) I → Q (.int r) H1) : sp_law_roll K a [.ref d, .int m] H Q E :=
  ⟨rfl, d, m, i, j, l, F, rfl, hC.lay.pick pk, h0, h1, fun r i' j' k' H' r0 r1 s y => k r i' j' k' H' r0 r1 (hC.moved s y)⟩
variable {cs : List CL} {e : CL} {w : Alw} {so dx cd wd x dx' : Addr} {ap sc ho pa s mk sl : Str} {pr : Bool} {qc qo qn qp : Array Value}
theorem ccells_app {fs : List CL} : ccells a (cs ++ fs) = ccells a cs ++ ccells a fs := List.map_append
theorem ccells_mid {i : Nat} (h : cs[i]? = some e) : ccells a cs ++ F = ccells a (cs.take i) ++ ccell a e :: (ccells a (cs.drop (i + 1)) ++ F) := by
  conv => lhs; rw [split_cons h]
  rw [ccells_app, List.append_assoc]
  rfl
theorem c_clinit (hC : Ctx K B H ((x, .ins a.c_Claim dx' []) :: F) I) (k : ∀ H1, Ctx K B H1 (ccell a ⟨ap, sc, ho, pa, pr, x, dx'⟩ :: F) I → Q .non H1) : sp_Claim__init K a [.ref x, .str ap, .str sc, .str ho, .str pa, .bl pr] H Q E :=
  ⟨rfl, x, dx', ap, sc, ho, pa, pr, F, rfl, hC.lay, fun H1 s y => k H1 (hC.moved s y)⟩
theorem c_opinit (hC : Ctx K B H ((x, .ins a.c_Openers dx' []) :: F) I) (k : ∀ cd wd H1, Ctx K B H1 (OL a x dx' cd wd [] [] F) I → Q .non H1) : sp_Openers__init K a [.ref x] H Q E :=
  ⟨rfl, x, dx', F, rfl, hC.lay, fun H1 cd wd s y => k cd wd H1 (hC.moved s y)⟩
theorem c_cname {q : Array Value} {L' : List (Addr × HO)} {nm : Str} (hC : Ctx K B H L I) (p : Perm3 L ((a.tb_check_name, .tbl q) :: L')) (ht : TriplesOk q.toList) (hn : nm ∈ APS) (kk : ∀ q' H1, TriplesOk q'.toList → Ctx K B H1 ((a.tb_check_name, .tbl q') :: L') I → Q .non H1) : sp_check_name K a [.str nm] H Q E :=
  ⟨rfl, nm, q, L', rfl, hC.lay.perm p.lay, ht, .inl hn, fun _ H' q' s y t => kk q' H' t (hC.moved s y), fun z => by subst z; exact absurd hn (by decide +kernel)⟩
theorem c_cnameF {q : Array Value} {L' : List (Addr × HO)} (hC : Ctx K B H L I) (p : Perm3 L ((a.tb_check_name, .tbl q) :: L')) (ht : TriplesOk q.toList) (kk : ∀ q' H1, TriplesOk q'.toList → Ctx K B H1 ((a.tb_check_name, .tbl q') :: L') I → E (.ref a.c_NameFault) none H1) : sp_check_name K a [.str "Bad Name"] H Q E :=
  ⟨rfl, "Bad Name", q, L', rfl, hC.lay.perm p.lay, ht, .inr rfl, fun z => absurd z (by decide +kernel), fun _ H' q' s y t => kk q' H' t (hC.moved s y)⟩
theorem c_partsT {q : Array Value} {L' : List (Addr × HO)} (hC : Ctx K B H L I) (p : Perm3 L ((a.tb_parts_of_address, .tbl q) :: L')) (ht : TriplesOk q.toList) (hz : s.length ≤ 1000) (hp : Pts s sc mk ho sl pa) (ok : okP s sc mk ho = true)
    (kk : ∀ t q' H1, TriplesOk q'.toList → Ctx K B H1 ((a.tb_parts_of_address, .tbl q') :: L') (.tup t [.str sc, .str ho, .str (sl ++ pa)] :: I) → Q (.ref t) H1) : sp_parts_of_address K a [.str s] H Q E :=
  ⟨rfl, s, sc, mk, ho, sl, pa, q, L', rfl, hz, hp, hC.lay.perm p.lay, ht, fun _ H' t q' s y tr st => kk t q' H' tr ((hC.moved s y).add (i := .tup t _) st), fun z => by rw [ok] at z; cases z⟩
theorem c_partsF {q : Array Value} {L' : List (Addr × HO)} (hC : Ctx K B H L I) (p : Perm3 L ((a.tb_parts_of_address, .tbl q) :: L')) (ht : TriplesOk q.toList) (hz : s.length ≤ 1000) (hp : Pts s sc mk ho sl pa) (ok : okP s sc mk ho = false)
    (kk : ∀ q' H1, TriplesOk q'.toList → Ctx K B H1 ((a.tb_parts_of_address, .tbl q') :: L') I → E (.ref a.c_NameFault) none H1) : sp_parts_of_address K a [.str s] H Q E :=
  ⟨rfl, s, sc, mk, ho, sl, pa, q, L', rfl, hz, hp, hC.lay.perm p.lay, ht, fun z => (by rw [ok] at z; cases z), fun _ H' q' s y tr => kk q' H' tr (hC.moved s y)⟩
end
def mkA (s : Str) : Str := (Txt.partition s "://").2.1
def rA (s : Str) : Str := (Txt.partition s "://").2.2
theorem adr_all : ∀ sc, sc ∈ SC → ∀ ho, ho ∈ HOS → ∀ pa, pa ∈ PA → (adr sc ho pa).length ≤ 100 ∧ Txt.partition (adr sc ho pa) "://" = (sc, mkA (adr sc ho pa), rA (adr sc ho pa)) ∧ (Txt.partition (rA (adr sc ho pa)) "/").1 = ho ∧ (Txt.partition (rA (adr sc ho pa)) "/").2.1 ++ (Txt.partition (rA (adr sc ho pa)) "/").2.2 = pa ∧ okP (adr sc ho pa) sc (mkA (adr sc ho pa)) ho = true := by decide +kernel
theorem adr_pts {sc ho pa : Str} (h1 : sc ∈ SC) (h2 : ho ∈ HOS) (h3 : pa ∈ PA) : (adr sc ho pa).length ≤ 100 ∧ ∃ mk sl p, Pts (adr sc ho pa) sc mk ho sl p ∧ sl ++ p = pa ∧ okP (adr sc ho pa) sc mk ho = true := by
  obtain ⟨a1, a2, a3, a4, a5⟩ := adr_all sc h1 ho h2 pa h3
  exact ⟨a1, _, _, _, ⟨_, a2, Prod.ext a3 rfl⟩, a4, a5⟩
/-- claims' addresses -/
def jnA (sc ho pa : Str) : Str := joinA sc (mkA (adr sc ho pa)) ho (Txt.partition (rA (adr sc ho pa)) "/").2.1 (Txt.partition (rA (adr sc ho pa)) "/").2.2
theorem cla_all : ∀ sc, sc ∈ SC → ∀ ho, ho ∈ CH → ∀ pa, pa ∈ PA → (adr sc ho pa).length ≤ 100 ∧ Txt.partition (adr sc ho pa) "://" = (sc, mkA (adr sc ho pa), rA (adr sc ho pa)) ∧ (Txt.partition (rA (adr sc ho pa)) "/").1 = ho ∧ (Txt.partition (rA (adr sc ho pa)) "/").2.1 ++ (Txt.partition (rA (adr sc ho pa)) "/").2.2 = pa ∧
    okP (jnA sc ho pa) (Txt.partition (jnA sc ho pa) "://").1 (Txt.partition (jnA sc ho pa) "://").2.1 (Txt.partition (Txt.partition (jnA sc ho pa) "://").2.2 "/").1 = true := by decide +kernel
theorem cla_pts {sc ho pa : Str} (h1 : sc ∈ SC) (h2 : ho ∈ CH) (h3 : pa ∈ PA) : (adr sc ho pa).length ≤ 100 ∧ ∃ mk sl p sc2 mk2 ho2 sl2 pa2, Pts (adr sc ho pa) sc mk ho sl p ∧ sl ++ p = pa ∧ Pts (joinA sc mk ho sl p) sc2 mk2 ho2 sl2 pa2 ∧ okP (joinA sc mk ho sl p) sc2 mk2 ho2 = true := by
  obtain ⟨a1, a2, a3, a4, a5⟩ := cla_all sc h1 ho h2 pa h3
  exact ⟨a1, _, _, _, _, _, _, _, _, ⟨_, a2, Prod.ext a3 rfl⟩, a4, ⟨_, rfl, rfl⟩, a5⟩
section
variable {K : PySem.W.Frag} {a : Adr} {B H : Hp} {Q : VK} {E : XK} {L F O : List (Addr × HO)} {I : List Im}
variable {cs : List CL} {e : CL} {w : Alw} {so dx cd wd x dx' : Addr} {ap sc ho pa s mk sl c h : Str} {pr : Bool} {qc qo qn qp : Array Value}
theorem c_adr {q : Array Value} {L' : List (Addr × HO)} (hC : Ctx K B H L I) (p : Perm3 L ((a.tb_parts_of_address, .tbl q) :: L')) (ht : TriplesOk q.toList) (h1 : sc ∈ SC) (h2 : ho ∈ HOS) (h3 : pa ∈ PA)
    (kk : ∀ t q' H1, TriplesOk q'.toList → Ctx K B H1 ((a.tb_parts_of_address, .tbl q') :: L') (.tup t [.str sc, .str ho, .str pa] :: I) → Q (.ref t) H1) : sp_parts_of_address K a [.str (adr sc ho pa)] H Q E := by
  obtain ⟨z, mk, sl, p', hp, e, ok⟩ := adr_pts h1 h2 h3
  exact c_partsT hC p ht (Nat.le_trans z (by decide)) hp ok (fun t q' H1 tr hC => kk t q' H1 tr (by rw [← e]; exact hC))
theorem c_cov (hC : Ctx K B H L I) (hz : c.length ≤ 1000) (k : ∀ H1, Ctx K B H1 L I → Q (covV c h) H1) : sp_covers_host K a [.str c, .str h] H Q E :=
  ⟨rfl, c, h, L, rfl, hz, hC.lay, fun H1 s y => k H1 (hC.moved s y)⟩
theorem c_fit (hC : Ctx K B H L I) (h1 : c ∈ CH) (h2 : h ∈ HOS) (k : ∀ H1, Ctx K B H1 L I → Q (covV c h) H1) : sp_law_fit K a [.str c, .str h] H Q E :=
  ⟨rfl, c, h, L, rfl, h1, h2, hC.lay, fun H1 s y => k H1 (hC.moved s y)⟩
theorem ch_len : ∀ c, c ∈ CH → c.length ≤ 1000 := by decide +kernel
theorem c_forget (hC : Ctx K B H L I) (p : Perm3 L (OL a so dx cd wd cs w F)) (ok : ClsOk cs) (aok : AlwOk w) (k : ∀ cd wd H1, Ctx K B H1 (OL a so dx cd wd (cs.filter fun e => decide (e.ap ≠ ap)) (w.filter fun p => decide (p.2 ≠ .str ap)) F) I → Q .non H1) : sp_Openers_forget K a [.ref so, .str ap] H Q E :=
  ⟨rfl, so, dx, cd, wd, ap, cs, w, F, rfl, ok, aok, hC.lay.perm p.lay, fun H1 cd wd s y => k cd wd H1 (hC.moved s y)⟩
theorem c_fitting (hC : Ctx K B H L I) (p : Perm3 L (KT a qc qo qn qp (OL a so dx cd wd cs w F))) (h1 : sc ∈ SC) (h2 : ho ∈ HOS) (h3 : pa ∈ PA) (ok : ClsOk cs) (tk : TK qc qo qn qp)
    (k : ∀ t qc qo qn qp H1, TK qc qo qn qp → Ctx K B H1 (KT a qc qo qn qp (OL a so dx cd wd cs w F)) (.tup t ((namesL cs sc ho pa).map V.str) :: I) → Q (.ref t) H1) : sp_Openers_fitting K a [.ref so, .str (adr sc ho pa)] H Q E :=
  ⟨rfl, so, dx, cd, wd, sc, ho, pa, cs, w, qc, qo, qn, qp, F, rfl, h1, h2, h3, ok, hC.lay.perm p.lay, tk, fun H1 t qc qo qn qp s y tk st => k t qc qo qn qp H1 tk ((hC.moved s y).add (i := .tup t _) st)⟩
theorem c_opens (hC : Ctx K B H L I) (p : Perm3 L (KT a qc qo qn qp (OL a so dx cd wd cs w F))) (h1 : sc ∈ SC) (h2 : ho ∈ HOS) (h3 : pa ∈ PA) (ok : ClsOk cs) (aok : AlwOk w) (tk : TK qc qo qn qp)
    (k : ∀ v qc qo qn qp H1, TK qc qo qn qp → Ctx K B H1 (KT a qc qo qn qp (OL a so dx cd wd cs w F)) I → TD K H1 v (opensD cs w sc ho pa) → Q v H1) : sp_Openers_opens K a [.ref so, .str (adr sc ho pa)] H Q E :=
  ⟨rfl, so, dx, cd, wd, sc, ho, pa, cs, w, qc, qo, qn, qp, F, rfl, h1, h2, h3, ok, aok, hC.lay.perm p.lay, tk, fun H1 v qc qo qn qp s y tk td => k v qc qo qn qp H1 tk (hC.moved s y) td⟩
theorem c_wantT (hC : Ctx K B H L I) (p : Perm3 L (KT a qc qo qn qp (OL a so dx cd wd cs w F))) (h1 : sc ∈ SC) (h2 : ho ∈ HOS) (h3 : pa ∈ PA) (ok : ClsOk cs) (hw : w.length ≤ 1000) (tk : TK qc qo qn qp) (hf : fitsB cs ap sc ho = true)
    (k : ∀ qc qo qn qp H1, TK qc qo qn qp → Ctx K B H1 (KT a qc qo qn qp (OL a so dx cd wd cs (putR w (sc, ho) (.str ap)) F)) I → Q .non H1) : sp_Openers_want_always K a [.ref so, .str ap, .str (adr sc ho pa)] H Q E :=
  ⟨rfl, so, dx, cd, wd, ap, sc, ho, pa, cs, w, qc, qo, qn, qp, F, rfl, h1, h2, h3, ok, hw, hC.lay.perm p.lay, tk, fun _ H1 qc qo qn qp s y tk => k qc qo qn qp H1 tk (hC.moved s y), fun z => by rw [hf] at z; cases z⟩
theorem c_wantF (hC : Ctx K B H L I) (p : Perm3 L (KT a qc qo qn qp (OL a so dx cd wd cs w F))) (h1 : sc ∈ SC) (h2 : ho ∈ HOS) (h3 : pa ∈ PA) (ok : ClsOk cs) (hw : w.length ≤ 1000) (tk : TK qc qo qn qp) (hf : fitsB cs ap sc ho = false)
    (k : ∀ qc qo qn qp H1, TK qc qo qn qp → Ctx K B H1 (KT a qc qo qn qp (OL a so dx cd wd cs w F)) I → E (.ref a.c_NameFault) none H1) : sp_Openers_want_always K a [.ref so, .str ap, .str (adr sc ho pa)] H Q E :=
  ⟨rfl, so, dx, cd, wd, ap, sc, ho, pa, cs, w, qc, qo, qn, qp, F, rfl, h1, h2, h3, ok, hw, hC.lay.perm p.lay, tk, fun z => (by rw [hf] at z; cases z), fun _ H1 qc qo qn qp s y tk => k qc qo qn qp H1 tk (hC.moved s y)⟩
/-- a claim at an address of the law's -/
theorem c_claimT (hC : Ctx K B H L I) (p : Perm3 L (KT a qc qo qn qp (OL a so dx cd wd cs w F))) (h0 : ap ∈ APS) (h1 : sc ∈ SC) (h2 : ho ∈ CH) (h3 : pa ∈ PA) (hl : ClsOk cs) (tk : TK qc qo qn qp) (hk : keyB cs ap sc ho pa = false)
    (k : ∀ ad d qc qo qn qp H1, TK qc qo qn qp → Ctx K B H1 (KT a qc qo qn qp (OL a so dx cd wd (cs ++ [⟨ap, sc, ho, pa, pr, ad, d⟩]) w F)) I → Q .non H1) : sp_Openers_claim K a [.ref so, .str ap, .str (adr sc ho pa), .bl pr] H Q E := by
  obtain ⟨z, mk, sl, p', sc2, mk2, ho2, sl2, pa2, hp, e, hp2, ok⟩ := cla_pts h1 h2 h3
  refine ⟨rfl, so, dx, cd, wd, ap, adr sc ho pa, sc, mk, ho, sl, p', sc2, mk2, ho2, sl2, pa2, pr, cs, w, qc, qo, qn, qp, F, rfl, Nat.le_trans z (by decide), .inl h0, hp, hp2, hl, fun _ _ => ⟨h1, h2, by rw [e]; exact h3⟩, hC.lay.perm p.lay, tk, fun _ _ _ H1 ad d qc qo qn qp s y tk => ?_, fun n => absurd ⟨h0, ok, by rw [e]; exact hk⟩ n⟩
  rw [e] at y
  exact k ad d qc qo qn qp H1 tk (hC.moved s y)
theorem c_claimF (hC : Ctx K B H L I) (p : Perm3 L (KT a qc qo qn qp (OL a so dx cd wd cs w F))) (h0 : ap ∈ APS) (h1 : sc ∈ SC) (h2 : ho ∈ CH) (h3 : pa ∈ PA) (hl : ClsOk cs) (tk : TK qc qo qn qp) (hk : keyB cs ap sc ho pa = true)
    (k : ∀ qc qo qn qp H1, TK qc qo qn qp → Ctx K B H1 (KT a qc qo qn qp (OL a so dx cd wd cs w F)) I → E (.ref a.c_NameFault) none H1) : sp_Openers_claim K a [.ref so, .str ap, .str (adr sc ho pa), .bl pr] H Q E := by
  obtain ⟨z, mk, sl, p', sc2, mk2, ho2, sl2, pa2, hp, e, hp2, ok⟩ := cla_pts h1 h2 h3
  refine ⟨rfl, so, dx, cd, wd, ap, adr sc ho pa, sc, mk, ho, sl, p', sc2, mk2, ho2, sl2, pa2, pr, cs, w, qc, qo, qn, qp, F, rfl, Nat.le_trans z (by decide), .inl h0, hp, hp2, hl, fun _ _ => ⟨h1, h2, by rw [e]; exact h3⟩, hC.lay.perm p.lay, tk, fun _ _ n => ?_, fun _ H1 qc qo qn qp s y tk => k qc qo qn qp H1 tk (hC.moved s y)⟩
  rw [e, hk] at n
  cases n
theorem c_best {lc : Addr} {ts : List Addr} (hC : Ctx K B H L I) (p : Perm3 L ((lc, .lst (ts.map V.ref)) :: F)) (h1 : sc ∈ SC) (h2 : ho ∈ HOS) (h3 : pa ∈ PA) (ok : ClsOk cs) (hp : Paired (fun (t : Addr) (e : CL) => SqT K H t (rowV e)) ts cs)
    (k : ∀ p H1, Ctx K B H1 ((p, .lst ((namesL cs sc ho pa).map V.str)) :: (lc, .lst (ts.map V.ref)) :: F) I → Q (.ref p) H1) : sp_law_best K a [.ref lc, .str sc, .str ho, .str pa] H Q E :=
  ⟨rfl, lc, ts, cs, sc, ho, pa, F, rfl, h1, h2, h3, ok, hp, hC.lay.perm p.lay, fun H1 p s y => k p H1 (hC.moved s y)⟩
end
end Wk
namespace Wk
open PySem PySem.Spec PyProof.Rows L2 Ph
open LamX (TTold)
open GxR (tAnyS)
set_option hygiene false in
local macro_rules | `(tactic| walk_at "cls") => `(tactic| first | with_reducible exact T.cl_Claim | with_reducible exact T.cl_Openers)
set_option hygiene false in
local macro_rules | `(tactic| walk_at "na") => `(tactic| first | with_reducible exact T.na_Claim_app | with_reducible exact T.na_Claim_scheme | with_reducible exact T.na_Claim_host | with_reducible exact T.na_Claim_path | with_reducible exact T.na_Claim_proved | with_reducible exact T.na_Openers_claims | with_reducible exact T.na_Openers_always)
set_option hygiene false in
local macro_rules | `(tactic| walk_at "exc") => `(tactic| first | with_reducible exact T.ec_NameFault)
set_option hygiene false in
local macro_rules | `(tactic| walk_at "mem") => `(tactic| first | with_reducible assumption | with_reducible exact List.mem_cons_self | with_reducible exact mem_mid | ((with_reducible apply List.mem_cons_of_mem); walk_at "mem") | ((with_reducible apply mem_app); walk_at "mem"))
set_option hygiene false in
local macro_rules | `(tactic| walk_at "up") => `(tactic| first | with_reducible exact Up.here | with_reducible exact Up.mid | ((with_reducible apply Up.there); walk_at "up") | ((with_reducible apply Up.app); walk_at "up"))
set_option hygiene false in
local macro_rules | `(tactic| walk_at "pick") => `(tactic| first | with_reducible exact Pick.here | with_reducible exact Pick.mid | ((with_reducible apply Pick.there); walk_at "pick") | ((with_reducible apply Pick.app); walk_at "pick"))
set_option hygiene false in
local macro_rules | `(tactic| walk_at "set") => `(tactic| first | with_reducible exact SetAt.here | ((with_reducible apply SetAt.there); walk_at "set"))
set_option hygiene false in
local macro_rules | `(tactic| walk_at "lset") => `(tactic| first | with_reducible exact LSet.here | ((with_reducible apply LSet.there); walk_at "lset"))
set_option hygiene false in
local macro_rules | `(tactic| walk_at "sne") => `(tactic| first | (intro hq; exact absurd (Sum.inr.inj hq) (by decide +kernel)) | decide +kernel)
set_option hygiene false in
local macro_rules | `(tactic| walk_at "lk") => `(tactic| first | with_reducible exact Lk.here | ((with_reducible apply Lk.there); (walk_at "sne"); walk_at "lk"))
set_option hygiene false in
local macro_rules | `(tactic| walk_at "nolk") => `(tactic| first | with_reducible exact NoLk.nil | ((with_reducible apply NoLk.there); (walk_at "sne"); walk_at "nolk"))
set_option hygiene false in
local macro_rules | `(tactic| walk_at "put") => `(tactic| first | with_reducible exact Put.nil | with_reducible exact Put.here | ((with_reducible apply Put.there); (walk_at "sne"); walk_at "put"))
set_option hygiene false in
local macro_rules | `(tactic| walk_at "dk") => `(tactic| first | with_reducible exact Dk.here | ((with_reducible apply Dk.there); (walk_at "sne"); walk_at "dk"))
set_option hygiene false in
local macro_rules | `(tactic| walk_at "dno") => `(tactic| first | with_reducible exact DNo.nil | ((with_reducible apply DNo.there); (walk_at "sne"); walk_at "dno"))
set_option hygiene false in
local macro_rules | `(tactic| walk_at "dpt") => `(tactic| first | ((with_reducible apply DPt.here); walk_at "dno") | ((with_reducible apply DPt.there); (walk_at "sne"); walk_at "dpt"))
set_option hygiene false in
local macro_rules | `(tactic| walk_at "get") => `(tactic| exact hC.get (by walk_at "mem"))
set_option hygiene false in
local macro_rules | `(tactic| walk_at "sqt") => `(tactic| exact hC.tup (by walk_at "mem"))
set_option hygiene false in
local macro_rules | `(tactic| walk_at "len") => `(tactic| first | (simp; done) | (simp only [List.length_append, List.length_cons, List.length_nil]; omega) | omega)
set_option hygiene false in
local macro_rules | `(tactic| walk_at "alli") => `(tactic| first | exact AllI.nil | (apply AllI.cons; walk_at "alli"))
set_option hygiene false in
local macro_rules | `(tactic| walk_at "tok") => `(tactic| first | with_reducible exact ToK.nil | ((with_reducible apply ToK.str); walk_at "tok") | ((with_reducible apply ToK.int); walk_at "tok"))
set_option hygiene false in
local macro_rules | `(tactic| walk_at "rdis") => `(tactic| first | with_reducible exact RDis.nil | ((with_reducible apply RDis.cons); (walk_at "dno"); walk_at "rdis"))
set_option hygiene false in
local macro_rules | `(tactic| walk_at "pull") => `(tactic| first | with_reducible exact Pull.here | ((with_reducible apply Pull.there); walk_at "pull"))
set_option hygiene false in
local macro_rules | `(tactic| walk_at "st3") => `(tactic| first
  | with_reducible refine s_for ?_
  | with_reducible refine s_il ?_
  | ((with_reducible refine' s_ilV ?sm ?_); (case sm => walk_at "get"))
  | with_reducible refine s_rng ?_
  | ((with_reducible refine' s_rngV ?s1 ?s2 ?_); (case s1 => omega); (case s2 => omega))
  | with_reducible refine s_sl ?_
  | with_reducible refine s_noPart ?_
  | with_reducible refine s_partE ?_
  | with_reducible refine s_partV ?_
  | ((with_reducible refine' s_slL hC ?sm ?_); (case sm => first | assumption | exact SqL.of (by walk_at "get")); clear hC; intro sp H hC)
  | with_reducible refine s_lc ?_
  | ((with_reducible refine' s_app hC ?sm ?sz ?su ?_); (case sm => walk_at "get"); (case sz => walk_at "len"); (case su => walk_at "up"); clear hC; intro H hC)
  | ((with_reducible refine' s_disp hC ?_); clear hC; intro dp H hC)
  | with_reducible refine s_pair ?_
  | with_reducible refine s_pnil ?_
  | ((with_reducible refine' s_dispV hC ?sm ?sh ?sn ?sz ?su ?_); (case sm => walk_at "get"); (case sh => walk_at "tok"); (case sn => walk_at "rdis"); (case sz => walk_at "len"); (case su => walk_at "up"); clear hC; intro H hC)
  | ((with_reducible refine' s_toldE ?se ?_); (case se => walk_at "exc"))
  | ((with_reducible refine' s_addL hC ?s1 ?s2 ?sz ?_); (case s1 => walk_at "get"); (case s2 => walk_at "get"); (case sz => walk_at "len"); clear hC; intro lp H hC)
  | ((with_reducible refine' s_ixAny ?sm ?sa ?s0 ?s1 ?_); (case sm => walk_at "get"); (case sa => walk_at "alli"); (case s0 => omega); (case s1 => walk_at "len"); intro iz hiz; simp only [List.mem_cons, List.not_mem_nil, or_false] at hiz))
-- a step of no choice
set_option hygiene false in
local macro_rules | `(tactic| walk_at "st0") => `(tactic| first
  | ((with_reducible refine' s_var ?sa ?_); (case sa => first | rfl | assumption))
  | with_reducible refine s_c ?_
  | with_reducible refine s_op ?_
  | with_reducible refine s_fld ?_
  | ((with_reducible refine' s_fldV ?sm ?sc ?sn ?sl ?_); (case sm => walk_at "get"); (case sc => walk_at "cls"); (case sn => walk_at "na"); (case sl => walk_at "lk"))
  | with_reducible refine s_cons ?_
  | with_reducible refine s_nil ?_
  | with_reducible refine s_seq ?_
  | with_reducible refine s_asg ?_
  | ((with_reducible refine' s_name ?sa ?_); (case sa => walk_at "set"))
  | with_reducible refine s_nx ?_
  | with_reducible refine s_next ?_
  | with_reducible refine s_test ?_
  | with_reducible refine s_bl ?_
  | with_reducible refine s_tru ?_
  | with_reducible refine s_truB ?_
  | with_reducible refine s_truN ?_
  | with_reducible refine s_if ?_
  | with_reducible refine s_and ?_
  | with_reducible refine s_or ?_
  | with_reducible refine s_not ?_
  | with_reducible refine s_ifE ?_
  | with_reducible refine iteT ?_
  | with_reducible refine iteF ?_
  | with_reducible refine s_iteNT ?_
  | with_reducible refine s_iteNF ?_)
set_option hygiene false in
local macro_rules | `(tactic| walk_at "st1") => `(tactic| first
  | with_reducible refine s_addI ?_
  | with_reducible refine s_subI ?_
  | with_reducible refine s_iaddI ?_
  | ((with_reducible refine' s_ltT ?sq ?_); (case sq => assumption))
  | ((with_reducible refine' s_ltF ?sq ?_); (case sq => assumption))
  | with_reducible refine s_ltI ?_
  | ((with_reducible refine' s_leT ?sq ?_); (case sq => assumption))
  | ((with_reducible refine' s_leF ?sq ?_); (case sq => assumption))
  | with_reducible refine s_leI ?_
  | ((with_reducible refine' s_gtT ?sq ?_); (case sq => assumption))
  | ((with_reducible refine' s_gtF ?sq ?_); (case sq => assumption))
  | with_reducible refine s_gtI ?_
  | ((with_reducible refine' s_geT ?sq ?_); (case sq => assumption))
  | ((with_reducible refine' s_geF ?sq ?_); (case sq => assumption))
  | with_reducible refine s_geI ?_
  | ((with_reducible refine' s_eqIT ?sq ?_); (case sq => assumption))
  | ((with_reducible refine' s_eqIF ?sq ?_); (case sq => assumption))
  | with_reducible refine s_eqI ?_
  | with_reducible refine s_neIF ?_
  | with_reducible refine s_neI ?_
  | with_reducible refine s_isN_non ?_
  | with_reducible refine s_isN_ref ?_
  | with_reducible refine s_isN_int ?_
  | with_reducible refine s_isN_str ?_
  | with_reducible refine s_notN_non ?_
  | with_reducible refine s_notN_ref ?_
  | with_reducible refine s_notN_int ?_
  | with_reducible refine s_notN_str ?_
  | ((with_reducible refine' s_eqST ?sq ?_); (case sq => with_reducible rfl))
  | with_reducible refine s_eqS ?_
  | with_reducible refine s_neSs ?_
  | with_reducible refine s_neS ?_
  | with_reducible refine s_eqBs ?_
  | with_reducible refine s_eqTF ?_
  | with_reducible refine s_eqFT ?_
  | with_reducible refine s_eqB ?_
  | with_reducible refine s_neBs ?_
  | with_reducible refine s_neTF ?_
  | with_reducible refine s_neFT ?_
  | with_reducible refine s_neB ?_
  | with_reducible refine s_eqNS ?_
  | with_reducible refine s_eqSN ?_
  | with_reducible refine s_neNS ?_
  | ((with_reducible refine' s_mulI ?sc ?_); (case sc => first | exact .inr ⟨by decide, by decide⟩ | exact .inl ⟨by decide, by decide⟩ | exact .inr ⟨by omega, by omega⟩ | exact .inl ⟨by omega, by omega⟩))
  | ((with_reducible refine' s_modI ?sc ?_); (case sc => first | decide | omega))
  | ((with_reducible refine' s_divI ?sc ?_); (case sc => exact ⟨by first | decide | omega, by first | decide | omega⟩))
  | ((with_reducible refine' s_powI ?sc ?_); (case sc => exact ⟨by decide, by decide, by decide⟩))
  | (refine' s_ixT (j := 0) ?sm ?se ?_; (case sm => walk_at "sqt"); (case se => rfl))
  | (refine' s_ixT (j := 1) ?sm ?se ?_; (case sm => walk_at "sqt"); (case se => rfl))
  | ((with_reducible refine' s_ixD ?sm ?se ?_); (case sm => walk_at "get"); (case se => walk_at "dk"))
  | ((with_reducible refine' s_ixHead ?sm ?_); (case sm => walk_at "get"))
  | ((with_reducible refine' s_ixLast ?sm ?_); (case sm => walk_at "get"))
  | ((with_reducible refine' s_ixL ?sm ?se ?_); (case sm => walk_at "get"); (case se => rfl)))
set_option hygiene false in
local macro_rules | `(tactic| walk_at "st2") => `(tactic| first
  | with_reducible refine s_setF ?_
  | ((with_reducible refine' s_setV hC ?sm ?sc ?sn ?sz ?sp ?su ?_); (case sm => walk_at "get"); (case sc => walk_at "cls"); (case sn => walk_at "na"); (case sz => walk_at "len"); (case sp => walk_at "put"); (case su => walk_at "up"); clear hC; intro H hC)
  | with_reducible refine s_augF ?_
  | ((with_reducible refine' s_augV ?sm ?sc ?sn ?sl ?_); (case sm => walk_at "get"); (case sc => walk_at "cls"); (case sn => walk_at "na"); (case sl => walk_at "lk"))
  | ((with_reducible refine' s_augW hC ?sm ?sz ?sp ?su ?_); (case sm => walk_at "get"); (case sz => walk_at "len"); (case sp => walk_at "put"); (case su => walk_at "up"); clear hC; intro H hC)
  | with_reducible refine s_tup ?_
  | ((with_reducible refine' s_tupP hC ?sz ?_); (case sz => walk_at "len"); clear hC; intro tp H hC)
  | with_reducible refine s_lst ?_
  | ((with_reducible refine' s_lstN hC ?sz ?_); (case sz => walk_at "len"); clear hC; intro lp H hC)
  | with_reducible refine s_ret ?_
  | with_reducible refine s_retN ?_
  | with_reducible refine s_drop ?_
  | with_reducible refine s_bm ?_
  | ((with_reducible refine' s_tyL ?sm ?_); (case sm => walk_at "get"))
  | ((with_reducible refine' s_append hC ?sm ?sz ?su ?_); (case sm => walk_at "get"); (case sz => walk_at "len"); (case su => walk_at "up"); clear hC; intro H hC)
  | with_reducible refine s_cb ?_
  | with_reducible refine s_abs ?_
  | with_reducible refine s_absI ?_
  | with_reducible refine s_absB ?_
  | with_reducible refine s_max2N ?_
  | with_reducible refine s_min2N ?_
  | with_reducible refine s_int1 ?_
  | with_reducible refine s_int1T ?_
  | with_reducible refine s_int1F ?_
  | with_reducible refine s_int1b ?_
  | with_reducible refine s_par ?_
  | with_reducible refine s_par2V ?_
  | with_reducible refine s_par3 ?_
  | with_reducible refine s_par3V ?_
  | with_reducible refine s_subG ?_
  | ((with_reducible refine' s_putD hC ?sm ?sz ?sp ?su ?_); (case sm => walk_at "get"); (case sz => walk_at "len"); (case sp => walk_at "dpt"); (case su => walk_at "up"); clear hC; intro H hC)
  | ((with_reducible refine' s_putL (j := 0) hC ?sm ?se ?sw ?su ?_); (case sm => walk_at "get"); (case se => rfl); (case sw => walk_at "lset"); (case su => walk_at "up"); clear hC; intro H hC)
  | ((with_reducible refine' s_putL (j := 1) hC ?sm ?se ?sw ?su ?_); (case sm => walk_at "get"); (case se => rfl); (case sw => walk_at "lset"); (case su => walk_at "up"); clear hC; intro H hC)
  | ((with_reducible refine' s_putL (j := 2) hC ?sm ?se ?sw ?su ?_); (case sm => walk_at "get"); (case se => rfl); (case sw => walk_at "lset"); (case su => walk_at "up"); clear hC; intro H hC)
  | ((with_reducible refine' s_gtup ?sm ?sz ?_); (case sm => walk_at "sqt"); (case sz => rfl))
  | with_reducible refine s_gcons ?_
  | with_reducible refine s_gnil ?_
  | with_reducible refine s_call ?_
  | with_reducible refine s_callV ?_
  | ((with_reducible refine s_callD ?_); dsimp only [List.cons_append, List.nil_append])
  | with_reducible refine s_meth ?_
  | ((with_reducible refine' s_methV ?sm ?sn ?_); (case sm => walk_at "get"); (case sn => walk_at "nolk"))
  | with_reducible refine s_make ?_
  | ((with_reducible refine s_makeV hC ?_); clear hC; intro mx mdx H hC)
  | with_reducible refine s_raise ?_
  | with_reducible refine s_chain ?_
  | with_reducible refine s_chainB ?_
  | with_reducible refine s_andV ?_
  | with_reducible refine s_andB ?_
  | with_reducible refine s_orV ?_
  | with_reducible refine s_orB ?_
  | with_reducible refine s_notV ?_
  | with_reducible refine s_notB ?_
  | with_reducible refine s_un ?_
  | with_reducible refine s_negI ?_
  | with_reducible refine s_asg2 ?_
  | with_reducible refine s_break ?_
  | with_reducible refine s_cont ?_)
set_option hygiene false in
local macro_rules | `(tactic| walk_at "sl") => `(tactic| first | exact Nat.le_trans (nS_len (by omega) (by omega)) (by decide) | exact Nat.le_trans (by assumption) (by decide) | (refine Nat.le_trans (cutS_length _ _ _) ?_; walk_at "sl") | (refine app_le10 ?_ ?_ <;> walk_at "sl") | (refine app_le5 ?_ ?_ <;> walk_at "sl") | (refine app_le2 ?_ ?_ <;> walk_at "sl") | (refine app_le1 ?_ ?_ <;> walk_at "sl") | (refine app_le05 ?_ ?_ <;> walk_at "sl") | (rw [repS_length]; decide) | decide | omega)
set_option hygiene false in
local macro_rules | `(tactic| walk_at "st4") => `(tactic| first
  | with_reducible refine s_gfld ?_
  | with_reducible refine s_bm0 ?_
  | ((with_reducible refine' s_popL hC ?sm ?su ?_); (case sm => walk_at "get"); (case su => walk_at "up"); clear hC; intro H hC)
  | with_reducible refine s_m1 ?_
  | with_reducible refine s_m1V ?_
  | ((with_reducible refine' s_split hC ?sb ?sz ?_); (case sb => rfl); (case sz => walk_at "sl"); clear hC; intro sp H hC)
  | with_reducible refine s_isStrS ?_
  | with_reducible refine s_isStrI ?_
  | ((with_reducible refine' s_slS ?sz ?_); (case sz => walk_at "sl"))
  | ((with_reducible refine' s_slT1 hC ?sm ?sz ?_); (case sm => walk_at "sqt"); (case sz => walk_at "len"); clear hC; intro sp H hC)
  | ((with_reducible refine' s_mulS ?s1 ?s2 ?s3 ?s4 ?_); (case s1 => decide); (case s2 => decide); (case s3 => decide); (case s4 => decide))
  | ((with_reducible refine' s_addSS ?s1 ?s2 ?_); (case s1 => walk_at "sl"); (case s2 => walk_at "sl"))
  | ((with_reducible refine' s_lenL ?sm ?_); (case sm => walk_at "get"))
  | ((with_reducible refine' s_lenSS ?s1 ?_); (case s1 => walk_at "sl"))
  | with_reducible refine s_anyS ?_
  | ((with_reducible refine' s_anyV hC ?sp ?sm ?_); (case sp => walk_at "pick"); (case sm => walk_at "mem"); clear hC; intro tb H hC)
  | ((with_reducible refine' s_lam hC ?sp ?sm ?_); (case sp => walk_at "pick"); (case sm => walk_at "mem"); clear hC; intro tb H hC; try dsimp only)
  | ((with_reducible refine' s_lamV hC ?sp ?sm ?_); (case sp => walk_at "pick"); (case sm => walk_at "mem"); clear hC; intro lf lc tb H hC)
  | with_reducible refine s_yes ?_
  | with_reducible refine s_initV ?_
  | with_reducible refine s_tupX ?_
  | ((with_reducible refine' s_tupGV hC ?sp ?sm ?_); (case sp => walk_at "pick"); (case sm => walk_at "mem"); clear hC; intro tb H hC)
  | ((with_reducible refine' s_tupE ?s1 ?s2 ?_); (case s1 => omega); (case s2 => omega))
  | with_reducible refine s_lcS ?_
  | ((with_reducible refine' s_aug ?sa ?_); (case sa => first | rfl | assumption))
  | ((with_reducible refine' s_extL hC ?sm ?s2 ?sz ?su ?_); (case sm => walk_at "get"); (case s2 => walk_at "get"); (case sz => walk_at "len"); (case su => walk_at "up"); clear hC; intro H hC)
  | with_reducible refine s_uIsN_non ?_
  | with_reducible refine s_uIsN_ref ?_
  | with_reducible refine s_uIsN_int ?_
  | with_reducible refine s_uIsN_str ?_
  | with_reducible refine s_uIsN_bl ?_
  | with_reducible refine s_uIsB_s ?_
  | with_reducible refine s_uIsB_non ?_
  | with_reducible refine s_uIsB_str ?_
  | with_reducible refine s_uIsB_int ?_
  | with_reducible refine s_uIsB_ref ?_
  | with_reducible refine s_uIsB ?_
  | with_reducible refine s_del ?_
  | ((with_reducible refine' s_ixSet ?sm ?sz ?_); (case sm => walk_at "get"); (case sz => assumption))
  | ((with_reducible refine' s_ne00 ?s1 ?s2 ?_); (case s1 => walk_at "get"); (case s2 => walk_at "get"))
  | ((with_reducible refine' s_eq00 ?s1 ?s2 ?_); (case s1 => walk_at "get"); (case s2 => walk_at "get"))
  | with_reducible refine s_neNN ?_
  | with_reducible refine s_eqNN ?_
  | ((with_reducible refine' s_strI ?s0 ?s1 ?_); (case s0 => omega); (case s1 => omega))
  | ((with_reducible refine' s_rep1 hC ?sm ?sz ?_); (case sm => walk_at "get"); (case sz => walk_at "len"); clear hC; intro lp H hC)
  | ((with_reducible refine' s_rep0 hC ?sm ?_); (case sm => walk_at "get"); clear hC; intro lp H hC)
  | with_reducible refine s_it ?_
  | ((with_reducible refine' s_itV ?sm ?_); (case sm => walk_at "sqt"))
  | with_reducible refine s_seqI ?_
  | ((with_reducible refine' s_seqL ?sm ?_); (case sm => walk_at "get"))
  | ((with_reducible refine' s_seqT ?sm ?_); (case sm => walk_at "sqt"))
  | with_reducible refine s_keys ?_
  | with_reducible refine s_anyX ?_
  | ((with_reducible refine' s_anyGV hC ?sp ?sm ?_); (case sp => walk_at "pick"); (case sm => walk_at "mem"); clear hC; intro tb H hC)
  | with_reducible refine s_anyX2 ?_
  | ((with_reducible refine' s_anyGV2 hC ?sp ?sm ?_); (case sp => walk_at "pick"); (case sm => walk_at "mem"); clear hC; intro tb H hC)
  | ((with_reducible refine' s_anyE ?s1 ?s2 ?_); (case s1 => omega); (case s2 => omega))
  | ((with_reducible refine' s_tupOfL hC ?sm ?_); (case sm => walk_at "get"); clear hC; intro tp H hC)
  | ((with_reducible refine' s_tupOfT ?sm ?_); (case sm => walk_at "sqt"))
  | ((with_reducible refine' s_listOfL hC ?sm ?_); (case sm => walk_at "get"); clear hC; intro lp H hC)
  | ((with_reducible refine' s_listOfT hC ?sm ?_); (case sm => walk_at "sqt"); clear hC; intro lp H hC))
set_option hygiene false in
local macro_rules | `(tactic| walk_at "st") => `(tactic| first | walk_at "st0" | walk_at "st1" | walk_at "st2" | walk_at "stc" | walk_at "st3" | walk_at "st4")
set_option hygiene false in
local macro_rules | `(tactic| walk_at "go") => `(tactic| repeat walk_at "st")
set_option hygiene false in
local macro_rules | `(tactic| walk_at "start") => `(tactic| simp only [L2.start, List.length_cons, List.length_nil, List.map_cons, List.map_nil, List.cons_append, List.nil_append, List.replicate, Nat.reduceAdd, Nat.reduceSub, List.range, List.range.loop, List.getElem?_cons_zero, List.getElem?_cons_succ])
set_option hygiene false in
local macro_rules | `(tactic| walk_at "perm2") => `(tactic| first | exact Perm2.nil | (apply Perm2.cons; (walk_at "pick"); walk_at "perm2"))
set_option hygiene false in
local macro_rules | `(tactic| walk_at "lay") => `(tactic| (apply Lay.perm2 hC.lay; walk_at "perm2"))
set_option hygiene false in
local macro_rules | `(tactic| walk_at "sp") => `(tactic| first | refine s_iteDT (by first | assumption | omega) ?_ | refine s_iteDF (by first | assumption | omega) ?_ | refine s_iteNDT (by first | assumption | omega) ?_ | refine s_iteNDF (by first | assumption | omega) ?_ | refine s_iteD (fun c => ?_) (fun c => ?_) | refine s_iteND (fun c => ?_) (fun c => ?_) | refine s_iteB (fun c => ?_) (fun c => ?_) | refine s_iteNB (fun c => ?_) (fun c => ?_))
set_option hygiene false in
local macro_rules | `(tactic| walk_at "all") => `(tactic| ((walk_at "go"); (try ((walk_at "sp") <;> walk_at "all"))))
set_option hygiene false in
local macro_rules | `(tactic| walk_at "tds") => `(tactic| first | exact TDs.nil | exact hC.dats (by walk_at "mem") | exact TDs.mono hC.sb (by assumption) | (apply TDs.cons; (walk_at "td"); walk_at "tds") | (apply TDs.snoc; (walk_at "tds"); walk_at "td") | (apply TDs.append; (walk_at "tds"); walk_at "tds"))
set_option hygiene false in
local macro_rules | `(tactic| walk_at "td") => `(tactic| first | exact TD.non | exact TD.int _ | exact TD.str _ | exact TD.bl _ | exact hC.dat (by walk_at "mem") | (apply TD.tupR; (walk_at "tds"); walk_at "sqt"))
set_option hygiene false in
local macro_rules | `(tactic| walk_at "dsl") => `(tactic| (try dsimp only [List.nil_append, List.cons_append] at hC))
set_option hygiene false in
local macro_rules | `(tactic| walk_at "subs") => `(tactic| first | with_reducible exact Subs.nil | ((with_reducible apply Subs.cons); (walk_at "mem"); walk_at "subs"))
set_option hygiene false in
local macro_rules | `(tactic| walk_at "selT") => `(tactic| first | with_reducible exact Sel.refl | with_reducible exact Sel.toNil _ | ((with_reducible apply Sel.skip); walk_at "selT"))
set_option hygiene false in
local macro_rules | `(tactic| walk_at "sel") => `(tactic| first | ((with_reducible apply Sel.cons); (walk_at "pick"); walk_at "sel") | walk_at "selT")
set_option hygiene false in
local macro_rules | `(tactic| walk_at "lay2") => `(tactic| first | exact hC.lay | ((try simp only [List.nil_append, List.cons_append]); (refine Sel.lay ?_ hC.lay); walk_at "sel"))
set_option hygiene false in
local macro_rules | `(tactic| walk_at "ctx") => `(tactic| ((refine' Ctx.sub hC ?cly ?csu); (case cly => walk_at "lay2"); (case csu => walk_at "subs")))
set_option hygiene false in
local macro_rules | `(tactic| walk_at "blk") => `(tactic| first | with_reducible exact Blk.here | ((with_reducible apply Blk.there); walk_at "blk") | ((with_reducible apply Blk.over); walk_at "blk"))
set_option hygiene false in
local macro_rules | `(tactic| walk_at "perm3") => `(tactic| first | with_reducible exact Perm3.nil | ((with_reducible apply Perm3.cons); (walk_at "pick"); walk_at "perm3") | ((with_reducible apply Perm3.blk); (walk_at "blk"); walk_at "perm3"))
set_option hygiene false in
local macro_rules | `(tactic| walk_at "selU") => `(tactic| first | with_reducible exact Sel3.refl | with_reducible exact Sel3.none | ((with_reducible apply Sel3.skip); walk_at "selU") | ((with_reducible apply Sel3.skipB); walk_at "selU"))
set_option hygiene false in
local macro_rules | `(tactic| walk_at "sel3") => `(tactic| first | ((with_reducible apply Sel3.cons); (walk_at "pick"); walk_at "sel3") | ((with_reducible apply Sel3.blk); (walk_at "blk"); walk_at "sel3") | walk_at "selU")
set_option hygiene false in
local macro_rules | `(tactic| walk_at "lay3") => `(tactic| first | exact hC.lay | ((try simp only [List.nil_append, List.cons_append]); (refine Sel3.lay ?_ hC.lay); walk_at "sel3"))
set_option hygiene false in
local macro_rules | `(tactic| walk_at "tdm") => `(tactic| first | exact hC.dats (by walk_at "mem") | exact TDs.nil)
set_option hygiene false in
local macro_rules | `(tactic| walk_at "prm") => `(tactic| exact hC.pr (by walk_at "mem"))
set_option hygiene false in
local macro_rules | `(tactic| walk_at "stg") => `(tactic| first
  | with_reducible refine s_g1 ?_
  | with_reducible refine s_notN_bl ?_
  | with_reducible refine s_isN_bl ?_
  | ((with_reducible refine' s_tupP hC ?sz ?_); (case sz => walk_at "len"); clear hC; intro tp H hC)
  | ((with_reducible refine' s_dnewK hC ?_); clear hC; intro dp H hC)
  | ((with_reducible refine' s_dnewT hC ?_); clear hC; intro dp H hC)
  | with_reducible refine s_g2 ?_
  | ((with_reducible refine' s_g1K ?sm ?_); (case sm => walk_at "get"))
  | ((with_reducible refine' s_g1T ?sm ?_); (case sm => walk_at "get"))
  | ((with_reducible refine' s_g2K ?sm ?_); (case sm => walk_at "get"))
  | ((with_reducible refine' s_g2T ?sm ?_); (case sm => walk_at "get"))
  | with_reducible refine s_g2y ?_
  | ((with_reducible refine' s_g1Kei ?sm ?se ?_); (case sm => walk_at "get"); (case se => assumption))
  | ((with_reducible refine' s_g1Ke ?sm ?se ?_); (case sm => walk_at "get"); (case se => assumption))
  | ((with_reducible refine' s_g1Kz ?sm ?se ?_); (case sm => walk_at "get"); (case se => assumption))
  | ((with_reducible refine' s_g2Kei ?sm ?se ?_); (case sm => walk_at "get"); (case se => assumption))
  | ((with_reducible refine' s_g2Ke ?sm ?se ?_); (case sm => walk_at "get"); (case se => assumption))
  | ((with_reducible refine' s_g2Kz ?sm ?se ?_); (case sm => walk_at "get"); (case se => assumption))
  | ((with_reducible refine' s_g2TI ?sm ?sb ?_); (case sm => walk_at "get"); (case sb => walk_at "prm"))
  | ((with_reducible refine' s_ixL ?sm ?se ?_); (case sm => walk_at "get"); (case se => assumption))
  | (refine' s_ixT (j := 3) ?sm ?se ?_; (case sm => walk_at "sqt"); (case se => rfl))
  | ((with_reducible refine' s_putN hC ?sm ?sz ?su ?_); (case sm => walk_at "get"); (case sz => assumption); (case su => walk_at "up"); clear hC; intro H hC)
  | ((with_reducible refine' s_srtK hC ?sm ?sz ?_); (case sm => walk_at "get"); (case sz => first | omega | (walk_at "len")); clear hC; intro sq H hC)
  | ((with_reducible refine' s_srtL hC ?sm ?sz ?_); (case sm => walk_at "get"); (case sz => first | omega | (walk_at "len")); clear hC; intro sq H hC)
  | ((with_reducible refine' s_delK hC ?sm ?se ?su ?_); (case sm => walk_at "get"); (case se => assumption); (case su => walk_at "up"); clear hC; intro H hC)
  | ((with_reducible refine' s_ixPuti ?sm ?_); (case sm => walk_at "get"))
  | ((with_reducible refine' s_ixPut ?sm ?_); (case sm => walk_at "get"))
  | ((with_reducible refine' s_ixKvi ?sm ?se ?_); (case sm => walk_at "get"); (case se => assumption))
  | ((with_reducible refine' s_ixKv ?sm ?se ?_); (case sm => walk_at "get"); (case se => assumption))
  | ((with_reducible refine' s_ninKe ?sm ?se ?_); (case sm => walk_at "get"); (case se => assumption))
  | ((with_reducible refine' s_ninKz ?sm ?se ?_); (case sm => walk_at "get"); (case se => assumption))
  | ((with_reducible refine' s_g1Kv ?sm ?_); (case sm => walk_at "get"))
  | ((with_reducible refine' s_g1Kn ?sm ?_); (case sm => walk_at "get"))
  | ((with_reducible refine' s_g2Kv ?sm ?_); (case sm => walk_at "get"))
  | ((with_reducible refine' s_g2Kn ?sm ?_); (case sm => walk_at "get"))
  | ((with_reducible refine' s_g2Tv ?sm ?sb ?_); (case sm => walk_at "get"); (case sb => walk_at "prm"))
  | ((with_reducible refine' s_putKv (f := V.str) hC ?sm ?sz ?su ?_); (case sm => walk_at "get"); (case sz => omega); (case su => walk_at "up"); clear hC; intro H hC)
  | ((with_reducible refine' s_putKv (f := V.int) hC ?sm ?sz ?su ?_); (case sm => walk_at "get"); (case sz => omega); (case su => walk_at "up"); clear hC; intro H hC)
  | ((with_reducible refine' s_putKi hC ?sm ?sz ?su ?_); (case sm => walk_at "get"); (case sz => omega); (case su => walk_at "up"); clear hC; intro H hC)
  | ((with_reducible refine' s_putTv (f := V.int) hC ?sm ?sb ?sz ?su ?_); (case sm => walk_at "get"); (case sb => walk_at "prm"); (case sz => omega); (case su => walk_at "up"); clear hC; intro H hC)
  | ((with_reducible refine' s_inKe ?sm ?se ?_); (case sm => walk_at "get"); (case se => assumption))
  | ((with_reducible refine' s_inKz ?sm ?se ?_); (case sm => walk_at "get"); (case se => assumption))
  | ((with_reducible refine' s_inKv ?sm ?_); (case sm => walk_at "get"))
  | ((with_reducible refine' s_ninKv ?sm ?_); (case sm => walk_at "get"))
  | ((with_reducible refine' s_inKn ?sm ?_); (case sm => walk_at "get"))
  | ((with_reducible refine' s_ninKn ?sm ?_); (case sm => walk_at "get")))
set_option hygiene false in
local macro_rules | `(tactic| walk_at "jl") => `(tactic| first | omega | (simp only [PySem.Str.length_append, emp_len]; omega))
set_option hygiene false in
local macro_rules | `(tactic| walk_at "stc") => `(tactic| first
  | ((with_reducible refine' c_clinit hC ?_); clear hC; intro H hC)
  | ((with_reducible refine' c_opinit hC ?_); clear hC; intro cd wd H hC)
  | ((with_reducible refine' c_dice hC ?_); clear hC; intro dd di dj dl H hC)
  | ((with_reducible refine' c_roll hC ?sp ?s0 ?s1 ?_); (case sp => walk_at "pick"); (case s0 => omega); (case s1 => omega); clear hC; intro rr di dj dl H hr0 hr1 hC)
  | ((with_reducible refine' s_partG hC ?se ?sb ?sz ?_); (case se => assumption); (case sb => rfl); (case sz => omega); clear hC; intro tp H hC)
  | with_reducible refine s_stW ?_
  | with_reducible refine s_enW ?_
  | with_reducible refine s_joined ?_
  | ((with_reducible refine' s_js ?sz ?_); (case sz => walk_at "jl"))
  | ((with_reducible refine' s_jsE ?sz ?_); (case sz => walk_at "jl"))
  | with_reducible refine s_fmt ?_
  | ((with_reducible refine' s_fmtS ?sz ?_); (case sz => walk_at "jl"))
  | with_reducible refine s_inS1 ?_
  | with_reducible refine s_ninS1 ?_
  | with_reducible refine s_istr ?_
  | with_reducible refine s_istrV ?_
  | with_reducible refine s_ckw ?_
  | with_reducible refine s_ckA ?_
  | with_reducible refine s_litTE ?_
  | with_reducible refine s_dc ?_
  | ((with_reducible refine' s_g1P ?sm ?sb ?_); (case sm => walk_at "get"); (case sb => walk_at "prm"))
  | ((with_reducible refine' s_putP hC ?sm ?sb ?sz ?su ?_); (case sm => walk_at "get"); (case sb => walk_at "prm"); (case sz => omega); (case su => walk_at "up"); clear hC; intro H hC)
  | ((with_reducible refine' s_lenT ?sm ?_); (case sm => walk_at "sqt"))
  | (refine' s_ixT (j := 2) ?sm ?se ?_; (case sm => walk_at "sqt"); (case se => rfl))
  | (refine' s_ixT (j := 4) ?sm ?se ?_; (case sm => walk_at "sqt"); (case se => rfl))
  | walk_at "stg")
section
variable {K : PySem.W.Frag} {mg : Str → Option Value} {a : Adr} {vs : List V} {H : Hp} {Q : VK} {E : XK}
theorem pure_Claim__init (T : Txt K mg a) (h : sp_Claim__init K a vs H Q E) : t_Claim__init K a E { nx := fun _ H' => Q .non H', rt := Q } (L2.start N_Claim__init vs) H := by
  obtain ⟨_, x, dx, ap, sc, ho, pa, pr, F, rfl, y, k⟩ := h
  have hC := Ctx.start (K := K) y
  unfold t_Claim__init
  walk_at "start"
  walk_at "go"
  exact k _ hC.sb hC.lay
theorem pure_Openers__init (T : Txt K mg a) (h : sp_Openers__init K a vs H Q E) : t_Openers__init K a E { nx := fun _ H' => Q .non H', rt := Q } (L2.start N_Openers__init vs) H := by
  obtain ⟨_, x, dx, F, rfl, y, k⟩ := h
  have hC := Ctx.start (K := K) y
  unfold t_Openers__init
  walk_at "start"
  walk_at "go"
  rename_i d1 g1 g2
  refine k _ _ _ hC.sb (show Lay H ((x, .ins a.c_Openers dx [("claims", .ref lp), ("always", .ref dp)]) :: (lp, .lst []) :: (dp, .dT []) :: F) from by walk_at "lay3")
theorem aps_ok : ∀ k, k ∈ APS → 0 < k.length ∧ k.length ≤ 30 ∧ (k.cps.toList.any fun c => !decide (c ∈ ("abcdefghijklmnopqrstuvwxyz0123456789." : Str).cps.toList)) = false := by decide +kernel
theorem aps_dot : ∀ k, k ∈ APS → ∃ c0 c1, atI k.cps.toList 0 = some c0 ∧ atI k.cps.toList (-1) = some c1 ∧ (⟨#[c0]⟩ : Str) ≠ "." ∧ (⟨#[c1]⟩ : Str) ≠ "." := by
  intro k hk
  simp only [APS, List.mem_cons, List.not_mem_nil, or_false] at hk
  rcases hk with rfl | rfl | rfl | rfl
  all_goals exact ⟨_, _, rfl, rfl, by decide +kernel, by decide +kernel⟩
theorem pure_check_name {H0 : Hp} (T : Txt K mg a) (h : sp_check_name K a vs H0 Q E) : t_check_name K a E { nx := fun _ H' => Q .non H', rt := Q } (L2.start N_check_name vs) H0 := by
  obtain ⟨_, nm, q, F, rfl, y, ht, hk, k1, k2⟩ := h
  have hC := (Ctx.start (K := K) y).add (i := .tri q) ht
  unfold t_check_name
  walk_at "start"
  rcases hk with hk | rfl
  · have k1 := k1 hk
    clear k2
    obtain ⟨h1, h2, h3⟩ := aps_ok nm hk
    obtain ⟨c0, c1, e0, e1, n0, n1⟩ := aps_dot nm hk
    have g1 : (0 : Int) < (nm.length : Nat) := by omega
    have g2 : ((nm.length : Nat) : Int) ≤ 30 := by omega
    have hl : nm.length ≤ 100000 := by omega
    walk_at "all"
    · rename_i c; rw [h3] at c; cases c
    · refine s_ixSc hl e0 ?_
      walk_at "all"
      refine s_ixSc hl e1 ?_
      walk_at "all"
      exact k1 _ _ hC.sb hC.lay (hC.tri List.mem_cons_self)
  · have k2 := k2 rfl
    have hA : (("Bad Name" : Str).cps.toList.any fun c => !decide (c ∈ ("abcdefghijklmnopqrstuvwxyz0123456789." : Str).cps.toList)) = true := by decide +kernel
    walk_at "all"
    all_goals first
      | exact k2 _ _ hC.sb (by walk_at "lay3") (hC.tri List.mem_cons_self)
      | (rename_i c; exact absurd c (by decide +kernel))
      | (rename_i c1; rw [hA] at c1; cases c1)
      | trace_state
theorem pure_covers_host (T : Txt K mg a) (h : sp_covers_host K a vs H Q E) : t_covers_host K a E { nx := fun _ H' => Q .non H', rt := Q } (L2.start N_covers_host vs) H := by
  obtain ⟨_, c, h, L, rfl, hz, y, k⟩ := h
  have hC := Ctx.start (K := K) y
  have k := k _ hC.sb hC.lay
  unfold covV covI at k
  unfold t_covers_host
  walk_at "start"
  by_cases c1 : c = h
  · rw [if_pos c1] at k
    walk_at "all"
    exact k
  · rw [if_neg c1] at k
    by_cases c2 : c = "*"
    · rw [if_pos c2] at k
      walk_at "all"
      exact k
    · rw [if_neg c2] at k
      have hz2 : c.length ≤ 100000 := by omega
      walk_at "all"
      · rename_i e1; simp only [e1, c, Bool.and_true, Bool.and_false, if_true, Bool.false_eq_true, if_false] at k; exact k
      · rename_i e1; simp only [e1, c, Bool.and_true, Bool.and_false, if_true, Bool.false_eq_true, if_false] at k; exact k
      · simp only [c, Bool.false_and, Bool.false_eq_true, if_false] at k; exact k
end
section
variable {K : PySem.W.Frag} {mg : Str → Option Value} {a : Adr} {vs : List V} {H : Hp} {Q : VK} {E : XK}
theorem part_len3 {s b x m r : Str} (h : Txt.partition s b = (x, m, r)) : x.length + m.length + r.length = s.length := by
  have := part_len s b
  rw [h] at this
  exact this
theorem pts_len {s sc mk ho sl pa : Str} (h : Pts s sc mk ho sl pa) : sc.length + mk.length + ho.length + sl.length + pa.length = s.length := by
  obtain ⟨r, h1, h2⟩ := h
  have := part_len3 h1
  have := part_len3 h2
  omega
theorem pure_parts_of_address {H0 : Hp} (T : Txt K mg a) (h : sp_parts_of_address K a vs H0 Q E) : t_parts_of_address K a E { nx := fun _ H' => Q .non H', rt := Q } (L2.start N_parts_of_address vs) H0 := by
  obtain ⟨_, s, sc, mk, ho, sl, pa, q, F, rfl, hz, ⟨r, p1, p2⟩, y, ht, k1, k2⟩ := h
  have hC := (Ctx.start (K := K) y).add (i := .tri q) ht
  have l1 := part_len3 p1
  have l2 := part_len3 p2
  unfold t_parts_of_address
  walk_at "start"
  walk_at "go"
  by_cases e1 : mk = ""
  · have ok : okP s sc mk ho = false := by unfold okP; simp [e1]
    walk_at "all"
    exact k2 ok _ _ hC.sb hC.lay (hC.tri (by walk_at "mem"))
  · by_cases e2 : sc = ""
    · have ok : okP s sc mk ho = false := by unfold okP; simp [e2]
      walk_at "all"
      exact k2 ok _ _ hC.sb hC.lay (hC.tri (by walk_at "mem"))
    · walk_at "all"
      refine allS_t (fun c => decide (c ∈ plainS.cps.toList)) (by omega) (fun c Zy Zn hz => ?_) ?_
      · simp only [wipe, List.set_cons_zero, List.set_cons_succ]
        walk_at "go"
        refine ⟨rfl, ?_⟩
        walk_at "go"
        exact hz
      · by_cases e3 : (sc.cps.toList.all fun c => decide (c ∈ plainS.cps.toList)) = true
        · rw [e3]
          by_cases e4 : ho = ""
          · have ok : okP s sc mk ho = false := by unfold okP; simp [e4]
            walk_at "all"
            exact k2 ok _ _ hC.sb hC.lay (hC.tri (by walk_at "mem"))
          · have l5 : (plainS ++ ".-").length ≤ 1000 := by decide +kernel
            walk_at "all"
            refine anyS_t (fun c => !decide (c ∈ (plainS ++ ".-").cps.toList)) (by omega) (fun c Zy Zn hz => ?_) ?_
            · simp only [wipe, List.set_cons_zero, List.set_cons_succ]
              walk_at "go"
              refine ⟨rfl, ?_⟩
              walk_at "go"
              exact hz
            · by_cases e5 : (ho.cps.toList.any fun c => !decide (c ∈ (plainS ++ ".-").cps.toList)) = true
              · rw [e5]
                have ok : okP s sc mk ho = false := by unfold okP; rw [e5]; simp
                walk_at "all"
                exact k2 ok _ _ hC.sb hC.lay (hC.tri (by walk_at "mem"))
              · have e5 := eq_false_of_ne_true e5
                rw [e5]
                by_cases e6 : (s.length : Int) > 200
                · have ok : okP s sc mk ho = false := by unfold okP; simp [e6]
                  walk_at "all"
                  exact k2 ok _ _ hC.sb hC.lay (hC.tri (by walk_at "mem"))
                · have ok : okP s sc mk ho = true := by unfold okP; rw [e3, e5]; simp [e1, e2, e4, e6]
                  walk_at "all"
                  exact k1 ok _ _ _ hC.sb hC.lay (hC.tri (by walk_at "mem")) (hC.tup (by walk_at "mem"))
        · have e3 := eq_false_of_ne_true e3
          rw [e3]
          have ok : okP s sc mk ho = false := by unfold okP; rw [e3]; simp
          walk_at "all"
          exact k2 ok _ _ hC.sb hC.lay (hC.tri (by walk_at "mem"))
end
section
variable {K : PySem.W.Frag} {mg : Str → Option Value} {a : Adr} {vs : List V} {H : Hp} {Q : VK} {E : XK}
/-- what the law's own reckoning of a fit gives -/
def fitV (c h : Str) : V := if c = h then .int 2 else if c = "*" then .int 0 else
  if cutS c none (some 2) = "*." ∧ cutS h (some ((h.length : Int) - (c.length : Int) + 1)) none = cutS c (some 1) none ∧ (h.length : Int) ≥ (c.length : Int) - 1 then .int 1 else .non
theorem fitV_cov : ∀ c, c ∈ CH → ∀ h, h ∈ HOS → fitV c h = covV c h := by decide +kernel
theorem ho_len : ∀ c, c ∈ HOS → c.length ≤ 1000 := by decide +kernel
theorem pure_law_fit (T : Txt K mg a) (h : sp_law_fit K a vs H Q E) : t_law_fit K a E { nx := fun _ H' => Q .non H', rt := Q } (L2.start N_law_fit vs) H := by
  obtain ⟨_, c, h, L, rfl, h1, h2, y, k⟩ := h
  have hC := Ctx.start (K := K) y
  have k := k _ hC.sb hC.lay
  rw [← fitV_cov c h1 h h2] at k
  have z1 := ch_len c h1
  have z2 := ho_len h h2
  unfold fitV at k
  unfold t_law_fit
  walk_at "start"
  by_cases c1 : c = h
  · rw [if_pos c1] at k
    walk_at "all"
    exact k
  · rw [if_neg c1] at k
    by_cases c2 : c = "*"
    · rw [if_pos c2] at k
      walk_at "all"
      exact k
    · rw [if_neg c2] at k
      have hz2 : c.length ≤ 100000 := by omega
      have hz3 : h.length ≤ 100000 := by omega
      by_cases d1 : cutS c none (some 2) = "*."
      · by_cases d2 : cutS h (some ((h.length : Int) - (c.length : Int) + 1)) none = cutS c (some 1) none
        · by_cases d3 : (h.length : Int) ≥ (c.length : Int) - 1
          · rw [if_pos ⟨d1, d2, d3⟩] at k
            walk_at "all"
            exact k
          · rw [if_neg (fun z => d3 z.2.2)] at k
            walk_at "all"
            exact k
        · rw [if_neg (fun z => d2 z.2.1)] at k
          walk_at "all"
          exact k
      · rw [if_neg (fun z => d1 z.1)] at k
        walk_at "all"
        exact k
end
section
variable {K : PySem.W.Frag} {mg : Str → Option Value} {a : Adr} {vs : List V} {H : Hp} {Q : VK} {E : XK}
theorem pure_law_roll (T : Txt K mg a) (h : sp_law_roll K a vs H Q E) : t_law_roll K a E { nx := fun _ H' => Q .non H', rt := Q } (L2.start N_law_roll vs) H := by
  obtain ⟨_, d, m, i, j, l, F, rfl, h1, m0, m1, k⟩ := h
  have hC := Ctx.start (K := K) h1
  unfold t_law_roll
  walk_at "start"
  walk_at "all"
  all_goals first
    | exact k _ _ _ _ _ (Int.emod_nonneg _ (by omega)) (Int.emod_lt_of_pos _ m0) hC.sb hC.lay
theorem pure_law_dice (T : Txt K mg a) (h : sp_law_dice K a vs H Q E) : t_law_dice K a E { nx := fun _ H' => Q .non H', rt := Q } (L2.start N_law_dice vs) H := by
  obtain ⟨_, c0, L, rfl, h1, k⟩ := h
  have hC := Ctx.start (K := K) h1
  unfold t_law_dice
  walk_at "start"
  walk_at "all"
  all_goals first
    | exact k _ _ _ _ _ hC.sb hC.lay
    | trace_state
theorem DL.snoc {ds : List (Addr × Int × Int × Int)} {p : Addr} {i j l : Int} {x : Addr × HO} {L F : List (Addr × HO)} : ((p, HO.lst [.int i, .int j, .int l]) :: (x :: (F ++ (DL ds ++ L)))).Perm (x :: (F ++ (DL (ds ++ [(p, i, j, l)]) ++ L))) := by
  refine (List.Perm.swap _ _ _).trans (List.Perm.cons _ ?_)
  unfold DL
  rw [List.map_append, List.append_assoc]
  refine List.Perm.trans (List.perm_middle (l₁ := F)).symm ?_
  exact List.Perm.append_left F List.perm_middle.symm
theorem ints_cut {ns : List Int} {m : Int} (h0 : 0 ≤ m) (h1 : m ≤ 1000) : ∃ ms : List Int, cutV (ns.map V.int) none (some m) = ms.map V.int ∧ ms.length ≤ 1000 := by
  unfold cutV
  rw [← List.map_drop, ← List.map_take]
  refine ⟨_, rfl, ?_⟩
  rw [List.length_take]
  refine Nat.le_trans (Nat.min_le_left _ _) ?_
  obtain ⟨k, rfl⟩ := Int.eq_ofNat_of_zero_le h0
  show HT.sIx _ _ (some (k : Int)) - _ ≤ 1000
  rw [HT.sIx_nat]
  omega
theorem rounds_rest {B : Hp} {a : Adr} {v0 v1 : Option V} {q : Addr} {ms : List Int} {L F : List (Addr × HO)} (hC : Ctx K B H ((q, .lst (ms.map V.int)) :: (F ++ L)) []) (hm : ms.length ≤ 1000)
    (k : ∀ p (ds : List (Addr × Int × Int × Int)) H', Stb B H' → Lay H' ((p, .lst (ds.map fun d => V.ref d.1)) :: (DL ds ++ L)) → Q (.ref p) H') :
    kLc (gName 3) tYes (tCall (sp_law_dice K a) [] E0 (tCons (tVar 3) tNil)) [3] [v0, v1, some (.ref q), none] Q (Itl K q) H := by
  refine lc_lst (xs := ms.map V.int) hC (fun D i H1 => ∃ ds : List (Addr × Int × Int × Int), ds.length = i ∧ Ctx K B H1 ((D, .lst (ds.map fun d => V.ref d.1)) :: ((q, .lst (ms.map V.int)) :: (F ++ (DL ds ++ L)))) [])
    (fun D H1 hC => ⟨[], rfl, hC⟩) (fun i D H1 hi ⟨ds, e, hC⟩ => hC.get (by walk_at "mem")) ?_ ?_
  · rintro i x D H hx ⟨ds, e, hC⟩
    have hlt := (List.getElem?_eq_some_iff.mp hx).1
    rw [List.length_map] at hlt
    rw [List.getElem?_map] at hx
    obtain ⟨n, hn, rfl⟩ := Option.map_eq_some_iff.mp hx
    simp only [wipe, List.set_cons_zero, List.set_cons_succ]
    walk_at "go"
    refine ⟨rfl, ?_⟩
    walk_at "go"
    refine s_app hC (acc := ds.map fun d => V.ref d.1) (hC.get (by walk_at "mem")) (by rw [List.length_map]; omega) (.there .here) (fun H2 hC => ?_)
    refine ⟨ds ++ [(dd, di, dj, dl)], by rw [List.length_append, e]; rfl, ?_⟩
    rw [List.map_append]
    refine hC.perm ?_
    refine (List.Perm.swap _ _ _).trans (List.Perm.cons _ ?_)
    exact DL.snoc
  · rintro D H ⟨ds, e, hC⟩
    refine k D ds H hC.sb ?_
    have y := hC.lay.perm (List.Perm.swap _ _ _)
    have y := y.tail
    have z : ((D, HO.lst (ds.map fun d => V.ref d.1)) :: (F ++ (DL ds ++ L))).Perm (F ++ ((D, HO.lst (ds.map fun d => V.ref d.1)) :: (DL ds ++ L))) := List.perm_middle.symm
    have y := y.perm z
    exact ⟨(List.nodup_append.mp (by rw [← List.map_append]; exact y.nd)).2.1, fun p hp => y.at_ p (List.mem_append_right _ hp)⟩
theorem pure_law_rounds (T : Txt K mg a) (h : sp_law_rounds K a vs H Q E) : t_law_rounds K a E { nx := fun _ H' => Q .non H', rt := Q } (L2.start N_law_rounds vs) H := by
  obtain ⟨_, s, m, ns, L, rfl, hs, h1, m0, m1, k⟩ := h
  have hC := Ctx.start (K := K) h1
  unfold t_law_rounds
  walk_at "start"
  walk_at "go"
  obtain ⟨ms, e, hm⟩ := ints_cut (ns := ns) m0 m1
  rw [e] at hC
  refine s_eqD (Dp.lst (SqL.of (hC.get (by walk_at "mem"))) (ints_dats K _ ms).dp) (Dp.lst (SqL.of (hC.get (by walk_at "mem"))) .nil) ((ints_sh (n := 0) ms).list.shaped (by decide)) ((ShL.nil (n := 0)).list.shaped (by decide)) ?_
  walk_at "go"
  refine s_iteB (fun c => ?_) (fun c => ?_)
  · walk_at "go"
    exact rounds_rest (ms := [0]) (F := [_, _]) hC (by decide) k
  · walk_at "go"
    exact rounds_rest (ms := ms) (F := [_]) (hC.perm (List.Perm.swap _ _ _)) hm k
end
section
variable {K : PySem.W.Frag} {mg : Str → Option Value} {a : Adr} {vs : List V} {B H : Hp} {Q : VK} {E : XK} {L F : List (Addr × HO)} {I : List Im}
theorem aps_so : ∀ k, k ∈ APS → PyData.strOk k = true := by decide +kernel
theorem sc_so : ∀ k, k ∈ SC → PyData.strOk k = true := by decide +kernel
theorem ch_so : ∀ k, k ∈ CH → PyData.strOk k = true := by decide +kernel
theorem pa_so : ∀ k, k ∈ PA → PyData.strOk k = true := by decide +kernel
theorem plain_if {σ : L2.St} {ho : Str} (hv : σ[7]? = some (some (.str ho))) (hz : ho.length ≤ 1000) (h : Q (.str (plainH ho)) H) :
    if Txt.startswith ho "*." = true then tSl (rSlU K) (tVar 7) (tPart (tC (.int 2))) tNoPart σ H Q else tIf (tTest (tOp (rEqU K) (tVar 7) (tC (.str "*")))) (tC (.str "x")) (tVar 7) σ H Q := by
  unfold plainH at h
  by_cases e : Txt.startswith ho "*." = true
  · rw [if_pos e] at h ⊢
    have hz2 : ho.length ≤ 100000 := by omega
    walk_at "go"
    exact h
  · rw [if_neg e] at h ⊢
    by_cases e2 : ho = "*"
    · rw [if_pos e2] at h
      walk_at "all"
      exact h
    · rw [if_neg e2] at h
      walk_at "all"
      exact h
theorem eqv4 {x y z w x' y' z' w' : Str} : PyData.eqv (.tuple [.str x, .str y, .str z, .str w]) (.tuple [.str x', .str y', .str z', .str w']) = decide (x = x' ∧ y = y' ∧ z = z' ∧ w = w') := by
  show PyData.eqvAll (([x, y, z, w] : List Str).map PyData.str) (([x', y', z', w'] : List Str).map PyData.str) = _
  rw [eqv_strs]
  simp
theorem ccells_one {e : CL} : ccells a [e] = [ccell a e] := rfl
theorem emp_len : Str.empty.length = 0 := rfl
theorem plain_len {ho : Str} : (plainH ho).length ≤ ho.length + 1 := by
  unfold plainH
  split
  · exact Nat.le_trans (cutS_length _ _ _) (by omega)
  · split
    · exact Nat.le_add_left _ _
    · omega
theorem pure_Openers_claim {H0 : Hp} (T : Txt K mg a) (h : sp_Openers_claim K a vs H0 Q E) : t_Openers_claim K a E { nx := fun _ H' => Q .non H', rt := Q } (L2.start N_Openers_claim vs) H0 := by
  obtain ⟨_, so, dx, cd, wd, ap, s, sc, mk, ho, sl, pa, sc2, mk2, ho2, sl2, pa2, pr, cs, w, qc, qo, qn, qp, F, rfl, hz, hap, ⟨r, p1, p2⟩, hj, hl, hmem, y, tk, k1, k2⟩ := h
  have hC := (Ctx.start (K := K) y).add (i := .tri qc) tk.c
  clear y
  have l1 := part_len3 p1
  have l2 := part_len3 p2
  have l3 := plain_len (ho := ho)
  have hn := hl.len
  simp only [KT, OL] at hC
  unfold t_Openers_claim
  walk_at "start"
  walk_at "go"
  rcases hap with hap | rfl
  · refine c_cname hC (by walk_at "perm3") tk.n hap ?_
    clear hC
    intro qn' H tn hC
    walk_at "go"
    refine plain_if rfl (by omega) ?_
    walk_at "go"
    unfold t_Openers_claim_tail1
    walk_at "go"
    have hjl : (joinA sc mk ho sl pa).length ≤ 1000 := by
      unfold joinA
      simp only [PySem.Str.length_append, emp_len]
      omega
    cases ok : okP (joinA sc mk ho sl pa) sc2 mk2 ho2 with
    | false =>
      refine c_partsF (s := joinA sc mk ho sl pa) hC (by walk_at "perm3") tk.p hjl hj ok ?_
      clear hC
      intro qp' H tp hC
      exact k2 (fun z => by rw [ok] at z; cases z.2.1) _ qc qo qn' qp' hC.sb (by walk_at "lay3") ⟨tk.c, tk.o, tn, tp⟩
    | true =>
      refine c_partsT (s := joinA sc mk ho sl pa) hC (by walk_at "perm3") tk.p hjl hj ok ?_
      clear hC
      intro t qp' H tpp hC
      obtain ⟨m1, m2, m3⟩ := hmem hap ok
      walk_at "go"
      unfold t_Openers_claim_tail0
      walk_at "go"
      refine any_read (es := cs) (kf := fun e => V.ref e.ad) (walk_lstE (es := cs) (kf := fun e => V.ref e.ad) rfl) (fun e => decide (e.ap = ap ∧ e.sc = sc ∧ e.ho = ho ∧ e.pa = sl ++ pa)) (by omega) (fun H1 hC => SqL.of (hC.get (by walk_at "mem"))) hC (fun i e H1 Z Zn he hC hy => ?_) (fun H' hC => ?_)
      · have okE := hl.all e (List.mem_of_getElem? he)
        have hC0 := hC
        rw [ccells_mid he] at hC
        simp only [ccell] at hC
        simp only [wipe, List.set_cons_zero, List.set_cons_succ]
        walk_at "go"
        refine ⟨rfl, ?_⟩
        walk_at "go"
        refine s_eqD (d := .tuple [.str e.ap, .str e.sc, .str e.ho, .str e.pa]) (e := .tuple [.str ap, .str sc, .str ho, .str (sl ++ pa)]) (TD.dp (TD.tup (hC.tup (by walk_at "mem")) ?_)) (TD.dp (TD.tup (hC.tup (by walk_at "mem")) ?_)) ?_ ?_ ?_
        · exact .cons (.str _) (.cons (.str _) (.cons (.str _) (.cons (.str _) .nil)))
        · exact .cons (.str _) (.cons (.str _) (.cons (.str _) (.cons (.str _) .nil)))
        · exact (ShL.tuple (n := 0) (ShL.cons (Sh.str (aps_so _ okE.ap)) (ShL.cons (Sh.str (sc_so _ okE.sc)) (ShL.cons (Sh.str (ch_so _ okE.ho)) (ShL.cons (Sh.str (pa_so _ okE.pa)) ShL.nil))))).shaped (by decide)
        · exact (ShL.tuple (n := 0) (ShL.cons (Sh.str (aps_so _ hap)) (ShL.cons (Sh.str (sc_so _ m1)) (ShL.cons (Sh.str (ch_so _ m2)) (ShL.cons (Sh.str (pa_so _ m3)) ShL.nil))))).shaped (by decide)
        · rw [eqv4]
          exact hy _ ⟨by rw [ccells_mid he]; simp only [ccell]; walk_at "lay3", fun j hj => hC.im j (by repeat (first | exact hj | apply List.mem_cons_of_mem)), hC.sb⟩
      · rw [if_pos rfl, show (cs.any fun e => decide (e.ap = ap ∧ e.sc = sc ∧ e.ho = ho ∧ e.pa = sl ++ pa)) = keyB cs ap sc ho (sl ++ pa) from rfl]
        have tt := hC.tri (ps := tb) (by walk_at "mem")
        cases hk : keyB cs ap sc ho (sl ++ pa)
        · have hcl : (cs.map fun e => V.ref e.ad).length ≤ 100 := by rw [List.length_map]; omega
          walk_at "go"
          refine k1 hap ok hk _ mx mdx tb qo qn' qp' hC.sb ?_ ⟨tt, tk.o, tn, tpp⟩
          simp only [KT, OL, ccells_app, ccells_one, List.map_append, List.map_cons, List.map_nil, List.append_assoc, List.cons_append, List.nil_append]
          walk_at "lay3"
        · walk_at "go"
          exact k2 (fun z => by rw [hk] at z; cases z.2.2) _ tb qo qn' qp' hC.sb (by simp only [KT, OL]; walk_at "lay3") ⟨tt, tk.o, tn, tpp⟩
  · refine c_cnameF hC (by walk_at "perm3") tk.n ?_
    clear hC
    intro qn' H tn hC
    exact k2 (fun z => absurd z.1 (by decide +kernel)) _ qc qo qn' qp hC.sb (by walk_at "lay3") ⟨tk.c, tk.o, tn, tk.p⟩
end
section
variable {K : PySem.W.Frag} {mg : Str → Option Value} {a : Adr} {vs : List V} {B H : Hp} {Q : VK} {E : XK} {L F : List (Addr × HO)} {I : List Im}
theorem pure_Openers_forget {H0 : Hp} (T : Txt K mg a) (h : sp_Openers_forget K a vs H0 Q E) : t_Openers_forget K a E { nx := fun _ H' => Q .non H', rt := Q } (L2.start N_Openers_forget vs) H0 := by
  obtain ⟨_, so, dx, cd, wd, ap, cs, w, F, rfl, ok, aok, y, k⟩ := h
  have hC := Ctx.start (K := K) y
  clear y
  have hn := ok.len
  have hw := aok.len
  simp only [OL] at hC
  unfold t_Openers_forget
  walk_at "start"
  walk_at "go"
  refine lc_pick (es := cs) (kf := fun e => V.ref e.ad) (walk_lstE (es := cs) (kf := fun e => V.ref e.ad) rfl) (fun e => decide (e.ap ≠ ap)) (fun e => V.ref e.ad) (by omega) (fun H1 x hC => SqL.of (hC.get (by walk_at "mem"))) hC (fun i e H1 D vr Zy Zn he hC hy hn => ?_) (fun H1 D hC => ?_)
  · have hC0 := hC
    rw [ccells_mid he] at hC
    simp only [ccell] at hC
    simp only [wipe, List.set_cons_zero, List.set_cons_succ]
    walk_at "go"
    refine ⟨rfl, ?_⟩
    walk_at "all"
    · rename_i c
      exact hy _ _ (by simpa using c) hC0 (fun j hj => hj)
    · rename_i c
      exact hn _ _ (by simpa using c) hC0 (fun j hj => hj)
  · walk_at "go"
    refine dcT_itemsF (fun q => decide (q.2 ≠ .str ap)) hC (by walk_at "pick") (by omega) aok.nd (fun od H1 Q hC h => by (walk_at "go"); exact h) (fun x v b T H1 R hm ht hR => ?_) (fun H' D2 hC => ?_)
    · obtain ⟨z, hz, rfl⟩ := aok.all _ hm
      simp only [wipe, List.set_cons_zero, List.set_cons_succ]
      refine s_gtup ht rfl ?_
      walk_at "go"
      refine hR _ rfl (fun Qb h => ?_) (fun Qk h => ?_) (fun Qv h => ?_)
      · walk_at "go"
        by_cases c : z = ap
        · simpa [c] using h
        · have c2 : ¬ (V.str z = V.str ap) := fun q => c (by injection q)
          simpa [c] using h
      · walk_at "go"
        exact h
      · walk_at "go"
        exact h
    · walk_at "go"
      have y : Lay H ((so, .ins a.c_Openers dx [("claims", .ref D), ("always", .ref D2)]) :: (D, .lst ((cs.filter fun e => decide (e.ap ≠ ap)).map fun e => V.ref e.ad)) :: (D2, .dT (mP id (w.filter fun p => decide (p.2 ≠ .str ap)))) :: (ccells a cs ++ F)) := by walk_at "lay3"
      exact k _ D D2 hC.sb (y.subl (.cons₂ _ (.cons₂ _ (.cons₂ _ ((List.filter_sublist.map _).append_right F)))))
end
section
variable {K : PySem.W.Frag} {mg : Str → Option Value} {a : Adr} {vs : List V} {B H : Hp} {Q : VK} {E : XK} {L F : List (Addr × HO)} {I : List Im}
abbrev RW := Addr × Addr × List Sc × Str
def RwOk (K : PySem.W.Frag) (H : Hp) (rs : List RW) : Prop := ∀ r, r ∈ rs → SqT K H r.1 [.ref r.2.1, .str r.2.2.2] ∧ SqT K H r.2.1 (r.2.2.1.map Sc.v)
theorem rwok_mono {H H' : Hp} {rs : List RW} (s : Stb H H') (h : RwOk K H rs) : RwOk K H' rs := fun r hr => ⟨s.sqt (h r hr).1, s.sqt (h r hr).2⟩
abbrev imR (K : PySem.W.Frag) (rs : List RW) : Im := .pr (fun H => RwOk K H rs) (fun _ _ s h => rwok_mono s h)
def rdat (rs : List RW) : List (List Sc × Str) := rs.map fun r => r.2.2
def KShape (k : List Sc) : Prop := ∃ p n m, k = [.b p, .i n, .i m]
theorem shape_like {x y : List Sc} (hx : KShape x) (hy : KShape y) : likeL x y = true := by
  obtain ⟨p, n, m, rfl⟩ := hx
  obtain ⟨p', n', m', rfl⟩ := hy
  rfl
theorem shape_nos {x : List Sc} (hx : KShape x) : ∀ c, c ∈ x → c.nos = true := by
  obtain ⟨p, n, m, rfl⟩ := hx
  intro c hc
  simp only [List.mem_cons, List.not_mem_nil, or_false] at hc
  rcases hc with rfl | rfl | rfl <;> rfl
theorem all_shape {ks : List (List Sc)} (h : ∀ k, k ∈ ks → KShape k) : allLikeN ks := fun a ha => ⟨shape_nos (h a ha), fun b hb => shape_like (h a ha) (h b hb)⟩
theorem rw_tups : ∀ {rs : List RW}, RwOk K H rs → TupS K H (rs.map fun r => V.ref r.2.1) (rs.map fun r => r.2.2.1)
  | [], _ => .nil
  | r :: rs, h => .cons (h r List.mem_cons_self).2 (rw_tups fun x hx => h x (List.mem_cons_of_mem _ hx))
theorem fitK_shape {e : CL} {sc ho pa : Str} {k : List Sc} (h : fitK e sc ho pa = some k) : KShape k := by
  unfold fitK at h
  split at h
  · cases hc : covI e.ho ho with
    | none => rw [hc] at h; cases h
    | some n => rw [hc] at h; cases h; exact ⟨_, _, _, rfl⟩
  · cases h
theorem rowsK_shape {cs : List CL} {sc ho pa : Str} : ∀ r, r ∈ rowsK cs sc ho pa → KShape r.1 := by
  intro r hr
  obtain ⟨e, _, he⟩ := List.mem_filterMap.mp hr
  cases hk : fitK e sc ho pa with
  | none => rw [hk] at he; cases he
  | some k => rw [hk] at he; cases he; exact fitK_shape hk
theorem maxIx_lt {ks : List (List Sc)} (h : 0 < ks.length) : maxIx ks < ks.length := by
  have := argBest_le (bt := fun i j => lexS (ks.getD j []) (ks.getD i [])) (ks.length - 1)
  unfold maxIx
  omega
theorem eqv3 {p p' : Bool} {n n' m m' : Int} : PyData.eqv (.tuple [.bool p, .int n, .int m]) (.tuple [.bool p', .int n', .int m']) = decide (([.b p, .i n, .i m] : List Sc) = [.b p', .i n', .i m']) := by
  cases p <;> cases p' <;> by_cases h1 : n = n' <;> by_cases h2 : m = m' <;> simp [PyData.eqv, PyData.eqvAll, h1, h2]
theorem key_eq {kt t : Addr} {x y : List Sc} (hx : SqT K H kt (x.map Sc.v)) (hy : SqT K H t (y.map Sc.v)) (sx : KShape x) (sy : KShape y) (q : Q (.bl (decide (x = y))) H) : rEqU K (.ref kt) (.ref t) H Q := by
  obtain ⟨p, n, m, rfl⟩ := sx
  obtain ⟨p', n', m', rfl⟩ := sy
  refine s_eqD (d := .tuple [.bool p, .int n, .int m]) (e := .tuple [.bool p', .int n', .int m']) (TD.dp (TD.tup hx (.cons (.bl _) (.cons (.int _) (.cons (.int _) .nil))))) (TD.dp (TD.tup hy (.cons (.bl _) (.cons (.int _) (.cons (.int _) .nil))))) ?_ ?_ ?_
  · exact (ShL.tuple (n := 0) (ShL.cons (Sh.bl _) (ShL.cons (Sh.int _) (ShL.cons (Sh.int _) ShL.nil)))).shaped (by decide)
  · exact (ShL.tuple (n := 0) (ShL.cons (Sh.bl _) (ShL.cons (Sh.int _) (ShL.cons (Sh.int _) ShL.nil)))).shaped (by decide)
  · rw [eqv3]
    exact q
/-- the best key, as the code has it -/
def BV (K : PySem.W.Frag) (H : Hp) (rs : List RW) (bv : V) : Prop := ∀ r, r ∈ rs → ∃ t y, bv = .ref t ∧ KShape y ∧ bestK (rdat rs) = some y ∧ SqT K H t (y.map Sc.v)
theorem bv_mono {H H' : Hp} {rs : List RW} {bv : V} (s : Stb H H') (h : BV K H rs bv) : BV K H' rs bv := fun r hr => by
  obtain ⟨t, y, e, sy, hb, ht⟩ := h r hr
  exact ⟨t, y, e, sy, hb, s.sqt ht⟩
abbrev imB (K : PySem.W.Frag) (rs : List RW) (bv : V) : Im := .pr (fun H => BV K H rs bv) (fun _ _ s h => bv_mono s h)
theorem bv_of {rs : List RW} (h : RwOk K H rs) (sh : ∀ r, r ∈ rdat rs → KShape r.1) {v : V} (hl : 0 < rs.length) (hv : (rs.map fun r => V.ref r.2.1)[maxIx (rs.map fun r => r.2.2.1)]? = some v) : BV K H rs v := by
  intro r hr
  have e0 : (rdat rs).map (·.1) = rs.map fun r => r.2.2.1 := by unfold rdat; rw [List.map_map]; rfl
  rw [List.getElem?_map] at hv
  cases hx : rs[maxIx (rs.map fun r => r.2.2.1)]? with
  | none => rw [hx] at hv; cases hv
  | some x =>
    rw [hx] at hv
    cases hv
    have hm := List.mem_of_getElem? hx
    refine ⟨x.2.1, x.2.2.1, rfl, sh x.2.2 (List.mem_map.mpr ⟨x, hm, rfl⟩), ?_, (h x hm).2⟩
    unfold bestK
    rw [e0, List.getElem?_map, hx]
    rfl
theorem dedS_eq {v : V} : ∀ (l : List Str) (acc acc2 : List (Str × V)), acc.map (·.1) = acc2.map (·.1) → (l.foldl (fun acc x => putR acc x v) acc).map (·.1) = (l.foldl (fun acc x => putR acc x (.bl true)) acc2).map (·.1)
  | [], _, _, h => h
  | x :: l, acc, acc2, h => dedS_eq l _ _ (put_keys h)
theorem puts_names {v : V} {l : List RW} : (putsR (l.map fun r => (r.2.2.2, v))).map (·.1) = (dedS (l.map fun r => r.2.2.2)).map (·.1) := by
  unfold putsR dedS
  rw [List.foldl_map, List.foldl_map]
  have := dedS_eq (v := v) (l.map fun r => r.2.2.2) [] [] rfl
  rw [List.foldl_map, List.foldl_map] at this
  exact this
theorem names_of {rs : List RW} {cs : List CL} {sc ho pa : Str} {v : V} (h : rdat rs = rowsK cs sc ho pa) : srtT ((putsR ((rs.filter fun r => decide (some r.2.2.1 = bestK (rdat rs))).map fun r => (r.2.2.2, v))).map (·.1)) = namesL cs sc ho pa := by
  rw [puts_names]
  unfold namesL
  rw [← h]
  unfold rdat
  rw [List.filter_map, List.map_map]
  rfl
theorem fit_tail1 (T : Txt K mg a) {rs : List RW} {cs : List CL} {rp : Addr} {bv v0 v1 v2 v3 v4 : V} {v6 v7 v8 v10 v11 : Option V} {N Bk Ct : L2.St → Hp → Prop} {sc ho pa : Str} (hrs : rdat rs = rowsK cs sc ho pa) (hn : rs.length ≤ 30) (hC : Ctx K B H ((rp, .lst (rs.map fun r => V.ref r.1)) :: L) (imB K rs bv :: imR K rs :: I))
    (k : ∀ t H1, Ctx K B H1 L (.tup t ((namesL cs sc ho pa).map V.str) :: I) → Q (.ref t) H1) :
    t_Openers_fitting_tail1 K a E ⟨N, Q, Bk, Ct⟩ [some v0, some v1, some v2, some v3, some v4, some (.ref rp), v6, v7, v8, some bv, v10, v11] H := by
  have sh : ∀ r, r ∈ rdat rs → KShape r.1 := by rw [hrs]; exact rowsK_shape
  unfold t_Openers_fitting_tail1
  walk_at "go"
  refine dc_pick (es := rs) (kf := fun r => V.ref r.1) (walk_lstE (es := rs) (kf := fun r => V.ref r.1) rfl) (fun r => decide (some r.2.2.1 = bestK (rdat rs))) (fun r => r.2.2.2) (fun _ => .bl true) (by omega) (fun H1 x hC => SqL.of (hC.get (by walk_at "mem"))) hC (fun i r H1 D vr Zy Zn hr hC hy hn => ?_) (fun H1 D hC => ?_)
  · have hm := List.mem_of_getElem? hr
    have f := hC.pr (P := fun H => RwOk K H rs) (by walk_at "mem") r hm
    obtain ⟨t, y, rfl, sy, hb, ht⟩ := hC.pr (P := fun H => BV K H rs bv) (by walk_at "mem") r hm
    have hC0 := hC
    replace hC := hC.add (i := .tup r.1 _) f.1
    simp only [wipe, List.set_cons_zero, List.set_cons_succ]
    walk_at "go"
    refine ⟨rfl, ?_⟩
    walk_at "go"
    refine key_eq f.2 ht (sh _ (List.mem_map.mpr ⟨r, hm, rfl⟩)) sy ?_
    walk_at "all"
    · rename_i c
      exact hy _ _ (by rw [hb, c]; simp) hC0 (fun j hj => hj)
    · rename_i c
      exact hn _ _ (by rw [hb]; simpa using c) hC0 (fun j hj => hj)
  · walk_at "go"
    refine s_srtK hC (hC.get (by walk_at "mem")) (Nat.lt_of_le_of_lt putsR_len (by rw [List.length_map]; exact Nat.lt_of_le_of_lt (List.length_filter_le _ _) (by omega))) (fun p H2 hC => ?_)
    rw [names_of hrs] at hC
    walk_at "go"
    rename_i tq gg
    exact k _ _ ⟨by walk_at "lay3", fun j hj => hC.im j (by
      rcases List.mem_cons.mp hj with rfl | hj
      · walk_at "mem"
      · exact List.mem_cons_of_mem _ (List.mem_cons_of_mem _ (List.mem_cons_of_mem _ hj))), hC.sb⟩
theorem fit_tail2 (T : Txt K mg a) {rs : List RW} {cs : List CL} {rp : Addr} {v0 v1 v2 v3 v4 : V} {v6 v7 v8 v9 v10 v11 : Option V} {N Bk Ct : L2.St → Hp → Prop} {sc ho pa : Str} (hrs : rdat rs = rowsK cs sc ho pa) (hn : rs.length ≤ 30) (hC : Ctx K B H ((rp, .lst (rs.map fun r => V.ref r.1)) :: L) (imR K rs :: I))
    (k : ∀ t H1, Ctx K B H1 L (.tup t ((namesL cs sc ho pa).map V.str) :: I) → Q (.ref t) H1) :
    t_Openers_fitting_tail2 K a E ⟨N, Q, Bk, Ct⟩ [some v0, some v1, some v2, some v3, some v4, some (.ref rp), v6, v7, v8, v9, v10, v11] H := by
  have sh : ∀ r, r ∈ rdat rs → KShape r.1 := by rw [hrs]; exact rowsK_shape
  unfold t_Openers_fitting_tail2
  walk_at "go"
  refine lc_pick (es := rs) (kf := fun r => V.ref r.1) (walk_lstE (es := rs) (kf := fun r => V.ref r.1) rfl) (fun _ => true) (fun r => V.ref r.2.1) (by omega) (fun H1 x hC => SqL.of (hC.get (by walk_at "mem"))) hC (fun i r H1 D vr Zy Zn hr hC hy hn => ?_) (fun H1 D hC => ?_)
  · have hm := List.mem_of_getElem? hr
    have f := hC.pr (P := fun H => RwOk K H rs) (by walk_at "mem") r hm
    replace hC := hC.add (i := .tup r.1 _) f.1
    simp only [wipe, List.set_cons_zero, List.set_cons_succ]
    walk_at "go"
    refine ⟨rfl, ?_⟩
    walk_at "go"
    exact hy _ _ rfl hC (fun j hj => List.mem_cons_of_mem _ hj)
  · rw [show rs.filter (fun _ => true) = rs from by simp] at hC
    walk_at "go"
    have hr := hC.pr (P := fun H => RwOk K H rs) (by walk_at "mem")
    refine s_maxDT (hC.get (by walk_at "mem")) (rw_tups hr) (all_shape (fun x hx => ?_)) (fun e => ?_) (fun v hl hv => ?_)
    · obtain ⟨r, hr, rfl⟩ := List.mem_map.mp hx
      exact sh _ (List.mem_map.mpr ⟨r, hr, rfl⟩)
    · have e0 : rs = [] := List.map_eq_nil_iff.mp e
      replace hC := hC.add (i := imB K rs .non) (fun r hr => by rw [e0] at hr; cases hr)
      walk_at "go"
      exact fit_tail1 (L := L) (I := I) T hrs hn ⟨by walk_at "lay3", hC.im, hC.sb⟩ k
    · replace hC := hC.add (i := imB K rs v) (bv_of hr sh (by simpa using hl) hv)
      walk_at "go"
      exact fit_tail1 (L := L) (I := I) T hrs hn ⟨by walk_at "lay3", hC.im, hC.sb⟩ k
end
section
variable {K : PySem.W.Frag} {mg : Str → Option Value} {a : Adr} {vs : List V} {B H : Hp} {Q : VK} {E : XK} {L F : List (Addr × HO)} {I : List Im} {N Bk Ct : L2.St → Hp → Prop}
variable {cs : List CL} {w : Alw} {so dx cd wd rp : Addr} {sc ho pa ap : Str} {rs : List RW}
theorem pa_len : ∀ k, k ∈ PA → k.length ≤ 1000 := by decide +kernel
theorem s_notCov {c h : Str} (q : Q (.bl (covI c h).isSome) H) : rNotN (covV c h) .non H Q := by
  unfold covV
  cases e : covI c h with
  | none => rw [e] at q; exact s_notN_non q
  | some n => rw [e] at q; exact s_notN_int q
theorem rowsK_take {i : Nat} {e : CL} (he : cs[i]? = some e) : rowsK (cs.take (i + 1)) sc ho pa = rowsK (cs.take i) sc ho pa ++ ((fitK e sc ho pa).map fun k => (k, e.ap)).toList := by
  unfold rowsK
  rw [take_snoc he, List.filterMap_append]
  cases h : fitK e sc ho pa <;> simp [h]
theorem rwok_snoc {t kt : Addr} {k : List Sc} {x : Str} (h : RwOk K H rs) (h1 : SqT K H t [.ref kt, .str x]) (h2 : SqT K H kt (k.map Sc.v)) : RwOk K H (rs ++ [(t, kt, k, x)]) := by
  intro r hr
  rcases List.mem_append.mp hr with hr | hr
  · exact h r hr
  · rcases List.mem_cons.mp hr with rfl | hr
    · exact ⟨h1, h2⟩
    · cases hr
theorem fit_for0 (T : Txt K mg a) {i : Nat} {e : CL} {v1 : V} {v7 v8 v9 v10 v11 : Option V} (he : cs[i]? = some e) (ok : ClsOk cs) (hrs : rdat rs = rowsK (cs.take i) sc ho pa) (hl : rs.length ≤ 100)
    (hC : Ctx K B H ((rp, .lst (rs.map fun r => V.ref r.1)) :: OL a so dx cd wd cs w F) (imR K rs :: []))
    (k : ∀ rs' H' v7', rdat rs' = rowsK (cs.take (i + 1)) sc ho pa → Ctx K B H' ((rp, .lst (rs'.map fun r => V.ref r.1)) :: OL a so dx cd wd cs w F) (imR K rs' :: []) → N [some (.ref so), some v1, some (.str sc), some (.str ho), some (.str pa), some (.ref rp), some (.ref e.ad), some v7', v8, v9, v10, v11] H') :
    t_Openers_fitting_for0 K a E ⟨N, Q, Bk, Ct⟩ [some (.ref so), some v1, some (.str sc), some (.str ho), some (.str pa), some (.ref rp), some (.ref e.ad), v7, v8, v9, v10, v11] H := by
  have okE := ok.all e (List.mem_of_getElem? he)
  have hz := ch_len e.ho okE.ho
  have hzp := pa_len e.pa okE.pa
  have hrl : (rs.map fun r => V.ref r.1).length ≤ 100 := by rw [List.length_map]; exact hl
  have back : ∀ {H : Hp} {J : List Im} {x : Addr × HO}, Ctx K B H (x :: (so, .ins a.c_Openers dx [("claims", .ref cd), ("always", .ref wd)]) :: (cd, .lst (cs.map fun e => V.ref e.ad)) :: (wd, .dT (mP id w)) :: (ccells a (cs.take i) ++ (e.ad, .ins a.c_Claim e.dx [("app", .str e.ap), ("scheme", .str e.sc), ("host", .str e.ho), ("path", .str e.pa), ("proved", .bl e.pr)]) :: (ccells a (cs.drop (i + 1)) ++ F))) J → Ctx K B H (x :: OL a so dx cd wd cs w F) J := by
    intro H J x hC
    simp only [OL]
    rw [ccells_mid he]
    exact hC
  simp only [OL] at hC
  rw [ccells_mid he] at hC
  simp only [ccell] at hC
  unfold t_Openers_fitting_for0
  cases hcov : covI e.ho ho with
  | none =>
    have hf : fitK e sc ho pa = none := by unfold fitK; rw [hcov]; split <;> rfl
    have hv : covV e.ho ho = .non := by unfold covV; rw [hcov]
    walk_at "go"
    refine c_cov hC hz (fun H hC => ?_)
    rw [hv]
    walk_at "all"
    all_goals exact k rs _ _ (by rw [rowsK_take he, hf, hrs]; simp) (back hC)
  | some n =>
    have hv : covV e.ho ho = .int n := by unfold covV; rw [hcov]
    walk_at "go"
    refine c_cov hC hz (fun H hC => ?_)
    rw [hv]
    by_cases c1 : e.sc = sc
    · cases c2 : Txt.startswith pa e.pa
      · have hf : fitK e sc ho pa = none := by unfold fitK; rw [if_neg (fun z => by rw [c2] at z; cases z.2)]
        walk_at "go"
        refine s_iteDT c1 ?_
        walk_at "go"
        rw [c2]
        walk_at "go"
        exact k rs _ _ (by rw [rowsK_take he, hf, hrs]; simp) (back hC)
      · have hf : fitK e sc ho pa = some [.b e.pr, .i n, .i e.pa.length] := by unfold fitK; rw [if_pos ⟨c1, c2⟩, hcov]; rfl
        walk_at "go"
        refine s_iteDT c1 ?_
        walk_at "go"
        rw [c2]
        walk_at "go"
        rename_i t1 _ _
        have hr := hC.pr (P := fun H => RwOk K H rs) (by walk_at "mem")
        refine k (rs ++ [(tp, t1, [.b e.pr, .i n, .i e.pa.length], e.ap)]) _ _ (by rw [rowsK_take he, hf, ← hrs]; simp [rdat]) (back ?_)
        rw [List.map_append]
        refine ⟨hC.lay, fun j hj => ?_, hC.sb⟩
        rcases List.mem_cons.mp hj with rfl | hj
        · exact rwok_snoc hr (hC.tup (by walk_at "mem")) (show SqT K _ _ [.bl e.pr, .int n, .int e.pa.length] from hC.tup (by walk_at "mem"))
        · cases hj
    · have hf : fitK e sc ho pa = none := by unfold fitK; rw [if_neg (fun z => c1 z.1)]
      walk_at "all"
      exact k rs _ _ (by rw [rowsK_take he, hf, hrs]; simp) (back hC)
theorem rows_len (hrs : rdat rs = rowsK cs sc ho pa) : rs.length ≤ cs.length := by
  have h := congrArg List.length hrs
  unfold rdat rowsK at h
  rw [List.length_map] at h
  rw [h]
  exact List.length_filterMap_le _ _
theorem pure_Openers_fitting {H0 : Hp} (T : Txt K mg a) (h : sp_Openers_fitting K a vs H0 Q E) : t_Openers_fitting K a E { nx := fun _ H' => Q .non H', rt := Q } (L2.start N_Openers_fitting vs) H0 := by
  obtain ⟨_, so, dx, cd, wd, sc, ho, pa, cs, w, qc, qo, qn, qp, F, rfl, h1, h2, h3, ok, y, tk, k⟩ := h
  have hC := Ctx.start (K := K) y
  clear y
  have hcl := ok.len
  simp only [KT, OL] at hC
  unfold t_Openers_fitting
  walk_at "start"
  walk_at "go"
  refine c_adr hC (by walk_at "perm3") tk.p h1 h2 h3 (fun t qp' H tp hC => ?_)
  walk_at "go"
  unfold t_Openers_fitting_tail3
  walk_at "go"
  refine for_lst (xs := cs.map fun e => V.ref e.ad) (fun i σ H1 => ∃ v6 v7 rs, σ = [some (.ref so), some (.str (adr sc ho pa)), some (.str sc), some (.str ho), some (.str pa), some (.ref lp), v6, v7, none, none, none, none] ∧ rdat rs = rowsK (cs.take i) sc ho pa ∧
    Ctx K H0 H1 ((lp, .lst (rs.map fun r => V.ref r.1)) :: OL a so dx cd wd cs w ((a.tb_Openers_claim, .tbl qc) :: (a.tb_Openers_opens, .tbl qo) :: (a.tb_check_name, .tbl qn) :: (a.tb_parts_of_address, .tbl qp') :: F)) (imR K rs :: [])) ⟨_, _, [], rfl, rfl, by simp only [OL, List.map_nil]; walk_at "lay3", fun j hj => (by
      rcases List.mem_cons.mp hj with rfl | hj
      · exact fun r hr => by cases hr
      · cases hj), hC.sb⟩ ?_ ?_ ?_
  · rintro i σ H2 hi ⟨v6, v7, rs, rfl, hrs, hC⟩
    exact hC.get (by walk_at "mem")
  · rintro i x σ H2 hx ⟨v6, v7, rs, rfl, hrs, hC⟩
    rw [List.getElem?_map] at hx
    cases he : cs[i]? with
    | none => rw [he] at hx; cases hx
    | some e =>
      rw [he] at hx
      cases hx
      have hl := rows_len hrs
      rw [List.length_take] at hl
      walk_at "go"
      exact fit_for0 T he ok hrs (by omega) hC (fun rs' H' v7' h1 h2 => ⟨_, _, rs', rfl, h1, h2⟩)
  · rintro σ H2 ⟨v6, v7, rs, rfl, hrs, hC⟩
    rw [List.length_map, List.take_length] at hrs
    have hl := rows_len hrs
    exact fit_tail2 T hrs (by omega) hC (fun t H' hC => k _ t qc qo qn qp' hC.sb (by simp only [KT, OL] at hC ⊢; walk_at "lay3") ⟨tk.c, tk.o, tk.n, tp⟩ (hC.tup List.mem_cons_self))
end
section
variable {K : PySem.W.Frag} {mg : Str → Option Value} {a : Adr} {vs : List V} {B H : Hp} {Q : VK} {E : XK} {L F : List (Addr × HO)} {I : List Im} {N Bk Ct : L2.St → Hp → Prop}
variable {cs : List CL} {w : Alw} {so dx cd wd rp : Addr} {sc ho pa ap : Str}
theorem isE_filter {α β : Type} (p : α → Bool) (f : α → β) : ∀ l : List α, ((l.filter p).map f).isEmpty = !l.any p
  | [] => rfl
  | x :: l => by
    rw [List.filter_cons, List.any_cons]
    cases h : p x
    · simpa using isE_filter p f l
    · simp
/-- a fit of one claim -/
abbrev fitE (ap sc ho : Str) (e : CL) : Bool := decide (e.ap = ap ∧ e.sc = sc ∧ (covI e.ho ho).isSome = true)
theorem pure_Openers_want_always {H0 : Hp} (T : Txt K mg a) (h : sp_Openers_want_always K a vs H0 Q E) : t_Openers_want_always K a E { nx := fun _ H' => Q .non H', rt := Q } (L2.start N_Openers_want_always vs) H0 := by
  obtain ⟨_, so, dx, cd, wd, ap, sc, ho, pa, cs, w, qc, qo, qn, qp, F, rfl, h1, h2, h3, ok, hw, y, tk, k1, k2⟩ := h
  have hC := Ctx.start (K := K) y
  clear y
  have hcl := ok.len
  simp only [KT, OL] at hC
  unfold t_Openers_want_always
  walk_at "start"
  walk_at "go"
  refine c_adr hC (by walk_at "perm3") tk.p h1 h2 h3 (fun t qp' H tpp hC => ?_)
  walk_at "go"
  refine lc_pick (es := cs) (kf := fun e => V.ref e.ad) (walk_lstE (es := cs) (kf := fun e => V.ref e.ad) rfl) (fitE ap sc ho) (fun e => V.ref e.ad) (by omega) (fun H1 x hC => SqL.of (hC.get (by walk_at "mem"))) hC (fun i e H1 D vr Zy Zn he hC hy hn => ?_) (fun H1 D hC => ?_)
  · have okE := ok.all e (List.mem_of_getElem? he)
    have hz := ch_len e.ho okE.ho
    have hC0 := hC
    rw [ccells_mid he] at hC
    simp only [ccell] at hC
    simp only [wipe, List.set_cons_zero, List.set_cons_succ]
    walk_at "go"
    refine ⟨rfl, ?_⟩
    by_cases e1 : e.ap = ap
    · by_cases e2 : e.sc = sc
      · walk_at "all"
        refine c_cov hC0 hz (fun H hC => ?_)
        refine s_notCov ?_
        cases hcov : (covI e.ho ho).isSome
        · walk_at "go"
          exact hn _ _ (by simp [fitE, hcov]) hC (fun j hj => hj)
        · walk_at "go"
          exact hy _ _ (by simp [fitE, hcov, e1, e2]) hC (fun j hj => hj)
      · walk_at "all"
        exact hn _ _ (by simp [fitE, e2]) hC0 (fun j hj => hj)
    · walk_at "all"
      exact hn _ _ (by simp [fitE, e1]) hC0 (fun j hj => hj)
  · walk_at "go"
    refine s_eqY (hC.get (by walk_at "mem")) (hC.get (by walk_at "mem")) ?_
    rw [isE_filter]
    rw [show cs.any (fitE ap sc ho) = fitsB cs ap sc ho from rfl]
    cases hf : fitsB cs ap sc ho
    · walk_at "go"
      exact k2 hf _ qc qo qn qp' hC.sb (by simp only [KT, OL]; walk_at "lay3") ⟨tk.c, tk.o, tk.n, tpp⟩
    · walk_at "go"
      exact k1 hf _ qc qo qn qp' hC.sb (by simp only [KT, OL]; walk_at "lay3") ⟨tk.c, tk.o, tk.n, tpp⟩
theorem want_or (ok : AlwOk w) : wantV w sc ho = .non ∨ ∃ x, x ∈ APS ∧ wantV w sc ho = .str x := by
  unfold wantV
  cases h : look w (sc, ho) with
  | none => exact .inl rfl
  | some v =>
    obtain ⟨x, hx, e⟩ := ok.all _ (look_some h)
    exact .inr ⟨x, hx, e⟩
theorem foldS_mem {v : V} {x : Str} : ∀ (l : List Str) (acc : List (Str × V)), x ∈ (l.foldl (fun acc x => putR acc x v) acc).map (·.1) → x ∈ acc.map (·.1) ∨ x ∈ l
  | [], acc, h => .inl h
  | y :: l, acc, h => by
    rcases foldS_mem l _ h with h | h
    · replace h : x ∈ (putR acc y v).map (·.1) := h
      unfold putR at h
      split at h
      · rw [List.map_map] at h
        obtain ⟨p, hp, rfl⟩ := List.mem_map.mp h
        refine .inl (List.mem_map.mpr ⟨p, hp, ?_⟩)
        show _ = (if p.1 = y then (p.1, v) else p).1
        split <;> rfl
      · rw [List.map_append] at h
        rcases List.mem_append.mp h with h | h
        · exact .inl h
        · rcases List.mem_cons.mp h with rfl | h
          · exact .inr List.mem_cons_self
          · cases h
    · exact .inr (List.mem_cons_of_mem _ h)
theorem names_mem (ok : ClsOk cs) {x : Str} (h : x ∈ namesL cs sc ho pa) : x ∈ APS := by
  unfold namesL at h
  have h := (srtT_perm _).mem_iff.mp h
  unfold dedS at h
  rcases foldS_mem _ _ h with h | h
  · cases h
  · obtain ⟨r, hr, rfl⟩ := List.mem_map.mp h
    have hr := (List.mem_filter.mp hr).1
    obtain ⟨e, he, h2⟩ := List.mem_filterMap.mp hr
    cases hk : fitK e sc ho pa with
    | none => rw [hk] at h2; cases h2
    | some k => rw [hk] at h2; cases h2; exact (ok.all e he).ap
theorem eqvT0 {ns : List Str} : PyData.eqv (.tuple (ns.map PyData.str)) (.tuple []) = ns.isEmpty := by
  show PyData.eqvAll (ns.map PyData.str) (([] : List Str).map PyData.str) = _
  rw [eqv_strs]
  cases ns <;> simp
theorem s_eqT0 {t u : Addr} {ns : List Str} (ht : SqT K H t (ns.map V.str)) (hu : SqT K H u []) (so : ∀ x, x ∈ ns → PyData.strOk x = true) (q : Q (.bl ns.isEmpty) H) : rEqU K (.ref t) (.ref u) H Q := by
  refine s_eqD (d := .tuple (ns.map PyData.str)) (e := .tuple []) (TD.dp (TD.tup ht (strs_tds ns))) (TD.dp (TD.tup hu .nil)) ((strs_sh so).tuple.shaped (by decide)) ((ShL.nil (n := 0)).tuple.shaped (by decide)) ?_
  rw [eqvT0]
  exact q
theorem opens_tail0 (T : Txt K mg a) {qc qo qn qp : Array Value} {v2 v3 v4 v5 v6 v7 : Option V} (h1 : sc ∈ SC) (h2 : ho ∈ HOS) (h3 : pa ∈ PA) (ok : ClsOk cs) (tk : TK qc qo qn qp) (hC : Ctx K B H (KT a qc qo qn qp (OL a so dx cd wd cs w F)) I)
    (k : ∀ v qc qo qn qp H1, TK qc qo qn qp → Ctx K B H1 (KT a qc qo qn qp (OL a so dx cd wd cs w F)) I → TD K H1 v (namesD (namesL cs sc ho pa)) → Q v H1) :
    t_Openers_opens_tail0 K a E ⟨N, Q, Bk, Ct⟩ [some (.ref so), some (.str (adr sc ho pa)), v2, v3, v4, v5, v6, v7] H := by
  have hm : ∀ x, x ∈ namesL cs sc ho pa → PyData.strOk x = true := fun x hx => aps_so x (names_mem ok hx)
  have sb : ∀ {H : Hp} {J : List Im}, Ctx K B H (KT a qc qo qn qp (OL a so dx cd wd cs w F)) (J ++ I) → Ctx K B H (KT a qc qo qn qp (OL a so dx cd wd cs w F)) I := fun hC => ⟨hC.lay, fun j hj => hC.im j (List.mem_append_right _ hj), hC.sb⟩
  simp only [KT, OL] at hC
  unfold t_Openers_opens_tail0
  walk_at "go"
  refine c_fitting hC (by simp only [KT, OL]; walk_at "perm3") h1 h2 h3 ok tk (fun t qc qo qn qp H tk hC => ?_)
  have hI : ∀ j, j ∈ I → j ∈ Im.tup t ((namesL cs sc ho pa).map V.str) :: I := fun j hj => List.mem_cons_of_mem _ hj
  simp only [KT, OL] at hC
  walk_at "go"
  refine s_eqT0 (hC.tup (by walk_at "mem")) (hC.tup (by walk_at "mem")) hm ?_
  have tt := hC.tup (a := t) (xs := (namesL cs sc ho pa).map V.str) (by walk_at "mem")
  cases hn : namesL cs sc ho pa with
  | nil =>
    rw [show ([] : List Str).isEmpty = true from rfl]
    walk_at "go"
    exact k _ _ _ _ _ _ tk ⟨by simp only [KT, OL]; walk_at "lay3", fun j hj => hC.im j (by repeat (first | exact List.mem_cons_of_mem _ hj | apply List.mem_cons_of_mem)), hC.sb⟩ (by rw [hn]; exact TD.tup (hC.tup (by walk_at "mem")) (.cons (.str _) .nil))
  | cons x r =>
    rw [hn] at hC
    rw [show (x :: r).isEmpty = false from rfl]
    walk_at "go"
    cases r with
    | nil =>
      refine s_iteDT rfl ?_
      walk_at "go"
      exact k _ _ _ _ _ _ tk ⟨by simp only [KT, OL]; walk_at "lay3", fun j hj => hC.im j (by repeat (first | exact List.mem_cons_of_mem _ hj | apply List.mem_cons_of_mem)), hC.sb⟩ (by rw [hn]; exact TD.tup (hC.tup (by walk_at "mem")) (.cons (.str _) (.cons (.str _) .nil)))
    | cons y r =>
      refine s_iteDF (by simp only [List.map_cons, List.length_cons]; omega) ?_
      walk_at "go"
      exact k _ _ _ _ _ _ tk ⟨by simp only [KT, OL]; walk_at "lay3", fun j hj => hC.im j (by repeat (first | exact List.mem_cons_of_mem _ hj | apply List.mem_cons_of_mem)), hC.sb⟩ (by rw [hn]; exact TD.tup (hC.tup (by walk_at "mem")) (.cons (.str _) (.cons (TD.tup (hC.tup (a := t) (xs := (x :: y :: r).map V.str) (by walk_at "mem")) (strs_tds (x :: y :: r))) .nil)))
theorem pure_Openers_opens {H0 : Hp} (T : Txt K mg a) (h : sp_Openers_opens K a vs H0 Q E) : t_Openers_opens K a E { nx := fun _ H' => Q .non H', rt := Q } (L2.start N_Openers_opens vs) H0 := by
  obtain ⟨_, so, dx, cd, wd, sc, ho, pa, cs, w, qc, qo, qn, qp, F, rfl, h1, h2, h3, ok, aok, y, tk, k⟩ := h
  have hC := (Ctx.start (K := K) y).add (i := .tri qo) tk.o
  clear y
  have hcl := ok.len
  simp only [KT, OL] at hC
  unfold t_Openers_opens
  walk_at "start"
  walk_at "go"
  refine c_adr hC (by walk_at "perm3") tk.p h1 h2 h3 (fun t qp' H tpp hC => ?_)
  walk_at "go"
  rw [show (look w (sc, ho)).getD V.non = wantV w sc ho from rfl]
  have tt := hC.tri (ps := tb) (by walk_at "mem")
  rcases want_or (sc := sc) (ho := ho) aok with hw | ⟨x, hx, hw⟩
  · rw [hw]
    refine any_read (es := cs) (kf := fun e => V.ref e.ad) (walk_lstE (es := cs) (kf := fun e => V.ref e.ad) rfl) (fun _ => false) (by omega) (fun H1 hC => SqL.of (hC.get (by walk_at "mem"))) hC (fun i e H1 Z Zn he hC hy => ?_) (fun H' hC => ?_)
    · have hC0 := hC
      rw [ccells_mid he] at hC
      simp only [ccell] at hC
      simp only [wipe, List.set_cons_zero, List.set_cons_succ]
      walk_at "go"
      refine ⟨rfl, ?_⟩
      walk_at "go"
      exact hy _ hC0
    · rw [show (if true = true then cs.any (fun _ => false) else cs.all (fun _ => false)) = false from by simp]
      walk_at "go"
      have hb : opensD cs w sc ho pa = namesD (namesL cs sc ho pa) := by
        unfold opensD opensB
        rw [hw]
        simp
      exact opens_tail0 (E := E) (F := F) (w := w) (dx := dx) (cd := cd) (wd := wd) (I := []) T h1 h2 h3 ok (qc := qc) (qo := tb) (qn := qn) (qp := qp') ⟨tk.c, tt, tk.n, tpp⟩ ⟨by simp only [KT, OL]; walk_at "lay3", fun j hj => (by cases hj), hC.sb⟩ (fun v qc qo qn qp H1 tk hC td => k _ v qc qo qn qp hC.sb hC.lay tk (by rw [hb]; exact td))
  · rw [hw]
    refine any_read (es := cs) (kf := fun e => V.ref e.ad) (walk_lstE (es := cs) (kf := fun e => V.ref e.ad) rfl) (fun e => decide (e.ap = x ∧ e.sc = sc ∧ (covI e.ho ho).isSome = true ∧ Txt.startswith pa e.pa = true)) (by omega) (fun H1 hC => SqL.of (hC.get (by walk_at "mem"))) hC (fun i e H1 Z Zn he hC hy => ?_) (fun H' hC => ?_)
    · have okE := ok.all e (List.mem_of_getElem? he)
      have hz := ch_len e.ho okE.ho
      have hC0 := hC
      rw [ccells_mid he] at hC
      simp only [ccell] at hC
      simp only [wipe, List.set_cons_zero, List.set_cons_succ]
      walk_at "go"
      refine ⟨rfl, ?_⟩
      by_cases e1 : e.ap = x
      · by_cases e2 : e.sc = sc
        · walk_at "all"
          refine c_cov hC0 hz (fun H hC => ?_)
          have hC0 := hC
          rw [ccells_mid he] at hC
          simp only [ccell] at hC
          refine s_notCov ?_
          cases hcov : (covI e.ho ho).isSome
          · walk_at "go"
            have := hy _ hC0
            simpa [hcov] using this
          · walk_at "go"
            have := hy _ hC0
            simpa [hcov, e1, e2] using this
        · walk_at "all"
          have := hy _ hC0
          simpa [e2] using this
      · walk_at "all"
        have := hy _ hC0
        simpa [e1] using this
    · rw [if_pos rfl]
      have hob : opensB cs w sc ho pa = opB cs x sc ho pa := by unfold opensB; rw [hw]
      rw [show (cs.any fun e => decide (e.ap = x ∧ e.sc = sc ∧ (covI e.ho ho).isSome = true ∧ Txt.startswith pa e.pa = true)) = opB cs x sc ho pa from rfl]
      cases hb : opB cs x sc ho pa
      · walk_at "go"
        have hb : opensD cs w sc ho pa = namesD (namesL cs sc ho pa) := by
          unfold opensD
          rw [hob, hb]
          rfl
        exact opens_tail0 (E := E) (F := F) (w := w) (dx := dx) (cd := cd) (wd := wd) (I := []) T h1 h2 h3 ok (qc := qc) (qo := tb) (qn := qn) (qp := qp') ⟨tk.c, tt, tk.n, tpp⟩ ⟨by simp only [KT, OL]; walk_at "lay3", fun j hj => (by cases hj), hC.sb⟩ (fun v qc qo qn qp H1 tk hC td => k _ v qc qo qn qp hC.sb hC.lay tk (by rw [hb]; exact td))
      · walk_at "go"
        have hb : opensD cs w sc ho pa = .tuple [.str "app", .str x] := by
          unfold opensD
          rw [hob, hb, hw]
          rfl
        exact k _ _ qc tb qn qp' hC.sb (by simp only [KT, OL]; walk_at "lay3") ⟨tk.c, tt, tk.n, tpp⟩ (by rw [hb]; exact TD.tup (hC.tup (by walk_at "mem")) (.cons (.str _) (.cons (.str _) .nil)))
end
section
variable {K : PySem.W.Frag} {mg : Str → Option Value} {a : Adr} {vs : List V} {B H : Hp} {Q : VK} {E : XK} {L F : List (Addr × HO)} {I : List Im} {N Bk Ct : L2.St → Hp → Prop}
variable {cs : List CL} {w : Alw} {so dx cd wd rp lc : Addr} {sc ho pa ap : Str} {rs : List RW} {ts : List Addr}
abbrev RowsAre (K : PySem.W.Frag) (H : Hp) (ts : List Addr) (cs : List CL) : Prop := Paired (fun (t : Addr) (e : CL) => SqT K H t (rowV e)) ts cs
theorem rows_mono {H H' : Hp} (s : Stb H H') (h : RowsAre K H ts cs) : RowsAre K H' ts cs := pairedImp (G := fun (t : Addr) (e : CL) => SqT K H t (rowV e)) (G2 := fun (t : Addr) (e : CL) => SqT K H' t (rowV e)) (fun _ _ z => s.sqt z) h
abbrev imC (K : PySem.W.Frag) (ts : List Addr) (cs : List CL) : Im := .pr (fun H => RowsAre K H ts cs) (fun _ _ s h => rows_mono s h)
theorem paired_len {α β : Type} {R : α → β → Prop} : ∀ {l : List α} {m : List β}, Paired R l m → l.length = m.length
  | _, _, .nil => rfl
  | _, _, .cons _ t => by rw [List.length_cons, List.length_cons, paired_len t]
theorem paired_get {α β : Type} {R : α → β → Prop} {l : List α} {m : List β} (h : Paired R l m) {i : Nat} {x : α} (e : l[i]? = some x) : ∃ y, m[i]? = some y ∧ R x y := by
  have hi : i < m.length := by rw [← paired_len h]; exact (List.getElem?_eq_some_iff.mp e).1
  exact ⟨m[i], List.getElem?_eq_getElem hi, pairAt h e (List.getElem?_eq_getElem hi)⟩
theorem cut_sw : ∀ p, p ∈ PA → ∀ st, st ∈ PA → decide (cutS p none (some (st.length : Int)) = st) = Txt.startswith p st := by decide +kernel
theorem best_tail0 (T : Txt K mg a) {v0 v1 v2 v3 bv : V} {v4 v5 v6 v7 v8 v10 v12 : Option V} (hrs : rdat rs = rowsK cs sc ho pa) (hn : rs.length ≤ 30) (hC : Ctx K B H ((rp, .lst (rs.map fun r => V.ref r.1)) :: L) (imB K rs bv :: imR K rs :: I))
    (k : ∀ p H1, Ctx K B H1 ((p, .lst ((namesL cs sc ho pa).map V.str)) :: L) I → Q (.ref p) H1) :
    t_law_best_tail0 K a E ⟨N, Q, Bk, Ct⟩ [some v0, some v1, some v2, some v3, v4, v5, v6, v7, v8, some (.ref rp), v10, some bv, v12] H := by
  have sh : ∀ r, r ∈ rdat rs → KShape r.1 := by rw [hrs]; exact rowsK_shape
  unfold t_law_best_tail0
  walk_at "go"
  refine lc_w (walk_lstE (es := rs) (kf := fun r => V.ref r.1) rfl) hC (fun D i H1 => ∃ ps, Ctx K B H1 ((D, .lst (ps.map V.ref)) :: (rp, .lst (rs.map fun r => V.ref r.1)) :: L) (imP K ps (mK id (((rs.take i).filter fun r => decide (some r.2.2.1 = bestK (rdat rs))).map fun r => (r.2.2.2, V.int 1))) :: imB K rs bv :: imR K rs :: I)) (fun D H1 hC => ⟨[], ⟨hC.lay, fun j hj => (by
      rcases List.mem_cons.mp hj with rfl | hj
      · exact Paired.nil
      · exact hC.im j hj), hC.sb⟩⟩) (fun D i H1 _ ⟨ps, hC⟩ => SqL.of (hC.get (by walk_at "mem"))) ?_ ?_
  · rintro i x D H1 H2 hi ⟨ps, hC⟩ hy
    obtain ⟨rfl, r, hr, rfl⟩ := ye hy
    have hm := List.mem_of_getElem? hr
    have f := hC.pr (P := fun H => RwOk K H rs) (by walk_at "mem") r hm
    have hps := hC.pr (P := fun H => Paired (PrF K H) ps (mK id (((rs.take i).filter fun r => decide (some r.2.2.1 = bestK (rdat rs))).map fun r => (r.2.2.2, V.int 1)))) (by walk_at "mem")
    have hpl : (ps.map V.ref).length ≤ 1000 := by
      rw [List.length_map, paired_len hps, mK_len, List.length_map]
      refine Nat.le_trans (List.length_filter_le _ _) ?_
      rw [List.length_take]
      omega
    obtain ⟨t, y, rfl, sy, hb, ht⟩ := hC.pr (P := fun H => BV K H rs bv) (by walk_at "mem") r hm
    have hC0 := hC
    replace hC := hC.add (i := .tup r.1 _) f.1
    simp only [wipe, List.set_cons_zero, List.set_cons_succ]
    walk_at "go"
    refine ⟨rfl, ?_⟩
    walk_at "go"
    refine key_eq f.2 ht (sh _ (List.mem_map.mpr ⟨r, hm, rfl⟩)) sy ?_
    walk_at "all"
    · rename_i c _
      have hps := hC.pr (P := fun H => Paired (PrF K H) ps (mK id (((rs.take i).filter fun r => decide (some r.2.2.1 = bestK (rdat rs))).map fun r => (r.2.2.2, V.int 1)))) (by walk_at "mem")
      refine ⟨ps ++ [tp], ⟨by rw [List.map_append]; exact hC.lay, fun j hj => ?_, hC.sb⟩⟩
      rcases List.mem_cons.mp hj with rfl | hj
      · show Paired (PrF K _) (ps ++ [tp]) _
        rw [take_snoc hr, List.filter_append, List.map_append, show ([r] : List RW).filter (fun r => decide (some r.2.2.1 = bestK (rdat rs))) = [r] from by rw [hb]; simp [c], List.map_cons, List.map_nil, mK_app]
        exact Ph.Paired.snoc hps (show SqT K _ tp [.str r.2.2.2, .int 1] from hC.tup (by walk_at "mem"))
      · exact hC.im j (by repeat (first | exact List.mem_cons_of_mem _ hj | apply List.mem_cons_of_mem))
    · rename_i c
      refine ⟨ps, ?_⟩
      rw [take_snoc hr, List.filter_append, show ([r] : List RW).filter (fun r => decide (some r.2.2.1 = bestK (rdat rs))) = [] from by rw [hb]; simp [c], List.append_nil]
      exact hC0
  · rintro D H1 ⟨ps, hC⟩
    rw [List.take_length] at hC
    walk_at "go"
    refine s_dictPm hC (hC.get (by walk_at "mem")) (hC.pr (P := fun H => Paired (PrF K H) ps _) (by walk_at "mem")) (fun p H2 hC => ?_)
    walk_at "go"
    refine s_srtK hC (hC.get (by walk_at "mem")) (Nat.lt_of_le_of_lt putsR_len (by rw [List.length_map]; exact Nat.lt_of_le_of_lt (List.length_filter_le _ _) (by omega))) (fun p H2 hC => ?_)
    rw [names_of hrs] at hC
    walk_at "go"
    exact k _ _ ⟨by walk_at "lay3", fun j hj => hC.im j (by repeat (first | exact List.mem_cons_of_mem _ hj | apply List.mem_cons_of_mem)), hC.sb⟩
theorem best_tail1 (T : Txt K mg a) {v0 v1 v2 v3 : V} {v4 v5 v6 v7 v8 v10 v11 v12 : Option V} (hrs : rdat rs = rowsK cs sc ho pa) (hn : rs.length ≤ 30) (hC : Ctx K B H ((rp, .lst (rs.map fun r => V.ref r.1)) :: L) (imR K rs :: I))
    (k : ∀ p H1, Ctx K B H1 ((p, .lst ((namesL cs sc ho pa).map V.str)) :: L) I → Q (.ref p) H1) :
    t_law_best_tail1 K a E ⟨N, Q, Bk, Ct⟩ [some v0, some v1, some v2, some v3, v4, v5, v6, v7, v8, some (.ref rp), v10, v11, v12] H := by
  have sh : ∀ r, r ∈ rdat rs → KShape r.1 := by rw [hrs]; exact rowsK_shape
  unfold t_law_best_tail1
  walk_at "go"
  refine s_neY (hC.get (by walk_at "mem")) (hC.get (by walk_at "mem")) ?_
  cases hrn : rs with
  | nil =>
    subst hrn
    replace hC := hC.add (i := imB K [] .non) (fun r hr => by cases hr)
    walk_at "go"
    exact best_tail0 (E := E) (L := L) (I := I) T hrs hn ⟨by walk_at "lay3", hC.im, hC.sb⟩ k
  | cons r0 rr =>
    have hpos : 0 < rs.length := by rw [hrn]; simp
    rw [← hrn]
    rw [show (rs.map fun r => V.ref r.1).isEmpty = false from by rw [hrn]; rfl]
    walk_at "go"
    refine lc_pick (es := rs) (kf := fun r => V.ref r.1) (walk_lstE (es := rs) (kf := fun r => V.ref r.1) rfl) (fun _ => true) (fun r => V.ref r.2.1) (by omega) (fun H1 x hC => SqL.of (hC.get (by walk_at "mem"))) hC (fun i r H1 D vr Zy Zn hr hC hy hn => ?_) (fun H1 D hC => ?_)
    · have hm := List.mem_of_getElem? hr
      have f := hC.pr (P := fun H => RwOk K H rs) (by walk_at "mem") r hm
      replace hC := hC.add (i := .tup r.1 _) f.1
      simp only [wipe, List.set_cons_zero, List.set_cons_succ]
      walk_at "go"
      refine ⟨rfl, ?_⟩
      walk_at "go"
      exact hy _ _ rfl hC (fun j hj => List.mem_cons_of_mem _ hj)
    · rw [show rs.filter (fun _ => true) = rs from by simp] at hC
      walk_at "go"
      have hr := hC.pr (P := fun H => RwOk K H rs) (by walk_at "mem")
      refine s_maxT (hC.get (by walk_at "mem")) (rw_tups hr) (all_shape (fun x hx => ?_)) (by simpa using hpos) (fun v hv => ?_)
      · obtain ⟨r, hr, rfl⟩ := List.mem_map.mp hx
        exact sh _ (List.mem_map.mpr ⟨r, hr, rfl⟩)
      · replace hC := hC.add (i := imB K rs v) (bv_of hr sh hpos hv)
        walk_at "go"
        exact best_tail0 (E := E) (L := L) (I := I) T hrs hn ⟨by walk_at "lay3", hC.im, hC.sb⟩ k
theorem pure_law_best {H0 : Hp} (T : Txt K mg a) (h : sp_law_best K a vs H0 Q E) : t_law_best K a E { nx := fun _ H' => Q .non H', rt := Q } (L2.start N_law_best vs) H0 := by
  obtain ⟨_, lc, ts, cs, sc, ho, pa, L, rfl, h1, h2, h3, ok, hp, y, k⟩ := h
  have hC := (Ctx.start (K := K) y).add (i := imC K ts cs) hp
  clear y
  have hcl := ok.len
  have htl := paired_len hp
  unfold t_law_best
  walk_at "start"
  walk_at "go"
  refine lc_w (walk_lstE (es := ts) (kf := V.ref) rfl) hC (fun D i H1 => ∃ rs, rdat rs = rowsK (cs.take i) sc ho pa ∧ Ctx K H0 H1 ((D, .lst (rs.map fun r => V.ref r.1)) :: (lc, .lst (ts.map V.ref)) :: L) (imR K rs :: imC K ts cs :: [])) (fun D H1 hC => ⟨[], rfl, hC.add (i := imR K []) (fun r hr => by cases hr)⟩) (fun D i H1 _ ⟨rs, _, hC⟩ => SqL.of (hC.get (by walk_at "mem"))) ?_ ?_
  · rintro i x D H1 H2 hi ⟨rs, hrs, hC⟩ hy
    obtain ⟨rfl, t, ht, rfl⟩ := ye hy
    obtain ⟨e, he, f⟩ := paired_get (hC.pr (P := fun H => RowsAre K H ts cs) (by walk_at "mem")) ht
    have okE := ok.all e (List.mem_of_getElem? he)
    have hzp := pa_len e.pa okE.pa
    have hzq := pa_len pa h3
    have hrl : (rs.map fun r => V.ref r.1).length ≤ 100 := by
      rw [List.length_map]
      have := rows_len hrs
      rw [List.length_take] at this
      omega
    have hC0 := hC
    replace hC := hC.add (i := .tup t [.str e.ap, .str e.sc, .str e.ho, .str e.pa, .bl e.pr]) f
    simp only [wipe, List.set_cons_zero, List.set_cons_succ]
    walk_at "go"
    refine ⟨rfl, ?_⟩
    by_cases c1 : e.sc = sc
    · walk_at "all"
      refine c_fit hC okE.ho h2 (fun H hC => ?_)
      refine s_notCov ?_
      cases hcov : covI e.ho ho with
      | none =>
        have hf : fitK e sc ho pa = none := by unfold fitK; rw [hcov]; split <;> rfl
        rw [show (none : Option Int).isSome = false from rfl]
        walk_at "go"
        exact ⟨rs, by rw [rowsK_take he, hf, hrs]; simp, hC.lay, fun j hj => hC.im j (List.mem_cons_of_mem _ hj), hC.sb⟩
      | some n =>
        have hv : covV e.ho ho = .int n := by unfold covV; rw [hcov]
        rw [show (some n : Option Int).isSome = true from rfl]
        walk_at "go"
        rw [cut_sw pa h3 e.pa okE.pa]
        cases hsw : Txt.startswith pa e.pa with
        | false =>
          have hf : fitK e sc ho pa = none := by unfold fitK; rw [if_neg (fun z => by rw [hsw] at z; cases z.2)]
          walk_at "go"
          exact ⟨rs, by rw [rowsK_take he, hf, hrs]; simp, hC.lay, fun j hj => hC.im j (List.mem_cons_of_mem _ hj), hC.sb⟩
        | true =>
          have hf : fitK e sc ho pa = some [.b e.pr, .i n, .i e.pa.length] := by unfold fitK; rw [if_pos ⟨c1, hsw⟩, hcov]; rfl
          walk_at "go"
          refine c_fit hC okE.ho h2 (fun H hC => ?_)
          rw [hv]
          walk_at "go"
          rename_i t1 _ _
          have hr := hC.pr (P := fun H => RwOk K H rs) (by walk_at "mem")
          refine ⟨rs ++ [(tp, t1, [.b e.pr, .i n, .i e.pa.length], e.ap)], by rw [rowsK_take he, hf, ← hrs]; simp [rdat], ?_⟩
          rw [List.map_append]
          refine ⟨hC.lay, fun j hj => ?_, hC.sb⟩
          rcases List.mem_cons.mp hj with rfl | hj
          · exact rwok_snoc hr (hC.tup (by walk_at "mem")) (show SqT K _ _ [.bl e.pr, .int n, .int e.pa.length] from hC.tup (by walk_at "mem"))
          · exact hC.im j (by repeat (first | exact List.mem_cons_of_mem _ hj | apply List.mem_cons_of_mem))
    · have hf : fitK e sc ho pa = none := by unfold fitK; rw [if_neg (fun z => c1 z.1)]
      walk_at "all"
      exact ⟨rs, by rw [rowsK_take he, hf, hrs]; simp, hC0⟩
  · rintro D H1 ⟨rs, hrs, hC⟩
    rw [List.take_of_length_le (by omega)] at hrs
    have hl := rows_len hrs
    walk_at "go"
    exact best_tail1 (E := E) T hrs (by omega) hC (fun p H2 hC => k _ p hC.sb (by walk_at "lay3"))
end
section
variable {K : PySem.W.Frag} {mg : Str → Option Value} {a : Adr} {vs : List V} {B H : Hp} {Q : VK} {E : XK} {L F : List (Addr × HO)} {I : List Im} {N Bk Ct : L2.St → Hp → Prop} {Rt : VK}
variable {cs : List CL} {w : Alw} {so dx cd wd rp lc ad hL pL dd s tp : Addr} {sc ho pa ap cl : Str} {zs : List (Addr × CL)} {i j l sort n7 : Int} {qc qo qn qp tb : Array Value} {n : Nat}
variable {v7 v8 v9 v10 v11 v12 v13 v14 v15 v16 v17 v18 v19 v20 v21 v22 v23 v24 v25 : Option V}
def ZOk (K : PySem.W.Frag) (H : Hp) (zs : List (Addr × CL)) : Prop := ∀ z, z ∈ zs → SqT K H z.1 (rowV z.2)
theorem zok_mono {H H' : Hp} (s : Stb H H') (h : ZOk K H zs) : ZOk K H' zs := fun z hz => s.sqt (h z hz)
abbrev imZ (K : PySem.W.Frag) (zs : List (Addr × CL)) : Im := .pr (fun H => ZOk K H zs) (fun _ _ s h => zok_mono s h)
def LW (a : Adr) (so dx cd wd lc ad hL pL dd : Addr) (i j l : Int) (zs : List (Addr × CL)) (w : Alw) (qc qo qn qp tb : Array Value) (F : List (Addr × HO)) : List (Addr × HO) :=
  (dd, .lst [.int i, .int j, .int l]) :: (a.tb_law, .tbl tb) :: (hL, .lst (HOS.map V.str)) :: (pL, .lst (PA.map V.str)) :: (lc, .lst (zs.map fun z => V.ref z.1)) :: (ad, .dT (mP id w)) :: KT a qc qo qn qp (OL a so dx cd wd (zs.map (·.2)) w F)
structure WI (n : Nat) (zs : List (Addr × CL)) (w : Alw) : Prop where
  cl : zs.length ≤ n
  wl : w.length ≤ n
  ok : ∀ z, z ∈ zs → ClOk z.2
  nd : (w.map (·.1)).Nodup
  al : ∀ p, p ∈ w → ∃ x, x ∈ APS ∧ p.2 = .str x
theorem WI.cls (h : WI n zs w) (hn : n ≤ 30) : ClsOk (zs.map (·.2)) := ⟨by rw [List.length_map]; exact Nat.le_trans h.cl hn, fun e he => by
  obtain ⟨z, hz, rfl⟩ := List.mem_map.mp he
  exact h.ok z hz⟩
theorem WI.alw (h : WI n zs w) (hn : n ≤ 30) : AlwOk w := ⟨Nat.le_trans h.wl hn, h.nd, h.al⟩
/-- between two steps -/
def WT (K : PySem.W.Frag) (a : Adr) (B : Hp) (s hL pL dd so dx : Addr) (F : List (Addr × HO)) (n : Nat) (σ : L2.St) (H : Hp) : Prop :=
  ∃ (lc ad cd wd : Addr) (i j l : Int) (zs : List (Addr × CL)) (w : Alw) (qc qo qn qp tb : Array Value) (v7 v8 v9 v10 v11 v12 v13 v14 v15 v16 v17 v18 v19 v20 v21 v22 v23 v24 v25 : Option V),
    σ = [some (.ref s), some (.ref hL), some (.ref pL), some (.ref dd), some (.ref so), some (.ref lc), some (.ref ad), v7, v8, v9, v10, v11, v12, v13, v14, v15, v16, v17, v18, v19, v20, v21, v22, v23, v24, v25] ∧ WI n zs w ∧ TK qc qo qn qp ∧
    Ctx K B H (LW a so dx cd wd lc ad hL pL dd i j l zs w qc qo qn qp tb F) [.tab (lamq "law") tb, imZ K zs]
def clD (e : CL) : PyData := .tuple [.str e.ap, .str e.sc, .str e.ho, .str e.pa, .bool e.pr]
theorem rowV_td {e : CL} {t : Addr} (h : SqT K H t (rowV e)) : TD K H (.ref t) (clD e) := TD.tup h (.cons (.str _) (.cons (.str _) (.cons (.str _) (.cons (.str _) (.cons (.bl _) .nil)))))
theorem z_tds : ∀ {zs : List (Addr × CL)}, ZOk K H zs → TDs K H (zs.map fun z => V.ref z.1) ((zs.map (·.2)).map clD)
  | [], _ => .nil
  | z :: zs, h => .cons (rowV_td (h z List.mem_cons_self)) (z_tds fun x hx => h x (List.mem_cons_of_mem _ hx))
theorem clD_sh {e : CL} (h : ClOk e) : Sh 1 (clD e) := ShL.tuple (n := 0) (ShL.cons (Sh.str (aps_so _ h.ap)) (ShL.cons (Sh.str (sc_so _ h.sc)) (ShL.cons (Sh.str (ch_so _ h.ho)) (ShL.cons (Sh.str (pa_so _ h.pa)) (ShL.cons (Sh.bl _) ShL.nil)))))
theorem clsD_sh (h : ClsOk cs) : ShL 50 (cs.map clD) := fun d hd => by
  obtain ⟨e, he, rfl⟩ := List.mem_map.mp hd
  exact (clD_sh (h.all e he)).mono (by decide)
theorem tail9_ok (T : Txt K mg a) (h : WI (n + 1) zs w) (hn : n ≤ 25) (tk : TK qc qo qn qp) (hC : Ctx K B H (LW a so dx cd wd lc ad hL pL dd i j l zs w qc qo qn qp tb F) [.tab (lamq "law") tb, imZ K zs])
    (k : ∀ σ H, WT K a B s hL pL dd so dx F (n + 1) σ H → N σ H) :
    t_law_tail9 K a E ⟨N, Rt, Bk, Ct⟩ [some (.ref s), some (.ref hL), some (.ref pL), some (.ref dd), some (.ref so), some (.ref lc), some (.ref ad), v7, v8, v9, v10, v11, v12, v13, v14, v15, v16, v17, v18, v19, v20, v21, v22, v23, v24, v25] H := by
  have ok := h.cls (by omega)
  have hcl := ok.len
  unfold t_law_tail9
  have hC0 := hC
  unfold LW at hC
  simp only [KT, OL] at hC
  walk_at "go"
  refine lc_read (es := zs.map (·.2)) (kf := fun e => V.ref e.ad) (walk_lstE (es := zs.map (·.2)) (kf := fun e => V.ref e.ad) rfl) (fun _ => true) clD (by omega) (fun H1 x hC => SqL.of (hC.get (by walk_at "mem"))) hC (fun i e H1 D vr Zy Zn he hC hy hn => ?_) (fun H1 D vr hC => ?_)
  · have hC0 := hC
    rw [ccells_mid he] at hC
    simp only [ccell] at hC
    simp only [wipe, List.set_cons_zero, List.set_cons_succ]
    walk_at "go"
    refine ⟨rfl, ?_⟩
    walk_at "go"
    refine hy _ _ _ rfl ⟨by rw [ccells_mid he]; simp only [ccell]; exact hC.lay, hC.im, hC.sb⟩ (fun j hj => List.mem_cons_of_mem _ (List.mem_cons_of_mem _ hj)) (rowV_td (show SqT K _ tp [.str e.ap, .str e.sc, .str e.ho, .str e.pa, .bl e.pr] from hC.tup (by walk_at "mem")))
  · rw [show (zs.map (·.2)).filter (fun _ => true) = zs.map (·.2) from by simp] at hC
    have hz := hC.pr (P := fun H => ZOk K H zs) (by walk_at "mem")
    walk_at "go"
    refine s_neSameL (hC.get (by walk_at "mem")) (hC.get (by walk_at "mem")) (hC.dats (by walk_at "mem")) (z_tds hz) (clsD_sh ok) ?_
    walk_at "go"
    refine s_neZ (hC.get (by walk_at "mem")) (hC.get (by walk_at "mem")) (fun p hp => ?_) ?_
    · obtain ⟨x, _, e⟩ := h.al p hp
      rw [e]
      rfl
    · walk_at "go"
      exact k _ _ ⟨lc, ad, cd, wd, i, j, l, zs, w, qc, qo, qn, qp, tb, _, _, _, _, _, _, _, _, _, _, _, _, _, _, _, _, _, _, _, rfl, h, tk, by unfold LW; simp only [KT, OL]; walk_at "lay3", fun j hj => hC.im j (List.mem_cons_of_mem _ hj), hC.sb⟩
end
section
variable {K : PySem.W.Frag} {mg : Str → Option Value} {a : Adr} {vs : List V} {B H : Hp} {Q : VK} {E : XK} {L F : List (Addr × HO)} {I : List Im} {N Bk Ct : L2.St → Hp → Prop} {Rt : VK}
variable {cs : List CL} {w : Alw} {so dx cd wd rp lc ad hL pL dd s tp : Addr} {sc ho pa ap cl : Str} {zs : List (Addr × CL)} {i j l sort n7 : Int} {qc qo qn qp tb : Array Value} {n : Nat} {pr : Bool}
variable {v7 v8 v9 v10 v11 v12 v13 v14 v15 v16 v17 v18 v19 v20 v21 v22 v23 v24 v25 : Option V}
theorem aps_len : ∀ k, k ∈ APS → k.length ≤ 1000 := by decide +kernel
theorem sc_len : ∀ k, k ∈ SC → k.length ≤ 1000 := by decide +kernel
theorem WI.step (h : WI n zs w) : WI (n + 1) zs w := ⟨Nat.le_succ_of_le h.cl, Nat.le_succ_of_le h.wl, h.ok, h.nd, h.al⟩
theorem WI.snoc (h : WI n zs w) {e : CL} (ok : ClOk e) : WI (n + 1) (zs ++ [(tp, e)]) w := ⟨by rw [List.length_append, List.length_singleton]; exact Nat.succ_le_succ h.cl, Nat.le_succ_of_le h.wl, fun z hz => (by
  rcases List.mem_append.mp hz with hz | hz
  · exact h.ok z hz
  · rcases List.mem_cons.mp hz with rfl | hz
    · exact ok
    · cases hz), h.nd, h.al⟩
theorem zok_snoc {e : CL} (h : ZOk K H zs) (ht : SqT K H tp (rowV e)) : ZOk K H (zs ++ [(tp, e)]) := fun z hz => by
  rcases List.mem_append.mp hz with hz | hz
  · exact h z hz
  · rcases List.mem_cons.mp hz with rfl | hz
    · exact ht
    · cases hz
theorem tail1_ok (T : Txt K mg a) (h : WI n zs w) (hn : n ≤ 25) (tk : TK qc qo qn qp) (hap : ap ∈ APS) (hsc : sc ∈ SC) (hcl : cl ∈ CH) (hpa : pa ∈ PA) (hC : Ctx K B H (LW a so dx cd wd lc ad hL pL dd i j l zs w qc qo qn qp tb F) [.tab (lamq "law") tb, imZ K zs])
    (k : ∀ σ H, WT K a B s hL pL dd so dx F (n + 1) σ H → N σ H) :
    t_law_tail1 K a E ⟨N, Rt, Bk, Ct⟩ [some (.ref s), some (.ref hL), some (.ref pL), some (.ref dd), some (.ref so), some (.ref lc), some (.ref ad), v7, v8, some (.str ap), some (.str sc), v11, some (.str pa), some (.str cl), some (.bl pr), v15, some (.bl (keyB (zs.map (·.2)) ap sc cl pa)), v17, v18, v19, v20, v21, v22, v23, v24, v25] H := by
  have ok := h.cls (by omega)
  have hcl2 := ok.len
  have hzl : (zs.map fun z => V.ref z.1).length ≤ 100 := by rw [List.length_map]; exact Nat.le_trans h.cl (by omega)
  have l1 := sc_len sc hsc
  have l2 := ch_len cl hcl
  have l3 := pa_len pa hpa
  unfold t_law_tail1
  unfold LW at hC
  simp only [KT, OL] at hC
  walk_at "go"
  cases hk : keyB (zs.map (·.2)) ap sc cl pa
  · refine c_claimT (cs := zs.map (·.2)) (w := w) (qc := qc) (qo := qo) (qn := qn) (qp := qp) (so := so) (dx := dx) (cd := cd) (wd := wd) hC (by simp only [KT, OL]; walk_at "perm3") hap hsc hcl hpa ok tk hk (fun nad nd qc qo qn qp H tk hC => ?_)
    simp only [KT, OL] at hC
    walk_at "go"
    unfold t_law_tail0
    walk_at "go"
    rw [show (if (!false) = true then (1 : Int) else 0) = 1 from rfl]
    have hz := hC.pr (P := fun H => ZOk K H zs) (by walk_at "mem")
    walk_at "go"
    have hz := hC.pr (P := fun H => ZOk K H zs) (by walk_at "mem")
    have ht := hC.tup (a := tp) (xs := [.str ap, .str sc, .str cl, .str pa, .bl pr]) (by walk_at "mem")
    rename_i lq _ _
    refine k _ _ ⟨lp, ad, cd, wd, i, j, l, zs ++ [(tp, ⟨ap, sc, cl, pa, pr, nad, nd⟩)], w, qc, qo, qn, qp, tb, _, _, _, _, _, _, _, _, _, _, _, _, _, _, _, _, _, _, _, rfl, h.snoc ⟨hap, hsc, hcl, hpa⟩, tk, ?_, fun m hm => ?_, hC.sb⟩
    · unfold LW
      simp only [KT, OL, List.map_append, List.map_cons, List.map_nil] at hC ⊢
      walk_at "lay3"
    · rcases List.mem_cons.mp hm with rfl | hm
      · exact hC.im _ (by walk_at "mem")
      · rcases List.mem_cons.mp hm with rfl | hm
        · exact zok_snoc hz ht
        · cases hm
  · refine c_claimF (cs := zs.map (·.2)) (w := w) (qc := qc) (qo := qo) (qn := qn) (qp := qp) (so := so) (dx := dx) (cd := cd) (wd := wd) hC (by simp only [KT, OL]; walk_at "perm3") hap hsc hcl hpa ok tk hk (fun qc qo qn qp H tk hC => ?_)
    simp only [KT, OL] at hC
    walk_at "go"
    unfold t_law_tail0
    walk_at "go"
    rw [show (if (!true) = true then (1 : Int) else 0) = 0 from rfl]
    walk_at "go"
    refine k _ _ ⟨lp, ad, cd, wd, i, j, l, zs, w, qc, qo, qn, qp, tb, _, _, _, _, _, _, _, _, _, _, _, _, _, _, _, _, _, _, _, rfl, h.step, tk, ?_, fun m hm => ?_, hC.sb⟩
    · unfold LW
      simp only [KT, OL, List.append_nil] at hC ⊢
      walk_at "lay3"
    · rcases List.mem_cons.mp hm with rfl | hm
      · exact hC.im _ (by walk_at "mem")
      · rcases List.mem_cons.mp hm with rfl | hm
        · exact hC.im _ (by walk_at "mem")
        · cases hm
end
section
variable {K : PySem.W.Frag} {mg : Str → Option Value} {a : Adr} {vs : List V} {B H : Hp} {Q : VK} {E : XK} {L F : List (Addr × HO)} {I : List Im} {N Bk Ct : L2.St → Hp → Prop} {Rt : VK}
variable {cs : List CL} {w : Alw} {so dx cd wd rp lc ad hL pL dd s tp : Addr} {sc ho pa ap cl : Str} {zs : List (Addr × CL)} {i j l sort n7 : Int} {qc qo qn qp tb : Array Value} {n : Nat} {pr : Bool}
variable {v7 v8 v9 v10 v11 v12 v13 v14 v15 v16 v17 v18 v19 v20 v21 v22 v23 v24 v25 : Option V}
theorem s_slT4 {t : Addr} {x1 x2 x3 x4 x5 : V} (hC : Ctx K B H L I) (h : SqT K H t [x1, x2, x3, x4, x5]) (k : ∀ p H1, Ctx K B H1 L (.tup p [x1, x2, x3, x4] :: I) → Q (.ref p) H1) : rSlU K (.ref t) none (some 4) H Q :=
  .inr (.inr ⟨t, _, rfl, h, fun z => absurd z.2 (show ¬ HT.sIx 5 5 (some 4) = 5 from by decide), fun p hp => k p _ (hC.newT hp)⟩)
theorem eq4 {p q : Addr} {x y z u x' y' z' u' : Str} (hp : SqT K H p [.str x, .str y, .str z, .str u]) (hq : SqT K H q [.str x', .str y', .str z', .str u']) (h1 : x ∈ APS) (h2 : y ∈ SC) (h3 : z ∈ CH) (h4 : u ∈ PA) (h5 : x' ∈ APS) (h6 : y' ∈ SC) (h7 : z' ∈ CH) (h8 : u' ∈ PA)
    (k : Q (.bl (decide (x = x' ∧ y = y' ∧ z = z' ∧ u = u'))) H) : rEqU K (.ref p) (.ref q) H Q := by
  refine s_eqD (d := .tuple [.str x, .str y, .str z, .str u]) (e := .tuple [.str x', .str y', .str z', .str u']) (TD.dp (TD.tup hp ?_)) (TD.dp (TD.tup hq ?_)) ?_ ?_ ?_
  · exact .cons (.str _) (.cons (.str _) (.cons (.str _) (.cons (.str _) .nil)))
  · exact .cons (.str _) (.cons (.str _) (.cons (.str _) (.cons (.str _) .nil)))
  · exact (ShL.tuple (n := 0) (ShL.cons (Sh.str (aps_so _ h1)) (ShL.cons (Sh.str (sc_so _ h2)) (ShL.cons (Sh.str (ch_so _ h3)) (ShL.cons (Sh.str (pa_so _ h4)) ShL.nil))))).shaped (by decide)
  · exact (ShL.tuple (n := 0) (ShL.cons (Sh.str (aps_so _ h5)) (ShL.cons (Sh.str (sc_so _ h6)) (ShL.cons (Sh.str (ch_so _ h7)) (ShL.cons (Sh.str (pa_so _ h8)) ShL.nil))))).shaped (by decide)
  · rw [eqv4]
    exact k
theorem any_snd {p : CL → Bool} : zs.any (fun z => p z.2) = (zs.map (·.2)).any p := by rw [List.any_map]; rfl
theorem tail2_ok (T : Txt K mg a) (h : WI n zs w) (hn : n ≤ 25) (tk : TK qc qo qn qp) (hap : ap ∈ APS) (hsc : sc ∈ SC) (hcl : cl ∈ CH) (hpa : pa ∈ PA) (hC : Ctx K B H (LW a so dx cd wd lc ad hL pL dd i j l zs w qc qo qn qp tb F) [.tab (lamq "law") tb, imZ K zs])
    (k : ∀ σ H, WT K a B s hL pL dd so dx F (n + 1) σ H → N σ H) :
    t_law_tail2 K a E ⟨N, Rt, Bk, Ct⟩ [some (.ref s), some (.ref hL), some (.ref pL), some (.ref dd), some (.ref so), some (.ref lc), some (.ref ad), v7, v8, some (.str ap), some (.str sc), v11, some (.str pa), some (.str cl), some (.bl pr), v15, v16, v17, v18, v19, v20, v21, v22, v23, v24, v25] H := by
  have hzl : zs.length ≤ 100 := Nat.le_trans h.cl (by omega)
  unfold t_law_tail2
  unfold LW at hC
  simp only [KT, OL] at hC
  walk_at "go"
  refine lc_pick (es := zs) (kf := fun z => V.ref z.1) (walk_lstE (es := zs) (kf := fun z => V.ref z.1) rfl) (fun z => decide (z.2.ap = ap ∧ z.2.sc = sc ∧ z.2.ho = cl ∧ z.2.pa = pa)) (fun z => V.ref z.1) (by omega) (fun H1 x hC => SqL.of (hC.get (by walk_at "mem"))) hC (fun i z H1 D vr Zy Zn he hC hy hn => ?_) (fun H1 D hC => ?_)
  · have hm := List.mem_of_getElem? he
    have okE := h.ok z hm
    have f := hC.pr (P := fun H => ZOk K H zs) (by walk_at "mem") z hm
    simp only [wipe, List.set_cons_zero, List.set_cons_succ]
    walk_at "go"
    refine ⟨rfl, ?_⟩
    walk_at "go"
    refine s_slT4 hC f (fun p4 H hC => ?_)
    walk_at "go"
    refine eq4 (hC.tup (by walk_at "mem")) (hC.tup (by walk_at "mem")) okE.ap okE.sc okE.ho okE.pa hap hsc hcl hpa ?_
    walk_at "all"
    · rename_i c
      exact hy _ _ (by simpa using c) hC (fun j hj => by repeat (first | exact hj | apply List.mem_cons_of_mem))
    · rename_i c
      exact hn _ _ (by simpa using c) hC (fun j hj => by repeat (first | exact hj | apply List.mem_cons_of_mem))
  · walk_at "go"
    refine s_neY (hC.get (by walk_at "mem")) (hC.get (by walk_at "mem")) ?_
    rw [isE_filter, Bool.not_not, any_snd (p := fun e => decide (e.ap = ap ∧ e.sc = sc ∧ e.ho = cl ∧ e.pa = pa)), show ((zs.map (·.2)).any fun e => decide (e.ap = ap ∧ e.sc = sc ∧ e.ho = cl ∧ e.pa = pa)) = keyB (zs.map (·.2)) ap sc cl pa from rfl]
    walk_at "go"
    exact tail1_ok (E := E) (i := i) (j := j) (l := l) (w := w) (qc := qc) (qo := qo) (qn := qn) (qp := qp) (tb := tb) (cd := cd) (wd := wd) T h hn tk hap hsc hcl hpa ⟨by unfold LW; simp only [KT, OL]; walk_at "lay3", hC.im, hC.sb⟩ k
theorem if3_ok (T : Txt K mg a) (h : WI n zs w) (hn : n ≤ 25) (tk : TK qc qo qn qp) (hap : ap ∈ APS) (hsc : sc ∈ SC) (hcl : cl ∈ CH) (hpa : pa ∈ PA) (hC : Ctx K B H (LW a so dx cd wd lc ad hL pL dd i j l zs w qc qo qn qp tb F) [.tab (lamq "law") tb, imZ K zs])
    (k : ∀ σ H, WT K a B s hL pL dd so dx F (n + 1) σ H → N σ H) :
    t_law_if3 K a E ⟨N, Rt, Bk, Ct⟩ [some (.ref s), some (.ref hL), some (.ref pL), some (.ref dd), some (.ref so), some (.ref lc), some (.ref ad), v7, v8, some (.str ap), some (.str sc), v11, some (.str pa), some (.str cl), v14, v15, v16, v17, v18, v19, v20, v21, v22, v23, v24, v25] H := by
  unfold t_law_if3
  unfold LW at hC
  simp only [KT, OL] at hC
  walk_at "go"
  exact tail2_ok (E := E) (i := di) (j := dj) (l := dl) (w := w) (qc := qc) (qo := qo) (qn := qn) (qp := qp) (tb := tb) (cd := cd) (wd := wd) T h hn tk hap hsc hcl hpa ⟨by unfold LW; simp only [KT, OL]; walk_at "lay3", hC.im, hC.sb⟩ k
end
section
variable {K : PySem.W.Frag} {mg : Str → Option Value} {a : Adr} {vs : List V} {B H : Hp} {Q : VK} {E : XK} {L F : List (Addr × HO)} {I : List Im} {N Bk Ct : L2.St → Hp → Prop} {Rt : VK}
variable {cs : List CL} {w : Alw} {so dx cd wd rp lc ad hL pL dd s tp : Addr} {sc ho pa ap cl : Str} {zs : List (Addr × CL)} {i j l sort n7 : Int} {qc qo qn qp tb : Array Value} {n : Nat} {pr : Bool}
variable {v7 v8 v9 v10 v11 v12 v13 v14 v15 v16 v17 v18 v19 v20 v21 v22 v23 v24 v25 : Option V}
theorem ho_ch : ∀ k, k ∈ HOS → k ∈ CH := by decide +kernel
theorem put_key {k : Str × Str} {v : V} (h : (w.map (·.1)).Nodup) : ((putR w k v).map (·.1)).Nodup := by
  unfold putR
  split
  · rw [List.map_map]
    rw [show ((fun x : (Str × Str) × V => x.1) ∘ fun p => if p.1 = k then (p.1, v) else p) = fun x => x.1 from by
      funext p
      show (if p.1 = k then (p.1, v) else p).1 = p.1
      split <;> rfl]
    exact h
  · rename_i c
    rw [List.map_append, List.map_cons, List.map_nil]
    refine List.nodup_append.mpr ⟨h, List.pairwise_singleton _ _, fun x hx y hy e => ?_⟩
    rcases List.mem_cons.mp hy with rfl | hy
    · obtain ⟨p, hp, e2⟩ := List.mem_map.mp hx
      exact c (List.any_eq_true.mpr ⟨p, hp, by simp [e2, e]⟩)
    · cases hy
theorem put_al {k : Str × Str} {x : Str} (hx : x ∈ APS) (h : ∀ p, p ∈ w → ∃ x, x ∈ APS ∧ p.2 = .str x) : ∀ p, p ∈ putR w k (.str x) → ∃ x, x ∈ APS ∧ p.2 = .str x := by
  intro p hp
  unfold putR at hp
  split at hp
  · obtain ⟨q, hq, rfl⟩ := List.mem_map.mp hp
    by_cases c : q.1 = k
    · exact ⟨x, hx, by rw [if_pos c]⟩
    · obtain ⟨y, hy, e⟩ := h q hq
      exact ⟨y, hy, by rw [if_neg c]; exact e⟩
  · rcases List.mem_append.mp hp with hp | hp
    · exact h p hp
    · rcases List.mem_cons.mp hp with rfl | hp
      · exact ⟨x, hx, rfl⟩
      · cases hp
theorem WI.put (h : WI n zs w) {k : Str × Str} (hx : ap ∈ APS) : WI (n + 1) zs (putR w k (.str ap)) := ⟨Nat.le_succ_of_le h.cl, Nat.le_trans putR_len (Nat.succ_le_succ h.wl), h.ok, put_key h.nd, put_al hx h.al⟩
theorem tail5_ok (T : Txt K mg a) (h : WI n zs w) (hn : n ≤ 25) (tk : TK qc qo qn qp) (hap : ap ∈ APS) (hsc : sc ∈ SC) (hho : ho ∈ HOS) (hpa : pa ∈ PA) (hC : Ctx K B H (LW a so dx cd wd lc ad hL pL dd i j l zs w qc qo qn qp tb F) [.tab (lamq "law") tb, imZ K zs])
    (k : ∀ σ H, WT K a B s hL pL dd so dx F (n + 1) σ H → N σ H) :
    t_law_tail5 K a E ⟨N, Rt, Bk, Ct⟩ [some (.ref s), some (.ref hL), some (.ref pL), some (.ref dd), some (.ref so), some (.ref lc), some (.ref ad), v7, v8, some (.str ap), some (.str sc), some (.str ho), some (.str pa), v13, v14, v15, v16, some (.bl (fitsB (zs.map (·.2)) ap sc ho)), v18, v19, v20, v21, v22, v23, v24, v25] H := by
  have ok := h.cls (by omega)
  have hcl2 := ok.len
  have hwl : w.length ≤ 100 := Nat.le_trans h.wl (by omega)
  have l1 := sc_len sc hsc
  have l2 := ch_len ho (ho_ch ho hho)
  have l3 := pa_len pa hpa
  unfold t_law_tail5
  unfold LW at hC
  simp only [KT, OL] at hC
  walk_at "go"
  cases hk : fitsB (zs.map (·.2)) ap sc ho
  · refine c_wantF (cs := zs.map (·.2)) (w := w) (qc := qc) (qo := qo) (qn := qn) (qp := qp) (so := so) (dx := dx) (cd := cd) (wd := wd) hC (by simp only [KT, OL]; walk_at "perm3") hsc hho hpa ok (by omega) tk hk (fun qc qo qn qp H tk hC => ?_)
    simp only [KT, OL] at hC
    walk_at "go"
    rw [show (true != !false) = false from rfl]
    walk_at "go"
    unfold t_law_tail4
    walk_at "go"
    refine s_litT (d := ad) (l := w) hC (hC.get (by walk_at "mem")) (fun lp rs H hrs hC => ?_)
    have hrl : (rs.map fun t => V.ref t.1).length ≤ 100 := by
      have e := congrArg List.length hrs
      rw [List.length_map] at e ⊢
      omega
    walk_at "go"
    rw [List.append_nil] at hC
    refine s_dictPW (rs := rs) hC (hC.get (by walk_at "mem")) (hC.pr (P := fun H => TsOk K H rs) (by walk_at "mem")) (fun nad H hC => ?_)
    rw [hrs, storeP_nd h.nd] at hC
    walk_at "go"
    refine k _ _ ⟨lc, nad, cd, wd, i, j, l, zs, w, qc, qo, qn, qp, tb, _, _, _, _, _, _, _, _, _, _, _, _, _, _, _, _, _, _, _, rfl, h.step, tk, ?_, fun m hm => ?_, hC.sb⟩
    · unfold LW
      simp only [KT, OL] at hC ⊢
      walk_at "lay3"
    · rcases List.mem_cons.mp hm with rfl | hm
      · exact hC.im _ (by walk_at "mem")
      · rcases List.mem_cons.mp hm with rfl | hm
        · exact hC.im _ (by walk_at "mem")
        · cases hm
  · refine c_wantT (cs := zs.map (·.2)) (w := w) (qc := qc) (qo := qo) (qn := qn) (qp := qp) (so := so) (dx := dx) (cd := cd) (wd := wd) hC (by simp only [KT, OL]; walk_at "perm3") hsc hho hpa ok (by omega) tk hk (fun qc qo qn qp H tk hC => ?_)
    simp only [KT, OL] at hC
    walk_at "go"
    rw [show (false != !true) = false from rfl]
    walk_at "go"
    unfold t_law_tail4
    walk_at "go"
    refine s_litT (d := ad) (l := w) hC (hC.get (by walk_at "mem")) (fun lp rs H hrs hC => ?_)
    have hrl : (rs.map fun t => V.ref t.1).length ≤ 100 := by
      have e := congrArg List.length hrs
      rw [List.length_map] at e ⊢
      omega
    walk_at "go"
    rename_i t1 _ _ _ _ _ _
    have ht := hC.pr (P := fun H => TsOk K H rs) (by walk_at "mem")
    have hk1 := hC.pr (P := fun H => H t1 = some (.tup [.str sc, .str ho])) (by walk_at "mem")
    have hk2 := hC.tup (a := tp) (xs := [.ref t1, .str ap]) (by walk_at "mem")
    refine s_dictPW (rs := rs ++ [(tp, t1, (sc, ho), .str ap)]) hC (by simp only [List.map_append, List.map_cons, List.map_nil]; exact hC.get (by walk_at "mem")) (fun x hx => ?_) (fun nad H hC => ?_)
    · rcases List.mem_append.mp hx with hx | hx
      · exact ht x hx
      · rcases List.mem_cons.mp hx with rfl | hx
        · exact ⟨hk2, hk1⟩
        · cases hx
    rw [List.map_append, hrs, List.map_cons, List.map_nil, storeP_snoc, storeP_nd h.nd] at hC
    walk_at "go"
    refine k _ _ ⟨lc, nad, cd, wd, i, j, l, zs, putR w (sc, ho) (.str ap), qc, qo, qn, qp, tb, _, _, _, _, _, _, _, _, _, _, _, _, _, _, _, _, _, _, _, rfl, h.put hap, tk, ?_, fun m hm => ?_, hC.sb⟩
    · unfold LW
      simp only [KT, OL] at hC ⊢
      walk_at "lay3"
    · rcases List.mem_cons.mp hm with rfl | hm
      · exact hC.im _ (by walk_at "mem")
      · rcases List.mem_cons.mp hm with rfl | hm
        · exact hC.im _ (by walk_at "mem")
        · cases hm
theorem if6_ok (T : Txt K mg a) (h : WI n zs w) (hn : n ≤ 25) (tk : TK qc qo qn qp) (hap : ap ∈ APS) (hsc : sc ∈ SC) (hho : ho ∈ HOS) (hpa : pa ∈ PA) (hC : Ctx K B H (LW a so dx cd wd lc ad hL pL dd i j l zs w qc qo qn qp tb F) [.tab (lamq "law") tb, imZ K zs])
    (k : ∀ σ H, WT K a B s hL pL dd so dx F (n + 1) σ H → N σ H) :
    t_law_if6 K a E ⟨N, Rt, Bk, Ct⟩ [some (.ref s), some (.ref hL), some (.ref pL), some (.ref dd), some (.ref so), some (.ref lc), some (.ref ad), v7, v8, some (.str ap), some (.str sc), some (.str ho), some (.str pa), v13, v14, v15, v16, v17, v18, v19, v20, v21, v22, v23, v24, v25] H := by
  have hzl : zs.length ≤ 100 := Nat.le_trans h.cl (by omega)
  unfold t_law_if6
  unfold LW at hC
  simp only [KT, OL] at hC
  walk_at "go"
  refine lc_pick (es := zs) (kf := fun z => V.ref z.1) (walk_lstE (es := zs) (kf := fun z => V.ref z.1) rfl) (fun z => fitE ap sc ho z.2) (fun z => V.ref z.1) (by omega) (fun H1 x hC => SqL.of (hC.get (by walk_at "mem"))) hC (fun i z H1 D vr Zy Zn he hC hy hn => ?_) (fun H1 D hC => ?_)
  · have hm := List.mem_of_getElem? he
    have okE := h.ok z hm
    have f := hC.pr (P := fun H => ZOk K H zs) (by walk_at "mem") z hm
    replace hC := hC.add (i := .tup z.1 [.str z.2.ap, .str z.2.sc, .str z.2.ho, .str z.2.pa, .bl z.2.pr]) f
    simp only [wipe, List.set_cons_zero, List.set_cons_succ]
    walk_at "go"
    refine ⟨rfl, ?_⟩
    by_cases e1 : z.2.ap = ap
    · by_cases e2 : z.2.sc = sc
      · walk_at "all"
        refine c_fit hC okE.ho hho (fun H hC => ?_)
        refine s_notCov ?_
        cases hcov : (covI z.2.ho ho).isSome
        · walk_at "go"
          exact hn _ _ (by simp [fitE, hcov]) hC (fun j hj => List.mem_cons_of_mem _ hj)
        · walk_at "go"
          exact hy _ _ (by simp [fitE, hcov, e1, e2]) hC (fun j hj => List.mem_cons_of_mem _ hj)
      · walk_at "all"
        exact hn _ _ (by simp [fitE, e2]) hC (fun j hj => List.mem_cons_of_mem _ hj)
    · walk_at "all"
      exact hn _ _ (by simp [fitE, e1]) hC (fun j hj => List.mem_cons_of_mem _ hj)
  · walk_at "go"
    refine s_neY (hC.get (by walk_at "mem")) (hC.get (by walk_at "mem")) ?_
    rw [isE_filter, Bool.not_not, any_snd (p := fitE ap sc ho), show (zs.map (·.2)).any (fitE ap sc ho) = fitsB (zs.map (·.2)) ap sc ho from rfl]
    walk_at "go"
    exact tail5_ok (E := E) (i := i) (j := j) (l := l) (w := w) (qc := qc) (qo := qo) (qn := qn) (qp := qp) (tb := tb) (cd := cd) (wd := wd) T h hn tk hap hsc hho hpa ⟨by unfold LW; simp only [KT, OL]; walk_at "lay3", hC.im, hC.sb⟩ k
end
section
variable {K : PySem.W.Frag} {mg : Str → Option Value} {a : Adr} {vs : List V} {B H : Hp} {Q : VK} {E : XK} {L F : List (Addr × HO)} {I : List Im} {N Bk Ct : L2.St → Hp → Prop} {Rt : VK}
variable {cs : List CL} {w : Alw} {so dx cd wd rp lc ad hL pL dd s tp : Addr} {sc ho pa ap cl : Str} {zs : List (Addr × CL)} {i j l sort n7 : Int} {qc qo qn qp tb : Array Value} {n : Nat} {pr : Bool}
variable {v7 v8 v9 v10 v11 v12 v13 v14 v15 v16 v17 v18 v19 v20 v21 v22 v23 v24 v25 : Option V}
theorem filt_snd {p : CL → Bool} : (zs.filter fun z => p z.2).map (·.2) = (zs.map (·.2)).filter p := by
  rw [List.filter_map]
  rfl
theorem WI.filt (h : WI n zs w) (p : Addr × CL → Bool) (q : (Str × Str) × V → Bool) : WI (n + 1) (zs.filter p) (w.filter q) :=
  ⟨Nat.le_trans (List.length_filter_le _ _) (Nat.le_succ_of_le h.cl), Nat.le_trans (List.length_filter_le _ _) (Nat.le_succ_of_le h.wl), fun z hz => h.ok z (List.mem_filter.mp hz).1, h.nd.sublist (List.filter_sublist.map _), fun p hp => h.al p (List.mem_filter.mp hp).1⟩
theorem else8_ok (T : Txt K mg a) (h : WI n zs w) (hn : n ≤ 25) (tk : TK qc qo qn qp) (hap : ap ∈ APS) (hC : Ctx K B H (LW a so dx cd wd lc ad hL pL dd i j l zs w qc qo qn qp tb F) [.tab (lamq "law") tb, imZ K zs])
    (k : ∀ σ H, WT K a B s hL pL dd so dx F (n + 1) σ H → N σ H) :
    t_law_else8 K a E ⟨N, Rt, Bk, Ct⟩ [some (.ref s), some (.ref hL), some (.ref pL), some (.ref dd), some (.ref so), some (.ref lc), some (.ref ad), v7, v8, some (.str ap), v10, v11, v12, v13, v14, v15, v16, v17, v18, v19, v20, v21, v22, v23, v24, v25] H := by
  have hzl : zs.length ≤ 100 := Nat.le_trans h.cl (by omega)
  have hwl : w.length ≤ 100 := Nat.le_trans h.wl (by omega)
  unfold t_law_else8
  unfold LW at hC
  simp only [KT, OL] at hC
  walk_at "go"
  refine c_forget (cs := zs.map (·.2)) (w := w) (so := so) (dx := dx) (cd := cd) (wd := wd) hC (by simp only [OL]; walk_at "perm3") (h.cls (by omega)) (h.alw (by omega)) (fun cd wd H hC => ?_)
  rw [← filt_snd (p := fun e => decide (e.ap ≠ ap))] at hC
  simp only [OL] at hC
  walk_at "go"
  unfold t_law_tail7
  walk_at "go"
  refine lc_pick (es := zs) (kf := fun z => V.ref z.1) (walk_lstE (es := zs) (kf := fun z => V.ref z.1) rfl) (fun z => decide (z.2.ap ≠ ap)) (fun z => V.ref z.1) (by omega) (fun H1 x hC => SqL.of (hC.get (by walk_at "mem"))) hC (fun i z H1 D vr Zy Zn he hC hy hn => ?_) (fun H1 D hC => ?_)
  · have hm := List.mem_of_getElem? he
    have f := hC.pr (P := fun H => ZOk K H zs) (by walk_at "mem") z hm
    replace hC := hC.add (i := .tup z.1 [.str z.2.ap, .str z.2.sc, .str z.2.ho, .str z.2.pa, .bl z.2.pr]) f
    simp only [wipe, List.set_cons_zero, List.set_cons_succ]
    walk_at "go"
    refine ⟨rfl, ?_⟩
    walk_at "all"
    · rename_i c
      exact hy _ _ (by simpa using c) hC (fun j hj => List.mem_cons_of_mem _ hj)
    · rename_i c
      exact hn _ _ (by simpa using c) hC (fun j hj => List.mem_cons_of_mem _ hj)
  · walk_at "go"
    refine pairsT (d := ad) (l := w) (fun x => !decide (look w x = some (.str ap))) (fun H Q q => by (walk_at "go"); exact q) hC (by walk_at "pick") (by omega) (fun x v b H1 D acc od Zy Zn hm hb hC hy hn => ?_) (fun H' D2 ts hts hC => ?_)
    · have hlk : look w x = some v := look_of_mem h.nd hm
      obtain ⟨z, hz, rfl⟩ := h.al _ hm
      simp only [wipe, List.set_cons_zero, List.set_cons_succ]
      walk_at "go"
      refine ⟨rfl, ?_⟩
      walk_at "go"
      refine s_ixPF (x := x.1) (y := x.2) (hC.frz (by walk_at "mem")) hb hlk ?_
      walk_at "go"
      by_cases c : z = ap
      · refine s_iteNDF c ?_
        exact hn _ _ (by rw [hlk, c]; simp) hC (fun j hj => hj)
      · refine s_iteNDT c ?_
        have hb2 := hC.add (i := .pr (fun H => H b = some (.tup [.str x.1, .str x.2])) (fun _ _ s h => s _ _ h rfl)) hb
        clear hC
        have hC := hb2
        walk_at "go"
        refine s_ixPF (x := x.1) (y := x.2) (hC.frz (by walk_at "mem")) hb hlk ?_
        walk_at "go"
        exact hy _ _ _ (by rw [hlk]; simpa using c) hC (fun j hj => by repeat (first | exact hj | apply List.mem_cons_of_mem)) (hC.tup (by walk_at "mem"))
    · have hf : (w.filter fun q => !decide (look w q.1 = some (.str ap))) = w.filter fun p => decide (p.2 ≠ .str ap) := by
        refine List.filter_congr fun q hq => ?_
        rw [look_of_mem h.nd (show (q.1, q.2) ∈ w from hq)]
        simp
      rw [hf] at hts
      walk_at "go"
      refine s_dictP2 (ts := ts) hC (hC.get (by walk_at "mem")) (hC.pr (P := fun H => TsOk K H ts) (by walk_at "mem")) (by
        have e : (ts.map fun t => t.2.2.1) = (ts.map fun t => t.2.2).map (·.1) := by rw [List.map_map]; rfl
        rw [e, hts]
        exact h.nd.sublist (List.filter_sublist.map _)) (fun nad H hC => ?_)
      rw [hts] at hC
      have hz := hC.pr (P := fun H => ZOk K H zs) (by walk_at "mem")
      walk_at "go"
      have hz := hC.pr (P := fun H => ZOk K H zs) (by walk_at "mem")
      refine k _ _ ⟨D, nad, cd, wd, i, j, l, zs.filter (fun z => decide (z.2.ap ≠ ap)), w.filter (fun p => decide (p.2 ≠ .str ap)), qc, qo, qn, qp, tb, _, _, _, _, _, _, _, _, _, _, _, _, _, _, _, _, _, _, _, rfl, h.filt _ _, tk, ?_, fun m hm => ?_, hC.sb⟩
      · unfold LW
        simp only [KT, OL]
        walk_at "lay3"
      · rcases List.mem_cons.mp hm with rfl | hm
        · exact hC.im _ (by walk_at "mem")
        · rcases List.mem_cons.mp hm with rfl | hm
          · exact fun z hx => hz z (List.mem_filter.mp hx).1
          · cases hm
theorem tail10_ok (T : Txt K mg a) (h : WI n zs w) (hn : n ≤ 25) (tk : TK qc qo qn qp) (hap : ap ∈ APS) (hsc : sc ∈ SC) (hho : ho ∈ HOS) (hcl : cl ∈ CH) (hpa : pa ∈ PA) (hC : Ctx K B H (LW a so dx cd wd lc ad hL pL dd i j l zs w qc qo qn qp tb F) [.tab (lamq "law") tb, imZ K zs])
    (k : ∀ σ H, WT K a B s hL pL dd so dx F (n + 1) σ H → N σ H) :
    t_law_tail10 K a E ⟨N, Rt, Bk, Ct⟩ [some (.ref s), some (.ref hL), some (.ref pL), some (.ref dd), some (.ref so), some (.ref lc), some (.ref ad), v7, some (.int sort), some (.str ap), some (.str sc), some (.str ho), some (.str pa), some (.str cl), v14, v15, v16, v17, v18, v19, v20, v21, v22, v23, v24, v25] H := by
  have kk : ∀ σ H, WT K a B s hL pL dd so dx F (n + 1) σ H → t_law_tail9 K a E ⟨N, Rt, Bk, Ct⟩ σ H := by
    rintro σ H ⟨lc, ad, cd, wd, i, j, l, zs, w, qc, qo, qn, qp, tb, _, _, _, _, _, _, _, _, _, _, _, _, _, _, _, _, _, _, _, rfl, h, tk, hC⟩
    exact tail9_ok T h hn tk hC k
  unfold t_law_tail10
  by_cases c1 : sort < 5
  · walk_at "go"
    exact if3_ok T h hn tk hap hsc hcl hpa hC kk
  · by_cases c2 : sort < 7
    · walk_at "go"
      exact if6_ok T h hn tk hap hsc hho hpa hC kk
    · walk_at "go"
      exact else8_ok T h hn tk hap hC kk
theorem s_ixV {l : Addr} {xs : List V} {i : Int} (m : H l = some (.lst xs)) (h0 : 0 ≤ i) (h1 : i < xs.length) (q : ∀ v, v ∈ xs → Q v H) : rIxU K (.ref l) (.int i) H Q := by
  obtain ⟨v, e, hm⟩ := atI_at h0 h1
  exact s_ixL m e (q v hm)
theorem star_ch : ∀ k, k ∈ HOS → "*." ++ k ∈ CH := by decide +kernel
theorem for13_ok (T : Txt K mg a) (h : WI n zs w) (hn : n ≤ 25) (tk : TK qc qo qn qp) (hC : Ctx K B H (LW a so dx cd wd lc ad hL pL dd i j l zs w qc qo qn qp tb F) [.tab (lamq "law") tb, imZ K zs])
    (k : ∀ σ H, WT K a B s hL pL dd so dx F (n + 1) σ H → N σ H) :
    t_law_for13 K a E ⟨N, Rt, Bk, Ct⟩ [some (.ref s), some (.ref hL), some (.ref pL), some (.ref dd), some (.ref so), some (.ref lc), some (.ref ad), v7, v8, v9, v10, v11, v12, v13, v14, v15, v16, v17, v18, v19, v20, v21, v22, v23, v24, v25] H := by
  unfold t_law_for13
  unfold LW at hC
  simp only [KT, OL] at hC
  walk_at "go"
  refine s_ixV (hC.get (by walk_at "mem")) hr0 (by simp only [List.length_cons, List.length_nil]; omega) (fun v hv => ?_)
  obtain ⟨ap, rfl, hap⟩ : ∃ ap, v = .str ap ∧ ap ∈ APS := by
    simp only [List.mem_cons, List.not_mem_nil, or_false] at hv
    rcases hv with rfl | rfl | rfl | rfl
    all_goals exact ⟨_, rfl, by decide +kernel⟩
  clear hv
  walk_at "go"
  unfold t_law_tail12
  walk_at "go"
  refine s_ixV (hC.get (by walk_at "mem")) hr0 (by simp only [List.length_cons, List.length_nil]; omega) (fun v hv => ?_)
  obtain ⟨sc, rfl, hsc⟩ : ∃ sc, v = .str sc ∧ sc ∈ SC := by
    simp only [List.mem_cons, List.not_mem_nil, or_false] at hv
    rcases hv with rfl | rfl | rfl
    all_goals exact ⟨_, rfl, by decide +kernel⟩
  clear hv
  walk_at "go"
  refine s_ixV (hC.get (by walk_at "mem")) hr0 (by rw [List.length_map]; show _ < ((4 : Nat) : Int); omega) (fun v hv => ?_)
  obtain ⟨ho, hho, rfl⟩ := List.mem_map.mp hv
  clear hv
  walk_at "go"
  refine s_ixV (hC.get (by walk_at "mem")) hr0 (by rw [List.length_map]; show _ < ((5 : Nat) : Int); omega) (fun v hv => ?_)
  obtain ⟨pa, hpa, rfl⟩ := List.mem_map.mp hv
  clear hv
  have l2 := ch_len ho (ho_ch ho hho)
  walk_at "go"
  unfold t_law_tail11
  walk_at "go"
  refine s_ixV (hC.get (by walk_at "mem")) hr0 (by simp only [List.length_cons, List.length_nil]; omega) (fun v hv => ?_)
  obtain ⟨cl, rfl, hcl⟩ : ∃ cl, v = .str cl ∧ cl ∈ CH := by
    simp only [List.mem_cons, List.not_mem_nil, or_false] at hv
    rcases hv with rfl | rfl | rfl | rfl
    · exact ⟨_, rfl, ho_ch ho hho⟩
    · exact ⟨_, rfl, by decide +kernel⟩
    · exact ⟨_, rfl, star_ch ho hho⟩
    · exact ⟨_, rfl, ho_ch ho hho⟩
  clear hv
  walk_at "go"
  exact tail10_ok (E := E) (i := di) (j := dj) (l := dl) (w := w) (qc := qc) (qo := qo) (qn := qn) (qp := qp) (tb := tb) (cd := cd) (wd := wd) T h hn tk hap hsc hho hcl hpa ⟨by unfold LW; simp only [KT, OL]; walk_at "lay3", fun m hm => (by
    rcases List.mem_cons.mp hm with rfl | hm
    · exact hC.im _ (by walk_at "mem")
    · rcases List.mem_cons.mp hm with rfl | hm
      · exact hC.im _ (by walk_at "mem")
      · cases hm), hC.sb⟩ k
end
section
variable {K : PySem.W.Frag} {mg : Str → Option Value} {a : Adr} {vs : List V} {B H : Hp} {Q : VK} {E : XK} {L F : List (Addr × HO)} {I : List Im} {N Bk Ct : L2.St → Hp → Prop} {Rt : VK}
variable {cs : List CL} {w : Alw} {so dx cd wd rp lc ad hL pL dd s tp bp : Addr} {sc ho pa ap cl : Str} {zs : List (Addr × CL)} {i j l sort n7 : Int} {qc qo qn qp tb : Array Value} {n : Nat} {pr : Bool} {due : V}
variable {v7 v8 v9 v10 v11 v12 v13 v14 v15 v16 v17 v18 v19 v20 v21 v22 v23 v24 v25 : Option V}
/-- between two questions: scheme and host stand -/
def CT (K : PySem.W.Frag) (a : Adr) (B : Hp) (s hL pL dd so dx : Addr) (F : List (Addr × HO)) (n : Nat) (v10 v11 : Option V) (σ : L2.St) (H : Hp) : Prop :=
  ∃ (lc ad cd wd : Addr) (i j l : Int) (zs : List (Addr × CL)) (w : Alw) (qc qo qn qp tb : Array Value) (v7 v8 v9 v12 v13 v14 v15 v16 v17 v18 v19 v20 v21 v22 v23 v24 v25 : Option V),
    σ = [some (.ref s), some (.ref hL), some (.ref pL), some (.ref dd), some (.ref so), some (.ref lc), some (.ref ad), v7, v8, v9, v10, v11, v12, v13, v14, v15, v16, v17, v18, v19, v20, v21, v22, v23, v24, v25] ∧ WI n zs w ∧ TK qc qo qn qp ∧
    Ctx K B H (LW a so dx cd wd lc ad hL pL dd i j l zs w qc qo qn qp tb F) [.tab (lamq "law") tb, imZ K zs]
theorem zok_rows : ∀ {zs : List (Addr × CL)}, ZOk K H zs → RowsAre K H (zs.map (·.1)) (zs.map (·.2))
  | [], _ => .nil
  | z :: zs, h => .cons (h z List.mem_cons_self) (zok_rows fun x hx => h x (List.mem_cons_of_mem _ hx))
theorem refs_map : (zs.map fun z => V.ref z.1) = (zs.map (·.1)).map V.ref := by rw [List.map_map]; rfl
theorem names_sh (ok : ClsOk cs) : ∀ x, x ∈ namesL cs sc ho pa → PyData.strOk x = true := fun x hx => aps_so x (names_mem ok hx)
theorem opensD_sh (ok : ClsOk cs) (aok : AlwOk w) : Sh 50 (opensD cs w sc ho pa) := by
  unfold opensD
  split
  · refine Sh.mono (ShL.tuple (n := 0) (ShL.cons (Sh.str (by decide +kernel)) (ShL.cons ?_ ShL.nil))) (by decide)
    rcases want_or (sc := sc) (ho := ho) aok with e | ⟨x, hx, e⟩
    · rw [e]
      exact Sh.non
    · rw [e]
      exact Sh.str (aps_so x hx)
  · have hm := names_sh (sc := sc) (ho := ho) (pa := pa) ok
    cases hn : namesL cs sc ho pa with
    | nil => exact Sh.mono (ShL.tuple (n := 0) (ShL.cons (Sh.str (by decide +kernel)) ShL.nil)) (by decide)
    | cons x r =>
      rw [hn] at hm
      cases r with
      | nil => exact Sh.mono (ShL.tuple (n := 0) (ShL.cons (Sh.str (by decide +kernel)) (ShL.cons (Sh.str (hm x List.mem_cons_self)) ShL.nil))) (by decide)
      | cons y r => exact Sh.mono (ShL.tuple (n := 1) (ShL.cons (Sh.str (by decide +kernel)) (ShL.cons (ShL.tuple (n := 0) (fun d hd => by
          obtain ⟨z, hz, rfl⟩ := List.mem_map.mp hd
          exact Sh.str (hm z hz))) ShL.nil))) (by decide)
theorem adr_sh (h1 : sc ∈ SC) (h2 : ho ∈ HOS) (h3 : pa ∈ PA) : Sh 50 (.tuple [.str sc, .str ho, .str pa]) := Sh.mono (ShL.tuple (n := 0) (ShL.cons (Sh.str (sc_so _ h1)) (ShL.cons (Sh.str (ch_so _ (ho_ch _ h2))) (ShL.cons (Sh.str (pa_so _ h3)) ShL.nil)))) (by decide)
theorem tail14_ok (T : Txt K mg a) (h : WI n zs w) (hn : n ≤ 25) (tk : TK qc qo qn qp) (hsc : sc ∈ SC) (hho : ho ∈ HOS) (hpa : pa ∈ PA) (hC : Ctx K B H ((bp, .lst ((namesL (zs.map (·.2)) sc ho pa).map V.str)) :: LW a so dx cd wd lc ad hL pL dd i j l zs w qc qo qn qp tb F) [.dat due (opensD (zs.map (·.2)) w sc ho pa), .tab (lamq "law") tb, imZ K zs])
    (k : ∀ σ H, CT K a B s hL pL dd so dx F n (some (.str sc)) (some (.str ho)) σ H → N σ H) :
    t_law_tail14 K a E ⟨N, Rt, Bk, Ct⟩ [some (.ref s), some (.ref hL), some (.ref pL), some (.ref dd), some (.ref so), some (.ref lc), some (.ref ad), v7, v8, v9, some (.str sc), some (.str ho), some (.str pa), v13, v14, v15, v16, v17, v18, v19, some (.ref bp), v21, some due, v23, v24, v25] H := by
  have ok := h.cls (by omega)
  have aok := h.alw (by omega)
  have l1 := sc_len sc hsc
  have l2 := ch_len ho (ho_ch ho hho)
  have l3 := pa_len pa hpa
  unfold t_law_tail14
  unfold LW at hC
  simp only [KT, OL] at hC
  walk_at "go"
  refine c_opens (cs := zs.map (·.2)) (w := w) (qc := qc) (qo := qo) (qn := qn) (qp := qp) (so := so) (dx := dx) (cd := cd) (wd := wd) hC (by simp only [KT, OL]; walk_at "perm3") hsc hho hpa ok aok tk (fun v qc qo qn qp H tk hC td => ?_)
  simp only [KT, OL] at hC
  walk_at "go"
  refine s_neSame td (hC.dat (by walk_at "mem")) (opensD_sh ok aok) ?_
  walk_at "go"
  refine c_fitting (cs := zs.map (·.2)) (w := w) (qc := qc) (qo := qo) (qn := qn) (qp := qp) (so := so) (dx := dx) (cd := cd) (wd := wd) hC (by simp only [KT, OL]; walk_at "perm3") hsc hho hpa ok tk (fun t qc qo qn qp H tk hC => ?_)
  simp only [KT, OL] at hC
  walk_at "go"
  refine s_neSameS (hC.get (by walk_at "mem")) (hC.get (by walk_at "mem")) (names_sh ok) ?_
  walk_at "go"
  refine c_adr hC (by walk_at "perm3") tk.p hsc hho hpa (fun t qp' H tpp hC => ?_)
  walk_at "go"
  refine s_neSame (TD.tup (hC.tup (a := t) (xs := [.str sc, .str ho, .str pa]) (by walk_at "mem")) (.cons (.str _) (.cons (.str _) (.cons (.str _) .nil)))) (TD.tup (hC.tup (a := tp) (xs := [.str sc, .str ho, .str pa]) (by walk_at "mem")) (.cons (.str _) (.cons (.str _) (.cons (.str _) .nil)))) (adr_sh hsc hho hpa) ?_
  walk_at "go"
  refine k _ _ ⟨lc, ad, cd, wd, i, j, l, zs, w, qc, qo, qn, qp', tb, _, _, _, _, _, _, _, _, _, _, _, _, _, _, _, _, _, rfl, h, ⟨tk.c, tk.o, tk.n, tpp⟩, ?_, fun m hm => ?_, hC.sb⟩
  · unfold LW
    simp only [KT, OL]
    walk_at "lay3"
  · rcases List.mem_cons.mp hm with rfl | hm
    · exact hC.im _ (by walk_at "mem")
    · rcases List.mem_cons.mp hm with rfl | hm
      · exact hC.im _ (by walk_at "mem")
      · cases hm
theorem tail15_ok (T : Txt K mg a) (h : WI n zs w) (hn : n ≤ 25) (tk : TK qc qo qn qp) (hsc : sc ∈ SC) (hho : ho ∈ HOS) (hpa : pa ∈ PA) (hC : Ctx K B H ((bp, .lst ((namesL (zs.map (·.2)) sc ho pa).map V.str)) :: LW a so dx cd wd lc ad hL pL dd i j l zs w qc qo qn qp tb F) [.tab (lamq "law") tb, imZ K zs])
    (k : ∀ σ H, CT K a B s hL pL dd so dx F n (some (.str sc)) (some (.str ho)) σ H → N σ H) :
    t_law_tail15 K a E ⟨N, Rt, Bk, Ct⟩ [some (.ref s), some (.ref hL), some (.ref pL), some (.ref dd), some (.ref so), some (.ref lc), some (.ref ad), v7, v8, v9, some (.str sc), some (.str ho), some (.str pa), v13, v14, v15, v16, some (.bl (opensB (zs.map (·.2)) w sc ho pa)), v18, v19, some (.ref bp), some (wantV w sc ho), v22, v23, v24, v25] H := by
  have ok := h.cls (by omega)
  have aok := h.alw (by omega)
  have hm := names_sh (sc := sc) (ho := ho) (pa := pa) ok
  have fin : ∀ {H : Hp} {due : V} {J : List Im} {M : List (Addr × HO)}, Ctx K B H M J → TD K H due (opensD (zs.map (·.2)) w sc ho pa) → Lay H ((bp, .lst ((namesL (zs.map (·.2)) sc ho pa).map V.str)) :: LW a so dx cd wd lc ad hL pL dd i j l zs w qc qo qn qp tb F) → Im.tab (lamq "law") tb ∈ J → imZ K zs ∈ J → 
      t_law_tail14 K a E ⟨N, Rt, Bk, Ct⟩ [some (.ref s), some (.ref hL), some (.ref pL), some (.ref dd), some (.ref so), some (.ref lc), some (.ref ad), v7, v8, v9, some (.str sc), some (.str ho), some (.str pa), v13, v14, v15, v16, some (.bl (opensB (zs.map (·.2)) w sc ho pa)), v18, v19, some (.ref bp), some (wantV w sc ho), some due, v23, v24, v25] H := by
    intro H due J M hC td y m1 m2
    refine tail14_ok T h hn tk hsc hho hpa ⟨y, fun m hm => ?_, hC.sb⟩ k
    rcases List.mem_cons.mp hm with rfl | hm
    · exact td
    · rcases List.mem_cons.mp hm with rfl | hm
      · exact hC.im _ m1
      · rcases List.mem_cons.mp hm with rfl | hm
        · exact hC.im _ m2
        · cases hm
  unfold t_law_tail15
  unfold LW at hC fin
  simp only [KT, OL] at hC fin
  walk_at "go"
  cases hb : opensB (zs.map (·.2)) w sc ho pa
  · rw [hb] at fin
    have hd : opensD (zs.map (·.2)) w sc ho pa = namesD (namesL (zs.map (·.2)) sc ho pa) := by unfold opensD; rw [hb]; rfl
    rw [hd] at fin
    walk_at "go"
    refine s_eqStr (ns := namesL (zs.map (·.2)) sc ho pa) (hC.get (by walk_at "mem")) (hC.get (by walk_at "mem")) hm ?_
    cases hn : namesL (zs.map (·.2)) sc ho pa with
    | nil =>
      rw [hn] at hC fin
      rw [show ([] : List Str).isEmpty = true from rfl]
      walk_at "go"
      exact fin hC (TD.tup (hC.tup (by walk_at "mem")) (.cons (.str _) .nil)) (by walk_at "lay3") (by walk_at "mem") (by walk_at "mem")
    | cons x r =>
      rw [hn] at hC fin
      rw [show (x :: r).isEmpty = false from rfl]
      walk_at "go"
      cases r with
      | nil =>
        refine s_iteDT rfl ?_
        walk_at "go"
        exact fin hC (TD.tup (hC.tup (by walk_at "mem")) (.cons (.str _) (.cons (.str _) .nil))) (by walk_at "lay3") (by walk_at "mem") (by walk_at "mem")
      | cons y r =>
        refine s_iteDF (by simp only [List.map_cons, List.length_cons]; omega) ?_
        walk_at "go"
        rename_i t1 _
        exact fin hC (TD.tup (hC.tup (by walk_at "mem")) (.cons (.str _) (.cons (TD.tup (hC.tup (a := t1) (xs := (x :: y :: r).map V.str) (by walk_at "mem")) (strs_tds (x :: y :: r))) .nil))) (by walk_at "lay3") (by walk_at "mem") (by walk_at "mem")
  · rw [hb] at fin
    have hd : opensD (zs.map (·.2)) w sc ho pa = .tuple [.str "app", dV (wantV w sc ho)] := by unfold opensD; rw [hb]; rfl
    rw [hd] at fin
    rcases want_or (sc := sc) (ho := ho) aok with e | ⟨x, hx, e⟩
    · unfold opensB at hb
      rw [e] at hb
      cases hb
    · rw [e] at fin ⊢
      walk_at "go"
      exact fin hC (TD.tup (hC.tup (by walk_at "mem")) (.cons (.str _) (.cons (.str _) .nil))) (by walk_at "lay3") (by walk_at "mem") (by walk_at "mem")
end
section
variable {K : PySem.W.Frag} {mg : Str → Option Value} {a : Adr} {vs : List V} {B H : Hp} {Q : VK} {E : XK} {L F : List (Addr × HO)} {I : List Im} {N Bk Ct : L2.St → Hp → Prop} {Rt : VK}
variable {cs : List CL} {w : Alw} {so dx cd wd rp lc ad hL pL dd s tp bp : Addr} {sc ho pa ap cl : Str} {zs : List (Addr × CL)} {i j l sort n7 : Int} {qc qo qn qp tb : Array Value} {n : Nat} {pr : Bool} {due : V}
variable {v7 v8 v9 v10 v11 v12 v13 v14 v15 v16 v17 v18 v19 v20 v21 v22 v23 v24 v25 : Option V}
abbrev opE (x sc ho pa : Str) (e : CL) : Bool := decide (e.ap = x ∧ e.sc = sc ∧ (covI e.ho ho).isSome = true ∧ Txt.startswith pa e.pa = true)
theorem for17_ok (T : Txt K mg a) (h : WI n zs w) (hn : n ≤ 25) (tk : TK qc qo qn qp) (hsc : sc ∈ SC) (hho : ho ∈ HOS) (hpa : pa ∈ PA) (hC : Ctx K B H (LW a so dx cd wd lc ad hL pL dd i j l zs w qc qo qn qp tb F) [.tab (lamq "law") tb, imZ K zs])
    (k : ∀ σ H, CT K a B s hL pL dd so dx F n (some (.str sc)) (some (.str ho)) σ H → N σ H) :
    t_law_for17 K a E ⟨N, Rt, Bk, Ct⟩ [some (.ref s), some (.ref hL), some (.ref pL), some (.ref dd), some (.ref so), some (.ref lc), some (.ref ad), v7, v8, v9, some (.str sc), some (.str ho), some (.str pa), v13, v14, v15, v16, v17, v18, v19, v20, v21, v22, v23, v24, v25] H := by
  have ok := h.cls (by omega)
  have aok := h.alw (by omega)
  have hzl : zs.length ≤ 100 := Nat.le_trans h.cl (by omega)
  have l3 := pa_len pa hpa
  unfold t_law_for17
  unfold LW at hC
  simp only [KT, OL] at hC
  have hz := hC.pr (P := fun H => ZOk K H zs) (by walk_at "mem")
  walk_at "go"
  rw [refs_map] at hC
  refine c_best (cs := zs.map (·.2)) (ts := zs.map (·.1)) hC (by walk_at "perm3") hsc hho hpa ok (zok_rows hz) (fun bp H hC => ?_)
  rw [← refs_map] at hC
  walk_at "go"
  rw [show (look w (sc, ho)).getD V.non = wantV w sc ho from rfl]
  unfold t_law_tail16
  walk_at "go"
  have sub : ∀ {H : Hp} {J : List Im} {M : List (Addr × HO)}, Ctx K B H M J → Im.tab (lamq "law") tb ∈ J → imZ K zs ∈ J → Lay H ((bp, .lst ((namesL (zs.map (·.2)) sc ho pa).map V.str)) :: LW a so dx cd wd lc ad hL pL dd i j l zs w qc qo qn qp tb F) → 
      Ctx K B H ((bp, .lst ((namesL (zs.map (·.2)) sc ho pa).map V.str)) :: LW a so dx cd wd lc ad hL pL dd i j l zs w qc qo qn qp tb F) [.tab (lamq "law") tb, imZ K zs] := by
    intro H J M hC m1 m2 y
    refine ⟨y, fun m hm => ?_, hC.sb⟩
    rcases List.mem_cons.mp hm with rfl | hm
    · exact hC.im _ m1
    · rcases List.mem_cons.mp hm with rfl | hm
      · exact hC.im _ m2
      · cases hm
  rcases want_or (sc := sc) (ho := ho) aok with e | ⟨x, hx, e⟩
  · rw [e]
    refine lc_pick (es := zs) (kf := fun z => V.ref z.1) (walk_lstE (es := zs) (kf := fun z => V.ref z.1) rfl) (fun z => false) (fun z => V.ref z.1) (by omega) (fun H1 x hC => SqL.of (hC.get (by walk_at "mem"))) hC (fun i z H1 D vr Zy Zn he hC hy hn => ?_) (fun H1 D hC => ?_)
    · have hm := List.mem_of_getElem? he
      have f := hC.pr (P := fun H => ZOk K H zs) (by walk_at "mem") z hm
      replace hC := hC.add (i := .tup z.1 [.str z.2.ap, .str z.2.sc, .str z.2.ho, .str z.2.pa, .bl z.2.pr]) f
      simp only [wipe, List.set_cons_zero, List.set_cons_succ]
      walk_at "go"
      refine ⟨rfl, ?_⟩
      walk_at "go"
      exact hn _ _ rfl hC (fun j hj => List.mem_cons_of_mem _ hj)
    · walk_at "go"
      refine s_neY (hC.get (by walk_at "mem")) (hC.get (by walk_at "mem")) ?_
      have hob : opensB (zs.map (·.2)) w sc ho pa = false := by unfold opensB; rw [e]
      rw [show (!((zs.filter fun z => false).map fun z => V.ref z.1).isEmpty) = opensB (zs.map (·.2)) w sc ho pa from by rw [hob]; simp, ← e]
      walk_at "go"
      exact tail15_ok (E := E) (i := i) (j := j) (l := l) (w := w) (qc := qc) (qo := qo) (qn := qn) (qp := qp) (tb := tb) (cd := cd) (wd := wd) T h hn tk hsc hho hpa (sub hC (by walk_at "mem") (by walk_at "mem") (by unfold LW; simp only [KT, OL]; walk_at "lay3")) k
  · rw [e]
    refine lc_pick (es := zs) (kf := fun z => V.ref z.1) (walk_lstE (es := zs) (kf := fun z => V.ref z.1) rfl) (fun z => opE x sc ho pa z.2) (fun z => V.ref z.1) (by omega) (fun H1 x hC => SqL.of (hC.get (by walk_at "mem"))) hC (fun i z H1 D vr Zy Zn he hC hy hn => ?_) (fun H1 D hC => ?_)
    · have hm := List.mem_of_getElem? he
      have okE := h.ok z hm
      have lz := pa_len _ okE.pa
      have f := hC.pr (P := fun H => ZOk K H zs) (by walk_at "mem") z hm
      replace hC := hC.add (i := .tup z.1 [.str z.2.ap, .str z.2.sc, .str z.2.ho, .str z.2.pa, .bl z.2.pr]) f
      simp only [wipe, List.set_cons_zero, List.set_cons_succ]
      walk_at "go"
      refine ⟨rfl, ?_⟩
      by_cases e1 : z.2.ap = x
      · by_cases e2 : z.2.sc = sc
        · walk_at "all"
          refine c_fit hC okE.ho hho (fun H hC => ?_)
          refine s_notCov ?_
          cases hcov : (covI z.2.ho ho).isSome
          · walk_at "go"
            exact hn _ _ (by simp [opE, hcov]) hC (fun j hj => List.mem_cons_of_mem _ hj)
          · walk_at "go"
            rw [cut_sw pa hpa z.2.pa okE.pa]
            cases hsw : Txt.startswith pa z.2.pa
            · walk_at "go"
              exact hn _ _ (by simp [opE, hsw]) hC (fun j hj => List.mem_cons_of_mem _ hj)
            · walk_at "go"
              exact hy _ _ (by simp [opE, hcov, hsw, e1, e2]) hC (fun j hj => List.mem_cons_of_mem _ hj)
        · walk_at "all"
          exact hn _ _ (by simp [opE, e2]) hC (fun j hj => List.mem_cons_of_mem _ hj)
      · walk_at "all"
        exact hn _ _ (by simp [opE, e1]) hC (fun j hj => List.mem_cons_of_mem _ hj)
    · walk_at "go"
      refine s_neY (hC.get (by walk_at "mem")) (hC.get (by walk_at "mem")) ?_
      have hob : opensB (zs.map (·.2)) w sc ho pa = (zs.map (·.2)).any (opE x sc ho pa) := by unfold opensB; rw [e]; rfl
      rw [isE_filter, Bool.not_not, any_snd (p := opE x sc ho pa), ← hob, ← e]
      walk_at "go"
      exact tail15_ok (E := E) (i := i) (j := j) (l := l) (w := w) (qc := qc) (qo := qo) (qn := qn) (qp := qp) (tb := tb) (cd := cd) (wd := wd) T h hn tk hsc hho hpa (sub hC (by walk_at "mem") (by walk_at "mem") (by unfold LW; simp only [KT, OL]; walk_at "lay3")) k
theorem cov_ne {c h : Str} (q : Q (.bl false) H) : rNeU K (covV c h) (covV c h) H Q := by
  unfold covV
  cases covI c h with
  | none => exact s_neNN q
  | some n => exact s_neIF q
end
section
variable {K : PySem.W.Frag} {mg : Str → Option Value} {a : Adr} {vs : List V} {B H : Hp} {Q : VK} {E : XK} {L F : List (Addr × HO)} {I : List Im} {N Bk Ct : L2.St → Hp → Prop} {Rt : VK}
variable {cs : List CL} {w : Alw} {so dx cd wd rp lc ad hL pL dd s tp bp : Addr} {sc ho pa ap cl : Str} {zs : List (Addr × CL)} {i j l sort n7 : Int} {qc qo qn qp tb : Array Value} {n : Nat} {pr : Bool} {due : V} {v10 v11 : Option V}
theorem ct_get {x : Addr} {o : HO} {σ : L2.St} (h : CT K a B s hL pL dd so dx F n v10 v11 σ H) (m : (x, o) ∈ (hL, HO.lst (HOS.map V.str)) :: (pL, HO.lst (PA.map V.str)) :: F) : H x = some o := by
  obtain ⟨lc, ad, cd, wd, i, j, l, zs, w, qc, qo, qn, qp, tb, _, _, _, _, _, _, _, _, _, _, _, _, _, _, _, _, _, rfl, h, tk, hC⟩ := h
  unfold LW at hC
  simp only [KT, OL] at hC
  rcases List.mem_cons.mp m with e | m
  · cases e
    exact hC.get (by walk_at "mem")
  · rcases List.mem_cons.mp m with e | m
    · cases e
      exact hC.get (by walk_at "mem")
    · refine hC.get ?_
      repeat (first | exact List.mem_append_right _ m | apply List.mem_cons_of_mem)
theorem for20_paths (T : Txt K mg a) (hn : n ≤ 25) (hsc : sc ∈ SC) (hho : ho ∈ HOS) {σ : L2.St} (h0 : CT K a B s hL pL dd so dx F n (some (.str sc)) (some (.str ho)) σ H)
    (k : ∀ σ H, CT K a B s hL pL dd so dx F n (some (.str sc)) (some (.str ho)) σ H → N σ H) :
    kFor (gName 12) (t_law_for17 K a E) ⟨N, Rt, Bk, Ct⟩ σ (Itl K pL) H := by
  refine for_lst (xs := PA.map V.str) (fun _ σ H => CT K a B s hL pL dd so dx F n (some (.str sc)) (some (.str ho)) σ H) h0 (fun i σ H _ h => ct_get h (List.mem_cons_of_mem _ List.mem_cons_self)) ?_ k
  rintro i x σ H hx ⟨lc, ad, cd, wd, i, j, l, zs, w, qc, qo, qn, qp, tb, _, _, _, _, _, _, _, _, _, _, _, _, _, _, _, _, _, rfl, h, tk, hC⟩
  obtain ⟨pa, hpa, rfl⟩ := List.mem_map.mp (List.mem_of_getElem? hx)
  walk_at "go"
  exact for17_ok T h hn tk hsc hho hpa hC (fun σ H h => h)
theorem ch_eq : HOS ++ [("*" : Str)] ++ HOS.map (fun x : Str => ("*." : Str) ++ x) = CH := by decide +kernel
theorem lst_eq {vr : List V} (h : vr = (HOS.map fun x : Str => ("*." : Str) ++ x).map V.str) : HOS.map V.str ++ [.str "*"] ++ vr = CH.map V.str := by
  rw [h, ← ch_eq, List.map_append, List.map_append]
  rfl
theorem mP_nil : mP id ([] : Alw) = [] := rfl
theorem ho_len2 : HOS.length = 4 := rfl
theorem tail19_ok (T : Txt K mg a) (hn : n ≤ 25) (hsc : sc ∈ SC) (hho : ho ∈ HOS) {σ : L2.St} (h0 : CT K a B s hL pL dd so dx F n (some (.str sc)) (some (.str ho)) σ H)
    (k : ∀ σ H, CT K a B s hL pL dd so dx F n (some (.str sc)) (some (.str ho)) σ H → N σ H) :
    t_law_tail19 K a E ⟨N, Rt, Bk, Ct⟩ σ H := by
  obtain ⟨lc, ad, cd, wd, i, j, l, zs, w, qc, qo, qn, qp, tb, _, _, _, _, _, _, _, _, _, _, _, _, _, _, _, _, _, rfl, h, tk, hC⟩ := h0
  unfold t_law_tail19
  unfold LW at hC
  simp only [KT, OL] at hC
  have hhl : (HOS.map V.str).length = 4 := rfl
  walk_at "go"
  refine lc_read (es := HOS) (kf := V.str) (walk_lstE (es := HOS) (kf := V.str) rfl) (fun _ => true) (fun x : Str => .str (("*." : Str) ++ x)) (by decide) (fun H1 x hC => SqL.of (hC.get (by walk_at "mem"))) hC (fun i x H1 D vr Zy Zn he hC hy hn => ?_) (fun H1 D vr hC => ?_)
  · have hm := List.mem_of_getElem? he
    have lx := ch_len x (ho_ch x hm)
    simp only [wipe, List.set_cons_zero, List.set_cons_succ]
    walk_at "go"
    refine ⟨rfl, ?_⟩
    walk_at "go"
    exact hy _ _ _ rfl hC (fun j hj => hj) (.str _)
  · rw [show HOS.filter (fun _ => true) = HOS from by simp] at hC
    have hd := hC.dats (vs := vr) (by walk_at "mem")
    have hv : vr = (HOS.map fun x : Str => ("*." : Str) ++ x).map V.str := tds_strs (by rw [List.map_map]; exact hd)
    have hvl : vr.length = 4 := by rw [hv]; rfl
    walk_at "go"
    rw [lst_eq hv] at hC
    rename_i lst _ _
    refine for_lst (xs := CH.map V.str) (fun _ σ H => CT K a B s hL pL dd so dx ((lp, .lst (CH.map V.str)) :: F) n (some (.str sc)) (some (.str ho)) σ H) ⟨lc, ad, cd, wd, i, j, l, zs, w, qc, qo, qn, qp, tb, _, _, _, _, _, _, _, _, _, _, _, _, _, _, _, _, _, rfl, h, tk, by unfold LW; simp only [KT, OL]; walk_at "lay3", fun m hm => hC.im m (List.mem_cons_of_mem _ hm), hC.sb⟩ (fun i σ H _ h => ct_get h (List.mem_cons_of_mem _ (List.mem_cons_of_mem _ List.mem_cons_self))) ?_ ?_
    · rintro i x σ H hx ⟨lc, ad, cd, wd, i, j, l, zs, w, qc, qo, qn, qp, tb, _, _, _, _, _, _, _, _, _, _, _, _, _, _, _, _, _, rfl, h, tk, hC⟩
      obtain ⟨c, hc, rfl⟩ := List.mem_map.mp (List.mem_of_getElem? hx)
      unfold LW at hC
      simp only [KT, OL] at hC
      walk_at "go"
      unfold t_law_for18
      walk_at "go"
      refine c_cov hC (ch_len c hc) (fun H hC => ?_)
      walk_at "go"
      refine c_fit hC hc hho (fun H hC => ?_)
      refine cov_ne ?_
      walk_at "go"
      exact ⟨lc, ad, cd, wd, i, j, l, zs, w, qc, qo, qn, qp, tb, _, _, _, _, _, _, _, _, _, _, _, _, _, _, _, _, _, rfl, h, tk, by unfold LW; simp only [KT, OL]; walk_at "lay3", hC.im, hC.sb⟩
    · rintro σ H ⟨lc, ad, cd, wd, i, j, l, zs, w, qc, qo, qn, qp, tb, _, _, _, _, _, _, _, _, _, _, _, _, _, _, _, _, _, rfl, h, tk, hC⟩
      unfold LW at hC
      simp only [KT, OL] at hC
      exact k _ _ ⟨lc, ad, cd, wd, i, j, l, zs, w, qc, qo, qn, qp, tb, _, _, _, _, _, _, _, _, _, _, _, _, _, _, _, _, _, rfl, h, tk, by unfold LW; simp only [KT, OL]; walk_at "lay3", hC.im, hC.sb⟩
theorem for21_ok (T : Txt K mg a) (hn : n ≤ 25) (hsc : sc ∈ SC) {σ : L2.St} (h0 : CT K a B s hL pL dd so dx F n (some (.str sc)) v11 σ H)
    (k : ∀ σ H v11, CT K a B s hL pL dd so dx F n (some (.str sc)) v11 σ H → N σ H) :
    t_law_for21 K a E ⟨N, Rt, Bk, Ct⟩ σ H := by
  have hg := ct_get (x := hL) h0 List.mem_cons_self
  have hg2 : ∃ xs, SqL K H hL xs := ⟨_, SqL.of hg⟩
  unfold t_law_for21
  refine s_for (s_il ?_)
  have hs : σ[1]? = some (some (.ref hL)) := by
    obtain ⟨lc, ad, cd, wd, i, j, l, zs, w, qc, qo, qn, qp, tb, _, _, _, _, _, _, _, _, _, _, _, _, _, _, _, _, _, rfl, h, tk, hC⟩ := h0
    rfl
  refine s_var hs (s_ilV hg ?_)
  refine for_lst (xs := HOS.map V.str) (fun _ σ H => ∃ v11, CT K a B s hL pL dd so dx F n (some (.str sc)) v11 σ H) ⟨_, h0⟩ (fun i σ H _ ⟨_, h⟩ => ct_get h List.mem_cons_self) ?_ (fun σ H ⟨_, h⟩ => k σ H _ h)
  rintro i x σ H hx ⟨v11, h⟩
  obtain ⟨ho, hho, rfl⟩ := List.mem_map.mp (List.mem_of_getElem? hx)
  obtain ⟨lc, ad, cd, wd, i, j, l, zs, w, qc, qo, qn, qp, tb, _, _, _, _, _, _, _, _, _, _, _, _, _, _, _, _, _, rfl, h, tk, hC⟩ := h
  unfold LW at hC
  simp only [KT, OL] at hC
  walk_at "go"
  unfold t_law_for20
  walk_at "go"
  refine for20_paths T hn hsc hho ⟨lc, ad, cd, wd, i, j, l, zs, w, qc, qo, qn, qp, tb, _, _, _, _, _, _, _, _, _, _, _, _, _, _, _, _, _, rfl, h, tk, by unfold LW; simp only [KT, OL]; walk_at "lay3", hC.im, hC.sb⟩ (fun σ H h => ?_)
  exact tail19_ok T hn hsc hho h (fun σ H h => ⟨_, h⟩)
theorem for22_ok (T : Txt K mg a) {v4 v5 v6 v7 v8 v9 v10 v11 v12 v13 v14 v15 v16 v17 v18 v19 v20 v21 v22 v23 v24 v25 : Option V} (tk : TK qc qo qn qp)
    (hC : Ctx K B H ((dd, .lst [.int i, .int j, .int l]) :: (a.tb_law, .tbl tb) :: (hL, .lst (HOS.map V.str)) :: (pL, .lst (PA.map V.str)) :: KT a qc qo qn qp F) [.tab (lamq "law") tb])
    (k : ∀ σ H, (∃ i j l qc qo qn qp tb v4 v5 v6 v7 v8 v9 v10 v11 v12 v13 v14 v15 v16 v17 v18 v19 v20 v21 v22 v23 v24 v25, σ = [some (.ref s), some (.ref hL), some (.ref pL), some (.ref dd), v4, v5, v6, v7, v8, v9, v10, v11, v12, v13, v14, v15, v16, v17, v18, v19, v20, v21, v22, v23, v24, v25] ∧ TK qc qo qn qp ∧
      Ctx K B H ((dd, .lst [.int i, .int j, .int l]) :: (a.tb_law, .tbl tb) :: (hL, .lst (HOS.map V.str)) :: (pL, .lst (PA.map V.str)) :: KT a qc qo qn qp F) [.tab (lamq "law") tb]) → N σ H) :
    t_law_for22 K a E ⟨N, Rt, Bk, Ct⟩ [some (.ref s), some (.ref hL), some (.ref pL), some (.ref dd), v4, v5, v6, v7, v8, v9, v10, v11, v12, v13, v14, v15, v16, v17, v18, v19, v20, v21, v22, v23, v24, v25] H := by
  unfold t_law_for22
  simp only [KT] at hC
  walk_at "go"
  have hr : rr.toNat ≤ 21 := by omega
  refine for_rng (fun i σ H => WT K a B s hL pL dd mx mdx F i σ H) ⟨lp, dp, cd, wd, di, dj, dl, [], [], qc, qo, qn, qp, tb, _, _, _, _, _, _, _, _, _, _, _, _, _, _, _, _, _, _, _, rfl, ⟨Nat.zero_le _, Nat.zero_le _, fun z h => (by cases h), .nil, fun z h => (by cases h)⟩, tk, ?_, fun m hm => ?_, hC.sb⟩ (fun i σ H hi h => ?_) (fun σ H h => ?_)
  · unfold LW
    simp only [KT, OL, List.map_nil, mP_nil] at hC ⊢
    walk_at "lay3"
  · rcases List.mem_cons.mp hm with rfl | hm
    · exact hC.im _ (by walk_at "mem")
    · rcases List.mem_cons.mp hm with rfl | hm
      · exact fun z hz => (by cases hz)
      · cases hm
  · obtain ⟨lc, ad, cd, wd, i, j, l, zs, w, qc, qo, qn, qp, tb, _, _, _, _, _, _, _, _, _, _, _, _, _, _, _, _, _, _, _, rfl, h, tk, hC⟩ := h
    walk_at "go"
    exact for13_ok T h (by omega) tk hC (fun σ H h => h)
  · obtain ⟨lc, ad, cd, wd, i, j, l, zs, w, qc, qo, qn, qp, tb, _, _, _, _, _, _, _, _, _, _, _, _, _, _, _, _, _, _, _, rfl, h, tk, hC⟩ := h
    unfold LW at hC
    simp only [KT, OL] at hC
    walk_at "go"
    refine for_lst (xs := [.str "web", .str "geo", .str "tel"]) (fun _ σ H => ∃ v10 v11, CT K a B s hL pL dd mx mdx ((lp, .lst [.str "web", .str "geo", .str "tel"]) :: F) rr.toNat v10 v11 σ H) ⟨_, _, lc, ad, cd, wd, i, j, l, zs, w, qc, qo, qn, qp, tb, _, _, _, _, _, _, _, _, _, _, _, _, _, _, _, _, _, rfl, h, tk, by unfold LW; simp only [KT, OL]; walk_at "lay3", hC.im, hC.sb⟩ (fun i σ H _ ⟨_, _, h⟩ => ct_get h (List.mem_cons_of_mem _ (List.mem_cons_of_mem _ List.mem_cons_self))) ?_ ?_
    · rintro i x σ H hx ⟨v10, v11, lc, ad, cd, wd, i, j, l, zs, w, qc, qo, qn, qp, tb, _, _, _, _, _, _, _, _, _, _, _, _, _, _, _, _, _, rfl, h, tk, hC⟩
      obtain ⟨sc, rfl, hsc⟩ : ∃ sc, x = .str sc ∧ sc ∈ SC := by
        have hx := List.mem_of_getElem? hx
        simp only [List.mem_cons, List.not_mem_nil, or_false] at hx
        rcases hx with rfl | rfl | rfl
        all_goals exact ⟨_, rfl, by decide +kernel⟩
      walk_at "go"
      exact for21_ok T (by omega) hsc ⟨lc, ad, cd, wd, i, j, l, zs, w, qc, qo, qn, qp, tb, _, _, _, _, _, _, _, _, _, _, _, _, _, _, _, _, _, rfl, h, tk, hC⟩ (fun σ H v11 h => ⟨_, _, h⟩)
    · rintro σ H ⟨v10, v11, lc, ad, cd, wd, i, j, l, zs, w, qc, qo, qn, qp, tb, _, _, _, _, _, _, _, _, _, _, _, _, _, _, _, _, _, rfl, h, tk, hC⟩
      unfold LW at hC
      simp only [KT, OL] at hC
      exact k _ _ ⟨i, j, l, qc, qo, qn, qp, tb, _, _, _, _, _, _, _, _, _, _, _, _, _, _, _, _, _, _, _, _, _, _, rfl, tk, by simp only [KT]; walk_at "lay3", fun m hm => hC.im m (by
        rcases List.mem_cons.mp hm with rfl | hm
        · walk_at "mem"
        · cases hm), hC.sb⟩
end
section
variable {K : PySem.W.Frag} {mg : Str → Option Value} {a : Adr} {vs : List V} {B H : Hp} {Q : VK} {E : XK} {L F : List (Addr × HO)} {I : List Im} {N Bk Ct : L2.St → Hp → Prop} {Rt : VK}
variable {so dx cd wd s hL pL : Addr} {qc qo qn qp tb : Array Value} {s0 s1 s2 : V}
variable {v0 v1 v2 v3 v4 v5 v6 v7 v8 v9 v10 v11 v12 v13 v14 v15 v16 v17 v18 v19 v20 v21 v22 v23 v24 v25 : Option V}
def BAD : List Str := ["web:/a.com", "a.com", "web://", "Web://a.com", "web://A.com", "web://a com", "web://" ++ repS "a" (200 : Int).toNat, "://a.com"]
def WOR : List Str := ["web://a*b", "web://x.*.y", "web://**", "web://*x", "web://"]
def scA (s : Str) : Str := (Txt.partition s "://").1
def hoA (s : Str) : Str := (Txt.partition (rA s) "/").1
def slA (s : Str) : Str := (Txt.partition (rA s) "/").2.1
def paA (s : Str) : Str := (Txt.partition (rA s) "/").2.2
theorem ptsA (s : Str) : Pts s (scA s) (mkA s) (hoA s) (slA s) (paA s) := ⟨rA s, rfl, rfl⟩
theorem bad_all : ∀ x, x ∈ BAD → x.length ≤ 1000 ∧ okP x (scA x) (mkA x) (hoA x) = false := by decide +kernel
def jnB (s : Str) : Str := joinA (scA s) (mkA s) (hoA s) (slA s) (paA s)
theorem wor_all : ∀ x, x ∈ WOR → x.length ≤ 400 ∧ okP (jnB x) (scA (jnB x)) (mkA (jnB x)) (hoA (jnB x)) = false := by decide +kernel
theorem cls0 : ClsOk [] := ⟨by decide, fun e h => (by cases h)⟩
theorem alw0 : AlwOk [] := ⟨by decide, .nil, fun e h => (by cases h)⟩
theorem c_claimW {x : Str} (hC : Ctx K B H L I) (p : Perm3 L (KT a qc qo qn qp (OL a so dx cd wd [] [] F))) (tk : TK qc qo qn qp) (hx : x ∈ WOR)
    (k : ∀ qc qo qn qp H1, TK qc qo qn qp → Ctx K B H1 (KT a qc qo qn qp (OL a so dx cd wd [] [] F)) I → E (.ref a.c_NameFault) none H1) : sp_Openers_claim K a [.ref so, .str "mail", .str x, .bl false] H Q E := by
  obtain ⟨z, ok⟩ := wor_all x hx
  exact ⟨rfl, so, dx, cd, wd, "mail", x, scA x, mkA x, hoA x, slA x, paA x, scA (jnB x), mkA (jnB x), hoA (jnB x), slA (jnB x), paA (jnB x), false, [], [], qc, qo, qn, qp, F, rfl, z, .inl (by decide +kernel), ptsA x, ptsA (jnB x), cls0, fun _ q => absurd (ok.symm.trans q) (by decide), hC.lay.perm p.lay, tk,
    fun _ q => absurd (ok.symm.trans q) (by decide), fun _ H1 qc qo qn qp s y tk => k qc qo qn qp H1 tk (hC.moved s y)⟩
theorem c_claimN {x : Str} (hC : Ctx K B H L I) (p : Perm3 L (KT a qc qo qn qp (OL a so dx cd wd [] [] F))) (tk : TK qc qo qn qp) (hz : x.length ≤ 400)
    (k : ∀ qc qo qn qp H1, TK qc qo qn qp → Ctx K B H1 (KT a qc qo qn qp (OL a so dx cd wd [] [] F)) I → E (.ref a.c_NameFault) none H1) : sp_Openers_claim K a [.ref so, .str "Bad Name", .str x, .bl false] H Q E :=
  ⟨rfl, so, dx, cd, wd, "Bad Name", x, scA x, mkA x, hoA x, slA x, paA x, scA (jnB x), mkA (jnB x), hoA (jnB x), slA (jnB x), paA (jnB x), false, [], [], qc, qo, qn, qp, F, rfl, hz, .inr rfl, ptsA x, ptsA (jnB x), cls0, fun q => absurd q (by decide +kernel), hC.lay.perm p.lay, tk,
    fun q => absurd q (by decide +kernel), fun _ H1 qc qo qn qp s y tk => k qc qo qn qp H1 tk (hC.moved s y)⟩
abbrev EL (a : Adr) (so dx cd wd : Addr) (qc qo qn qp tb : Array Value) (F : List (Addr × HO)) : List (Addr × HO) := (a.tb_law, .tbl tb) :: KT a qc qo qn qp (OL a so dx cd wd [] [] F)
theorem s_makeD {C : Addr} {sp : Sp} {vs dvs : List V} (hC : Ctx K B H L I) (k : ∀ x dx H1, Ctx K B H1 ((x, .ins C dx []) :: L) I → sp (.ref x :: (vs ++ dvs)) H1 (kInit Q x) E) : kMake C sp dvs E Q vs H := by
  intro x dx hx hd ne
  refine k x dx _ ?_
  have h1 : Ctx K B (upd H dx (.own x)) L I := hC.moved (Stb.new hd) (hC.lay.keep hd)
  exact h1.newM (by rw [upd_ne (fun z => ne z.symm)]; exact hx) rfl
theorem adr0 : ("web://a.com" : Str) = adr "web" "a.com" "" := by decide +kernel
theorem tail23_ok (T : Txt K mg a) (tk : TK qc qo qn qp) (hC : Ctx K B H (EL a so dx cd wd qc qo qn qp tb F) [.tab (lamq "law") tb]) (k : ∀ H, Rt (.bl true) H) :
    t_law_tail23 K a E ⟨N, Rt, Bk, Ct⟩ [v0, v1, v2, v3, v4, v5, v6, v7, v8, v9, v10, v11, v12, v13, v14, v15, v16, v17, v18, v19, v20, v21, v22, some (.ref so), v24, v25] H := by
  unfold t_law_tail23
  simp only [EL, KT, OL, List.map_nil] at hC
  walk_at "go"
  refine c_claimN hC (by simp only [KT, OL, List.map_nil]; walk_at "perm3") tk (by decide) (fun qc qo qn qp H tk hC => ?_)
  simp only [EL, KT, OL, List.map_nil] at hC
  walk_at "go"
  refine s_makeD hC (fun mx mdx H hC => ?_)
  dsimp only [List.cons_append, List.nil_append]
  walk_at "go"
  simp only [ccell] at hC
  walk_at "go"
  rw [adr0]
  refine c_opens (cs := []) (w := []) (qc := qc) (qo := qo) (qn := qn) (qp := qp) (so := so) (dx := dx) (cd := cd) (wd := wd) hC (by simp only [KT, OL, List.map_nil]; walk_at "perm3") (by decide +kernel) (by decide +kernel) (by decide +kernel) cls0 alw0 tk (fun v qc qo qn qp H tk hC td => ?_)
  rw [show opensD [] [] ("web" : Str) "a.com" "" = .tuple [.str "none"] from rfl] at td
  replace hC := hC.add (i := .dat v _) td
  walk_at "go"
  refine s_eqSame (hC.dat (by walk_at "mem")) (TD.tup (hC.tup (by walk_at "mem")) (.cons (.str _) .nil)) ?_ ?_
  · exact Sh.mono (ShL.tuple (n := 0) (ShL.cons (Sh.str (by decide +kernel)) ShL.nil)) (by decide)
  · exact k _
theorem tail24_ok (T : Txt K mg a) {bL oL : Addr} (tk : TK qc qo qn qp) (hC : Ctx K B H (EL a so dx cd wd qc qo qn qp tb ((bL, .lst (BAD.map V.str)) :: (oL, .lst (WOR.map V.str)) :: F)) [.tab (lamq "law") tb]) (k : ∀ H, Rt (.bl true) H) :
    t_law_tail24 K a E ⟨N, Rt, Bk, Ct⟩ [v0, v1, v2, v3, v4, v5, v6, v7, v8, v9, v10, v11, v12, v13, v14, v15, v16, v17, v18, v19, v20, v21, v22, some (.ref so), some (.ref bL), some (.ref oL)] H := by
  unfold t_law_tail24
  have hC0 := hC
  simp only [EL, KT, OL, List.map_nil] at hC
  walk_at "go"
  refine lc_w (walk_lstE (es := BAD) (kf := V.str) rfl) hC0 (fun D i H1 => ∃ qp tb, TriplesOk qp.toList ∧ Ctx K B H1 ((D, .lst []) :: EL a so dx cd wd qc qo qn qp tb ((bL, .lst (BAD.map V.str)) :: (oL, .lst (WOR.map V.str)) :: F)) [.tab (lamq "law") tb]) (fun D H1 hC => ⟨_, _, tk.p, hC⟩) (fun D i H1 _ ⟨_, _, _, hC⟩ => SqL.of (hC.get (by simp only [EL, KT, OL, List.map_nil]; walk_at "mem"))) ?_ ?_
  · rintro i x D H1 H2 hi ⟨qp, tb, tp, hC⟩ hy
    obtain ⟨rfl, x, hx, rfl⟩ := ye hy
    obtain ⟨z, okx⟩ := bad_all x (List.mem_of_getElem? hx)
    simp only [EL, KT, OL, List.map_nil] at hC
    simp only [wipe, List.set_cons_zero, List.set_cons_succ]
    walk_at "go"
    refine ⟨rfl, ?_⟩
    walk_at "go"
    refine c_partsF hC (by walk_at "perm3") tp z (ptsA x) okx (fun qp H tp hC => ?_)
    walk_at "go"
    exact ⟨_, _, tp, by simp only [EL, KT, OL, List.map_nil]; walk_at "lay3", fun m hm => hC.im m (by
      rcases List.mem_cons.mp hm with rfl | hm
      · walk_at "mem"
      · cases hm), hC.sb⟩
  · rintro D H1 ⟨qp, tb, tp, hC⟩
    simp only [EL, KT, OL, List.map_nil] at hC
    walk_at "go"
    have hC1 : Ctx K B H (EL a so dx cd wd qc qo qn qp tb ((oL, .lst (WOR.map V.str)) :: F)) [.tab (lamq "law") tb] := ⟨by simp only [EL, KT, OL, List.map_nil]; walk_at "lay3", hC.im, hC.sb⟩
    refine lc_w (walk_lstE (es := WOR) (kf := V.str) rfl) hC1 (fun D i H1 => ∃ qc qo qn qp tb, TK qc qo qn qp ∧ Ctx K B H1 ((D, .lst []) :: EL a so dx cd wd qc qo qn qp tb ((oL, .lst (WOR.map V.str)) :: F)) [.tab (lamq "law") tb]) (fun D H1 hC => ⟨_, _, _, _, _, ⟨tk.c, tk.o, tk.n, tp⟩, hC⟩) (fun D i H1 _ ⟨_, _, _, _, _, _, hC⟩ => SqL.of (hC.get (by simp only [EL, KT, OL, List.map_nil]; walk_at "mem"))) ?_ ?_
    · rintro i x D H1 H2 hi ⟨qc, qo, qn, qp, tb, tk, hC⟩ hy
      obtain ⟨rfl, x, hx, rfl⟩ := ye hy
      simp only [EL, KT, OL, List.map_nil] at hC
      simp only [wipe, List.set_cons_zero, List.set_cons_succ]
      walk_at "go"
      refine ⟨rfl, ?_⟩
      walk_at "go"
      refine c_claimW (F := (D, .lst []) :: (oL, .lst (WOR.map V.str)) :: (a.tb_law, .tbl tb) :: F) hC (by simp only [KT, OL, List.map_nil]; walk_at "perm3") tk (List.mem_of_getElem? hx) (fun qc qo qn qp H tk hC => ?_)
      simp only [EL, KT, OL, List.map_nil] at hC
      walk_at "go"
      exact ⟨_, _, _, _, _, tk, by simp only [EL, KT, OL, List.map_nil]; walk_at "lay3", fun m hm => hC.im m (by
        rcases List.mem_cons.mp hm with rfl | hm
        · walk_at "mem"
        · cases hm), hC.sb⟩
    · rintro D H1 ⟨qc, qo, qn, qp, tb, tk, hC⟩
      simp only [EL, KT, OL, List.map_nil] at hC
      walk_at "go"
      exact tail23_ok T tk ⟨by simp only [EL, KT, OL, List.map_nil]; walk_at "lay3", hC.im, hC.sb⟩ k
theorem sql_new {p : Addr} {o : HO} {xs : List V} (h : SqL K H s xs) (n : H p = none) : SqL K (upd H p o) s xs := by
  rcases h with (h | ⟨o2, h⟩) | h
  · exact .inl (.inl (by rw [upd_ne (ne_of_none h n)]; exact h))
  · exact .inl (.inr ⟨o2, by rw [upd_ne (ne_of_none h n)]; exact h⟩)
  · exact .inr h
theorem tab0 {H : Hp} {q : Str} : TabOK q #[] H := ⟨True.intro, fun pos cv hc => by
  have z : codeAmong pos [] = some cv := hc
  simp [codeAmong] at z⟩
theorem pure_law {H0 : Hp} (T : Txt K mg a) (h : sp_law K a vs H0 Q E) : t_law K a E { nx := fun _ H' => Q .non H', rt := Q } (L2.start N_law vs) H0 := by
  obtain ⟨_, s, ns, rfl, hs, y0, k⟩ := h
  unfold t_law
  walk_at "start"
  walk_at "go"
  refine ⟨by decide, fun p1 hp1 => ?_⟩
  have hs1 := sql_new (o := .lst (HOS.map V.str)) hs hp1
  have y1 := y0.new (o := .lst (HOS.map V.str)) hp1 rfl
  walk_at "go"
  refine ⟨by decide, fun p2 hp2 => ?_⟩
  have hs2 := sql_new (o := .lst (PA.map V.str)) hs1 hp2
  have y2 := y1.new (o := .lst (PA.map V.str)) hp2 rfl
  walk_at "go"
  refine ⟨rfl, s, 1, ns, _, rfl, hs2, y2, by decide, by decide, fun p ds H1 st y => ?_⟩
  have hC := Ctx.start (K := K) y
  walk_at "go"
  refine for_lst (xs := ds.map fun d => V.ref d.1) (fun t σ H => ∃ (es : List (Addr × Int × Int × Int)) (qc qo qn qp tb : Array Value) (v3 v4 v5 v6 v7 v8 v9 v10 v11 v12 v13 v14 v15 v16 v17 v18 v19 v20 v21 v22 v23 v24 v25 : Option V), σ = [some (.ref s), some (.ref p1), some (.ref p2), v3, v4, v5, v6, v7, v8, v9, v10, v11, v12, v13, v14, v15, v16, v17, v18, v19, v20, v21, v22, v23, v24, v25] ∧
      es.map (fun d => V.ref d.1) = (ds.map fun d => V.ref d.1).drop t ∧ TK qc qo qn qp ∧ Ctx K H1 H ((p, .lst (ds.map fun d => V.ref d.1)) :: (DL es ++ ((a.tb_law, .tbl tb) :: (p1, .lst (HOS.map V.str)) :: (p2, .lst (PA.map V.str)) :: KT a qc qo qn qp []))) [.tab (lamq "law") tb])
    ⟨ds, #[], #[], #[], #[], #[], _, _, _, _, _, _, _, _, _, _, _, _, _, _, _, _, _, _, _, _, _, _, _, rfl, rfl, ⟨True.intro, True.intro, True.intro, True.intro⟩, ?_, fun m hm => ?_, hC.sb⟩ ?_ ?_ ?_
  · simp only [KT]
    walk_at "lay3"
  · rcases List.mem_cons.mp hm with rfl | hm
    · exact tab0
    · cases hm
  · rintro t σ H ht ⟨es, qc, qo, qn, qp, tb, _, _, _, _, _, _, _, _, _, _, _, _, _, _, _, _, _, _, _, _, _, _, _, hσ, he, tk, hC⟩
    exact hC.get List.mem_cons_self
  · rintro t x σ H hx ⟨es, qc, qo, qn, qp, tb, _, _, _, _, _, _, _, _, _, _, _, _, _, _, _, _, _, _, _, _, _, _, _, rfl, he, tk, hC⟩
    obtain ⟨hlt, hx⟩ := List.getElem?_eq_some_iff.mp hx
    rw [List.drop_eq_getElem_cons hlt, hx] at he
    cases es with
    | nil => cases he
    | cons e es =>
      rw [List.map_cons] at he
      obtain ⟨rfl, he2⟩ := List.cons.inj he
      obtain ⟨d, i, j, l⟩ := e
      rw [show DL ((d, i, j, l) :: es) = (d, .lst [.int i, .int j, .int l]) :: DL es from rfl] at hC
      simp only [KT, List.cons_append] at hC
      walk_at "go"
      refine for22_ok (F := (p, .lst (ds.map fun d => V.ref d.1)) :: (DL es ++ [])) (B := H1) (i := i) (j := j) (l := l) T tk ⟨by simp only [KT]; walk_at "lay3", hC.im, hC.sb⟩ (fun σ H hh => ?_)
      obtain ⟨i, j, l, qc, qo, qn, qp, tb, v4, v5, v6, v7, v8, v9, v10, v11, v12, v13, v14, v15, v16, v17, v18, v19, v20, v21, v22, v23, v24, v25, rfl, tk, hC⟩ := hh
      simp only [KT] at hC
      exact ⟨es, qc, qo, qn, qp, tb, _, _, _, _, _, _, _, _, _, _, _, _, _, _, _, _, _, _, _, _, _, _, _, rfl, he2, tk, by simp only [KT]; walk_at "lay3", hC.im, hC.sb⟩
  · rintro σ H ⟨es, qc, qo, qn, qp, tb, _, _, _, _, _, _, _, _, _, _, _, _, _, _, _, _, _, _, _, _, _, _, _, rfl, he, tk, hC⟩
    simp only [KT] at hC
    unfold t_law_tail26
    walk_at "go"
    unfold t_law_tail25
    walk_at "go"
    rename_i bL _
    refine tail24_ok (so := mx) (dx := mdx) (cd := cd) (wd := wd) (qc := qc) (qo := qo) (qn := qn) (qp := qp) (tb := tb) (B := H1) (bL := bL) (oL := lp) (F := []) T tk ⟨?_, hC.im, hC.sb⟩ (fun H => k H)
    simp only [EL, KT, OL, BAD, WOR, List.map_cons, List.map_nil] at hC ⊢
    walk_at "lay3"
end
end Wk
namespace Wk
open PySem PySem.Spec PyProof.Rows L2 Ph
open LamX (TTold told_gives lamS_by TabB)
section
variable {P : Program} {w : World} {K : PySem.W.Frag} {mg : Str → Option Value} {base : Heap} {a : Adr}
theorem ok_Claim__init (T : Txt K mg a) : FnOk P w K mg base (L2.CX P w) 1 a.f_Claim__init a.fd_Claim__init ["self", "app", "scheme", "host", "path", "proved"] (sp_Claim__init K a) := by
  refine FunD.ok T.fn_Claim__init sc_Claim__init (fun _ _ _ _ h => h.1) (fun cdv A outer s H vs Q E hr h => ⟨t_Claim__init K a E, ?_, pure_Claim__init T h⟩)
  have hu := hr.units
  exact (pss_cons (ps_fld (pv 0) (pv 1) rfl) (pss_cons (ps_fld (pv 0) (pv 2) rfl) (pss_cons (ps_fld (pv 0) (pv 3) rfl) (pss_cons (ps_fld (pv 0) (pv 4) rfl) (pss_one (ps_fld (pv 0) (pv 5) rfl))))))
theorem ok_Openers__init (T : Txt K mg a) : FnOk P w K mg base (L2.CX P w) 1 a.f_Openers__init a.fd_Openers__init ["self"] (sp_Openers__init K a) := by
  refine FunD.ok T.fn_Openers__init sc_Openers__init (fun _ _ _ _ h => h.1) (fun cdv A outer s H vs Q E hr h => ⟨t_Openers__init K a E, ?_, pure_Openers__init T h⟩)
  have hu := hr.units
  exact (pss_cons (ps_fld (pv 0) (pe_lst pa_nil) rfl) (pss_one (ps_fld (pv 0) pe_dnewT rfl)))
theorem ok_Openers_claim (T : Txt K mg a) (G_Claim__init : FnOk P w K mg base (L2.CX P w) 1 a.f_Claim__init a.fd_Claim__init ["self", "app", "scheme", "host", "path", "proved"] (sp_Claim__init K a)) (G_check_name : FnOk P w K mg base (L2.CX P w) 8 a.f_check_name a.fd_check_name ["name"] (sp_check_name K a)) (G_parts_of_address : FnOk P w K mg base (L2.CX P w) 8 a.f_parts_of_address a.fd_parts_of_address ["address"] (sp_parts_of_address K a)) (TB_Openers_claim : TabB base mg a.cc_Openers_claim a.tb_Openers_claim) : FnOk P w K mg base (L2.CX P w) 9 a.f_Openers_claim a.fd_Openers_claim ["self", "app", "address", "proved"] (sp_Openers_claim K a) := by
  refine FunD.okC T.fn_Openers_claim sc_Openers_claim (fun _ _ _ _ h => h.1) (fun cdv A outer s H vs Q E hr hcc h => ⟨t_Openers_claim K a E, ?_, pure_Openers_claim T h⟩)
  have hu := hr.units
  have hm_Claim__init := hr.mono (show 2 ≤ 8 by decide)
  have hr_check_name := hr.mono (show 8 ≤ 8 by decide)
  have hr_parts_of_address := hr.mono (show 8 ≤ 8 by decide)
  have hcode : cdv = .ref a.cc_Openers_claim := hcc.symm.trans T.cd_Openers_claim
  subst hcode
  have HR7 := hr.mono (show 0 + 7 ≤ 8 by decide)
  exact (pss_cons (ps_expr (pe_call G_check_name hr_check_name rfl T.mg_check_name T.fn_check_name.kp T.bi_check_name .nil passX (pa_cons (pv 1) pa_nil))) (pss_cons (ps_asg (pe_partition (pv 2) pe_str) (pg_tup rfl (pgs_cons (pg_name (i := 4) sc_Openers_claim.nd rfl (by first | exact Or.inl rfl | exact Or.inr rfl)) (pgs_cons (pg_name (i := 5) sc_Openers_claim.nd rfl (by first | exact Or.inl rfl | exact Or.inr rfl)) (pgs_cons (pg_name (i := 6) sc_Openers_claim.nd rfl (by first | exact Or.inl rfl | exact Or.inr rfl)) pgs_nil))))) (pss_cons (ps_asg (pe_partition (pv 6) pe_str) (pg_tup rfl (pgs_cons (pg_name (i := 7) sc_Openers_claim.nd rfl (by first | exact Or.inl rfl | exact Or.inr rfl)) (pgs_cons (pg_name (i := 8) sc_Openers_claim.nd rfl (by first | exact Or.inl rfl | exact Or.inr rfl)) (pgs_cons (pg_name (i := 9) sc_Openers_claim.nd rfl (by first | exact Or.inl rfl | exact Or.inr rfl)) pgs_nil))))) (pss_cons (ps_set (i := 10) sc_Openers_claim.nd rfl (by first | exact Or.inl rfl | exact Or.inr rfl) (pe_ifExp (pt_tru (pe_m1 PySem.F.slot_str_startswith PySem.F.type_str_startswith mt_startswith (pv 7) pe_str)) (pe_slice u_sl (pv 7) (po_some pe_int) po_none) (pe_ifExp (pt_cmpR (u_eq hu) (pv 7) pe_str (nomark _)) pe_str (pv 7)))) (pss_cons (ps_expr (pe_call G_parts_of_address hr_parts_of_address rfl T.mg_parts_of_address T.fn_parts_of_address.kp T.bi_parts_of_address .nil passX (pa_cons (pe_joined (.cons (pe_fmt (pv 4)) (.cons (pe_fmt (pv 5)) (.cons (pe_fmt (pv 10)) (.cons (pe_fmt (pv 8)) (.cons (pe_fmt (pv 9)) .nil)))))) pa_nil))) (pss_cons (ps_set (i := 11) sc_Openers_claim.nd rfl (by first | exact Or.inl rfl | exact Or.inr rfl) (pe_tup (pa_cons (pv 1) (pa_cons (pv 4) (pa_cons (pv 7) (pa_cons (pe_op u_add (pv 8) (pv 9)) pa_nil)))))) (pss_cons (ps_if (pt_tru (pe_anyX (own := [("one", 12)]) (g := (gName 12)) (tt := tYes) (GenP.mk HR7 rfl sc_Openers_claim.nd (tabG TB_Openers_claim) rfl (gensx_by (by decide +kernel)) (pi_list (pe_fld (pv 0) rfl)) (blkOk_by (N := N_Openers_claim) (sc := defScope s_Openers_claim) (by decide +kernel)) (fun _ _ _ _ _ _ _ hrg => (pg_name (i := 12) sc_Openers_claim.nd rfl (by first | exact Or.inl rfl | exact Or.inr rfl))) (fun _ _ _ _ _ _ _ hrg => pts_nil) (fun _ _ _ _ _ _ _ hrg => (pe_cmpR (u_eq hrg.units) (pe_tup (pa_cons (pe_fld (pv 12) rfl) (pa_cons (pe_fld (pv 12) rfl) (pa_cons (pe_fld (pv 12) rfl) (pa_cons (pe_fld (pv 12) rfl) pa_nil))))) (pv 11) (nomark _))) (fun _ => rfl)) rfl T.no_any)) (pss_one (ps_raise rfl (takes_of rfl rfl rfl rfl) (pmk_own PySem.F.excBase_ValueError T.xc_NameFault T.mgc_NameFault T.kc_NameFault (raises_own T.bc_NameFault T.tc_NameFault) (by rfl)))) pss_nil) (pss_one (ps_expr (pe_bm PySem.F.plainAttrs_list PySem.F.slot_list_append PySem.F.type_list_append mt_append (pe_fld (pv 0) rfl) (pa_cons (pe_make T.mk_Claim G_Claim__init hm_Claim__init rfl T.mgc_Claim T.bi_Claim__init .nil passX (pa_cons (pv 1) (pa_cons (pv 4) (pa_cons (pv 7) (pa_cons (pe_op u_add (pv 8) (pv 9)) (pa_cons (pv 3) pa_nil)))))) pa_nil)))))))))))
theorem ok_Openers_forget (T : Txt K mg a) : FnOk P w K mg base (L2.CX P w) 1 a.f_Openers_forget a.fd_Openers_forget ["self", "app"] (sp_Openers_forget K a) := by
  refine FunD.ok T.fn_Openers_forget sc_Openers_forget (fun _ _ _ _ h => h.1) (fun cdv A outer s H vs Q E hr h => ⟨t_Openers_forget K a E, ?_, pure_Openers_forget T h⟩)
  have hu := hr.units
  exact (pss_cons (ps_fld (pv 0) (pe_lc (own := [("one", 2)]) (g := (gName 2)) (tt := (tTest (tOp (rNeU K) (tFld K (tVar 2) "app") (tVar 1)))) rfl sc_Openers_forget.nd (pi_list (pe_fld (pv 0) rfl)) (blkOk_by (N := N_Openers_forget) (sc := defScope s_Openers_forget) (by decide +kernel)) (fun _ _ _ _ _ => (pg_name (i := 2) sc_Openers_forget.nd rfl (by first | exact Or.inl rfl | exact Or.inr rfl))) (fun _ _ _ _ _ => (pts_one (pt_cmpR (u_ne hu) (pe_fld (pv 2) rfl) (pv 1) (nomark _)))) (fun _ _ _ _ _ => (pv 2))) rfl) (pss_one (ps_fld (pv 0) (pe_lock (pe_dcT (own := [("key", 3), ("name", 4)]) (g := (gTup K 2 (gCons (gName 3) (gCons (gName 4) gNil)))) (tt := (tTest (tOp (rNeU K) (tVar 4) (tVar 1)))) rfl hu sc_Openers_forget.nd (pi_itemsT (pe_fld (pv 0) rfl)) (blkOk_by (N := N_Openers_forget) (sc := defScope s_Openers_forget) (by decide +kernel)) (fun _ _ _ _ _ => (pg_tup rfl (pgs_cons (pg_name (i := 3) sc_Openers_forget.nd rfl (by first | exact Or.inl rfl | exact Or.inr rfl)) (pgs_cons (pg_name (i := 4) sc_Openers_forget.nd rfl (by first | exact Or.inl rfl | exact Or.inr rfl)) pgs_nil)))) (fun _ _ _ _ _ => (pts_one (pt_cmpR (u_ne hu) (pv 4) (pv 1) (nomark _)))) (fun _ _ _ _ _ => (pv 3)) (fun _ _ _ _ _ => (pv 4)))) rfl)))
theorem ok_Openers_fitting (T : Txt K mg a) (G_covers_host : FnOk P w K mg base (L2.CX P w) 1 a.f_covers_host a.fd_covers_host ["claimed", "host"] (sp_covers_host K a)) (G_parts_of_address : FnOk P w K mg base (L2.CX P w) 8 a.f_parts_of_address a.fd_parts_of_address ["address"] (sp_parts_of_address K a)) : FnOk P w K mg base (L2.CX P w) 9 a.f_Openers_fitting a.fd_Openers_fitting ["self", "address"] (sp_Openers_fitting K a) := by
  refine FunD.ok T.fn_Openers_fitting sc_Openers_fitting (fun _ _ _ _ h => h.1) (fun cdv A outer s H vs Q E hr h => ⟨t_Openers_fitting K a E, ?_, pure_Openers_fitting T h⟩)
  have hu := hr.units
  have hr_covers_host := hr.mono (show 1 ≤ 8 by decide)
  have hr_parts_of_address := hr.mono (show 8 ≤ 8 by decide)
  exact (pss_cons (ps_asg (pe_call G_parts_of_address hr_parts_of_address rfl T.mg_parts_of_address T.fn_parts_of_address.kp T.bi_parts_of_address .nil passX (pa_cons (pv 1) pa_nil)) (pg_tup rfl (pgs_cons (pg_name (i := 2) sc_Openers_fitting.nd rfl (by first | exact Or.inl rfl | exact Or.inr rfl)) (pgs_cons (pg_name (i := 3) sc_Openers_fitting.nd rfl (by first | exact Or.inl rfl | exact Or.inr rfl)) (pgs_cons (pg_name (i := 4) sc_Openers_fitting.nd rfl (by first | exact Or.inl rfl | exact Or.inr rfl)) pgs_nil))))) (pss_cons (ps_set (i := 5) sc_Openers_fitting.nd rfl (by first | exact Or.inl rfl | exact Or.inr rfl) (pe_lst pa_nil)) (pss_cons (ps_for (passes_of rfl) rfl (pi_list (pe_fld (pv 0) rfl)) (pg_name (i := 6) sc_Openers_fitting.nd rfl (by first | exact Or.inl rfl | exact Or.inr rfl)) (pss_cons (ps_set (i := 7) sc_Openers_fitting.nd rfl (by first | exact Or.inl rfl | exact Or.inr rfl) (pe_call G_covers_host hr_covers_host rfl T.mg_covers_host T.fn_covers_host.kp T.bi_covers_host .nil passX (pa_cons (pe_fld (pv 6) rfl) (pa_cons (pv 3) pa_nil)))) (pss_one (ps_if (PW.pt (pw_and (pt_cmpR (u_eq hu) (pe_fld (pv 6) rfl) (pv 2) (nomark _)) (pw_and (pt_cmpR u_notN (pv 7) pe_non (nomark _)) (pw_and1 (pt_tru (pe_m1 PySem.F.slot_str_startswith PySem.F.type_str_startswith mt_startswith (pv 4) (pe_fld (pv 6) rfl))))))) (pss_one (ps_expr (pe_bm PySem.F.plainAttrs_list PySem.F.slot_list_append PySem.F.type_list_append mt_append (pv 5) (pa_cons (pe_tup (pa_cons (pe_tup (pa_cons (pe_fld (pv 6) rfl) (pa_cons (pv 7) (pa_cons (pe_callB u_len (by rfl) T.no_len (by decide +kernel) (pa_cons (pe_fld (pv 6) rfl) pa_nil)) pa_nil)))) (pa_cons (pe_fld (pv 6) rfl) pa_nil))) pa_nil)))) pss_nil)))) (pss_cons (ps_set (i := 9) sc_Openers_fitting.nd rfl (by first | exact Or.inl rfl | exact Or.inr rfl) (pe_callBK (cr_maxDT rfl hu) rfl T.no_max (by decide +kernel) (pa_cons (pe_lc (own := [("row", 8)]) (g := (gName 8)) (tt := tYes) rfl sc_Openers_fitting.nd (pi_list (pv 5)) (blkOk_by (N := N_Openers_fitting) (sc := defScope s_Openers_fitting) (by decide +kernel)) (fun _ _ _ _ _ => (pg_name (i := 8) sc_Openers_fitting.nd rfl (by first | exact Or.inl rfl | exact Or.inr rfl))) (fun _ _ _ _ _ => pts_nil) (fun _ _ _ _ _ => (pe_ix (u_ix hu) (pv 8) pe_int (fun _ _ => rfl)))) pa_nil) (pk_cons pe_non pk_nil))) (pss_one (ps_ret (pe_callTy call_tuple_of (by rfl) T.no_tuple (by decide +kernel) (pa_cons (pe_callB (u_sorted rfl) (by rfl) T.no_sorted (by decide +kernel) (pa_cons (pe_dc (own := [("key", 10), ("app", 11)]) (g := (gTup K 2 (gCons (gName 10) (gCons (gName 11) gNil)))) (tt := (tTest (tOp (rEqU K) (tVar 10) (tVar 9)))) rfl sc_Openers_fitting.nd (pi_list (pv 5)) (blkOk_by (N := N_Openers_fitting) (sc := defScope s_Openers_fitting) (by decide +kernel)) (fun _ _ _ _ _ => (pg_tup rfl (pgs_cons (pg_name (i := 10) sc_Openers_fitting.nd rfl (by first | exact Or.inl rfl | exact Or.inr rfl)) (pgs_cons (pg_name (i := 11) sc_Openers_fitting.nd rfl (by first | exact Or.inl rfl | exact Or.inr rfl)) pgs_nil)))) (fun _ _ _ _ _ => (pts_one (pt_cmpR (u_eq hu) (pv 10) (pv 9) (nomark _)))) (fun _ _ _ _ _ => (pv 11)) (fun _ _ _ _ _ => pe_bl)) pa_nil)) pa_nil))))))))
theorem ok_Openers_want_always (T : Txt K mg a) (G_covers_host : FnOk P w K mg base (L2.CX P w) 1 a.f_covers_host a.fd_covers_host ["claimed", "host"] (sp_covers_host K a)) (G_parts_of_address : FnOk P w K mg base (L2.CX P w) 8 a.f_parts_of_address a.fd_parts_of_address ["address"] (sp_parts_of_address K a)) : FnOk P w K mg base (L2.CX P w) 9 a.f_Openers_want_always a.fd_Openers_want_always ["self", "app", "address"] (sp_Openers_want_always K a) := by
  refine FunD.ok T.fn_Openers_want_always sc_Openers_want_always (fun _ _ _ _ h => h.1) (fun cdv A outer s H vs Q E hr h => ⟨t_Openers_want_always K a E, ?_, pure_Openers_want_always T h⟩)
  have hu := hr.units
  have hr_covers_host := hr.mono (show 1 ≤ 8 by decide)
  have hr_parts_of_address := hr.mono (show 8 ≤ 8 by decide)
  exact (pss_cons (ps_asg (pe_call G_parts_of_address hr_parts_of_address rfl T.mg_parts_of_address T.fn_parts_of_address.kp T.bi_parts_of_address .nil passX (pa_cons (pv 2) pa_nil)) (pg_tup rfl (pgs_cons (pg_name (i := 3) sc_Openers_want_always.nd rfl (by first | exact Or.inl rfl | exact Or.inr rfl)) (pgs_cons (pg_name (i := 4) sc_Openers_want_always.nd rfl (by first | exact Or.inl rfl | exact Or.inr rfl)) (pgs_cons (pg_name (i := 5) sc_Openers_want_always.nd rfl (by first | exact Or.inl rfl | exact Or.inr rfl)) pgs_nil))))) (pss_cons (ps_setLc (i := 7) (own := [("one", 6)]) (g := (gName 6)) (tt := (tAnd (tTest (tOp (rEqU K) (tFld K (tVar 6) "app") (tVar 1))) (tAnd (tTest (tOp (rEqU K) (tFld K (tVar 6) "scheme") (tVar 3))) (tTest (tOp rNotN (tCall (sp_covers_host K a) [] E0 (tCons (tFld K (tVar 6) "host") (tCons (tVar 4) tNil))) (tC .non)))))) rfl sc_Openers_want_always.nd rfl rfl (sw_true rfl rfl rfl (by decide +kernel)) (pi_list (pe_fld (pv 0) rfl)) (blkOk_by (N := N_Openers_want_always) (sc := defScope s_Openers_want_always) (by decide +kernel)) (fun _ _ _ _ _ => (pg_name (i := 6) sc_Openers_want_always.nd rfl (by first | exact Or.inl rfl | exact Or.inr rfl))) (fun _ _ _ _ _ => (pts_one (PW.pt (pw_and (pt_cmpR (u_eq hu) (pe_fld (pv 6) rfl) (pv 1) (nomark _)) (pw_and (pt_cmpR (u_eq hu) (pe_fld (pv 6) rfl) (pv 3) (nomark _)) (pw_and1 (pt_cmpR u_notN (pe_call G_covers_host hr_covers_host rfl T.mg_covers_host T.fn_covers_host.kp T.bi_covers_host .nil passL (pa_cons (pe_fld (pv 6) rfl) (pa_cons (pv 4) pa_nil))) pe_non (nomark _)))))))) (fun _ _ _ _ _ => (pv 6))) (pss_cons (ps_if (pt_cmpR (u_eqY hu) (pv 7) (pe_lst pa_nil) (nomark _)) (pss_one (ps_raise rfl (takes_of rfl rfl rfl rfl) (pmk_own PySem.F.excBase_ValueError T.xc_NameFault T.mgc_NameFault T.kc_NameFault (raises_own T.bc_NameFault T.tc_NameFault) (by rfl)))) pss_nil) (pss_one (ps_asg (pv 1) (pg_sub (pe_fld (pv 0) rfl) (pe_tup (pa_cons (pv 3) (pa_cons (pv 4) pa_nil))) (u_set hu)))))))
theorem ok_Openers_opens (T : Txt K mg a) (G_Openers_fitting : FnOk P w K mg base (L2.CX P w) 9 a.f_Openers_fitting a.fd_Openers_fitting ["self", "address"] (sp_Openers_fitting K a)) (G_covers_host : FnOk P w K mg base (L2.CX P w) 1 a.f_covers_host a.fd_covers_host ["claimed", "host"] (sp_covers_host K a)) (G_parts_of_address : FnOk P w K mg base (L2.CX P w) 8 a.f_parts_of_address a.fd_parts_of_address ["address"] (sp_parts_of_address K a)) (TB_Openers_opens : TabB base mg a.cc_Openers_opens a.tb_Openers_opens) : FnOk P w K mg base (L2.CX P w) 10 a.f_Openers_opens a.fd_Openers_opens ["self", "address"] (sp_Openers_opens K a) := by
  refine FunD.okC T.fn_Openers_opens sc_Openers_opens (fun _ _ _ _ h => h.1) (fun cdv A outer s H vs Q E hr hcc h => ⟨t_Openers_opens K a E, ?_, pure_Openers_opens T h⟩)
  have hu := hr.units
  have hr_Openers_fitting := hr.mono (show 9 ≤ 9 by decide)
  have hr_parts_of_address := hr.mono (show 8 ≤ 9 by decide)
  have hcode : cdv = .ref a.cc_Openers_opens := hcc.symm.trans T.cd_Openers_opens
  subst hcode
  have HR7 := hr.mono (show 1 + 7 ≤ 9 by decide)
  exact (pss_cons (ps_asg (pe_call G_parts_of_address hr_parts_of_address rfl T.mg_parts_of_address T.fn_parts_of_address.kp T.bi_parts_of_address .nil passX (pa_cons (pv 1) pa_nil)) (pg_tup rfl (pgs_cons (pg_name (i := 2) sc_Openers_opens.nd rfl (by first | exact Or.inl rfl | exact Or.inr rfl)) (pgs_cons (pg_name (i := 3) sc_Openers_opens.nd rfl (by first | exact Or.inl rfl | exact Or.inr rfl)) (pgs_cons (pg_name (i := 4) sc_Openers_opens.nd rfl (by first | exact Or.inl rfl | exact Or.inr rfl)) pgs_nil))))) (pss_cons (ps_set (i := 5) sc_Openers_opens.nd rfl (by first | exact Or.inl rfl | exact Or.inr rfl) (pe_get1 hu (pe_fld (pv 0) rfl) (pe_tup (pa_cons (pv 2) (pa_cons (pv 3) pa_nil))) ⟨rfl, rfl, rfl, rfl⟩)) (pss_cons (ps_if (pt_tru (pe_anyX (own := [("one", 6)]) (g := (gName 6)) (tt := tYes) (GenP.mk HR7 rfl sc_Openers_opens.nd (tabG TB_Openers_opens) rfl (gensx_by (by decide +kernel)) (pi_list (pe_fld (pv 0) rfl)) (blkOk_by (N := N_Openers_opens) (sc := defScope s_Openers_opens) (by decide +kernel)) (fun _ _ _ _ _ _ _ hrg => (pg_name (i := 6) sc_Openers_opens.nd rfl (by first | exact Or.inl rfl | exact Or.inr rfl))) (fun _ _ _ _ _ _ _ hrg => pts_nil) (fun _ _ _ _ _ _ _ hrg => (pe_and (pe_cmpR (u_eq hrg.units) (pe_fld (pv 6) rfl) (pv 5) (nomark _)) (pe_and (pe_cmpR (u_eq hrg.units) (pe_fld (pv 6) rfl) (pv 2) (nomark _)) (pe_and (pe_cmpR u_notN (pe_call G_covers_host (hrg.mono (by decide)) rfl T.mg_covers_host T.fn_covers_host.kp T.bi_covers_host .nil passL (pa_cons (pe_fld (pv 6) rfl) (pa_cons (pv 3) pa_nil))) pe_non (nomark _)) (pe_one (pe_m1 PySem.F.slot_str_startswith PySem.F.type_str_startswith mt_startswith (pv 4) (pe_fld (pv 6) rfl))))))) (fun _ => rfl)) rfl T.no_any)) (pss_one (ps_ret (pe_tup (pa_cons pe_str (pa_cons (pv 5) pa_nil))))) pss_nil) (pss_cons (ps_set (i := 7) sc_Openers_opens.nd rfl (by first | exact Or.inl rfl | exact Or.inr rfl) (pe_meth (pv 0) T.cl_Openers T.me_Openers_fitting G_Openers_fitting hr_Openers_fitting T.bi_Openers_fitting .nil passX (pa_cons (pv 1) pa_nil))) (pss_cons (ps_if (pt_cmpR (u_eq hu) (pv 7) (pe_tup pa_nil) (nomark _)) (pss_one (ps_ret (pe_tup (pa_cons pe_str pa_nil)))) pss_nil) (pss_one (ps_ret (pe_ifExp (pt_cmpR (u_eq hu) (pe_callB u_len (by rfl) T.no_len (by decide +kernel) (pa_cons (pv 7) pa_nil)) pe_int (nomark _)) (pe_tup (pa_cons pe_str (pa_cons (pe_ix (u_ix hu) (pv 7) pe_int (fun _ _ => rfl)) pa_nil))) (pe_tup (pa_cons pe_str (pa_cons (pv 7) pa_nil)))))))))))
theorem ok_check_name (T : Txt K mg a) (TB_check_name : TabB base mg a.cc_check_name a.tb_check_name) : FnOk P w K mg base (L2.CX P w) 8 a.f_check_name a.fd_check_name ["name"] (sp_check_name K a) := by
  refine FunD.okC T.fn_check_name sc_check_name (fun _ _ _ _ h => h.1) (fun cdv A outer s H vs Q E hr hcc h => ⟨t_check_name K a E, ?_, pure_check_name T h⟩)
  have hu := hr.units
  have hcode : cdv = .ref a.cc_check_name := hcc.symm.trans T.cd_check_name
  subst hcode
  have HR7 := hr.mono (show 0 + 7 ≤ 7 by decide)
  exact (pss_one (ps_if (PW.pt (pw_or (pt_not (pt_chain u_lt u_le pe_int (pe_callB u_len (by rfl) T.no_len (by decide +kernel) (pa_cons (pv 0) pa_nil)) pe_int)) (pw_or (pt_tru (pe_anyG hr rfl T.no_any (tabG TB_check_name) rfl (genS_by (by decide +kernel)) (pv 0) (elt_ninG rfl rfl rfl T.gl_NAME_LETTERS) (fun _ => rfl))) (pw_or (pt_cmpR (u_eq hu) (pe_ix (u_ix hu) (pv 0) pe_int (fun _ _ => rfl)) pe_str (nomark _)) (pw_or1 (pt_cmpR (u_eq hu) (pe_ix (u_ix hu) (pv 0) (pe_un un_neg pe_int) (fun _ _ => rfl)) pe_str (nomark _))))))) (pss_one (ps_raise rfl (takes_of rfl rfl rfl rfl) (pmk_own PySem.F.excBase_ValueError T.xc_NameFault T.mgc_NameFault T.kc_NameFault (raises_own T.bc_NameFault T.tc_NameFault) (by rfl)))) pss_nil))
theorem ok_parts_of_address (T : Txt K mg a) (TB_parts_of_address : TabB base mg a.cc_parts_of_address a.tb_parts_of_address) : FnOk P w K mg base (L2.CX P w) 8 a.f_parts_of_address a.fd_parts_of_address ["address"] (sp_parts_of_address K a) := by
  refine FunD.okC T.fn_parts_of_address sc_parts_of_address (fun _ _ _ _ h => h.1) (fun cdv A outer s H vs Q E hr hcc h => ⟨t_parts_of_address K a E, ?_, pure_parts_of_address T h⟩)
  have hu := hr.units
  have hcode : cdv = .ref a.cc_parts_of_address := hcc.symm.trans T.cd_parts_of_address
  subst hcode
  have HR7 := hr.mono (show 0 + 7 ≤ 7 by decide)
  exact (pss_cons (ps_asg (pe_partition (pv 0) pe_str) (pg_tup rfl (pgs_cons (pg_name (i := 1) sc_parts_of_address.nd rfl (by first | exact Or.inl rfl | exact Or.inr rfl)) (pgs_cons (pg_name (i := 2) sc_parts_of_address.nd rfl (by first | exact Or.inl rfl | exact Or.inr rfl)) (pgs_cons (pg_name (i := 3) sc_parts_of_address.nd rfl (by first | exact Or.inl rfl | exact Or.inr rfl)) pgs_nil))))) (pss_cons (ps_asg (pe_partition (pv 3) pe_str) (pg_tup rfl (pgs_cons (pg_name (i := 4) sc_parts_of_address.nd rfl (by first | exact Or.inl rfl | exact Or.inr rfl)) (pgs_cons (pg_name (i := 5) sc_parts_of_address.nd rfl (by first | exact Or.inl rfl | exact Or.inr rfl)) (pgs_cons (pg_name (i := 6) sc_parts_of_address.nd rfl (by first | exact Or.inl rfl | exact Or.inr rfl)) pgs_nil))))) (pss_cons (ps_set (i := 7) sc_parts_of_address.nd rfl (by first | exact Or.inl rfl | exact Or.inr rfl) pe_str) (pss_cons (ps_set (i := 9) sc_parts_of_address.nd rfl (by first | exact Or.inl rfl | exact Or.inr rfl) (pe_and (pe_cmpR (u_ne hu) (pv 2) pe_str (nomark _)) (pe_and (pe_cmpR (u_ne hu) (pv 1) pe_str (nomark _)) (pe_one (pe_allX (own := [("sign", 8)]) (g := (gName 8)) (tt := tYes) (GenP.mk HR7 rfl sc_parts_of_address.nd (tabG TB_parts_of_address) rfl (gensx_by (by decide +kernel)) (pi_str (pv 1)) (blkOk_by (N := N_parts_of_address) (sc := defScope s_parts_of_address) (by decide +kernel)) (fun _ _ _ _ _ _ _ hrg => (pg_name (i := 8) sc_parts_of_address.nd rfl (by first | exact Or.inl rfl | exact Or.inr rfl))) (fun _ _ _ _ _ _ _ hrg => pts_nil) (fun _ _ _ _ _ _ _ hrg => (pe_cmpR (u_inV hrg.units) (pv 8) (pv 7) (by rfl))) (fun _ => rfl)) rfl T.no_all))))) (pss_cons (ps_if (PW.pt (pw_or (pt_not (pt_tru (pv 9))) (pw_or (pt_cmpR (u_eq hu) (pv 4) pe_str (nomark _)) (pw_or (pt_tru (pe_anyX (own := [("sign", 8)]) (g := (gName 8)) (tt := tYes) (GenP.mk HR7 rfl sc_parts_of_address.nd (tabG TB_parts_of_address) rfl (gensx_by (by decide +kernel)) (pi_str (pv 4)) (blkOk_by (N := N_parts_of_address) (sc := defScope s_parts_of_address) (by decide +kernel)) (fun _ _ _ _ _ _ _ hrg => (pg_name (i := 8) sc_parts_of_address.nd rfl (by first | exact Or.inl rfl | exact Or.inr rfl))) (fun _ _ _ _ _ _ _ hrg => pts_nil) (fun _ _ _ _ _ _ _ hrg => (pe_cmpR (u_notinV hrg.units) (pv 8) (pe_op u_add (pv 7) pe_str) (by rfl))) (fun _ => rfl)) rfl T.no_any)) (pw_or1 (pt_cmpR u_gt (pe_callB u_len (by rfl) T.no_len (by decide +kernel) (pa_cons (pv 0) pa_nil)) pe_int (nomark _))))))) (pss_one (ps_raise rfl (takes_of rfl rfl rfl rfl) (pmk_own PySem.F.excBase_ValueError T.xc_NameFault T.mgc_NameFault T.kc_NameFault (raises_own T.bc_NameFault T.tc_NameFault) (by rfl)))) pss_nil) (pss_one (ps_ret (pe_tup (pa_cons (pv 1) (pa_cons (pv 4) (pa_cons (pe_op u_add (pv 5) (pv 6)) pa_nil)))))))))))
theorem ok_covers_host (T : Txt K mg a) : FnOk P w K mg base (L2.CX P w) 1 a.f_covers_host a.fd_covers_host ["claimed", "host"] (sp_covers_host K a) := by
  refine FunD.ok T.fn_covers_host sc_covers_host (fun _ _ _ _ h => h.1) (fun cdv A outer s H vs Q E hr h => ⟨t_covers_host K a E, ?_, pure_covers_host T h⟩)
  have hu := hr.units
  exact (pss_cons (ps_if (pt_cmpR (u_eq hu) (pv 0) (pv 1) (nomark _)) (pss_one (ps_ret pe_int)) pss_nil) (pss_cons (ps_if (pt_cmpR (u_eq hu) (pv 0) pe_str (nomark _)) (pss_one (ps_ret pe_int)) pss_nil) (pss_one (ps_ret (pe_ifExp (PW.pt (pw_and (pt_tru (pe_m1 PySem.F.slot_str_startswith PySem.F.type_str_startswith mt_startswith (pv 0) pe_str)) (pw_and1 (pt_tru (pe_m1 PySem.F.slot_str_endswith PySem.F.type_str_endswith mt_endswith (pv 1) (pe_slice u_sl (pv 0) (po_some pe_int) po_none)))))) pe_int pe_non)))))
theorem ok_law_dice (T : Txt K mg a) : FnOk P w K mg base (L2.CX P w) 1 a.f_law_dice a.fd_law_dice ["cell"] (sp_law_dice K a) := by
  refine FunD.ok T.fn_law_dice sc_law_dice (fun _ _ _ _ h => h.1) (fun cdv A outer s H vs Q E hr h => ⟨t_law_dice K a E, ?_, pure_law_dice T h⟩)
  have hu := hr.units
  exact (pss_cons (ps_if (pt_chain u_lt u_lt (pe_op u_sub pe_int pe_int) (pv 0) pe_int) (pss_one (ps_ret (pe_lst (pa_cons (pe_callB u_abs (by rfl) T.no_abs (by decide +kernel) (pa_cons (pv 0) pa_nil)) (pa_cons pe_int (pa_cons pe_int pa_nil)))))) pss_nil) (pss_one (ps_ret (pe_lst (pa_cons (pv 0) (pa_cons (pe_op u_add pe_int (pe_op u_mod (pe_callTy call_int1 (by rfl) T.no_int (by decide +kernel) (pa_cons (pv 0) pa_nil)) pe_int)) (pa_cons (pe_callTy call_int1 (by rfl) T.no_int (by decide +kernel) (pa_cons (pe_cmpR u_ge (pv 0) (pe_op u_pow pe_int pe_int) (nomark _)) pa_nil)) pa_nil)))))))
theorem ok_law_roll (T : Txt K mg a) : FnOk P w K mg base (L2.CX P w) 1 a.f_law_roll a.fd_law_roll ["dice", "many"] (sp_law_roll K a) := by
  refine FunD.ok T.fn_law_roll sc_law_roll (fun _ _ _ _ h => h.1) (fun cdv A outer s H vs Q E hr h => ⟨t_law_roll K a E, ?_, pure_law_roll T h⟩)
  have hu := hr.units
  exact (pss_cons (ps_if (PW.pt (pw_or (pt_cmpR (u_eq hu) (pe_ix (u_ix hu) (pv 0) pe_int (fun _ _ => rfl)) pe_int (nomark _)) (pw_or1 (PW.pt (pw_and (pt_cmpR (u_eq hu) (pe_ix (u_ix hu) (pv 0) pe_int (fun _ _ => rfl)) pe_int (nomark _)) (pw_and1 (pt_cmpR u_gt (pe_ix (u_ix hu) (pv 0) pe_int (fun _ _ => rfl)) pe_int (nomark _)))))))) (pss_cons (ps_set (i := 2) sc_law_roll.nd rfl (by first | exact Or.inl rfl | exact Or.inr rfl) (pe_op u_mod (pe_callTy call_int1 (by rfl) T.no_int (by decide +kernel) (pa_cons (pe_ix (u_ix hu) (pv 0) pe_int (fun _ _ => rfl)) pa_nil)) (pv 1))) (pss_cons (ps_asg (pe_op u_div (pe_ix (u_ix hu) (pv 0) pe_int (fun _ _ => rfl)) (pv 1)) (pg_sub (pv 0) pe_int (u_set hu))) (pss_one (ps_ret (pv 2))))) pss_nil) (pss_cons (ps_asg pe_int (pg_sub (pv 0) pe_int (u_set hu))) (pss_cons (ps_if (pt_cmpR u_gt (pv 1) pe_int (nomark _)) pss_never pss_nil) (pss_cons (ps_asg (pe_op u_mod (pe_callTy call_int1 (by rfl) T.no_int (by decide +kernel) (pa_cons (pe_op u_add (pe_op u_add (pe_op u_mul (pe_ix (u_ix hu) (pv 0) pe_int (fun _ _ => rfl)) pe_int) (pe_op u_mul (pe_ix (u_ix hu) (pv 0) pe_int (fun _ _ => rfl)) pe_int)) pe_int) pa_nil)) pe_int) (pg_sub (pv 0) pe_int (u_set hu))) (pss_cons (ps_asg (pe_op u_add (pe_ix (u_ix hu) (pv 0) pe_int (fun _ _ => rfl)) pe_int) (pg_sub (pv 0) pe_int (u_set hu))) (pss_one (ps_ret (pe_op u_mod (pe_callTy call_int1 (by rfl) T.no_int (by decide +kernel) (pa_cons (pe_op u_div (pe_ix (u_ix hu) (pv 0) pe_int (fun _ _ => rfl)) pe_int) pa_nil)) (pv 1)))))))))
theorem ok_law_rounds (T : Txt K mg a) (G_law_dice : FnOk P w K mg base (L2.CX P w) 1 a.f_law_dice a.fd_law_dice ["cell"] (sp_law_dice K a)) : FnOk P w K mg base (L2.CX P w) 2 a.f_law_rounds a.fd_law_rounds ["script", "most"] (sp_law_rounds K a) := by
  refine FunD.ok T.fn_law_rounds sc_law_rounds (fun _ _ _ _ h => h.1) (fun cdv A outer s H vs Q E hr h => ⟨t_law_rounds K a E, ?_, pure_law_rounds T h⟩)
  have hu := hr.units
  have hr_law_dice := hr.mono (show 1 ≤ 1 by decide)
  exact (pss_cons (ps_set (i := 2) sc_law_rounds.nd rfl (by first | exact Or.inl rfl | exact Or.inr rfl) (pe_slice u_sl (pv 0) po_none (po_some (pv 1)))) (pss_cons (ps_if (pt_cmpR (u_eq hu) (pv 2) (pe_lst pa_nil) (nomark _)) (pss_one (ps_set (i := 2) sc_law_rounds.nd rfl (by first | exact Or.inl rfl | exact Or.inr rfl) (pe_lst (pa_cons pe_int pa_nil)))) pss_nil) (pss_one (ps_ret (pe_lc (own := [("cell", 3)]) (g := (gName 3)) (tt := tYes) rfl sc_law_rounds.nd (pi_list (pv 2)) (blkOk_by (N := N_law_rounds) (sc := defScope s_law_rounds) (by decide +kernel)) (fun _ _ _ _ _ => (pg_name (i := 3) sc_law_rounds.nd rfl (by first | exact Or.inl rfl | exact Or.inr rfl))) (fun _ _ _ _ _ => pts_nil) (fun _ _ _ _ _ => (pe_call G_law_dice hr_law_dice rfl T.mg_law_dice T.fn_law_dice.kp T.bi_law_dice .nil passL (pa_cons (pv 3) pa_nil))))))))
theorem ok_law_fit (T : Txt K mg a) : FnOk P w K mg base (L2.CX P w) 1 a.f_law_fit a.fd_law_fit ["claimed", "host"] (sp_law_fit K a) := by
  refine FunD.ok T.fn_law_fit sc_law_fit (fun _ _ _ _ h => h.1) (fun cdv A outer s H vs Q E hr h => ⟨t_law_fit K a E, ?_, pure_law_fit T h⟩)
  have hu := hr.units
  exact (pss_cons (ps_if (PW.pt (pw_or (pt_cmpR (u_eq hu) (pv 0) (pv 1) (nomark _)) (pw_or1 (pt_cmpR (u_eq hu) (pv 0) pe_str (nomark _))))) (pss_one (ps_ret (pe_ifExp (pt_cmpR (u_eq hu) (pv 0) (pv 1) (nomark _)) pe_int pe_int))) pss_nil) (pss_one (ps_ret (pe_ifExp (PW.pt (pw_and (pt_cmpR (u_eq hu) (pe_slice u_sl (pv 0) po_none (po_some pe_int)) pe_str (nomark _)) (pw_and (pt_cmpR (u_eq hu) (pe_slice u_sl (pv 1) (po_some (pe_op u_add (pe_op u_sub (pe_callB u_len (by rfl) T.no_len (by decide +kernel) (pa_cons (pv 1) pa_nil)) (pe_callB u_len (by rfl) T.no_len (by decide +kernel) (pa_cons (pv 0) pa_nil))) pe_int)) po_none) (pe_slice u_sl (pv 0) (po_some pe_int) po_none) (nomark _)) (pw_and1 (pt_cmpR u_ge (pe_callB u_len (by rfl) T.no_len (by decide +kernel) (pa_cons (pv 1) pa_nil)) (pe_op u_sub (pe_callB u_len (by rfl) T.no_len (by decide +kernel) (pa_cons (pv 0) pa_nil)) pe_int) (nomark _)))))) pe_int pe_non))))
theorem ok_law_best (T : Txt K mg a) (G_law_fit : FnOk P w K mg base (L2.CX P w) 1 a.f_law_fit a.fd_law_fit ["claimed", "host"] (sp_law_fit K a)) : FnOk P w K mg base (L2.CX P w) 2 a.f_law_best a.fd_law_best ["claims", "scheme", "host", "path"] (sp_law_best K a) := by
  refine FunD.ok T.fn_law_best sc_law_best (fun _ _ _ _ h => h.1) (fun cdv A outer s H vs Q E hr h => ⟨t_law_best K a E, ?_, pure_law_best T h⟩)
  have hu := hr.units
  have hr_law_fit := hr.mono (show 1 ≤ 1 by decide)
  exact (pss_cons (ps_setLc (i := 9) (own := [("app", 4), ("kind", 5), ("claimed", 6), ("start", 7), ("proved", 8)]) (g := (gTup K 5 (gCons (gName 4) (gCons (gName 5) (gCons (gName 6) (gCons (gName 7) (gCons (gName 8) gNil))))))) (tt := (tAnd (tTest (tOp (rEqU K) (tVar 5) (tVar 1))) (tAnd (tTest (tOp rNotN (tCall (sp_law_fit K a) [] E0 (tCons (tVar 6) (tCons (tVar 2) tNil))) (tC .non))) (tTest (tOp (rEqU K) (tSl (rSlU K) (tVar 3) tNoPart (tPart (tCB (rLenU K) (tCons (tVar 7) tNil)))) (tVar 7)))))) rfl sc_law_best.nd rfl rfl (sw_true rfl rfl rfl (by decide +kernel)) (pi_list (pv 0)) (blkOk_by (N := N_law_best) (sc := defScope s_law_best) (by decide +kernel)) (fun _ _ _ _ _ => (pg_tup rfl (pgs_cons (pg_name (i := 4) sc_law_best.nd rfl (by first | exact Or.inl rfl | exact Or.inr rfl)) (pgs_cons (pg_name (i := 5) sc_law_best.nd rfl (by first | exact Or.inl rfl | exact Or.inr rfl)) (pgs_cons (pg_name (i := 6) sc_law_best.nd rfl (by first | exact Or.inl rfl | exact Or.inr rfl)) (pgs_cons (pg_name (i := 7) sc_law_best.nd rfl (by first | exact Or.inl rfl | exact Or.inr rfl)) (pgs_cons (pg_name (i := 8) sc_law_best.nd rfl (by first | exact Or.inl rfl | exact Or.inr rfl)) pgs_nil))))))) (fun _ _ _ _ _ => (pts_one (PW.pt (pw_and (pt_cmpR (u_eq hu) (pv 5) (pv 1) (nomark _)) (pw_and (pt_cmpR u_notN (pe_call G_law_fit hr_law_fit rfl T.mg_law_fit T.fn_law_fit.kp T.bi_law_fit .nil passL (pa_cons (pv 6) (pa_cons (pv 2) pa_nil))) pe_non (nomark _)) (pw_and1 (pt_cmpR (u_eq hu) (pe_slice u_sl (pv 3) po_none (po_some (pe_callB u_len (by rfl) T.no_len (by decide +kernel) (pa_cons (pv 7) pa_nil)))) (pv 7) (nomark _)))))))) (fun _ _ _ _ _ => (pe_tup (pa_cons (pe_tup (pa_cons (pv 8) (pa_cons (pe_call G_law_fit hr_law_fit rfl T.mg_law_fit T.fn_law_fit.kp T.bi_law_fit .nil passL (pa_cons (pv 6) (pa_cons (pv 2) pa_nil))) (pa_cons (pe_callB u_len (by rfl) T.no_len (by decide +kernel) (pa_cons (pv 7) pa_nil)) pa_nil)))) (pa_cons (pv 4) pa_nil))))) (pss_cons (ps_set (i := 11) sc_law_best.nd rfl (by first | exact Or.inl rfl | exact Or.inr rfl) (pe_ifExp (pt_cmpR (u_neY hu) (pv 9) (pe_lst pa_nil) (nomark _)) (pe_callB (cr_maxT rfl hu) (by rfl) T.no_max (by decide +kernel) (pa_cons (pe_lc (own := [("row", 10)]) (g := (gName 10)) (tt := tYes) rfl sc_law_best.nd (pi_list (pv 9)) (blkOk_by (N := N_law_best) (sc := defScope s_law_best) (by decide +kernel)) (fun _ _ _ _ _ => (pg_name (i := 10) sc_law_best.nd rfl (by first | exact Or.inl rfl | exact Or.inr rfl))) (fun _ _ _ _ _ => pts_nil) (fun _ _ _ _ _ => (pe_ix (u_ix hu) (pv 10) pe_int (fun _ _ => rfl)))) pa_nil)) pe_non)) (pss_one (ps_ret (pe_callB (u_sorted rfl) (by rfl) T.no_sorted (by decide +kernel) (pa_cons (pe_callTy (u_dict rfl) (by rfl) T.no_dict (by decide +kernel) (pa_cons (pe_lc (own := [("key", 12), ("app", 4)]) (g := (gTup K 2 (gCons (gName 12) (gCons (gName 4) gNil)))) (tt := (tTest (tOp (rEqU K) (tVar 12) (tVar 11)))) rfl sc_law_best.nd (pi_list (pv 9)) (blkOk_by (N := N_law_best) (sc := defScope s_law_best) (by decide +kernel)) (fun _ _ _ _ _ => (pg_tup rfl (pgs_cons (pg_name (i := 12) sc_law_best.nd rfl (by first | exact Or.inl rfl | exact Or.inr rfl)) (pgs_cons (pg_name (i := 4) sc_law_best.nd rfl (by first | exact Or.inl rfl | exact Or.inr rfl)) pgs_nil)))) (fun _ _ _ _ _ => (pts_one (pt_cmpR (u_eq hu) (pv 12) (pv 11) (nomark _)))) (fun _ _ _ _ _ => (pe_tup (pa_cons (pv 4) (pa_cons pe_int pa_nil))))) pa_nil)) pa_nil))))))
theorem ok_law (T : Txt K mg a) (G_Claim__init : FnOk P w K mg base (L2.CX P w) 1 a.f_Claim__init a.fd_Claim__init ["self", "app", "scheme", "host", "path", "proved"] (sp_Claim__init K a)) (G_Openers__init : FnOk P w K mg base (L2.CX P w) 1 a.f_Openers__init a.fd_Openers__init ["self"] (sp_Openers__init K a)) (G_Openers_claim : FnOk P w K mg base (L2.CX P w) 9 a.f_Openers_claim a.fd_Openers_claim ["self", "app", "address", "proved"] (sp_Openers_claim K a)) (G_Openers_fitting : FnOk P w K mg base (L2.CX P w) 9 a.f_Openers_fitting a.fd_Openers_fitting ["self", "address"] (sp_Openers_fitting K a)) (G_Openers_forget : FnOk P w K mg base (L2.CX P w) 1 a.f_Openers_forget a.fd_Openers_forget ["self", "app"] (sp_Openers_forget K a)) (G_Openers_opens : FnOk P w K mg base (L2.CX P w) 10 a.f_Openers_opens a.fd_Openers_opens ["self", "address"] (sp_Openers_opens K a)) (G_Openers_want_always : FnOk P w K mg base (L2.CX P w) 9 a.f_Openers_want_always a.fd_Openers_want_always ["self", "app", "address"] (sp_Openers_want_always K a)) (G_covers_host : FnOk P w K mg base (L2.CX P w) 1 a.f_covers_host a.fd_covers_host ["claimed", "host"] (sp_covers_host K a)) (G_law_best : FnOk P w K mg base (L2.CX P w) 2 a.f_law_best a.fd_law_best ["claims", "scheme", "host", "path"] (sp_law_best K a)) (G_law_fit : FnOk P w K mg base (L2.CX P w) 1 a.f_law_fit a.fd_law_fit ["claimed", "host"] (sp_law_fit K a)) (G_law_roll : FnOk P w K mg base (L2.CX P w) 1 a.f_law_roll a.fd_law_roll ["dice", "many"] (sp_law_roll K a)) (G_law_rounds : FnOk P w K mg base (L2.CX P w) 2 a.f_law_rounds a.fd_law_rounds ["script", "most"] (sp_law_rounds K a)) (G_parts_of_address : FnOk P w K mg base (L2.CX P w) 8 a.f_parts_of_address a.fd_parts_of_address ["address"] (sp_parts_of_address K a)) (TB_law : TabB base mg a.cc_law a.tb_law) : FnOk P w K mg base (L2.CX P w) 12 a.f_law a.fd_law ["script"] (sp_law K a) := by
  refine FunD.okC T.fn_law sc_law (fun _ _ _ _ h => h.1) (fun cdv A outer s H vs Q E hr hcc h => ⟨t_law K a E, ?_, pure_law T h⟩)
  have hu := hr.units
  have hm_Claim__init := hr.mono (show 2 ≤ 11 by decide)
  have hm_Openers__init := hr.mono (show 2 ≤ 11 by decide)
  have hr_Openers_fitting := hr.mono (show 9 ≤ 11 by decide)
  have hr_Openers_forget := hr.mono (show 1 ≤ 11 by decide)
  have hr_Openers_opens := hr.mono (show 10 ≤ 11 by decide)
  have hr_covers_host := hr.mono (show 1 ≤ 11 by decide)
  have hr_law_best := hr.mono (show 2 ≤ 11 by decide)
  have hr_law_fit := hr.mono (show 1 ≤ 11 by decide)
  have hr_law_roll := hr.mono (show 1 ≤ 11 by decide)
  have hr_law_rounds := hr.mono (show 2 ≤ 11 by decide)
  have hr_parts_of_address := hr.mono (show 8 ≤ 11 by decide)
  obtain ⟨ds_Claim__init_5, vd_Claim__init_5, bd_Claim__init_5⟩ := T.bi_Claim__init_5
  obtain ⟨ds_Openers_claim_3, vd_Openers_claim_3, bd_Openers_claim_3⟩ := T.bi_Openers_claim_3
  have hcode : cdv = .ref a.cc_law := hcc.symm.trans T.cd_law
  subst hcode
  have hr_lam := hr.mono (show 9 + 2 ≤ 11 by decide)
  obtain ⟨oc1, od1, dV1, kV1, doc1, pm1, an1, cd1, ct1, osl1, efd, lkT, hcdT, _, _⟩ := T.fn_law_told.ex
  have biT := T.bi_law_told
  rw [efd] at lkT biT
  exact (pss_cons (ps_par (i := 1) (j := 2) rfl sc_law.nd rfl rfl (by decide) rfl rfl (pa_cons (pe_lst (pa_cons pe_str (pa_cons pe_str (pa_cons pe_str (pa_cons pe_str pa_nil))))) (pa_cons (pe_lst (pa_cons pe_str (pa_cons pe_str (pa_cons pe_str (pa_cons pe_str (pa_cons pe_str pa_nil)))))) pa_nil)) (by rfl)) (pss_cons (ps_for (passes_of rfl) rfl (pi_list (pe_call G_law_rounds hr_law_rounds rfl T.mg_law_rounds T.fn_law_rounds.kp T.bi_law_rounds .nil passX (pa_cons (pv 0) (pa_cons pe_int pa_nil)))) (pg_name (i := 3) sc_law.nd rfl (by first | exact Or.inl rfl | exact Or.inr rfl)) (pss_cons (ps_asg (pe_tup (pa_cons (pe_make0 T.mk_Openers G_Openers__init hm_Openers__init rfl T.mgc_Openers T.bi_Openers__init .nil passX) (pa_cons (pe_lst pa_nil) (pa_cons pe_dnewT pa_nil)))) (pg_tup rfl (pgs_cons (pg_name (i := 4) sc_law.nd rfl (by first | exact Or.inl rfl | exact Or.inr rfl)) (pgs_cons (pg_name (i := 5) sc_law.nd rfl (by first | exact Or.inl rfl | exact Or.inr rfl)) (pgs_cons (pg_name (i := 6) sc_law.nd rfl (by first | exact Or.inl rfl | exact Or.inr rfl)) pgs_nil))))) (pss_cons (ps_for (passes_of rfl) rfl (pi_range1 rfl T.no_range (pa_cons (pe_call G_law_roll hr_law_roll rfl T.mg_law_roll T.fn_law_roll.kp T.bi_law_roll .nil passX (pa_cons (pv 3) (pa_cons pe_int pa_nil))) pa_nil)) (pg_name (i := 7) sc_law.nd rfl (by first | exact Or.inl rfl | exact Or.inr rfl)) (pss_cons (ps_asg (pe_tup (pa_cons (pe_call G_law_roll hr_law_roll rfl T.mg_law_roll T.fn_law_roll.kp T.bi_law_roll .nil passX (pa_cons (pv 3) (pa_cons pe_int pa_nil))) (pa_cons (pe_ix (u_ix hu) (pe_lst (pa_cons pe_str (pa_cons pe_str (pa_cons pe_str (pa_cons pe_str pa_nil))))) (pe_call G_law_roll hr_law_roll rfl T.mg_law_roll T.fn_law_roll.kp T.bi_law_roll .nil passX (pa_cons (pv 3) (pa_cons pe_int pa_nil))) (fun _ _ => rfl)) pa_nil))) (pg_tup rfl (pgs_cons (pg_name (i := 8) sc_law.nd rfl (by first | exact Or.inl rfl | exact Or.inr rfl)) (pgs_cons (pg_name (i := 9) sc_law.nd rfl (by first | exact Or.inl rfl | exact Or.inr rfl)) pgs_nil)))) (pss_cons (ps_asg (pe_tup (pa_cons (pe_ix (u_ix hu) (pe_lst (pa_cons pe_str (pa_cons pe_str (pa_cons pe_str pa_nil)))) (pe_call G_law_roll hr_law_roll rfl T.mg_law_roll T.fn_law_roll.kp T.bi_law_roll .nil passX (pa_cons (pv 3) (pa_cons pe_int pa_nil))) (fun _ _ => rfl)) (pa_cons (pe_ix (u_ix hu) (pv 1) (pe_call G_law_roll hr_law_roll rfl T.mg_law_roll T.fn_law_roll.kp T.bi_law_roll .nil passX (pa_cons (pv 3) (pa_cons pe_int pa_nil))) (fun _ _ => rfl)) (pa_cons (pe_ix (u_ix hu) (pv 2) (pe_call G_law_roll hr_law_roll rfl T.mg_law_roll T.fn_law_roll.kp T.bi_law_roll .nil passX (pa_cons (pv 3) (pa_cons pe_int pa_nil))) (fun _ _ => rfl)) pa_nil)))) (pg_tup rfl (pgs_cons (pg_name (i := 10) sc_law.nd rfl (by first | exact Or.inl rfl | exact Or.inr rfl)) (pgs_cons (pg_name (i := 11) sc_law.nd rfl (by first | exact Or.inl rfl | exact Or.inr rfl)) (pgs_cons (pg_name (i := 12) sc_law.nd rfl (by first | exact Or.inl rfl | exact Or.inr rfl)) pgs_nil))))) (pss_cons (ps_set (i := 13) sc_law.nd rfl (by first | exact Or.inl rfl | exact Or.inr rfl) (pe_ix (u_ix hu) (pe_lst (pa_cons (pv 11) (pa_cons pe_str (pa_cons (pe_op u_add pe_str (pv 11)) (pa_cons (pv 11) pa_nil))))) (pe_call G_law_roll hr_law_roll rfl T.mg_law_roll T.fn_law_roll.kp T.bi_law_roll .nil passX (pa_cons (pv 3) (pa_cons pe_int pa_nil))) (fun _ _ => rfl))) (pss_cons (ps_if (pt_cmpR u_lt (pv 8) pe_int (nomark _)) (pss_cons (ps_set (i := 14) sc_law.nd rfl (by first | exact Or.inl rfl | exact Or.inr rfl) (pe_cmpR (u_eq hu) (pe_call G_law_roll hr_law_roll rfl T.mg_law_roll T.fn_law_roll.kp T.bi_law_roll .nil passX (pa_cons (pv 3) (pa_cons pe_int pa_nil))) pe_int (nomark _))) (pss_cons (ps_set (i := 16) sc_law.nd rfl (by first | exact Or.inl rfl | exact Or.inr rfl) (pe_cmpR (u_neY hu) (pe_lc (own := [("row", 15)]) (g := (gName 15)) (tt := (tTest (tOp (rEqU K) (tSl (rSlU K) (tVar 15) tNoPart (tPart (tC (.int 4)))) (tTup (tCons (tVar 9) (tCons (tVar 10) (tCons (tVar 13) (tCons (tVar 12) tNil)))))))) rfl sc_law.nd (pi_list (pv 5)) (blkOk_by (N := N_law) (sc := defScope s_law) (by decide +kernel)) (fun _ _ _ _ _ => (pg_name (i := 15) sc_law.nd rfl (by first | exact Or.inl rfl | exact Or.inr rfl))) (fun _ _ _ _ _ => (pts_one (pt_cmpR (u_eq hu) (pe_slice u_sl (pv 15) po_none (po_some pe_int)) (pe_tup (pa_cons (pv 9) (pa_cons (pv 10) (pa_cons (pv 13) (pa_cons (pv 12) pa_nil))))) (nomark _)))) (fun _ _ _ _ _ => (pv 15))) (pe_lst pa_nil) (nomark _))) (pss_cons (ps_if (pt_cmpR (u_ne hu) (pe_cmpR (u_eq hu) (pe_lamP (t := fun E => (tMeth a.c_Openers "claim" (sp_Openers_claim K a) [] E (tVar 4) (tCons (tVar 9) (tCons (tOp (rAddU K) (tOp (rAddU K) (tOp (rAddU K) (tVar 10) (tC (.str "://"))) (tVar 13)) (tVar 12)) (tCons (tVar 14) tNil))))) rfl T.mg_law_told T.fn_law_told.kp lkT hcdT biT sc_law_told rfl (by first | exact Or.inl rfl | exact Or.inr (Or.inl rfl)) (told_gives rfl T.mgc_NameFault (by decide) (fun _ => rfl)) TB_law rfl hr_lam (lamS_by (sc := defScope s_law) (by decide +kernel)) rfl (by intros; rfl) (fun A outer s H E f c' hrl => (pe_meth (pv 4) T.cl_Openers T.me_Openers_claim G_Openers_claim (hrl.mono (by decide)) T.bi_Openers_claim .nil passLam (pa_cons (pv 9) (pa_cons (pe_op u_add (pe_op u_add (pe_op u_add (pv 10) pe_str) (pv 13)) (pv 12)) (pa_cons (pv 14) pa_nil)))))) pe_str (nomark _)) (pv 16) (nomark _)) (pss_one (ps_ret pe_bl)) pss_nil) (pss_one (ps_set (i := 5) sc_law.nd rfl (by first | exact Or.inl rfl | exact Or.inr rfl) (pe_op u_add (pv 5) (pe_op u_mul (pe_lst (pa_cons (pe_tup (pa_cons (pv 9) (pa_cons (pv 10) (pa_cons (pv 13) (pa_cons (pv 12) (pa_cons (pv 14) pa_nil)))))) pa_nil)) (pe_callTy call_int1 (by rfl) T.no_int (by decide +kernel) (pa_cons (pe_not (pv 16)) pa_nil))))))))) (pss_one (ps_if (pt_cmpR u_lt (pv 8) pe_int (nomark _)) (pss_cons (ps_set (i := 17) sc_law.nd rfl (by first | exact Or.inl rfl | exact Or.inr rfl) (pe_cmpR (u_neY hu) (pe_lc (own := [("row", 15)]) (g := (gName 15)) (tt := (tAnd (tTest (tOp (rEqU K) (tOp (rIxU K) (tVar 15) (tC (.int 0))) (tVar 9))) (tAnd (tTest (tOp (rEqU K) (tOp (rIxU K) (tVar 15) (tC (.int 1))) (tVar 10))) (tTest (tOp rNotN (tCall (sp_law_fit K a) [] E0 (tCons (tOp (rIxU K) (tVar 15) (tC (.int 2))) (tCons (tVar 11) tNil))) (tC .non)))))) rfl sc_law.nd (pi_list (pv 5)) (blkOk_by (N := N_law) (sc := defScope s_law) (by decide +kernel)) (fun _ _ _ _ _ => (pg_name (i := 15) sc_law.nd rfl (by first | exact Or.inl rfl | exact Or.inr rfl))) (fun _ _ _ _ _ => (pts_one (PW.pt (pw_and (pt_cmpR (u_eq hu) (pe_ix (u_ix hu) (pv 15) pe_int (fun _ _ => rfl)) (pv 9) (nomark _)) (pw_and (pt_cmpR (u_eq hu) (pe_ix (u_ix hu) (pv 15) pe_int (fun _ _ => rfl)) (pv 10) (nomark _)) (pw_and1 (pt_cmpR u_notN (pe_call G_law_fit hr_law_fit rfl T.mg_law_fit T.fn_law_fit.kp T.bi_law_fit .nil passL (pa_cons (pe_ix (u_ix hu) (pv 15) pe_int (fun _ _ => rfl)) (pa_cons (pv 11) pa_nil))) pe_non (nomark _)))))))) (fun _ _ _ _ _ => (pv 15))) (pe_lst pa_nil) (nomark _))) (pss_cons (ps_if (pt_cmpR (u_ne hu) (pe_cmpR (u_eq hu) (pe_lamP (t := fun E => (tMeth a.c_Openers "want_always" (sp_Openers_want_always K a) [] E (tVar 4) (tCons (tVar 9) (tCons (tOp (rAddU K) (tOp (rAddU K) (tOp (rAddU K) (tVar 10) (tC (.str "://"))) (tVar 11)) (tVar 12)) tNil)))) rfl T.mg_law_told T.fn_law_told.kp lkT hcdT biT sc_law_told rfl (by first | exact Or.inl rfl | exact Or.inr (Or.inl rfl)) (told_gives rfl T.mgc_NameFault (by decide) (fun _ => rfl)) TB_law rfl hr_lam (lamS_by (sc := defScope s_law) (by decide +kernel)) rfl (by intros; rfl) (fun A outer s H E f c' hrl => (pe_meth (pv 4) T.cl_Openers T.me_Openers_want_always G_Openers_want_always (hrl.mono (by decide)) T.bi_Openers_want_always .nil passLam (pa_cons (pv 9) (pa_cons (pe_op u_add (pe_op u_add (pe_op u_add (pv 10) pe_str) (pv 11)) (pv 12)) pa_nil))))) pe_str (nomark _)) (pe_not (pv 17)) (nomark _)) (pss_one (ps_ret pe_bl)) pss_nil) (pss_one (ps_set (i := 6) sc_law.nd rfl (by first | exact Or.inl rfl | exact Or.inr rfl) (pe_callTy (u_dictW rfl hu) (by rfl) T.no_dict (by decide +kernel) (pa_cons (pe_op u_add (pe_listItemsT rfl (pv 6) (by rfl) T.no_list (by decide +kernel)) (pe_op u_mul (pe_lst (pa_cons (pe_tup (pa_cons (pe_tup (pa_cons (pv 10) (pa_cons (pv 11) pa_nil))) (pa_cons (pv 9) pa_nil))) pa_nil)) (pe_callTy call_int1 (by rfl) T.no_int (by decide +kernel) (pa_cons (pv 17) pa_nil)))) pa_nil)))))) (pss_cons (ps_expr (pe_meth (pv 4) T.cl_Openers T.me_Openers_forget G_Openers_forget hr_Openers_forget T.bi_Openers_forget .nil passX (pa_cons (pv 9) pa_nil))) (pss_one (ps_asg (pe_tup (pa_cons (pe_lc (own := [("row", 15)]) (g := (gName 15)) (tt := (tTest (tOp (rNeU K) (tOp (rIxU K) (tVar 15) (tC (.int 0))) (tVar 9)))) rfl sc_law.nd (pi_list (pv 5)) (blkOk_by (N := N_law) (sc := defScope s_law) (by decide +kernel)) (fun _ _ _ _ _ => (pg_name (i := 15) sc_law.nd rfl (by first | exact Or.inl rfl | exact Or.inr rfl))) (fun _ _ _ _ _ => (pts_one (pt_cmpR (u_ne hu) (pe_ix (u_ix hu) (pv 15) pe_int (fun _ _ => rfl)) (pv 9) (nomark _)))) (fun _ _ _ _ _ => (pv 15))) (pa_cons (pe_callTy (u_dictV rfl hu) (by rfl) T.no_dict (by decide +kernel) (pa_cons (pe_lock (pe_lc (own := [("key", 18)]) (g := (gName 18)) (tt := (tTest (tOp (rNeU K) (tOp (rIxU K) (tVar 6) (tVar 18)) (tVar 9)))) rfl sc_law.nd (pi_keys (pv 6)) (blkOk_by (N := N_law) (sc := defScope s_law) (by decide +kernel)) (fun _ _ _ _ _ => (pg_name (i := 18) sc_law.nd rfl (by first | exact Or.inl rfl | exact Or.inr rfl))) (fun _ _ _ _ _ => (pts_one (pt_cmpR (u_ne hu) (pe_ix (u_ix hu) (pv 6) (pv 18) (fun _ _ => rfl)) (pv 9) (nomark _)))) (fun _ _ _ _ _ => (pe_tup (pa_cons (pv 18) (pa_cons (pe_ix (u_ix hu) (pv 6) (pv 18) (fun _ _ => rfl)) pa_nil)))))) pa_nil)) pa_nil))) (pg_tup rfl (pgs_cons (pg_name (i := 5) sc_law.nd rfl (by first | exact Or.inl rfl | exact Or.inr rfl)) (pgs_cons (pg_name (i := 6) sc_law.nd rfl (by first | exact Or.inl rfl | exact Or.inr rfl)) pgs_nil))))))))) (pss_one (ps_if (PW.pt (pw_or (pt_cmpR (u_ne hu) (pe_lc (own := [("one", 19)]) (g := (gName 19)) (tt := tYes) rfl sc_law.nd (pi_list (pe_fld (pv 4) rfl)) (blkOk_by (N := N_law) (sc := defScope s_law) (by decide +kernel)) (fun _ _ _ _ _ => (pg_name (i := 19) sc_law.nd rfl (by first | exact Or.inl rfl | exact Or.inr rfl))) (fun _ _ _ _ _ => pts_nil) (fun _ _ _ _ _ => (pe_tup (pa_cons (pe_fld (pv 19) rfl) (pa_cons (pe_fld (pv 19) rfl) (pa_cons (pe_fld (pv 19) rfl) (pa_cons (pe_fld (pv 19) rfl) (pa_cons (pe_fld (pv 19) rfl) pa_nil)))))))) (pv 5) (nomark _)) (pw_or1 (pt_cmpR (u_neZ hu) (pe_fld (pv 4) rfl) (pv 6) (nomark _))))) (pss_one (ps_ret pe_bl)) pss_nil))))))) (pss_one (ps_for (passes_of rfl) rfl (pi_list (pe_lst (pa_cons pe_str (pa_cons pe_str (pa_cons pe_str pa_nil))))) (pg_name (i := 10) sc_law.nd rfl (by first | exact Or.inl rfl | exact Or.inr rfl)) (pss_one (ps_for (passes_of rfl) rfl (pi_list (pv 1)) (pg_name (i := 11) sc_law.nd rfl (by first | exact Or.inl rfl | exact Or.inr rfl)) (pss_cons (ps_for (passes_of rfl) rfl (pi_list (pv 2)) (pg_name (i := 12) sc_law.nd rfl (by first | exact Or.inl rfl | exact Or.inr rfl)) (pss_cons (ps_asg (pe_tup (pa_cons (pe_call G_law_best hr_law_best rfl T.mg_law_best T.fn_law_best.kp T.bi_law_best .nil passX (pa_cons (pv 5) (pa_cons (pv 10) (pa_cons (pv 11) (pa_cons (pv 12) pa_nil))))) (pa_cons (pe_get1 hu (pv 6) (pe_tup (pa_cons (pv 10) (pa_cons (pv 11) pa_nil))) ⟨rfl, rfl, rfl, rfl⟩) pa_nil))) (pg_tup rfl (pgs_cons (pg_name (i := 20) sc_law.nd rfl (by first | exact Or.inl rfl | exact Or.inr rfl)) (pgs_cons (pg_name (i := 21) sc_law.nd rfl (by first | exact Or.inl rfl | exact Or.inr rfl)) pgs_nil)))) (pss_cons (ps_set (i := 17) sc_law.nd rfl (by first | exact Or.inl rfl | exact Or.inr rfl) (pe_cmpR (u_neY hu) (pe_lc (own := [("row", 15)]) (g := (gName 15)) (tt := (tAnd (tTest (tOp (rEqU K) (tOp (rIxU K) (tVar 15) (tC (.int 0))) (tVar 21))) (tAnd (tTest (tOp (rEqU K) (tOp (rIxU K) (tVar 15) (tC (.int 1))) (tVar 10))) (tAnd (tTest (tOp rNotN (tCall (sp_law_fit K a) [] E0 (tCons (tOp (rIxU K) (tVar 15) (tC (.int 2))) (tCons (tVar 11) tNil))) (tC .non))) (tTest (tOp (rEqU K) (tSl (rSlU K) (tVar 12) tNoPart (tPart (tCB (rLenU K) (tCons (tOp (rIxU K) (tVar 15) (tC (.int 3))) tNil)))) (tOp (rIxU K) (tVar 15) (tC (.int 3))))))))) rfl sc_law.nd (pi_list (pv 5)) (blkOk_by (N := N_law) (sc := defScope s_law) (by decide +kernel)) (fun _ _ _ _ _ => (pg_name (i := 15) sc_law.nd rfl (by first | exact Or.inl rfl | exact Or.inr rfl))) (fun _ _ _ _ _ => (pts_one (PW.pt (pw_and (pt_cmpR (u_eq hu) (pe_ix (u_ix hu) (pv 15) pe_int (fun _ _ => rfl)) (pv 21) (nomark _)) (pw_and (pt_cmpR (u_eq hu) (pe_ix (u_ix hu) (pv 15) pe_int (fun _ _ => rfl)) (pv 10) (nomark _)) (pw_and (pt_cmpR u_notN (pe_call G_law_fit hr_law_fit rfl T.mg_law_fit T.fn_law_fit.kp T.bi_law_fit .nil passL (pa_cons (pe_ix (u_ix hu) (pv 15) pe_int (fun _ _ => rfl)) (pa_cons (pv 11) pa_nil))) pe_non (nomark _)) (pw_and1 (pt_cmpR (u_eq hu) (pe_slice u_sl (pv 12) po_none (po_some (pe_callB u_len (by rfl) T.no_len (by decide +kernel) (pa_cons (pe_ix (u_ix hu) (pv 15) pe_int (fun _ _ => rfl)) pa_nil)))) (pe_ix (u_ix hu) (pv 15) pe_int (fun _ _ => rfl)) (nomark _))))))))) (fun _ _ _ _ _ => (pv 15))) (pe_lst pa_nil) (nomark _))) (pss_cons (ps_set (i := 22) sc_law.nd rfl (by first | exact Or.inl rfl | exact Or.inr rfl) (pe_ifExp (pt_tru (pv 17)) (pe_tup (pa_cons pe_str (pa_cons (pv 21) pa_nil))) (pe_ifExp (pt_cmpR (u_eq hu) (pv 20) (pe_lst pa_nil) (nomark _)) (pe_tup (pa_cons pe_str pa_nil)) (pe_ifExp (pt_cmpR (u_eq hu) (pe_callB u_len (by rfl) T.no_len (by decide +kernel) (pa_cons (pv 20) pa_nil)) pe_int (nomark _)) (pe_tup (pa_cons pe_str (pa_cons (pe_ix (u_ix hu) (pv 20) pe_int (fun _ _ => rfl)) pa_nil))) (pe_tup (pa_cons pe_str (pa_cons (pe_callTy call_tuple_of (by rfl) T.no_tuple (by decide +kernel) (pa_cons (pv 20) pa_nil)) pa_nil))))))) (pss_one (ps_if (PW.pt (pw_or (pt_cmpR (u_ne hu) (pe_meth (pv 4) T.cl_Openers T.me_Openers_opens G_Openers_opens hr_Openers_opens T.bi_Openers_opens .nil passX (pa_cons (pe_op u_add (pe_op u_add (pe_op u_add (pv 10) pe_str) (pv 11)) (pv 12)) pa_nil)) (pv 22) (nomark _)) (pw_or (pt_cmpR (u_ne hu) (pe_callTy call_list_of (by rfl) T.no_list (by decide +kernel) (pa_cons (pe_meth (pv 4) T.cl_Openers T.me_Openers_fitting G_Openers_fitting hr_Openers_fitting T.bi_Openers_fitting .nil passX (pa_cons (pe_op u_add (pe_op u_add (pe_op u_add (pv 10) pe_str) (pv 11)) (pv 12)) pa_nil)) pa_nil)) (pv 20) (nomark _)) (pw_or1 (pt_cmpR (u_ne hu) (pe_call G_parts_of_address hr_parts_of_address rfl T.mg_parts_of_address T.fn_parts_of_address.kp T.bi_parts_of_address .nil passX (pa_cons (pe_op u_add (pe_op u_add (pe_op u_add (pv 10) pe_str) (pv 11)) (pv 12)) pa_nil)) (pe_tup (pa_cons (pv 10) (pa_cons (pv 11) (pa_cons (pv 12) pa_nil)))) (nomark _)))))) (pss_one (ps_ret pe_bl)) pss_nil)))))) (pss_one (ps_for (passes_of rfl) rfl (pi_list (pe_op u_add (pe_op u_add (pv 1) (pe_lst (pa_cons pe_str pa_nil))) (pe_lc (own := [("one", 19)]) (g := (gName 19)) (tt := tYes) rfl sc_law.nd (pi_list (pv 1)) (blkOk_by (N := N_law) (sc := defScope s_law) (by decide +kernel)) (fun _ _ _ _ _ => (pg_name (i := 19) sc_law.nd rfl (by first | exact Or.inl rfl | exact Or.inr rfl))) (fun _ _ _ _ _ => pts_nil) (fun _ _ _ _ _ => (pe_op u_add pe_str (pv 19)))))) (pg_name (i := 13) sc_law.nd rfl (by first | exact Or.inl rfl | exact Or.inr rfl)) (pss_one (ps_if (pt_cmpR (u_ne hu) (pe_call G_covers_host hr_covers_host rfl T.mg_covers_host T.fn_covers_host.kp T.bi_covers_host .nil passX (pa_cons (pv 13) (pa_cons (pv 11) pa_nil))) (pe_call G_law_fit hr_law_fit rfl T.mg_law_fit T.fn_law_fit.kp T.bi_law_fit .nil passX (pa_cons (pv 13) (pa_cons (pv 11) pa_nil))) (nomark _)) (pss_one (ps_ret pe_bl)) pss_nil)))))))))))) (pss_cons (ps_set (i := 23) sc_law.nd rfl (by first | exact Or.inl rfl | exact Or.inr rfl) (pe_make0 T.mk_Openers G_Openers__init hm_Openers__init rfl T.mgc_Openers T.bi_Openers__init .nil passX)) (pss_cons (ps_set (i := 24) sc_law.nd rfl (by first | exact Or.inl rfl | exact Or.inr rfl) (pe_lst (pa_cons pe_str (pa_cons pe_str (pa_cons pe_str (pa_cons pe_str (pa_cons pe_str (pa_cons pe_str (pa_cons (pe_op u_add pe_str (pe_op u_mul pe_str pe_int)) (pa_cons pe_str pa_nil)))))))))) (pss_cons (ps_set (i := 25) sc_law.nd rfl (by first | exact Or.inl rfl | exact Or.inr rfl) (pe_lst (pa_cons pe_str (pa_cons pe_str (pa_cons pe_str (pa_cons pe_str (pa_cons pe_str pa_nil))))))) (pss_cons (ps_if (PW.pt (pw_or (pt_cmpR (u_ne hu) (pe_lc (own := [("one", 19)]) (g := (gName 19)) (tt := (tTest (tOp (rNeU K) (tLamP a.tb_law (lamq "law") (TTold K a.c_NameFault "NameFault") (fun E => (tCall (sp_parts_of_address K a) [] E (tCons (tVar 19) tNil)))) (tC (.str "NameFault"))))) rfl sc_law.nd (pi_list (pv 24)) (blkOk_by (N := N_law) (sc := defScope s_law) (by decide +kernel)) (fun _ _ _ _ _ => (pg_name (i := 19) sc_law.nd rfl (by first | exact Or.inl rfl | exact Or.inr rfl))) (fun _ _ _ _ _ => (pts_one (pt_cmpR (u_ne hu) (pe_lamP (t := fun E => (tCall (sp_parts_of_address K a) [] E (tCons (tVar 19) tNil))) rfl T.mg_law_told T.fn_law_told.kp lkT hcdT biT sc_law_told rfl (by first | exact Or.inl rfl | exact Or.inr (Or.inl rfl)) (told_gives rfl T.mgc_NameFault (by decide) (fun _ => rfl)) TB_law rfl hr_lam (lamS_in (dsc := defScope s_law) rfl (by decide +kernel)) rfl (by intros; rfl) (fun A outer s H E f c' hrl => (pe_call G_parts_of_address (hrl.mono (by decide)) rfl T.mg_parts_of_address T.fn_parts_of_address.kp T.bi_parts_of_address .nil passLam (pa_cons (pv 19) pa_nil)))) pe_str (nomark _)))) (fun _ _ _ _ _ => (pv 19))) (pe_lst pa_nil) (nomark _)) (pw_or1 (pt_cmpR (u_ne hu) (pe_lc (own := [("one", 19)]) (g := (gName 19)) (tt := (tTest (tOp (rNeU K) (tLamP a.tb_law (lamq "law") (TTold K a.c_NameFault "NameFault") (fun E => (tMeth a.c_Openers "claim" (sp_Openers_claim K a) [(.bl false)] E (tVar 23) (tCons (tC (.str "mail")) (tCons (tVar 19) tNil))))) (tC (.str "NameFault"))))) rfl sc_law.nd (pi_list (pv 25)) (blkOk_by (N := N_law) (sc := defScope s_law) (by decide +kernel)) (fun _ _ _ _ _ => (pg_name (i := 19) sc_law.nd rfl (by first | exact Or.inl rfl | exact Or.inr rfl))) (fun _ _ _ _ _ => (pts_one (pt_cmpR (u_ne hu) (pe_lamP (t := fun E => (tMeth a.c_Openers "claim" (sp_Openers_claim K a) [(.bl false)] E (tVar 23) (tCons (tC (.str "mail")) (tCons (tVar 19) tNil)))) rfl T.mg_law_told T.fn_law_told.kp lkT hcdT biT sc_law_told rfl (by first | exact Or.inl rfl | exact Or.inr (Or.inl rfl)) (told_gives rfl T.mgc_NameFault (by decide) (fun _ => rfl)) TB_law rfl hr_lam (lamS_in (dsc := defScope s_law) rfl (by decide +kernel)) rfl (by intros; rfl) (fun A outer s H E f c' hrl => (pe_meth (pv 23) T.cl_Openers T.me_Openers_claim G_Openers_claim (hrl.mono (by decide)) bd_Openers_claim_3 vd_Openers_claim_3 passLam (pa_cons pe_str (pa_cons (pv 19) pa_nil))))) pe_str (nomark _)))) (fun _ _ _ _ _ => (pv 19))) (pe_lst pa_nil) (nomark _))))) (pss_one (ps_ret pe_bl)) pss_nil) (pss_one (ps_ret (pe_and (pe_cmpR (u_eq hu) (pe_lamP (t := fun E => (tMeth a.c_Openers "claim" (sp_Openers_claim K a) [(.bl false)] E (tVar 23) (tCons (tC (.str "Bad Name")) (tCons (tC (.str "web://a.com")) tNil)))) rfl T.mg_law_told T.fn_law_told.kp lkT hcdT biT sc_law_told rfl (by first | exact Or.inl rfl | exact Or.inr (Or.inl rfl)) (told_gives rfl T.mgc_NameFault (by decide) (fun _ => rfl)) TB_law rfl hr_lam (lamS_by (sc := defScope s_law) (by decide +kernel)) rfl (by intros; rfl) (fun A outer s H E f c' hrl => (pe_meth (pv 23) T.cl_Openers T.me_Openers_claim G_Openers_claim (hrl.mono (by decide)) bd_Openers_claim_3 vd_Openers_claim_3 passLam (pa_cons pe_str (pa_cons pe_str pa_nil))))) pe_str (nomark _)) (pe_and (pe_cmpR (u_eq hu) (pe_fld (pv 23) rfl) (pe_lst pa_nil) (nomark _)) (pe_and (pe_cmpR u_is (pe_fld (pe_make T.mk_Claim G_Claim__init hm_Claim__init rfl T.mgc_Claim bd_Claim__init_5 vd_Claim__init_5 passX (pa_cons pe_str (pa_cons pe_str (pa_cons pe_str (pa_cons pe_str pa_nil))))) rfl) pe_bl (nomark _)) (pe_one (pe_cmpR (u_eq hu) (pe_meth (pv 23) T.cl_Openers T.me_Openers_opens G_Openers_opens hr_Openers_opens T.bi_Openers_opens .nil passX (pa_cons pe_str pa_nil)) (pe_tup (pa_cons pe_str pa_nil)) (nomark _))))))))))))))
end
end Wk
namespace Wk
open PySem PySem.Spec PyProof.Rows L2 Ph
open LamX (TabB)
section
variable {P : Program} {w : World} {K : PySem.W.Frag} {mg : Str → Option Value} {base : Heap} {a : Adr}
theorem ok_all (T : Txt K mg a) (TB_check_name : TabB base mg a.cc_check_name a.tb_check_name) (TB_parts_of_address : TabB base mg a.cc_parts_of_address a.tb_parts_of_address) (TB_Openers_claim : TabB base mg a.cc_Openers_claim a.tb_Openers_claim) (TB_Openers_opens : TabB base mg a.cc_Openers_opens a.tb_Openers_opens) (TB_law : TabB base mg a.cc_law a.tb_law) : FnOk P w K mg base (L2.CX P w) 12 a.f_law a.fd_law ["script"] (sp_law K a) := by
  have G_Claim__init : FnOk P w K mg base (L2.CX P w) 1 a.f_Claim__init a.fd_Claim__init ["self", "app", "scheme", "host", "path", "proved"] (sp_Claim__init K a) := ok_Claim__init T 
  have G_Openers__init : FnOk P w K mg base (L2.CX P w) 1 a.f_Openers__init a.fd_Openers__init ["self"] (sp_Openers__init K a) := ok_Openers__init T 
  have G_check_name : FnOk P w K mg base (L2.CX P w) 8 a.f_check_name a.fd_check_name ["name"] (sp_check_name K a) := ok_check_name T TB_check_name
  have G_parts_of_address : FnOk P w K mg base (L2.CX P w) 8 a.f_parts_of_address a.fd_parts_of_address ["address"] (sp_parts_of_address K a) := ok_parts_of_address T TB_parts_of_address
  have G_Openers_claim : FnOk P w K mg base (L2.CX P w) 9 a.f_Openers_claim a.fd_Openers_claim ["self", "app", "address", "proved"] (sp_Openers_claim K a) := ok_Openers_claim T G_Claim__init G_check_name G_parts_of_address TB_Openers_claim
  have G_covers_host : FnOk P w K mg base (L2.CX P w) 1 a.f_covers_host a.fd_covers_host ["claimed", "host"] (sp_covers_host K a) := ok_covers_host T 
  have G_Openers_fitting : FnOk P w K mg base (L2.CX P w) 9 a.f_Openers_fitting a.fd_Openers_fitting ["self", "address"] (sp_Openers_fitting K a) := ok_Openers_fitting T G_covers_host G_parts_of_address
  have G_Openers_forget : FnOk P w K mg base (L2.CX P w) 1 a.f_Openers_forget a.fd_Openers_forget ["self", "app"] (sp_Openers_forget K a) := ok_Openers_forget T 
  have G_Openers_opens : FnOk P w K mg base (L2.CX P w) 10 a.f_Openers_opens a.fd_Openers_opens ["self", "address"] (sp_Openers_opens K a) := ok_Openers_opens T G_Openers_fitting G_covers_host G_parts_of_address TB_Openers_opens
  have G_Openers_want_always : FnOk P w K mg base (L2.CX P w) 9 a.f_Openers_want_always a.fd_Openers_want_always ["self", "app", "address"] (sp_Openers_want_always K a) := ok_Openers_want_always T G_covers_host G_parts_of_address
  have G_law_fit : FnOk P w K mg base (L2.CX P w) 1 a.f_law_fit a.fd_law_fit ["claimed", "host"] (sp_law_fit K a) := ok_law_fit T 
  have G_law_best : FnOk P w K mg base (L2.CX P w) 2 a.f_law_best a.fd_law_best ["claims", "scheme", "host", "path"] (sp_law_best K a) := ok_law_best T G_law_fit
  have G_law_roll : FnOk P w K mg base (L2.CX P w) 1 a.f_law_roll a.fd_law_roll ["dice", "many"] (sp_law_roll K a) := ok_law_roll T 
  have G_law_dice : FnOk P w K mg base (L2.CX P w) 1 a.f_law_dice a.fd_law_dice ["cell"] (sp_law_dice K a) := ok_law_dice T 
  have G_law_rounds : FnOk P w K mg base (L2.CX P w) 2 a.f_law_rounds a.fd_law_rounds ["script", "most"] (sp_law_rounds K a) := ok_law_rounds T G_law_dice
  exact ok_law T G_Claim__init G_Openers__init G_Openers_claim G_Openers_fitting G_Openers_forget G_Openers_opens G_Openers_want_always G_covers_host G_law_best G_law_fit G_law_roll G_law_rounds G_parts_of_address TB_law
theorem cd_of {x qual : Str} {params : Arguments} {body : List Stmt} {scope : Scope} {dvs : List V} {kws : List (Str × V)} {p : Str × Option Str} {fd : FuncData} (F : FunD K x qual params body scope dvs kws (He.fAd K p) fd) : fd.code = .ref (He.cT K p).1 := by
  obtain ⟨oc, od, dV, kV, doc, pm, an, cdv, ct, osl, rfl, lk, hcd, _, _⟩ := F.ex
  obtain ⟨c, rfl⟩ := He.codeIn_ref hcd
  show Value.ref c = .ref (He.codeOf K p)
  rw [He.codeOf_eq lk rfl]
theorem bnd_full {fd : FuncData} {ps : List Str} {dvs : List V} (h : ∃ ds, Vals (dvs.drop dvs.length) ds ∧ Binds K fd ps ds) : Binds K fd ps [] := by
  obtain ⟨ds, v, b⟩ := h
  rw [List.drop_length] at v
  cases v
  exact b
end
def faD_0 : List He.Fa := [.cls "Claim", .noat "Claim" "app", .noat "Claim" "scheme", .noat "Claim" "host", .noat "Claim" "path", .noat "Claim" "proved", .glo "Claim", .mkr "Claim", .cls "Openers", .noat "Openers" "claims", .noat "Openers" "always", .glo "Openers", .mkr "Openers", .meth "Openers" "claim", .meth "Openers" "forget", .meth "Openers" "fitting", .meth "Openers" "want_always", .meth "Openers" "opens", .glo "check_name", .glo "parts_of_address", .glo "covers_host", .glo "_law_dice", .glo "_law_roll", .glo "_law_rounds", .glo "_law_told", .glo "_law_fit", .glo "_law_best", .glo "law", .free "abs", .free "all"]
def faD_1 : List He.Fa := [.free "any", .free "dict", .free "int", .free "len", .free "list", .free "max", .free "range", .free "sorted", .free "tuple", .str "NAME_LETTERS" "abcdefghijklmnopqrstuvwxyz0123456789.", .glo "NameFault", .exc "NameFault", .exm "NameFault" "NameFault" true]
def faD : List He.Fa := faD_0 ++ faD_1
def dD_Claim__init : He.DefD := ⟨("Claim", some "__init__"), "__init__", "Claim.__init__", defArgs s_Claim__init, defBody s_Claim__init, defScope s_Claim__init, [(.bl false)], []⟩
def dD_Openers__init : He.DefD := ⟨("Openers", some "__init__"), "__init__", "Openers.__init__", defArgs s_Openers__init, defBody s_Openers__init, defScope s_Openers__init, [], []⟩
def dD_Openers_claim : He.DefD := ⟨("Openers", some "claim"), "claim", "Openers.claim", defArgs s_Openers_claim, defBody s_Openers_claim, defScope s_Openers_claim, [(.bl false)], []⟩
def dD_Openers_forget : He.DefD := ⟨("Openers", some "forget"), "forget", "Openers.forget", defArgs s_Openers_forget, defBody s_Openers_forget, defScope s_Openers_forget, [], []⟩
def dD_Openers_fitting : He.DefD := ⟨("Openers", some "fitting"), "fitting", "Openers.fitting", defArgs s_Openers_fitting, defBody s_Openers_fitting, defScope s_Openers_fitting, [], []⟩
def dD_Openers_want_always : He.DefD := ⟨("Openers", some "want_always"), "want_always", "Openers.want_always", defArgs s_Openers_want_always, defBody s_Openers_want_always, defScope s_Openers_want_always, [], []⟩
def dD_Openers_opens : He.DefD := ⟨("Openers", some "opens"), "opens", "Openers.opens", defArgs s_Openers_opens, defBody s_Openers_opens, defScope s_Openers_opens, [], []⟩
def dD_check_name : He.DefD := ⟨("check_name", none), "check_name", "check_name", defArgs s_check_name, defBody s_check_name, defScope s_check_name, [], []⟩
def dD_parts_of_address : He.DefD := ⟨("parts_of_address", none), "parts_of_address", "parts_of_address", defArgs s_parts_of_address, defBody s_parts_of_address, defScope s_parts_of_address, [], []⟩
def dD_covers_host : He.DefD := ⟨("covers_host", none), "covers_host", "covers_host", defArgs s_covers_host, defBody s_covers_host, defScope s_covers_host, [], []⟩
def dD_law_dice : He.DefD := ⟨("_law_dice", none), "_law_dice", "_law_dice", defArgs s_law_dice, defBody s_law_dice, defScope s_law_dice, [], []⟩
def dD_law_roll : He.DefD := ⟨("_law_roll", none), "_law_roll", "_law_roll", defArgs s_law_roll, defBody s_law_roll, defScope s_law_roll, [], []⟩
def dD_law_rounds : He.DefD := ⟨("_law_rounds", none), "_law_rounds", "_law_rounds", defArgs s_law_rounds, defBody s_law_rounds, defScope s_law_rounds, [], []⟩
def dD_law_told : He.DefD := ⟨("_law_told", none), "_law_told", "_law_told", defArgs s_law_told, defBody s_law_told, defScope s_law_told, [], []⟩
def dD_law_fit : He.DefD := ⟨("_law_fit", none), "_law_fit", "_law_fit", defArgs s_law_fit, defBody s_law_fit, defScope s_law_fit, [], []⟩
def dD_law_best : He.DefD := ⟨("_law_best", none), "_law_best", "_law_best", defArgs s_law_best, defBody s_law_best, defScope s_law_best, [], []⟩
def dD_law : He.DefD := ⟨("law", none), "law", "law", defArgs s_law, defBody s_law, defScope s_law, [], []⟩
def fnD_0 : List He.DefD := [dD_Claim__init, dD_Openers__init, dD_Openers_claim, dD_Openers_forget, dD_Openers_fitting, dD_Openers_want_always, dD_Openers_opens, dD_check_name, dD_parts_of_address, dD_covers_host, dD_law_dice, dD_law_roll, dD_law_rounds, dD_law_told, dD_law_fit, dD_law_best, dD_law]
def fnD : List He.DefD := fnD_0
def tfD : List He.Defn := [("Openers", some "claim"), ("Openers", some "opens"), ("check_name", none), ("parts_of_address", none), ("law", none)]
def tupE (K : PySem.W.Frag) (a : Addr) : Bool := match K.lookup a with
  | some ⟨.type n, _, .seq its _, _⟩ => n == "tuple" && its.isEmpty
  | _ => false
theorem tupE_ok {K : PySem.W.Frag} {a : Addr} (h : tupE K a = true) : ∃ (o : Obj) (n : Nat), K.lookup a = some o ∧ o.cls = .type "tuple" ∧ o.data = .seq #[] n := by
  unfold tupE at h
  split at h
  · rename_i n d its k sl e
    simp only [Bool.and_eq_true, beq_iff_eq, Array.isEmpty_iff] at h
    exact ⟨_, k, e, by rw [h.1], by rw [h.2]⟩
  · cases h
def exD (K : PySem.W.Frag) : Bool := decide ((tfD.map fun p => (He.cT K p).2).Nodup)
theorem fin {l : PySem.W.OpenLaw} {w : World} {K : PySem.W.Frag} {h : Heap} {mg : Str → Option Value} {fa : Addr} (X : K.In h) (G : h.Ns mainGlobals mg) (hfa : mg "law" = some (.ref fa)) (c : He.SaysX faD fnD [] tfD exD w h K) :
    LamX.LawAtS l w K (L2.CX l.prog w) 12 63 "script" mg fa h := by
  have d := c.t.d
  have more : exD K = true := c.more
  unfold exD at more
  have moreN := more
  obtain ⟨fd_Claim__init, F_Claim__init⟩ := d.def_ 0 (d := dD_Claim__init) rfl
  have F_Claim__init : FunD K "__init__" "Claim.__init__" (defArgs s_Claim__init) (defBody s_Claim__init) (defScope s_Claim__init) [(.bl false)] [] (He.fAd K ("Claim", some "__init__")) fd_Claim__init := F_Claim__init
  obtain ⟨fd_Openers__init, F_Openers__init⟩ := d.def_ 1 (d := dD_Openers__init) rfl
  have F_Openers__init : FunD K "__init__" "Openers.__init__" (defArgs s_Openers__init) (defBody s_Openers__init) (defScope s_Openers__init) [] [] (He.fAd K ("Openers", some "__init__")) fd_Openers__init := F_Openers__init
  obtain ⟨fd_Openers_claim, F_Openers_claim⟩ := d.def_ 2 (d := dD_Openers_claim) rfl
  have F_Openers_claim : FunD K "claim" "Openers.claim" (defArgs s_Openers_claim) (defBody s_Openers_claim) (defScope s_Openers_claim) [(.bl false)] [] (He.fAd K ("Openers", some "claim")) fd_Openers_claim := F_Openers_claim
  obtain ⟨fd_Openers_forget, F_Openers_forget⟩ := d.def_ 3 (d := dD_Openers_forget) rfl
  have F_Openers_forget : FunD K "forget" "Openers.forget" (defArgs s_Openers_forget) (defBody s_Openers_forget) (defScope s_Openers_forget) [] [] (He.fAd K ("Openers", some "forget")) fd_Openers_forget := F_Openers_forget
  obtain ⟨fd_Openers_fitting, F_Openers_fitting⟩ := d.def_ 4 (d := dD_Openers_fitting) rfl
  have F_Openers_fitting : FunD K "fitting" "Openers.fitting" (defArgs s_Openers_fitting) (defBody s_Openers_fitting) (defScope s_Openers_fitting) [] [] (He.fAd K ("Openers", some "fitting")) fd_Openers_fitting := F_Openers_fitting
  obtain ⟨fd_Openers_want_always, F_Openers_want_always⟩ := d.def_ 5 (d := dD_Openers_want_always) rfl
  have F_Openers_want_always : FunD K "want_always" "Openers.want_always" (defArgs s_Openers_want_always) (defBody s_Openers_want_always) (defScope s_Openers_want_always) [] [] (He.fAd K ("Openers", some "want_always")) fd_Openers_want_always := F_Openers_want_always
  obtain ⟨fd_Openers_opens, F_Openers_opens⟩ := d.def_ 6 (d := dD_Openers_opens) rfl
  have F_Openers_opens : FunD K "opens" "Openers.opens" (defArgs s_Openers_opens) (defBody s_Openers_opens) (defScope s_Openers_opens) [] [] (He.fAd K ("Openers", some "opens")) fd_Openers_opens := F_Openers_opens
  obtain ⟨fd_check_name, F_check_name⟩ := d.def_ 7 (d := dD_check_name) rfl
  have F_check_name : FunD K "check_name" "check_name" (defArgs s_check_name) (defBody s_check_name) (defScope s_check_name) [] [] (He.fAd K ("check_name", none)) fd_check_name := F_check_name
  obtain ⟨fd_parts_of_address, F_parts_of_address⟩ := d.def_ 8 (d := dD_parts_of_address) rfl
  have F_parts_of_address : FunD K "parts_of_address" "parts_of_address" (defArgs s_parts_of_address) (defBody s_parts_of_address) (defScope s_parts_of_address) [] [] (He.fAd K ("parts_of_address", none)) fd_parts_of_address := F_parts_of_address
  obtain ⟨fd_covers_host, F_covers_host⟩ := d.def_ 9 (d := dD_covers_host) rfl
  have F_covers_host : FunD K "covers_host" "covers_host" (defArgs s_covers_host) (defBody s_covers_host) (defScope s_covers_host) [] [] (He.fAd K ("covers_host", none)) fd_covers_host := F_covers_host
  obtain ⟨fd_law_dice, F_law_dice⟩ := d.def_ 10 (d := dD_law_dice) rfl
  have F_law_dice : FunD K "_law_dice" "_law_dice" (defArgs s_law_dice) (defBody s_law_dice) (defScope s_law_dice) [] [] (He.fAd K ("_law_dice", none)) fd_law_dice := F_law_dice
  obtain ⟨fd_law_roll, F_law_roll⟩ := d.def_ 11 (d := dD_law_roll) rfl
  have F_law_roll : FunD K "_law_roll" "_law_roll" (defArgs s_law_roll) (defBody s_law_roll) (defScope s_law_roll) [] [] (He.fAd K ("_law_roll", none)) fd_law_roll := F_law_roll
  obtain ⟨fd_law_rounds, F_law_rounds⟩ := d.def_ 12 (d := dD_law_rounds) rfl
  have F_law_rounds : FunD K "_law_rounds" "_law_rounds" (defArgs s_law_rounds) (defBody s_law_rounds) (defScope s_law_rounds) [] [] (He.fAd K ("_law_rounds", none)) fd_law_rounds := F_law_rounds
  obtain ⟨fd_law_told, F_law_told⟩ := d.def_ 13 (d := dD_law_told) rfl
  have F_law_told : FunD K "_law_told" "_law_told" (defArgs s_law_told) (defBody s_law_told) (defScope s_law_told) [] [] (He.fAd K ("_law_told", none)) fd_law_told := F_law_told
  obtain ⟨fd_law_fit, F_law_fit⟩ := d.def_ 14 (d := dD_law_fit) rfl
  have F_law_fit : FunD K "_law_fit" "_law_fit" (defArgs s_law_fit) (defBody s_law_fit) (defScope s_law_fit) [] [] (He.fAd K ("_law_fit", none)) fd_law_fit := F_law_fit
  obtain ⟨fd_law_best, F_law_best⟩ := d.def_ 15 (d := dD_law_best) rfl
  have F_law_best : FunD K "_law_best" "_law_best" (defArgs s_law_best) (defBody s_law_best) (defScope s_law_best) [] [] (He.fAd K ("_law_best", none)) fd_law_best := F_law_best
  obtain ⟨fd_law, F_law⟩ := d.def_ 16 (d := dD_law) rfl
  have F_law : FunD K "law" "law" (defArgs s_law) (defBody s_law) (defScope s_law) [] [] (He.fAd K ("law", none)) fd_law := F_law
  have e := hfa.symm.trans (He.glo_ok X G (d.fact 27 (f := .glo "law") rfl))
  cases e
  let A : Adr := ⟨He.ga K "Claim", He.ga K "Openers", He.ga K "NameFault", He.fAd K ("Claim", some "__init__"), fd_Claim__init, He.fAd K ("Openers", some "__init__"), fd_Openers__init, He.fAd K ("Openers", some "claim"), fd_Openers_claim, He.fAd K ("Openers", some "forget"), fd_Openers_forget, He.fAd K ("Openers", some "fitting"), fd_Openers_fitting, He.fAd K ("Openers", some "want_always"), fd_Openers_want_always, He.fAd K ("Openers", some "opens"), fd_Openers_opens, He.fAd K ("check_name", none), fd_check_name, He.fAd K ("parts_of_address", none), fd_parts_of_address, He.fAd K ("covers_host", none), fd_covers_host, He.fAd K ("_law_dice", none), fd_law_dice, He.fAd K ("_law_roll", none), fd_law_roll, He.fAd K ("_law_rounds", none), fd_law_rounds, He.fAd K ("_law_told", none), fd_law_told, He.fAd K ("_law_fit", none), fd_law_fit, He.fAd K ("_law_best", none), fd_law_best, He.fAd K ("law", none), fd_law, (He.cT K ("Openers", some "claim")).1, (He.cT K ("Openers", some "claim")).2, (He.cT K ("Openers", some "opens")).1, (He.cT K ("Openers", some "opens")).2, (He.cT K ("check_name", none)).1, (He.cT K ("check_name", none)).2, (He.cT K ("parts_of_address", none)).1, (He.cT K ("parts_of_address", none)).2, (He.cT K ("law", none)).1, (He.cT K ("law", none)).2⟩
  have T : Txt K mg A :=
    { cl_Claim := He.cls_ok (d.fact 0 (f := .cls "Claim") rfl),
      na_Claim_app := He.noat_ok (d.fact 1 (f := .noat "Claim" "app") rfl),
      na_Claim_scheme := He.noat_ok (d.fact 2 (f := .noat "Claim" "scheme") rfl),
      na_Claim_host := He.noat_ok (d.fact 3 (f := .noat "Claim" "host") rfl),
      na_Claim_path := He.noat_ok (d.fact 4 (f := .noat "Claim" "path") rfl),
      na_Claim_proved := He.noat_ok (d.fact 5 (f := .noat "Claim" "proved") rfl),
      mgc_Claim := He.glo_ok X G (d.fact 6 (f := .glo "Claim") rfl),
      mk_Claim := He.mkr_ok (d.fact 7 (f := .mkr "Claim") rfl),
      cl_Openers := He.cls_ok (d.fact 8 (f := .cls "Openers") rfl),
      na_Openers_claims := He.noat_ok (d.fact 9 (f := .noat "Openers" "claims") rfl),
      na_Openers_always := He.noat_ok (d.fact 10 (f := .noat "Openers" "always") rfl),
      mgc_Openers := He.glo_ok X G (d.fact 11 (f := .glo "Openers") rfl),
      mk_Openers := He.mkr_ok (d.fact 12 (f := .mkr "Openers") rfl),
      fn_Claim__init := F_Claim__init,
      bi_Claim__init := bnd_full (dvs := [(.bl false)]) (FunD.binds1 (ps := ["self", "app", "scheme", "host", "path", "proved"]) F_Claim__init 6 1 (by simp) (by rfl) fun _ _ _ _ _ _ _ us its l1 l2 => match us, l1, its, l2 with | [_, _, _, _, _, _], _, [_], _ => ⟨_, rfl, rfl⟩),
      bi_Claim__init_5 := FunD.binds1 (ps := ["self", "app", "scheme", "host", "path", "proved"]) F_Claim__init 5 0 (by simp) (by rfl) fun _ _ _ _ _ _ _ us its l1 l2 => match us, l1, its, l2 with | [_, _, _, _, _], _, [_], _ => ⟨_, rfl, rfl⟩,
      fn_Openers__init := F_Openers__init,
      bi_Openers__init := FunD.bindsN F_Openers__init fun _ _ _ _ _ _ us hl => match us, hl with | [_], _ => rfl,
      me_Openers_claim := He.meth_ok (d.fact 13 (f := .meth "Openers" "claim") rfl),
      fn_Openers_claim := F_Openers_claim,
      bi_Openers_claim := bnd_full (dvs := [(.bl false)]) (FunD.binds1 (ps := ["self", "app", "address", "proved"]) F_Openers_claim 4 1 (by simp) (by rfl) fun _ _ _ _ _ _ _ us its l1 l2 => match us, l1, its, l2 with | [_, _, _, _], _, [_], _ => ⟨_, rfl, rfl⟩),
      bi_Openers_claim_3 := FunD.binds1 (ps := ["self", "app", "address", "proved"]) F_Openers_claim 3 0 (by simp) (by rfl) fun _ _ _ _ _ _ _ us its l1 l2 => match us, l1, its, l2 with | [_, _, _], _, [_], _ => ⟨_, rfl, rfl⟩,
      me_Openers_forget := He.meth_ok (d.fact 14 (f := .meth "Openers" "forget") rfl),
      fn_Openers_forget := F_Openers_forget,
      bi_Openers_forget := FunD.bindsN F_Openers_forget fun _ _ _ _ _ _ us hl => match us, hl with | [_, _], _ => rfl,
      me_Openers_fitting := He.meth_ok (d.fact 15 (f := .meth "Openers" "fitting") rfl),
      fn_Openers_fitting := F_Openers_fitting,
      bi_Openers_fitting := FunD.bindsN F_Openers_fitting fun _ _ _ _ _ _ us hl => match us, hl with | [_, _], _ => rfl,
      me_Openers_want_always := He.meth_ok (d.fact 16 (f := .meth "Openers" "want_always") rfl),
      fn_Openers_want_always := F_Openers_want_always,
      bi_Openers_want_always := FunD.bindsN F_Openers_want_always fun _ _ _ _ _ _ us hl => match us, hl with | [_, _, _], _ => rfl,
      me_Openers_opens := He.meth_ok (d.fact 17 (f := .meth "Openers" "opens") rfl),
      fn_Openers_opens := F_Openers_opens,
      bi_Openers_opens := FunD.bindsN F_Openers_opens fun _ _ _ _ _ _ us hl => match us, hl with | [_, _], _ => rfl,
      mg_check_name := He.glo_ok X G (d.fact 18 (f := .glo "check_name") rfl),
      fn_check_name := F_check_name,
      bi_check_name := FunD.bindsN F_check_name fun _ _ _ _ _ _ us hl => match us, hl with | [_], _ => rfl,
      mg_parts_of_address := He.glo_ok X G (d.fact 19 (f := .glo "parts_of_address") rfl),
      fn_parts_of_address := F_parts_of_address,
      bi_parts_of_address := FunD.bindsN F_parts_of_address fun _ _ _ _ _ _ us hl => match us, hl with | [_], _ => rfl,
      mg_covers_host := He.glo_ok X G (d.fact 20 (f := .glo "covers_host") rfl),
      fn_covers_host := F_covers_host,
      bi_covers_host := FunD.bindsN F_covers_host fun _ _ _ _ _ _ us hl => match us, hl with | [_, _], _ => rfl,
      mg_law_dice := He.glo_ok X G (d.fact 21 (f := .glo "_law_dice") rfl),
      fn_law_dice := F_law_dice,
      bi_law_dice := FunD.bindsN F_law_dice fun _ _ _ _ _ _ us hl => match us, hl with | [_], _ => rfl,
      mg_law_roll := He.glo_ok X G (d.fact 22 (f := .glo "_law_roll") rfl),
      fn_law_roll := F_law_roll,
      bi_law_roll := FunD.bindsN F_law_roll fun _ _ _ _ _ _ us hl => match us, hl with | [_, _], _ => rfl,
      mg_law_rounds := He.glo_ok X G (d.fact 23 (f := .glo "_law_rounds") rfl),
      fn_law_rounds := F_law_rounds,
      bi_law_rounds := FunD.bindsN F_law_rounds fun _ _ _ _ _ _ us hl => match us, hl with | [_, _], _ => rfl,
      mg_law_told := He.glo_ok X G (d.fact 24 (f := .glo "_law_told") rfl),
      fn_law_told := F_law_told,
      bi_law_told := FunD.bindsN F_law_told fun _ _ _ _ _ _ us hl => match us, hl with | [_], _ => rfl,
      mg_law_fit := He.glo_ok X G (d.fact 25 (f := .glo "_law_fit") rfl),
      fn_law_fit := F_law_fit,
      bi_law_fit := FunD.bindsN F_law_fit fun _ _ _ _ _ _ us hl => match us, hl with | [_, _], _ => rfl,
      mg_law_best := He.glo_ok X G (d.fact 26 (f := .glo "_law_best") rfl),
      fn_law_best := F_law_best,
      bi_law_best := FunD.bindsN F_law_best fun _ _ _ _ _ _ us hl => match us, hl with | [_, _, _, _], _ => rfl,
      mg_law := He.glo_ok X G (d.fact 27 (f := .glo "law") rfl),
      fn_law := F_law,
      bi_law := FunD.bindsN F_law fun _ _ _ _ _ _ us hl => match us, hl with | [_], _ => rfl,
      no_abs := He.free_ok X G (d.fact 28 (f := .free "abs") rfl),
      no_all := He.free_ok X G (d.fact 29 (f := .free "all") rfl),
      no_any := He.free_ok X G (d.fact 30 (f := .free "any") rfl),
      no_dict := He.free_ok X G (d.fact 31 (f := .free "dict") rfl),
      no_int := He.free_ok X G (d.fact 32 (f := .free "int") rfl),
      no_len := He.free_ok X G (d.fact 33 (f := .free "len") rfl),
      no_list := He.free_ok X G (d.fact 34 (f := .free "list") rfl),
      no_max := He.free_ok X G (d.fact 35 (f := .free "max") rfl),
      no_range := He.free_ok X G (d.fact 36 (f := .free "range") rfl),
      no_sorted := He.free_ok X G (d.fact 37 (f := .free "sorted") rfl),
      no_tuple := He.free_ok X G (d.fact 38 (f := .free "tuple") rfl),
      gl_NAME_LETTERS := He.str_ok X G (d.fact 39 (f := .str "NAME_LETTERS" "abcdefghijklmnopqrstuvwxyz0123456789.") rfl),
      mgc_NameFault := He.glo_ok X G (d.fact 40 (f := .glo "NameFault") rfl),
      xc_NameFault := (He.exc_ok (d.fact 41 (f := .exc "NameFault") rfl)).1,
      kc_NameFault := (He.exc_ok (d.fact 41 (f := .exc "NameFault") rfl)).2.1,
      bc_NameFault := (He.exc_ok (d.fact 41 (f := .exc "NameFault") rfl)).2.2.1,
      tc_NameFault := (He.exc_ok (d.fact 41 (f := .exc "NameFault") rfl)).2.2.2,
      ec_NameFault := He.exm_ok (d.fact 42 (f := .exm "NameFault" "NameFault" true) rfl),
      cd_Openers_claim := cd_of F_Openers_claim,
      cd_Openers_opens := cd_of F_Openers_opens,
      cd_check_name := cd_of F_check_name,
      cd_parts_of_address := cd_of F_parts_of_address,
      cd_law := cd_of F_law }
  have nd : (tfD.map fun p => (He.cT K p).2).Nodup := of_decide_eq_true moreN
  have lay : ∀ H : Hp, (∀ p ∈ tfD.map (He.cT K), H p.2 = some (.tbl #[])) → Lay H (tfD.map fun z => ((He.cT K z).2, HO.tbl #[])) := fun H hT => ⟨by rw [List.map_map]; exact nd, fun p hp => by
    obtain ⟨z, hz, rfl⟩ := List.mem_map.mp hp
    exact ⟨hT _ (List.mem_map.mpr ⟨z, hz, rfl⟩), rfl⟩⟩
  refine ⟨fd_law, tfD.map (He.cT K), sp_law K A, fun p hp => ?_, fun p hp => ?_, fun p hp => ?_, (fun s u => FunD.bindsA (ps := ["script"]) F_law (fun _ _ _ _ _ _ us hl => match us, hl with | [_], _ => rfl) s [u] rfl), fun H s ns hl hz hT hS => ⟨rfl, s, ns, rfl, hS, lay H hT, fun _ => rfl⟩, fun base _ _ hTB => ok_all T (hTB (He.cT K ("check_name", none)) (List.mem_map.mpr ⟨("check_name", none), (by unfold tfD; exact List.mem_cons_of_mem _ (List.mem_cons_of_mem _ (List.mem_cons_self))), rfl⟩)) (hTB (He.cT K ("parts_of_address", none)) (List.mem_map.mpr ⟨("parts_of_address", none), (by unfold tfD; exact List.mem_cons_of_mem _ (List.mem_cons_of_mem _ (List.mem_cons_of_mem _ (List.mem_cons_self)))), rfl⟩)) (hTB (He.cT K ("Openers", some "claim")) (List.mem_map.mpr ⟨("Openers", some "claim"), (by unfold tfD; exact List.mem_cons_self), rfl⟩)) (hTB (He.cT K ("Openers", some "opens")) (List.mem_map.mpr ⟨("Openers", some "opens"), (by unfold tfD; exact List.mem_cons_of_mem _ (List.mem_cons_self)), rfl⟩)) (hTB (He.cT K ("law", none)) (List.mem_map.mpr ⟨("law", none), (by unfold tfD; exact List.mem_cons_of_mem _ (List.mem_cons_of_mem _ (List.mem_cons_of_mem _ (List.mem_cons_of_mem _ (List.mem_cons_self))))), rfl⟩))⟩
  · obtain ⟨z, hz, rfl⟩ := List.mem_map.mp hp
    exact c.empty z hz
  · obtain ⟨z, hz, rfl⟩ := List.mem_map.mp hp
    exact c.out z hz
  · obtain ⟨z, hz, rfl⟩ := List.mem_map.mp hp
    exact PySem.W.codeHd_of_K X (c.hd z hz)
end Wk
namespace Wk
open PySem PySem.Spec PyProof.Rows L2
abbrev R : PySem.W.OpenRow := PySem.W.OpenLaw.row PySem.Challenge.rw_phonestack_k17_apps_that_open_addresses
abbrev hk : PySem.W.Hook := He.hookX 6 faD fnD [] tfD exD
def obD (s : PySem.W.SharedT) : He.AlX := He.obsX 6 faD fnD [] tfD exD (HandSHeadRun.getT s)
theorem ob_eq (s : PySem.W.SharedT) : obD s = hk.obs s.abs := He.obsX_eq (HandSHeadRun.getT_eq s)
def loose_0 : List PySem.Str := ["PhoneError", "NameFault", "NAME_LETTERS", "check_name", "Claim", "parts_of_address", "covers_host", "Openers", "_law_dice", "_law_roll", "_law_rounds", "_law_told", "_law_fit", "_law_best"]
def loose : List PySem.Str := loose_0
theorem run (w : World) : HandSHeadRun.RunEq R (PySem.W.view R.prog [18]) hk obD 20000 loose w := by
  intro os
  kernel_rfl
end Wk
open PySem PySem.W PySem.Calls PyProof.Rows
theorem PySem.Challenge.cw_phonestack_k17_apps_that_open_addresses_holds : PySem.Challenge.rw_phonestack_k17_apps_that_open_addresses.Holds := by
  w_on; o_law
  refine HandSHeadRun.head_any (r := OpenLaw.row PySem.Challenge.rw_phonestack_k17_apps_that_open_addresses) (q := view (OpenLaw.row PySem.Challenge.rw_phonestack_k17_apps_that_open_addresses).prog [18]) (H := Wk.hk) (ob := Wk.obD) (M := 20000) (loose := Wk.loose) (d := HandSHeadRun.topDef (OpenLaw.row PySem.Challenge.rw_phonestack_k17_apps_that_open_addresses).prog 18) (kwd := []) Wk.ob_eq
    (by kernel_rfl) (fun s => by kernel_rfl) Wk.run (by kernel_rfl) (by kernel_rfl) (by kernel_rfl) (by rfl) (by first | assumption | decide +kernel) (by decide +kernel) ⟨rfl, rfl, rfl, rfl, rfl, by decide +kernel⟩ ?hw ?hc
  case hw => w_witness2
  case hc =>
    refine LamX.walk_ofTsE (l := PySem.Challenge.rw_phonestack_k17_apps_that_open_addresses) (n := 63) (k := 12) (x := "script") (CX := fun w => L2.CX (PySem.Challenge.rw_phonestack_k17_apps_that_open_addresses).prog w) rfl (by decide) (by kernel_rfl) ⟨rfl, by decide, by decide⟩ ?F (fun _ _ _ _ _ z => by
      obtain ⟨_, _, _, _, _, _, _, _, _, _, _, _, z⟩ := z
      exact z)
    intro w mg fa h Y G hmg0
    obtain ⟨K, KX, c⟩ := Y
    have hmg : mg ("law" : PySem.Str) = some (.ref fa) := by
      have e : (HandSHeadRun.topDef (OpenLaw.row PySem.Challenge.rw_phonestack_k17_apps_that_open_addresses).prog 18).name = ("law" : PySem.Str) := by kernel_rfl
      rw [← e]
      exact hmg0
    exact ⟨K, KX, Wk.fin KX G hmg c⟩
