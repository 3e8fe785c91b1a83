import PyProof.Rows.All
import Wide.All
import OpenK.AllK
import Wide.FinOn
import HandS.ForMost
import HandS.Style
import HandS.Lambda
import HandS.EndTab
import HandS.WordsExc
import HandS.CallSlots
import HandS.Flow
import HandS.Defaults
import HandS.AnyAll
import HandS.IsInst
import HandS.GenList
import PyProof.GenArm
import PyProof.TupleOfGen
import HandS.NoneIn
import HandS.Walk
import HandS.TupLe
import PyProof.MinMaxWalk
import HandS.More
import HandS.SortInts
import HandS.SortRule
import HandS.Strs
import HandS.DictComp
import HandS.ListItems
import PyProof.NeKinds
import HandS.TryMany
import KE.KDictPairs
import HandS.DictTup
import PyProof.FactsAll.bool_1
import HandS.DeepEq
import HandS.Text
import HandS.FStr
import HandS.Zip
import HandS.Iter
import PySem.Challenge.RW_phonestack_k11_settings_and_people
import KE.KStateDown
import Lean
import HandS.Head0
import HandS.Head1
import HandS.Head2
import HandS.HeadEnd
import HandS.HeadHook1
import HandS.HeadHook2
import HandS.HeadHook3
import HandS.HeadHook4
import HandS.HeadWalk
set_option Elab.async false
set_option autoImplicit false
set_option linter.all false
set_option maxRecDepth 100000
set_option maxHeartbeats 4000000
namespace Ph
open PySem PySem.Spec PyProof.Rows L2
/-! ### texts -/
theorem char_toNat_inj {a b : Char} (h : a.toNat = b.toNat) : a = b := by
  apply Char.ext
  apply UInt32.toNat_inj.mp
  exact h
theorem map_toNat_inj : forall {a b : List Char}, a.map Char.toNat = b.map Char.toNat -> a = b
  | [], [], _ => rfl
  | [], _ :: _, h => by simp at h
  | _ :: _, [], h => by simp at h
  | x :: r, y :: t, h => by
    simp only [List.map_cons, List.cons.injEq] at h
    rw [char_toNat_inj h.1, map_toNat_inj h.2]
theorem ofString_inj {a b : String} : (PySem.Str.ofString a = PySem.Str.ofString b) = (a = b) := by
  apply propext
  constructor
  · intro h
    rw [PySem.Str.ofString_eq_toList, PySem.Str.ofString_eq_toList] at h
    injection h with h
    have h2 : a.toList.map Char.toNat = b.toList.map Char.toNat := by
      have := congrArg Array.toList h
      simpa using this
    exact String.toList_inj.mp (map_toNat_inj h2)
  · intro h
    rw [h]
theorem ofString_beq {a b : String} : (PySem.Str.ofString a == PySem.Str.ofString b) = (a == b) := by
  rw [Bool.eq_iff_iff]
  simp [ofString_inj]
/-! ### mutable objects -/
def mutO : HO -> Bool
  | .lst _ => true
  | .dK _ => true
  | .dT _ => true
  | .set _ _ => true
  | .ins _ _ _ => true
  | .tbl _ => true
  | _ => false
/-- all that is not a list, a dict, a set, an instance stays -/
def Stb (H H' : Hp) : Prop := forall a o, H a = some o -> mutO o = false -> H' a = some o
theorem Stb.refl (H : Hp) : Stb H H := fun _ _ h _ => h
theorem Stb.trans {H H1 H2 : Hp} (a : Stb H H1) (b : Stb H1 H2) : Stb H H2 := fun x o h m => b x o (a x o h m) m
theorem Stb.new {H : Hp} {p : Addr} {o : HO} (n : H p = none) : Stb H (upd H p o) := fun a u e _ => by
  rw [upd_ne (ne_of_none e n)]
  exact e
theorem Stb.put {H : Hp} {p : Addr} {o u : HO} (e : H p = some u) (m : mutO u = true) : Stb H (upd H p o) := fun a w ea ma => by
  rw [upd_ne ?_]
  · exact ea
  · intro q
    rw [q, e] at ea
    cases ea
    rw [m] at ma
    cases ma
theorem Stb.sqt {K : PySem.W.Frag} {H H' : Hp} {a : Addr} {xs : List V} (s : Stb H H') (h : SqT K H a xs) : SqT K H' a xs := by
  rcases h with (h | ⟨o, h⟩) | h
  · exact .inl (.inl (s _ _ h rfl))
  · exact .inl (.inr ⟨o, s _ _ h rfl⟩)
  · exact .inr h
structure Lay (H : Hp) (L : List (Addr × HO)) : Prop where
  nd : (L.map (fun p => p.1)).Nodup
  at_ : forall p, p ∈ L -> H p.1 = some p.2 ∧ mutO p.2 = true
theorem Lay.nil {H : Hp} : Lay H [] := ⟨List.nodup_nil, fun p h => by cases h⟩
theorem Lay.get {H : Hp} {L : List (Addr × HO)} {a : Addr} {o : HO} (h : Lay H L) (m : (a, o) ∈ L) : H a = some o := (h.at_ _ m).1
theorem Lay.mu {H : Hp} {L : List (Addr × HO)} {a : Addr} {o : HO} (h : Lay H L) (m : (a, o) ∈ L) : mutO o = true := (h.at_ _ m).2
theorem Lay.keep {H : Hp} {L : List (Addr × HO)} {p : Addr} {o : HO} (h : Lay H L) (n : H p = none) : Lay (upd H p o) L :=
  ⟨h.nd, fun q hq => ⟨by rw [upd_ne (ne_of_none (h.at_ q hq).1 n)]; exact (h.at_ q hq).1, (h.at_ q hq).2⟩⟩
theorem Lay.new {H : Hp} {L : List (Addr × HO)} {p : Addr} {o : HO} (h : Lay H L) (n : H p = none) (m : mutO o = true) : Lay (upd H p o) ((p, o) :: L) := by
  refine ⟨?_, fun q hq => ?_⟩
  · rw [List.map_cons, List.nodup_cons]
    refine ⟨fun z => ?_, h.nd⟩
    obtain ⟨q, hq, e⟩ := List.mem_map.mp z
    have z2 := (h.at_ q hq).1
    rw [e, n] at z2
    cases z2
  · rcases List.mem_cons.mp hq with e | hq
    · subst e
      exact ⟨upd_same, m⟩
    · exact (h.keep n).at_ q hq
/-- x stands in L at a place; the rest is L' -/
inductive Pick (x : Addr × HO) : List (Addr × HO) -> List (Addr × HO) -> Prop
  | here {L : List (Addr × HO)} : Pick x (x :: L) L
  | there {y : Addr × HO} {L L' : List (Addr × HO)} : Pick x L L' -> Pick x (y :: L) (y :: L')
theorem Pick.perm {x : Addr × HO} : forall {L L'}, Pick x L L' -> L.Perm (x :: L')
  | _, _, .here => List.Perm.refl _
  | _, _, .there h => (List.Perm.cons _ h.perm).trans (List.Perm.swap _ _ _)
theorem Lay.perm {H : Hp} {L L' : List (Addr × HO)} (h : Lay H L) (p : L.Perm L') : Lay H L' :=
  ⟨(p.map _).nodup_iff.mp h.nd, fun q hq => h.at_ q (p.mem_iff.mpr hq)⟩
theorem Lay.pick {H : Hp} {x : Addr × HO} {L L' : List (Addr × HO)} (p : Pick x L L') (h : Lay H L) : Lay H (x :: L') := h.perm p.perm
theorem Lay.tail {H : Hp} {x : Addr × HO} {L : List (Addr × HO)} (h : Lay H (x :: L)) : Lay H L :=
  ⟨(List.nodup_cons.mp h.nd).2, fun q hq => h.at_ q (List.mem_cons_of_mem _ hq)⟩
/-- the object at a becomes o' -/
inductive Up (a : Addr) (o' : HO) : List (Addr × HO) -> List (Addr × HO) -> Prop
  | here {o : HO} {L : List (Addr × HO)} : Up a o' ((a, o) :: L) ((a, o') :: L)
  | there {y : Addr × HO} {L L' : List (Addr × HO)} : Up a o' L L' -> Up a o' (y :: L) (y :: L')
theorem Up.keys {a : Addr} {o' : HO} : forall {L L'}, Up a o' L L' -> L'.map (fun p => p.1) = L.map (fun p => p.1)
  | _, _, .here => rfl
  | _, _, .there h => by rw [List.map_cons, List.map_cons, h.keys]
theorem Up.old {a : Addr} {o' : HO} : forall {L L'}, Up a o' L L' -> exists o, (a, o) ∈ L
  | _, _, .here => ⟨_, List.mem_cons_self⟩
  | _, _, .there h => let ⟨o, z⟩ := h.old; ⟨o, List.mem_cons_of_mem _ z⟩
theorem Up.mem {a : Addr} {o' : HO} : forall {L L'}, Up a o' L L' -> (L.map (fun p => p.1)).Nodup -> forall q, q ∈ L' -> q = (a, o') ∨ (q ∈ L ∧ q.1 ≠ a)
  | _, _, .here, nd, q, hq => by
    rcases List.mem_cons.mp hq with e | hq
    · exact .inl e
    · refine .inr ⟨List.mem_cons_of_mem _ hq, fun z => ?_⟩
      exact (List.nodup_cons.mp nd).1 (List.mem_map.mpr ⟨q, hq, z⟩)
  | _, _, .there h, nd, q, hq => by
    rcases List.mem_cons.mp hq with e | hq
    · subst e
      refine .inr ⟨List.mem_cons_self, fun z => ?_⟩
      obtain ⟨o, ho⟩ := h.old
      exact (List.nodup_cons.mp nd).1 (List.mem_map.mpr ⟨(a, o), ho, z.symm⟩)
    · rcases h.mem (List.nodup_cons.mp nd).2 q hq with e | ⟨e, n⟩
      · exact .inl e
      · exact .inr ⟨List.mem_cons_of_mem _ e, n⟩
theorem Lay.put {H : Hp} {L L' : List (Addr × HO)} {a : Addr} {o' : HO} (h : Lay H L) (u : Up a o' L L') (m : mutO o' = true) : Lay (upd H a o') L' := by
  refine ⟨by rw [u.keys]; exact h.nd, fun q hq => ?_⟩
  rcases u.mem h.nd q hq with e | ⟨e, n⟩
  · subst e
    exact ⟨upd_same, m⟩
  · exact ⟨by rw [upd_ne n]; exact (h.at_ q e).1, (h.at_ q e).2⟩
theorem Lay.ne {H : Hp} {L : List (Addr × HO)} {a b : Addr} {o u : HO} (h : Lay H ((a, o) :: L)) (m : (b, u) ∈ L) : b ≠ a := fun z =>
  (List.nodup_cons.mp h.nd).1 (List.mem_map.mpr ⟨(b, u), m, z⟩)
/-! ### data made of scalars and tuples -/
mutual
inductive TD (K : PySem.W.Frag) (H : Hp) : V -> PyData -> Prop
  | non : TD K H .non .none
  | bl (b : Bool) : TD K H (.bl b) (.bool b)
  | int (i : Int) : TD K H (.int i) (.int i)
  | str (x : Str) : TD K H (.str x) (.str x)
  | tup {a : Addr} {xs : List V} {ds : List PyData} : SqT K H a xs -> TDs K H xs ds -> TD K H (.ref a) (.tuple ds)
inductive TDs (K : PySem.W.Frag) (H : Hp) : List V -> List PyData -> Prop
  | nil : TDs K H [] []
  | cons {v : V} {vs : List V} {d : PyData} {ds : List PyData} : TD K H v d -> TDs K H vs ds -> TDs K H (v :: vs) (d :: ds)
end
mutual
theorem TD.mono {K : PySem.W.Frag} {H H' : Hp} (s : Stb H H') : forall {v : V} {d : PyData}, TD K H v d -> TD K H' v d
  | _, _, .non => .non
  | _, _, .bl b => .bl b
  | _, _, .int i => .int i
  | _, _, .str x => .str x
  | _, _, .tup h t => .tup (s.sqt h) (TDs.mono s t)
theorem TDs.mono {K : PySem.W.Frag} {H H' : Hp} (s : Stb H H') : forall {vs : List V} {ds : List PyData}, TDs K H vs ds -> TDs K H' vs ds
  | _, _, .nil => .nil
  | _, _, .cons h t => .cons (TD.mono s h) (TDs.mono s t)
end
mutual
theorem TD.dp {K : PySem.W.Frag} {H : Hp} : forall {v : V} {d : PyData}, TD K H v d -> Dp K H v d
  | _, _, .non => .non
  | _, _, .bl b => .bl b
  | _, _, .int i => .int i
  | _, _, .str x => .str x
  | _, _, .tup h t => .tup h (TDs.dp t)
theorem TDs.dp {K : PySem.W.Frag} {H : Hp} : forall {vs : List V} {ds : List PyData}, TDs K H vs ds -> DpAll K H vs ds
  | _, _, .nil => .nil
  | _, _, .cons h t => .cons (TD.dp h) (TDs.dp t)
end
theorem TDs.snoc {K : PySem.W.Frag} {H : Hp} {v : V} {d : PyData} : forall {vs : List V} {ds : List PyData}, TDs K H vs ds -> TD K H v d -> TDs K H (vs ++ [v]) (ds ++ [d])
  | _, _, .nil, h => .cons h .nil
  | _, _, .cons h t, q => .cons h (TDs.snoc t q)
theorem TDs.append {K : PySem.W.Frag} {H : Hp} {us : List V} {es : List PyData} : forall {vs : List V} {ds : List PyData}, TDs K H vs ds -> TDs K H us es -> TDs K H (vs ++ us) (ds ++ es)
  | _, _, .nil, h => h
  | _, _, .cons h t, q => .cons h (TDs.append t q)
theorem TDs.length {K : PySem.W.Frag} {H : Hp} : forall {vs : List V} {ds : List PyData}, TDs K H vs ds -> vs.length = ds.length
  | _, _, .nil => rfl
  | _, _, .cons _ t => by rw [List.length_cons, List.length_cons, TDs.length t]
/-! ### what is known of things that don't change -/
/-- each code object that the table's triples tell bears the name q -/
def TabOK (q : Str) (ps : Array Value) (H : Hp) : Prop := TriplesOk ps.toList ∧ forall (pos : Pos) (cv : Value), codeAmong pos ps.toList = some cv -> exists c, cv = .ref c ∧ H c = some (LamX.CodeO c q)
theorem TabOK.mono {q : Str} {ps : Array Value} {H H' : Hp} (s : Stb H H') (h : TabOK q ps H) : TabOK q ps H' := ⟨h.1, fun pos cv e => by
  obtain ⟨c, e1, e2⟩ := h.2 pos cv e
  exact ⟨c, e1, s _ _ e2 rfl⟩⟩
inductive Im where
  | tab (q : Str) (ps : Array Value)
  | tri (ps : Array Value)
  | tup (a : Addr) (xs : List V)
  | dat (v : V) (d : PyData)
  | dats (vs : List V) (ds : List PyData)
  | pr (P : Hp → Prop) (m : ∀ H H', Stb H H' → P H → P H')
def Im.ok (K : PySem.W.Frag) (H : Hp) : Im -> Prop
  | .tab q ps => TabOK q ps H
  | .tri ps => TriplesOk ps.toList
  | .tup a xs => SqT K H a xs
  | .dat v d => TD K H v d
  | .dats vs ds => TDs K H vs ds
  | .pr P _ => P H
theorem Im.mono {K : PySem.W.Frag} {H H' : Hp} (s : Stb H H') : forall {i : Im}, i.ok K H -> i.ok K H'
  | .tab _ _, h => TabOK.mono s h
  | .tri _, h => h
  | .tup _ _, h => s.sqt h
  | .dat _ _, h => TD.mono s h
  | .dats _ _, h => TDs.mono s h
  | .pr _ m, h => m _ _ s h
/-- B: where the def was entered -/
structure Ctx (K : PySem.W.Frag) (B H : Hp) (L : List (Addr × HO)) (I : List Im) : Prop where
  lay : Lay H L
  im : forall i, i ∈ I -> i.ok K H
  sb : Stb B H
section
variable {K : PySem.W.Frag} {B H H' : Hp} {L L' : List (Addr × HO)} {I : List Im} {a : Addr} {o : HO} {xs : List V}
theorem Ctx.tup (h : Ctx K B H L I) (m : Im.tup a xs ∈ I) : SqT K H a xs := h.im _ m
theorem Ctx.dat {v : V} {d : PyData} (h : Ctx K B H L I) (m : Im.dat v d ∈ I) : TD K H v d := h.im _ m
theorem Ctx.dats {vs : List V} {ds : List PyData} (h : Ctx K B H L I) (m : Im.dats vs ds ∈ I) : TDs K H vs ds := h.im _ m
theorem Ctx.pr {P : Hp → Prop} {w : ∀ H H', Stb H H' → P H → P H'} (h : Ctx K B H L I) (m : Im.pr P w ∈ I) : P H := h.im _ m
theorem Ctx.tab {q : Str} {ps : Array Value} (h : Ctx K B H L I) (m : Im.tab q ps ∈ I) : TabOK q ps H := h.im _ m
theorem Ctx.tri {ps : Array Value} (h : Ctx K B H L I) (m : Im.tri ps ∈ I) : TriplesOk ps.toList := h.im _ m
theorem Ctx.get (h : Ctx K B H L I) (m : (a, o) ∈ L) : H a = some o := h.lay.get m
theorem Ctx.add {i : Im} (h : Ctx K B H L I) (m : i.ok K H) : Ctx K B H L (i :: I) :=
  ⟨h.lay, fun j hj => (List.mem_cons.mp hj).elim (fun e => by rw [e]; exact m) (h.im j), h.sb⟩
theorem Ctx.moved (h : Ctx K B H L I) (s : Stb H H') (l : Lay H' L') : Ctx K B H' L' I := ⟨l, fun i hi => Im.mono s (h.im i hi), h.sb.trans s⟩
theorem Ctx.newM (h : Ctx K B H L I) (n : H a = none) (m : mutO o = true) : Ctx K B (upd H a o) ((a, o) :: L) I := h.moved (Stb.new n) (h.lay.new n m)
theorem Ctx.newT (h : Ctx K B H L I) (n : H a = none) : Ctx K B (upd H a (.tup xs)) L (.tup a xs :: I) := by
  have h1 := h.moved (Stb.new (o := .tup xs) n) (h.lay.keep n)
  exact h1.add (SqT.of upd_same)
theorem Ctx.put {o' : HO} (h : Ctx K B H L I) (u : Up a o' L L') (m : mutO o' = true) : Ctx K B (upd H a o') L' I := by
  obtain ⟨o, ho⟩ := u.old
  exact h.moved (Stb.put (h.lay.get ho) (h.lay.mu ho)) (h.lay.put u m)
theorem Ctx.start (l : Lay H L) : Ctx K H H L [] := ⟨l, fun i hi => (by cases hi), Stb.refl H⟩
theorem Ctx.but {H1 : Hp} {P : Addr} {o o' : HO} (h : Ctx K B H L I) (m : (P, o) ∈ L) (u : Up P o' L L') (mo : mutO o' = true) (e : forall b u, b ≠ P -> H b = some u -> H1 b = some u) (e' : H1 P = some o') : Ctx K B H1 L' I := by
  have y := h.lay
  have sb : Stb H H1 := fun b w hb mw => e b w (fun z => by
    have q := (y.at_ _ m)
    rw [z, q.1] at hb
    cases hb
    rw [q.2] at mw
    cases mw) hb
  refine h.moved sb ⟨by rw [u.keys]; exact y.nd, fun p hp => ?_⟩
  rcases u.mem y.nd p hp with q | ⟨q, n⟩
  · rw [q]
    exact ⟨e', mo⟩
  · exact ⟨e _ _ n (y.at_ p q).1, (y.at_ p q).2⟩
theorem Ctx.rebase (h : Ctx K B H L I) : Ctx K H H L I := ⟨h.lay, h.im, Stb.refl _⟩
theorem Ctx.pick {x : Addr × HO} (p : Pick x L L') (h : Ctx K B H L I) : Ctx K B H (x :: L') I := ⟨h.lay.pick p, h.im, h.sb⟩
theorem Ctx.drop {x : Addr × HO} (h : Ctx K B H (x :: L) I) : Ctx K B H L I := ⟨h.lay.tail, h.im, h.sb⟩
theorem Ctx.perm (h : Ctx K B H L I) (p : L.Perm L') : Ctx K B H L' I := ⟨h.lay.perm p, h.im, h.sb⟩
end
end Ph
namespace Ph
open PySem PySem.Spec PyProof.Rows L2
def rAddU (K : PySem.W.Frag) : R2 := fun x y H Q => match x, y with
  | .int i, .int j => Q (.int (i + j)) H
  | .int i, .bl k => Q (.int (i + b2i k)) H
  | .str i, .str j => i.length + j.length ≤ sizeLine ∧ Q (.str (i ++ j)) H
  | .ref l, .ref b => (∃ xs zs, H l = some (.lst xs) ∧ H b = some (.lst zs) ∧ xs.length + zs.length ≤ sizeLine ∧ ∀ p, H p = none → Q (.ref p) (upd H p (.lst (xs ++ zs)))) ∨ rCatT K (.ref l) (.ref b) H Q
  | _, _ => False
def rSubU : R2 := fun x y H Q => match x, y with
  | .int i, .int j => Q (.int (i - j)) H
  | _, _ => False
theorem fits_of {n : Nat} (h : n ≤ sizeLine) : Builtin.Str.tooLong n = false := by
  cases e : Builtin.Str.tooLong n with
  | false => rfl
  | true =>
    have : ¬ n ≤ sizeLine := by simpa [Builtin.Str.tooLong, sizeLine] using e
    exact absurd h this
/-- x written n times -/
def repS (x : Str) (n : Nat) : Str := ⟨(List.replicate n x.cps).foldl (· ++ ·) #[]⟩
def rMulU : R2 := fun x y H Q => match x, y with
  | .int i, .int j => CMul i j ∧ Q (.int (i * j)) H
  | .ref l, .int k => rRep (.ref l) (.int k) H Q
  | .str x, .int k => 2 ≤ k ∧ k ≤ 1000 ∧ 1 ≤ x.length ∧ x.length ≤ 1000 ∧ Q (.str (repS x k.toNat)) H
  | _, _ => False
def rDivU : R2 := fun x y H Q => match x, y with
  | .int i, .int j => CDiv i j ∧ Q (.int (i / j)) H
  | _, _ => False
def rModU : R2 := fun x y H Q => match x, y with
  | .int i, .int j => 0 < j ∧ Q (.int (i % j)) H
  | _, _ => False
def rPowU : R2 := fun x y H Q => match x, y with
  | .int i, .int j => CPow i j ∧ Q (.int (i ^ j.toNat)) H
  | _, _ => False
def rLtU (f : Int → Int → Bool) (g : Str → Str → Bool) : R2 := fun x y H Q => match x, y with
  | .int i, .int j => Q (.bl (f i j)) H
  | .str i, .str j => Q (.bl (g i j)) H
  | _, _ => False
abbrev rLt : R2 := rLtU (fun i j => decide (i < j)) (fun i j => decide (i.cps.toList < j.cps.toList))
def rCmpI (f : Int → Int → Bool) : R2 := fun x y H Q => match x, y with
  | .int i, .int j => Q (.bl (f i j)) H
  | _, _ => False
abbrev rLe : R2 := rCmpI fun i j => decide (i ≤ j)
abbrev rGt : R2 := rCmpI fun i j => decide (j < i)
abbrev rGe : R2 := rCmpI fun i j => decide (j ≤ i)
def rIsN : R2 := fun x y H Q => y = .non ∧ Q (.bl (decide (x = .non))) H
def rNotN : R2 := fun x y H Q => y = .non ∧ Q (.bl (!decide (x = .non))) H
def rEqU (K : PySem.W.Frag) : R2 := fun x y H Q => rEq x y H Q ∨ rEqD K x y H Q
def rNeU (K : PySem.W.Frag) : R2 := fun x y H Q => rNe x y H Q ∨ rNeD K x y H Q
def rIxD : R2 := fun x y H Q => ∃ a v, x = .ref a ∧ DGet H a y (some v) ∧ Q v H
def rIxU (K : PySem.W.Frag) : R2 := fun x y H Q => rIxL K x y H Q ∨ rIxT K x y H Q ∨ rIxS x y H Q ∨ rIxD x y H Q
def rInD : R2 := fun y x H Q => ∃ a o, x = .ref a ∧ DGet H a y o ∧ Q (.bl o.isSome) H
def rNotInD : R2 := fun y x H Q => ∃ a o, x = .ref a ∧ DGet H a y o ∧ Q (.bl (!o.isSome)) H
def rInS : R2 := fun x y H Q => ∃ i j, x = .str i ∧ y = .str j ∧ Q (.bl (!(Builtin.Str.occurrences j i 0 j.length 1).isEmpty)) H
def rNotInS : R2 := fun x y H Q => ∃ i j, x = .str i ∧ y = .str j ∧ Q (.bl (!(!(Builtin.Str.occurrences j i 0 j.length 1).isEmpty))) H
def rInU (K : PySem.W.Frag) : R2 := fun x y H Q => rIn K false x y H Q ∨ rInD x y H Q ∨ rInS x y H Q
def rNotInU (K : PySem.W.Frag) : R2 := fun x y H Q => rIn K true x y H Q ∨ rNotInD x y H Q ∨ rNotInS x y H Q
def rSetD : V → V → V → Hp → (Hp → Prop) → Prop := fun o i v H Q => ∃ a H', o = .ref a ∧ DPut H a i v H' ∧ Q H'
def rSetU : V → V → V → Hp → (Hp → Prop) → Prop := fun o i v H Q => rSetL o i v H Q ∨ rSetD o i v H Q
def rIAddU : R2 := fun x y H Q => match x, y with
  | .int i, .int j => Q (.int (i + j)) H
  | .str i, .str j => i.length + j.length ≤ sizeLine ∧ Q (.str (i ++ j)) H
  | .ref l, .ref b => rExt2 (.ref l) (.ref b) H Q
  | _, _ => False
def tTruth (K : PySem.W.Frag) (ta : TE) : TT := fun σ H Q => ta σ H fun x H' => ∃ k, TruV K x H' k ∧ Q k H'
section
variable {X : Cx}
theorem u_add : OpR X (binaryOp .Add) (rAddU X.K) := by
  intro pins s σ H x y v u Q I rx ry h
  cases x with
  | int i =>
    cases y with
    | int j => exact op_add pins s σ H _ _ v u Q I rx ry ⟨i, j, rfl, rfl, h⟩
    | bl k => exact op_add_ib pins s σ H _ _ v u Q I rx ry ⟨i, k, rfl, rfl, h⟩
    | _ => exact (show False from h).elim
  | str i =>
    cases y with
    | str j => exact op_add_str pins s σ H _ _ v u Q I rx ry ⟨i, j, rfl, rfl, h.1, h.2⟩
    | _ => exact (show False from h).elim
  | ref l =>
    cases y with
    | ref b =>
      rcases h with ⟨xs, zs, h1, h2, h3, h4⟩ | h
      · exact op_cat pins s σ H _ _ v u Q I rx ry ⟨l, b, xs, zs, rfl, rfl, h1, h2, h3, h4⟩
      · exact op_catT pins s σ H _ _ v u Q I rx ry h
    | _ => exact (show False from h).elim
  | _ => exact (show False from (by cases y <;> exact h)).elim
theorem u_sub : OpR X (binaryOp .Sub) rSubU := by
  intro pins s σ H x y v u Q I rx ry h
  cases x with
  | int i =>
    cases y with
    | int j => exact op_sub pins s σ H _ _ v u Q I rx ry ⟨i, j, rfl, rfl, h⟩
    | _ => exact (show False from h).elim
  | _ => exact (show False from (by cases y <;> exact h)).elim
theorem foldl_cps : ∀ (n : Nat) (a c : Array Nat), ((List.replicate n a).foldl (· ++ ·) c).toList = c.toList ++ (List.replicate n a.toList).flatten
  | 0, a, c => by simp
  | n + 1, a, c => by
    rw [List.replicate_succ, List.foldl_cons, foldl_cps n a (c ++ a), List.replicate_succ, List.flatten_cons, Array.toList_append, List.append_assoc]
theorem repS_list (x : Str) (n : Nat) : (repS x n).cps.toList = (List.replicate n x.cps.toList).flatten := by
  have h := foldl_cps n x.cps #[]
  simpa [repS] using h
theorem repS_length (x : Str) (n : Nat) : (repS x n).length = n * x.length := by
  show (repS x n).cps.size = n * x.cps.size
  rw [← Array.length_toList, repS_list]
  simp [List.length_flatten]
theorem u_mul : OpR X (binaryOp .Mult) rMulU := by
  intro pins s σ H x y v u Q I rx ry h
  cases x with
  | int i =>
    cases y with
    | int j => exact op_mul pins s σ H _ _ v u Q I rx ry ⟨i, j, rfl, rfl, h.1, h.2⟩
    | _ => exact (show False from h).elim
  | ref l =>
    cases y with
    | int j => exact op_rep pins s σ H _ _ v u Q I rx ry h
    | _ => exact (show False from h).elim
  | str i =>
    cases y with
    | int k =>
      obtain ⟨h2, h3, h4, h5, q⟩ := h
      obtain ⟨t, rfl⟩ := rx
      obtain ⟨t2, rfl⟩ := ry
      have hz : i.length * k.toNat ≤ sizeLine := by
        rw [sizeLine_eq]
        have a1 : i.length * k.toNat ≤ 1000 * 1000 := Nat.mul_le_mul h5 (by omega)
        omega
      have l1 : (repS i k.toNat).length ≤ sizeLine := by
        rw [repS_length, Nat.mul_comm]
        exact hz
      refine PySem.P.mul_str ?_ (fun _ _ => ?_) (fun _ _ => fits_of hz) ?_
      · rw [decide_eq_false (by omega), decide_eq_false (by omega)]
        rfl
      · have hd : (1000 : Int) ≤ (2 ^ 63 - 1) / k := (Int.le_ediv_iff_mul_le (by omega)).mpr (by omega)
        omega
      · rw [if_neg (by omega), if_neg (by
          rw [beq_eq_false_iff_ne.mpr (by omega), beq_eq_false_iff_ne.mpr (by omega)]
          exact Bool.false_ne_true)]
        exact ⟨l1, ⟨.str _, H, I.tok _, ⟨_, rfl⟩, q⟩⟩
    | _ => exact (show False from h).elim
  | _ => exact (show False from (by cases y <;> exact h)).elim
theorem u_div : OpR X (binaryOp .FloorDiv) rDivU := by
  intro pins s σ H x y v u Q I rx ry h
  cases x with
  | int i =>
    cases y with
    | int j => exact op_fdiv pins s σ H _ _ v u Q I rx ry ⟨i, j, rfl, rfl, h.1, h.2⟩
    | _ => exact (show False from h).elim
  | _ => exact (show False from (by cases y <;> exact h)).elim
theorem u_mod : OpR X (binaryOp .Mod) rModU := by
  intro pins s σ H x y v u Q I rx ry h
  cases x with
  | int i =>
    cases y with
    | int j => exact op_mod pins s σ H _ _ v u Q I rx ry ⟨i, j, rfl, rfl, h.1, h.2⟩
    | _ => exact (show False from h).elim
  | _ => exact (show False from (by cases y <;> exact h)).elim
theorem u_pow : OpR X (binaryOp .Pow) rPowU := by
  intro pins s σ H x y v u Q I rx ry h
  cases x with
  | int i =>
    cases y with
    | int j => exact op_pow pins s σ H _ _ v u Q I rx ry ⟨i, j, rfl, rfl, h.1, h.2⟩
    | _ => exact (show False from h).elim
  | _ => exact (show False from (by cases y <;> exact h)).elim
theorem u_lt : OpR X (compareOp .Lt) rLt := by
  intro pins s σ H x y v u Q I rx ry h
  cases x with
  | int i =>
    cases y with
    | int j => exact op_lt pins s σ H _ _ v u Q I rx ry ⟨i, j, rfl, rfl, h⟩
    | _ => exact (show False from h).elim
  | str i =>
    cases y with
    | str j => exact op_lt_str pins s σ H _ _ v u Q I rx ry ⟨i, j, rfl, rfl, h⟩
    | _ => exact (show False from h).elim
  | _ => exact (show False from (by cases y <;> exact h)).elim
theorem u_le : OpR X (compareOp .LtE) rLe := by
  intro pins s σ H x y v u Q I rx ry h
  cases x with
  | int i =>
    cases y with
    | int j => exact op_le pins s σ H _ _ v u Q I rx ry ⟨i, j, rfl, rfl, h⟩
    | _ => exact (show False from h).elim
  | _ => exact (show False from (by cases y <;> exact h)).elim
theorem u_gt : OpR X (compareOp .Gt) rGt := by
  intro pins s σ H x y v u Q I rx ry h
  cases x with
  | int i =>
    cases y with
    | int j => exact op_gt pins s σ H _ _ v u Q I rx ry ⟨i, j, rfl, rfl, h⟩
    | _ => exact (show False from h).elim
  | _ => exact (show False from (by cases y <;> exact h)).elim
theorem u_ge : OpR X (compareOp .GtE) rGe := by
  intro pins s σ H x y v u Q I rx ry h
  cases x with
  | int i =>
    cases y with
    | int j => exact op_ge pins s σ H _ _ v u Q I rx ry ⟨i, j, rfl, rfl, h⟩
    | _ => exact (show False from h).elim
  | _ => exact (show False from (by cases y <;> exact h)).elim
theorem u_isN : OpR X (compareOp .Is) rIsN := op_isN
theorem u_notN : OpR X (compareOp .IsNot) rNotN := op_notN
theorem u_eq (hu : X.A.units + 64 < cLine) : OpR X (compareOp .Eq) (rEqU X.K) := op_eq.or (op_eqD hu)
theorem u_ne (hu : X.A.units + 64 < cLine) : OpR X (compareOp .NotEq) (rNeU X.K) := op_ne.or (op_neD hu)
theorem ix_dict (hu : X.A.units + 64 < cLine) : IxR X rIxD := by
  intro value slice pins s σ H x y v u Q I rx ry h hs
  obtain ⟨a, z, rfl, g, q⟩ := h
  cases rx
  have hu1 : X.A.units + 1 < cLine := by omega
  exact tail_any (dict_typeIs I g) PySem.F.slot_dict_getitem.lookup (d_getItem hu1 I g ry fun w' s3 I3 rw' => ⟨z, H, I3, rw', q⟩) hs
theorem u_ix (hu : X.A.units + 64 < cLine) : IxR X (rIxU X.K) := ix_list.or (ix_tup.or (ix_str.or (ix_dict hu)))
theorem op_inD (hu : X.A.units + 64 < cLine) : OpR X (compareOp .In) rInD := by
  intro pins s σ H x y v u Q I rx ry h
  obtain ⟨a, o, rfl, g, q⟩ := h
  cases ry
  have hu1 : X.A.units + 1 < cLine := by omega
  exact d_in hu1 I g rx fun s3 I3 => ⟨.bl o.isSome, H, I3, rfl, q⟩
theorem op_notinD (hu : X.A.units + 64 < cLine) : OpR X (compareOp .NotIn) rNotInD := by
  intro pins s σ H x y v u Q I rx ry h
  obtain ⟨a, o, rfl, g, q⟩ := h
  cases ry
  have hu1 : X.A.units + 1 < cLine := by omega
  exact d_notIn hu1 I g rx fun s3 I3 => ⟨.bl (!o.isSome), H, I3, rfl, q⟩
theorem u_in (hu : X.A.units + 64 < cLine) : OpR X (compareOp .In) (rInU X.K) := op_in_seq.or ((op_inD hu).or op_in_str)
theorem u_notin (hu : X.A.units + 64 < cLine) : OpR X (compareOp .NotIn) (rNotInU X.K) := op_notIn_seq.or ((op_notinD hu).or op_notin_str)
theorem set_dict (hu : X.A.units + 64 < cLine) : PSet X rSetD := by
  intro pins s σ H o i v ov iv u Q I ro ri rv h
  obtain ⟨a, H', rfl, g, q⟩ := h
  cases ro
  have hu1 : X.A.units + 1 < cLine := by omega
  exact d_setItem hu1 I g ri rv fun s4 I4 => ⟨H', I4, q⟩
theorem u_set (hu : X.A.units + 64 < cLine) : PSet X rSetU := by
  intro pins s σ H o i v ov iv u Q I ro ri rv h
  rcases h with h | h
  · exact set_list pins s σ H o i v ov iv u Q I ro ri rv h
  · exact set_dict hu pins s σ H o i v ov iv u Q I ro ri rv h
theorem u_iadd : OpR X (inplaceOp .Add) rIAddU := by
  intro pins s σ H x y v u Q I rx ry h
  cases x with
  | int i =>
    cases y with
    | int j => exact iop_add pins s σ H _ _ v u Q I rx ry ⟨i, j, rfl, rfl, h⟩
    | _ => exact (show False from h).elim
  | str i =>
    cases y with
    | str j => exact iop_add_str pins s σ H _ _ v u Q I rx ry ⟨i, j, rfl, rfl, h.1, h.2⟩
    | _ => exact (show False from h).elim
  | ref l =>
    cases y with
    | ref b => exact iop_ext pins s σ H _ _ v u Q I rx ry h
    | _ => exact (show False from h).elim
  | _ => exact (show False from (by cases y <;> exact h)).elim
theorem u_isub : OpR X (inplaceOp .Sub) rSubU := by
  intro pins s σ H x y v u Q I rx ry h
  cases x with
  | int i =>
    cases y with
    | int j => exact iop_sub pins s σ H _ _ v u Q I rx ry ⟨i, j, rfl, rfl, h⟩
    | _ => exact (show False from h).elim
  | _ => exact (show False from (by cases y <;> exact h)).elim
theorem in_of {op : Operator} {r : R2} (h : OpR X (inplaceOp op) r) : InOp X op r := fun pins s σ H x y u v Q I rx ry q => h pins s σ H x y u v Q I rx ry q
theorem ip_of {op : Operator} {r : R2} (h : OpR X (inplaceOp op) r) : PIp X op r := fun pins s σ H x y u v Q I rx ry q => h pins s σ H x y u v Q I rx ry q
theorem pt_tru {a : Expr} {ta : TE} (ha : PE X a ta) (he : ∀ whole, isTrue a X.env whole = (do let v ← whole; standAt a.pos; holding [v] (truthy v)) := by intro _; rfl) : PT X a (tTruth X.K ta) := pt_truth ha he
/-- what leaves a def -/
theorem passX {P : Program} {w : World} {K : PySem.W.Frag} {mg : Str → Option Value} {base : Heap} {N : List Str} {q : Str} {sc : Scope} {f : Addr} {cd : Value} {A : Around} {outer : List Env} {s : Shared} {H : Hp} {E : XK} :
    Passes (L2.CX P w) (cxOf (L2.CX P w) P w K mg base N q sc f cd A outer s H E) E := passes_call (takes_of rfl rfl rfl rfl) fun _ _ _ _ h => h
theorem pe_gint {x : Str} {i : Int} {pos : Pos} (hg : Gl X x) (hm : ∃ t, X.mg x = some (.int i t)) (hd : (x == ("__debug__" : Str)) = false := by decide) : PE X (.Name x pos) (tC (.int i)) := by
  obtain ⟨t, h⟩ := hm
  exact pe_glob hg h ⟨t, rfl⟩ hd
theorem pe_gstr {x z : Str} {pos : Pos} (hg : Gl X x) (hm : ∃ t, X.mg x = some (.str z t)) (hd : (x == ("__debug__" : Str)) = false := by decide) : PE X (.Name x pos) (tC (.str z)) := by
  obtain ⟨t, h⟩ := hm
  exact pe_glob hg h ⟨t, rfl⟩ hd
end
end Ph
namespace Ph
open PySem PySem.Spec PyProof.Rows L2
/-! ### more rules by values -/
def rSlU (K : PySem.W.Frag) : V → Option Int → Option Int → Hp → VK → Prop := fun x lo hi H Q => rSlL K x lo hi H Q ∨ rSlS x lo hi H Q ∨ rSlT K x lo hi H Q
theorem u_sl {X : Cx} : SlR X (rSlU X.K) := sl_list.or (sl_str.or sl_tup)
def rLenU (K : PySem.W.Frag) : List V → Hp → VK → Prop := fun xs H Q => (∃ x n, xs = [x] ∧ LenV K x H n ∧ Q (.int n) H) ∨ ∃ a kvs, xs = [V.ref a] ∧ H a = some (.dK kvs) ∧ Q (.int kvs.length) H
theorem u_len {X : Cx} : CallR X (.builtin "len") (rLenU X.K) := call_len.or call_lenD
def rAbs : List V → Hp → VK → Prop := fun xs H Q => ∃ i, xs = [.int i] ∧ Q (.int (if i < 0 then -i else i)) H
def rMax2 : List V → Hp → VK → Prop := fun xs H Q => ∃ i j, xs = [.int i, .int j] ∧ Q (.int (if j > i then j else i)) H
def rMin2 : List V → Hp → VK → Prop := fun xs H Q => ∃ i j, xs = [.int i, .int j] ∧ Q (.int (if j < i then j else i)) H
def rInt1 : List V → Hp → VK → Prop := fun xs H Q => (∃ i, xs = [.int i] ∧ Q (.int i) H) ∨ ∃ k, xs = [.bl k] ∧ Q (.int (if k then 1 else 0)) H
def rNeg : V → Hp → VK → Prop := rU fun i => .int (-i)
def tRaiseE (C : Addr) (E : XK) : TS := fun _ _ H => E (.ref C) none H
abbrev lamq (q : Str) : Str := q ++ ".<locals>." ++ "<lambda>"
/-! ### by places -/
inductive SetAt (v : V) : Nat → L2.St → L2.St → Prop
  | here {x : Option V} {σ : L2.St} : SetAt v 0 (x :: σ) (some v :: σ)
  | there {i : Nat} {x : Option V} {σ σ' : L2.St} : SetAt v i σ σ' → SetAt v (i + 1) (x :: σ) (x :: σ')
theorem SetAt.ok {v : V} : ∀ {i σ σ'}, SetAt v i σ σ' → σ.set i (some v) = σ'
  | _, _, _, .here => rfl
  | _, _, _, .there h => by rw [List.set_cons_succ, h.ok]
inductive LSet (v : V) : Nat → List V → List V → Prop
  | here {x : V} {r : List V} : LSet v 0 (x :: r) (v :: r)
  | there {i : Nat} {x : V} {r r' : List V} : LSet v i r r' → LSet v (i + 1) (x :: r) (x :: r')
theorem LSet.ok {v : V} : ∀ {i r r'}, LSet v i r r' → r.set i v = r'
  | _, _, _, .here => rfl
  | _, _, _, .there h => by rw [List.set_cons_succ, h.ok]
inductive Lk (f : Str) : List (Str × V) → V → Prop
  | here {v : V} {fs : List (Str × V)} : Lk f ((f, v) :: fs) v
  | there {g : Str} {x : V} {fs : List (Str × V)} {v : V} : f ≠ g → Lk f fs v → Lk f ((g, x) :: fs) v
theorem Lk.ok {f : Str} : ∀ {fs v}, Lk f fs v → fs.lookup f = some v
  | _, _, .here => by simp [List.lookup]
  | _, _, .there n h => by
    rw [List.lookup_cons, show (f == _) = false from beq_eq_false_iff_ne.mpr n]
    exact h.ok
inductive NoLk (f : Str) : List (Str × V) → Prop
  | nil : NoLk f []
  | there {g : Str} {x : V} {fs : List (Str × V)} : f ≠ g → NoLk f fs → NoLk f ((g, x) :: fs)
theorem NoLk.ok {f : Str} : ∀ {fs}, NoLk f fs → fs.lookup f = none
  | _, .nil => rfl
  | _, .there n h => by
    rw [List.lookup_cons, show (f == _) = false from beq_eq_false_iff_ne.mpr n]
    exact h.ok
inductive Put (f : Str) (v : V) : List (Str × V) → List (Str × V) → Prop
  | nil : Put f v [] [(f, v)]
  | here {x : V} {fs : List (Str × V)} : Put f v ((f, x) :: fs) ((f, v) :: fs)
  | there {g : Str} {x : V} {fs fs' : List (Str × V)} : g ≠ f → Put f v fs fs' → Put f v ((g, x) :: fs) ((g, x) :: fs')
theorem Put.ok {f : Str} {v : V} : ∀ {fs fs'}, Put f v fs fs' → putF f v fs = fs'
  | _, _, .nil => rfl
  | _, _, .here => if_pos rfl
  | _, _, .there (g := g) (x := x) (fs := fs) n h => by
    have e : putF f v ((g, x) :: fs) = if g = f then (g, v) :: fs else (g, x) :: putF f v fs := rfl
    rw [e, if_neg n, h.ok]
/-- a dict's entry -/
inductive Dk (k : Key) : List (Key × V) → V → Prop
  | here {v : V} {r : List (Key × V)} : Dk k ((k, v) :: r) v
  | there {g : Key} {x : V} {r : List (Key × V)} {v : V} : g ≠ k → Dk k r v → Dk k ((g, x) :: r) v
theorem Dk.ok {k : Key} : ∀ {r v}, Dk k r v → valV r k = some v
  | _, _, .here => valV_pos rfl
  | _, _, .there n h => by rw [valV_neg n]; exact h.ok
inductive DNo (k : Key) : List (Key × V) → Prop
  | nil : DNo k []
  | there {g : Key} {x : V} {r : List (Key × V)} : g ≠ k → DNo k r → DNo k ((g, x) :: r)
theorem DNo.ok {k : Key} : ∀ {r}, DNo k r → valV r k = none
  | _, .nil => rfl
  | _, .there n h => by rw [valV_neg n]; exact h.ok
/-- put where it is there -/
inductive DPt (k : Key) (v : V) : List (Key × V) → List (Key × V) → Prop
  | here {x : V} {r : List (Key × V)} : DNo k r → DPt k v ((k, x) :: r) ((k, v) :: r)
  | there {g : Key} {x : V} {r r' : List (Key × V)} : g ≠ k → DPt k v r r' → DPt k v ((g, x) :: r) ((g, x) :: r')
theorem DNo.map {k : Key} {v : V} : ∀ {r}, DNo k r → (r.map fun kv => if kv.1 = k then (kv.1, v) else kv) = r
  | _, .nil => rfl
  | _, .there n h => by rw [List.map_cons, h.map, if_neg n]
theorem DPt.map {k : Key} {v : V} : ∀ {r r'}, DPt k v r r' → (r.map fun kv => if kv.1 = k then (kv.1, v) else kv) = r'
  | _, _, .here h => by rw [List.map_cons, h.map, if_pos rfl]
  | _, _, .there n h => by rw [List.map_cons, h.map, if_neg n]
theorem DPt.any {k : Key} {v : V} : ∀ {r r'}, DPt k v r r' → (r.any fun kv => decide (kv.1 = k)) = true
  | _, _, .here _ => by simp
  | _, _, .there _ h => by rw [List.any_cons, h.any, Bool.or_true]
theorem DPt.ok {k : Key} {v : V} {r r' : List (Key × V)} (h : DPt k v r r') : putK r k v = r' := by
  unfold putK
  rw [if_pos h.any, h.map]
theorem DPt.length {k : Key} {v : V} : ∀ {r r'}, DPt k v r r' → r'.length = r.length
  | _, _, .here _ => rfl
  | _, _, .there _ h => by rw [List.length_cons, List.length_cons, h.length]
/-! ### what waits for a value -/
section
variable (K : PySem.W.Frag)
def kTup (Q : VK) : List V → Hp → Prop := fun xs H1 => xs.length ≤ sizeLine ∧ ∀ p, H1 p = none → Q (.ref p) (upd H1 p (.tup xs))
def kLst (Q : VK) : List V → Hp → Prop := fun xs H1 => xs.length ≤ sizeLine ∧ ∀ p, H1 p = none → Q (.ref p) (upd H1 p (.lst xs))
def kFld (f : Str) (Q : VK) : VK := fun x H1 => ∃ a C dx fs v, x = .ref a ∧ H1 a = some (.ins C dx fs) ∧ Cls K C ∧ NoAttr K C f ∧ fs.lookup f = some v ∧ Q v H1
def kSetF (f : Str) (A : L2.St → Hp → Prop) (σ : L2.St) (y : V) : VK := fun x H2 => ∃ a C dx fs, x = .ref a ∧ H2 a = some (.ins C dx fs) ∧ Cls K C ∧ NoAttr K C f ∧ fs.length < 1000 ∧ A σ (upd H2 a (.ins C dx (putF f y fs)))
def kAugG (f : Str) (a C : Addr) (A : L2.St → Hp → Prop) (σ : L2.St) : VK := fun z H3 => ∃ dx' fs', H3 a = some (.ins C dx' fs') ∧ fs'.length < 1000 ∧ A σ (upd H3 a (.ins C dx' (putF f z fs')))
def kAugF (f : Str) (tv : TE) (rd : R2) (A : L2.St → Hp → Prop) (σ : L2.St) : VK := fun x H1 => ∃ a C dx fs v, x = .ref a ∧ H1 a = some (.ins C dx fs) ∧ Cls K C ∧ NoAttr K C f ∧ fs.lookup f = some v ∧
    tv σ H1 fun y H2 => rd v y H2 (kAugG f a C A σ)
def kTest (Qb : Bool → Hp → Prop) : VK := fun x H1 => ∃ k, x = .bl k ∧ Qb k H1
def kTru (Qb : Bool → Hp → Prop) : VK := fun x H1 => ∃ k, TruV K x H1 k ∧ Qb k H1
def kAndV (σ : L2.St) (tb : TE) (Q : VK) : VK := fun x H1 => ∃ c, x = .bl c ∧ if c = true then tb σ H1 Q else Q (.bl false) H1
def kOrV (σ : L2.St) (tb : TE) (Q : VK) : VK := fun x H1 => ∃ c, x = .bl c ∧ if c = true then Q (.bl true) H1 else tb σ H1 Q
def kNotV (Q : VK) : VK := fun x H1 => ∃ c, x = .bl c ∧ Q (.bl (!c)) H1
def kChain (r' : R2) (σ : L2.St) (tc : TE) (y : V) (Q : VK) : VK := fun z H3 => ∃ k, z = .bl k ∧ (if k = true then tc σ H3 fun w' H4 => r' y w' H4 Q else Q (.bl false) H3)
def kMeth (C : Addr) (m : Str) (σ : L2.St) (tr : TA) (Z : V → List V → Hp → Prop) : VK := fun x H1 => ∃ a dx fs, x = .ref a ∧ H1 a = some (.ins C dx fs) ∧ fs.lookup m = none ∧ tr σ H1 fun vs H2 => Z x vs H2
def kInit (Q : VK) (x : Addr) : VK := fun v H2 => v = .non ∧ Q (.ref x) H2
def kMake (C : Addr) (sp : Sp) (dvs : List V) (E : XK) (Q : VK) : List V → Hp → Prop := fun vs H1 => ∀ x dx, H1 x = none → H1 dx = none → dx ≠ x → sp (.ref x :: (vs ++ dvs)) (upd (upd H1 dx (.own x)) x (.ins C dx [])) (kInit Q x) E
def kBm (T : String) (r : V → List V → Hp → VK → Prop) (σ : L2.St) (tr : TA) (Q : VK) : VK := fun x H1 => tyV K T x H1 ∧ tr σ H1 fun xs H2 => r x xs H2 Q
def kPar2 (i j : Nat) (σ : L2.St) (A : L2.St → Hp → Prop) : List V → Hp → Prop := fun vs H1 => ∃ v w, vs = [v, w] ∧ gName i v σ H1 fun σ1 H2 => gName j w σ1 H2 A
def kPar3 (i j l : Nat) (σ : L2.St) (A : L2.St → Hp → Prop) : List V → Hp → Prop := fun vs H1 => ∃ u v w, vs = [u, v, w] ∧ gName i u σ H1 fun σ1 H2 => gName j v σ1 H2 fun σ2 H3 => gName l w σ2 H3 A
def kCall (sp : Sp) (dvs : List V) (E : XK) (Q : VK) : List V → Hp → Prop := fun vs H1 => sp (vs ++ dvs) H1 Q E
end
/-! ### statements -/
section
variable {K : PySem.W.Frag} {A : L2.St → Hp → Prop} {Bt : VK} {Cb Dc : L2.St → Hp → Prop} {σ σ' : L2.St} {B H : Hp} {Q : VK} {R : L2.St → Hp → Prop} {L L' : List (Addr × HO)} {I : List Im}
theorem s_nx (h : A σ H) : Ends.nx ⟨A, Bt, Cb, Dc⟩ σ H := h
theorem s_rt {v : V} (h : Bt v H) : Ends.rt ⟨A, Bt, Cb, Dc⟩ v H := h
theorem s_bk (h : Cb σ H) : Ends.bk ⟨A, Bt, Cb, Dc⟩ σ H := h
theorem s_ct (h : Dc σ H) : Ends.ct ⟨A, Bt, Cb, Dc⟩ σ H := h
theorem s_seq {t u : TS} (h : t ⟨u ⟨A, Bt, Cb, Dc⟩, Bt, Cb, Dc⟩ σ H) : tSeq t u ⟨A, Bt, Cb, Dc⟩ σ H := h
theorem s_next (h : A σ H) : tNext ⟨A, Bt, Cb, Dc⟩ σ H := h
theorem s_break (h : Cb σ H) : tBreak ⟨A, Bt, Cb, Dc⟩ σ H := h
theorem s_cont (h : Dc σ H) : tCont ⟨A, Bt, Cb, Dc⟩ σ H := h
theorem s_asg {te : TE} {g : TG} (h : te σ H fun x H1 => g x σ H1 A) : tAsg te g ⟨A, Bt, Cb, Dc⟩ σ H := h
theorem s_asg2 {te : TE} {g g2 : TG} (h : te σ H fun x H1 => g x σ H1 fun σ1 H2 => g2 x σ1 H2 A) : tAsg2 te g g2 ⟨A, Bt, Cb, Dc⟩ σ H := h
theorem s_name {i : Nat} {v : V} (h : SetAt v i σ σ') (q : R σ' H) : gName i v σ H R := by
  show R (σ.set i (some v)) H
  rw [h.ok]
  exact q
theorem s_ret {te : TE} (h : te σ H Bt) : tRet te ⟨A, Bt, Cb, Dc⟩ σ H := h
theorem s_retN (h : Bt .non H) : tRetN ⟨A, Bt, Cb, Dc⟩ σ H := h
theorem s_drop {te : TE} (h : te σ H fun _ H1 => A σ H1) : tDrop te ⟨A, Bt, Cb, Dc⟩ σ H := h
theorem s_if {c : TT} {t u : TS} (h : c σ H fun b H1 => if b = true then t ⟨A, Bt, Cb, Dc⟩ σ H1 else u ⟨A, Bt, Cb, Dc⟩ σ H1) : tIfS c t u ⟨A, Bt, Cb, Dc⟩ σ H := h
theorem s_aug {i : Nat} {te : TE} {ti : TIp} {x : V} (e : σ[i]? = some (some x)) (h : te σ H fun y H1 => ti x y H1 fun z H2 => gName i z σ H2 A) : tAug i te ti ⟨A, Bt, Cb, Dc⟩ σ H := ⟨x, e, h⟩
theorem s_par {i j : Nat} {ta : TA} (h : ta σ H (kPar2 i j σ A)) : tPar i j ta ⟨A, Bt, Cb, Dc⟩ σ H := h
theorem s_par3 {i j l : Nat} {ta : TA} (h : ta σ H (kPar3 i j l σ A)) : tPar3 i j l ta ⟨A, Bt, Cb, Dc⟩ σ H := h
theorem s_par2V {i j : Nat} {v w : V} (h : gName i v σ H fun σ1 H2 => gName j w σ1 H2 A) : kPar2 i j σ A [v, w] H := ⟨v, w, rfl, h⟩
theorem s_par3V {i j l : Nat} {u v w : V} (h : gName i u σ H fun σ1 H2 => gName j v σ1 H2 fun σ2 H3 => gName l w σ2 H3 A) : kPar3 i j l σ A [u, v, w] H := ⟨u, v, w, rfl, h⟩
theorem s_raise {C : Addr} {E : XK} (h : E (.ref C) none H) : tRaiseE C E ⟨A, Bt, Cb, Dc⟩ σ H := h
/-! ### expressions -/
variable {ta tb te : TE} {tr : TA} {v x y : V}
theorem s_var {i : Nat} (e : σ[i]? = some (some v)) (h : Q v H) : tVar i σ H Q := ⟨v, e, h⟩
theorem s_c (h : Q v H) : tC v σ H Q := h
theorem s_op {r : R2} (h : ta σ H fun x H1 => tb σ H1 fun y H2 => r x y H2 Q) : tOp r ta tb σ H Q := h
theorem s_un {r : V → Hp → VK → Prop} (h : ta σ H fun x H1 => r x H1 Q) : tUn r ta σ H Q := h
theorem s_cons {Qa : List V → Hp → Prop} (h : te σ H fun x H1 => tr σ H1 fun xs H2 => Qa (x :: xs) H2) : tCons te tr σ H Qa := h
theorem s_nil {Qa : List V → Hp → Prop} (h : Qa [] H) : tNil σ H Qa := h
theorem s_tup (h : tr σ H (kTup Q)) : tTup tr σ H Q := h
theorem s_lst (h : tr σ H (kLst Q)) : tLst tr σ H Q := h
theorem s_tupN {xs : List V} (hC : Ctx K B H L I) (hz : xs.length ≤ 1000) (k : ∀ p H1, Ctx K B H1 L (.tup p xs :: I) → Q (.ref p) H1) : kTup Q xs H :=
  ⟨Nat.le_trans hz (by decide), fun p hp => k p _ (hC.newT hp)⟩
theorem s_lstN {xs : List V} (hC : Ctx K B H L I) (hz : xs.length ≤ 1000) (k : ∀ p H1, Ctx K B H1 ((p, .lst xs) :: L) I → Q (.ref p) H1) : kLst Q xs H :=
  ⟨Nat.le_trans hz (by decide), fun p hp => k p _ (hC.newM hp rfl)⟩
theorem s_dnewK (hC : Ctx K B H L I) (k : ∀ p H1, Ctx K B H1 ((p, .dK []) :: L) I → Q (.ref p) H1) : tDNewK σ H Q := fun p hp => k p _ (hC.newM hp rfl)
theorem s_dnewT (hC : Ctx K B H L I) (k : ∀ p H1, Ctx K B H1 ((p, .dT []) :: L) I → Q (.ref p) H1) : tDNewT σ H Q := fun p hp => k p _ (hC.newM hp rfl)
theorem s_fld {f : Str} (h : ta σ H (kFld K f Q)) : tFld K ta f σ H Q := h
theorem s_fldV {f : Str} {a C dx : Addr} {fs : List (Str × V)} (m : H a = some (.ins C dx fs)) (c : Cls K C) (n : NoAttr K C f) (l : Lk f fs v) (q : Q v H) : kFld K f Q (.ref a) H := ⟨a, C, dx, fs, v, rfl, m, c, n, l.ok, q⟩
theorem s_setF {f : Str} {tv : TE} (h : tv σ H fun y H1 => ta σ H1 (kSetF K f A σ y)) : sFld K ta tv f ⟨A, Bt, Cb, Dc⟩ σ H := h
theorem s_setV {f : Str} {a C dx : Addr} {fs fs' : List (Str × V)} (hC : Ctx K B H L I) (m : H a = some (.ins C dx fs)) (c : Cls K C) (n : NoAttr K C f) (z : fs.length < 1000) (p : Put f y fs fs') (u : Up a (.ins C dx fs') L L')
    (k : ∀ H1, Ctx K B H1 L' I → A σ H1) : kSetF K f A σ y (.ref a) H :=
  ⟨a, C, dx, fs, rfl, m, c, n, z, by rw [p.ok]; exact k _ (hC.put u rfl)⟩
theorem s_augF {f : Str} {tv : TE} {rd : R2} (h : ta σ H (kAugF K f tv rd A σ)) : sFldAug K ta tv rd f ⟨A, Bt, Cb, Dc⟩ σ H := h
theorem s_augV {f : Str} {a C dx : Addr} {fs : List (Str × V)} {tv : TE} {rd : R2} (m : H a = some (.ins C dx fs)) (c : Cls K C) (n : NoAttr K C f) (l : Lk f fs v) (q : tv σ H fun y H2 => rd v y H2 (kAugG f a C A σ)) : kAugF K f tv rd A σ (.ref a) H := ⟨a, C, dx, fs, v, rfl, m, c, n, l.ok, q⟩
theorem s_augW {f : Str} {a C dx : Addr} {fs fs' : List (Str × V)} (hC : Ctx K B H L I) (m : H a = some (.ins C dx fs)) (z : fs.length < 1000) (p : Put f y fs fs') (u : Up a (.ins C dx fs') L L')
    (k : ∀ H1, Ctx K B H1 L' I → A σ H1) : kAugG f a C A σ y H := ⟨dx, fs, m, z, by rw [p.ok]; exact k _ (hC.put u rfl)⟩
theorem s_addI {i j : Int} (h : Q (.int (i + j)) H) : rAddU K (.int i) (.int j) H Q := h
theorem s_addS {i j : Str} (z : i.length + j.length ≤ sizeLine) (h : Q (.str (i ++ j)) H) : rAddU K (.str i) (.str j) H Q := ⟨z, h⟩
theorem s_addL {l b : Addr} {xs zs : List V} (hC : Ctx K B H L I) (h1 : H l = some (.lst xs)) (h2 : H b = some (.lst zs)) (z : xs.length + zs.length ≤ 100000) (k : ∀ p H1, Ctx K B H1 ((p, .lst (xs ++ zs)) :: L) I → Q (.ref p) H1) :
    rAddU K (.ref l) (.ref b) H Q := .inl ⟨xs, zs, h1, h2, Nat.le_trans z (by decide), fun p hp => k p _ (hC.newM hp rfl)⟩
theorem s_subI {i j : Int} (h : Q (.int (i - j)) H) : rSubU (.int i) (.int j) H Q := h
theorem s_mulI {i j : Int} (c : CMul i j) (h : Q (.int (i * j)) H) : rMulU (.int i) (.int j) H Q := ⟨c, h⟩
theorem s_divI {i j : Int} (c : CDiv i j) (h : Q (.int (i / j)) H) : rDivU (.int i) (.int j) H Q := ⟨c, h⟩
theorem s_modI {i j : Int} (c : 0 < j) (h : Q (.int (i % j)) H) : rModU (.int i) (.int j) H Q := ⟨c, h⟩
theorem s_powI {i j : Int} (c : CPow i j) (h : Q (.int (i ^ j.toNat)) H) : rPowU (.int i) (.int j) H Q := ⟨c, h⟩
theorem s_negI {i : Int} (h : Q (.int (-i)) H) : rNeg (.int i) H Q := ⟨i, rfl, h⟩
theorem s_iaddI {i j : Int} (h : Q (.int (i + j)) H) : rIAddU (.int i) (.int j) H Q := h
theorem s_ltI {i j : Int} (h : Q (.bl (decide (i < j))) H) : rLt (.int i) (.int j) H Q := h
theorem s_leI {i j : Int} (h : Q (.bl (decide (i ≤ j))) H) : rLe (.int i) (.int j) H Q := h
theorem s_gtI {i j : Int} (h : Q (.bl (decide (j < i))) H) : rGt (.int i) (.int j) H Q := h
theorem s_geI {i j : Int} (h : Q (.bl (decide (j ≤ i))) H) : rGe (.int i) (.int j) H Q := h
theorem s_isN_non (h : Q (.bl true) H) : rIsN .non .non H Q := ⟨rfl, h⟩
theorem s_isN_ref {a : Addr} (h : Q (.bl false) H) : rIsN (.ref a) .non H Q := ⟨rfl, h⟩
theorem s_isN_int {i : Int} (h : Q (.bl false) H) : rIsN (.int i) .non H Q := ⟨rfl, h⟩
theorem s_isN_str {i : Str} (h : Q (.bl false) H) : rIsN (.str i) .non H Q := ⟨rfl, h⟩
theorem s_isN_bl {i : Bool} (h : Q (.bl false) H) : rIsN (.bl i) .non H Q := ⟨rfl, h⟩
theorem s_notN_non (h : Q (.bl false) H) : rNotN .non .non H Q := ⟨rfl, h⟩
theorem s_notN_ref {a : Addr} (h : Q (.bl true) H) : rNotN (.ref a) .non H Q := ⟨rfl, h⟩
theorem s_notN_int {i : Int} (h : Q (.bl true) H) : rNotN (.int i) .non H Q := ⟨rfl, h⟩
theorem s_notN_str {i : Str} (h : Q (.bl true) H) : rNotN (.str i) .non H Q := ⟨rfl, h⟩
theorem s_notN_bl {i : Bool} (h : Q (.bl true) H) : rNotN (.bl i) .non H Q := ⟨rfl, h⟩
theorem s_eqI {i j : Int} (h : Q (.bl (decide (i = j))) H) : rEqU K (.int i) (.int j) H Q := .inl ⟨rfl, by rw [show decide (V.int i = V.int j) = decide (i = j) from by simp]; exact h⟩
theorem s_neI {i j : Int} (h : Q (.bl (!decide (i = j))) H) : rNeU K (.int i) (.int j) H Q := .inl ⟨rfl, by rw [show decide (V.int i = V.int j) = decide (i = j) from by simp]; exact h⟩
theorem s_eqS {i j : Str} (h : Q (.bl (decide (i = j))) H) : rEqU K (.str i) (.str j) H Q := .inl ⟨rfl, by rw [show decide (V.str i = V.str j) = decide (i = j) from by simp]; exact h⟩
theorem s_neS {i j : Str} (h : Q (.bl (!decide (i = j))) H) : rNeU K (.str i) (.str j) H Q := .inl ⟨rfl, by rw [show decide (V.str i = V.str j) = decide (i = j) from by simp]; exact h⟩
theorem s_eqB {i j : Bool} (h : Q (.bl (i == j)) H) : rEqU K (.bl i) (.bl j) H Q := .inl ⟨rfl, by rw [show decide (V.bl i = V.bl j) = (i == j) from by cases i <;> cases j <;> rfl]; exact h⟩
theorem s_neB {i j : Bool} (h : Q (.bl (i != j)) H) : rNeU K (.bl i) (.bl j) H Q := .inl ⟨rfl, by rw [show (!decide (V.bl i = V.bl j)) = (i != j) from by cases i <;> cases j <;> rfl]; exact h⟩
theorem s_eqNS {j : Str} (h : Q (.bl false) H) : rEqU K .non (.str j) H Q := .inl ⟨rfl, h⟩
theorem s_neNS {j : Str} (h : Q (.bl true) H) : rNeU K .non (.str j) H Q := .inl ⟨rfl, h⟩
theorem s_eqD {d e : PyData} (h1 : Dp K H x d) (h2 : Dp K H y e) (s1 : SeqAt.shaped d = true) (s2 : SeqAt.shaped e = true) (h : Q (.bl (PyData.eqv d e)) H) : rEqU K x y H Q := .inr ⟨d, e, h1, h2, s1, s2, h⟩
theorem s_neD {d e : PyData} (h1 : Dp K H x d) (h2 : Dp K H y e) (s1 : SeqAt.shaped d = true) (s2 : SeqAt.shaped e = true) (h : Q (.bl (!PyData.eqv d e)) H) : rNeU K x y H Q := .inr ⟨d, e, h1, h2, s1, s2, h⟩
/-- an item of a tuple, of a list, at a place -/
theorem s_ixT {a : Addr} {xs : List V} {j : Nat} (h : SqT K H a xs) (e : xs[j]? = some v) (q : Q v H) : rIxU K (.ref a) (.int (j : Nat)) H Q := .inr (.inl ⟨a, xs, j, v, rfl, rfl, h, atI_nat e, q⟩)
theorem s_ixL {a : Addr} {xs : List V} {i : Int} (h : H a = some (.lst xs)) (e : atI xs i = some v) (q : Q v H) : rIxU K (.ref a) (.int i) H Q := .inl ⟨a, xs, i, v, rfl, rfl, SqL.of h, e, q⟩
theorem s_ixD {a : Addr} {r : List (Key × V)} {k : Str} (h : H a = some (.dK r)) (e : Dk (Sum.inr k) r v) (q : Q v H) : rIxU K (.ref a) (.str k) H Q :=
  .inr (.inr (.inr ⟨a, v, rfl, by rw [← e.ok]; exact DGet.k (k := Sum.inr k) h, q⟩))
theorem s_subG {to ti : TE} {t : TSet} (h : to σ H fun o H1 => ti σ H1 fun i H2 => t o i v H2 fun H3 => R σ H3) : gSub to ti t v σ H R := h
theorem s_putD {a : Addr} {r r' : List (Key × V)} {k : Str} {Z : Hp → Prop} (hC : Ctx K B H L I) (h : H a = some (.dK r)) (z : r.length < 1000) (e : DPt (Sum.inr k) v r r') (u : Up a (.dK r') L L') (q : ∀ H1, Ctx K B H1 L' I → Z H1) : rSetU (.ref a) (.str k) v H Z :=
  .inr ⟨a, upd H a (.dK (putK r (Sum.inr k) v)), rfl, DPut.k (k := Sum.inr k) h (Nat.lt_of_lt_of_le z (by decide)), by rw [e.ok]; exact q _ (hC.put u rfl)⟩
theorem s_putL {a : Addr} {xs xs' : List V} {i : Int} {j : Nat} {Z : Hp → Prop} (hC : Ctx K B H L I) (h : H a = some (.lst xs)) (e : ixN xs.length i = some j) (w : LSet v j xs xs') (u : Up a (.lst xs') L L') (q : ∀ H1, Ctx K B H1 L' I → Z H1) : rSetU (.ref a) (.int i) v H Z :=
  .inl ⟨a, xs, i, j, rfl, rfl, h, e, by rw [w.ok]; exact q _ (hC.put u rfl)⟩
theorem s_gtup {n : Nat} {t : TGs} {a : Addr} {xs : List V} (h : SqT K H a xs) (z : xs.length = n) (q : t xs σ H R) : gTup K n t (.ref a) σ H R := ⟨a, xs, rfl, h, z, q⟩
theorem s_gcons {t : TG} {u : TGs} {r : List V} (q : t v σ H fun σ1 H1 => u r σ1 H1 R) : gCons t u (v :: r) σ H R := ⟨v, r, rfl, q⟩
theorem s_gnil (q : R σ H) : gNil [] σ H R := ⟨rfl, q⟩
/-! ### tests -/
variable {t u : TT} {Qb : Bool → Hp → Prop} {b : Bool}
theorem s_test (h : te σ H (kTest Qb)) : tTest te σ H Qb := h
theorem s_bl (h : Qb b H) : kTest Qb (.bl b) H := ⟨b, rfl, h⟩
theorem s_and (h : t σ H fun c H1 => if c = true then u σ H1 Qb else Qb false H1) : tAnd t u σ H Qb := h
theorem s_or (h : t σ H fun c H1 => if c = true then Qb true H1 else u σ H1 Qb) : tOr t u σ H Qb := h
theorem s_not (h : t σ H fun c H1 => Qb (!c) H1) : tNot t σ H Qb := h
theorem s_tru (h : ta σ H (kTru K Qb)) : tTruth K ta σ H Qb := h
theorem s_truB (h : Qb b H) : kTru K Qb (.bl b) H := ⟨b, rfl, h⟩
theorem s_truN (h : Qb false H) : kTru K Qb .non H := ⟨false, rfl, h⟩
theorem s_andB (h : if b = true then tb σ H Q else Q (.bl false) H) : kAndV σ tb Q (.bl b) H := ⟨b, rfl, h⟩
theorem s_orB (h : if b = true then Q (.bl true) H else tb σ H Q) : kOrV σ tb Q (.bl b) H := ⟨b, rfl, h⟩
theorem s_notB (h : Q (.bl (!b)) H) : kNotV Q (.bl b) H := ⟨b, rfl, h⟩
theorem s_andV (h : ta σ H (kAndV σ tb Q)) : tAndV ta tb σ H Q := h
theorem s_orV (h : ta σ H (kOrV σ tb Q)) : tOrV ta tb σ H Q := h
theorem s_notV (h : ta σ H (kNotV Q)) : tNotV ta σ H Q := h
theorem s_ifE (h : t σ H fun c H1 => if c = true then ta σ H1 Q else tb σ H1 Q) : tIf t ta tb σ H Q := h
theorem s_chain {r r' : R2} {tc : TE} (h : ta σ H fun x H1 => tb σ H1 fun y H2 => r x y H2 (kChain r' σ tc y Q)) : tChain r r' ta tb tc σ H Q := h
theorem s_chainB {r' : R2} {tc : TE} (h : if b = true then tc σ H fun w' H4 => r' y w' H4 Q else Q (.bl false) H) : kChain r' σ tc y Q (.bl b) H := ⟨b, rfl, h⟩
theorem s_iteD {p : Prop} [Decidable p] {X Y : Prop} (h1 : p → X) (h2 : ¬ p → Y) : if decide p = true then X else Y := by
  by_cases h : p
  · rw [if_pos (decide_eq_true h)]
    exact h1 h
  · rw [if_neg (by rw [decide_eq_false h]; exact Bool.false_ne_true)]
    exact h2 h
theorem s_iteND {p : Prop} [Decidable p] {X Y : Prop} (h1 : ¬ p → X) (h2 : p → Y) : if (!decide p) = true then X else Y := by
  by_cases h : p
  · rw [decide_eq_true h]
    exact iteF (h2 h)
  · rw [decide_eq_false h]
    exact iteT (h1 h)
theorem s_iteB {X Y : Prop} (h1 : b = true → X) (h2 : b = false → Y) : if b = true then X else Y := by
  cases b with
  | true => exact iteT (h1 rfl)
  | false => exact iteF (h2 rfl)
theorem s_iteNB {X Y : Prop} (h1 : b = false → X) (h2 : b = true → Y) : if (!b) = true then X else Y := by
  cases b with
  | true => exact iteF (h2 rfl)
  | false => exact iteT (h1 rfl)
theorem s_iteNT {X Y : Prop} (h : Y) : if (!true) = true then X else Y := iteF h
theorem s_iteNF {X Y : Prop} (h : X) : if (!false) = true then X else Y := iteT h
theorem s_iteDT {p : Prop} [Decidable p] {X Y : Prop} (hp : p) (h : X) : if decide p = true then X else Y := by
  rw [decide_eq_true hp]
  exact iteT h
theorem s_iteDF {p : Prop} [Decidable p] {X Y : Prop} (hp : ¬ p) (h : Y) : if decide p = true then X else Y := by
  rw [decide_eq_false hp]
  exact iteF h
/-! ### calls -/
theorem s_cb {r : List V → Hp → VK → Prop} (h : tr σ H fun vs H1 => r vs H1 Q) : tCB r tr σ H Q := h
theorem s_abs {i : Int} (h : Q (.int (if i < 0 then -i else i)) H) : rAbs [.int i] H Q := ⟨i, rfl, h⟩
theorem s_max2 {i j : Int} (h : Q (.int (if j > i then j else i)) H) : rMax2 [.int i, .int j] H Q := ⟨i, j, rfl, h⟩
theorem s_min2 {i j : Int} (h : Q (.int (if j < i then j else i)) H) : rMin2 [.int i, .int j] H Q := ⟨i, j, rfl, h⟩
theorem s_int1 {i : Int} (h : Q (.int i) H) : rInt1 [.int i] H Q := .inl ⟨i, rfl, h⟩
theorem s_int1b (h : Q (.int (if b then 1 else 0)) H) : rInt1 [.bl b] H Q := .inr ⟨b, rfl, h⟩
theorem s_lenL {l : Addr} {xs : List V} (m : H l = some (.lst xs)) (h : Q (.int xs.length) H) : rLenU K [.ref l] H Q := .inl ⟨_, _, rfl, .inl ⟨xs, SqL.of m, rfl⟩, h⟩
theorem s_lenT {l : Addr} {xs : List V} (m : SqT K H l xs) (h : Q (.int xs.length) H) : rLenU K [.ref l] H Q := .inl ⟨_, _, rfl, .inr ⟨xs, m, rfl⟩, h⟩
theorem s_lenS {z : Str} (m : z.length ≤ sizeLine) (h : Q (.int z.length) H) : rLenU K [.str z] H Q := .inl ⟨_, _, rfl, ⟨m, rfl⟩, h⟩
theorem s_lenD {l : Addr} {r : List (Key × V)} (m : H l = some (.dK r)) (h : Q (.int r.length) H) : rLenU K [.ref l] H Q := .inr ⟨_, _, rfl, m, h⟩
theorem s_call {sp : Sp} {dvs : List V} {E : XK} (h : tr σ H (kCall sp dvs E Q)) : tCall sp dvs E tr σ H Q := h
theorem s_meth {C : Addr} {m : Str} {sp : Sp} {dvs : List V} {E : XK} (h : ta σ H (kMeth C m σ tr fun x vs H2 => kCall sp dvs E Q (x :: vs) H2)) : tMeth C m sp dvs E ta tr σ H Q := h
theorem s_methV {a C dx : Addr} {fs : List (Str × V)} {m : Str} {Z : V → List V → Hp → Prop} (e : H a = some (.ins C dx fs)) (n : NoLk m fs) (h : tr σ H fun vs H2 => Z (.ref a) vs H2) : kMeth C m σ tr Z (.ref a) H := ⟨a, dx, fs, rfl, e, n.ok, h⟩
theorem s_callV {sp : Sp} {vs : List V} {E : XK} (h : sp vs H Q E) : kCall sp [] E Q vs H := by
  unfold kCall
  rw [List.append_nil]
  exact h
theorem s_make {C : Addr} {sp : Sp} {dvs : List V} {E : XK} (h : tr σ H (kMake C sp dvs E Q)) : tMake C sp dvs E tr σ H Q := h
theorem s_makeV {C : Addr} {sp : Sp} {vs : List V} {E : XK} (hC : Ctx K B H L I) (k : ∀ x dx H1, Ctx K B H1 ((x, .ins C dx []) :: L) I → sp (.ref x :: vs) H1 (kInit Q x) E) : kMake C sp [] E Q vs H := fun x dx hx hd ne => by
  rw [List.append_nil]
  refine k x dx _ ?_
  have h1 : Ctx K B (upd H dx (.own x)) L I := hC.moved (Stb.new hd) (hC.lay.keep hd)
  exact h1.newM (by rw [upd_ne (fun z => ne z.symm)]; exact hx) rfl
theorem s_bm {T : String} {r : V → List V → Hp → VK → Prop} {to : TE} (h : to σ H (kBm K T r σ tr Q)) : tBM K T r to tr σ H Q := h
theorem s_tyL {l : Addr} {xs : List V} {r : V → List V → Hp → VK → Prop} (m : H l = some (.lst xs)) (h : tr σ H fun xs H2 => r (.ref l) xs H2 Q) : kBm K "list" r σ tr Q (.ref l) H := ⟨.inl ⟨rfl, _, SqL.of m⟩, h⟩
theorem s_append {l : Addr} {xs : List V} (hC : Ctx K B H L I) (m : H l = some (.lst xs)) (z : xs.length < 100000) (u : Up l (.lst (xs ++ [y])) L L') (k : ∀ H1, Ctx K B H1 L' I → Q .non H1) : rAppend (.ref l) [y] H Q :=
  ⟨l, xs, y, rfl, rfl, m, Nat.lt_of_lt_of_le z (by decide), k _ (hC.put u rfl)⟩
end
end Ph
namespace Ph
open PySem PySem.Spec PyProof.Rows L2
/-- no dict within, texts sound, n deep at most -/
def Sh (n : Nat) (d : PyData) : Prop := d.canLay0 = true ∧ d.depth ≤ n
def ShL (n : Nat) (ds : List PyData) : Prop := ∀ d, d ∈ ds → Sh n d
theorem Sh.shaped {n : Nat} {d : PyData} (h : Sh n d) (z : n ≤ 64) : SeqAt.shaped d = true := by
  unfold SeqAt.shaped
  rw [h.1, Bool.true_and]
  exact decide_eq_true (Nat.le_trans h.2 z)
theorem Sh.mono {n m : Nat} {d : PyData} (h : Sh n d) (z : n ≤ m) : Sh m d := ⟨h.1, Nat.le_trans h.2 z⟩
theorem Sh.int {n : Nat} (i : Int) : Sh n (.int i) := ⟨by simp [PyData.canLay0], by simp [PyData.depth]⟩
theorem Sh.bl {n : Nat} (i : Bool) : Sh n (.bool i) := ⟨by simp [PyData.canLay0], by simp [PyData.depth]⟩
theorem Sh.non {n : Nat} : Sh n .none := ⟨by simp [PyData.canLay0], by simp [PyData.depth]⟩
theorem Sh.str {n : Nat} {x : Str} (h : PyData.strOk x = true) : Sh n (.str x) := ⟨by simp [PyData.canLay0, h], by simp [PyData.depth]⟩
theorem canAll {ds : List PyData} (h : ∀ d, d ∈ ds → d.canLay0 = true) : PyData.canLayAll0 ds = true := by
  induction ds with
  | nil => simp [PyData.canLayAll0]
  | cons d r ih =>
    rw [PyData.canLayAll0, h d List.mem_cons_self, ih (fun e he => h e (List.mem_cons_of_mem _ he))]
    rfl
theorem depAll {n : Nat} {ds : List PyData} (h : ∀ d, d ∈ ds → d.depth ≤ n) : PyData.depthAll ds ≤ n := by
  induction ds with
  | nil => simp [PyData.depthAll]
  | cons d r ih =>
    have h1 := h d List.mem_cons_self
    have h2 := ih (fun e he => h e (List.mem_cons_of_mem _ he))
    rw [PyData.depthAll]
    omega
theorem ShL.list {n : Nat} {ds : List PyData} (h : ShL n ds) : Sh (n + 1) (.list ds) := by
  refine ⟨by rw [PyData.canLay0]; exact canAll fun d hd => (h d hd).1, ?_⟩
  have := depAll fun d hd => (h d hd).2
  rw [PyData.depth]
  omega
theorem ShL.tuple {n : Nat} {ds : List PyData} (h : ShL n ds) : Sh (n + 1) (.tuple ds) := by
  refine ⟨by rw [PyData.canLay0]; exact canAll fun d hd => (h d hd).1, ?_⟩
  have := depAll fun d hd => (h d hd).2
  rw [PyData.depth]
  omega
theorem ShL.nil {n : Nat} : ShL n [] := fun d h => by cases h
theorem ShL.cons {n : Nat} {d : PyData} {ds : List PyData} (h : Sh n d) (t : ShL n ds) : ShL n (d :: ds) := fun e he => (List.mem_cons.mp he).elim (fun q => by rw [q]; exact h) (t e)
theorem ShL.append {n : Nat} {ds es : List PyData} (h : ShL n ds) (t : ShL n es) : ShL n (ds ++ es) := fun e he => (List.mem_append.mp he).elim (h e) (t e)
/-- L has what T tells, in another order -/
inductive Perm2 (F : List (Addr × HO)) : List (Addr × HO) → List (Addr × HO) → Prop
  | nil : Perm2 F F F
  | cons {x : Addr × HO} {L L' T : List (Addr × HO)} : Pick x L L' → Perm2 F L' T → Perm2 F L (x :: T)
theorem Perm2.lay {F : List (Addr × HO)} : ∀ {L T : List (Addr × HO)}, Perm2 F L T → L.Perm T
  | _, _, .nil => List.Perm.refl _
  | _, _, .cons p h => p.perm.trans (List.Perm.cons _ h.lay)
theorem Lay.perm2 {H : Hp} {F L T : List (Addr × HO)} (h : Lay H L) (p : Perm2 F L T) : Lay H T := h.perm p.lay
theorem TD.tupR {K : PySem.W.Frag} {H : Hp} {a : Addr} {xs : List V} {ds : List PyData} (t : TDs K H xs ds) (h : SqT K H a xs) : TD K H (.ref a) (.tuple ds) := .tup h t
theorem eqv_self {n : Nat} {d : PyData} (h : Sh n d) : PyData.eqv d d = true := SeqAt.eqv_refl d h.1
end Ph
namespace Ph
open PySem PySem.Spec PyProof.Rows L2
section
variable {K : PySem.W.Frag} {B H : Hp} {L L' F : List (Addr × HO)} {I : List Im} {Q : VK} {σ : L2.St} {A Cb Dc : L2.St → Hp → Prop} {Bt : VK}
/-! slices -/
def kPart (Qo : Option Int → Hp → Prop) : VK := fun x H1 => ∃ i, x = .int i ∧ Qo (some i) H1
theorem s_sl {r : V → Option Int → Option Int → Hp → VK → Prop} {te : TE} {tl th : TO} (h : te σ H fun x H1 => tl σ H1 fun l H2 => th σ H2 fun u H3 => r x l u H3 Q) : tSl r te tl th σ H Q := h
theorem s_noPart {Qo : Option Int → Hp → Prop} (h : Qo none H) : tNoPart σ H Qo := h
theorem s_partE {t : TE} {Qo : Option Int → Hp → Prop} (h : t σ H (kPart Qo)) : tPart t σ H Qo := h
theorem s_partV {i : Int} {Qo : Option Int → Hp → Prop} (h : Qo (some i) H) : kPart Qo (.int i) H := ⟨i, rfl, h⟩
theorem s_slL {a : Addr} {xs : List V} {lo hi : Option Int} (hC : Ctx K B H L I) (h : SqL K H a xs) (k : ∀ p H1, Ctx K B H1 ((p, .lst (cutV xs lo hi)) :: L) I → Q (.ref p) H1) : rSlU K (.ref a) lo hi H Q :=
  .inl ⟨a, xs, rfl, h, fun p hp => k p _ (hC.newM hp rfl)⟩
/-! for -/
def kIl (K : PySem.W.Frag) (R : It → Hp → Prop) : VK := fun x H1 => ∃ a, x = .ref a ∧ (∃ xs, SqL K H1 a xs) ∧ R (Itl K a) H1
def kRng (R : It → Hp → Prop) : List V → Hp → Prop := fun vs H1 => ∃ j : Int, vs = [.int j] ∧ -(2 ^ 62) ≤ j ∧ j < 2 ^ 62 ∧ R (Itr 0 j.toNat) H1
def kFor (g : TG) (tb : TS) (D : Ends) (σ : L2.St) : It → Hp → Prop := fun J H1 => ∃ W : Nat → Nat → L2.St → Hp → Prop, (∃ m, W 0 m σ H1) ∧ ∀ i m σ H, W i m σ H →
  (J.stop i H ∧ D.nx σ H) ∨ (J.go i H ∧ ∃ N : L2.St → Hp → Prop, (∀ σ' H', N σ' H' → ∃ m', m' < m ∧ W (i + 1) m' σ' H') ∧ ∀ x H', J.yld i H x H' → g x σ H' fun σ2 H2 => tb { D with nx := N, ct := N, bk := D.nx } σ2 H2)
theorem s_for {wi : TI} {g : TG} {tb : TS} (h : wi σ H (kFor g tb ⟨A, Bt, Cb, Dc⟩ σ)) : tFor wi g tb ⟨A, Bt, Cb, Dc⟩ σ H := h
theorem s_il {tl : TE} {R : It → Hp → Prop} (h : tl σ H (kIl K R)) : iList K tl σ H R := h
theorem s_ilV {a : Addr} {xs : List V} {R : It → Hp → Prop} (m : H a = some (.lst xs)) (h : R (Itl K a) H) : kIl K R (.ref a) H := ⟨a, rfl, ⟨xs, SqL.of m⟩, h⟩
theorem s_rng {ta : TA} {R : It → Hp → Prop} (h : ta σ H (kRng R)) : iRng1 ta σ H R := h
theorem s_rngV {j : Int} {R : It → Hp → Prop} (h1 : -(2 ^ 62) ≤ j) (h2 : j < 2 ^ 62) (h : R (Itr 0 j.toNat) H) : kRng R [.int j] H := ⟨j, rfl, h1, h2, h⟩
theorem for_rng {n : Nat} {g : TG} {tb : TS} (Pv : Nat → L2.St → Hp → Prop) (h0 : Pv 0 σ H)
    (hs : ∀ i σ H, i < n → Pv i σ H → g (.int i) σ H fun σ2 H2 => tb ⟨Pv (i + 1), Bt, A, Pv (i + 1)⟩ σ2 H2) (hd : ∀ σ H, Pv n σ H → A σ H) : kFor g tb ⟨A, Bt, Cb, Dc⟩ σ (Itr 0 n) H :=
  for_range (lo := 0) (n := n) (g := g) (tb := tb) (D := ⟨A, Bt, Cb, Dc⟩) Pv h0 (fun i σ H hi p => by
    rw [Int.zero_add]
    exact hs i σ H hi p) hd
theorem for_lst {a : Addr} {xs : List V} {g : TG} {tb : TS} (Pv : Nat → L2.St → Hp → Prop) (h0 : Pv 0 σ H) (hl : ∀ i σ H, i ≤ xs.length → Pv i σ H → H a = some (.lst xs))
    (hs : ∀ i x σ H, xs[i]? = some x → Pv i σ H → g x σ H fun σ2 H2 => tb ⟨Pv (i + 1), Bt, A, Pv (i + 1)⟩ σ2 H2) (hd : ∀ σ H, Pv xs.length σ H → A σ H) : kFor g tb ⟨A, Bt, Cb, Dc⟩ σ (Itl K a) H :=
  for_list (K := K) (xs := xs) (g := g) (tb := tb) (D := ⟨A, Bt, Cb, Dc⟩) Pv h0 (fun i σ H hi p => SqL.of (hl i σ H hi p)) hs hd
/-! comprehensions -/
def kLc (g : TG) (tt : TT) (te : TE) (vs : List Nat) (σ : L2.St) (Q : VK) : It → Hp → Prop := fun J H1 => ∀ D, H1 D = none → ∃ W : Nat → Nat → Hp → Prop, (∃ m, W 0 m (upd H1 D (.lst []))) ∧ ∀ i m H, W i m H →
  (J.stop i H ∧ Q (.ref D) H) ∨ (J.go i H ∧ ∃ Nx : Hp → Prop, (∀ H', Nx H' → ∃ m', m' < m ∧ W (i + 1) m' H') ∧ ∀ x H', J.yld i H x H' → g x (wipe σ vs) H' fun σ2 H2 => wipe σ2 vs = wipe σ vs ∧ tt σ2 H2 fun b H3 =>
    if b = true then te σ2 H3 fun y H4 => ∃ acc, H4 D = some (.lst acc) ∧ acc.length < sizeLine ∧ Nx (upd H4 D (.lst (acc ++ [y]))) else Nx H3)
theorem s_lc {wi : TI} {g : TG} {tt : TT} {te : TE} {vs : List Nat} (h : wi σ H (kLc g tt te vs σ Q)) : tLc wi g tt te vs σ H Q := h
def kApp (D : Addr) (Pn : Hp → Prop) : VK := fun y H4 => ∃ acc, H4 D = some (.lst acc) ∧ acc.length < sizeLine ∧ Pn (upd H4 D (.lst (acc ++ [y])))
theorem s_app {D : Addr} {Pn : Hp → Prop} {acc : List V} {y : V} (hC : Ctx K B H L I) (m : H D = some (.lst acc)) (z : acc.length < 100000) (u : Up D (.lst (acc ++ [y])) L L') (k : ∀ H1, Ctx K B H1 L' I → Pn H1) : kApp D Pn y H :=
  ⟨acc, m, Nat.lt_of_lt_of_le z (by rw [sizeLine_eq]; omega), k _ (hC.put u rfl)⟩
theorem lc_lst {a : Addr} {xs : List V} {g : TG} {te : TE} {vs : List Nat} (hC : Ctx K B H L I) (Pv : Addr → Nat → Hp → Prop) (h0 : ∀ D H1, Ctx K B H1 ((D, .lst []) :: L) I → Pv D 0 H1) (hl : ∀ i D H, i ≤ xs.length → Pv D i H → H a = some (.lst xs))
    (hs : ∀ i x D H, xs[i]? = some x → Pv D i H → g x (wipe σ vs) H fun σ2 H2 => wipe σ2 vs = wipe σ vs ∧ te σ2 H2 (kApp D (Pv D (i + 1))))
    (hd : ∀ D H, Pv D xs.length H → Q (.ref D) H) : kLc g tYes te vs σ Q (Itl K a) H := fun D hD =>
  lc_list (K := K) (xs := xs) (g := g) (tt := tYes) (te := te) (vs := vs) (σ := σ) (H1 := H) (D := D) (Qd := fun H => Q (.ref D) H) (fun i H => Pv D i H) (h0 D _ (hC.newM hD rfl)) (fun i H hi p => SqL.of (hl i D H hi p))
    (fun i x H hx p => by
      have e : (fun σ2 H2 => wipe σ2 vs = wipe σ vs ∧ tYes σ2 H2 fun b H3 => if b = true then te σ2 H3 fun y H4 => ∃ acc, H4 D = some (.lst acc) ∧ acc.length < sizeLine ∧ Pv D (i + 1) (upd H4 D (.lst (acc ++ [y]))) else Pv D (i + 1) H3)
          = fun σ2 H2 => wipe σ2 vs = wipe σ vs ∧ te σ2 H2 (kApp D (Pv D (i + 1))) := by
        funext σ2 H2
        unfold tYes
        simp only [if_true]
        rfl
      rw [e]
      exact hs i x D H hx p) (fun H p => hd D H p)
/-! dict displays -/
def kDisp (p : Addr) (Q : VK) : List (V × V) → Hp → Prop := fun ps H2 => H2 p = some (.dK []) ∧ ∃ kvs : List (Key × V), ps = kvs.map (fun kv => (kV kv.1, kv.2)) ∧ kvs.length ≤ 15 ∧ Q (.ref p) (upd H2 p (.dK (mergeK [] kvs)))
theorem s_disp {trs : List (TE × TE)} (hC : Ctx K B H L I) (k : ∀ p H1, Ctx K B H1 ((p, .dK []) :: L) I → tPairs trs σ H1 (kDisp p Q)) : tDisp trs σ H Q := fun p hp => k p _ (hC.newM hp rfl)
theorem s_pair {tk tv : TE} {r : List (TE × TE)} {Qp : List (V × V) → Hp → Prop} (h : tk σ H fun x H1 => tv σ H1 fun y H2 => tPairs r σ H2 fun ps H3 => Qp ((x, y) :: ps) H3) : tPairs ((tk, tv) :: r) σ H Qp := h
theorem s_pnil {Qp : List (V × V) → Hp → Prop} (h : Qp [] H) : tPairs [] σ H Qp := h
/-- pairs of values as entries -/
inductive ToK : List (V × V) → List (Key × V) → Prop
  | nil : ToK [] []
  | str {s : Str} {v : V} {r : List (V × V)} {q : List (Key × V)} : ToK r q → ToK ((.str s, v) :: r) ((Sum.inr s, v) :: q)
  | int {s : Int} {v : V} {r : List (V × V)} {q : List (Key × V)} : ToK r q → ToK ((.int s, v) :: r) ((Sum.inl s, v) :: q)
theorem ToK.ok : ∀ {r q}, ToK r q → r = q.map (fun kv => (kV kv.1, kv.2))
  | _, _, .nil => rfl
  | _, _, .str h => by rw [List.map_cons, ← h.ok]; rfl
  | _, _, .int h => by rw [List.map_cons, ← h.ok]; rfl
/-- keys all different -/
inductive RDis : List (Key × V) → List (Key × V) → Prop
  | nil {acc : List (Key × V)} : RDis acc []
  | cons {acc r : List (Key × V)} {k : Key} {v : V} : DNo k acc → RDis ((k, v) :: acc) r → RDis acc ((k, v) :: r)
theorem DNo.any {k : Key} : ∀ {r : List (Key × V)}, DNo k r → ∀ x, x ∈ r → ¬ x.1 = k
  | _, .nil, x, h => by cases h
  | _, .there n t, x, h => by
    rcases List.mem_cons.mp h with e | h
    · rw [e]; exact n
    · exact t.any x h
theorem RDis.ok : ∀ {acc r : List (Key × V)}, RDis acc r → mergeK acc.reverse r = acc.reverse ++ r
  | acc, _, .nil => by rw [List.append_nil]; rfl
  | acc, (k, v) :: r, .cons n t => by
    have e : putK acc.reverse k v = acc.reverse ++ [(k, v)] := by
      unfold putK
      rw [if_neg]
      intro h
      obtain ⟨x, hx, hk⟩ := List.any_eq_true.mp h
      exact n.any x (List.mem_reverse.mp hx) (of_decide_eq_true hk)
    have ih := t.ok
    rw [List.reverse_cons] at ih
    show mergeK (putK acc.reverse k v) r = _
    rw [e, ih, List.append_assoc]
    rfl
theorem s_dispV {p : Addr} {ps : List (V × V)} {kvs : List (Key × V)} (hC : Ctx K B H L I) (m : H p = some (.dK [])) (h : ToK ps kvs) (n : RDis [] kvs) (z : kvs.length ≤ 15) (u : Up p (.dK kvs) L L') (k : ∀ H1, Ctx K B H1 L' I → Q (.ref p) H1) : kDisp p Q ps H :=
  ⟨m, kvs, h.ok, z, by
    have e := n.ok
    rw [List.reverse_nil, List.nil_append] at e
    rw [e]
    exact k _ (hC.put u rfl)⟩
/-! lambdas handed to the teller -/
def kTold (K : PySem.W.Frag) (C : Addr) (ret : Str) (Q : VK) : XK := fun cls _ H' => ∃ b, PySem.W.exmOne K cls (.ref C) = some b ∧ (b = true → Q (.str ret) H') ∧ (b = false → False)
theorem s_toldE {C D : Addr} {ret : Str} {d : Option Addr} (e : PySem.W.exmOne K (.ref D) (.ref C) = some true) (h : Q (.str ret) H) : kTold K C ret Q (.ref D) d H := ⟨true, e, fun _ => h, fun q => by cases q⟩
/-! a list of ints, an index not known -/
inductive AllI : List V → List Int → Prop
  | nil : AllI [] []
  | cons {i : Int} {r : List V} {q : List Int} : AllI r q → AllI (.int i :: r) (i :: q)
theorem AllI.get : ∀ {r : List V} {q : List Int} {j : Nat}, AllI r q → j < r.length → ∃ i : Int, r[j]? = some (.int i) ∧ i ∈ q
  | _, _, 0, .cons h, _ => ⟨_, rfl, List.mem_cons_self⟩
  | _, _, j + 1, .cons h, z => by
    obtain ⟨i, e, m⟩ := h.get (j := j) (by rw [List.length_cons] at z; omega)
    exact ⟨i, by rw [List.getElem?_cons_succ]; exact e, List.mem_cons_of_mem _ m⟩
theorem s_ixAny {l : Addr} {vs : List V} {zs : List Int} {r : Int} (m : H l = some (.lst vs)) (h : AllI vs zs) (h0 : 0 ≤ r) (h1 : r < vs.length) (q : ∀ z : Int, z ∈ zs → Q (.int z) H) : rIxU K (.ref l) (.int r) H Q := by
  obtain ⟨i, e, w⟩ := h.get (j := r.toNat) (by omega)
  have e2 := atI_nat e
  rw [Int.toNat_of_nonneg h0] at e2
  exact s_ixL m e2 (q i w)
/-! more of values -/
theorem s_eqIT {i j : Int} (p : i = j) (h : Q (.bl true) H) : rEqU K (.int i) (.int j) H Q := s_eqI (by rw [decide_eq_true p]; exact h)
theorem s_eqIF {i j : Int} (p : ¬ i = j) (h : Q (.bl false) H) : rEqU K (.int i) (.int j) H Q := s_eqI (by rw [decide_eq_false p]; exact h)
theorem s_int1T (h : Q (.int 1) H) : rInt1 [.bl true] H Q := .inr ⟨true, rfl, h⟩
theorem s_int1F (h : Q (.int 0) H) : rInt1 [.bl false] H Q := .inr ⟨false, rfl, h⟩
theorem s_eqSN {j : Str} (h : Q (.bl false) H) : rEqU K (.str j) .non H Q := .inl ⟨rfl, h⟩
theorem s_eqST {i j : Str} (p : i = j) (h : Q (.bl true) H) : rEqU K (.str i) (.str j) H Q := s_eqS (by rw [decide_eq_true p]; exact h)
theorem s_neIF {i : Int} (h : Q (.bl false) H) : rNeU K (.int i) (.int i) H Q := s_neI (by rw [decide_eq_true rfl]; exact h)
theorem s_neBs {b : Bool} (h : Q (.bl false) H) : rNeU K (.bl b) (.bl b) H Q := s_neB (by rw [show (b != b) = false from by cases b <;> rfl]; exact h)
theorem s_neTF (h : Q (.bl true) H) : rNeU K (.bl true) (.bl false) H Q := s_neB h
theorem s_neFT (h : Q (.bl true) H) : rNeU K (.bl false) (.bl true) H Q := s_neB h
theorem s_eqBs {b : Bool} (h : Q (.bl true) H) : rEqU K (.bl b) (.bl b) H Q := s_eqB (by rw [show (b == b) = true from by cases b <;> rfl]; exact h)
theorem s_eqTF (h : Q (.bl false) H) : rEqU K (.bl true) (.bl false) H Q := s_eqB h
theorem s_eqFT (h : Q (.bl false) H) : rEqU K (.bl false) (.bl true) H Q := s_eqB h
/-! a block of the layout that another hand keeps -/
inductive Pull (O : List (Addr × HO)) : List (Addr × HO) → List (Addr × HO) → Prop
  | here {F : List (Addr × HO)} : Pull O (F ++ O) F
  | there {x : Addr × HO} {L F : List (Addr × HO)} : Pull O L F → Pull O (x :: L) (x :: F)
theorem Pull.perm {O : List (Addr × HO)} : ∀ {L F}, Pull O L F → L.Perm (O ++ F)
  | _, _, .here => List.perm_append_comm
  | _, _, .there p => (List.Perm.cons _ p.perm).trans List.perm_middle.symm
/-- some of the layout, in another order -/
inductive Sel : List (Addr × HO) → List (Addr × HO) → Prop
  | refl {L : List (Addr × HO)} : Sel L L
  | cons {x : Addr × HO} {L L' T : List (Addr × HO)} : Pick x L L' → Sel L' T → Sel L (x :: T)
  | skip {x : Addr × HO} {L T : List (Addr × HO)} : Sel L T → Sel (x :: L) T
theorem Sel.perm : ∀ {L T}, Sel L T → ∃ J, L.Perm (T ++ J)
  | L, _, .refl => ⟨[], by rw [List.append_nil]⟩
  | _, _, .cons p s => by
    obtain ⟨J, h⟩ := s.perm
    exact ⟨J, p.perm.trans (List.Perm.cons _ h)⟩
  | _, _, .skip s => by
    obtain ⟨J, h⟩ := s.perm
    exact ⟨_ :: J, (List.Perm.cons _ h).trans List.perm_middle.symm⟩
theorem Sel.lay {T : List (Addr × HO)} (s : Sel L T) (y : Lay H L) : Lay H T := by
  obtain ⟨J, h⟩ := s.perm
  have y := y.perm h
  exact ⟨(List.nodup_append.mp (by rw [← List.map_append]; exact y.nd)).1, fun p hp => y.at_ p (List.mem_append_left _ hp)⟩
end
end Ph
namespace Ph
open PySem PySem.Spec PyProof.Rows L2 LamX
/-- at f stands the lambda of these words -/
def LamC (f c : Addr) (q : Str) (ps : Arguments) (body : Expr) (sc : Scope) (cl : List (Str × Addr)) : HO := .ext fun h => ∃ pm ctv : Value, h.get? f = some (PySem.W.kla_obj "<lambda>" q ps body sc cl pm c ctv)
abbrev LamO (f c : Addr) (q : Str) (ps : Arguments) (body : Expr) (sc : Scope) : HO := LamC f c q ps body sc []
/-- all but the object at P stays -/
def ExtP (P : Addr) (H H' : Hp) : Prop := ∀ b o, b ≠ P → H b = some o → H' b = some o
theorem ExtP.refl (P : Addr) (H : Hp) : ExtP P H H := fun _ _ _ h => h
theorem ExtP.trans {P : Addr} {H H1 H2 : Hp} (a : ExtP P H H1) (b : ExtP P H1 H2) : ExtP P H H2 := fun c o n h => b c o n (a c o n h)
theorem ExtP.of {P : Addr} {H H' : Hp} (e : ∀ b o, H b = some o → H' b = some o) : ExtP P H H' := fun b o _ h => e b o h
structure LamD where
  ps : Arguments
  body : Expr
  sc : Scope
/-- only globals -/
def noOwn (sc : Scope) : Bool := decide (sc.kind = .function) && !sc.isCoroutine && !sc.isGenerator && sc.names.all fun y => !decide (y.2 = .local) && !decide (y.2 = .cell) && !decide (y.2 = .free)
structure NoOwn (sc : Scope) : Prop where
  kind : sc.kind = .function
  co : sc.isCoroutine = false
  gen : sc.isGenerator = false
  own : ∀ y, y ∈ sc.names → y.2 ≠ .local ∧ y.2 ≠ .cell ∧ y.2 ≠ .free
theorem noOwn_by {sc : Scope} (h : noOwn sc = true) : NoOwn sc := by
  unfold noOwn at h
  simp only [Bool.and_eq_true, Bool.not_eq_true', decide_eq_true_eq, decide_eq_false_iff_not, List.all_eq_true] at h
  obtain ⟨⟨⟨a, b⟩, c⟩, d⟩ := h
  exact ⟨a, b, c, fun y hy => ⟨(d y hy).1.1, (d y hy).1.2, (d y hy).2⟩⟩
theorem clo_nil {cells : List (Str × Addr)} : ∀ {names : List (Str × NameKind)}, (∀ y, y ∈ names → y.2 ≠ .free) → cloFrom cells names [] = []
  | [], _ => rfl
  | (n, k) :: r, h => by
    unfold cloFrom
    have e : (k == NameKind.free) = false := by
      have := h (n, k) List.mem_cons_self
      simpa using this
    rw [if_neg (by rw [e]; decide)]
    exact clo_nil fun y hy => h y (List.mem_cons_of_mem _ hy)
section
variable {X : Cx} {pins : List (Addr × Obj)} {σ : L2.St} {H : Hp} {s : Shared}
theorem inv_lamC {q : Str} {ps : Arguments} {body : Expr} {sc : Scope} {cl : List (Str × Addr)} {c : Addr} {pm ctv : Value} {t' : Nat} (I : Inv X pins σ H s) :
    Inv X pins σ (upd H s.heap.objs.size (LamC s.heap.objs.size c q ps body sc cl)) { s with heap := s.heap.push (PySem.W.kla_obj "<lambda>" q ps body sc cl pm c ctv), toks := t' } := by
  refine I.laid (a := s.heap.objs.size) (fun b u e => Heap.get?_push_of_some _ e) (Nat.le_refl _) ?_
  have e : (s.heap.push (PySem.W.kla_obj "<lambda>" q ps body sc cl pm c ctv)).get? s.heap.objs.size = some (PySem.W.kla_obj "<lambda>" q ps body sc cl pm c ctv) := Heap.get?_push_size _ rfl
  exact ⟨⟨pm, ctv, e⟩, ⟨_, e⟩, fun h1 h2 ⟨p, t, z⟩ st => ⟨p, t, st _ z⟩⟩
theorem lamC_make {c P : Addr} {ps : Arguments} {body : Expr} {sc : Scope} {pos : Pos} {E Q : Value → Shared → Prop} (I : Inv X pins σ H s) (TB : LamX.TabB X.base X.mg c P) (hcode : X.env.code = .ref c)
    (hT : TabS H P (X.env.qual ++ "<lambda>")) (hdef : defaultsOf ps X.env = ([], [])) (hfree : ∀ y ∈ sc.names, y.2 = .free → ∃ c, X.env.cells.lookup y.1 = some c)
    (h : ∀ (f c' : Addr) (H1 : Hp) (s' : Shared), Inv X pins σ H1 s' → ExtP P H H1 → TabS H1 P (X.env.qual ++ "<lambda>") → H1 f = some (LamC f c' (X.env.qual ++ "<lambda>") ps body sc (cloFrom X.env.cells sc.names [])) → H1 c' = some (CodeO c' (X.env.qual ++ "<lambda>")) → Q (.ref f) s') :
    wpAny (model X.prog X.w) X.A (eval (.Lambda ps body sc pos) X.env) Q E s := by
  obtain ⟨tb, hP, ht, ha⟩ := hT
  refine PySem.W.kla_eval hdef ?_
  have bP : s.heap.BuiltinsAt X.mg P := TB.bm.keeps I.bk
  have hP' : s.heap.get? P = some { cls := .none, data := .fields tb } := I.hok P _ hP
  cases hc : codeAmong pos tb.toList with
  | none =>
    refine PySem.W.kla_makeFunction (mg := X.mg) (c := c) (P := P) (ps := tb) (closure_ok hfree) I.ok.glob (I.mod.glob.keeps I.bk) hcode (TB.code.keeps I.bk) hP' ht hc TB.gP bP fun c' ctv h' tk hx hge hlt hrec htb => ?_
    obtain ⟨c2, oc, vs, t, e2, hoc, hd, hv⟩ := hrec
    cases e2
    have nC : H c' = none := I.hok.fresh hge
    have I1 := inv_table (t' := tk) (more := #[rawInt pos.line, rawInt pos.col, .ref c']) (h' := h') I hP (fun b o hb e => hx b o hb e) htb hge ⟨oc, vs, t, hoc, hd, hv⟩
    have hE : ExtP P H (upd (upd H P (.tbl (tb ++ #[rawInt pos.line, rawInt pos.col, .ref c']))) c' (CodeO c' (X.env.qual ++ "<lambda>"))) := fun b o n e => by
      rw [upd_ne (ne_of_none e nC), upd_ne n]
      exact e
    have eL : (tb ++ #[rawInt pos.line, rawInt pos.col, .ref c']).toList = tb.toList ++ [rawInt pos.line, rawInt pos.col, .ref c'] := by simp
    have nPo : ∀ {b : Addr} {q : Str}, H b = some (CodeO b q) → b ≠ P := fun e z => by
      rw [z, hP] at e
      cases e
    have T1 : TabS (upd (upd H P (.tbl (tb ++ #[rawInt pos.line, rawInt pos.col, .ref c']))) c' (CodeO c' (X.env.qual ++ "<lambda>"))) P (X.env.qual ++ "<lambda>") := by
      refine ⟨_, by rw [upd_ne (ne_of_none hP nC), upd_same], by rw [eL]; exact PySem.TriplesOk_snoc _ _ _ _ ht, fun p' cv hcv => ?_⟩
      rw [eL] at hcv
      rcases among_app _ ht hcv with z | z
      · obtain ⟨c0, e1, e2⟩ := ha p' cv z
        exact ⟨c0, e1, hE _ _ (nPo e2) e2⟩
      · exact ⟨c', z, upd_same⟩
    have nF := I1.hok.fresh (Nat.le_refl _)
    have I2 := inv_lamC (cl := cloFrom X.env.cells sc.names []) (q := X.env.qual ++ "<lambda>") (ps := ps) (body := body) (sc := sc) (c := c') (pm := (X.mg "__name__").getD .none) (ctv := ctv) (t' := tk) I1
    have grow : ∀ b o, upd (upd H P (.tbl (tb ++ #[rawInt pos.line, rawInt pos.col, .ref c']))) c' (CodeO c' (X.env.qual ++ "<lambda>")) b = some o → upd (upd (upd H P (.tbl (tb ++ #[rawInt pos.line, rawInt pos.col, .ref c']))) c' (CodeO c' (X.env.qual ++ "<lambda>"))) h'.objs.size (LamC h'.objs.size c' (X.env.qual ++ "<lambda>") ps body sc (cloFrom X.env.cells sc.names [])) b = some o := fun b o e => (upd_ne (ne_of_none e nF)).trans e
    exact h h'.objs.size c' _ _ I2 (hE.trans (ExtP.of grow)) (T1.ext grow) upd_same (grow _ _ upd_same)
  | some cv =>
    obtain ⟨c', e, hco⟩ := ha pos cv hc
    subst e
    refine PySem.W.kla_makeFunctionHit (mg := X.mg) (c := c) (P := P) (ps := tb) (closure_ok hfree) I.ok.glob (I.mod.glob.keeps I.bk) hcode (TB.code.keeps I.bk) hP' ht hc bP fun ctv h' tk hx hsz => ?_
    have I1 : Inv X pins σ H { s with heap := h', toks := tk } := I.kept hx
    have nF : H h'.objs.size = none := I1.hok.fresh (Nat.le_refl _)
    have I2 := inv_lamC (cl := cloFrom X.env.cells sc.names []) (q := X.env.qual ++ "<lambda>") (ps := ps) (body := body) (sc := sc) (c := c') (pm := (X.mg "__name__").getD .none) (ctv := ctv) (t' := tk) I1
    have grow : ∀ b o, H b = some o → upd H h'.objs.size (LamC h'.objs.size c' (X.env.qual ++ "<lambda>") ps body sc (cloFrom X.env.cells sc.names [])) b = some o := fun b o e => (upd_ne (ne_of_none e nF)).trans e
    exact h h'.objs.size c' _ _ I2 (ExtP.of grow) (TabS.ext ⟨tb, hP, ht, ha⟩ grow) upd_same (grow _ _ hco)
end
/-- the lambda as a value -/
def tLamV (P : Addr) (q : Str) (d : LamD) : TE := fun _ H Q => TabS H P q ∧ ∀ (f c : Addr) (H1 : Hp), ExtP P H H1 → TabS H1 P q → H1 f = some (LamO f c q d.ps d.body d.sc) → H1 c = some (CodeO c q) → Q (.ref f) H1
theorem pe_lamV {X : Cx} {c P : Addr} {d : LamD} {pos : Pos} (TB : LamX.TabB X.base X.mg c P) (hcode : X.env.code = .ref c)
    (hdef : defaultsOf d.ps X.env = ([], [])) (hno : noOwn d.sc = true) : PE X (.Lambda d.ps d.body d.sc pos) (tLamV P (X.env.qual ++ "<lambda>") d) := by
  refine ⟨fun pins s σ H Q I h => ?_⟩
  obtain ⟨hT, h⟩ := h
  have hno := noOwn_by hno
  have ecl : cloFrom X.env.cells d.sc.names [] = [] := clo_nil fun y hy => (hno.own y hy).2.2
  exact lamC_make I TB hcode hT hdef (fun y hy e => absurd e (hno.own y hy).2.2) fun f c' H1 s' I1 e t1 h1 h2 => ⟨.ref f, H1, I1, rfl, h f c' H1 e t1 (by rw [ecl] at h1; exact h1) h2⟩
/-- where the lambda's body runs -/
def lamCx0 (X : Cx) (q : Str) (A : Around) (outer : List Env) (s : Shared) (H : Hp) (E : XK) (sc : Scope) (f c : Addr) : Cx where
  prog := X.prog
  w := X.w
  K := X.K
  mg := X.mg
  base := X.base
  A := A.deeper (PySem.W.envX q sc s.heap.objs.size f (.ref c) [])
  N := X.N
  s_0 := s
  H_0 := H
  env := PySem.W.envX q sc s.heap.objs.size f (.ref c) []
  outer := outer
  stack := PySem.W.envX q sc s.heap.objs.size f (.ref c) [] :: outer
  ex := []
  fn := fun _ => false
  calm := true
  pn := []
  xe := fun e s' => wpAny (model X.prog X.w) (A.deeper (PySem.W.envX q sc s.heap.objs.size f (.ref c) [])) (leaving (PySem.W.envX q sc s.heap.objs.size f (.ref c) []) e) (fun _ s'' => L2.CX X.prog X.w outer H s E e s'') (fun e' s'' => L2.CX X.prog X.w outer H s E e' s'') s'
theorem lam_start0 {X : Cx} {q : Str} {HZ : Hp} {s1 : Shared} {A : Around} {outer : List Env} {E : XK} {sc : Scope} {f c : Addr} {h₁ : Heap} {tk : Nat} (L : NoOwn sc) (e0 : Env0 X.prog X.w X.K X.mg X.base A outer s1 HZ) (hd : A.handled = none)
    (hns : h₁.Ns s1.heap.objs.size fun y => ([] : List (Str × Value)).reverse.lookup y) (kp : ∀ b o, s1.heap.get? b = some o → h₁.get? b = some o) :
    Inv (lamCx0 X q A outer s1 HZ E sc f c) [] (List.replicate X.N.length none) HZ { s1 with heap := h₁, toks := tk } := by
  have noA : ∀ b : Addr, b ∉ (lamCx0 X q A outer s1 HZ E sc f c).ex := fun b z => absurd (show b ∈ ([] : List Addr) from z) (by simp)
  refine ⟨⟨e0.mod, L.kind, rfl, rfl, Nat.le_refl _, fun y z c e1 e2 => ?_, fun y hy => ?_, fun y c z _ => ?_, fun _ => hd, Around.frames_deeper e0.frames, .inr ⟨rfl, rfl⟩, fun b z => absurd z (noA b), e0.bs, e0.bsz, fun b _ _ => noA b,
      fun b z => absurd z (noA b), e0.funs, e0.frf⟩,
    rfl, e0.bare, Un.kept kp, ⟨_, hns, fun i y v e1 e2 e3 => ?_⟩, fun y c e => ?_, e0.hok.fresh (Nat.le_refl _), fun y c e => ?_, fun q hq => absurd (show q ∈ ([] : List (Addr × Obj)) ++ [] from hq) (by simp), e0.hok.kept kp, List.length_replicate⟩
  · cases (show List.lookup y ([] : List (Str × Addr)) = some c from e1)
  · have hy : sc.names.lookup y = some .cell ∨ sc.names.lookup y = some .free := hy
    rcases hy with hy | hy
    · exact absurd rfl (L.own _ (PySem.mem_of_lookup hy)).2.1
    · exact absurd rfl (L.own _ (PySem.mem_of_lookup hy)).2.2
  · cases (show false = true from z)
  · have e3 : Vis sc y := e3
    rcases e3 with k | k | k
    · exact absurd rfl (L.own _ (PySem.mem_of_lookup k)).1
    · exact absurd rfl (L.own _ (PySem.mem_of_lookup k)).2.1
    · exact absurd rfl (L.own _ (PySem.mem_of_lookup k)).2.2
  · cases (show List.lookup y ([] : List (Str × Addr)) = some c from e)
  · cases (show List.lookup y ([] : List (Str × Addr)) = some c from e)
theorem pe_act0 {X : Cx} {H : Hp} {s : Shared} {CXg : CXT} {Eg : XK} {Ng : List Str} {q qg : Str} {sg : Scope} {g f c' : Addr} {cdg : Value} {ps : Arguments} {body : Expr} {sc : Scope} {k i : Nat} {a : Str} {pn : List (Addr × Obj)} {xe : Value → Shared → Prop} {W : WX} {E : XK} {tb : TE} {p1 p2 : Pos}
    (L : NoOwn sc) (hbind : ∀ pm ctv : Value, bindArgs (PySem.W.kla_fn "<lambda>" q ps body sc [] pm (.ref c') ctv) ⟨[], []⟩ = pure [])
    (tk : Takes ((cxOf CXg X.prog X.w X.K X.mg X.base Ng qg sg g cdg X.A X.stack s H Eg).tr pn xe) W) (hW : ∀ cls d σ' H', E cls d H' → W cls d σ' H') (hr : Room (k + 1) (X.A.deeper (envOfC qg sg s.heap.objs.size g cdg)))
    (hbody : ∀ (A : Around) (outer : List Env) (s : Shared) (H : Hp), Room k (A.deeper (PySem.W.envX q sc s.heap.objs.size f (.ref c') [])) → PE (lamCx0 X q A outer s H E sc f c') body tb)
    (hN : Ng[i]? = some a) (hv : Vis sg a) (hd : (a == ("__debug__" : Str)) = false := by decide) (hcd : (a == ("__classdict__" : Str)) = false := by decide) :
    PE ((cxOf CXg X.prog X.w X.K X.mg X.base Ng qg sg g cdg X.A X.stack s H Eg).tr pn xe) (.Call (.Name a p1) [] [] p2)
      (fun σZ HZ Q => σZ[i]? = some (some (.ref f)) ∧ HZ c' = some (CodeO c' q) ∧ HZ f = some (LamO f c' q ps body sc) ∧ tb (List.replicate X.N.length none) HZ Q) := by
  refine ⟨fun pinsZ sZ σZ HZ Q IZ h => ?_⟩
  obtain ⟨hs, hc, hf, ht⟩ := h
  refine wpAny_Call_Name_kw (thn ((pe_var (pos := p1) (i := i) hN hv hd hcd).run pinsZ sZ σZ HZ (fun v H1 => v = .ref f ∧ H1 = HZ) IZ ⟨.ref f, hs, rfl, rfl⟩) fun u s1 ⟨v, H1, I1, r1, q1⟩ => ?_)
  obtain ⟨ev, eH⟩ := q1
  subst ev
  rw [eH] at I1
  obtain rfl : u = Value.ref f := r1
  obtain ⟨⟨pm, ctv, of1⟩, _, _⟩ := I1.hok f _ hf
  refine PySem.W.callWith_F0 ⟨_, _, _, _, of1⟩ ?_
  obtain ⟨⟨oc, vs, t, hoc, hdc, hvc⟩, _, _⟩ := I1.hok c' _ hc
  have rc : codeAny (model X.prog X.w) (X.A.deeper (envOfC qg sg s.heap.objs.size g cdg)) (.call (.ref f) ⟨[], []⟩) (CR (L2.CX X.prog X.w) (envOfC qg sg s.heap.objs.size g cdg :: X.stack) X.prog X.w HZ s1 Q E) s1 := by
    refine PySem.W.kla_callFunE hr.depth of1 rfl L.co L.gen rfl ⟨c', oc, vs, t, rfl, hoc, hdc, hvc⟩ ?_
    rw [hbind]
    refine wpAny_pure (wpAny_newFunctionEnv (fun y hy => (L.own y hy).2.1) (fun y hy => absurd hy (by simp)) (fun h₁ hns hsb => ⟨I1.nolimit.fresh _ hsb, ?_⟩) L.kind)
    show codeAny _ _ (.expr body (PySem.W.envX q sc s1.heap.objs.size f (.ref c') [])) _ _
    have kp : ∀ b o, s1.heap.get? b = some o → h₁.get? b = some o := fun b o e => hsb.extBut b o (Nat.ne_of_lt (Heap.lt_size e)) (Heap.get?_push_of_some _ e)
    have J : Inv (lamCx0 X q (X.A.deeper (envOfC qg sg s.heap.objs.size g cdg)) (envOfC qg sg s.heap.objs.size g cdg :: X.stack) s1 HZ E sc f c') [] (List.replicate X.N.length none) HZ { s1 with heap := h₁, toks := s1.toks + ([] : List (Str × Value)).length } :=
      lam_start0 L I1.env0 hr.hd hns kp
    refine PySem.W.kla_codeExpr (wpAny_mono ((hbody _ _ s1 HZ (hr.deeper _)).run [] _ _ HZ Q J ht) (fun v s' hq => ?_) fun e s' hq => hq)
    obtain ⟨w', H', J', rv, q⟩ := hq
    exact ⟨w', H', J'.os, J'.bare, J'.base, J'.hok, rv, q⟩
  have hx : Passes (L2.CX X.prog X.w) ((cxOf CXg X.prog X.w X.K X.mg X.base Ng qg sg g cdg X.A X.stack s H Eg).tr pn xe) E := passes_call tk hW
  refine wpAny_call (codeAny_mono rc fun r s' hq => ?_)
  cases r with
  | error e => exact hx pinsZ σZ HZ s1 e s' I1 hq
  | ok fl =>
    cases fl with
    | ret u => exact I1.after hq
    | next => exact False.elim hq
    | brk => exact False.elim hq
    | cont => exact False.elim hq
/-- the i-th slot holds one of the lambdas of fam: it is told -/
def tToldV (K : PySem.W.Frag) (CS : Addr) (ret q : Str) (n i : Nat) (fam : List LamD) (t : Nat → XK → TE) : TE := fun σ H Q => ∃ (f c : Addr) (k : Nat) (d : LamD), σ[i]? = some (some (.ref f)) ∧ fam[k]? = some d ∧
  H f = some (LamO f c q d.ps d.body d.sc) ∧ H c = some (CodeO c q) ∧ t k (kTold K CS ret Q) (List.replicate n none) H Q
theorem pe_toldV {X : Cx} {x a y q ret : Str} {g CS : Addr} {k i : Nat} {pg : Arguments} {bg : List Stmt} {sg : Scope} {dV kV doc pm cdv ct oc : Value} {an od : Option Addr} {osl : Array (Option Value)} {Ng : List Str}
    {fam : List LamD} {t : Nat → XK → TE} {p py pos : Pos} (hg : Gl X x) (hm : X.mg x = some (.ref g)) (hk : PySem.W.keepIn X.K (.ref g) = true)
    (lk : X.K.lookup g = some ⟨oc, od, .func (PySem.W.fnOf x x pg bg sg dV kV doc pm an cdv ct), osl⟩) (hcg : PySem.W.codeIn X.K cdv x = true) (hb : L2.Binds X.K (PySem.W.fnOf x x pg bg sg dV kV doc pm an cdv ct) [a] []) (Sg : FnScope Ng [a] sg) (hNg : Ng[0]? = some a) (hva : Vis sg a)
    (hG : GivesTo X Ng x sg g cdv bg a q (TTold X.K CS ret)) (hi : X.N[i]? = some y) (hv : Vis X.env.scope y) (hr : Room (k + 2) X.A)
    (hno : ∀ (j : Nat) (d : LamD), fam[j]? = some d → noOwn d.sc = true) (hbind : ∀ (j : Nat) (d : LamD), fam[j]? = some d → ∀ (c' : Addr) (pm ctv : Value), bindArgs (PySem.W.kla_fn "<lambda>" q d.ps d.body d.sc [] pm (.ref c') ctv) ⟨[], []⟩ = pure [])
    (hbody : ∀ (j : Nat) (d : LamD), fam[j]? = some d → ∀ (A : Around) (outer : List Env) (s : Shared) (H : Hp) (E : XK) (f c' : Addr), Room k (A.deeper (PySem.W.envX q d.sc s.heap.objs.size f (.ref c') [])) → PE (lamCx0 X q A outer s H E d.sc f c') d.body (t j E))
    (hdb : (x == ("__debug__" : Str)) = false := by decide) (hd : (a == ("__debug__" : Str)) = false := by decide) (hcd : (a == ("__classdict__" : Str)) = false := by decide) (hyd : (y == ("__debug__" : Str)) = false := by decide) (hyc : (y == ("__classdict__" : Str)) = false := by decide) :
    PE X (.Call (.Name x p) [.Name y py] [] pos) (tToldV X.K CS ret q X.N.length i fam t) := by
  refine ⟨fun pins s σ H Q I h => ?_⟩
  obtain ⟨f, c', j, d, hs, hj, hf, hc, ht⟩ := h
  refine wpAny_Call_Name_kw (ld_glob I hg hm ?_ hdb)
  refine PySem.W.callWith_K (h₀ := X.base) I.ok.mod.kin hk ?_ (by rfl) (by rfl)
  show wpAny _ _ (spliced ((false, eval (.Name y py) X.env) :: backTo pos (starEach [] X.env))) _ _ s
  refine Calls.spliced_cons (thn ((pe_var (pos := py) (i := i) hi hv hyd hyc).run pins s σ H (fun v H1 => v = .ref f ∧ H1 = H) I ⟨.ref f, hs, rfl, rfl⟩) fun u s' ⟨v, H1, I1, r1, q1⟩ => ?_)
  obtain ⟨ev, eH⟩ := q1
  subst ev
  rw [eH] at I1
  obtain rfl : u = Value.ref f := r1
  refine Calls.spliced_nil ⟨I1.kIn, ?_⟩
  have rc : codeAny (model X.prog X.w) X.A (.call (.ref g) ⟨[.ref f], []⟩) (CR C8.CX0 X.stack X.prog X.w H s' Q C8.E0) s' := by
    refine run_ofS (N := Ng) (ps := [a]) (us := [.ref f]) (vs := [.ref f]) lk hcg Sg hr I1.env0 (hb s' [.ref f] I1.kIn rfl) (.cons rfl .nil) rfl fun hr' => ?_
    obtain ⟨t', ht', hq'⟩ := hG f c' s' H Q (fun E H' Q' => H' f = some (LamO f c' q d.ps d.body d.sc) ∧ t j E (List.replicate X.N.length none) H' Q')
      (fun W pn xe E p1 p2 tk hW => pe_act0 (i := 0) (noOwn_by (hno j d hj)) (hbind j d hj c') tk hW hr' (fun A outer s H hr2 => hbody j d hj A outer s H E f c' hr2) hNg hva hd hcd) hc ⟨hf, ht⟩
    exact ⟨t', ht'.nox, hq'⟩
  refine wpAny_call (codeAny_mono rc fun r s2 hq => ?_)
  cases r with
  | error e => exact (show False from hq).elim
  | ok fl =>
    cases fl with
    | ret u => exact I1.after hq
    | next => exact False.elim hq
    | brk => exact False.elim hq
    | cont => exact False.elim hq
/-- a lambda handed to the teller at once -/
def tLamP (P : Addr) (q : Str) (TT : (XK → Hp → VK → Prop) → Hp → VK → Prop) (t : XK → TE) : TE := fun σ H Q => TabS H P q ∧ ∀ H1, ExtP P H H1 → TabS H1 P q → TT (fun E H' Q' => t E σ H' Q') H1 Q
theorem pe_actC {X : Cx} {pins : List (Addr × Obj)} {σ : L2.St} {H : Hp} {s : Shared} {CXg : CXT} {Eg : XK} {Ng : List Str} {qg : Str} {sg : Scope} {g f c' : Addr} {cdg : Value} {ps : Arguments} {body : Expr} {sc : Scope} {k i : Nat} {a : Str} {pn : List (Addr × Obj)} {xe : Value → Shared → Prop} {W : WX} {E : XK} {tb : TE} {p1 p2 : Pos}
    (I : Inv X pins σ H s) (L : LamS X.env.scope sc)
    (hbind : ∀ pm ctv : Value, bindArgs (PySem.W.kla_fn "<lambda>" (X.env.qual ++ "<lambda>") ps body sc (cloFrom X.env.cells sc.names []) pm (.ref c') ctv) ⟨[], []⟩ = pure [])
    (tk : Takes ((cxOf CXg X.prog X.w X.K X.mg X.base Ng qg sg g cdg X.A X.stack s H Eg).tr pn xe) W) (hW : ∀ cls d σ' H', E cls d H' → W cls d σ' H') (hr : Room (k + 1) (X.A.deeper (envOfC qg sg s.heap.objs.size g cdg)))
    (hbody : ∀ (A : Around) (outer : List Env) (s : Shared) (H : Hp), Room k (A.deeper (lamEnv X sc s.heap.objs.size f c')) → PE (lamCx X A outer s H E sc f c') body tb)
    (hN : Ng[i]? = some a) (hv : Vis sg a) (hd : (a == ("__debug__" : Str)) = false := by decide) (hcd : (a == ("__classdict__" : Str)) = false := by decide) :
    PE ((cxOf CXg X.prog X.w X.K X.mg X.base Ng qg sg g cdg X.A X.stack s H Eg).tr pn xe) (.Call (.Name a p1) [] [] p2)
      (fun σZ HZ Q => σZ[i]? = some (some (.ref f)) ∧ HZ c' = some (CodeO c' (X.env.qual ++ "<lambda>")) ∧ HZ f = some (LamC f c' (X.env.qual ++ "<lambda>") ps body sc (cloFrom X.env.cells sc.names [])) ∧ tb σ HZ Q) := by
  refine ⟨fun pinsZ sZ σZ HZ Q IZ h => ?_⟩
  obtain ⟨hs, hc, hf, ht⟩ := h
  refine wpAny_Call_Name_kw (thn ((pe_var (pos := p1) (i := i) hN hv hd hcd).run pinsZ sZ σZ HZ (fun v H1 => v = .ref f ∧ H1 = HZ) IZ ⟨.ref f, hs, rfl, rfl⟩) fun u s1 ⟨v, H1, I1, r1, q1⟩ => ?_)
  obtain ⟨ev, eH⟩ := q1
  subst ev
  rw [eH] at I1
  obtain rfl : u = Value.ref f := r1
  obtain ⟨⟨pm, ctv, of1⟩, _, _⟩ := I1.hok f _ hf
  refine PySem.W.callWith_F0 ⟨_, _, _, _, of1⟩ ?_
  obtain ⟨⟨oc, vs, t, hoc, hdc, hvc⟩, _, _⟩ := I1.hok c' _ hc
  have rc : codeAny (model X.prog X.w) (X.A.deeper (envOfC qg sg s.heap.objs.size g cdg)) (.call (.ref f) ⟨[], []⟩) (CR (L2.CX X.prog X.w) (envOfC qg sg s.heap.objs.size g cdg :: X.stack) X.prog X.w HZ s1 Q E) s1 := by
    refine PySem.W.kla_callFunE hr.depth of1 rfl L.co L.gen rfl ⟨c', oc, vs, t, rfl, hoc, hdc, hvc⟩ ?_
    rw [hbind]
    refine wpAny_pure (wpAny_newFunctionEnv (fun y hy => (L.own y hy).2) (fun y hy => absurd hy (by simp)) (fun h₁ hns hsb => ⟨I1.nolimit.fresh _ hsb, ?_⟩) L.kind)
    show codeAny _ _ (.expr body (lamEnv X sc s1.heap.objs.size f c')) _ _
    have J : Inv (lamCx X (X.A.deeper (envOfC qg sg s.heap.objs.size g cdg)) (envOfC qg sg s.heap.objs.size g cdg :: X.stack) s1 HZ E sc f c') [] σ HZ { s1 with heap := h₁, toks := s1.toks + ([] : List (Str × Value)).length } :=
      lam_start2 I L I1.env0 hr.hd I1.base hns (fun b o e => hsb.extBut b o (Nat.ne_of_lt (Heap.lt_size e)) (Heap.get?_push_of_some _ e))
    refine PySem.W.kla_codeExpr (wpAny_mono ((hbody _ _ s1 HZ (hr.deeper _)).run [] _ _ HZ Q J ht) (fun v s' hq => ?_) fun e s' hq => hq)
    obtain ⟨w', H', J', rv, q⟩ := hq
    exact ⟨w', H', J'.os, J'.bare, J'.base, J'.hok, rv, q⟩
  have hx : Passes (L2.CX X.prog X.w) ((cxOf CXg X.prog X.w X.K X.mg X.base Ng qg sg g cdg X.A X.stack s H Eg).tr pn xe) E := passes_call tk hW
  refine wpAny_call (codeAny_mono rc fun r s' hq => ?_)
  cases r with
  | error e => exact hx pinsZ σZ HZ s1 e s' I1 hq
  | ok fl =>
    cases fl with
    | ret u => exact I1.after hq
    | next => exact False.elim hq
    | brk => exact False.elim hq
    | cont => exact False.elim hq
/-- x(lambda: body), x the teller -/
theorem pe_lamP {X : Cx} {x a ret : Str} {g c P CS : Addr} {k : Nat} {pg : Arguments} {bg : List Stmt} {sg : Scope} {dV kV doc pm cdv ct oc : Value} {an od : Option Addr} {osl : Array (Option Value)} {Ng : List Str}
    {ps : Arguments} {body : Expr} {sc : Scope} {t : XK → TE} {p lpos pos : Pos} (hg : Gl X x) (hm : X.mg x = some (.ref g)) (hk : PySem.W.keepIn X.K (.ref g) = true)
    (lk : X.K.lookup g = some ⟨oc, od, .func (PySem.W.fnOf x x pg bg sg dV kV doc pm an cdv ct), osl⟩) (hcg : PySem.W.codeIn X.K cdv x = true) (hb : L2.Binds X.K (PySem.W.fnOf x x pg bg sg dV kV doc pm an cdv ct) [a] []) (Sg : FnScope Ng [a] sg) (hNg : Ng[0]? = some a) (hva : Vis sg a)
    (hG : GivesTo X Ng x sg g cdv bg a (X.env.qual ++ "<lambda>") (TTold X.K CS ret))
    (TB : LamX.TabB X.base X.mg c P) (hcode : X.env.code = .ref c) (hr : Room (k + 2) X.A) (L : LamS X.env.scope sc) (hdef : defaultsOf ps X.env = ([], []))
    (hbind : ∀ (q : Str) (cl : List (Str × Addr)) (pm cv ctv : Value), bindArgs (PySem.W.kla_fn "<lambda>" q ps body sc cl pm cv ctv) ⟨[], []⟩ = pure [])
    (hbody : ∀ (A : Around) (outer : List Env) (s : Shared) (H : Hp) (E : XK) (f c' : Addr), Room k (A.deeper (lamEnv X sc s.heap.objs.size f c')) → PE (lamCx X A outer s H E sc f c') body (t E))
    (hdb : (x == ("__debug__" : Str)) = false := by decide) (hd : (a == ("__debug__" : Str)) = false := by decide) (hcd : (a == ("__classdict__" : Str)) = false := by decide) :
    PE X (.Call (.Name x p) [.Lambda ps body sc lpos] [] pos) (tLamP P (X.env.qual ++ "<lambda>") (TTold X.K CS ret) t) := by
  refine ⟨fun pins s σ H Q I h => ?_⟩
  obtain ⟨hT, h⟩ := h
  refine wpAny_Call_Name_kw (ld_glob I hg hm ?_ hdb)
  refine PySem.W.callWith_K (h₀ := X.base) I.ok.mod.kin hk ?_ (by rfl) (by rfl)
  show wpAny _ _ (spliced ((false, eval (.Lambda ps body sc lpos) X.env) :: backTo pos (starEach [] X.env))) _ _ s
  refine Calls.spliced_cons (lamC_make I TB hcode hT hdef (L.has I.ok) fun f c' H1 s' I1 eP T1 hf hco => ?_)
  refine Calls.spliced_nil ⟨I1.kIn, ?_⟩
  have rc : codeAny (model X.prog X.w) X.A (.call (.ref g) ⟨[.ref f], []⟩) (CR C8.CX0 X.stack X.prog X.w H1 s' Q C8.E0) s' := by
    refine run_ofS (N := Ng) (ps := [a]) (us := [.ref f]) (vs := [.ref f]) lk hcg Sg hr I1.env0 (hb s' [.ref f] I1.kIn rfl) (.cons rfl .nil) rfl fun hr' => ?_
    obtain ⟨t', ht', hq'⟩ := hG f c' s' H1 Q (fun E H' Q' => H' f = some (LamC f c' (X.env.qual ++ "<lambda>") ps body sc (cloFrom X.env.cells sc.names [])) ∧ t E σ H' Q')
      (fun W pn xe E p1 p2 tk hW => pe_actC (i := 0) I1 L (hbind _ _ · _ ·) tk hW hr' (fun A outer s H hr2 => hbody A outer s H E f c' hr2) hNg hva hd hcd) hco ⟨hf, h H1 eP T1⟩
    exact ⟨t', ht'.nox, hq'⟩
  refine wpAny_call (codeAny_mono rc fun r s2 hq => ?_)
  cases r with
  | error e => exact (show False from hq).elim
  | ok fl =>
    cases fl with
    | ret u => exact I1.after hq
    | next => exact False.elim hq
    | brk => exact False.elim hq
    | cont => exact False.elim hq
/-! ### the steps -/
theorem TabOK.tabS {q : Str} {tb : Array Value} {H : Hp} {P : Addr} (h : TabOK q tb H) (e : H P = some (.tbl tb)) : TabS H P q := ⟨tb, e, h.1, h.2⟩
section
variable {K : PySem.W.Frag} {B H : Hp} {L L' : List (Addr × HO)} {I : List Im} {Q : VK} {σ : L2.St} {P C : Addr} {q ret : Str} {tb : Array Value}
theorem s_lam {t : XK → TE} (hC : Ctx K B H L I) (m : Pick (P, .tbl tb) L L') (f : Im.tab q tb ∈ I) (k : ∀ tb' H1, Ctx K B H1 ((P, .tbl tb') :: L') (.tab q tb' :: I) → t (kTold K C ret Q) σ H1 Q) : tLamP P q (TTold K C ret) t σ H Q := by
  have hC := hC.pick m
  have e0 := hC.get List.mem_cons_self
  refine ⟨(hC.tab f).tabS e0, fun H1 e t1 => ?_⟩
  obtain ⟨tb', h1, h2, h3⟩ := t1
  exact k tb' H1 ((hC.but List.mem_cons_self .here rfl e h1).add (i := .tab q tb') ⟨h2, h3⟩)
theorem s_lamV {d : LamD} (hC : Ctx K B H L I) (m : Pick (P, .tbl tb) L L') (f : Im.tab q tb ∈ I)
    (k : ∀ f c tb' H1, Ctx K B H1 ((P, .tbl tb') :: L') (.pr (fun H => H f = some (LamO f c q d.ps d.body d.sc)) (fun _ _ s h => s _ _ h rfl) :: .pr (fun H => H c = some (CodeO c q)) (fun _ _ s h => s _ _ h rfl) :: .tab q tb' :: I) → Q (.ref f) H1) : tLamV P q d σ H Q := by
  have hC := hC.pick m
  have e0 := hC.get List.mem_cons_self
  refine ⟨(hC.tab f).tabS e0, fun f c H1 e t1 hf hc => ?_⟩
  obtain ⟨tb', h1, h2, h3⟩ := t1
  exact k f c tb' H1 ((((hC.but List.mem_cons_self .here rfl e h1).add (i := .tab q tb') ⟨h2, h3⟩).add (i := .pr (fun H => H c = some (CodeO c q)) (fun _ _ s h => s _ _ h rfl)) hc).add (i := .pr (fun H => H f = some (LamO f c q d.ps d.body d.sc)) (fun _ _ s h => s _ _ h rfl)) hf)
end
/-! ### words by place; defs whose code is named -/
def lamOf : Expr → LamD
  | .Lambda ps body sc _ => ⟨ps, body, sc⟩
  | e => ⟨defArgs (.Pass ⟨0, 0, 0, 0⟩), e, defScope (.Pass ⟨0, 0, 0, 0⟩)⟩
def eltOf (e : Expr) (i : Nat) : Expr := match e with
  | .List es _ => es.getD i e
  | _ => e
def asgOf : Stmt → Expr
  | .Assign _ e _ => e
  | _ => .Name "" ⟨0, 0, 0, 0⟩
theorem _root_.L2.FunD.okC {P : Program} {w : World} {K : PySem.W.Frag} {mg : Str → Option Value} {base : Heap} {x qual : Str} {params : Arguments} {body : List Stmt} {scope : Scope} {dvs : List V} {kws : List (Str × V)} {f : Addr} {fd : FuncData}
    {CX : CXT} {N ps : List Str} {k : Nat} {sp : Sp} (F : FunD K x qual params body scope dvs kws f fd) (S : FnScope N ps scope) (len : ∀ vs H Q E, sp vs H Q E → vs.length = ps.length)
    (hbody : ∀ (cdv : Value) (A : Around) (outer : List Env) (s : Shared) (H : Hp) (vs : List V) (Q : VK) (E : XK), Room k (A.deeper (envOfC qual scope s.heap.objs.size f cdv)) → fd.code = cdv → sp vs H Q E →
      ∃ t, PSs (cxOf CX P w K mg base N qual scope f cdv A outer s H E) body t ∧ t { nx := fun _ H' => Q .non H', rt := Q } (L2.start N vs) H) : FnOk P w K mg base CX (k + 1) f fd ps sp := by
  obtain ⟨oc, od, dV, kV, doc, pm, an, cdv, ct, osl, rfl, lk, hcd, _, _⟩ := F.ex
  exact fn_of lk hcd S len fun A outer s H vs Q E hr hsp => hbody cdv A outer s H vs Q E hr rfl hsp
end Ph
namespace Ph
open PySem PySem.Spec PyProof.Rows L2 GxR
/-- the element: a test of the sign, the globals known -/
def EltG (X : Cx) (sc : Scope) (x : Str) (elt : Expr) (pb : Nat → Bool) : Prop :=
  ∀ (ce : Env) (A' : Around) (E' : Value → Shared → Prop) (c : Nat) (t : Tok) (z : Shared) (m : Str → Option Value), A'.handled = none → ce.scope = sc → ce.globals = mainGlobals → z.heap.Ns mainGlobals X.mg → z.heap.Ns ce.locals m → m x = some (.str ⟨#[c]⟩ t) →
    wpAny (model X.prog X.w) A' (eval elt ce) (fun y z' => y = .bool (pb c) ∧ Keeps z z') E' z
section
variable {X : Cx} {pins : List (Addr × Obj)} {σ : L2.St} {H : Hp} {s : Shared}
theorem gen_strG {c P : Addr} {elt iter : Expr} {x : Str} {px gpos : Pos} {sc : Scope} {pb : Nat → Bool} {te : TE} {k : Nat} {Qz : Value → Shared → Prop} {R : Str → Hp → Prop}
    (hr : Room k X.A) (TB : GxR.TabB X.base X.mg c P) (hcode : X.env.code = .ref c) (S : GenS X.env sc x) (hi : PE X iter te) (hel : EltG X sc x elt pb)
    (hs : ∀ v, genFold iter X.env v = pure v) (I : Inv X pins σ H s) (h : te σ H fun v Ha => ∃ a : Str, v = .str a ∧ TabG Ha P ∧ R a Ha)
    (hQ : ∀ a Ha g z, R a Ha → Ready X pins σ Ha P a pb g z → Qz (.ref g) z) :
    wpAny (model X.prog X.w) X.A (eval (.GeneratorExp elt [⟨.Name x px, iter, [], 0⟩] sc gpos) X.env) Qz X.xe s := by
  refine wpAny_GeneratorExp_walksQ hr.hd S.co (closure_ok S.free) S.cell S.dot S.loc S.kind (by have := hr.dp; omega) ?_ hs
  refine thn (hi.run pins s σ H _ I h) fun xv sa ⟨v, Ha, Ia, ra, qa⟩ => ?_
  obtain ⟨a, rfl, ⟨tb, hP, ht⟩, qa⟩ := qa
  obtain ⟨t, rfl⟩ := _root_.id ra
  refine wpAny_pyIter_str fun oi St W hst => ?_
  have hPs : sa.heap.get? P = some { cls := .none, data := .fields tb } := Ia.hok P _ hP
  have hPlt : P < sa.heap.objs.size := Heap.lt_size hPs
  have hP2 : (sa.heap.push oi).get? P = some { cls := .none, data := .fields tb } := Heap.get?_push_of_some _ hPs
  have cd : PySem.W.CodeHd (sa.heap.push oi) c P := TB.code.keeps fun b u e => Heap.get?_push_of_some _ (Ia.bk b u e)
  have lim2 : (sa.heap.push oi).NoLimit := Ia.nolimit.push oi
  have cont : ∀ (code : Value) (hb3 : Heap) (tk : Nat) (tb2 : Array Value), Heap.ExtBut P (sa.heap.push oi) hb3 → (sa.heap.push oi).objs.size ≤ hb3.objs.size → hb3.get? P = some { cls := .none, data := .fields tb2 } → (∃ more, tb2 = tb ++ more) → TriplesOk tb2.toList →
      wpAny (model X.prog X.w) X.A (builtinsFor X.env.globals X.env.builtins) (fun bi sd =>
        ∃ Ia fp wr n₀ Pf St₀ pz F, Value.ref sa.heap.objs.size = .ref Ia ∧ (∀ A' : Around, A'.handled = none → Walks X.prog X.w A' Ia fp wr n₀ Pf St₀) ∧ St₀ 0 sd.heap ∧ (∀ b ∈ fp, b < sd.heap.objs.size) ∧ sd.heap.NoLimit ∧ cStatics ∉ wr ∧
          (∀ href : Heap, (∀ b o, sd.heap.get? b = some o → href.get? b = some o) →
            QuietGen X.prog X.w (genEnv sc (cloFrom X.env.cells sc.names []) sd.heap.objs.size code bi X.env) x [] elt (List.range sd.heap.objs.size) wr Pf pz F href) ∧
          (∀ a hb5 tk gs, gs.bare = true → sd.heap.objs.size < a → hb5.objs.size = a + 1 → (∀ b o, sd.heap.get? b = some o → hb5.get? b = some o) →
            WalksS X.prog X.w X.A.in4 a (a :: sd.heap.objs.size :: List.range sd.heap.objs.size) (sd.heap.objs.size :: wr) (GenOnlyQ sd.gens.size) (passing pz n₀ 0).length
              (fun j y => ∃ i, (passing pz n₀ 0)[j]? = some i ∧ F i y) (GenAt X.prog X.w X.A.in4 a sd.gens.size sd.heap.objs.size (List.range sd.heap.objs.size) wr pz n₀ F) →
            GenAt X.prog X.w X.A.in4 a sd.gens.size sd.heap.objs.size (List.range sd.heap.objs.size) wr pz n₀ F 0 { sd with gens := sd.gens.push gs, toks := tk, heap := hb5 } →
            Qz (.ref a) { sd with gens := sd.gens.push gs, toks := tk, heap := hb5 })) X.xe { sa with heap := hb3, toks := tk } := by
    intro code hb3 tk tb2 hx hsz hP3 hmore ht3
    obtain ⟨bm, ob, e1, e2, e3, e4, e5, e6, e7, e8⟩ := TB.bm
    have hcP : cStatics ≠ P := fun e => by
      obtain ⟨_, hns, _⟩ := Ia.nolimit
      obtain ⟨ow, es, ep, ho, hd, _⟩ := hns
      rw [e, hPs] at ho
      cases ho
      cases hd
    have hcl : cStatics < sa.heap.objs.size := let ⟨_, hns, _⟩ := Ia.nolimit; hns.lt
    have sz2 : (sa.heap.push oi).objs.size = sa.heap.objs.size + 1 := Heap.size_push ..
    have keep3 : ∀ b u, b ≠ P → sa.heap.get? b = some u → hb3.get? b = some u := fun b u hb e => hx b u hb (Heap.get?_push_of_some _ e)
    have nsA : sa.heap.Ns mainGlobals X.mg := Ia.mod.glob.keeps Ia.bk
    have ns3 : hb3.Ns mainGlobals X.mg := (nsA.push oi).extBut hx TB.gP
    refine wpAny_builtinsFor (m := X.mg) (by rw [Ia.ok.glob]; exact ns3) e1 e2 (keep3 _ _ e4 (Ia.bk _ _ e5)) e6 e7 e8 ?_
    refine ⟨sa.heap.objs.size, [sa.heap.objs.size], [sa.heap.objs.size], a.cps.size, SignAt a, St, (fun _ => true), (fun i y => ∃ cc, a.cps[i]? = some cc ∧ y = .bool (pb cc)), rfl, W, ?_, ?_, lim2.extBut hx hcP, ?_, ?_, ?_⟩
    · refine (W X.A hr.hd).frame _ _ _ hst fun b hb u e => hx b u (fun z => ?_) e
      rcases List.mem_cons.mp hb with zz | zz
      · exact Nat.ne_of_lt hPlt (z.symm.trans zz)
      · cases zz
    · intro b hb
      rcases List.mem_cons.mp hb with z | z
      · rw [z]
        show sa.heap.objs.size < hb3.objs.size
        omega
      · cases z
    · intro z
      rcases List.mem_cons.mp z with z | z
      · exact Nat.ne_of_lt hcl z
      · cases z
    · intro href hhref
      refine ⟨fun A' E' i v sx m₂ hA hPv hn hm hk => ?_, fun A' E' i v sx m₂ hA hPv hp hn hm hk => ?_⟩
      · simp only [List.forIn_nil]
        exact wpAny_pure ⟨rfl, keeps_refl _⟩
      · obtain ⟨cc, u, hcc, rfl⟩ := hPv
        have nsx : sx.heap.Ns mainGlobals X.mg := by
          have hlt : mainGlobals < sa.heap.objs.size := nsA.lt
          obtain ⟨og, es, ep, hg, rr⟩ := ns3
          refine ⟨og, es, ep, hk mainGlobals (List.mem_range.mpr (Heap.lt_size hg)) (fun z => ?_) og (hhref _ _ hg), rr⟩
          rcases List.mem_cons.mp z with z | z
          · exact Nat.ne_of_lt hlt z
          · cases z
        exact wpAny_mono (hel _ A' E' cc u sx m₂ hA rfl Ia.ok.glob nsx hn hm) (fun y sy r => ⟨⟨cc, hcc, r.1⟩, r.2⟩) fun _ _ e => e
    · intro g hb5 tk5 gs hgb hag hsz5 hk5 W5 hat
      simp only [GxR.passing_true, List.length_range] at W5
      refine hQ a Ha g _ qa ⟨_, _, _, _, _, W5.in4_1, hat, ?_, fun sw hm => ?_⟩
      · intro j y sj Qj Ej hy hQj
        obtain ⟨i, hij, cc, hcc, rfl⟩ := hy
        obtain ⟨hj, ej⟩ := List.getElem?_eq_some_iff.mp hij
        rw [List.getElem_range] at ej
        subst ej
        have e9 : a.cps.toList[j]? = some cc := by rw [Array.getElem?_toList]; exact hcc
        have hQ2 : Qj (trF pb a.cps.toList j) sj := hQj
        rw [trF_some e9] at hQ2
        exact wpAny_truthy_bool hQ2
      · obtain ⟨more, em⟩ := hmore
        have nwr : ∀ b u, sa.heap.get? b = some u → b ∉ hb3.objs.size :: [sa.heap.objs.size] := fun b u e hb => by
          have hl := Heap.lt_size e
          rcases List.mem_cons.mp hb with z | z
          · rw [z] at hl
            have h9 : (hb3.objs.size : Nat) < sa.heap.objs.size := hl
            omega
          · rcases List.mem_cons.mp z with z | z
            · rw [z] at hl
              exact Nat.lt_irrefl _ hl
            · cases z
        have J := inv_tab (more := more) (h' := sw.heap) (g' := sw.gens) (d' := sw.drawn) (t' := sw.toks) Ia hP (fun b u hb e => hm.heap b u (nwr b u e) (hk5 b u (keep3 b u hb e)))
          (by rw [← em]; exact hm.heap P _ (nwr P _ hPs) (hk5 P _ hP3)) (AllBare.movedS (Ia.bare.push hgb) hm)
        rw [sh_eta sa sw hm.os] at J
        refine ⟨upd Ha P (.tbl (tb ++ more)), ⟨⟨tb ++ more, upd_same, by rw [← em]; exact ht3⟩, fun b hb => upd_ne hb⟩, J⟩
  refine ⟨lim2, ?_⟩
  cases hf : codeAmong gpos tb.toList with
  | none =>
    refine wpAny_genexprCodeX hcode (cd.code hP2 ht) (cd.tab hP2) hf fun c' h' tk hx hge hlt hco' _ htab' _ => ?_
    obtain ⟨_, _, _, _, _, _, _, _, _, _, _, _, _, _, _, _, _, _, _, htr, _⟩ := hco'
    exact cont _ h' tk _ hx (Nat.le_trans hge (Nat.le_of_lt hlt)) htab'.2 ⟨_, rfl⟩ htr
  | some cv =>
    refine wpAny_genexprCode_hit hcode (cd.code hP2 ht) hf ?_
    exact cont cv (sa.heap.push oi) sa.toks tb (Heap.ExtBut.refl _ _) (Nat.le_refl _) hP2 ⟨#[], by simp⟩ ht
theorem pe_anyG {c P : Addr} {elt iter : Expr} {x : Str} {px p pos gpos : Pos} {sc : Scope} {pb : Nat → Bool} {te : TE} {k : Nat}
    (hr : Room k X.A) (hg : Gl X "any") (hm : X.mg "any" = none) (TB : GxR.TabB X.base X.mg c P) (hcode : X.env.code = .ref c) (S : GenS X.env sc x) (hi : PE X iter te) (hel : EltG X sc x elt pb)
    (hs : ∀ v, genFold iter X.env v = pure v)
    (he : starEach [.GeneratorExp elt [⟨.Name x px, iter, [], 0⟩] sc gpos] X.env = (false, eval (.GeneratorExp elt [⟨.Name x px, iter, [], 0⟩] sc gpos) X.env) :: starEach [] X.env := by rfl) :
    PE X (.Call (.Name "any" p) [.GeneratorExp elt [⟨.Name x px, iter, [], 0⟩] sc gpos] [] pos) (tAnyS P pb te) := by
  refine ⟨fun pins s σ H Q I h => ?_⟩
  refine wpAny_Call_Name_kw (ld_blt I hg hm boot_any (PyProof.Rows.callWith_builtin1 ?_ he (by rfl)))
  rw [he]
  show wpAny _ _ (spliced ((false, eval (.GeneratorExp elt [⟨.Name x px, iter, [], 0⟩] sc gpos) X.env) :: backTo pos (starEach [] X.env))) _ _ s
  refine Calls.spliced_cons (gen_strG (R := fun a Ha => ∀ Hb, Tabbed P Ha Hb → Q (.bl (a.cps.toList.any pb)) Hb) hr TB hcode S hi hel hs I h fun a Ha g z hR hG => ?_)
  obtain ⟨fp, wr, G, F, St, W, hst, htr, hI⟩ := hG
  refine Calls.spliced_nil (call_any_walkS (W.self 0 _ _ _ hst ⟨g, fp, wr, G, _, F, St, _, rfl, W, hst, htr, fun sw hmv => ?_⟩))
  obtain ⟨Hb, hT, J⟩ := hI sw hmv
  refine ⟨.bl _, Hb, J, rfl, ?_⟩
  rw [any_signs a pb]
  exact hR Hb hT
end
/-- x not in G, G a text of the module -/
theorem elt_ninG {X : Cx} {sc : Scope} {x g z : Str} {p1 p2 p3 : Pos} (hk : sc.kind = .function) (hl : sc.names.lookup x = some .local) (hg : sc.names.lookup g = some .globalImplicit) (hm : ∃ t, X.mg g = some (.str z t))
    (hd : (x == ("__debug__" : Str)) = false := by decide) (hd2 : (g == ("__debug__" : Str)) = false := by decide) : EltG X sc x (.Compare (.Name x p1) [.NotIn] [.Name g p2] p3) (fun c => !decide (c ∈ z.cps.toList)) := by
  intro ce A' E' c t zz m hA hsc hglo hns hn hx
  obtain ⟨tz, hm⟩ := hm
  refine wpAny_Compare1 ?_
  refine wpAny_Name (wpAny_loadName_local (by rw [hsc]; exact hk) (show ce.scope.names.lookup x = some .local by rw [hsc]; exact hl) hn hx ?_) hd
  refine Calls.Name_function_global (by rw [hsc]; exact hk) (show ce.scope.names.lookup g = some .globalImplicit by rw [hsc]; exact hg) (Calls.loadGlobal_global (by rw [hglo]; exact hns) hm ?_) hd2
  refine PySem.P.notIn_str ⟨?_, keeps_refl _⟩
  show Value.bool _ = Value.bool _
  rw [PySem.StrLaws.found_one]
/-! ### the steps -/
section
variable {K : PySem.W.Frag} {B H : Hp} {L L' : List (Addr × HO)} {I : List Im} {Q : VK} {σ : L2.St} {P : Addr} {tb : Array Value} {pb : Nat → Bool}
def kAny (P : Addr) (pb : Nat → Bool) (Q : VK) : VK := fun v Ha => ∃ a : Str, v = .str a ∧ TabG Ha P ∧ ∀ Hb, Tabbed P Ha Hb → Q (.bl (a.cps.toList.any pb)) Hb
theorem s_anyS {te : TE} (h : te σ H (kAny P pb Q)) : tAnyS P pb te σ H Q := h
theorem s_anyV {x : Str} (hC : Ctx K B H L I) (m : Pick (P, .tbl tb) L L') (f : Im.tri tb ∈ I) (k : ∀ tb' H1, Ctx K B H1 ((P, .tbl tb') :: L') (.tri tb' :: I) → Q (.bl (x.cps.toList.any pb)) H1) : kAny P pb Q (.str x) H := by
  have hC := hC.pick m
  refine ⟨x, rfl, ⟨tb, hC.get List.mem_cons_self, hC.tri f⟩, fun Hb hT => ?_⟩
  obtain ⟨⟨tb', h1, h2⟩, h3⟩ := hT
  exact k tb' Hb ((hC.but List.mem_cons_self .here rfl (fun b u n e => by rw [h3 b n]; exact e) h1).add (i := .tri tb') h2)
end
theorem tabG {base : Heap} {mg : Str → Option Value} {c P : Addr} (h : LamX.TabB base mg c P) : GxR.TabB base mg c P := ⟨h.code, h.bm, h.gP⟩
def genSB (sc : Scope) (x : Str) : Bool := decide (sc.kind = .function) && !sc.isCoroutine && sc.names.all (fun y => !decide (y.2 = .cell) && !decide (y.2 = .free)) && decide (sc.names.lookup (".0" : Str) = some NameKind.local) && decide (sc.names.lookup x = some .local)
theorem genS_by {env : Env} {sc : Scope} {x : Str} (h : genSB sc x = true) : GenS env sc x := by
  unfold genSB at h
  simp only [Bool.and_eq_true, Bool.not_eq_true', decide_eq_true_eq, decide_eq_false_iff_not, List.all_eq_true] at h
  obtain ⟨⟨⟨⟨h1, h2⟩, h3⟩, h4⟩, h5⟩ := h
  exact ⟨h1, h2, fun y hy => (h3 y hy).1, h4, h5, fun y hy e => absurd e (h3 y hy).2⟩
end Ph
namespace Ph
open PySem PySem.Spec PyProof.Rows L2
def gFld (K : PySem.W.Frag) (to : TE) (f : Str) : TG := fun v σ H Q => to σ H (kSetF K f Q σ v)
theorem pg_fld {X : Cx} {o : Expr} {ta : TE} {f : Str} {pos : Pos} (ha : PE X o ta) : PG X (.Attribute o f pos) (gFld X.K ta f) := by
  refine ⟨fun pins s σ H v u Q I r h => ?_⟩
  rw [assign_Attribute]
  refine wpAny_bind (wpAny_holding (thn (ha.run pins s σ H _ I h) fun ov s1 ⟨x, H1, I1, r1, q1⟩ => ?_))
  obtain ⟨a, C, dx, fs, rfl, ea, c, n, l, q2⟩ := q1
  obtain rfl : ov = Value.ref a := r1
  exact wpAny_bind (wpAny_standAt (wpAny_bind (wpAny_holding (setattr_ok I1 ea c n l r fun s3 I3 => wpAny_release ⟨σ, _, I3, q2⟩))))
section
variable {K : PySem.W.Frag} {B H : Hp} {L L' F : List (Addr × HO)} {I : List Im} {Q : VK} {σ : L2.St} {A Cb Dc : L2.St → Hp → Prop} {Bt : VK} {R : L2.St → Hp → Prop} {v : V}
theorem s_gfld {to : TE} {f : Str} (h : to σ H (kSetF K f R σ v)) : gFld K to f v σ H R := h
/-! pop -/
def kBm0 (K : PySem.W.Frag) (T : String) (r : V → List V → Hp → VK → Prop) (Q : VK) : VK := fun x H1 => tyV K T x H1 ∧ r x [] H1 Q
theorem s_bm0 {T : String} {r : V → List V → Hp → VK → Prop} {to : TE} (h : to σ H (kBm0 K T r Q)) : tBM0 K T r to σ H Q := h
theorem s_popL {l : Addr} {xs : List V} {y : V} (hC : Ctx K B H L I) (m : H l = some (.lst (xs ++ [y]))) (u : Up l (.lst xs) L L') (k : ∀ H1, Ctx K B H1 L' I → Q y H1) : kBm0 K "list" rPop Q (.ref l) H := by
  refine ⟨.inl ⟨rfl, _, SqL.of m⟩, l, xs ++ [y], y, rfl, rfl, m, by simp, ?_⟩
  rw [List.dropLast_concat]
  exact k _ (hC.put u rfl)
/-! split -/
abbrev rSplit1 : V → List V → Hp → VK → Prop := fun x xs H Q => ∃ a b, x = .str a ∧ xs = [.str b] ∧ (b.length == 0) = false ∧ a.length + 2 ≤ sizeLine ∧ rNewStrs (Txt.split a b) H Q
def kM1 (r : V → List V → Hp → VK → Prop) (te : TE) (σ : L2.St) (Q : VK) : VK := fun x H1 => (∃ a, x = .str a) ∧ te σ H1 fun y H2 => r x [y] H2 Q
theorem s_m1 {r : V → List V → Hp → VK → Prop} {to te : TE} (h : to σ H (kM1 r te σ Q)) : tM1 r to te σ H Q := h
theorem s_m1V {r : V → List V → Hp → VK → Prop} {te : TE} {a : Str} (h : te σ H fun y H2 => r (.str a) [y] H2 Q) : kM1 r te σ Q (.str a) H := ⟨⟨a, rfl⟩, h⟩
theorem s_split {a b : Str} (hC : Ctx K B H L I) (hb : (b.length == 0) = false) (hz : a.length ≤ 100000) (k : ∀ p H1, Ctx K B H1 ((p, .lst ((Txt.split a b).map V.str)) :: L) I → Q (.ref p) H1) : rSplit1 (.str a) [.str b] H Q :=
  ⟨a, b, rfl, rfl, hb, by rw [sizeLine_eq]; omega, fun p hp => k p _ (hC.newM hp rfl)⟩
/-! isinstance(x, str) -/
theorem s_isStrS {x : Str} (h : Q (.bl true) H) : rIsi K [.str x, .ty "str"] H Q := ⟨_, _, _, _, true, rfl, .ty _, .base (.str x), by rfl, h⟩
theorem s_isStrI {i : Int} (h : Q (.bl false) H) : rIsi K [.int i, .ty "str"] H Q := ⟨_, _, _, _, false, rfl, .ty _, .base (.int i), by rfl, h⟩
/-! cuts -/
theorem s_slS {z : Str} {lo hi : Option Int} (hz : z.length ≤ 100000) (h : Q (.str (cutS z lo hi)) H) : rSlU K (.str z) lo hi H Q := .inr (.inl ⟨z, rfl, Nat.le_trans hz (by decide), h⟩)
theorem s_slT1 {a : Addr} {x : V} {r : List V} (hC : Ctx K B H L I) (h : SqT K H a (x :: r)) (z : (x :: r).length ≤ 1000) (k : ∀ p H1, Ctx K B H1 L (.tup p r :: I) → Q (.ref p) H1) : rSlU K (.ref a) (some 1) none H Q := by
  have e1 : HT.sIx (x :: r).length 0 (some 1) = 1 := by
    unfold HT.sIx
    simp
  have e2 : HT.sIx (x :: r).length (x :: r).length none = (x :: r).length := by rfl
  have e : cutV (x :: r) (some 1) none = r := by
    unfold cutV
    rw [e1, e2, List.drop_succ_cons, List.drop_zero, List.length_cons, Nat.add_sub_cancel, List.take_length]
  refine .inr (.inr ⟨a, x :: r, rfl, h, fun z => ?_, fun p hp => ?_⟩)
  · rw [e1] at z
    exact absurd z.1 (by decide)
  · rw [e]
    exact k p _ (hC.newT hp)
theorem s_mulS {x : Str} {k : Int} (h1 : 2 ≤ k) (h2 : k ≤ 1000) (h3 : 1 ≤ x.length) (h4 : x.length ≤ 1000) (h : Q (.str (repS x k.toNat)) H) : rMulU (.str x) (.int k) H Q := ⟨h1, h2, h3, h4, h⟩
theorem s_ixS {z : Str} {i : Int} {c : Nat} (e : rIxS (.str z) (.int i) H Q) : rIxU K (.str z) (.int i) H Q := .inr (.inr (.inl e))
/-! an item of a list, the place not known -/
theorem atI_at {xs : List V} {r : Int} (h0 : 0 ≤ r) (h1 : r < xs.length) : ∃ v, atI xs r = some v ∧ v ∈ xs := by
  have hr : r.toNat < xs.length := by omega
  have e := atI_nat (xs := xs) (j := r.toNat) (v := xs[r.toNat]) (List.getElem?_eq_getElem hr)
  rw [Int.toNat_of_nonneg h0] at e
  exact ⟨_, e, List.getElem_mem hr⟩
theorem s_ixOne {l : Addr} {xs : List V} {r : Int} (m : H l = some (.lst xs)) (h0 : 0 ≤ r) (h1 : r < xs.length) (q : ∀ v, v ∈ xs → Q v H) : rIxU K (.ref l) (.int r) H Q := by
  obtain ⟨v, e, w⟩ := atI_at h0 h1
  exact s_ixL m e (q v w)
/-! while -/
theorem s_while {c : TT} {tb : TS} (Pv : L2.St → Hp → Prop) (μ : L2.St → Hp → Nat) (h0 : Pv σ H)
    (hs : ∀ σ H, Pv σ H → c σ H fun b H1 => if b = true then tb ⟨fun σ' H' => Pv σ' H' ∧ μ σ' H' < μ σ H, Bt, A, fun σ' H' => Pv σ' H' ∧ μ σ' H' < μ σ H⟩ σ H1 else A σ H1)
    (mono : ∀ σ H Q Q', (∀ b H1, Q b H1 → Q' b H1) → c σ H Q → c σ H Q') : tWhile c tb ⟨A, Bt, Cb, Dc⟩ σ H := while_by (D := ⟨A, Bt, Cb, Dc⟩) Pv μ h0 hs mono
/-! the teller at a lambda of a list -/
theorem s_toldV {CS : Addr} {ret q : Str} {n i : Nat} {fam : List LamD} {t : Nat → XK → TE} (f c : Addr) (k : Nat) (d : LamD) (hs : σ[i]? = some (some (.ref f))) (hj : fam[k]? = some d)
    (hf : H f = some (LamO f c q d.ps d.body d.sc)) (hc : H c = some (LamX.CodeO c q)) (h : t k (kTold K CS ret Q) (List.replicate n none) H Q) : tToldV K CS ret q n i fam t σ H Q := ⟨f, c, k, d, hs, hj, hf, hc, h⟩
end
theorem passLam {X : Cx} {A : Around} {outer : List Env} {s : Shared} {H : Hp} {E : XK} {scope : Scope} {f c' : Addr} : Passes (L2.CX X.prog X.w) (LamX.lamCx X A outer s H E scope f c') E := passes_call (takes_of rfl rfl rfl rfl) fun _ _ _ _ h => h
theorem passLam0 {X : Cx} {q : Str} {A : Around} {outer : List Env} {s : Shared} {H : Hp} {E : XK} {sc : Scope} {f c : Addr} : Passes (L2.CX X.prog X.w) (lamCx0 X q A outer s H E sc f c) E := passes_call (takes_of rfl rfl rfl rfl) fun _ _ _ _ h => h
section
variable {K : PySem.W.Frag} {H : Hp} {Q : VK}
theorem app_le10 {x y : Str} (hx : x.length ≤ 50000) (hy : y.length ≤ 50000) : (x ++ y).length ≤ 100000 := by
  rw [Str.length_append]
  omega
theorem app_le5 {x y : Str} (hx : x.length ≤ 20000) (hy : y.length ≤ 20000) : (x ++ y).length ≤ 50000 := by
  rw [Str.length_append]
  omega
theorem app_le2 {x y : Str} (hx : x.length ≤ 10000) (hy : y.length ≤ 10000) : (x ++ y).length ≤ 20000 := by
  rw [Str.length_append]
  omega
theorem app_le1 {x y : Str} (hx : x.length ≤ 5000) (hy : y.length ≤ 5000) : (x ++ y).length ≤ 10000 := by
  rw [Str.length_append]
  omega
theorem app_le05 {x y : Str} (hx : x.length ≤ 2500) (hy : y.length ≤ 2500) : (x ++ y).length ≤ 5000 := by
  rw [Str.length_append]
  omega
theorem s_addSS {i j : Str} (z1 : i.length ≤ 100000) (z2 : j.length ≤ 100000) (h : Q (.str (i ++ j)) H) : rAddU K (.str i) (.str j) H Q := ⟨Nat.le_trans (Nat.add_le_add z1 z2) (by decide), h⟩
theorem s_lenSS {z : Str} (m : z.length ≤ 100000) (h : Q (.int z.length) H) : rLenU K [.str z] H Q := s_lenS (Nat.le_trans m (by decide)) h
end
/-! lists: the last ones, all but the last -/
theorem TDs.drop {K : PySem.W.Frag} {H : Hp} : ∀ {vs : List V} {ds : List PyData} (n : Nat), TDs K H vs ds → TDs K H (vs.drop n) (ds.drop n)
  | _, _, 0, h => by rw [List.drop_zero, List.drop_zero]; exact h
  | _, _, _ + 1, .nil => .nil
  | _, _, n + 1, .cons _ t => by rw [List.drop_succ_cons, List.drop_succ_cons]; exact TDs.drop n t
theorem TDs.unsnoc {K : PySem.W.Frag} {H : Hp} {d : PyData} : ∀ {vs : List V} {ds : List PyData}, TDs K H vs (ds ++ [d]) → ∃ us v, vs = us ++ [v] ∧ TDs K H us ds ∧ TD K H v d
  | _, [], .cons h .nil => ⟨[], _, rfl, .nil, h⟩
  | _, e :: ds, .cons h t => by
    obtain ⟨us, v, rfl, q1, q2⟩ := TDs.unsnoc (ds := ds) t
    exact ⟨_ :: us, v, rfl, .cons h q1, q2⟩
theorem cutV_last {xs : List V} {k : Nat} (hk : 0 < k) : cutV xs (some (-(k : Int))) none = xs.drop (xs.length - k) := by
  have e1 : HT.sIx xs.length 0 (some (-(k : Int))) = xs.length - k := by
    show (if (-(k : Int)) < 0 then ((-(k : Int)) + (xs.length : Int)).toNat else min (-(k : Int)).toNat xs.length) = _
    rw [if_pos (by omega)]
    omega
  have e2 : HT.sIx xs.length xs.length none = xs.length := rfl
  unfold cutV
  rw [e1, e2]
  exact List.take_of_length_le (by rw [List.length_drop]; omega)
theorem cutV_init {xs : List V} {y : V} : cutV (xs ++ [y]) none (some (-1)) = xs := by
  have e1 : HT.sIx (xs ++ [y]).length 0 none = 0 := rfl
  have e2 : HT.sIx (xs ++ [y]).length (xs ++ [y]).length (some (-1)) = xs.length := by
    show (if ((-1 : Int)) < 0 then ((-1 : Int) + ((xs ++ [y]).length : Int)).toNat else min (-1 : Int).toNat (xs ++ [y]).length) = _
    rw [if_pos (by decide), List.length_append, List.length_singleton]
    omega
  unfold cutV
  rw [e1, e2, List.drop_zero, Nat.sub_zero, List.take_left]
/-! == of data -/
section
variable {K : PySem.W.Frag} {H : Hp} {Q : VK}
theorem eqv_nil {ds : List PyData} : PyData.eqv (.list ds) (.list []) = ds.isEmpty := by
  cases ds <;> simp [PyData.eqv, PyData.eqvAll]
theorem s_eqE {l m : Addr} {vs : List V} {ds : List PyData} (hl : H l = some (.lst vs)) (hm : H m = some (.lst [])) (h : TDs K H vs ds) (sh : ShL 50 ds) (k : Q (.bl ds.isEmpty) H) : rEqU K (.ref l) (.ref m) H Q :=
  s_eqD (Dp.lst (SqL.of hl) h.dp) (Dp.lst (SqL.of hm) .nil) (sh.list.shaped (by decide)) (by decide) (by rw [eqv_nil]; exact k)
theorem s_neE {l m : Addr} {vs : List V} {ds : List PyData} (hl : H l = some (.lst vs)) (hm : H m = some (.lst [])) (h : TDs K H vs ds) (sh : ShL 50 ds) (k : Q (.bl (!ds.isEmpty)) H) : rNeU K (.ref l) (.ref m) H Q :=
  s_neD (Dp.lst (SqL.of hl) h.dp) (Dp.lst (SqL.of hm) .nil) (sh.list.shaped (by decide)) (by decide) (by rw [eqv_nil]; exact k)
theorem s_neSame {x y : V} {d : PyData} (h1 : TD K H x d) (h2 : TD K H y d) (s : Sh 50 d) (k : Q (.bl false) H) : rNeU K x y H Q :=
  s_neD h1.dp h2.dp (s.shaped (by decide)) (s.shaped (by decide)) (by rw [eqv_self s]; exact k)
theorem s_eqSame {x y : V} {d : PyData} (h1 : TD K H x d) (h2 : TD K H y d) (s : Sh 50 d) (k : Q (.bl true) H) : rEqU K x y H Q :=
  s_eqD h1.dp h2.dp (s.shaped (by decide)) (s.shaped (by decide)) (by rw [eqv_self s]; exact k)
theorem s_neSameL {l m : Addr} {us vs : List V} {ds : List PyData} (hl : H l = some (.lst us)) (hm : H m = some (.lst vs)) (h1 : TDs K H us ds) (h2 : TDs K H vs ds) (s : ShL 50 ds) (k : Q (.bl false) H) : rNeU K (.ref l) (.ref m) H Q :=
  s_neD (Dp.lst (SqL.of hl) h1.dp) (Dp.lst (SqL.of hm) h2.dp) (s.list.shaped (by decide)) (s.list.shaped (by decide)) (by rw [eqv_self s.list]; exact k)
theorem ShL.mono {n m : Nat} {ds : List PyData} (h : ShL n ds) (z : n ≤ m) : ShL m ds := fun d hd => (h d hd).mono z
end
def mnI (i j : Int) : Int := if j < i then j else i
def mxI (i j : Int) : Int := if j > i then j else i
section
variable {H : Hp} {Q : VK} {i j : Int}
theorem s_max2N (h : Q (.int (mxI i j)) H) : rMax2 [.int i, .int j] H Q := s_max2 h
theorem s_min2N (h : Q (.int (mnI i j)) H) : rMin2 [.int i, .int j] H Q := s_min2 h
theorem mnI_le : mnI i j ≤ i ∧ mnI i j ≤ j ∧ (mnI i j = i ∨ mnI i j = j) := by
  unfold mnI
  split <;> omega
theorem mxI_ge : i ≤ mxI i j ∧ j ≤ mxI i j ∧ (mxI i j = i ∨ mxI i j = j) := by
  unfold mxI
  split <;> omega
end
section
variable {H : Hp} {σ : L2.St} {A Cb Dc : L2.St → Hp → Prop} {Bt : VK}
def kBody (W : Nat → L2.St → Hp → Prop) (m : Nat) (tb : TS) (A : L2.St → Hp → Prop) (Bt : VK) (σ : L2.St) (H : Hp) : Prop := ∃ N : L2.St → Hp → Prop, (∀ σ' H', N σ' H' → ∃ m', m' < m ∧ W m' σ' H') ∧ tb ⟨N, Bt, A, N⟩ σ H
theorem s_body {W : Nat → L2.St → Hp → Prop} {m : Nat} {tb : TS} (h : tb ⟨fun σ' H' => ∃ m', m' < m ∧ W m' σ' H', Bt, A, fun σ' H' => ∃ m', m' < m ∧ W m' σ' H'⟩ σ H) : kBody W m tb A Bt σ H := ⟨_, fun _ _ h => h, h⟩
theorem s_whileN {c : TT} {tb : TS} (W : Nat → L2.St → Hp → Prop) (m : Nat) (h0 : W m σ H) (hs : ∀ m σ H, W m σ H → c σ H fun b H1 => if b = true then kBody W m tb A Bt σ H1 else A σ H1) : tWhile c tb ⟨A, Bt, Cb, Dc⟩ σ H :=
  ⟨W, ⟨m, h0⟩, hs⟩
end
theorem s_iteNDT {p : Prop} [Decidable p] {X Y : Prop} (hp : ¬ p) (h : X) : if (!decide p) = true then X else Y := by
  rw [decide_eq_false hp]
  exact iteT h
theorem s_iteNDF {p : Prop} [Decidable p] {X Y : Prop} (hp : p) (h : Y) : if (!decide p) = true then X else Y := by
  rw [decide_eq_true hp]
  exact iteF h
theorem atI_last {us : List V} {v : V} : atI (us ++ [v]) (((us ++ [v]).length : Int) - 1) = some v := by
  have e : (((us ++ [v]).length : Int) - 1) = (us.length : Int) := by
    rw [List.length_append, List.length_singleton]
    omega
  rw [e]
  exact atI_nat (by simp)
theorem s_ixLast {K : PySem.W.Frag} {H : Hp} {Q : VK} {a : Addr} {us : List V} {v : V} (m : H a = some (.lst (us ++ [v]))) (q : Q v H) : rIxU K (.ref a) (.int (((us ++ [v]).length : Int) - 1)) H Q := s_ixL m atI_last q
theorem atI_head {us : List V} {v : V} : atI (v :: us) (0 : Int) = some v := atI_nat (j := 0) rfl
theorem s_ixHead {K : PySem.W.Frag} {H : Hp} {Q : VK} {a : Addr} {us : List V} {v : V} (m : H a = some (.lst (v :: us))) (q : Q v H) : rIxU K (.ref a) (.int 0) H Q := s_ixL m atI_head q
section
variable {K : PySem.W.Frag} {B H : Hp} {Q : VK} {σ : L2.St} {L : List (Addr × HO)} {I : List Im}
theorem s_neSs {i : Str} (h : Q (.bl false) H) : rNeU K (.str i) (.str i) H Q := s_neS (by rw [decide_eq_true rfl]; exact h)
theorem s_callD {sp : Sp} {vs dvs : List V} {E : XK} (h : sp (vs ++ dvs) H Q E) : kCall sp dvs E Q vs H := h
/-- a comprehension with a test over a list -/
theorem lc_lstT {a : Addr} {xs : List V} {g : TG} {tt : TT} {te : TE} {vs : List Nat} (hC : Ctx K B H L I) (Pv : Addr → Nat → Hp → Prop) (h0 : ∀ D H1, Ctx K B H1 ((D, .lst []) :: L) I → Pv D 0 H1) (hl : ∀ i D H, i ≤ xs.length → Pv D i H → H a = some (.lst xs))
    (hs : ∀ i x D H, xs[i]? = some x → Pv D i H → g x (wipe σ vs) H fun σ2 H2 => wipe σ2 vs = wipe σ vs ∧ tt σ2 H2 fun b H3 => if b = true then te σ2 H3 (kApp D (Pv D (i + 1))) else Pv D (i + 1) H3)
    (hd : ∀ D H, Pv D xs.length H → Q (.ref D) H) : kLc g tt te vs σ Q (Itl K a) H := fun D hD =>
  lc_list (K := K) (xs := xs) (g := g) (tt := tt) (te := te) (vs := vs) (σ := σ) (H1 := H) (D := D) (Qd := fun H => Q (.ref D) H) (fun i H => Pv D i H) (h0 D _ (hC.newM hD rfl)) (fun i H hi p => SqL.of (hl i D H hi p))
    (fun i x H hx p => hs i x D H hx p) (fun H p => hd D H p)
end
/-- some of what is known -/
inductive Subs (I : List Im) : List Im → Prop
  | nil : Subs I []
  | cons {x : Im} {r : List Im} : x ∈ I → Subs I r → Subs I (x :: r)
theorem Subs.sub {I : List Im} : ∀ {J : List Im}, Subs I J → ∀ j, j ∈ J → j ∈ I
  | _, .nil, j, h => by cases h
  | _, .cons m s, j, h => (List.mem_cons.mp h).elim (fun e => by rw [e]; exact m) (s.sub j)
theorem Ctx.sub {K : PySem.W.Frag} {B H : Hp} {L L' : List (Addr × HO)} {I J : List Im} (h : Ctx K B H L I) (y : Lay H L') (s : Subs I J) : Ctx K B H L' J := ⟨y, fun j hj => h.im j (s.sub j hj), h.sb⟩
theorem te_eq {t t' : TE} (e : t = t') {σ : L2.St} {H : Hp} {Q : VK} (h : t' σ H Q) : t σ H Q := by
  rw [e]
  exact h
end Ph
namespace Ph
open PySem PySem.Spec PyProof.Rows L2 GenW
/-- the context of a generator expression's frame -/
abbrev gxOf (X : Cx) (A : Around) (s : Shared) (H : Hp) (ce : Env) (fp : List Addr) (pn : List (Addr × Obj)) : Cx :=
  { X with A := A, s_0 := s, H_0 := H, env := ce, outer := X.stack, stack := ce :: X.stack, ex := fp, fn := fun _ => false, pn := pn, xe := fun _ _ => False }
abbrev gxEnv (X : Cx) (scope : Scope) (C : Addr) (code : Value) : Env := genEnv scope (cloFrom X.env.cells scope.names []) C code builtinsNs X.env
section
variable {X : Cx} {pins : List (Addr × Obj)} {σ : L2.St} {H : Hp} {s s2 : Shared}
theorem gx_start {scope : Scope} {own : List (Str × Nat)} {fp : List Addr} {A : Around} {code : Value} {m0 : Str → Option Value}
    (I : Inv X pins σ H s) (ok : BlkOk X.N X.env.scope scope own) (hnc : ∀ y ∈ scope.names, y.2 ≠ .cell) (hN : X.N.Nodup) (hfp : ∀ b ∈ fp, FpOk X pins H b ∧ b < s.heap.objs.size)
    (hA : A.handled = none) (hfr : A.frames = some (gxEnv X scope s.heap.objs.size code :: X.stack)) (hns : s2.heap.Ns s.heap.objs.size m0) (hk : ∀ b o, s.heap.get? b = some o → s2.heap.get? b = some o) (hos : s2.os = s.os) (hb : AllBare s2.gens) :
    Inv (gxOf X A s H (gxEnv X scope s.heap.objs.size code) fp []) [] (wipe σ (own.map (·.2))) H s2 := by
  have hfree : ∀ y ∈ scope.names, y.2 = .free → ∃ c, X.env.cells.lookup y.1 = some c := fun y hy e => by
    rcases ok.free y hy e with k | k
    · exact I.ok.has _ (.inl k)
    · exact I.ok.has _ (.inr k)
  generalize hcenv : gxEnv X scope s.heap.objs.size code = cenv
  have hL : cenv.locals = s.heap.objs.size := by rw [← hcenv]; rfl
  have hcl : cenv.cells = cloFrom X.env.cells scope.names [] := by rw [← hcenv]; rfl
  have hsc : cenv.scope = scope := by rw [← hcenv]; rfl
  have hfrm : cenv.frame = some s.heap.objs.size := by rw [← hcenv]; rfl
  have cm : ∀ {y c}, (y, c) ∈ cloFrom X.env.cells scope.names [] → X.env.cells.lookup y = some c ∧ c < s.heap.objs.size := fun {y c} hm => by
    rcases cloFrom_mem hm with hm | ⟨h1, rfl⟩
    · cases hm
    · obtain ⟨c, hc⟩ := hfree _ h1 rfl
      rw [hc]
      obtain ⟨w, z⟩ := I.cell _ _ hc
      exact ⟨rfl, z.lt⟩
  have mem : ∀ {y c}, cenv.cells.lookup y = some c → X.env.cells.lookup y = some c ∧ c < s.heap.objs.size := fun {y c} e => by
    rw [hcl] at e
    exact cm (PySem.mem_of_lookup e)
  have look : ∀ {y}, scope.names.lookup y = some .free → ∃ c, cenv.cells.lookup y = some c ∧ X.env.cells.lookup y = some c := fun {y} hl => by
    have hy : (y, NameKind.free) ∈ scope.names := PySem.mem_of_lookup hl
    obtain ⟨c', e'⟩ := mem_lookup (cloFrom_has (cells := X.env.cells) (acc := []) hy)
    rw [← hcl] at e'
    exact ⟨c', e', (mem e').1⟩
  have okB : (gxOf X A s H cenv fp []).Ok := by
    refine ⟨I.ok.mod, by show cenv.scope.kind = _; rw [hsc]; exact ok.kind, by show cenv.globals = _; rw [← hcenv]; exact I.ok.glob, by show cenv.builtins = _; rw [← hcenv]; rfl, by show s.heap.objs.size ≤ cenv.locals; rw [hL]; exact Nat.le_refl _,
      fun y z c e1 e2 => I.ok.inj y z c (mem e1).1 (mem e2).1, fun y hy => ?_, fun y c z e => (by cases z), fun _ => hA, by rw [← hcenv]; exact hfr, .inr ⟨rfl, by show cenv.frame = some cenv.locals; rw [hfrm, hL]⟩, fun b hb => ⟨?_, fun y c e z => ?_⟩, I.bs, Nat.le_trans I.ok.bsz I.sz, fun b o e hb => ?_, fun b hb z => ?_, I.stack, I.stkFree⟩
    · show ∃ c, cenv.cells.lookup y = some c
      have hy : cenv.scope.names.lookup y = some .cell ∨ cenv.scope.names.lookup y = some .free := hy
      rw [hsc] at hy
      rcases hy with hy | hy
      · exact absurd rfl (hnc _ (PySem.mem_of_lookup hy))
      · obtain ⟨c, h1, _⟩ := look hy
        exact ⟨c, h1⟩
    · show b ≠ cenv.locals
      rw [hL]; exact Nat.ne_of_lt (hfp b hb).2
    · have e : cenv.cells.lookup y = some c := e
      exact (hfp b hb).1.2.2.2.2.1 y c (mem e).1 z
    · rcases (hfp b hb).1.2.2.2.1 with z | z
      · exact I.ok.noex b o e z
      · exact absurd (Nat.lt_of_lt_of_le (Heap.lt_size e) (Nat.le_trans I.ok.bsz z)) (Nat.lt_irrefl _)
    · rcases List.mem_cons.mp (I.stkSub b z) with z | z
      · exact (hfp b hb).1.2.1 z
      · exact (hfp b hb).1.2.2.1 z
  refine ⟨okB, hos, hb, Un.kept hk, ⟨m0, by show s2.heap.Ns cenv.locals m0; rw [hL]; exact hns, fun i y av e1 e2 e3 => ?_⟩, fun y c e => ?_, ?_, fun y c e => ?_, fun p hp => ?_, I.hok.kept hk, by rw [wipe_length]; exact I.len⟩
  · obtain ⟨e2, hne⟩ := wipe_some e2
    have e3 : Vis cenv.scope y := e3
    rw [hsc] at e3
    have hfr : scope.names.lookup y = some .free := by
      rcases e3 with e3 | e3 | e3
      · rcases ok.own _ (PySem.mem_of_lookup e3) (.inl rfl) with e' | e'
        · obtain ⟨p, hp, hpy⟩ := List.mem_map.mp e'
          have e3 := ok.ix p hp
          have : p.1 = y := hpy
          rw [this] at e3
          exact absurd (List.mem_map.mpr ⟨p, hp, nodup_ix hN e3 e1⟩) hne
        · exact absurd (List.mem_of_getElem? e1) e'
      · exact absurd rfl (hnc _ (PySem.mem_of_lookup e3))
      · exact e3
    obtain ⟨m, hn, hl⟩ := I.loc
    have hvis : Vis X.env.scope y := (ok.free _ (PySem.mem_of_lookup hfr) rfl).elim (fun k => .inr (.inl k)) (fun k => .inr (.inr k))
    obtain ⟨w, r, q⟩ := hl i y av e1 e2 hvis
    refine ⟨w, r, .inr ⟨.inr (by show cenv.scope.names.lookup y = _; rw [hsc]; exact hfr), ?_⟩⟩
    obtain ⟨c, h1, h2⟩ := look hfr
    rcases q with ⟨k, _⟩ | ⟨_, c', e', z⟩
    · have k : X.env.scope.names.lookup y = some .local := k
      rcases ok.free _ (PySem.mem_of_lookup hfr) rfl with k' | k' <;> rw [show X.env.scope.names.lookup y = _ from k'] at k <;> cases k
    · rw [h2] at e'; cases e'
      exact ⟨c, h1, z.keeps hk⟩
  · have e : cenv.cells.lookup y = some c := e
    obtain ⟨w, z⟩ := I.cell y c (mem e).1
    exact ⟨w, z.keeps hk⟩
  · show H cenv.locals = none
    rw [hL]; exact I.hok.fresh (Nat.le_refl _)
  · have e : cenv.cells.lookup y = some c := e
    exact I.freeC y c (mem e).1
  · exact absurd (show p ∈ ([] : List (Addr × Obj)) ++ [] from hp) (by simp)
theorem gx_pinned {X : Cx} {A : Around} {s s1 : Shared} {H H' : Hp} {ce : Env} {fp : List Addr} {pn pins : List (Addr × Obj)} {σ : L2.St} (I : Inv (gxOf X A s H ce fp []) [] σ H' s1)
    (h : ∀ p ∈ pn ++ pins, s1.heap.get? p.1 = some p.2 ∧ H' p.1 = none ∧ p.1 ≠ ce.locals ∧ p.1 ∉ frs X.stack ∧ ∀ v, p.2.data ≠ .cell v) : Inv (gxOf X A s H ce fp pn) pins σ H' s1 :=
  ⟨⟨I.ok.mod, I.ok.kind, I.ok.glob, I.ok.blt, I.ok.above, I.ok.inj, I.ok.has, I.ok.cab, I.ok.hd, I.ok.frames, I.ok.stk, I.ok.exf, I.ok.bs, I.ok.bsz, I.ok.noex, I.ok.exfs, I.ok.funs, I.ok.frf⟩, I.os, I.bare, I.base, I.loc, I.cell, I.free, I.freeC, h, I.hok, I.len⟩
end
/-! ### the consumer's own object -/
/-- what is out stands in the consumer's object -/
abbrev OwnR := List V → Obj → Prop
structure SleptR (S : Addr) (RS : OwnR) (Cy : V → Prop) (y : V) (s s' : Shared) : Prop where
  go : Cy y
  os : s'.os = s.os
  bare : AllBare s'.gens
  keep : ∀ b o, b ≠ S → s.heap.get? b = some o → s'.heap.get? b = some o
  own : ∀ ys o, RS ys o → s.heap.get? S = some o → ∃ o', s'.heap.get? S = some o' ∧ RS (ys ++ [y]) o'
def GIR (X : Cx) (S : Addr) (RS : OwnR) (ip : List (Addr × Obj)) (ys : List V) (σ : L2.St) (H : Hp) (s : Shared) : Prop :=
  ∃ o, RS ys o ∧ Inv X ((S, o) :: ip) σ H s
theorem GIR.woken {X : Cx} {S : Addr} {RS : OwnR} {Cy : V → Prop} {ip : List (Addr × Obj)} {ys : List V} {y : V} {σ : L2.St} {H : Hp} {s s' : Shared} (hRS : ∀ ys o, RS ys o → ∀ v, o.data ≠ .cell v) (hpn : ∀ p ∈ X.pn, p.1 ≠ S) (hip : ∀ p ∈ ip, p.1 ≠ S) (hA : Apart X S)
    (h : GIR X S RS ip ys σ H s) (z : SleptR S RS Cy y s s') : GIR X S RS ip (ys ++ [y]) σ H s' := by
  obtain ⟨ob, r, I⟩ := h
  obtain ⟨eS, hS0, hSL, hSf, _⟩ := I.pin (S, ob) (List.mem_append_right _ List.mem_cons_self)
  have I0 : Inv X ip σ H s := I.pins_of fun p hp => I.pin p (List.mem_append_right _ (List.mem_cons_of_mem _ hp))
  have nt : ∀ b u, H b = some u → b ≠ S := fun b u q hb => by rw [hb, hS0] at q; cases q
  obtain ⟨_, z1, z2, z3, z4⟩ := z
  obtain ⟨ob', eS', r'⟩ := z4 ys ob r eS
  obtain ⟨hh, g, d, t, o⟩ := s'
  have ho : o = s.os := z1
  subst ho
  have nc : ∀ b, b ∉ [S] → b ≠ S := fun b hb e => hb (by rw [e]; exact List.mem_singleton.mpr rfl)
  have J : Inv X ip σ H { s with heap := hh, gens := g, drawn := d, toks := t } := by
    refine I0.step (g' := g) (t' := t) (d' := d) (ch := [S]) (fun b hb => ?_)
      (fun b ob _ _ hc q _ => z3 b ob (nc b hc) q) (fun b ob _ _ hc q _ => ⟨ob.slots, z3 b ob (nc b hc) q⟩) (fun _ _ _ _ n => n) (fun b ob hc q => ⟨ob, z3 b ob (nc b hc) q⟩)
      (fun _ _ q => q) (fun _ _ _ q => q) (fun b ps q => ⟨#[], by rw [q]; simp⟩) (fun m hm => ?_) (fun b u q => ?_) z2
    · rw [List.mem_singleton.mp hb]
      refine ⟨.inr hA.1, hA.2.1, hA.2.2, fun p hp => ?_⟩
      rcases List.mem_append.mp hp with hp | hp
      · exact hpn p hp
      · exact hip p hp
    · obtain ⟨ob, es, ep, ho, r⟩ := hm
      exact ⟨ob, es, ep, z3 _ ob (Ne.symm hSL) ho, r⟩
    · refine (I0.hok b u q).stay (fun c v hc y => z3 c v ?_ y) (fun _ y => y) fun _ _ y => y
      rcases hc with y | y
      · rw [y]; exact nt b u q
      · exact nt c _ y
  refine ⟨ob', r', J.pins_of fun p hp => ?_⟩
  rcases List.mem_cons.mp hp with hp | hp
  · rw [hp]
    exact ⟨eS', hS0, hSL, hSf, hRS _ _ r'⟩
  · exact J.pin p (List.mem_append_right _ hp)
/-! ### the turns -/
/-- what a turn of the generator does: Pf what is out is known of by the consumer as it goes on, Pd at the end -/
def GW (J : It) (g : TG) (tt : TT) (te : TE) (vs : List Nat) (σ : L2.St) (Cy : V → Prop) (Py : List V → V → Hp → Prop) (Pd : List V → Hp → Prop) (W : Nat → Nat → List V → Hp → Prop) : Prop :=
  ∀ i m ys H, W i m ys H → (J.stop i H ∧ Pd ys H) ∨ (J.go i H ∧ ∃ Nx : List V → Hp → Prop, (∀ ys' H', Nx ys' H' → ∃ m', m' < m ∧ W (i + 1) m' ys' H') ∧ ∀ x H', J.yld i H x H' → g x (wipe σ vs) H' fun σ2 H2 => wipe σ2 vs = wipe σ vs ∧ tt σ2 H2 fun b H3 =>
    if b = true then te σ2 H3 fun y H4 => ys.length < sizeLine ∧ Py ys y H4 ∧ (Cy y → Nx (ys ++ [y]) H4) else Nx ys H3)
abbrev gexp (elt tg iter : Expr) (ifs : List Expr) (scope : Scope) (pos : Pos) : Expr := .GeneratorExp elt [⟨tg, iter, ifs, 0⟩] scope pos
abbrev gexN (elt tg iter : Expr) (ifs : List Expr) (rest : List Comprehension) (scope : Scope) (pos : Pos) : Expr := .GeneratorExp elt (⟨tg, iter, ifs, 0⟩ :: rest) scope pos
theorem over_gen {A : Around} {elt tg iter : Expr} {ifs : List Expr} {rest : List Comprehension} {scope : Scope} {pos : Pos} {it : Value} {ce : Env} : A.over (.compLoop (gexN elt tg iter ifs rest scope pos) 0 it .none ce) [] = A.deeper ce := by
  first
    | rfl
    | (obtain ⟨hd, d, fr, gs, u⟩ := A; simp [Around.over, Around.deeper, marksOver, frameCount, unitsOf, envsOf, guardsOf, pushEnvs, pushGuards, Code.envs, Code.env?, Code.isFrame, Code.guards, Code.isGuard, Code.weight, Code.frames, Code.isCreation, Code.isCaller, Code.cUnits])
section
variable {X : Cx} {S : Addr} {RS : OwnR} {s3 : Shared} {H3 : Hp} {ce : Env} {fp : List Addr} {pn : List (Addr × Obj)} {Aw : Around} {elt tg iter : Expr} {ifs : List Expr} {scope : Scope} {pos : Pos} {it : Addr} {tn : Nat → Heap → Prop} {J : It} {g : TG} {tt : TT} {te : TE} {vs : List Nat} {σ : L2.St}
  {Cy : V → Prop} {Py : List V → V → Hp → Prop} {Pd : List V → Hp → Prop} {W : Nat → Nat → List V → Hp → Prop} {R : GenEnd} {YP : Protocol}
theorem seg_gx (hc : X.calm = true) (hco : ce.scope.isCoroutine = false) (T : Turn X.prog X.w X.K tg J fp it tn) (pg : PG (gxOf X (Aw.deeper ce) s3 H3 ce fp pn) tg g) (pt : PTs (gxOf X (Aw.deeper ce) s3 H3 ce fp pn) ifs tt) (pe : PE (gxOf X (Aw.deeper ce) s3 H3 ce fp pn) elt te)
    (hturn : GW J g tt te vs σ Cy Py Pd W) (hRS : ∀ ys o, RS ys o → ∀ v, o.data ≠ .cell v) (hpn : ∀ p ∈ pn, p.1 ≠ S ∧ ∀ b ∈ fp, p.1 ≠ b) (hS : ∀ b ∈ fp, b ≠ S) (hA : Apart (gxOf X (Aw.deeper ce) s3 H3 ce fp pn) S)
    (hR : ∀ n s₀ ys ip σ' H' s', n + ys.length = sizeLine → GIR (gxOf X (Aw.deeper ce) s3 H3 ce fp pn) S RS ip ys σ' H' s' → Pd ys H' → R n s₀ (.ok .next) s')
    (hY : ∀ n s₀ ys y v ip σ' H' s' kap, n + 1 + ys.length = sizeLine → RelV y v → GIR (gxOf X (Aw.deeper ce) s3 H3 ce fp pn) S RS ip ys σ' H' s' → Py ys y H' → (∀ s'', SleptR S RS Cy y s' s'' → kap (.send .none) s'') → YP n s₀ v s' kap) :
    ∀ (m i n : Nat) (ys : List V) (s₀ s : Shared) (H : Hp), n + ys.length = sizeLine → W i m ys H → tn i s.heap → (∀ b ∈ fp, H b = none) → GIR (gxOf X (Aw.deeper ce) s3 H3 ce fp pn) S RS [] ys (wipe σ vs) H s →
      Seg (model X.prog X.w) Aw R YP n s₀ (.compLoop (gexp elt tg iter ifs scope pos) 0 (.ref it) .none ce) ((model X.prog X.w).den (.compLoop (gexp elt tg iter ifs scope pos) 0 (.ref it) .none ce)) [] s := by
  intro m
  induction m using Nat.strongRecOn with
  | ind m ih =>
    intro i n ys s₀ s H hn w5 st5 n5 hG
    obtain ⟨ob, rs, I5⟩ := hG
    have stat : ∀ {σ' : L2.St} {H' : Hp} {s' : Shared} {o' : Obj}, Inv (gxOf X (Aw.deeper ce) s3 H3 ce fp pn) [(S, o')] σ' H' s' → (∀ b ∈ fp, H' b = none) → ∀ b ∈ fp, FpOk (gxOf X (Aw.deeper ce) s3 H3 ce fp pn) [(S, o')] H' b := fun {σ' H' s' o'} I' hn b hb =>
      ⟨hn b hb, (I'.ok.exf b hb).1, I'.ok.exfs b hb, .inl hb, fun x c e => (I'.ok.exf b hb).2 x c e, fun p hp => by
        rcases List.mem_append.mp hp with z | z
        · exact (hpn p z).2 b hb
        · rw [List.mem_singleton.mp z]
          exact Ne.symm (hS b hb)⟩
    show Seg _ Aw _ _ _ s₀ _ ((compTurn (gexp elt tg iter ifs scope pos) 0 (.ref it) .none ce).onRaise (leaving ce)) [] s
    rw [compTurn_gen, Sem.onRaise_eq_wrap]
    refine seg_bind_wrap (wpAny_standAt ?_)
    rcases hturn i m ys H w5 with ⟨stop, qq⟩ | ⟨go, Nx, hNx, step⟩
    · refine seg_bind_wrap ?_
      rw [over_gen]
      have td := T.done (gxOf X (Aw.deeper ce) s3 H3 ce fp pn) rfl rfl rfl hc i _ s _ H (fun _ _ => False) I5 (stat I5 n5) st5 stop
      refine thnF td fun r s6 ⟨hr, I6⟩ => ?_
      subst hr
      exact seg_end (.ok .next) (hR n s₀ ys [] _ H s6 hn ⟨ob, rs, I6⟩ qq)
    · refine seg_bind_wrap ?_
      rw [over_gen]
      have ti := T.item (gxOf X (Aw.deeper ce) s3 H3 ce fp pn) rfl rfl rfl hc i _ s _ H (fun _ _ => False) I5 (stat I5 n5) st5 go
      refine thnF ti fun r s6 ⟨u, hr, h6⟩ => ?_
      subst hr
      refine seg_bind_wrap ?_
      rw [over_gen]
      refine thnF h6 fun _ s7 ⟨x, H7, I7, r7, y7, st7, n7⟩ => ?_
      have I7' := I7.pinned (stat I7 n7) (T.obj _ _ st7)
      refine seg_bind_wrap ?_
      rw [over_gen]
      refine thnF (pg.run _ s7 _ H7 x u _ I7' r7 (step x H7 y7)) fun _ s8 ⟨σ8, H8, I8, hw8, q8⟩ => ?_
      refine seg_bind_wrap ?_
      rw [over_gen]
      refine thnF (pt.run _ s8 σ8 H8 _ I8 q8) fun b s9 ⟨H9, I9, q9⟩ => ?_
      have fin : ∀ {s₀ s' : Shared} {H' : Hp} {o' : Obj} {ys' : List V} {n' : Nat}, n' + ys'.length = sizeLine → RS ys' o' → Inv (gxOf X (Aw.deeper ce) s3 H3 ce fp pn) ([(S, o')] ++ pinsAt fp s7.heap) σ8 H' s' → Nx ys' H' →
          Seg (model X.prog X.w) Aw R YP n' s₀ (.compLoop (gexp elt tg iter ifs scope pos) 0 (.ref it) .none ce) ((model X.prog X.w).den (.compLoop (gexp elt tg iter ifs scope pos) 0 (.ref it) .none ce)) [] s' := fun {s₀ s' H' o' ys' n'} hn' rs' I' nx => by
        obtain ⟨m', hm, w'⟩ := hNx ys' H' nx
        have pin' : ∀ b ∈ fp, ∀ o, s7.heap.get? b = some o → s'.heap.get? b = some o ∧ H' b = none := fun b hb o e =>
          let z := I'.pin (b, o) (List.mem_append_right _ (List.mem_append_right _ (mem_pinsAt hb e)))
          ⟨z.1, z.2.1⟩
        have hl : (wipe σ vs).length = σ8.length := by rw [← hw8, wipe_length]
        refine ih m' hm (i + 1) n' ys' s₀ s' H' hn' w' (T.keep _ _ _ st7 fun b hb o e => (pin' b hb o e).1) (fun b hb => ?_) ⟨o', rs', (I'.unpinned (pins := [(S, o')])).weak hl (fun j v e => ?_)⟩
        · obtain ⟨o, e, _⟩ := T.obj _ _ st7 b hb
          exact (pin' b hb o e).2
        · rw [← hw8] at e
          exact (wipe_some e).1
      cases b with
      | false =>
        simp only [Bool.false_eq_true, if_false] at q9 ⊢
        exact seg_again rfl (fin hn rs I9 q9)
      | true =>
        simp only [if_true] at q9 ⊢
        have hy : ∀ v, yieldOut ce v = yieldValue v := fun v => by simp only [yieldOut, hco, Bool.false_eq_true, if_false]
        simp only [hy]
        rw [Sem.bind_eq_wrap', Sem.bind_eq_wrap', Sem.wrap_wrap, Sem.wrap_wrap]
        refine seg_wrap ?_
        rw [over_gen]
        refine thnF (pe.run _ s9 σ8 H9 _ I9 q9) fun z s10 ⟨yv, H10, I10, r10, hlt, py, nx⟩ => ?_
        obtain ⟨n, rfl⟩ : ∃ k, n = k + 1 := ⟨n - 1, by omega⟩
        have G10 : GIR (gxOf X (Aw.deeper ce) s3 H3 ce fp pn) S RS (pinsAt fp s7.heap) ys σ8 H10 s10 := ⟨ob, rs, I10⟩
        refine seg_at (seg_yield rfl rfl rfl (hY n s₀ ys yv z _ σ8 H10 s10 _ hn r10 G10 py fun s'' zz => ?_))
        obtain ⟨o', rs', I''⟩ := G10.woken hRS (fun p hp => (hpn p hp).1) (fun p hp => hS _ (of_pinsAt hp).1) hA zz
        refine seg_again rfl (fin (by rw [List.length_append, List.length_singleton]; omega) rs' I'' (nx zz.go))
end
end Ph
namespace Ph
open PySem PySem.Spec PyProof.Rows L2 GenW
/-- the end, as the frame that made it sees it -/
def REG (X : Cx) (pins : List (Addr × Obj)) (σ : L2.St) (S a : Addr) (gi : Nat) (RS : OwnR) (Pd : List V → Hp → Prop) : GenEnd := fun n s₀ r s1 =>
  r = .ok .next ∧ ∃ ys H' o, n + ys.length = sizeLine ∧ Inv X pins σ H' s1 ∧ s1.heap.get? S = some o ∧ RS ys o ∧ H' S = none ∧ s1.heap.IsGen a gi ∧ Pd ys H'
/-- an item is handed out -/
def YEG (X : Cx) (pins : List (Addr × Obj)) (σ : L2.St) (S a : Addr) (gi : Nat) (RS : OwnR) (Cy : V → Prop) (Py : List V → V → Hp → Prop) : Protocol := fun n s₀ v s1 kap =>
  ∃ ys y H' o, n + 1 + ys.length = sizeLine ∧ RelV y v ∧ Inv X pins σ H' s1 ∧ s1.heap.get? S = some o ∧ RS ys o ∧ H' S = none ∧ s1.heap.IsGen a gi ∧ Py ys y H' ∧ ∀ s', SleptR S RS Cy y s1 s' → kap (.send .none) s'
/-- a generator that has not begun -/
def MadeX (X : Cx) (k : Nat) (pins : List (Addr × Obj)) (σ : L2.St) (Cy : V → Prop) (Py : List V → V → Hp → Prop) (Pd : List V → Hp → Prop) (u : Value) (s' : Shared) : Prop :=
  ∃ (a : Addr) (gi : Nat) (c : Code) (go : Obj) (H' : Hp), u = .ref a ∧ Inv X pins σ H' s' ∧ s'.heap.get? a = some go ∧ (∀ h : Heap, h.get? a = some go → h.IsGen a gi) ∧ (∀ v, go.data ≠ .cell v) ∧ s'.gens[gi]? = some (.fresh c) ∧ H' a = none ∧
    ∀ (A : Around) (S : Addr) (RS : OwnR) (s2 : Shared) (o : Obj), Room k A → A.frames = some X.stack → ((S = a ∧ ∀ ys o, RS ys o → o = go) ∨ s'.heap.objs.size ≤ S) → (∀ ys o, RS ys o → ∀ v, o.data ≠ .cell v) → (∀ b o, s'.heap.get? b = some o → s2.heap.get? b = some o) →
      s2.heap.get? S = some o → RS [] o → s2.os = s'.os → AllBare s2.gens →
      Seg (model X.prog X.w) A (REG X pins σ S a gi RS Pd) (YEG X pins σ S a gi RS Cy Py) sizeLine s2 c ((model X.prog X.w).den c) [] s2
/-- the names of a generator expression's block -/
structure GenSX (sc : Scope) : Prop where
  co : sc.isCoroutine = false
  cell : ∀ y ∈ sc.names, y.2 ≠ .cell
  dot : sc.names.lookup (".0" : Str) = some NameKind.local
def tGenX (P : Addr) (wi : TI) (g : TG) (tt : TT) (te : TE) (vs : List Nat) (Cy : V → Prop) (Py : List V → V → Hp → Prop) (Pd : List V → Hp → Prop) (σ : L2.St) (H : Hp) : Prop :=
  wi σ H fun J H1 => GxR.TabG H1 P ∧ ∀ H2, GxR.Tabbed P H1 H2 → ∃ W : Nat → Nat → List V → Hp → Prop, (∃ m, W 0 m [] H2) ∧ GW J g tt te vs σ Cy Py Pd W
theorem eval_GeneratorExpN (elt target iter : Expr) (ifs : List Expr) (rest : List Comprehension) (scope : Scope) (pos : Pos) (env : Env) (hco : scope.isCoroutine = false) :
    eval (.GeneratorExp elt (⟨target, iter, ifs, 0⟩ :: rest) scope pos) env = (do
      let x ← eval iter env
      standAt iter.pos
      let x ← genFold iter env x
      let it ← holding [x] (pyIter x)
      enterFrame
      let cl ← closureFor scope env
      let code ← genexprCode env pos (env.qual ++ "<genexpr>") scope
      let bi ← builtinsFor env.globals env.builtins
      let cenv ← newFunctionEnv scope env.globals cl [(".0", it)] (env.qual ++ "<genexpr>.") none code none bi
      newGenerator (.compStart (.GeneratorExp elt (⟨target, iter, ifs, 0⟩ :: rest) scope pos) 0 it .none cenv) "<genexpr>" (env.qual ++ "<genexpr>")) := by
  rw [arm_eval_GeneratorExp]
  simp only [hco, Bool.false_eq_true, if_false]
  cases iter <;> rfl
theorem wpAny_GeneratorExp_makeN {M : Model} {A : Around} {E : Value → Shared → Prop} {s : Shared} {env : Env} {elt target iter : Expr} {ifs : List Expr} {rest : List Comprehension} {scope : Scope} {cl : List (Str × Addr)} {pos : Pos} {Q : Value → Shared → Prop}
    (hco : scope.isCoroutine = false) (hclos : closureFor scope env = pure cl) (hcell : ∀ y ∈ scope.names, y.2 ≠ .cell) (h0 : scope.names.lookup (".0" : Str) = some NameKind.local) (hkind : scope.kind = .function)
    (hroom : A.depth < recursionLimit)
    (h : wpAny M A (eval iter env) (fun xv s₁ => wpAny M A (pyIter xv) (fun it s₂ => s₂.heap.NoLimit ∧
      wpAny M A (genexprCode env pos (env.qual ++ "<genexpr>") scope) (fun code s₃ => wpAny M A (builtinsFor env.globals env.builtins) (fun bi s₄ =>
        ∀ h', h'.Ns s₄.heap.objs.size (fun y => if y = ".0" then some it else none) → Heap.SameBut s₄.heap.objs.size (s₄.heap.push { cls := .type "frame", data := .dict #[] }) h' →
          Q (.ref h'.objs.size) { s₄ with
            gens := s₄.gens.push (.fresh (.compStart (.GeneratorExp elt (⟨target, iter, ifs, 0⟩ :: rest) scope pos) 0 it .none (genEnv scope cl s₄.heap.objs.size code bi env))),
            toks := s₄.toks + 1 + 1 + 1,
            heap := h'.push { cls := .type "generator", data := .fields #[.int s₄.gens.size 0, .str "<genexpr>" (s₄.toks + 1), .str (env.qual ++ "<genexpr>") (s₄.toks + 1 + 1)] } }) E s₃) E s₂) E s₁) E s)
    (hs : ∀ x, genFold iter env x = pure x) :
    wpAny M A (eval (.GeneratorExp elt (⟨target, iter, ifs, 0⟩ :: rest) scope pos) env) Q E s := by
  rw [eval_GeneratorExpN _ _ _ _ _ _ _ _ hco, hclos]
  refine wpAny_bind (wpAny_mono h (fun xv s₁ h₁ => ?_) fun _ _ e => e)
  refine wpAny_bind (wpAny_standAt ?_)
  refine wpAny_bind (wpAny_of_eq (hs xv) ?_)
  refine wpAny_bind (wpAny_holding (wpAny_mono h₁ (fun it s₂ h₂ => ?_) fun _ _ e => e))
  refine wpAny_bind (wpAny_enterFrame h₂.1 hroom ?_)
  refine wpAny_bind (wpAny_pure ?_)
  refine wpAny_bind (wpAny_mono h₂.2 (fun code s₃ h₃ => ?_) fun _ _ e => e)
  refine wpAny_bind (wpAny_mono h₃ (fun bi s₄ h₄ => ?_) fun _ _ e => e)
  have hbinds : ∀ y ∈ ([((".0" : Str), it)] : List (Str × Value)), scope.names.lookup y.1 = some NameKind.local := by
    intro y hy
    rcases List.mem_cons.mp hy with rfl | hy
    · exact h0
    · cases hy
  refine wpAny_bind (wpAny_newFunctionEnv hcell hbinds (fun h' hn' hs' => ?_) hkind)
  have e : (fun y : Str => ([((".0" : Str), it)] : List (Str × Value)).reverse.lookup y) = fun y : Str => if y = (".0" : Str) then some it else none := by
    funext y
    by_cases hy : y = ".0"
    · subst hy; simp
    · have : (y == (".0" : Str)) = false := by simpa using hy
      simp [List.lookup, this, hy]
  rw [e] at hn'
  simp only [newGenerator, newFields]
  refine wpAny_bind (wpAny_newGen (wpAny_bind (wpAny_mkText (wpAny_bind (wpAny_mkText (wpAny_newObj_type ?_ (by size_fits)))))))
  exact h₄ h' hn' hs'
/-- the loop of a generator's block, from its first turn: Gj what is known of its iterator -/
def LoopX (X : Cx) (k : Nat) (σ : L2.St) (elt tg iter : Expr) (ifs : List Expr) (rest : List Comprehension) (scope : Scope) (gpos : Pos) (vs : List Nat) (Gj : It → Hp → Prop) (Cy : V → Prop) (Py : List V → V → Hp → Prop) (Pd : List V → Hp → Prop) : Prop :=
  ∀ (Aw : Around) (S : Addr) (RS : OwnR) (s3 : Shared) (H3 : Hp) (C : Addr) (code : Value) (fp : List Addr) (pn : List (Addr × Obj)) (it : Addr) (tn : Nat → Heap → Prop) (J : It) (R : GenEnd) (YP : Protocol), Room k (Aw.deeper (gxEnv X scope C code)) → Turn X.prog X.w X.K tg J fp it tn →
    (∀ ys o, RS ys o → ∀ v, o.data ≠ .cell v) → (∀ p ∈ pn, p.1 ≠ S ∧ ∀ b ∈ fp, p.1 ≠ b) → (∀ b ∈ fp, b ≠ S) → Apart (gxOf X (Aw.deeper (gxEnv X scope C code)) s3 H3 (gxEnv X scope C code) fp pn) S →
    (∀ n s₀ ys ip σ' H' s', n + ys.length = sizeLine → GIR (gxOf X (Aw.deeper (gxEnv X scope C code)) s3 H3 (gxEnv X scope C code) fp pn) S RS ip ys σ' H' s' → Pd ys H' → R n s₀ (.ok .next) s') →
    (∀ n s₀ ys y v ip σ' H' s' kap, n + 1 + ys.length = sizeLine → RelV y v → GIR (gxOf X (Aw.deeper (gxEnv X scope C code)) s3 H3 (gxEnv X scope C code) fp pn) S RS ip ys σ' H' s' → Py ys y H' → (∀ s'', SleptR S RS Cy y s' s'' → kap (.send .none) s'') → YP n s₀ v s' kap) →
    ∀ (s₀ s : Shared) (H : Hp), Gj J H → tn 0 s.heap → (∀ b ∈ fp, H b = none) → GIR (gxOf X (Aw.deeper (gxEnv X scope C code)) s3 H3 (gxEnv X scope C code) fp pn) S RS [] [] (wipe σ vs) H s →
      Seg (model X.prog X.w) Aw R YP sizeLine s₀ (.compLoop (gexN elt tg iter ifs rest scope gpos) 0 (.ref it) .none (gxEnv X scope C code)) ((model X.prog X.w).den (.compLoop (gexN elt tg iter ifs rest scope gpos) 0 (.ref it) .none (gxEnv X scope C code))) [] s
section
variable {X : Cx} {pins : List (Addr × Obj)} {σ : L2.St} {H : Hp} {s : Shared}
theorem gen_madeN {c P : Addr} {elt tg iter : Expr} {ifs : List Expr} {rest : List Comprehension} {scope : Scope} {own : List (Str × Nat)} {gpos : Pos} {wi : TI} {Gj : It → Hp → Prop} {k : Nat} {Cy : V → Prop} {Py : List V → V → Hp → Prop} {Pd : List V → Hp → Prop} {Qz : Value → Shared → Prop}
    (hr : Room k X.A) (hN : X.N.Nodup) (TB : GxR.TabB X.base X.mg c P) (hcode : X.env.code = .ref c) (S : GenSX scope) (hi : PI X tg iter wi) (ok : BlkOk X.N X.env.scope scope own)
    (hl : LoopX X k σ elt tg iter ifs rest scope gpos (own.map (·.2)) Gj Cy Py Pd)
    (hs : ∀ v, genFold iter X.env v = pure v) (I : Inv X pins σ H s) (h : wi σ H fun J H1 => GxR.TabG H1 P ∧ ∀ H2, GxR.Tabbed P H1 H2 → Gj J H2)
    (hQ : ∀ u z, MadeX X (k + 1) pins σ Cy Py Pd u z → Qz u z) :
    wpAny (model X.prog X.w) X.A (eval (gexN elt tg iter ifs rest scope gpos) X.env) Qz X.xe s := by
  have hfree : ∀ y ∈ scope.names, y.2 = .free → ∃ c, X.env.cells.lookup y.1 = some c := fun y hy e => by
    rcases ok.free y hy e with k | k
    · exact I.ok.has _ (.inl k)
    · exact I.ok.has _ (.inr k)
  refine wpAny_GeneratorExp_makeN S.co (closure_ok hfree) S.cell S.dot ok.kind (by have := hr.dp; omega) ?_ hs
  refine thn (hi.run pins s σ H _ I h) fun xv s1 hx => thn hx fun itv s2 h2 => ?_
  obtain ⟨it, fp, tn, J, H2, rfl, I2, T, st2, f2, ⟨tb, hP, ht0⟩, q⟩ := h2
  have hPs : s2.heap.get? P = some { cls := .none, data := .fields tb } := I2.hok P _ hP
  have hPlt : P < s2.heap.objs.size := Heap.lt_size hPs
  have cd : PySem.W.CodeHd s2.heap c P := TB.code.keeps fun b u e => I2.bk b u e
  have lim2 : s2.heap.NoLimit := I2.nolimit
  have cont : ∀ (code : Value) (h3 : Heap) (tk : Nat) (tb2 : Array Value), Heap.ExtBut P s2.heap h3 → s2.heap.objs.size ≤ h3.objs.size → h3.get? P = some { cls := .none, data := .fields tb2 } → (∃ more, tb2 = tb ++ more) → TriplesOk tb2.toList →
      wpAny (model X.prog X.w) X.A (builtinsFor X.env.globals X.env.builtins) (fun bi s₄ =>
        ∀ h', h'.Ns s₄.heap.objs.size (fun y => if y = ".0" then some (.ref it) else none) → Heap.SameBut s₄.heap.objs.size (s₄.heap.push { cls := .type "frame", data := .dict #[] }) h' →
          Qz (.ref h'.objs.size) { s₄ with
            gens := s₄.gens.push (.fresh (.compStart (gexN elt tg iter ifs rest scope gpos) 0 (.ref it) .none (genEnv scope (cloFrom X.env.cells scope.names []) s₄.heap.objs.size code bi X.env))),
            toks := s₄.toks + 1 + 1 + 1,
            heap := h'.push { cls := .type "generator", data := .fields #[.int s₄.gens.size 0, .str "<genexpr>" (s₄.toks + 1), .str (X.env.qual ++ "<genexpr>") (s₄.toks + 1 + 1)] } }) X.xe { s2 with heap := h3, toks := tk } := by
    intro code h3 tk tb2 hx hsz hP3 hmore ht3
    obtain ⟨more, em⟩ := hmore
    obtain ⟨bm, ob, e1, e2, e3, e4, e5, e6, e7, e8⟩ := TB.bm
    have ns3 : h3.Ns mainGlobals X.mg := (I2.mod.glob.keeps I2.bk).extBut hx TB.gP
    refine wpAny_builtinsFor (m := X.mg) (by rw [I2.ok.glob]; exact ns3) e1 e2 (hx _ _ e4 (I2.bk _ _ e5)) e6 e7 e8 ?_
    have I3 : Inv X pins σ (upd H2 P (.tbl (tb ++ more))) { s2 with heap := h3, toks := tk } :=
      GxR.inv_tab (more := more) (h' := h3) (g' := s2.gens) (d' := s2.drawn) (t' := tk) I2 hP (fun b u hb e => hx b u hb e) (by rw [← em]; exact hP3) I2.bare
    have hT : GxR.Tabbed P H2 (upd H2 P (.tbl (tb ++ more))) := ⟨⟨tb ++ more, upd_same, by rw [← em]; exact ht3⟩, fun b hb => upd_ne hb⟩
    have w0 := q _ hT
    have hfpP : ∀ b ∈ fp, b ≠ P := fun b hb z => by
      have := (f2 b hb).1
      rw [z, hP] at this; cases this
    have st3 : tn 0 h3 := T.keep _ _ _ st2 fun b hb o e => hx b o (hfpP b hb) e
    have f3 : ∀ b ∈ fp, FpOk X pins (upd H2 P (.tbl (tb ++ more))) b ∧ b < h3.objs.size := fun b hb => by
      obtain ⟨o, e, _⟩ := T.obj _ _ st2 b hb
      exact ⟨⟨by rw [upd_ne (hfpP b hb)]; exact (f2 b hb).1, (f2 b hb).2⟩, Nat.lt_of_lt_of_le (Heap.lt_size e) hsz⟩
    generalize hs3 : ({ s2 with heap := h3, toks := tk } : Shared) = s3 at I3
    generalize hH3 : upd H2 P (.tbl (tb ++ more)) = H3 at I3 w0 f3
    have eh : s3.heap = h3 := by rw [← hs3]
    rw [← eh] at st3 f3
    intro h' hn' hs'
    have keep' : ∀ b o, s3.heap.get? b = some o → h'.get? b = some o := fun b o e => hs'.extBut b o (Nat.ne_of_lt (Heap.lt_size e)) (Heap.get?_push_of_some _ e)
    have sz' : h'.objs.size = s3.heap.objs.size + 1 := by rw [hs'.1, Heap.size_push]
    have main : ∀ (go : Obj) (tk2 : Nat), (∀ h : Heap, h.get? h'.objs.size = some go → h.IsGen h'.objs.size s3.gens.size) → (∀ v, go.data ≠ .cell v) → (h'.push go).get? h'.objs.size = some go →
        Qz (.ref h'.objs.size) { s3 with gens := s3.gens.push (.fresh (.compStart (gexN elt tg iter ifs rest scope gpos) 0 (.ref it) .none (gxEnv X scope s3.heap.objs.size code))), toks := tk2, heap := h'.push go } := by
      intro go tk2 hgen hcell hpushed
      have keep5 : ∀ b o, s3.heap.get? b = some o → (h'.push go).get? b = some o := fun b o e => Heap.get?_push_of_some _ (keep' b o e)
      have I5 : Inv X pins σ H3 { s3 with gens := s3.gens.push (.fresh (.compStart (gexN elt tg iter ifs rest scope gpos) 0 (.ref it) .none (gxEnv X scope s3.heap.objs.size code))), toks := tk2, heap := h'.push go } :=
        I3.call' (ch := []) rfl (Un.kept keep5) (I3.hok.kept keep5) (AllBare.push I3.bare rfl) fun b z => by simp at z
      have young : ∀ b, s3.heap.objs.size < b → H3 b = none ∧ b ≠ s3.heap.objs.size ∧ b ∉ frs X.stack := fun b hb => ⟨I3.hok.fresh (Nat.le_of_lt hb), Nat.ne_of_gt hb, fun z => by
        rcases List.mem_cons.mp (I3.stkSub b z) with z | z
        · rw [z] at hb
          exact absurd (Nat.lt_trans hb I3.lt) (Nat.lt_irrefl _)
        · exact I3.nofs (Nat.le_of_lt hb) z⟩
      have hza : s3.heap.objs.size < h'.objs.size := by rw [sz']; exact Nat.lt_succ_self _
      refine hQ _ _ ⟨h'.objs.size, s3.gens.size, _, go, H3, rfl, I5, hpushed, hgen, hcell, Array.getElem?_push_size .., (young _ hza).1, ?_⟩
      intro A Sx RS sw o hrA hfrA hSx hRS hkw hSo hRS0 hosw hbw
      have hkw3 : ∀ b o, s3.heap.get? b = some o → sw.heap.get? b = some o := fun b o e => hkw b o (keep5 b o e)
      have hSy : s3.heap.objs.size < Sx := by
        rcases hSx with ⟨z, _⟩ | z
        · rw [z]; exact hza
        · have z : (h'.push go).objs.size ≤ Sx := z
          rw [Heap.size_push] at z
          omega
      have I6 := gx_start (s := s3) (s2 := sw) (A := A.deeper (gxEnv X scope s3.heap.objs.size code)) (code := code) (m0 := fun y => if y = ".0" then some (.ref it) else none) I3 ok S.cell hN f3 hrA.hd (by show (A.frames.map _) = _; rw [hfrA]; rfl)
        ((hn'.push go).keeps hkw) hkw3 hosw hbw
      have hcell' : ∀ v, o.data ≠ .cell v := hRS _ _ hRS0
      have hea : sw.heap.get? h'.objs.size = some go := hkw _ go hpushed
      -- what is pinned beside the consumer's object
      obtain ⟨pn, hpn1, hpn2, hgp⟩ : ∃ pn : List (Addr × Obj), (∀ p ∈ pn, p = (h'.objs.size, go)) ∧ (∀ p ∈ pn, p.1 ≠ Sx) ∧
          (∀ {ip : List (Addr × Obj)} {ys : List V} {s' : Shared} {σ' : L2.St} {H' : Hp}, GIR (gxOf X (A.deeper (gxEnv X scope s3.heap.objs.size code)) s3 H3 (gxEnv X scope s3.heap.objs.size code) fp pn) Sx RS ip ys σ' H' s' → s'.heap.IsGen h'.objs.size s3.gens.size) := by
        rcases hSx with ⟨z, hz⟩ | z
        · refine ⟨[], fun p hp => absurd hp (by simp), fun p hp => absurd hp (by simp), fun {ip ys s' σ' H'} hI => ?_⟩
          obtain ⟨o', r', J'⟩ := hI
          have e := (J'.pin (Sx, o') (List.mem_append_right _ List.mem_cons_self)).1
          rw [hz _ _ r', z] at e
          exact hgen _ e
        · refine ⟨[(h'.objs.size, go)], fun p hp => List.mem_singleton.mp hp, fun p hp => ?_, fun {ip ys s' σ' H'} hI => ?_⟩
          · rw [List.mem_singleton.mp hp]
            have z : (h'.push go).objs.size ≤ Sx := z
            rw [Heap.size_push] at z
            exact Nat.ne_of_lt z
          · obtain ⟨o', r', J'⟩ := hI
            exact hgen _ (J'.pin (h'.objs.size, go) (List.mem_append_left _ (List.mem_singleton.mpr rfl))).1
      have hG : GIR (gxOf X (A.deeper (gxEnv X scope s3.heap.objs.size code)) s3 H3 (gxEnv X scope s3.heap.objs.size code) fp pn) Sx RS [] [] (wipe σ (own.map (·.2))) H3 sw := by
        refine ⟨o, hRS0, gx_pinned I6 fun p hp => ?_⟩
        rcases List.mem_append.mp hp with z | z
        · rw [hpn1 p z]
          obtain ⟨y1, y2, y3⟩ := young _ hza
          exact ⟨hea, y1, y2, y3, hcell⟩
        · rw [List.mem_singleton.mp z]
          obtain ⟨y1, y2, y3⟩ := young _ hSy
          exact ⟨hSo, y1, y2, y3, hcell'⟩
      have hAp : Apart (gxOf X (A.deeper (gxEnv X scope s3.heap.objs.size code)) s3 H3 (gxEnv X scope s3.heap.objs.size code) fp pn) Sx :=
        ⟨Nat.le_of_lt hSy, (young _ hSy).2.1, fun x cc e z => by
          obtain ⟨v, ob, ho, _⟩ := I6.cell x cc e
          have hl : ∃ v, s3.heap.IsCell cc v := by
            have e : (cloFrom X.env.cells scope.names []).lookup x = some cc := e
            rcases cloFrom_mem (PySem.mem_of_lookup e) with hm | ⟨h1, h2⟩
            · cases hm
            · obtain ⟨c2, hc2⟩ := hfree _ h1 rfl
              have hc2 : X.env.cells.lookup x = some c2 := hc2
              rw [hc2] at h2
              have h2 : cc = c2 := h2
              rw [h2]
              exact I3.cell _ _ hc2
          obtain ⟨v2, z2⟩ := hl
          have := z2.lt
          rw [z] at this
          exact absurd (Nat.lt_trans this hSy) (Nat.lt_irrefl _)⟩
      have back : ∀ {ip : List (Addr × Obj)} {ys : List V} {s' : Shared} {σ' : L2.St} {H' : Hp}, GIR (gxOf X (A.deeper (gxEnv X scope s3.heap.objs.size code)) s3 H3 (gxEnv X scope s3.heap.objs.size code) fp pn) Sx RS ip ys σ' H' s' →
          ∃ o, Inv X pins σ H' s' ∧ s'.heap.get? Sx = some o ∧ RS ys o ∧ H' Sx = none := fun {ip ys s' σ' H'} hI => by
        obtain ⟨o', r', J'⟩ := hI
        obtain ⟨p1, p2, _⟩ := J'.pin (Sx, o') (List.mem_append_right _ List.mem_cons_self)
        exact ⟨o', I3.call' (ch := fp) J'.os J'.base J'.hok J'.bare fun b hb => ⟨(f3 b hb).1.2.2.2.1, (f3 b hb).1.2.1, (f3 b hb).1.2.2.2.2.1, (f3 b hb).1.2.2.2.2.2⟩, p1, r', p2⟩
      have hfa : ∀ b ∈ fp, b ≠ h'.objs.size := fun b hb => Nat.ne_of_lt (Nat.lt_trans (f3 b hb).2 hza)
      have rd : Room k (A.deeper (gxEnv X scope s3.heap.objs.size code)) := hrA.deeper _
      have loop : ∀ s₀, Seg (model X.prog X.w) A (REG X pins σ Sx h'.objs.size s3.gens.size RS Pd) (YEG X pins σ Sx h'.objs.size s3.gens.size RS Cy Py) sizeLine s₀ (.compLoop (gexN elt tg iter ifs rest scope gpos) 0 (.ref it) .none (gxEnv X scope s3.heap.objs.size code)) ((model X.prog X.w).den (.compLoop (gexN elt tg iter ifs rest scope gpos) 0 (.ref it) .none (gxEnv X scope s3.heap.objs.size code))) [] sw := fun s₀ =>
        hl A Sx RS s3 H3 s3.heap.objs.size code fp pn it tn J _ _ rd T hRS (fun p hp => ⟨hpn2 p hp, fun b hb => by rw [hpn1 p hp]; exact Ne.symm (hfa b hb)⟩)
          (fun b hb => Nat.ne_of_lt (Nat.lt_trans (f3 b hb).2 hSy)) hAp
          (fun n s₀ ys ip σ' H' s' hn hI hd => by
            obtain ⟨o', j1, j2, j3, j4⟩ := back hI
            exact ⟨rfl, ys, H', o', hn, j1, j2, j3, j4, hgp hI, hd⟩)
          (fun n s₀ ys y v ip σ' H' s' kap hn rv hI hp hk => by
            obtain ⟨o', j1, j2, j3, j4⟩ := back hI
            exact ⟨ys, y, H', o', hn, rv, j1, j2, j3, j4, hgp hI, hp, hk⟩)
          s₀ sw H3 w0 (T.keep _ _ _ st3 fun b _ o e => hkw3 b o e) (fun b hb => (f3 b hb).1.1) hG
      show Seg _ A _ _ _ sw _ ((compStart (gexN elt tg iter ifs rest scope gpos) 0 (.ref it) .none (gxEnv X scope s3.heap.objs.size code)).onRaise (leaving (gxEnv X scope s3.heap.objs.size code))) [] sw
      unfold compStart
      rw [Sem.onRaise_eq_wrap]
      show Seg _ A _ _ _ sw _ ((ask >>= _).wrap _ _ _ _) [] sw
      refine seg_bind_wrap (wpAny_askSetting ?_)
      have stw : tn 0 sw.heap := T.keep _ _ _ st3 fun b _ o e => hkw3 b o e
      split
      · exact seg_again rfl (loop sw)
      · first
          | exact seg_bind_wrap (wpAny_rule (seg_bind_wrap (wpAny_standAt (seg_bind_wrap (T.self _ 0 sw _ _ stw (seg_again rfl (loop sw)))))))
          | (refine seg_bind_wrap (wpAny_rule ?_); show Seg _ A _ _ _ sw _ ((standAt iter.pos >>= _).wrap _ _ _ _) [] sw; exact seg_bind_wrap (wpAny_standAt (seg_bind_wrap (T.self _ 0 sw _ _ stw (seg_again rfl (loop sw))))))
    exact main _ _ (fun h e => ⟨_, _, _, e, rfl, rfl, rfl⟩) (fun v z => by cases z) (Heap.get?_push_size _ rfl)
  refine ⟨lim2, ?_⟩
  cases hf : codeAmong gpos tb.toList with
  | none =>
    refine wpAny_genexprCodeX hcode (cd.code hPs ht0) (cd.tab hPs) hf fun c' h' tk hx hge hlt hco' _ htab' _ => ?_
    obtain ⟨_, _, _, _, _, _, _, _, _, _, _, _, _, _, _, _, _, _, _, htr, _⟩ := hco'
    exact cont _ h' tk _ hx (Nat.le_trans hge (Nat.le_of_lt hlt)) htab'.2 ⟨_, rfl⟩ htr
  | some cv =>
    refine wpAny_genexprCode_hit hcode (cd.code hPs ht0) hf ?_
    exact cont cv s2.heap s2.toks tb (Heap.ExtBut.refl _ _) (Nat.le_refl _) hPs ⟨#[], by simp⟩ ht0
theorem loop1 {elt tg iter : Expr} {ifs : List Expr} {scope : Scope} {gpos : Pos} {g : TG} {tt : TT} {te : TE} {vs : List Nat} {k : Nat} {Cy : V → Prop} {Py : List V → V → Hp → Prop} {Pd : List V → Hp → Prop} (hc : X.calm = true) (hco : scope.isCoroutine = false)
    (hg : ∀ (A : Around) (s : Shared) (H : Hp) (C : Addr) (code : Value) (fp : List Addr) (pn : List (Addr × Obj)), Room k A → PG (gxOf X A s H (gxEnv X scope C code) fp pn) tg g)
    (ht : ∀ (A : Around) (s : Shared) (H : Hp) (C : Addr) (code : Value) (fp : List Addr) (pn : List (Addr × Obj)), Room k A → PTs (gxOf X A s H (gxEnv X scope C code) fp pn) ifs tt)
    (he : ∀ (A : Around) (s : Shared) (H : Hp) (C : Addr) (code : Value) (fp : List Addr) (pn : List (Addr × Obj)), Room k A → PE (gxOf X A s H (gxEnv X scope C code) fp pn) elt te) :
    LoopX X k σ elt tg iter ifs [] scope gpos vs (fun J H2 => ∃ W : Nat → Nat → List V → Hp → Prop, (∃ m, W 0 m [] H2) ∧ GW J g tt te vs σ Cy Py Pd W) Cy Py Pd := by
  intro Aw S RS s3 H3 C code fp pn it tn J R YP rd T hRS hpn hS hA hR hY s₀ s H ⟨W, ⟨m0, w0⟩, hW⟩ st hn hG
  exact seg_gx (X := X) (S := S) (RS := RS) (s3 := s3) (H3 := H3) (fp := fp) (pn := pn) hc hco T (hg _ s3 H3 _ code fp pn rd) (ht _ s3 H3 _ code fp pn rd) (he _ s3 H3 _ code fp pn rd) hW hRS hpn hS hA hR hY m0 0 sizeLine [] s₀ s H rfl w0 st hn hG
theorem gen_made {c P : Addr} {elt tg iter : Expr} {ifs : List Expr} {scope : Scope} {own : List (Str × Nat)} {gpos : Pos} {wi : TI} {g : TG} {tt : TT} {te : TE} {k : Nat} {Cy : V → Prop} {Py : List V → V → Hp → Prop} {Pd : List V → Hp → Prop} {Qz : Value → Shared → Prop}
    (hr : Room k X.A) (hc : X.calm = true) (hN : X.N.Nodup) (TB : GxR.TabB X.base X.mg c P) (hcode : X.env.code = .ref c) (S : GenSX scope) (hi : PI X tg iter wi) (ok : BlkOk X.N X.env.scope scope own)
    (hg : ∀ (A : Around) (s : Shared) (H : Hp) (C : Addr) (code : Value) (fp : List Addr) (pn : List (Addr × Obj)), Room k A → PG (gxOf X A s H (gxEnv X scope C code) fp pn) tg g)
    (ht : ∀ (A : Around) (s : Shared) (H : Hp) (C : Addr) (code : Value) (fp : List Addr) (pn : List (Addr × Obj)), Room k A → PTs (gxOf X A s H (gxEnv X scope C code) fp pn) ifs tt)
    (he : ∀ (A : Around) (s : Shared) (H : Hp) (C : Addr) (code : Value) (fp : List Addr) (pn : List (Addr × Obj)), Room k A → PE (gxOf X A s H (gxEnv X scope C code) fp pn) elt te)
    (hs : ∀ v, genFold iter X.env v = pure v) (I : Inv X pins σ H s) (h : tGenX P wi g tt te (own.map (·.2)) Cy Py Pd σ H)
    (hQ : ∀ u z, MadeX X (k + 1) pins σ Cy Py Pd u z → Qz u z) :
    wpAny (model X.prog X.w) X.A (eval (gexp elt tg iter ifs scope gpos) X.env) Qz X.xe s :=
  gen_madeN hr hN TB hcode S hi ok (loop1 hc S.co hg ht he) hs I h hQ
end
end Ph
namespace Ph
open PySem PySem.Spec PyProof.Rows L2 GenW
section
variable {X : Cx} {pins : List (Addr × Obj)} {σ : L2.St} {S a : Addr} {gi : Nat} {RS : OwnR} {Cy : V → Prop} {Py : List V → V → Hp → Prop} {Pd : List V → Hp → Prop} {A : Around} {E : Value → Shared → Prop}
theorem Inv.gens' {H : Hp} {s : Shared} {h' : Heap} {G : Array GenState} {tk : Nat} (I : Inv X pins σ H s) (hk : ∀ b o, s.heap.get? b = some o → h'.get? b = some o) (hG : AllBare G) : Inv X pins σ H { s with gens := G, heap := h', toks := tk } :=
  I.call' (ch := []) rfl (Un.kept hk) (I.hok.kept hk) hG fun b z => by simp at z
abbrev GoesX (X : Cx) (A : Around) (pins : List (Addr × Obj)) (σ : L2.St) (S a : Addr) (gi : Nat) (RS : OwnR) (Cy : V → Prop) (Py : List V → V → Hp → Prop) (Pd : List V → Hp → Prop) (gs : GenState) (n : Nat) (s : Shared) : Prop :=
  gs.Goes (model X.prog X.w) A (REG X pins σ S a gi RS Pd) (YEG X pins σ S a gi RS Cy Py) n (.send .none) (s.setGen gi .running)
theorem next_X {n : Nat} {s : Shared} {gs : GenState} {Q : Option Value → Shared → Prop} (hh : A.handled = none) (hd : A.depth < recursionLimit) (hl : s.heap.NoLimit) (hg : s.heap.IsGen a gi) (hgs : s.gens[gi]? = some gs)
    (hgo : GoesX X A.in1 pins σ S a gi RS Cy Py Pd gs n s)
    (hY : ∀ ys y v H' o s1 gs', n + ys.length = sizeLine ∨ n = 0 → RelV y v → Inv X pins σ H' s1 → s1.heap.get? S = some o → RS ys o → H' S = none → s1.heap.IsGen a gi → s1.gens[gi]? = some gs' → Py ys y H' →
      (∀ s2, SleptR S RS Cy y s1 s2 → ∃ m, n = m + 1 ∧ GoesX X A.in1 pins σ S a gi RS Cy Py Pd gs' m s2) → Q (some v) s1)
    (hP : ∀ ys H' o s1, ys.length ≤ sizeLine → Inv X pins σ H' s1 → s1.heap.get? S = some o → RS ys o → H' S = none → Pd ys H' → Q none s1) :
    wpAny (model X.prog X.w) A (pyNext (.ref a)) Q E s := by
  have hgl : gi < s.gens.size := (Array.getElem?_eq_some_iff.mp hgs).1
  refine wpAny_gsz (n := gi + 1) hgl (wpAny_pyNext_genexpQ (P := fun n _ s1 => ∃ (ys : List V) (H' : Hp) (o : Obj), n + ys.length = sizeLine ∧ Inv X pins σ H' s1 ∧ s1.heap.get? S = some o ∧ RS ys o ∧ H' S = none ∧ s1.heap.IsGen a gi ∧ Pd ys H') hh hl hd hg hgs hgo (fun v s1 gs' hb hv => ?_) fun s1 hp h' hk => ?_)
  · intro hsz
    obtain ⟨ys, y, H', o, hn, rv, I1, eS, rs, hS0, hg1, py, hk⟩ := hv
    have hsz1 : gi < s1.gens.size := by
      have q : (s1.setGen gi gs').gens.size = s1.gens.size := setGen_size _ _ _
      have hsz' : gi + 1 ≤ (s1.setGen gi gs').gens.size := hsz
      omega
    have I2 : Inv X pins σ H' (s1.setGen gi gs') := Inv.gens' (tk := s1.toks) I1 (fun _ _ e => e) (allBare_setGen I1.bare hb)
    refine hY ys y v H' o (s1.setGen gi gs') gs' (by omega) rv I2 eS rs hS0 hg1 (setGen_at hsz1) py fun s2 z => ?_
    have z' : SleptR S RS Cy y s1 (s2.setGen gi .running) := ⟨z.go, z.os, allBare_setGen z.bare rfl, z.keep, z.own⟩
    have q := hk _ z'
    cases n with
    | zero => exact False.elim q
    | succ m => exact ⟨m, rfl, q⟩
  · intro hsz
    obtain ⟨ys, H', o, hn, I1, eS, rs, hS0, hg1, pd⟩ := hp
    exact hP ys H' o _ (by omega) (Inv.gens' (s := s1) (h' := h') (G := (s1.setGen gi .finished).gens) (tk := s1.toks) I1 hk (allBare_setGen I1.bare rfl)) (hk _ _ eS) rs hS0 pd
/-! ### any, all -/
theorem any_loopX {R : Result → Shared → Prop} {go : Obj} {b0 : Bool} {nm : String} (hnm : (b0 = true ∧ nm = "any.loop") ∨ (b0 = false ∧ nm = "all.loop")) (hh : A.handled = none) (hd : A.depth < recursionLimit)
    (hR : ∀ b H' s', Inv X pins σ H' s' → ((b = b0 ∧ ∃ ys, Py ys (.bl b) H') ∨ (b = !b0 ∧ ∃ ys, Pd ys H')) → R (.ok (.ret (.bool b))) s')
    (hPy : ∀ ys y H', Py ys y H' → ∃ b, y = .bl b) :
    ∀ (m : Nat) (s : Shared), s.heap.IsGen a gi → s.heap.get? a = some go → s.heap.NoLimit →
      (∃ gs, s.gens[gi]? = some gs ∧ GoesX X A.in1.in1 pins σ a a gi (fun _ o => o = go) (fun y => y = .bl (!b0)) Py Pd gs m s) →
      codeAny (model X.prog X.w) A (.builtin nm ⟨[.ref a], []⟩) R s := by
  intro m
  induction m with
  | zero =>
    intro s hg ha hl ⟨gs, hgs, hgo⟩
    have key : ∀ (Q : Option Value → Shared → Prop) (E : Value → Shared → Prop), (∀ v s1, (∃ b ys H', v = .bool b ∧ Inv X pins σ H' s1 ∧ Py ys (.bl b) H' ∧ b = b0) → Q (some v) s1) → (∀ s1, (∃ ys H', Inv X pins σ H' s1 ∧ Pd ys H') → Q none s1) → wpAny (model X.prog X.w) A.in1 (pyNext (.ref a)) Q E s := fun Q E h1 h2 => by
      refine next_X (A := A.in1) hh hd hl hg hgs hgo (fun ys y v H' o s1 gs' _ rv I1 eS rs _ _ _ py hk => ?_) fun ys H' o s1 _ I1 _ _ _ pd => h2 s1 ⟨ys, H', I1, pd⟩
      obtain ⟨b, rfl⟩ := hPy ys y H' py
      have rv' : v = .bool b := rv
      by_cases hb : b = b0
      · exact h1 v s1 ⟨b, ys, H', rv', I1, py, hb⟩
      · obtain ⟨m, hm, _⟩ := hk s1 ⟨by cases b <;> cases b0 <;> simp_all, rfl, I1.bare, fun _ _ _ e => e, fun ys o r e => ⟨o, e, r⟩⟩
        cases hm
    rcases hnm with ⟨rfl, rfl⟩ | ⟨rfl, rfl⟩
    · refine codeAny_builtin F.entry_any_loop ?_
      rw [Around.under_plainId F.plain_any_loop _]
      show wpAny _ A.in1 (pyNext (.ref a) >>= _) _ _ s
      refine wpAny_bind (key _ _ (fun v s1 ⟨b, ys, H', e, I1, py, hb⟩ => ?_) fun s1 ⟨ys, H', I1, pd⟩ => ?_)
      · subst e; subst hb
        refine wpAny_bind (wpAny_holding (wpAny_truthy_bool ?_))
        refine wpAny_bind (wpAny_letGo ?_)
        simp only [if_true]
        exact wpAny_bind (wpAny_rule (wpAny_pure (hR true H' s1 I1 (.inl ⟨rfl, ys, py⟩))))
      · exact wpAny_bind (wpAny_rule (wpAny_pure (hR false H' s1 I1 (.inr ⟨rfl, ys, pd⟩))))
    · refine codeAny_builtin F.entry_all_loop ?_
      rw [Around.under_plainId F.plain_all_loop _]
      show wpAny _ A.in1 (pyNext (.ref a) >>= _) _ _ s
      refine wpAny_bind (key _ _ (fun v s1 ⟨b, ys, H', e, I1, py, hb⟩ => ?_) fun s1 ⟨ys, H', I1, pd⟩ => ?_)
      · subst e; subst hb
        refine wpAny_bind (wpAny_holding (wpAny_truthy_bool ?_))
        refine wpAny_bind (wpAny_letGo ?_)
        simp only [Bool.false_eq_true, if_false]
        exact wpAny_bind (wpAny_rule (wpAny_pure (hR false H' s1 I1 (.inl ⟨rfl, ys, py⟩))))
      · exact wpAny_bind (wpAny_rule (wpAny_pure (hR true H' s1 I1 (.inr ⟨rfl, ys, pd⟩))))
  | succ m ih =>
    intro s hg ha hl ⟨gs, hgs, hgo⟩
    have key : ∀ (Q : Option Value → Shared → Prop) (E : Value → Shared → Prop), (∀ v s1, (∃ b ys H', v = .bool b ∧ Inv X pins σ H' s1 ∧ Py ys (.bl b) H' ∧ (b = b0 ∨ (b = (!b0) ∧ codeAny (model X.prog X.w) A (.builtin nm ⟨[.ref a], []⟩) R s1))) → Q (some v) s1) → (∀ s1, (∃ ys H', Inv X pins σ H' s1 ∧ Pd ys H') → Q none s1) → wpAny (model X.prog X.w) A.in1 (pyNext (.ref a)) Q E s := fun Q E h1 h2 => by
      refine next_X (A := A.in1) hh hd hl hg hgs hgo (fun ys y v H' o s1 gs' _ rv I1 eS rs _ hg1 hgs1 py hk => ?_) fun ys H' o s1 _ I1 _ _ _ pd => h2 s1 ⟨ys, H', I1, pd⟩
      obtain ⟨b, rfl⟩ := hPy ys y H' py
      have rv' : v = .bool b := rv
      by_cases hb : b = b0
      · exact h1 v s1 ⟨b, ys, H', rv', I1, py, .inl hb⟩
      · have hb' : b = (!b0) := by cases b <;> cases b0 <;> simp_all
        obtain ⟨m', hm, hgo'⟩ := hk s1 ⟨by rw [hb'], rfl, I1.bare, fun _ _ _ e => e, fun ys o r e => ⟨o, e, r⟩⟩
        cases hm
        exact h1 v s1 ⟨b, ys, H', rv', I1, py, .inr ⟨hb', ih s1 hg1 (by rw [eS, rs]) I1.nolimit ⟨gs', hgs1, hgo'⟩⟩⟩
    rcases hnm with ⟨rfl, rfl⟩ | ⟨rfl, rfl⟩
    · refine codeAny_builtin F.entry_any_loop ?_
      rw [Around.under_plainId F.plain_any_loop _]
      show wpAny _ A.in1 (pyNext (.ref a) >>= _) _ _ s
      refine wpAny_bind (key _ _ (fun v s1 ⟨b, ys, H', e, I1, py, hb⟩ => ?_) fun s1 ⟨ys, H', I1, pd⟩ => ?_)
      · subst e
        refine wpAny_bind (wpAny_holding (wpAny_truthy_bool ?_))
        refine wpAny_bind (wpAny_letGo ?_)
        rcases hb with hb | ⟨hb, again⟩
        · subst hb
          simp only [if_true]
          exact wpAny_bind (wpAny_rule (wpAny_pure (hR true H' s1 I1 (.inl ⟨rfl, ys, py⟩))))
        · subst hb
          simp only [Bool.not_true, Bool.false_eq_true, if_false]
          exact wpAny_pure ⟨plainId_quiet F.plain_any_loop _, again⟩
      · exact wpAny_bind (wpAny_rule (wpAny_pure (hR false H' s1 I1 (.inr ⟨rfl, ys, pd⟩))))
    · refine codeAny_builtin F.entry_all_loop ?_
      rw [Around.under_plainId F.plain_all_loop _]
      show wpAny _ A.in1 (pyNext (.ref a) >>= _) _ _ s
      refine wpAny_bind (key _ _ (fun v s1 ⟨b, ys, H', e, I1, py, hb⟩ => ?_) fun s1 ⟨ys, H', I1, pd⟩ => ?_)
      · subst e
        refine wpAny_bind (wpAny_holding (wpAny_truthy_bool ?_))
        refine wpAny_bind (wpAny_letGo ?_)
        rcases hb with hb | ⟨hb, again⟩
        · subst hb
          simp only [Bool.false_eq_true, if_false]
          exact wpAny_bind (wpAny_rule (wpAny_pure (hR false H' s1 I1 (.inl ⟨rfl, ys, py⟩))))
        · subst hb
          simp only [Bool.not_false, if_true]
          exact wpAny_pure ⟨plainId_quiet F.plain_all_loop _, again⟩
      · exact wpAny_bind (wpAny_rule (wpAny_pure (hR true H' s1 I1 (.inr ⟨rfl, ys, pd⟩))))
theorem call_anyX {k : Nat} {u : Value} {z : Shared} {Q : Value → Shared → Prop} (hr : Room (k + 3) A) (hfr : A.frames = some X.stack) (hPy : ∀ ys y H', Py ys y H' → ∃ b, y = .bl b) (M : MadeX X k pins σ (fun y => y = .bl false) Py Pd u z)
    (hQ : ∀ b H' s', Inv X pins σ H' s' → ((b = true ∧ ∃ ys, Py ys (.bl true) H') ∨ (b = false ∧ ∃ ys, Pd ys H')) → Q (.bool b) s') : wpAny (model X.prog X.w) A (call (.builtin "any") [u]) Q E z := by
  obtain ⟨a, gi, c, go, H0, rfl, I0, ha, hgen, hcell, hgs, hn, wake⟩ := M
  refine call_function_tree F.kind_any F.plain_any F.entry_any (F.args_any1 _) ?_
  unfold Builtin.«any»
  refine wpAny_bind (m := oneArg "any" _) (wpAny_pure ?_)
  refine wpAny_bind (wpAny_pyIter_gen (hgen _ ha) ?_)
  refine wpAny_pure ⟨plainId_quiet F.plain_any_loop _, any_loopX (X := X) (A := A) (pins := pins) (σ := σ) (gi := gi) (go := go) (b0 := true) (Py := Py) (Pd := Pd) (.inl ⟨rfl, rfl⟩) hr.hd (by have := hr.dp; omega) (fun b H' s' I' h => hQ b H' s' I' ?_) hPy sizeLine z (hgen _ ha) ha I0.nolimit ⟨_, hgs, ?_⟩⟩
  · rcases h with ⟨h1, ys, h2⟩ | ⟨h1, h2⟩
    · subst h1; exact .inl ⟨rfl, ys, h2⟩
    · exact .inr ⟨h1, h2⟩
  · refine ⟨rfl, wake A.in1.in1 a (fun _ o => o = go) (z.setGen gi .running) go ((hr.mono (by omega : k + 2 ≤ k + 3)).in1.in1) hfr (.inl ⟨rfl, fun _ _ h => h⟩) (fun _ o h => by rw [h]; exact hcell) (fun _ _ e => e) ha rfl rfl (allBare_setGen I0.bare rfl)⟩
theorem call_allX {k : Nat} {u : Value} {z : Shared} {Q : Value → Shared → Prop} (hr : Room (k + 3) A) (hfr : A.frames = some X.stack) (hPy : ∀ ys y H', Py ys y H' → ∃ b, y = .bl b) (M : MadeX X k pins σ (fun y => y = .bl true) Py Pd u z)
    (hQ : ∀ b H' s', Inv X pins σ H' s' → ((b = false ∧ ∃ ys, Py ys (.bl false) H') ∨ (b = true ∧ ∃ ys, Pd ys H')) → Q (.bool b) s') : wpAny (model X.prog X.w) A (call (.builtin "all") [u]) Q E z := by
  obtain ⟨a, gi, c, go, H0, rfl, I0, ha, hgen, hcell, hgs, hn, wake⟩ := M
  refine call_function_tree F.kind_all F.plain_all F.entry_all (F.args_all1 _) ?_
  unfold Builtin.«all»
  refine wpAny_bind (m := oneArg "all" _) (wpAny_pure ?_)
  refine wpAny_bind (wpAny_pyIter_gen (hgen _ ha) ?_)
  refine wpAny_pure ⟨plainId_quiet F.plain_all_loop _, any_loopX (X := X) (A := A) (pins := pins) (σ := σ) (gi := gi) (go := go) (b0 := false) (Py := Py) (Pd := Pd) (.inr ⟨rfl, rfl⟩) hr.hd (by have := hr.dp; omega) (fun b H' s' I' h => hQ b H' s' I' ?_) hPy sizeLine z (hgen _ ha) ha I0.nolimit ⟨_, hgs, ?_⟩⟩
  · rcases h with ⟨h1, ys, h2⟩ | ⟨h1, h2⟩
    · subst h1; exact .inl ⟨rfl, ys, h2⟩
    · exact .inr ⟨h1, h2⟩
  · refine ⟨rfl, wake A.in1.in1 a (fun _ o => o = go) (z.setGen gi .running) go ((hr.mono (by omega : k + 2 ≤ k + 3)).in1.in1) hfr (.inl ⟨rfl, fun _ _ h => h⟩) (fun _ o h => by rw [h]; exact hcell) (fun _ _ e => e) ha rfl rfl (allBare_setGen I0.bare rfl)⟩
/-! ### drained into a list -/
def RSL : OwnR := fun ys o => ∃ (acc : Array Value) (c : Nat), o = lstObj acc c ∧ Vals ys acc.toList
theorem drainX {R : Result → Shared → Prop} {S : Addr} {res : Value} (hh : A.handled = none) (hd : A.depth < recursionLimit) (hSa : S ≠ a)
    (hend : ∀ s' acc c H' ys, s'.heap.get? S = some (lstObj acc c) → Vals ys acc.toList → ys.length ≤ sizeLine → Inv X pins σ H' s' → H' S = none → Pd ys H' → R (.ok (.ret res)) s') :
    ∀ (m : Nat) (s : Shared), s.heap.IsGen a gi → s.heap.NoLimit →
      (∃ gs, s.gens[gi]? = some gs ∧ GoesX X A.in1.in1 pins σ S a gi RSL (fun _ => True) Py Pd gs m s) →
      codeAny (model X.prog X.w) A (.builtin "list.extend.loop" ⟨[.ref S, .ref a, res], []⟩) R s := by
  intro m
  induction m with
  | zero =>
    intro s hg hl ⟨gs, hgs, hgo⟩
    refine codeAny_builtin F.entry_extend_loop ?_
    rw [Around.under_plainId F.plain_extend_loop _]
    show wpAny _ A.in1 (pyNext (.ref a) >>= _) _ _ s
    refine wpAny_bind (next_X (A := A.in1) hh hd hl hg hgs hgo (fun ys y v H' o s1 gs' _ rv I1 eS rs _ _ _ py hk => ?_) fun ys H' o s1 hle I1 eS rs hS0 pd => ?_)
    · obtain ⟨acc, c, rfl, r⟩ := rs
      have I2 := I1
      obtain ⟨m, hm, _⟩ := hk { s1 with heap := s1.heap.update S (Obj.mapSeq (·.push v)) } ⟨trivial, rfl, I1.bare, fun b o hb e => (Heap.get?_update_other _ _ (Ne.symm hb)).trans e, fun ys o r e => by
        obtain ⟨acc', c', rfl, r'⟩ := r
        exact ⟨_, Heap.get?_update_self _ e rfl, acc'.push v, _, rfl, by rw [Array.toList_push]; exact r'.append (.cons rv .nil)⟩⟩
      cases hm
    · obtain ⟨acc, c, rfl, r⟩ := rs
      exact wpAny_pure (hend s1 acc c H' ys eS r hle I1 hS0 pd)
  | succ m ih =>
    intro s hg hl ⟨gs, hgs, hgo⟩
    refine codeAny_builtin F.entry_extend_loop ?_
    rw [Around.under_plainId F.plain_extend_loop _]
    show wpAny _ A.in1 (pyNext (.ref a) >>= _) _ _ s
    refine wpAny_bind (next_X (A := A.in1) hh hd hl hg hgs hgo (fun ys y v H' o s1 gs' hn rv I1 eS rs hS0 hg1 hgs1 py hk => ?_) fun ys H' o s1 hle I1 eS rs hS0 pd => ?_)
    · obtain ⟨acc, c, rfl, r⟩ := rs
      have hsz : acc.size < sizeLine := by
        have e1 := r.length
        have e2 : acc.toList.length = acc.size := by simp
        omega
      obtain ⟨m', hm, hgo'⟩ := hk { s1 with heap := s1.heap.update S (Obj.mapSeq (·.push v)) } ⟨trivial, rfl, I1.bare, fun b o hb e => (Heap.get?_update_other _ _ (Ne.symm hb)).trans e, fun ys o r e => by
        obtain ⟨acc', c', rfl, r'⟩ := r
        exact ⟨_, Heap.get?_update_self _ e rfl, acc'.push v, _, rfl, by rw [Array.toList_push]; exact r'.append (.cons rv .nil)⟩⟩
      cases hm
      show wpAny _ A.in1 (updateSeq S (·.push v) >>= _) _ _ _
      refine wpAny_bind ?_
      have keep3 : ∀ b o, b ≠ S → s1.heap.get? b = some o → (s1.heap.update S (Obj.mapSeq (·.push v))).get? b = some o := fun b o hbS e => (Heap.get?_update_other _ _ (Ne.symm hbS)).trans e
      refine wpAny_updateSeq eS rfl (wpAny_pure ⟨plainId_quiet F.plain_extend_loop _, ih _ ?_ ?_ ⟨gs', hgs1, hgo'⟩⟩) (Nat.le_of_lt hsz) (by show (acc.push v).size ≤ sizeLine + 1; rw [Array.size_push]; omega)
      · obtain ⟨o, nm, qn, ho, r⟩ := hg1
        exact ⟨o, nm, qn, keep3 a o (Ne.symm hSa) ho, r⟩
      · have hcS : cStatics ≠ S := fun z => by
          obtain ⟨mc, ⟨ow, es, ep, ho, hdd, _⟩, _⟩ := I1.nolimit
          rw [z, eS] at ho
          cases ho
          cases hdd
        obtain ⟨mc, hns, hnn⟩ := I1.nolimit
        exact ⟨mc, hns.at' fun o e => keep3 _ o hcS e, hnn⟩
    · obtain ⟨acc, c, rfl, r⟩ := rs
      exact wpAny_pure (hend s1 acc c H' ys eS r hle I1 hS0 pd)
/-- the generator's items, in order -/
theorem collectX {k : Nat} {u : Value} {z : Shared} {Q : List Value → Shared → Prop} (hr : Room (k + 4) A) (hfr : A.frames = some X.stack) (M : MadeX X k pins σ (fun _ => True) Py Pd u z)
    (hQ : ∀ us H' ys s', Inv X pins σ H' s' → Vals ys us → ys.length ≤ sizeLine → Pd ys H' → Q us s') : wpAny (model X.prog X.w) A (collect u) Q E z := by
  obtain ⟨a, gi, c, go, H0, rfl, I0, ha, hgen, hcell, hgs, hn, wake⟩ := M
  have hlt : a < z.heap.objs.size := Heap.lt_size ha
  have hSa : z.heap.objs.size ≠ a := Nat.ne_of_gt hlt
  unfold collect
  refine wpAny_bind (wpAny_runValue (codeAny_builtin F.entry_proto_collect ?_))
  rw [Around.under_plainId F.plain_proto_collect _]
  show wpAny _ A.in1 (newList [] >>= fun l => again (.builtin "list.__iadd__" ⟨[l, .ref a], []⟩)) _ _ z
  refine wpAny_bind (wpAny_newObj_type ?_)
  refine wpAny_pure ⟨plainId_quiet F.plain_list_iadd _, codeAny_builtin F.entry_list_iadd ?_⟩
  rw [Around.under_plainId F.plain_list_iadd _]
  have k1 : ∀ b o, z.heap.get? b = some o → (z.heap.push { cls := .type "list", data := .seq ([] : List Value).toArray }).get? b = some o := fun b o e => Heap.get?_push_of_some _ e
  have hg1 := hgen _ (k1 _ _ ha)
  show wpAny _ A.in1 (Builtin.List.listExtendWith (.ref z.heap.objs.size) (.ref a) (.ref z.heap.objs.size)) _ _ _
  unfold Builtin.List.listExtendWith
  refine wpAny_bind (wpAny_typeOf (Heap.IsGen.typeIs (s := { z with heap := _ }) hg1) ?_)
  have h1 : Builtin.List.listSameRef (.ref z.heap.objs.size) (.ref a) = false := by simp [Builtin.List.listSameRef, hSa]
  have h2 : (Value.type "generator" == Value.type "list") = false := by decide
  have h3 : (Value.type "generator" == Value.type "tuple") = false := by decide
  simp only [h1, h2, h3, Bool.or_false, Bool.false_eq_true, if_false]
  refine wpAny_bind (wpAny_pyIter_gen (s := { z with heap := _ }) hg1 ?_)
  refine wpAny_bind (wpAny_holding ?_)
  unfold Builtin.List.listLengthHint
  refine wpAny_bind (wpAny_specialOf (Heap.IsGen.typeIs (s := { z with heap := _ }) hg1) F.gen_no_len ?_)
  show wpAny _ A.in1 (specialOf (Value.ref a) (Str.ofString "__length_hint__") >>= _) _ _ _
  refine wpAny_bind (wpAny_specialOf (Heap.IsGen.typeIs (s := { z with heap := _ }) hg1) F.gen_no_hint ?_)
  refine wpAny_pure ?_
  show wpAny _ A.in1 (rule "list.extend.makes-room" >>= fun _ => Builtin.List.listTouch (.ref z.heap.objs.size) >>= fun _ =>
    again (.builtin "list.extend.loop" ⟨[.ref z.heap.objs.size, .ref a, .ref z.heap.objs.size], []⟩)) _ _ _
  refine wpAny_bind (wpAny_rule ?_)
  have hS₁ : (z.heap.push { cls := .type "list", data := .seq ([] : List Value).toArray }).get? z.heap.objs.size = some { cls := .type "list", data := .seq ([] : List Value).toArray } := Heap.get?_push_size _ rfl
  refine wpAny_bind ?_
  show wpAny _ A.in1 (updateSeq z.heap.objs.size (·.push .none) >>= fun _ => updateSeq z.heap.objs.size (·.pop)) _ _ _
  refine wpAny_bind (wpAny_updateSeq hS₁ rfl ?_)
  have hS₂ := Heap.get?_update_self (Obj.mapSeq (·.push Value.none)) hS₁ rfl
  refine wpAny_updateSeq hS₂ rfl ?_
  have hS₃ := Heap.get?_update_self (Obj.mapSeq (·.pop)) hS₂ rfl
  have oth : ∀ b o, z.heap.get? b = some o →
      (((z.heap.push { cls := .type "list", data := .seq ([] : List Value).toArray }).update z.heap.objs.size (Obj.mapSeq (·.push Value.none))).update z.heap.objs.size (Obj.mapSeq (·.pop))).get? b = some o :=
    fun b o e => by
      have hb : b ≠ z.heap.objs.size := Nat.ne_of_lt (Heap.lt_size e)
      exact (Heap.get?_update_other _ _ (Ne.symm hb)).trans ((Heap.get?_update_other _ _ (Ne.symm hb)).trans (k1 b o e))
  refine wpAny_pure ⟨plainId_quiet F.plain_extend_loop _, drainX (X := X) (A := A) (pins := pins) (σ := σ) (gi := gi) (a := a) (Py := Py) (Pd := Pd) (S := z.heap.objs.size) hr.hd (by have := hr.dp; omega) hSa (fun s' acc cc H' ys hS' hv hle I' hS0 pd => ?_) sizeLine _ (hgen _ (oth _ _ ha)) (I0.nolimit.keeps oth) ⟨_, hgs, rfl, ?_⟩⟩
  · show wpAny _ A (load z.heap.objs.size >>= _) _ _ s'
    refine wpAny_bind (wpAny_load hS' ?_)
    exact wpAny_pure (hQ acc.toList H' ys s' I' hv hle pd)
  · exact wake A.in1.in1 z.heap.objs.size RSL _ _ ((hr.mono (by omega : k + 2 ≤ k + 4)).in1.in1) hfr (.inr (Nat.le_refl _)) (fun ys o h v => by obtain ⟨acc, c, rfl, _⟩ := h; intro q; cases q) oth hS₃ ⟨#[], _, rfl, .nil⟩ rfl (allBare_setGen I0.bare rfl)
end
end Ph
namespace Ph
open PySem PySem.Spec PyProof.Rows L2 GenW
section
variable {X : Cx} {pins : List (Addr × Obj)} {σ : L2.St}
theorem call_tupX {A : Around} {E : Value → Shared → Prop} {k : Nat} {u : Value} {z : Shared} {Py : List V → V → Hp → Prop} {Pd : List V → Hp → Prop} {Q : Value → Shared → Prop} (hr : Room (k + 6) A) (hfr : A.frames = some X.stack) (M : MadeX X k pins σ (fun _ => True) Py Pd u z)
    (hQ : ∀ l H' ys s', H' l = none → Inv X pins σ (upd H' l (.tup ys)) s' → ys.length ≤ sizeLine → Pd ys H' → Q (.ref l) s') : wpAny (model X.prog X.w) A (call (.type "tuple") [u]) Q E z := by
  have M' := M
  obtain ⟨a, gi, c, go, H0, rfl, I0, ha, hgen, hcell, hgs, hn, wake⟩ := M'
  have code : codeAny (model X.prog X.w) A.in1 (.call (.builtin "tuple.__new__") ⟨[.type "tuple", .ref a], []⟩) (wants (fun obj s₁ => s₁.TypeIs obj "tuple" ∧ Q obj s₁) E) z := by
    refine codeAny_of_tree ?_
    show wpAny _ A.in1.in1 (do checkBuiltinCall "tuple.__new__" ⟨[.type "tuple", .ref a], []⟩; again (.builtin "tuple.__new__" ⟨[.type "tuple", .ref a], []⟩)) _ _ z
    refine wpAny_bind (wpAny_of_eq (F.newCall_tuple_1 _) (wpAny_pure ⟨plainId_quiet F.plain_tuple_new _, codeAny_builtin F.entry_tuple_new ?_⟩))
    rw [Around.under_plainId F.plain_tuple_new _]
    have hsub := sub_tuple_self
    have hinit := init_tuple_lookup
    have hmh := madeHere_tuple
    have hTI : z.TypeIs (.ref a) "generator" := Heap.IsGen.typeIs (hgen _ ha)
    wp_walk using wpAny_typeOf hTI, collectX (X := X) (pins := pins) (σ := σ) (k := k) (Py := Py) (Pd := Pd) (show Room (k + 4) A.in1.in1 from hr.in1.in1) hfr M
    intro us H' ys s' I' hv hle pd
    show wpAny _ _ (Builtin.Tuple.tupleExact us.toArray >>= fun v => ret v) _ _ _
    unfold Builtin.Tuple.tupleExact
    refine wpAny_bind (wpAny_newObj_type ?_ (by show us.toArray.size ≤ sizeLine; rw [List.size_toArray, ← hv.length]; exact hle))
    refine wpAny_pure ?_
    refine ⟨⟨_, Heap.get?_push_size _ rfl, rfl⟩, hQ s'.heap.objs.size H' ys _ (I'.hok.fresh (Nat.le_refl _)) (I'.laid (t' := s'.toks) (fun b o e => Heap.get?_push_of_some _ e) (Nat.le_refl _) (show ObjOk X.prog X.w _ _ _ (.tup ys) from ⟨hle, us, hv, IsTup.new _ _⟩)) hle pd⟩
  refine callType_codes (Q₁ := fun obj s₁ => s₁.TypeIs obj "tuple" ∧ Q obj s₁) F.called_tuple (F.typeCall_tuple_1 _) F.entry_object_init code fun obj s₁ h₁ => ?_
  exact ⟨h₁.1, F.args_object_init_2 obj _, object_init_meets F.called_tuple.init.lookup F.called_tuple.made (by decide) X.prog X.w A.in1 _ s₁ ⟨h₁.1, rfl, h₁.2⟩⟩
end
/-- any (b0 = true), all (b0 = false) -/
def tAnyX (b0 : Bool) (P : Addr) (wi : TI) (g : TG) (tt : TT) (te : TE) (vs : List Nat) : TE := fun σ H Q =>
  tGenX P wi g tt te vs (fun y => y = .bl (!b0)) (fun _ y H' => ∃ b, y = .bl b ∧ (b = b0 → Q (.bl b0) H')) (fun _ H' => Q (.bl (!b0)) H') σ H
def tTupX (P : Addr) (wi : TI) (g : TG) (tt : TT) (te : TE) (vs : List Nat) : TE := fun σ H Q =>
  tGenX P wi g tt te vs (fun _ => True) (fun _ _ _ => True) (fun ys H' => ∀ l, H' l = none → Q (.ref l) (upd H' l (.tup ys))) σ H
section
variable {X : Cx} {c P : Addr} {elt tg iter : Expr} {ifs : List Expr} {scope : Scope} {own : List (Str × Nat)} {p pos gpos : Pos} {wi : TI} {g : TG} {tt : TT} {te : TE} {k : Nat}
/-- the parts of a generator expression within X -/
structure GenP (X : Cx) (k : Nat) (c P : Addr) (elt tg iter : Expr) (ifs : List Expr) (scope : Scope) (own : List (Str × Nat)) (wi : TI) (g : TG) (tt : TT) (te : TE) : Prop where
  hr : Room (k + 7) X.A
  hc : X.calm = true
  hN : X.N.Nodup
  TB : GxR.TabB X.base X.mg c P
  hcode : X.env.code = .ref c
  S : GenSX scope
  hi : PI X tg iter wi
  ok : BlkOk X.N X.env.scope scope own
  hg : ∀ (A : Around) (s : Shared) (H : Hp) (C : Addr) (code : Value) (fp : List Addr) (pn : List (Addr × Obj)), Room k A → PG (gxOf X A s H (gxEnv X scope C code) fp pn) tg g
  ht : ∀ (A : Around) (s : Shared) (H : Hp) (C : Addr) (code : Value) (fp : List Addr) (pn : List (Addr × Obj)), Room k A → PTs (gxOf X A s H (gxEnv X scope C code) fp pn) ifs tt
  he : ∀ (A : Around) (s : Shared) (H : Hp) (C : Addr) (code : Value) (fp : List Addr) (pn : List (Addr × Obj)), Room k A → PE (gxOf X A s H (gxEnv X scope C code) fp pn) elt te
  hs : ∀ v, genFold iter X.env v = pure v
theorem Inv.frames {pins : List (Addr × Obj)} {σ : L2.St} {H : Hp} {s : Shared} (I : Inv X pins σ H s) : X.A.frames = some X.stack := I.ok.frames
theorem pe_anyX (G : GenP X k c P elt tg iter ifs scope own wi g tt te) (hg : Gl X "any") (hm : X.mg "any" = none)
    (he : starEach [gexp elt tg iter ifs scope gpos] X.env = (false, eval (gexp elt tg iter ifs scope gpos) X.env) :: starEach [] X.env := by rfl) :
    PE X (.Call (.Name "any" p) [gexp elt tg iter ifs scope gpos] [] pos) (tAnyX true P wi g tt te (own.map (·.2))) := by
  refine ⟨fun pins s σ H Q I h => ?_⟩
  refine wpAny_Call_Name_kw (ld_blt I hg hm boot_any (PyProof.Rows.callWith_builtin1 ?_ he (by rfl)))
  rw [he]
  show wpAny _ _ (spliced ((false, eval (gexp elt tg iter ifs scope gpos) X.env) :: backTo pos (starEach [] X.env))) _ _ s
  refine Calls.spliced_cons (gen_made (k := k) (G.hr.mono (by omega)) G.hc G.hN G.TB G.hcode G.S G.hi G.ok G.hg G.ht G.he G.hs I h fun u z M => ?_)
  refine Calls.spliced_nil (call_anyX (X := X) (A := X.A) (k := k + 1) (G.hr.mono (by omega)) I.ok.frames (fun ys y H' h => h.imp fun _ z => z.1) M fun b H' s' I' h => ?_)
  rcases h with ⟨rfl, ys, b, e, h2⟩ | ⟨rfl, ys, h2⟩
  · cases e
    exact ⟨.bl true, H', I', rfl, h2 rfl⟩
  · exact ⟨.bl false, H', I', rfl, h2⟩
theorem pe_allX (G : GenP X k c P elt tg iter ifs scope own wi g tt te) (hg : Gl X "all") (hm : X.mg "all" = none)
    (he : starEach [gexp elt tg iter ifs scope gpos] X.env = (false, eval (gexp elt tg iter ifs scope gpos) X.env) :: starEach [] X.env := by rfl) :
    PE X (.Call (.Name "all" p) [gexp elt tg iter ifs scope gpos] [] pos) (tAnyX false P wi g tt te (own.map (·.2))) := by
  refine ⟨fun pins s σ H Q I h => ?_⟩
  refine wpAny_Call_Name_kw (ld_blt I hg hm (show bootBuiltins "all" = some (.builtin "all") from by kernel_rfl) (PyProof.Rows.callWith_builtin1 ?_ he (by rfl)))
  rw [he]
  show wpAny _ _ (spliced ((false, eval (gexp elt tg iter ifs scope gpos) X.env) :: backTo pos (starEach [] X.env))) _ _ s
  refine Calls.spliced_cons (gen_made (k := k) (G.hr.mono (by omega)) G.hc G.hN G.TB G.hcode G.S G.hi G.ok G.hg G.ht G.he G.hs I h fun u z M => ?_)
  refine Calls.spliced_nil (call_allX (X := X) (A := X.A) (k := k + 1) (G.hr.mono (by omega)) I.ok.frames (fun ys y H' h => h.imp fun _ z => z.1) M fun b H' s' I' h => ?_)
  rcases h with ⟨rfl, ys, b, e, h2⟩ | ⟨rfl, ys, h2⟩
  · cases e
    exact ⟨.bl false, H', I', rfl, h2 rfl⟩
  · exact ⟨.bl true, H', I', rfl, h2⟩
theorem pe_tupX (G : GenP X k c P elt tg iter ifs scope own wi g tt te) (hg : Gl X "tuple") (hm : X.mg "tuple" = none)
    (he : starEach [gexp elt tg iter ifs scope gpos] X.env = (false, eval (gexp elt tg iter ifs scope gpos) X.env) :: starEach [] X.env := by rfl) :
    PE X (.Call (.Name "tuple" p) [gexp elt tg iter ifs scope gpos] [] pos) (tTupX P wi g tt te (own.map (·.2))) := by
  refine ⟨fun pins s σ H Q I h => ?_⟩
  refine wpAny_Call_Name_kw (ld_blt I hg hm (show bootBuiltins "tuple" = some (.type "tuple") from by kernel_rfl) (PyProof.Rows.callWith_type1 ?_ he rfl))
  rw [he]
  show wpAny _ _ (spliced ((false, eval (gexp elt tg iter ifs scope gpos) X.env) :: backTo pos (starEach [] X.env))) _ _ s
  refine Calls.spliced_cons (gen_made (k := k) (G.hr.mono (by omega)) G.hc G.hN G.TB G.hcode G.S G.hi G.ok G.hg G.ht G.he G.hs I h fun u z M => ?_)
  exact Calls.spliced_nil (call_tupX (X := X) (A := X.A) (k := k + 1) G.hr I.ok.frames M fun l H' ys s' hl I' hle h => ⟨.ref l, _, I', rfl, h l hl⟩)
end
end Ph
namespace Ph
open PySem PySem.Spec PyProof.Rows L2 GenW
theorem wipe_keep {σ : L2.St} {j : Nat} : ∀ {vs : List Nat}, j ∉ vs → (wipe σ vs)[j]? = σ[j]?
  | [], _ => rfl
  | v :: vs, h => by
    unfold wipe
    rw [List.getElem?_set_ne (fun e => h (by rw [e]; exact List.mem_cons_self))]
    exact wipe_keep fun m => h (List.mem_cons_of_mem _ m)
abbrev gex2 (elt t0 i0 t1 i1 : Expr) (ifs0 ifs1 : List Expr) (scope : Scope) (pos : Pos) : Expr := gexN elt t0 i0 ifs0 [⟨t1, i1, ifs1, 0⟩] scope pos
theorem genTurn2_out (elt t0 i0 t1 i1 : Expr) (ifs0 ifs1 : List Expr) (scope : Scope) (pos : Pos) (it acc : Value) (env : Env) :
    compTurn (gex2 elt t0 i0 t1 i1 ifs0 ifs1 scope pos) 0 it acc env = (do
      standAt i0.pos
      match ← pyNext it with
      | none => pure (.done .next)
      | some v =>
        letOwnedTupleGo t0 it v
        assign t0 env v
        let mut ok := true
        for c in ifs0 do
          if ok then ok ← isTrue c env (eval c env)
        if ok then
          let x ← eval i1 env
          standAt i1.pos
          let x ← foldedSetIterable i1 env x
          let _ ← runOwn (.compStart (gex2 elt t0 i0 t1 i1 ifs0 ifs1 scope pos) 1 (← holding [x] (pyIter x)) acc env) env
        again (.compLoop (gex2 elt t0 i0 t1 i1 ifs0 ifs1 scope pos) 0 it acc env)) := by rfl
theorem genTurn2_in (elt t0 i0 t1 i1 : Expr) (ifs0 ifs1 : List Expr) (scope : Scope) (pos : Pos) (it acc : Value) (env : Env) :
    compTurn (gex2 elt t0 i0 t1 i1 ifs0 ifs1 scope pos) 1 it acc env = (do
      standAt i1.pos
      match ← pyNext it with
      | none => pure (.done .next)
      | some v =>
        letOwnedTupleGo t1 it v
        assign t1 env v
        let mut ok := true
        for c in ifs1 do
          if ok then ok ← isTrue c env (eval c env)
        if ok then
          (do let v ← eval elt env; standAt elt.pos; let _ ← yieldOut env v)
        again (.compLoop (gex2 elt t0 i0 t1 i1 ifs0 ifs1 scope pos) 1 it acc env)) := by rfl
section
variable {Y : Cx} {S : Addr} {RS : OwnR} {ip : List (Addr × Obj)} {fp : List Addr} {Aw : Around} {elt t0 i0 t1 i1 : Expr} {ifs0 ifs1 : List Expr} {scope : Scope} {pos : Pos} {it : Addr} {tn : Nat → Heap → Prop} {J : It} {g : TG} {tt : TT} {te : TE} {vs : List Nat} {σ : L2.St}
  {Cy : V → Prop} {Py : List V → V → Hp → Prop} {Pd : List V → Hp → Prop} {W : Nat → Nat → List V → Hp → Prop} {R : GenEnd} {YP : Protocol}
/-- the loop of the second for, over the first one's frame -/
theorem seg_g1 {k1 : Result → Sem PySem.Fin} {c0 : Code} {p0 : Pos} (hY0 : Y.xe = fun _ _ => False) (hov : Aw.over (.compLoop (gex2 elt t0 i0 t1 i1 ifs0 ifs1 scope pos) 1 (.ref it) .none Y.env) [.ret k1 none false [] c0 p0 []] = Y.A) (hc : Y.calm = true) (hco : Y.env.scope.isCoroutine = false) (T : Turn Y.prog Y.w Y.K t1 J fp it tn) (pg : PG Y t1 g) (pt : PTs Y ifs1 tt) (pe : PE Y elt te)
    (hturn : GW J g tt te vs σ Cy Py Pd W) (hRS : ∀ ys o, RS ys o → ∀ v, o.data ≠ .cell v) (hpn : ∀ p ∈ Y.pn ++ ip, p.1 ≠ S) (hA : Apart Y S)
    (hfp : ∀ b ∈ fp, b ≠ S ∧ b ≠ Y.env.locals ∧ b ∉ Y.fs ∧ (b ∈ Y.ex ∨ Y.s_0.heap.objs.size ≤ b) ∧ (∀ x c, Y.env.cells.lookup x = some c → c ≠ b) ∧ ∀ p ∈ Y.pn ++ ip, p.1 ≠ b)
    (hR : ∀ n s₀ ys H' s', n + ys.length = sizeLine → GIR Y S RS ip ys (wipe σ vs) H' s' → Pd ys H' → Seg (model Y.prog Y.w) Aw R YP n s₀ c0 (k1 (.ok .next)) [] s')
    (hY : ∀ n s₀ ys y v ip σ' H' s' kap, n + 1 + ys.length = sizeLine → RelV y v → GIR Y S RS ip ys σ' H' s' → Py ys y H' → (∀ s'', SleptR S RS Cy y s' s'' → kap (.send .none) s'') → YP n s₀ v s' kap) :
    ∀ (m i n : Nat) (ys : List V) (s₀ s : Shared) (H : Hp), n + ys.length = sizeLine → W i m ys H → tn i s.heap → (∀ b ∈ fp, H b = none) → GIR Y S RS ip ys (wipe σ vs) H s →
      Seg (model Y.prog Y.w) Aw R YP n s₀ (.compLoop (gex2 elt t0 i0 t1 i1 ifs0 ifs1 scope pos) 1 (.ref it) .none Y.env) ((model Y.prog Y.w).den (.compLoop (gex2 elt t0 i0 t1 i1 ifs0 ifs1 scope pos) 1 (.ref it) .none Y.env)) [.ret k1 none false [] c0 p0 []] s := by
  intro m
  induction m using Nat.strongRecOn with
  | ind m ih =>
    intro i n ys s₀ s H hn w5 st5 n5 hG
    obtain ⟨ob, rs, I5⟩ := hG
    have stat : ∀ {σ' : L2.St} {H' : Hp} {s' : Shared} {o' : Obj}, Inv Y ((S, o') :: ip) σ' H' s' → (∀ b ∈ fp, H' b = none) → ∀ b ∈ fp, FpOk Y ((S, o') :: ip) H' b := fun {σ' H' s' o'} I' hn b hb => by
      obtain ⟨q1, q2, q3, q4, q5, q6⟩ := hfp b hb
      refine ⟨hn b hb, q2, q3, q4, q5, fun p hp => ?_⟩
      rcases List.mem_append.mp hp with z | z
      · exact q6 p (List.mem_append_left _ z)
      · rcases List.mem_cons.mp z with z | z
        · rw [z]; exact Ne.symm q1
        · exact q6 p (List.mem_append_right _ z)
    show Seg _ Aw _ _ _ s₀ _ ((compTurn (gex2 elt t0 i0 t1 i1 ifs0 ifs1 scope pos) 1 (.ref it) .none Y.env).onRaise (fun x => do noteFrame x Y.env; theTreesLotGoes x)) [.ret k1 none false [] c0 p0 []] s
    rw [genTurn2_in, Sem.onRaise_eq_wrap]
    refine seg_bind_wrap (wpAny_standAt ?_)
    rcases hturn i m ys H w5 with ⟨stop, qq⟩ | ⟨go, Nx, hNx, step⟩
    · refine seg_bind_wrap ?_
      rw [hov]
      have td := T.done Y rfl rfl rfl hc i _ s _ H (fun _ _ => False) I5 (stat I5 n5) st5 stop
      refine thnF td fun r s6 ⟨hr, I6⟩ => ?_
      subst hr
      exact seg_leaf (.ok .next) (hR n s₀ ys H s6 hn ⟨ob, rs, I6⟩ qq)
    · refine seg_bind_wrap ?_
      rw [hov]
      have ti := T.item Y rfl rfl rfl hc i _ s _ H (fun _ _ => False) I5 (stat I5 n5) st5 go
      refine thnF ti fun r s6 ⟨u, hr, h6⟩ => ?_
      subst hr
      refine seg_bind_wrap ?_
      rw [hov]
      refine thnF h6 fun _ s7 ⟨x, H7, I7, r7, y7, st7, n7⟩ => ?_
      have I7' := I7.pinned (stat I7 n7) (T.obj _ _ st7)
      have run1 := pg.run _ s7 _ H7 x u _ I7' r7 (step x H7 y7)
      rw [hY0] at run1
      refine seg_bind_wrap ?_
      rw [hov]
      refine thnF run1 fun _ s8 ⟨σ8, H8, I8, hw8, q8⟩ => ?_
      have run2 := pt.run _ s8 σ8 H8 _ I8 q8
      rw [hY0] at run2
      refine seg_bind_wrap ?_
      rw [hov]
      refine thnF run2 fun b s9 ⟨H9, I9, q9⟩ => ?_
      have fin : ∀ {s₀ s' : Shared} {H' : Hp} {o' : Obj} {ys' : List V} {n' : Nat}, n' + ys'.length = sizeLine → RS ys' o' → Inv Y (((S, o') :: ip) ++ pinsAt fp s7.heap) σ8 H' s' → Nx ys' H' →
          Seg (model Y.prog Y.w) Aw R YP n' s₀ (.compLoop (gex2 elt t0 i0 t1 i1 ifs0 ifs1 scope pos) 1 (.ref it) .none Y.env) ((model Y.prog Y.w).den (.compLoop (gex2 elt t0 i0 t1 i1 ifs0 ifs1 scope pos) 1 (.ref it) .none Y.env)) [.ret k1 none false [] c0 p0 []] s' := fun {s₀ s' H' o' ys' n'} hn' rs' I' nx => by
        obtain ⟨m', hm, w'⟩ := hNx ys' H' nx
        have pin' : ∀ b ∈ fp, ∀ o, s7.heap.get? b = some o → s'.heap.get? b = some o ∧ H' b = none := fun b hb o e =>
          let z := I'.pin (b, o) (List.mem_append_right _ (List.mem_append_right _ (mem_pinsAt hb e)))
          ⟨z.1, z.2.1⟩
        have hl : (wipe σ vs).length = σ8.length := by rw [← hw8, wipe_length]
        refine ih m' hm (i + 1) n' ys' s₀ s' H' hn' w' (T.keep _ _ _ st7 fun b hb o e => (pin' b hb o e).1) (fun b hb => ?_) ⟨o', rs', (I'.unpinned (pins := (S, o') :: ip)).weak hl (fun j v e => ?_)⟩
        · obtain ⟨o, e, _⟩ := T.obj _ _ st7 b hb
          exact (pin' b hb o e).2
        · rw [← hw8] at e
          exact (wipe_some e).1
      cases b with
      | false =>
        simp only [Bool.false_eq_true, if_false] at q9 ⊢
        exact seg_again rfl (fin hn rs I9 q9)
      | true =>
        simp only [if_true] at q9 ⊢
        have hy : ∀ v, yieldOut Y.env v = yieldValue v := fun v => by simp only [yieldOut, hco, Bool.false_eq_true, if_false]
        simp only [hy]
        rw [Sem.bind_eq_wrap', Sem.bind_eq_wrap', Sem.wrap_wrap, Sem.wrap_wrap]
        have run3 := pe.run _ s9 σ8 H9 _ I9 q9
        rw [hY0] at run3
        refine seg_wrap ?_
        rw [hov]
        refine thnF run3 fun z s10 ⟨yv, H10, I10, r10, hlt, py, nx⟩ => ?_
        obtain ⟨n, rfl⟩ : ∃ k, n = k + 1 := ⟨n - 1, by omega⟩
        have G10 : GIR Y S RS (ip ++ pinsAt fp s7.heap) ys σ8 H10 s10 := ⟨ob, rs, I10⟩
        refine seg_at (seg_yield rfl rfl rfl (hY n s₀ ys yv z _ σ8 H10 s10 _ hn r10 G10 py fun s'' zz => ?_))
        obtain ⟨o', rs', I''⟩ := G10.woken hRS (fun p hp => hpn p (List.mem_append_left _ hp)) (fun p hp => (List.mem_append.mp hp).elim (fun z => hpn p (List.mem_append_right _ z)) fun z => (hfp _ (of_pinsAt z).1).1) hA zz
        refine seg_again rfl (fin (by rw [List.length_append, List.length_singleton]; omega) rs' I'' (nx zz.go))
end
/-- what a turn of the first for does -/
def GW2 (J : It) (g0 : TG) (tt0 : TT) (wi1 : TI) (g1 : TG) (tt1 : TT) (te : TE) (vs vs1 : List Nat) (σ : L2.St) (Cy : V → Prop) (Py : List V → V → Hp → Prop) (Pd : List V → Hp → Prop) (W : Nat → Nat → List V → Hp → Prop) : Prop :=
  ∀ i m ys H, W i m ys H → (J.stop i H ∧ Pd ys H) ∨ (J.go i H ∧ ∃ Nx : List V → Hp → Prop, (∀ ys' H', Nx ys' H' → ∃ m', m' < m ∧ W (i + 1) m' ys' H') ∧ ∀ x H', J.yld i H x H' → g0 x (wipe σ vs) H' fun σ2 H2 => wipe σ2 vs = wipe σ vs ∧ tt0 σ2 H2 fun b H3 =>
    if b = true then wi1 σ2 H3 fun J1 H4 => ∃ W1 : Nat → Nat → List V → Hp → Prop, (∃ m, W1 0 m ys H4) ∧ GW J1 g1 tt1 te vs1 σ2 Cy Py Nx W1 else Nx ys H3)
section
variable {X : Cx} {σ : L2.St} {elt t0 i0 t1 i1 : Expr} {ifs0 ifs1 : List Expr} {scope : Scope} {gpos : Pos} {g0 g1 : TG} {tt0 tt1 : TT} {wi1 : TI} {te : TE} {vs vs1 : List Nat} {k : Nat} {Cy : V → Prop} {Py : List V → V → Hp → Prop} {Pd : List V → Hp → Prop}
theorem loop2 (hc : X.calm = true) (hco : scope.isCoroutine = false) (hsub : ∀ j, j ∈ vs1 → j ∈ vs)
    (hg0 : ∀ (A : Around) (s : Shared) (H : Hp) (C : Addr) (code : Value) (fp : List Addr) (pn : List (Addr × Obj)), Room k A → PG (gxOf X A s H (gxEnv X scope C code) fp pn) t0 g0)
    (ht0 : ∀ (A : Around) (s : Shared) (H : Hp) (C : Addr) (code : Value) (fp : List Addr) (pn : List (Addr × Obj)), Room k A → PTs (gxOf X A s H (gxEnv X scope C code) fp pn) ifs0 tt0)
    (hi1 : ∀ (A : Around) (s : Shared) (H : Hp) (C : Addr) (code : Value) (fp : List Addr) (pn : List (Addr × Obj)), Room k A → PI (gxOf X A s H (gxEnv X scope C code) fp pn) t1 i1 wi1)
    (hg1 : ∀ (A : Around) (s : Shared) (H : Hp) (C : Addr) (code : Value) (fp : List Addr) (pn : List (Addr × Obj)), Room k A → PG (gxOf X A s H (gxEnv X scope C code) fp pn) t1 g1)
    (ht1 : ∀ (A : Around) (s : Shared) (H : Hp) (C : Addr) (code : Value) (fp : List Addr) (pn : List (Addr × Obj)), Room k A → PTs (gxOf X A s H (gxEnv X scope C code) fp pn) ifs1 tt1)
    (he : ∀ (A : Around) (s : Shared) (H : Hp) (C : Addr) (code : Value) (fp : List Addr) (pn : List (Addr × Obj)), Room k A → PE (gxOf X A s H (gxEnv X scope C code) fp pn) elt te)
    (hs1 : ∀ (env : Env) x, foldedSetIterable i1 env x = pure x) :
    LoopX X k σ elt t0 i0 ifs0 [⟨t1, i1, ifs1, 0⟩] scope gpos vs (fun J H2 => ∃ W : Nat → Nat → List V → Hp → Prop, (∃ m, W 0 m [] H2) ∧ GW2 J g0 tt0 wi1 g1 tt1 te vs vs1 σ Cy Py Pd W) Cy Py Pd := by
  intro Aw S RS s3 H3 C code fp pn it tn J R YP rd T hRS hpn hS hA hR hY s₀ s H ⟨W, ⟨m0, w0⟩, hturn⟩ st hn hG
  have pg0 := hg0 _ s3 H3 C code fp pn rd
  have pt0 := ht0 _ s3 H3 C code fp pn rd
  have pi1 := hi1 _ s3 H3 C code fp pn rd
  have pg1 := hg1 _ s3 H3 C code fp pn rd
  have pt1 := ht1 _ s3 H3 C code fp pn rd
  have pe1 := he _ s3 H3 C code fp pn rd
  have hce : (gxEnv X scope C code).scope.isCoroutine = false := hco
  generalize gxEnv X scope C code = ce at *
  have stat : ∀ {σ' : L2.St} {H' : Hp} {s' : Shared} {o' : Obj}, Inv (gxOf X (Aw.deeper ce) s3 H3 ce fp pn) [(S, o')] σ' H' s' → (∀ b ∈ fp, H' b = none) → ∀ b ∈ fp, FpOk (gxOf X (Aw.deeper ce) s3 H3 ce fp pn) [(S, o')] H' b := fun {σ' H' s' o'} I' hn b hb =>
    ⟨hn b hb, (I'.ok.exf b hb).1, I'.ok.exfs b hb, .inl hb, fun x c e => (I'.ok.exf b hb).2 x c e, fun p hp => by
      rcases List.mem_append.mp hp with z | z
      · exact (hpn p z).2 b hb
      · rw [List.mem_singleton.mp z]
        exact Ne.symm (hS b hb)⟩
  have main : ∀ (m i n : Nat) (ys : List V) (s₀ s : Shared) (H : Hp), n + ys.length = sizeLine → W i m ys H → tn i s.heap → (∀ b ∈ fp, H b = none) → GIR (gxOf X (Aw.deeper ce) s3 H3 ce fp pn) S RS [] ys (wipe σ vs) H s →
      Seg (model X.prog X.w) Aw R YP n s₀ (.compLoop (gex2 elt t0 i0 t1 i1 ifs0 ifs1 scope gpos) 0 (.ref it) .none ce) ((model X.prog X.w).den (.compLoop (gex2 elt t0 i0 t1 i1 ifs0 ifs1 scope gpos) 0 (.ref it) .none ce)) [] s := by
    intro m
    induction m using Nat.strongRecOn with
    | ind m ih =>
      intro i n ys s₀ s H hn w5 st5 n5 hG
      obtain ⟨ob, rs, I5⟩ := hG
      show Seg _ Aw _ _ _ s₀ _ ((compTurn (gex2 elt t0 i0 t1 i1 ifs0 ifs1 scope gpos) 0 (.ref it) .none ce).onRaise (leaving ce)) [] s
      rw [genTurn2_out, Sem.onRaise_eq_wrap]
      refine seg_bind_wrap (wpAny_standAt ?_)
      rcases hturn i m ys H w5 with ⟨stop, qq⟩ | ⟨go, Nx, hNx, step⟩
      · refine seg_bind_wrap ?_
        rw [over_gen]
        have td := T.done (gxOf X (Aw.deeper ce) s3 H3 ce fp pn) rfl rfl rfl hc i _ s _ H (fun _ _ => False) I5 (stat I5 n5) st5 stop
        refine thnF td fun r s6 ⟨hr, I6⟩ => ?_
        subst hr
        exact seg_end (.ok .next) (hR n s₀ ys [] _ H s6 hn ⟨ob, rs, I6⟩ qq)
      · refine seg_bind_wrap ?_
        rw [over_gen]
        have ti := T.item (gxOf X (Aw.deeper ce) s3 H3 ce fp pn) rfl rfl rfl hc i _ s _ H (fun _ _ => False) I5 (stat I5 n5) st5 go
        refine thnF ti fun r s6 ⟨u, hr, h6⟩ => ?_
        subst hr
        refine seg_bind_wrap ?_
        rw [over_gen]
        refine thnF h6 fun _ s7 ⟨x, H7, I7, r7, y7, st7, n7⟩ => ?_
        have I7' := I7.pinned (stat I7 n7) (T.obj _ _ st7)
        refine seg_bind_wrap ?_
        rw [over_gen]
        refine thnF (pg0.run _ s7 _ H7 x u _ I7' r7 (step x H7 y7)) fun _ s8 ⟨σ8, H8, I8, hw8, q8⟩ => ?_
        refine seg_bind_wrap ?_
        rw [over_gen]
        refine thnF (pt0.run _ s8 σ8 H8 _ I8 q8) fun b s9 ⟨H9, I9, q9⟩ => ?_
        have hl : (wipe σ vs).length = σ8.length := by rw [← hw8, wipe_length]
        have fin : ∀ {s₀ s' : Shared} {H' : Hp} {o' : Obj} {ys' : List V} {n' : Nat} {σ' : L2.St}, n' + ys'.length = sizeLine → RS ys' o' → Inv (gxOf X (Aw.deeper ce) s3 H3 ce fp pn) ([(S, o')] ++ pinsAt fp s7.heap) σ' H' s' → σ'.length = σ8.length → (∀ j v, σ8[j]? = some (some v) → j ∉ vs → σ'[j]? = some (some v)) → Nx ys' H' →
            Seg (model X.prog X.w) Aw R YP n' s₀ (.compLoop (gex2 elt t0 i0 t1 i1 ifs0 ifs1 scope gpos) 0 (.ref it) .none ce) ((model X.prog X.w).den (.compLoop (gex2 elt t0 i0 t1 i1 ifs0 ifs1 scope gpos) 0 (.ref it) .none ce)) [] s' := fun {s₀ s' H' o' ys' n' σ'} hn' rs' I' hl' hk' nx => by
          obtain ⟨m', hm, w'⟩ := hNx ys' H' nx
          have pin' : ∀ b ∈ fp, ∀ o, s7.heap.get? b = some o → s'.heap.get? b = some o ∧ H' b = none := fun b hb o e =>
            let z := I'.pin (b, o) (List.mem_append_right _ (List.mem_append_right _ (mem_pinsAt hb e)))
            ⟨z.1, z.2.1⟩
          refine ih m' hm (i + 1) n' ys' s₀ s' H' hn' w' (T.keep _ _ _ st7 fun b hb o e => (pin' b hb o e).1) (fun b hb => ?_) ⟨o', rs', (I'.unpinned (pins := [(S, o')])).weak (hl.trans hl'.symm) (fun j v e => ?_)⟩
          · obtain ⟨o, e, _⟩ := T.obj _ _ st7 b hb
            exact (pin' b hb o e).2
          · rw [← hw8] at e
            obtain ⟨e1, e2⟩ := wipe_some e
            exact hk' j v e1 e2
        cases b with
        | false =>
          simp only [Bool.false_eq_true, if_false] at q9 ⊢
          exact seg_again rfl (fin hn rs I9 rfl (fun _ _ e _ => e) q9)
        | true =>
          simp only [if_true] at q9 ⊢
          refine seg_bind_wrap ?_
          rw [over_gen]
          refine thnF (pi1.run _ s9 σ8 H9 _ I9 q9) fun xv s10 hx => ?_
          refine seg_bind_wrap (wpAny_standAt ?_)
          refine seg_bind_wrap (wpAny_of_eq (hs1 _ xv) ?_)
          refine seg_bind_wrap (wpAny_holding ?_)
          rw [over_gen]
          refine thnF hx fun itv s11 h11 => ?_
          obtain ⟨it1, fp1, tn1, J1, H11, rfl, I11, T1, st11, f11, W1, ⟨m1, w1⟩, hW1⟩ := h11
          rw [Sem.bind_eq_wrap', Sem.wrap_wrap]
          refine seg_call fun p => ?_
          have hov : ∀ (kk : Result → Sem PySem.Fin), Aw.over (.compLoop (gex2 elt t0 i0 t1 i1 ifs0 ifs1 scope gpos) 1 (.ref it1) .none ce) [.ret kk none false [] (.compLoop (gex2 elt t0 i0 t1 i1 ifs0 ifs1 scope gpos) 0 (.ref it) .none ce) p []] = Aw.deeper ce := fun kk => (over_loop rfl rfl).trans over_gen
          have loop : ∀ (kk : Result → Sem PySem.Fin), kk (.ok .next) = .pure (.again (.compLoop (gex2 elt t0 i0 t1 i1 ifs0 ifs1 scope gpos) 0 (.ref it) .none ce)) → ∀ s₀, Seg (model X.prog X.w) Aw R YP n s₀ (.compLoop (gex2 elt t0 i0 t1 i1 ifs0 ifs1 scope gpos) 1 (.ref it1) .none ce) ((model X.prog X.w).den (.compLoop (gex2 elt t0 i0 t1 i1 ifs0 ifs1 scope gpos) 1 (.ref it1) .none ce)) [.ret kk none false [] (.compLoop (gex2 elt t0 i0 t1 i1 ifs0 ifs1 scope gpos) 0 (.ref it) .none ce) p []] s11 := fun kk hkk s₀ => seg_g1 (k1 := kk) (Y := gxOf X (Aw.deeper ce) s3 H3 ce fp pn) (S := S) (RS := RS) (ip := pinsAt fp s7.heap) (fp := fp1) (Aw := Aw) (vs := vs1) (σ := σ8) (pos := gpos) (R := R) (YP := YP) rfl (hov _) hc hce T1 pg1 pt1 pe1 hW1 hRS
            (fun p hp => (List.mem_append.mp hp).elim (fun z => (hpn p z).1) fun z => hS _ (of_pinsAt z).1) hA
            (fun b hb => by
              obtain ⟨_, q2, q3, q4, q5, q6⟩ := f11 b hb
              exact ⟨fun e => q6 (S, ob) (List.mem_append_right _ List.mem_cons_self) e.symm, q2, q3, q4, q5, fun p hp => q6 p ((List.mem_append.mp hp).elim (fun z => List.mem_append_left _ z) fun z => List.mem_append_right _ (List.mem_cons_of_mem _ z))⟩)
            (fun n' s₀' ys' H' s' hn' hG' nx => by
              obtain ⟨o', rs', J'⟩ := hG'
              rw [hkk]
              exact seg_again rfl (fin hn' rs' J' (wipe_length _ _) (fun j v e hj => by rw [wipe_keep fun z => hj (hsub j z)]; exact e) nx))
            hY m1 0 n ys s₀ s11 H11 hn w1 st11 (fun b hb => (f11 b hb).1) ⟨ob, rs, I11.weak (wipe_length _ _) (fun j v e => (wipe_some e).1)⟩
          show Seg _ Aw _ _ _ s₀ _ ((compStart (gex2 elt t0 i0 t1 i1 ifs0 ifs1 scope gpos) 1 (.ref it1) .none ce).onRaise (fun x => do noteFrame x ce; standAt theWindowsPlace)) _ s11
          unfold compStart
          rw [Sem.onRaise_eq_wrap]
          show Seg _ Aw _ _ _ s₀ _ ((ask >>= _).wrap _ _ _ _) _ s11
          refine seg_bind_wrap (wpAny_askSetting ?_)
          split
          · exact seg_again rfl (loop _ rfl s₀)
          · first
              | exact seg_bind_wrap (wpAny_rule (seg_bind_wrap (wpAny_standAt (seg_bind_wrap (T1.self _ 0 s11 _ _ st11 (seg_again rfl (loop _ rfl s₀)))))))
              | (refine seg_bind_wrap (wpAny_rule ?_); show Seg _ Aw _ _ _ s₀ _ ((standAt i1.pos >>= _).wrap _ _ _ _) _ s11; exact seg_bind_wrap (wpAny_standAt (seg_bind_wrap (T1.self _ 0 s11 _ _ st11 (seg_again rfl (loop _ rfl s₀))))))
  exact main m0 0 sizeLine [] s₀ s H rfl w0 st hn hG
end
/-- any (b0 = true), all (b0 = false) of two fors -/
def tAnyX2 (b0 : Bool) (P : Addr) (wi : TI) (g0 : TG) (tt0 : TT) (wi1 : TI) (g1 : TG) (tt1 : TT) (te : TE) (vs vs1 : List Nat) : TE := fun σ H Q =>
  wi σ H fun J H1 => GxR.TabG H1 P ∧ ∀ H2, GxR.Tabbed P H1 H2 → ∃ W : Nat → Nat → List V → Hp → Prop, (∃ m, W 0 m [] H2) ∧
    GW2 J g0 tt0 wi1 g1 tt1 te vs vs1 σ (fun y => y = .bl (!b0)) (fun _ y H' => ∃ b, y = .bl b ∧ (b = b0 → Q (.bl b0) H')) (fun _ H' => Q (.bl (!b0)) H') W
section
variable {X : Cx} {c P : Addr} {elt t0 i0 t1 i1 : Expr} {ifs0 ifs1 : List Expr} {scope : Scope} {own own1 : List (Str × Nat)} {p pos gpos : Pos} {wi wi1 : TI} {g0 g1 : TG} {tt0 tt1 : TT} {te : TE} {k : Nat}
structure GenP2 (X : Cx) (k : Nat) (c P : Addr) (elt t0 i0 t1 i1 : Expr) (ifs0 ifs1 : List Expr) (scope : Scope) (own own1 : List (Str × Nat)) (wi : TI) (g0 : TG) (tt0 : TT) (wi1 : TI) (g1 : TG) (tt1 : TT) (te : TE) : Prop where
  hr : Room (k + 7) X.A
  hc : X.calm = true
  hN : X.N.Nodup
  TB : GxR.TabB X.base X.mg c P
  hcode : X.env.code = .ref c
  S : GenSX scope
  hi : PI X t0 i0 wi
  ok : BlkOk X.N X.env.scope scope own
  sub : ∀ j, j ∈ own1.map (·.2) → j ∈ own.map (·.2)
  hg0 : ∀ (A : Around) (s : Shared) (H : Hp) (C : Addr) (code : Value) (fp : List Addr) (pn : List (Addr × Obj)), Room k A → PG (gxOf X A s H (gxEnv X scope C code) fp pn) t0 g0
  ht0 : ∀ (A : Around) (s : Shared) (H : Hp) (C : Addr) (code : Value) (fp : List Addr) (pn : List (Addr × Obj)), Room k A → PTs (gxOf X A s H (gxEnv X scope C code) fp pn) ifs0 tt0
  hi1 : ∀ (A : Around) (s : Shared) (H : Hp) (C : Addr) (code : Value) (fp : List Addr) (pn : List (Addr × Obj)), Room k A → PI (gxOf X A s H (gxEnv X scope C code) fp pn) t1 i1 wi1
  hg1 : ∀ (A : Around) (s : Shared) (H : Hp) (C : Addr) (code : Value) (fp : List Addr) (pn : List (Addr × Obj)), Room k A → PG (gxOf X A s H (gxEnv X scope C code) fp pn) t1 g1
  ht1 : ∀ (A : Around) (s : Shared) (H : Hp) (C : Addr) (code : Value) (fp : List Addr) (pn : List (Addr × Obj)), Room k A → PTs (gxOf X A s H (gxEnv X scope C code) fp pn) ifs1 tt1
  he : ∀ (A : Around) (s : Shared) (H : Hp) (C : Addr) (code : Value) (fp : List Addr) (pn : List (Addr × Obj)), Room k A → PE (gxOf X A s H (gxEnv X scope C code) fp pn) elt te
  hs : ∀ v, genFold i0 X.env v = pure v
  hs1 : ∀ (env : Env) x, foldedSetIterable i1 env x = pure x
theorem pe_anyX2 (G : GenP2 X k c P elt t0 i0 t1 i1 ifs0 ifs1 scope own own1 wi g0 tt0 wi1 g1 tt1 te) (hg : Gl X "any") (hm : X.mg "any" = none)
    (he : starEach [gex2 elt t0 i0 t1 i1 ifs0 ifs1 scope gpos] X.env = (false, eval (gex2 elt t0 i0 t1 i1 ifs0 ifs1 scope gpos) X.env) :: starEach [] X.env := by rfl) :
    PE X (.Call (.Name "any" p) [gex2 elt t0 i0 t1 i1 ifs0 ifs1 scope gpos] [] pos) (tAnyX2 true P wi g0 tt0 wi1 g1 tt1 te (own.map (·.2)) (own1.map (·.2))) := by
  refine ⟨fun pins s σ H Q I h => ?_⟩
  refine wpAny_Call_Name_kw (ld_blt I hg hm boot_any (PyProof.Rows.callWith_builtin1 ?_ he (by rfl)))
  rw [he]
  show wpAny _ _ (spliced ((false, eval (gex2 elt t0 i0 t1 i1 ifs0 ifs1 scope gpos) X.env) :: backTo pos (starEach [] X.env))) _ _ s
  refine Calls.spliced_cons (gen_madeN (k := k) (G.hr.mono (by omega)) G.hN G.TB G.hcode G.S G.hi G.ok (loop2 (X := X) (σ := σ) G.hc G.S.co G.sub G.hg0 G.ht0 G.hi1 G.hg1 G.ht1 G.he G.hs1) G.hs I h fun u z M => ?_)
  refine Calls.spliced_nil (call_anyX (X := X) (A := X.A) (k := k + 1) (G.hr.mono (by omega)) I.ok.frames (fun ys y H' h => h.imp fun _ z => z.1) M fun b H' s' I' h => ?_)
  rcases h with ⟨rfl, ys, b, e, h2⟩ | ⟨rfl, ys, h2⟩
  · cases e
    exact ⟨.bl true, H', I', rfl, h2 rfl⟩
  · exact ⟨.bl false, H', I', rfl, h2⟩
end
end Ph
namespace Ph
open PySem PySem.Spec PyProof.Rows L2 LamX
theorem lc_coreS {X : Cx} {pins : List (Addr × Obj)} {s : Shared} {σ : L2.St} {H : Hp} {Q : VK} {elt tg iter : Expr} {ifs : List Expr} {scope : Scope} {own : List (Str × Nat)} {pos pos' : Pos} {wi : TI} {g : TG} {ttS : L2.St → TT} {te : TE} {use : Option (Value → Sem Unit)} {Qf : Value → Shared → Prop}
    (hc : X.calm = true) (hN : X.N.Nodup) (I : Inv X pins σ H s) (hi : PI X tg iter wi) (ok : BlkOk X.N X.env.scope scope own)
    (hg : ∀ (s : Shared) (H : Hp) (C : Addr) (cl : List (Str × Addr)) (fp : List Addr), PG (X.blk s H scope (compEnvC scope cl C X.env) fp) tg g) (ht : ∀ (s : Shared) (H : Hp) (C : Addr) (cl : List (Str × Addr)) (fp : List Addr) (pinsX : List (Addr × Obj)) (σX : L2.St), Inv X pinsX σX H s → (∀ b ∈ fp, FpOk X pinsX H b) → PTs (X.blk s H scope (compEnvC scope cl C X.env) fp) ifs (ttS σX))
    (he : ∀ (s : Shared) (H : Hp) (C : Addr) (cl : List (Str × Addr)) (fp : List Addr), PE (X.blk s H scope (compEnvC scope cl C X.env) fp) elt te) (hs : ∀ x, foldedSetIterable iter X.env x = pure x)
    (h : tLc wi g (ttS σ) te (own.map (·.2)) σ H Q)
    (hRR : ∀ D C s' m H', Inv X pins σ H' s' → Q (.ref D) H' → s'.heap.Ns C m → FpOk X pins H' C → compPost (model X.prog X.w) X.A X.xe use Qf (.ref D) C (.ok .next) s') :
    wpAny (model X.prog X.w) X.A (comprehension (.ListComp elt [⟨tg, iter, ifs, 0⟩] scope pos) scope X.env pos' (newList []) false (eval iter X.env) use) Qf X.xe s := by
  have hfree : ∀ y ∈ scope.names, y.2 = .free → ∃ c, X.env.cells.lookup y.1 = some c := fun y hy e => by
    rcases ok.free y hy e with k | k
    · exact I.ok.has _ (.inl k)
    · exact I.ok.has _ (.inr k)
  refine wpAny_comprehension_free (use := use) rfl hs (closure_ok hfree) ok.kind (fun y hy e => by rw [ok.uniq y hy, e])
    (thn (hi.run pins s σ H _ I h) fun xv s1 hx => thn hx fun itv s2 h2 => ?_)
  obtain ⟨it, fp, tn, J, H2, e, I2, T, st2, f2, q⟩ := h2
  subst e
  refine wpAny_newObj_type (newEnv_comp ?_) (by show 0 ≤ sizeLine; decide)
  generalize hD : s2.heap.objs.size = D
  have hDn : H2 D = none := I2.hok.fresh (Nat.le_of_eq hD)
  obtain ⟨W, ⟨m0, w0⟩, turn⟩ := q D hDn
  -- the new list
  generalize hs3 : ({ s2 with heap := s2.heap.push { cls := .type "list", data := .seq ([] : List Value).toArray } } : Shared) = s3
  have I3 : Inv X pins σ (upd H2 D (.lst [])) s3 := by
    rw [← hs3]
    refine I2.laid (t' := s2.toks) (fun b o e => Heap.get?_push_of_some _ e) (Nat.le_of_eq hD) ⟨Nat.zero_le _, [], 0, .nil, ?_⟩
    rw [← hD]
    exact Heap.get?_push_size _ rfl
  have h3 : s3.heap = s2.heap.push { cls := .type "list", data := .seq ([] : List Value).toArray } := by rw [← hs3]
  have sz : ∀ b ∈ fp, b < s2.heap.objs.size := fun b hb => by
    obtain ⟨o, e, _⟩ := T.obj _ _ st2 b hb
    exact Heap.lt_size e
  have f3 : ∀ b ∈ fp, FpOk X pins (upd H2 D (.lst [])) b ∧ b < s3.heap.objs.size := fun b hb => by
    have hlt := sz b hb
    refine ⟨⟨?_, (f2 b hb).2⟩, by rw [h3, Heap.size_push]; exact Nat.lt_succ_of_lt hlt⟩
    rw [upd_ne (by rw [← hD]; exact Nat.ne_of_lt hlt)]
    exact (f2 b hb).1
  have st3 : tn 0 s3.heap := T.keep _ _ _ st2 fun b _ o e => by rw [h3]; exact Heap.get?_push_of_some _ e
  have I4 := block_start I3 ok hN f3
  have pg := hg s3 (upd H2 D (.lst [])) s3.heap.objs.size (cellsFrom (s3.heap.objs.size + 1) scope.names (cloFrom X.env.cells scope.names [])) fp
  have pt := ht s3 (upd H2 D (.lst [])) s3.heap.objs.size (cellsFrom (s3.heap.objs.size + 1) scope.names (cloFrom X.env.cells scope.names [])) fp pins σ I3 fun b hb => (f3 b hb).1
  have pe := he s3 (upd H2 D (.lst [])) s3.heap.objs.size (cellsFrom (s3.heap.objs.size + 1) scope.names (cloFrom X.env.cells scope.names [])) fp
  show codeAny _ _ (.compStart (.ListComp elt [⟨tg, iter, ifs, 0⟩] scope pos) 0 (.ref it) (.ref D) (compEnvC scope (cellsFrom (s3.heap.objs.size + 1) scope.names (cloFrom X.env.cells scope.names [])) s3.heap.objs.size X.env)) (compPost (model X.prog X.w) X.A X.xe use Qf (.ref D) s3.heap.objs.size) { s3 with heap := pushCells (s3.heap.push { cls := .type "dict", data := .dict #[] }) scope.names }
  have nfp : ∀ b ∈ fp, (upd H2 D (.lst [])) b = none := fun b hb => (f3 b hb).1.1
  generalize hce : compEnvC scope (cellsFrom (s3.heap.objs.size + 1) scope.names (cloFrom X.env.cells scope.names [])) s3.heap.objs.size X.env = ce at I4 pg pt pe ⊢
  have cL : ce.locals = s3.heap.objs.size := by subst hce; rfl
  generalize hH3 : upd H2 D (.lst []) = H3 at I3 I4 pg pt pe w0 nfp f3
  generalize hs4 : ({ s3 with heap := pushCells (s3.heap.push { cls := .type "dict", data := .dict #[] }) scope.names } : Shared) = s4 at I4 ⊢
  have st4 : tn 0 s4.heap := T.keep _ _ _ st3 fun b _ o e => by rw [← hs4]; exact pushCells_keeps _ _ _ _ (Heap.get?_push_of_some _ e)
  have stat : ∀ {σ' : L2.St} {H' : Hp} {s' : Shared}, Inv (X.blk s3 H3 scope ce fp) [] σ' H' s' → (∀ b ∈ fp, H' b = none) → ∀ b ∈ fp, FpOk (X.blk s3 H3 scope ce fp) [] H' b := fun {σ' H' s'} I' hn b hb =>
    ⟨hn b hb, (I'.ok.exf b hb).1, I'.ok.exfs b hb, .inl hb, fun x c e => (I'.ok.exf b hb).2 x c e, fun p hp => absurd (show p ∈ ([] : List (Addr × Obj)) ++ [] from hp) (by simp)⟩
  have loop : codeAny (model X.prog X.w) X.A (.compLoop (.ListComp elt [⟨tg, iter, ifs, 0⟩] scope pos) 0 (.ref it) (.ref D) ce) (compPost (model X.prog X.w) X.A X.xe use Qf (.ref D) s3.heap.objs.size) s4 := by
    refine compLoop_any (fun n s' => ∃ i H', Inv (X.blk s3 H3 scope ce fp) [] (wipe σ (own.map (·.2))) H' s' ∧ tn i s'.heap ∧ (∀ b ∈ fp, H' b = none) ∧ W i n H') ?_ m0 ⟨0, H3, I4, st4, nfp, w0⟩
    rintro n s5 ⟨i, H5, I5, st5, n5, w5⟩
    rcases turn i n H5 w5 with ⟨stop, qq⟩ | ⟨go, Nx, hNx, step⟩
    · have td := T.done (X.blk s3 H3 scope ce fp) rfl rfl rfl hc i [] s5 _ H5 (fun _ _ => False) I5 (stat I5 n5) st5 stop
      refine thnF td fun r s6 ⟨hr, I6⟩ => ?_
      subst hr
      -- back in the def's context
      have I7 : Inv X pins σ H5 s6 := I3.call' (ch := fp) I6.os I6.base I6.hok I6.bare fun b hb => ⟨(f3 b hb).1.2.2.2.1, (f3 b hb).1.2.1, (f3 b hb).1.2.2.2.2.1, (f3 b hb).1.2.2.2.2.2⟩
      have nC : H5 s3.heap.objs.size = none := by
        have z : H5 ce.locals = none := I6.free
        rw [cL] at z
        exact z
      obtain ⟨m, hn, _⟩ := I6.loc
      have hn : s6.heap.Ns ce.locals m := hn
      rw [cL] at hn
      exact hRR D s3.heap.objs.size s6 m H5 I7 qq hn (I3.fpOk (Nat.le_refl _) nC)
    · have ti := T.item (X.blk s3 H3 scope ce fp) rfl rfl rfl hc i [] s5 _ H5 (fun _ _ => False) I5 (stat I5 n5) st5 go
      refine thnF ti fun r s6 ⟨u, hr, h6⟩ => ?_
      subst hr
      refine thnF h6 fun _ s7 ⟨x, H7, I7, r7, y7, st7, n7⟩ => ?_
      have I7' := I7.pinned (stat I7 n7) (T.obj _ _ st7)
      refine thnF (pg.run _ s7 _ H7 x u _ I7' r7 (step x H7 y7)) fun _ s8 ⟨σ8, H8, I8, hw8, q8⟩ => ?_
      refine thnF (pt.run _ s8 σ8 H8 _ I8 q8) fun b s9 ⟨H9, I9, q9⟩ => ?_
      -- the turn's end
      have fin : ∀ {s' : Shared} {H' : Hp}, Inv (X.blk s3 H3 scope ce fp) ([] ++ pinsAt fp s7.heap) σ8 H' s' → Nx H' → ∃ m, m < n ∧ ∃ i H', Inv (X.blk s3 H3 scope ce fp) [] (wipe σ (own.map (·.2))) H' s' ∧ tn i s'.heap ∧ (∀ b ∈ fp, H' b = none) ∧ W i m H' := fun {s' H'} I' nx => by
        obtain ⟨m', hm, w'⟩ := hNx H' nx
        have pin' : ∀ b ∈ fp, ∀ o, s7.heap.get? b = some o → s'.heap.get? b = some o ∧ H' b = none := fun b hb o e =>
          let z := I'.pin (b, o) (List.mem_append_right _ (List.mem_append_right _ (mem_pinsAt hb e)))
          ⟨z.1, z.2.1⟩
        have hl : (wipe σ (own.map (·.2))).length = σ8.length := by rw [← hw8, wipe_length]
        refine ⟨m', hm, i + 1, H', (I'.unpinned (pins := [])).weak hl (fun j v e => ?_), T.keep _ _ _ st7 fun b hb o e => (pin' b hb o e).1, fun b hb => ?_, w'⟩
        · rw [← hw8] at e
          exact (wipe_some e).1
        · obtain ⟨o, e, _⟩ := T.obj _ _ st7 b hb
          exact (pin' b hb o e).2
      cases b with
      | false =>
        simp only [Bool.false_eq_true, if_false] at q9 ⊢
        exact fin I9 q9
      | true =>
        simp only [if_true] at q9 ⊢
        refine thnF (pe.run _ s9 σ8 H9 _ I9 q9) fun z s10 ⟨yv, H10, I10, r10, acc, hD10, hz10, nx⟩ => ?_
        exact app_ok (X := X.blk s3 H3 scope ce fp) I10 hD10 hz10 r10 fun s11 I11 => fin I11 nx
  exact codeAny_compStart_list loop (T.self X.A 0 _ _ _ st4 loop)
def tLcS (wi : TI) (g : TG) (ttS : L2.St → TT) (te : TE) (vs : List Nat) : TE := fun σ H Q => tLc wi g (ttS σ) te vs σ H Q
theorem pe_lcS {X : Cx} {elt tg iter : Expr} {ifs : List Expr} {scope : Scope} {own : List (Str × Nat)} {pos : Pos} {wi : TI} {g : TG} {ttS : L2.St → TT} {te : TE} (hc : X.calm = true) (hN : X.N.Nodup) (hi : PI X tg iter wi) (ok : BlkOk X.N X.env.scope scope own)
    (hg : ∀ (s : Shared) (H : Hp) (C : Addr) (cl : List (Str × Addr)) (fp : List Addr), PG (X.blk s H scope (compEnvC scope cl C X.env) fp) tg g)
    (ht : ∀ (s : Shared) (H : Hp) (C : Addr) (cl : List (Str × Addr)) (fp : List Addr) (pinsX : List (Addr × Obj)) (σX : L2.St), Inv X pinsX σX H s → (∀ b ∈ fp, FpOk X pinsX H b) → PTs (X.blk s H scope (compEnvC scope cl C X.env) fp) ifs (ttS σX))
    (he : ∀ (s : Shared) (H : Hp) (C : Addr) (cl : List (Str × Addr)) (fp : List Addr), PE (X.blk s H scope (compEnvC scope cl C X.env) fp) elt te) (hs : ∀ x, foldedSetIterable iter X.env x = pure x := by intro _; rfl) :
    PE X (.ListComp elt [⟨tg, iter, ifs, 0⟩] scope pos) (tLcS wi g ttS te (own.map (·.2))) := by
  refine ⟨fun pins s σ H Q I h => ?_⟩
  rw [eval_ListComp]
  refine lc_coreS hc hN I hi ok hg ht he hs h fun D C s' m H' I' q hn f => ⟨m, hn, fun h'' sb => ?_⟩
  obtain ⟨f0, f1, f2, f3, f4, f5⟩ := f
  exact ⟨.ref D, H', I'.turned (t' := s'.toks) (fun b o hb e => (sb.2 b hb).trans e) f0 f1 f3 f4 f5, rfl, q⟩
/-- the lambda as a value; cs: the def's cells -/
def tLamC (P : Addr) (q : Str) (cs : List (Str × Addr)) (d : LamD) : TE := fun _ H Q => TabS H P q ∧ ∀ (f c : Addr) (H1 : Hp), ExtP P H H1 → TabS H1 P q → H1 f = some (LamC f c q d.ps d.body d.sc (cloFrom cs d.sc.names [])) → H1 c = some (CodeO c q) → Q (.ref f) H1
theorem pe_lamC {X : Cx} {c P : Addr} {d : LamD} {pos : Pos} (TB : LamX.TabB X.base X.mg c P) (hcode : X.env.code = .ref c)
    (hdef : defaultsOf d.ps X.env = ([], [])) (L : LamS X.env.scope d.sc) : PE X (.Lambda d.ps d.body d.sc pos) (tLamC P (X.env.qual ++ "<lambda>") X.env.cells d) := by
  refine ⟨fun pins s σ H Q I h => ?_⟩
  obtain ⟨hT, h⟩ := h
  exact lamC_make I TB hcode hT hdef (L.has I.ok) fun f c' H1 s' I1 e t1 h1 h2 => ⟨.ref f, H1, I1, rfl, h f c' H1 e t1 h1 h2⟩
/-- the i-th slot holds one of the lambdas of fam: it is told; σX: the def's names at the block's entry -/
def tToldC (K : PySem.W.Frag) (CS : Addr) (ret q : Str) (cs : List (Str × Addr)) (i : Nat) (fam : List LamD) (t : Nat → XK → TE) (σX : L2.St) : TE := fun σ H Q => ∃ (f c : Addr) (k : Nat) (d : LamD), σ[i]? = some (some (.ref f)) ∧ fam[k]? = some d ∧
  H f = some (LamC f c q d.ps d.body d.sc (cloFrom cs d.sc.names [])) ∧ H c = some (CodeO c q) ∧ t k (kTold K CS ret Q) σX H Q
theorem pe_toldC {X : Cx} {sB : Shared} {HB : Hp} {scope : Scope} {ceB : Env} {fp : List Addr} {pinsX : List (Addr × Obj)} {σX : L2.St} {x a y ret : Str} {g CS : Addr} {k i : Nat} {pg : Arguments} {bg : List Stmt} {sg : Scope} {dV kV doc pm cdv ct oc : Value} {an od : Option Addr} {osl : Array (Option Value)} {Ng : List Str}
    {fam : List LamD} {t : Nat → XK → TE} {p py pos : Pos} (IX : Inv X pinsX σX HB sB) (fX : ∀ b ∈ fp, FpOk X pinsX HB b) (hg : Gl (X.blk sB HB scope ceB fp) x) (hm : X.mg x = some (.ref g)) (hk : PySem.W.keepIn X.K (.ref g) = true)
    (lk : X.K.lookup g = some ⟨oc, od, .func (PySem.W.fnOf x x pg bg sg dV kV doc pm an cdv ct), osl⟩) (hcg : PySem.W.codeIn X.K cdv x = true) (hb : L2.Binds X.K (PySem.W.fnOf x x pg bg sg dV kV doc pm an cdv ct) [a] []) (Sg : FnScope Ng [a] sg) (hNg : Ng[0]? = some a) (hva : Vis sg a)
    (hG : GivesTo X Ng x sg g cdv bg a (X.env.qual ++ "<lambda>") (TTold X.K CS ret)) (hi : X.N[i]? = some y) (hv : Vis ceB.scope y) (hr : Room (k + 2) X.A)
    (hno : ∀ (j : Nat) (d : LamD), fam[j]? = some d → LamS X.env.scope d.sc) (hbind : ∀ (j : Nat) (d : LamD), fam[j]? = some d → ∀ (cl : List (Str × Addr)) (c' : Addr) (pm ctv : Value), bindArgs (PySem.W.kla_fn "<lambda>" (X.env.qual ++ "<lambda>") d.ps d.body d.sc cl pm (.ref c') ctv) ⟨[], []⟩ = pure [])
    (hbody : ∀ (j : Nat) (d : LamD), fam[j]? = some d → ∀ (A : Around) (outer : List Env) (s : Shared) (H : Hp) (E : XK) (f c' : Addr), Room k (A.deeper (lamEnv X d.sc s.heap.objs.size f c')) → PE (lamCx X A outer s H E d.sc f c') d.body (t j E))
    (hdb : (x == ("__debug__" : Str)) = false := by decide) (hd : (a == ("__debug__" : Str)) = false := by decide) (hcd : (a == ("__classdict__" : Str)) = false := by decide) (hyd : (y == ("__debug__" : Str)) = false := by decide) (hyc : (y == ("__classdict__" : Str)) = false := by decide) :
    PE (X.blk sB HB scope ceB fp) (.Call (.Name x p) [.Name y py] [] pos) (tToldC X.K CS ret (X.env.qual ++ "<lambda>") X.env.cells i fam t σX) := by
  refine ⟨fun pins s σ H Q I h => ?_⟩
  obtain ⟨f, c', j, d, hs, hj, hf, hc, ht⟩ := h
  refine wpAny_Call_Name_kw (ld_glob I hg hm ?_ hdb)
  refine PySem.W.callWith_K (h₀ := X.base) I.ok.mod.kin hk ?_ (by rfl) (by rfl)
  show wpAny _ _ (spliced ((false, eval (.Name y py) ceB) :: backTo pos (starEach [] ceB))) _ _ s
  refine Calls.spliced_cons (thn ((pe_var (X := X.blk sB HB scope ceB fp) (pos := py) (i := i) hi hv hyd hyc).run pins s σ H (fun v H1 => v = .ref f ∧ H1 = H) I ⟨.ref f, hs, rfl, rfl⟩) fun u s' ⟨v, H1, I1, r1, q1⟩ => ?_)
  obtain ⟨ev, eH⟩ := q1
  subst ev
  rw [eH] at I1
  obtain rfl : u = Value.ref f := r1
  have J1 : Inv X pinsX σX H s' := IX.call' (ch := fp) I1.os I1.base I1.hok I1.bare fun b hb => ⟨(fX b hb).2.2.2.1, (fX b hb).2.1, (fX b hb).2.2.2.2.1, (fX b hb).2.2.2.2.2⟩
  refine Calls.spliced_nil ⟨I1.kIn, ?_⟩
  have rc : codeAny (model X.prog X.w) X.A (.call (.ref g) ⟨[.ref f], []⟩) (CR C8.CX0 X.stack X.prog X.w H s' Q C8.E0) s' := by
    refine run_ofS (N := Ng) (ps := [a]) (us := [.ref f]) (vs := [.ref f]) lk hcg Sg hr J1.env0 (hb s' [.ref f] J1.kIn rfl) (.cons rfl .nil) rfl fun hr' => ?_
    obtain ⟨t', ht', hq'⟩ := hG f c' s' H Q (fun E H' Q' => H' f = some (LamC f c' (X.env.qual ++ "<lambda>") d.ps d.body d.sc (cloFrom X.env.cells d.sc.names [])) ∧ t j E σX H' Q')
      (fun W pn xe E p1 p2 tk hW => pe_actC (i := 0) J1 (hno j d hj) (hbind j d hj _ c') tk hW hr' (fun A outer s H hr2 => hbody j d hj A outer s H E f c' hr2) hNg hva hd hcd) hc ⟨hf, ht⟩
    exact ⟨t', ht'.nox, hq'⟩
  refine wpAny_call (codeAny_mono rc fun r s2 hq => ?_)
  cases r with
  | error e => exact (show False from hq).elim
  | ok fl =>
    cases fl with
    | ret u => exact I1.after hq
    | next => exact False.elim hq
    | brk => exact False.elim hq
    | cont => exact False.elim hq
end Ph
namespace Ph
open PySem PySem.Spec PyProof.Rows L2
/-- what stands at a key that may be None -/
def DGetN (H : Hp) (a : Addr) (y : V) (r : Option V) : Prop := DGet H a y r ∨ (y = .non ∧ r = none ∧ ∃ kvs, Rd H a (.dK kvs))
def tGet1 (td ty : TE) : TE := fun σ H Q => td σ H fun x H1 => ∃ a, x = .ref a ∧ IsD H1 a ∧ ty σ H1 fun y H2 => ∃ o, DGetN H2 a y o ∧ Q (o.getD .non) H2
def tGet2 (td ty tx : TE) : TE := fun σ H Q => td σ H fun x H1 => ∃ a, x = .ref a ∧ IsD H1 a ∧ ty σ H1 fun y H2 => tx σ H2 fun z H3 => ∃ o, DGetN H3 a y o ∧ Q (o.getD z) H3
section
variable {X : Cx} {pins : List (Addr × Obj)} {σ : L2.St} {H : Hp} {s : Shared} {a : Addr} {y d : V} {u r : Value} {o : Option V} {A : Around} {E : Value → Shared → Prop}
theorem d_get1N {Q : Value → Shared → Prop} (hu : A.units + 1 < cLine) (I : Inv X pins σ H s) (g : DGetN H a y o) (ry : RelV y u) (h : ∀ w' s', Inv X pins σ H s' → RelV (o.getD .non) w' → Q w' s') :
    wpAny (model X.prog X.w) A (call (.builtin "dict.get") [.ref a, u]) Q E s := by
  rcases g with g | ⟨rfl, rfl, kvs, e⟩
  · exact d_get1 hu I g ry h
  · obtain rfl : u = Value.none := ry
    obtain ⟨_, hd, vs, _, dd⟩ := dk_rd I.hok e
    obtain ⟨f, hm, hf⟩ := none_map dd
    refine call_meetsIn PySem.F.slot_dict_get dd.typeIs PySem.F.entry_dict_get (PySem.F.args_dict_get_2 _ _) (meets_dict_get (noneKind X.prog X.w) a (k := none) rfl hd) ⟨_, hm, h _ _ (I.tok _) ?_⟩
    rw [hf]
    rfl
theorem d_get2N {Q : Value → Shared → Prop} (hu : A.units + 1 < cLine) (I : Inv X pins σ H s) (g : DGetN H a y o) (ry : RelV y u) (rd : RelV d r) (h : ∀ w' s', Inv X pins σ H s' → RelV (o.getD d) w' → Q w' s') :
    wpAny (model X.prog X.w) A (call (.builtin "dict.get") [.ref a, u, r]) Q E s := by
  rcases g with g | ⟨rfl, rfl, kvs, e⟩
  · exact d_get2 hu I g ry rd h
  · obtain rfl : u = Value.none := ry
    obtain ⟨_, hd, vs, _, dd⟩ := dk_rd I.hok e
    obtain ⟨f, hm, hf⟩ := none_map dd
    refine call_meetsIn PySem.F.slot_dict_get dd.typeIs PySem.F.entry_dict_get (PySem.F.args_dict_get_3 _ _ _) (meets_dict_get_default (noneKind X.prog X.w) a (k := none) rfl hd r) ⟨_, hm, h _ _ (I.tok _) ?_⟩
    rw [hf]
    exact rd
end
section
variable {X : Cx} {o e f : Expr} {apos cpos : Pos} {td ty tx : TE}
theorem pe_get1 (hu : X.A.units + 64 < cLine) (ho : PE X o td) (he : PE X e ty) (m : M1 X o "get" apos e cpos) : PE X (.Call (.Attribute o "get" apos) [e] [] cpos) (tGet1 td ty) := by
  refine ⟨fun pins s σ H Q I h => ?_⟩
  refine wpAny_Call_method m.base m.few m.line PySem.F.plainAttrs_dict PySem.F.slot_dict_get PySem.F.type_dict_get (thn (ho.run pins s σ H _ I h) fun u s1 ⟨x, H1, I1, rx, a, ex, d, q1⟩ => ?_)
  subst ex
  obtain rfl : u = Value.ref a := rx
  obtain ⟨t1, t2, _⟩ := isD_at I1 d
  refine ⟨t1, t2, ?_⟩
  rw [m.trees]
  refine Calls.callWith_builtin rfl (Calls.evalArgs_plain (Calls.spliced_cons (thn (he.run pins s1 σ H1 _ I1 q1) fun iv s2 ⟨y, H2, I2, ry, ov, g, q2⟩ => Calls.spliced_nil ?_)))
  exact d_get1N (by omega) I2 g ry fun w' s3 I3 rw' => ⟨_, H2, I3, rw', q2⟩
theorem pe_get2 (hu : X.A.units + 64 < cLine) (ho : PE X o td) (he : PE X e ty) (hf : PE X f tx) (m : M2 X o "get" apos e f cpos) : PE X (.Call (.Attribute o "get" apos) [e, f] [] cpos) (tGet2 td ty tx) := by
  refine ⟨fun pins s σ H Q I h => ?_⟩
  refine wpAny_Call_method m.base m.few m.line PySem.F.plainAttrs_dict PySem.F.slot_dict_get PySem.F.type_dict_get (thn (ho.run pins s σ H _ I h) fun u s1 ⟨x, H1, I1, rx, a, ex, d, q1⟩ => ?_)
  subst ex
  obtain rfl : u = Value.ref a := rx
  obtain ⟨t1, t2, _⟩ := isD_at I1 d
  refine ⟨t1, t2, ?_⟩
  rw [m.trees]
  refine Calls.callWith_builtin rfl (Calls.evalArgs_plain (Calls.spliced_cons (thn (he.run pins s1 σ H1 _ I1 q1) fun iv s2 ⟨y, H2, I2, ry, q2⟩ =>
    Calls.spliced_cons (thn (hf.run pins s2 σ H2 _ I2 q2) fun fv s3 ⟨z, H3, I3, rz, ov, g, q3⟩ => Calls.spliced_nil ?_))))
  exact d_get2N (by omega) I3 g ry rz fun w' s4 I4 rw' => ⟨_, H3, I4, rw', q3⟩
end
def rInV (K : PySem.W.Frag) : R2 := fun x y H Q => rInU K x y H Q ∨ ∃ a kvs, x = .non ∧ y = .ref a ∧ Rd H a (.dK kvs) ∧ Q (.bl false) H
def rNotInV (K : PySem.W.Frag) : R2 := fun x y H Q => rNotInU K x y H Q ∨ ∃ a kvs, x = .non ∧ y = .ref a ∧ Rd H a (.dK kvs) ∧ Q (.bl true) H
section
variable {X : Cx}
theorem op_inNon : OpR X (compareOp .In) (fun x y H Q => ∃ a kvs, x = .non ∧ y = .ref a ∧ Rd H a (.dK kvs) ∧ Q (.bl false) H) := by
  intro pins s σ H x y v u Q I rx ry h
  obtain ⟨a, kvs, rfl, rfl, e, q⟩ := h
  cases ry
  obtain rfl : v = Value.none := rx
  exact d_inNone I e fun s3 I3 => ⟨.bl false, H, I3, rfl, q⟩
theorem op_notinNon : OpR X (compareOp .NotIn) (fun x y H Q => ∃ a kvs, x = .non ∧ y = .ref a ∧ Rd H a (.dK kvs) ∧ Q (.bl true) H) := by
  intro pins s σ H x y v u Q I rx ry h
  obtain ⟨a, kvs, rfl, rfl, e, q⟩ := h
  cases ry
  obtain rfl : v = Value.none := rx
  exact d_notInNone I e fun s3 I3 => ⟨.bl true, H, I3, rfl, q⟩
theorem u_inV (hu : X.A.units + 64 < cLine) : OpR X (compareOp .In) (rInV X.K) := (u_in hu).or op_inNon
theorem u_notinV (hu : X.A.units + 64 < cLine) : OpR X (compareOp .NotIn) (rNotInV X.K) := (u_notin hu).or op_notinNon
end
/-! ### a list or a tuple walked; more calls -/
def iSeq (K : PySem.W.Frag) (tl : TE) : TI := fun σ H R => tl σ H fun x H1 => ∃ a, x = .ref a ∧ (((∃ xs, SqL K H1 a xs) ∧ R (Itl K a) H1) ∨ ((∃ xs, SqT K H1 a xs) ∧ R (Itt K a) H1))
theorem pi_seq {X : Cx} {tg l : Expr} {tl : TE} (hl : PE X l tl) : PI X tg l (iSeq X.K tl) := by
  refine ⟨fun pins s σ H R I h => ?_⟩
  refine thn (hl.run pins s σ H _ I h) fun v s1 ⟨x, H1, I1, r1, q1⟩ => ?_
  obtain ⟨a, rfl, q1⟩ := q1
  cases r1
  have fr : ∀ {o : Obj}, ∀ b ∈ [s1.heap.objs.size], FpOk X pins H1 b := fun {o} b hb => by
    rw [List.mem_singleton.mp hb]
    exact I1.fpOk (Nat.le_refl _) (I1.hok.fresh (Nat.le_refl _))
  rcases q1 with ⟨⟨xs, hq⟩, q⟩ | ⟨⟨xs, hq⟩, q⟩
  · obtain ⟨its, rv, p, hz⟩ := I1.list hq
    refine wpAny_pyIter_list p.isList ?_
    exact ⟨s1.heap.objs.size, [s1.heap.objs.size], _, _, H1, rfl, I1.kept (t' := s1.toks) fun b o e => Heap.get?_push_of_some _ e, turn_list a _, ⟨_, Heap.get?_push_size _ rfl, rfl, rfl⟩, fr (o := ⟨.none, none, .plain, #[]⟩), q⟩
  · obtain ⟨its, rv, p, hz⟩ := I1.tuple hq
    refine wpAny_pyIter_tuple (show s1.heap.IsTuple a its.toArray from p) ?_
    exact ⟨s1.heap.objs.size, [s1.heap.objs.size], _, _, H1, rfl, I1.kept (t' := s1.toks) fun b o e => Heap.get?_push_of_some _ e, turn_tuple a _, ⟨_, Heap.get?_push_size _ rfl, rfl, rfl⟩, fr (o := ⟨.none, none, .plain, #[]⟩), q⟩
def rStrI : List V → Hp → VK → Prop := fun xs H Q => ∃ i, xs = [.int i] ∧ i.natAbs.log2 < 1920 ∧ Q (.str (toString i)) H
def rListOf (K : PySem.W.Frag) : List V → Hp → VK → Prop := fun xs H Q => ∃ p ys, xs = [.ref p] ∧ (SqL K H p ys ∨ SqT K H p ys) ∧ ∀ l, H l = none → Q (.ref l) (upd H l (.lst ys))
def rTupOf (K : PySem.W.Frag) : List V → Hp → VK → Prop := fun xs H Q => ∃ p ys, xs = [.ref p] ∧ ((SqL K H p ys ∧ ∀ l, H l = none → Q (.ref l) (upd H l (.tup ys))) ∨ (SqT K H p ys ∧ Q (.ref p) H))
def genSXB (sc : Scope) : Bool := !sc.isCoroutine && sc.names.all (fun y => !decide (y.2 = .cell)) && decide (sc.names.lookup (".0" : Str) = some NameKind.local)
theorem gensx_by {sc : Scope} (h : genSXB sc = true) : GenSX sc := by
  unfold genSXB at h
  simp only [Bool.and_eq_true, Bool.not_eq_true', decide_eq_true_eq, decide_eq_false_iff_not, List.all_eq_true] at h
  obtain ⟨⟨h1, h2⟩, h3⟩ := h
  exact ⟨h1, h2, h3⟩
/-! ### steps -/
section
variable {K : PySem.W.Frag} {B H : Hp} {L L' : List (Addr × HO)} {I : List Im} {Q : VK} {σ : L2.St} {P : Addr} {tb : Array Value} {q : Str} {cs : List (Str × Addr)}
theorem s_lamC {d : LamD} (hC : Ctx K B H L I) (m : Pick (P, .tbl tb) L L') (f : Im.tab q tb ∈ I)
    (k : ∀ f c tb' H1, Ctx K B H1 ((P, .tbl tb') :: L') (.pr (fun H => H f = some (LamC f c q d.ps d.body d.sc (cloFrom cs d.sc.names []))) (fun _ _ s h => s _ _ h rfl) :: .pr (fun H => H c = some (LamX.CodeO c q)) (fun _ _ s h => s _ _ h rfl) :: .tab q tb' :: I) → Q (.ref f) H1) : tLamC P q cs d σ H Q := by
  have hC := hC.pick m
  have e0 := hC.get List.mem_cons_self
  refine ⟨(hC.tab f).tabS e0, fun f c H1 e t1 hf hc => ?_⟩
  obtain ⟨tb', h1, h2, h3⟩ := t1
  exact k f c tb' H1 ((((hC.but List.mem_cons_self .here rfl e h1).add (i := .tab q tb') ⟨h2, h3⟩).add (i := .pr (fun H => H c = some (LamX.CodeO c q)) (fun _ _ s h => s _ _ h rfl)) hc).add (i := .pr (fun H => H f = some (LamC f c q d.ps d.body d.sc (cloFrom cs d.sc.names []))) (fun _ _ s h => s _ _ h rfl)) hf)
theorem s_toldC {CS : Addr} {ret : Str} {i : Nat} {fam : List LamD} {t : Nat → XK → TE} {σX : L2.St} (f c : Addr) (k : Nat) (d : LamD) (hs : σ[i]? = some (some (.ref f))) (hj : fam[k]? = some d)
    (hf : H f = some (LamC f c q d.ps d.body d.sc (cloFrom cs d.sc.names []))) (hc : H c = some (LamX.CodeO c q)) (h : t k (kTold K CS ret Q) σX H Q) : tToldC K CS ret q cs i fam t σX σ H Q := ⟨f, c, k, d, hs, hj, hf, hc, h⟩
/-- get, the dict and its rows known -/
theorem s_get1 {td ty : TE} (h : td σ H fun x H1 => ∃ a, x = .ref a ∧ IsD H1 a ∧ ty σ H1 fun y H2 => ∃ o, DGetN H2 a y o ∧ Q (o.getD .non) H2) : tGet1 td ty σ H Q := h
theorem s_get2 {td ty tx : TE} (h : td σ H fun x H1 => ∃ a, x = .ref a ∧ IsD H1 a ∧ ty σ H1 fun y H2 => tx σ H2 fun z H3 => ∃ o, DGetN H3 a y o ∧ Q (o.getD z) H3) : tGet2 td ty tx σ H Q := h
end
end Ph
namespace Ph
open PySem PySem.Spec PyProof.Rows L2
section
variable {κ α β : Type} [DecidableEq κ]
def look (l : List (κ × α)) (k : κ) : Option α := (l.find? fun p => decide (p.1 = k)).map (·.2)
def putR (l : List (κ × α)) (k : κ) (v : α) : List (κ × α) := if (l.any fun p => decide (p.1 = k)) = true then l.map (fun p => if p.1 = k then (p.1, v) else p) else l ++ [(k, v)]
theorem look_nil {k : κ} : look ([] : List (κ × α)) k = none := rfl
theorem look_cons {p : κ × α} {r : List (κ × α)} {k : κ} : look (p :: r) k = if p.1 = k then some p.2 else look r k := by
  unfold look
  rw [List.find?_cons]
  by_cases h : p.1 = k <;> simp [h]
theorem look_any (k : κ) : ∀ l : List (κ × α), (l.any fun p => decide (p.1 = k)) = (look l k).isSome
  | [] => rfl
  | p :: r => by
    rw [List.any_cons, look_cons, look_any k r]
    by_cases h : p.1 = k <;> simp [h]
theorem look_app {k : κ} : ∀ {l m : List (κ × α)}, look (l ++ m) k = (look l k).or (look m k)
  | [], m => by simp [look_nil]
  | p :: r, m => by
    rw [List.cons_append, look_cons, look_cons, look_app]
    by_cases h : p.1 = k <;> simp [h]
theorem look_map_put {k j : κ} {v : α} : ∀ {l : List (κ × α)}, look (l.map fun p => if p.1 = k then (p.1, v) else p) j = if j = k then (look l j).map (fun _ => v) else look l j
  | [] => by simp [look_nil]
  | p :: r => by
    rw [List.map_cons, look_cons, look_map_put, look_cons]
    by_cases h : p.1 = k
    · by_cases h2 : j = k
      · subst h2; simp [h]
      · have h3 : ¬ p.1 = j := fun e => h2 (e.symm.trans h)
        have h4 : ¬ k = j := fun e => h2 e.symm
        simp [h, h2, h4]
    · by_cases h2 : j = k
      · subst h2; simp [h]
      · simp [h, h2]
theorem look_put {l : List (κ × α)} {k j : κ} {v : α} : look (putR l k v) j = if j = k then some v else look l j := by
  unfold putR
  rw [look_any]
  by_cases hs : (look l k).isSome = true
  · rw [if_pos hs, look_map_put]
    by_cases h : j = k
    · subst h
      rw [if_pos rfl, if_pos rfl]
      cases e : look l j with
      | none => rw [e] at hs; cases hs
      | some x => rfl
    · rw [if_neg h, if_neg h]
  · rw [if_neg hs, look_app, look_cons, look_nil]
    by_cases h : j = k
    · subst h
      have : look l j = none := by
        cases e : look l j with
        | none => rfl
        | some x => rw [e] at hs; exact absurd rfl hs
      rw [this]; simp
    · have h2 : ¬ k = j := fun e => h e.symm
      rw [if_neg h, if_neg h2]; simp
theorem putR_len {l : List (κ × α)} {k : κ} {v : α} : (putR l k v).length ≤ l.length + 1 := by
  unfold putR
  split
  · rw [List.length_map]; exact Nat.le_succ _
  · rw [List.length_append]; exact Nat.le_refl _
end
/-- rows with keys that are texts -/
def mK {α : Type} (f : α → V) (l : List (Str × α)) : List (Key × V) := l.map fun p => (.inr p.1, f p.2)
/-- rows with keys (text, int) -/
def mT {α : Type} (f : α → V) (l : List ((Str × Int) × α)) : List (List Key × V) := l.map fun p => ([.inr p.1.1, .inl p.1.2], f p.2)
section
variable {α : Type} {f : α → V}
theorem mK_len {l : List (Str × α)} : (mK f l).length = l.length := by unfold mK; rw [List.length_map]
theorem mT_len {l : List ((Str × Int) × α)} : (mT f l).length = l.length := by unfold mT; rw [List.length_map]
theorem valV_mK {k : Str} : ∀ {l : List (Str × α)}, valV (mK f l) (.inr k) = (look l k).map f
  | [] => rfl
  | p :: r => by
    show valV ((Sum.inr p.1, f p.2) :: mK f r) (.inr k) = _
    rw [look_cons]
    by_cases h : p.1 = k
    · rw [valV_pos (by simp [h]), if_pos h]; rfl
    · rw [valV_neg (by simpa using h), if_neg h, valV_mK]
theorem keyT_inj {a b : Str × Int} : ([Sum.inr a.1, Sum.inl a.2] : List Key) = [.inr b.1, .inl b.2] ↔ a = b := by
  obtain ⟨a1, a2⟩ := a
  obtain ⟨b1, b2⟩ := b
  constructor
  · intro h
    injection h with h1 h2
    injection h2 with h2 _
    injection h1 with h1
    injection h2 with h2
    exact Prod.ext h1 h2
  · intro h; cases h; rfl
theorem valV_mT {k : Str × Int} : ∀ {l : List ((Str × Int) × α)}, valV (mT f l) [.inr k.1, .inl k.2] = (look l k).map f
  | [] => rfl
  | p :: r => by
    show valV (([Sum.inr p.1.1, Sum.inl p.1.2], f p.2) :: mT f r) [.inr k.1, .inl k.2] = _
    rw [look_cons]
    by_cases h : p.1 = k
    · rw [valV_pos (keyT_inj.mpr h), if_pos h]; rfl
    · rw [valV_neg (fun e => h (keyT_inj.mp e)), if_neg h, valV_mT]
theorem putK_mK {l : List (Str × α)} {k : Str} {v : α} : putK (mK f l) (.inr k) (f v) = mK f (putR l k v) := by
  unfold putK putR
  rw [valV_any, valV_mK, look_any, Option.isSome_map]
  split
  · unfold mK
    rw [List.map_map, List.map_map]
    refine List.map_congr_left fun p _ => ?_
    by_cases h : p.1 = k <;> simp [h]
  · unfold mK
    rw [List.map_append]; rfl
theorem putK_mT {l : List ((Str × Int) × α)} {k : Str × Int} {v : α} : putK (mT f l) [.inr k.1, .inl k.2] (f v) = mT f (putR l k v) := by
  unfold putK putR
  rw [valV_any, valV_mT, look_any, Option.isSome_map]
  split
  · unfold mT
    rw [List.map_map, List.map_map]
    refine List.map_congr_left fun p _ => ?_
    by_cases h : p.1 = k
    · have e := keyT_inj.mpr h
      simp only [Function.comp, e, h, if_true]
    · have e : ¬ ([Sum.inr p.1.1, Sum.inl p.1.2] : List Key) = [.inr k.1, .inl k.2] := fun e => h (keyT_inj.mp e)
      simp only [Function.comp, e, h, if_false]
  · unfold mT
    rw [List.map_append]; rfl
end
/-! ### steps: reads and puts -/
section
variable {K : PySem.W.Frag} {B H : Hp} {L L' : List (Addr × HO)} {I : List Im} {Q : VK} {σ : L2.St} {d b : Addr} {α : Type} {f : α → V}
def kGet1 (ty : TE) (σ : L2.St) (Q : VK) : VK := fun x H1 => ∃ a, x = .ref a ∧ IsD H1 a ∧ ty σ H1 fun y H2 => ∃ o, DGetN H2 a y o ∧ Q (o.getD .non) H2
def kGetK1 (a : Addr) (Q : VK) : VK := fun y H2 => ∃ o, DGetN H2 a y o ∧ Q (o.getD .non) H2
def kGet2 (ty tx : TE) (σ : L2.St) (Q : VK) : VK := fun x H1 => ∃ a, x = .ref a ∧ IsD H1 a ∧ ty σ H1 fun y H2 => tx σ H2 fun z H3 => ∃ o, DGetN H3 a y o ∧ Q (o.getD z) H3
def kGetY2 (a : Addr) (tx : TE) (σ : L2.St) (Q : VK) : VK := fun y H2 => tx σ H2 fun z H3 => ∃ o, DGetN H3 a y o ∧ Q (o.getD z) H3
def kGetZ2 (a : Addr) (y : V) (Q : VK) : VK := fun z H3 => ∃ o, DGetN H3 a y o ∧ Q (o.getD z) H3
theorem s_g1 {td ty : TE} (h : td σ H (kGet1 ty σ Q)) : tGet1 td ty σ H Q := h
theorem s_g2 {td ty tx : TE} (h : td σ H (kGet2 ty tx σ Q)) : tGet2 td ty tx σ H Q := h
theorem s_g1K {ty : TE} {l : List (Key × V)} (m : H d = some (.dK l)) (h : ty σ H (kGetK1 d Q)) : kGet1 ty σ Q (.ref d) H := ⟨d, rfl, .inl ⟨l, .inl m⟩, h⟩
theorem s_g1T {ty : TE} {l : List (List Key × V)} (m : H d = some (.dT l)) (h : ty σ H (kGetK1 d Q)) : kGet1 ty σ Q (.ref d) H := ⟨d, rfl, .inr ⟨l, .inl m⟩, h⟩
theorem s_g2K {ty tx : TE} {l : List (Key × V)} (m : H d = some (.dK l)) (h : ty σ H (kGetY2 d tx σ Q)) : kGet2 ty tx σ Q (.ref d) H := ⟨d, rfl, .inl ⟨l, .inl m⟩, h⟩
theorem s_g2T {ty tx : TE} {l : List (List Key × V)} (m : H d = some (.dT l)) (h : ty σ H (kGetY2 d tx σ Q)) : kGet2 ty tx σ Q (.ref d) H := ⟨d, rfl, .inr ⟨l, .inl m⟩, h⟩
theorem s_g2y {tx : TE} {y : V} (h : tx σ H (kGetZ2 d y Q)) : kGetY2 d tx σ Q y H := h
theorem s_g1Kv {l : List (Str × α)} {x : Str} (m : H d = some (.dK (mK f l))) (q : Q (((look l x).map f).getD .non) H) : kGetK1 d Q (.str x) H := ⟨_, .inl (.inl ⟨_, .inr x, .inl m, rfl, rfl⟩), by rw [valV_mK]; exact q⟩
theorem s_g1Kn {l : List (Key × V)} (m : H d = some (.dK l)) (q : Q .non H) : kGetK1 d Q .non H := ⟨none, .inr ⟨rfl, rfl, l, .inl m⟩, q⟩
theorem s_g2Kv {l : List (Str × α)} {x : Str} {z : V} (m : H d = some (.dK (mK f l))) (q : Q (((look l x).map f).getD z) H) : kGetZ2 d (.str x) Q z H := ⟨_, .inl (.inl ⟨_, .inr x, .inl m, rfl, rfl⟩), by rw [valV_mK]; exact q⟩
theorem s_g2Kn {l : List (Key × V)} {z : V} (m : H d = some (.dK l)) (q : Q z H) : kGetZ2 d .non Q z H := ⟨none, .inr ⟨rfl, rfl, l, .inl m⟩, q⟩
theorem s_g2Tv {l : List ((Str × Int) × α)} {x : Str} {i : Int} {z : V} (m : H d = some (.dT (mT f l))) (mb : H b = some (.tup [.str x, .int i])) (q : Q (((look l (x, i)).map f).getD z) H) : kGetZ2 d (.ref b) Q z H :=
  ⟨_, .inl (.inr ⟨_, [.inr x, .inl i], b, .inl m, rfl, mb, rfl⟩), by rw [valV_mT (k := (x, i))]; exact q⟩
theorem s_g1Ke {l : List (Str × α)} {x : Str} {v : α} (m : H d = some (.dK (mK f l))) (e : look l x = some v) (q : Q (f v) H) : kGetK1 d Q (.str x) H := s_g1Kv m (by rw [e]; exact q)
theorem s_g1Kz {l : List (Str × α)} {x : Str} (m : H d = some (.dK (mK f l))) (e : look l x = none) (q : Q .non H) : kGetK1 d Q (.str x) H := s_g1Kv m (by rw [e]; exact q)
theorem s_g2Ke {l : List (Str × α)} {x : Str} {v : α} {z : V} (m : H d = some (.dK (mK f l))) (e : look l x = some v) (q : Q (f v) H) : kGetZ2 d (.str x) Q z H := s_g2Kv m (by rw [e]; exact q)
theorem s_g2Kz {l : List (Str × α)} {x : Str} {z : V} (m : H d = some (.dK (mK f l))) (e : look l x = none) (q : Q z H) : kGetZ2 d (.str x) Q z H := s_g2Kv m (by rw [e]; exact q)
theorem s_g2TI {l : List ((Str × Int) × Int)} {x : Str} {i z : Int} (m : H d = some (.dT (mT V.int l))) (mb : H b = some (.tup [.str x, .int i])) (q : Q (.int ((look l (x, i)).getD z)) H) : kGetZ2 d (.ref b) Q (.int z) H :=
  s_g2Tv m mb (by cases e : look l (x, i) with
    | none => rw [e] at q; exact q
    | some v => rw [e] at q; exact q)
theorem s_ninKe {l : List (Str × α)} {x : Str} {v : α} (m : H d = some (.dK (mK f l))) (e : look l x = some v) (q : Q (.bl false) H) : rNotInV K (.str x) (.ref d) H Q :=
  .inl (.inr (.inl ⟨d, _, rfl, .inl ⟨_, .inr x, .inl m, rfl, rfl⟩, by rw [valV_mK, Option.isSome_map, e]; exact q⟩))
theorem s_ninKz {l : List (Str × α)} {x : Str} (m : H d = some (.dK (mK f l))) (e : look l x = none) (q : Q (.bl true) H) : rNotInV K (.str x) (.ref d) H Q :=
  .inl (.inr (.inl ⟨d, _, rfl, .inl ⟨_, .inr x, .inl m, rfl, rfl⟩, by rw [valV_mK, Option.isSome_map, e]; exact q⟩))
/-- a tuple made, tracked -/
theorem s_tupP {xs : List V} (hC : Ctx K B H L I) (hz : xs.length ≤ 1000) (k : ∀ p H1, Ctx K B H1 L (.pr (fun H => H p = some (.tup xs)) (fun _ _ s h => s _ _ h rfl) :: .tup p xs :: I) → Q (.ref p) H1) : kTup Q xs H :=
  ⟨Nat.le_trans hz (by decide), fun p hp => k p _ ((hC.newT hp).add (i := .pr (fun H => H p = some (.tup xs)) (fun _ _ s h => s _ _ h rfl)) upd_same)⟩
/-- d[x] -/
theorem s_ixKv {l : List (Str × α)} {x : Str} {v : α} (m : H d = some (.dK (mK f l))) (e : look l x = some v) (q : Q (f v) H) : rIxU K (.ref d) (.str x) H Q :=
  .inr (.inr (.inr ⟨d, f v, rfl, .inl ⟨_, .inr x, .inl m, rfl, by rw [valV_mK, e]; rfl⟩, q⟩))
theorem s_ixTv {l : List ((Str × Int) × α)} {x : Str} {i : Int} {v : α} (m : H d = some (.dT (mT f l))) (mb : H b = some (.tup [.str x, .int i])) (e : look l (x, i) = some v) (q : Q (f v) H) : rIxU K (.ref d) (.ref b) H Q :=
  .inr (.inr (.inr ⟨d, f v, rfl, .inr ⟨_, [.inr x, .inl i], b, .inl m, rfl, mb, by rw [valV_mT (k := (x, i)), e]; rfl⟩, q⟩))
/-- x in d, x not in d -/
theorem s_inKv {l : List (Str × α)} {x : Str} (m : H d = some (.dK (mK f l))) (q : Q (.bl (look l x).isSome) H) : rInV K (.str x) (.ref d) H Q :=
  .inl (.inr (.inl ⟨d, _, rfl, .inl ⟨_, .inr x, .inl m, rfl, rfl⟩, by rw [valV_mK, Option.isSome_map]; exact q⟩))
theorem s_ninKv {l : List (Str × α)} {x : Str} (m : H d = some (.dK (mK f l))) (q : Q (.bl (!(look l x).isSome)) H) : rNotInV K (.str x) (.ref d) H Q :=
  .inl (.inr (.inl ⟨d, _, rfl, .inl ⟨_, .inr x, .inl m, rfl, rfl⟩, by rw [valV_mK, Option.isSome_map]; exact q⟩))
theorem s_inKn {l : List (Key × V)} (m : H d = some (.dK l)) (q : Q (.bl false) H) : rInV K .non (.ref d) H Q := .inr ⟨d, l, rfl, rfl, .inl m, q⟩
theorem s_ninKn {l : List (Key × V)} (m : H d = some (.dK l)) (q : Q (.bl true) H) : rNotInV K .non (.ref d) H Q := .inr ⟨d, l, rfl, rfl, .inl m, q⟩
/-- d[x] = v -/
theorem s_putKv {R : Hp → Prop} {l : List (Str × α)} {x : Str} {v : α} (hC : Ctx K B H L I) (m : H d = some (.dK (mK f l))) (z : l.length < 100000) (u : Up d (.dK (mK f (putR l x v))) L L') (q : ∀ H1, Ctx K B H1 L' I → R H1) : rSetU (.ref d) (.str x) (f v) H R :=
  .inr ⟨d, _, rfl, DPut.k (k := Sum.inr x) m (by rw [mK_len]; exact Nat.lt_of_lt_of_le z (by decide)), by rw [putK_mK]; exact q _ (hC.put u rfl)⟩
theorem s_putTv {R : Hp → Prop} {l : List ((Str × Int) × α)} {x : Str} {i : Int} {v : α} (hC : Ctx K B H L I) (m : H d = some (.dT (mT f l))) (mb : H b = some (.tup [.str x, .int i])) (z : l.length < 100000) (u : Up d (.dT (mT f (putR l (x, i) v))) L L') (q : ∀ H1, Ctx K B H1 L' I → R H1) : rSetU (.ref d) (.ref b) (f v) H R :=
  .inr ⟨d, _, rfl, DPut.t (k := [Sum.inr x, Sum.inl i]) m mb (by rw [mT_len]; exact Nat.lt_of_lt_of_le z (by decide)), by rw [putK_mT (k := (x, i))]; exact q _ (hC.put u rfl)⟩
end
theorem TDs_at {K : PySem.W.Frag} {H : Hp} {d : PyData} : ∀ {vs : List V} {ds : List PyData} {i : Nat}, TDs K H vs ds → ds[i]? = some d → ∃ v, vs[i]? = some v ∧ TD K H v d
  | _, _, 0, .cons a b, h => by
    have e : _ = d := Option.some.inj h
    exact ⟨_, rfl, e ▸ a⟩
  | _, _, i + 1, .cons a b, h => by
    obtain ⟨v, e, q⟩ := TDs_at (i := i) b (by simpa using h)
    exact ⟨v, by simpa using e, q⟩
  | _, _, _, .nil, h => by simp at h
theorem TDs_set {K : PySem.W.Frag} {H : Hp} {v : V} {d : PyData} : ∀ {vs : List V} {ds : List PyData} {i : Nat}, TDs K H vs ds → TD K H v d → TDs K H (vs.set i v) (ds.set i d)
  | _, _, 0, .cons a b, q => .cons q b
  | _, _, i + 1, .cons a b, q => .cons a (TDs_set (i := i) b q)
  | _, _, _, .nil, q => .nil
end Ph
namespace Ph
open PySem PySem.Spec PyProof.Rows L2
section
variable {K : PySem.W.Frag} {B H : Hp} {L L' F : List (Addr × HO)} {I : List Im} {Q : VK} {σ : L2.St} {A Cb Dc : L2.St → Hp → Prop} {Bt : VK}
variable {J : It} {n : Nat} {G : Hp → Prop} {Y : Nat → Hp → V → Hp → Prop}
theorem s_yes {Qb : Bool → Hp → Prop} (h : Qb true H) : tYes σ H Qb := h
/-! the walked thing -/
def kIt (K : PySem.W.Frag) (R : It → Hp → Prop) : VK := fun x H1 => ∃ a, x = .ref a ∧ (∃ xs, SqT K H1 a xs) ∧ R (Itt K a) H1
theorem s_it {tl : TE} {R : It → Hp → Prop} (h : tl σ H (kIt K R)) : iTup K tl σ H R := h
theorem s_itV {a : Addr} {xs : List V} {R : It → Hp → Prop} (m : SqT K H a xs) (h : R (Itt K a) H) : kIt K R (.ref a) H := ⟨a, rfl, ⟨xs, m⟩, h⟩
def kSeq (K : PySem.W.Frag) (R : It → Hp → Prop) : VK := fun x H1 => ∃ a, x = .ref a ∧ (((∃ xs, SqL K H1 a xs) ∧ R (Itl K a) H1) ∨ ((∃ xs, SqT K H1 a xs) ∧ R (Itt K a) H1))
theorem s_seqI {tl : TE} {R : It → Hp → Prop} (h : tl σ H (kSeq K R)) : iSeq K tl σ H R := h
theorem s_seqL {a : Addr} {xs : List V} {R : It → Hp → Prop} (m : H a = some (.lst xs)) (h : R (Itl K a) H) : kSeq K R (.ref a) H := ⟨a, rfl, .inl ⟨⟨xs, SqL.of m⟩, h⟩⟩
theorem s_seqT {a : Addr} {xs : List V} {R : It → Hp → Prop} (m : SqT K H a xs) (h : R (Itt K a) H) : kSeq K R (.ref a) H := ⟨a, rfl, .inr ⟨⟨xs, m⟩, h⟩⟩
def kKeys (R : It → Hp → Prop) : VK := fun x H1 => ∃ d o, x = .ref d ∧ ((∃ kvs, H1 d = some (.frz o (.dK kvs)) ∧ R (Itk d o kvs) H1) ∨ ∃ kvs, H1 d = some (.frz o (.dT kvs)) ∧ R (Itkt d o kvs) H1)
theorem s_keys {td : TE} {R : It → Hp → Prop} (h : td σ H (kKeys R)) : iKeys td σ H R := h
theorem s_keysK {d : Addr} {o : Obj} {kvs : List (Key × V)} {R : It → Hp → Prop} (m : H d = some (.frz o (.dK kvs))) (h : R (Itk d o kvs) H) : kKeys R (.ref d) H := ⟨d, o, rfl, .inl ⟨kvs, m, h⟩⟩
theorem s_keysT {d : Addr} {o : Obj} {kvs : List (List Key × V)} {R : It → Hp → Prop} (m : H d = some (.frz o (.dT kvs))) (h : R (Itkt d o kvs) H) : kKeys R (.ref d) H := ⟨d, o, rfl, .inr ⟨kvs, m, h⟩⟩
/-! for -/
theorem for_w (w : Walk J n G Y) {g : TG} {tb : TS} (Pv : Nat → L2.St → Hp → Prop) (h0 : Pv 0 σ H) (hG : ∀ i σ H, i ≤ n → Pv i σ H → G H)
    (hs : ∀ i x σ H H', i < n → Pv i σ H → Y i H x H' → g x σ H' fun σ2 H2 => tb ⟨Pv (i + 1), Bt, A, Pv (i + 1)⟩ σ2 H2) (hd : ∀ σ H, Pv n σ H → A σ H) : kFor g tb ⟨A, Bt, Cb, Dc⟩ σ J H :=
  for_it w (g := g) (tb := tb) (D := ⟨A, Bt, Cb, Dc⟩) Pv h0 hG hs hd
/-! comprehensions -/
theorem lc_w (w : Walk J n G Y) {g : TG} {tt : TT} {te : TE} {vs : List Nat} (hC : Ctx K B H L I) (Pv : Addr → Nat → Hp → Prop) (h0 : ∀ D H1, Ctx K B H1 ((D, .lst []) :: L) I → Pv D 0 H1) (hG : ∀ D i H, i ≤ n → Pv D i H → G H)
    (hs : ∀ i x D H H', i < n → Pv D i H → Y i H x H' → g x (wipe σ vs) H' fun σ2 H2 => wipe σ2 vs = wipe σ vs ∧ tt σ2 H2 fun b H3 => if b = true then te σ2 H3 (kApp D (Pv D (i + 1))) else Pv D (i + 1) H3)
    (hd : ∀ D H, Pv D n H → Q (.ref D) H) : kLc g tt te vs σ Q J H := fun D hD =>
  lc_it w (g := g) (tt := tt) (te := te) (vs := vs) (σ := σ) (H1 := H) (D := D) (Qd := fun H => Q (.ref D) H) (fun i H => Pv D i H) (h0 D _ (hC.newM hD rfl)) (fun i H hi p => hG D i H hi p)
    (fun i x H H' hi p y => hs i x D H H' hi p y) (fun H p => hd D H p)
/-! any, all -/
section
variable {b0 : Bool} {g g0 g1 : TG} {tt tt0 tt1 : TT} {te : TE} {vs vs1 : List Nat} {P : Addr} {wi wi1 : TI} {tb : Array Value}
abbrev cyA (b0 : Bool) : V → Prop := fun y => y = .bl (!b0)
abbrev pyA (b0 : Bool) (Q : VK) : List V → V → Hp → Prop := fun _ y H' => ∃ b, y = .bl b ∧ (b = b0 → Q (.bl b0) H')
def kAnyW (b0 : Bool) (g : TG) (tt : TT) (te : TE) (vs : List Nat) (σ : L2.St) (Q : VK) : It → Hp → Prop := fun J H2 => ∃ W : Nat → Nat → List V → Hp → Prop, (∃ m, W 0 m [] H2) ∧ GW J g tt te vs σ (cyA b0) (pyA b0 Q) (fun _ H' => Q (.bl (!b0)) H') W
def kAnyG (P : Addr) (b0 : Bool) (g : TG) (tt : TT) (te : TE) (vs : List Nat) (σ : L2.St) (Q : VK) : It → Hp → Prop := fun J H1 => GxR.TabG H1 P ∧ ∀ H2, GxR.Tabbed P H1 H2 → kAnyW b0 g tt te vs σ Q J H2
theorem s_anyX (h : wi σ H (kAnyG P b0 g tt te vs σ Q)) : tAnyX b0 P wi g tt te vs σ H Q := h
theorem tabbed_ctx {R : Hp → Prop} (hC : Ctx K B H L I) (m : Pick (P, .tbl tb) L L') (f : Im.tri tb ∈ I) (k : ∀ tb' H1, Ctx K B H1 ((P, .tbl tb') :: L') (.tri tb' :: I) → R H1) : GxR.TabG H P ∧ ∀ H2, GxR.Tabbed P H H2 → R H2 := by
  have hC := hC.pick m
  refine ⟨⟨tb, hC.get List.mem_cons_self, hC.tri f⟩, fun Hb hT => ?_⟩
  obtain ⟨⟨tb', h1, h2⟩, h3⟩ := hT
  exact k tb' Hb ((hC.but List.mem_cons_self .here rfl (fun b u n e => by rw [h3 b n]; exact e) h1).add (i := .tri tb') h2)
theorem s_anyGV (hC : Ctx K B H L I) (m : Pick (P, .tbl tb) L L') (f : Im.tri tb ∈ I) (k : ∀ tb' H1, Ctx K B H1 ((P, .tbl tb') :: L') (.tri tb' :: I) → kAnyW b0 g tt te vs σ Q J H1) : kAnyG P b0 g tt te vs σ Q J H := tabbed_ctx hC m f k
/-- one value of the generator: either it ends here, or on -/
def kAnyE (b0 : Bool) (ys : List V) (c : Nat) (Pn : Hp → Prop) (Q : VK) : VK := fun y H4 => ys.length < sizeLine ∧ pyA b0 Q ys y H4 ∧ (cyA b0 y → (ys ++ [y]).length ≤ c ∧ Pn H4)
theorem s_anyE {ys : List V} {c : Nat} {b : Bool} {Pn : Hp → Prop} (z : ys.length < c) (z2 : c ≤ 1000000) (h : if b = b0 then Q (.bl b0) H else Pn H) : kAnyE b0 ys c Pn Q (.bl b) H := by
  refine ⟨by rw [sizeLine_eq]; omega, ⟨b, rfl, fun e => ?_⟩, fun e => ⟨by rw [List.length_append]; exact z, ?_⟩⟩
  · rw [if_pos e] at h
    exact h
  · have e2 : b = !b0 := V.bl.inj e
    rw [if_neg (by rw [e2]; cases b0 <;> simp)] at h
    exact h
theorem any_w (w : Walk J n G Y) (hn : n ≤ 100000) (Pv : Nat → Hp → Prop) (h0 : Pv 0 H) (hG : ∀ i H, i ≤ n → Pv i H → G H)
    (hs : ∀ i x H H' (ys : List V), i < n → ys.length < i + 1 → i + 1 ≤ 1000000 → Pv i H → Y i H x H' → g x (wipe σ vs) H' fun σ2 H2 => wipe σ2 vs = wipe σ vs ∧ tt σ2 H2 fun b H3 => if b = true then te σ2 H3 (kAnyE b0 ys (i + 1) (Pv (i + 1)) Q) else ys.length ≤ i + 1 ∧ Pv (i + 1) H3)
    (hd : ∀ H, Pv n H → Q (.bl (!b0)) H) : kAnyW b0 g tt te vs σ Q J H := by
  refine ⟨fun i m ys H => m = n - i ∧ i ≤ n ∧ ys.length ≤ i ∧ Pv i H, ⟨n, by simp, Nat.zero_le _, Nat.le_refl _, h0⟩, ?_⟩
  rintro i m ys H ⟨rfl, hi, hy, p⟩
  by_cases hlt : i < n
  · refine .inr ⟨w.goes i H hlt (hG i H hi p), fun ys H => ys.length ≤ i + 1 ∧ Pv (i + 1) H, fun ys' H' p' => ⟨n - (i + 1), by omega, rfl, hlt, p'.1, p'.2⟩, fun x H' y => ?_⟩
    exact hs i x H H' ys hlt (by omega) (by omega) p (w.yields i H x H' hlt (hG i H hi p) y)
  · have e : i = n := by omega
    subst e
    exact .inl ⟨w.stops H (hG _ H hi p), hd H p⟩
/-! two fors -/
def kAnyW2 (b0 : Bool) (g0 : TG) (tt0 : TT) (wi1 : TI) (g1 : TG) (tt1 : TT) (te : TE) (vs vs1 : List Nat) (σ : L2.St) (Q : VK) : It → Hp → Prop := fun J H2 => ∃ W : Nat → Nat → List V → Hp → Prop, (∃ m, W 0 m [] H2) ∧ GW2 J g0 tt0 wi1 g1 tt1 te vs vs1 σ (cyA b0) (pyA b0 Q) (fun _ H' => Q (.bl (!b0)) H') W
def kAnyG2 (P : Addr) (b0 : Bool) (g0 : TG) (tt0 : TT) (wi1 : TI) (g1 : TG) (tt1 : TT) (te : TE) (vs vs1 : List Nat) (σ : L2.St) (Q : VK) : It → Hp → Prop := fun J H1 => GxR.TabG H1 P ∧ ∀ H2, GxR.Tabbed P H1 H2 → kAnyW2 b0 g0 tt0 wi1 g1 tt1 te vs vs1 σ Q J H2
theorem s_anyX2 (h : wi σ H (kAnyG2 P b0 g0 tt0 wi1 g1 tt1 te vs vs1 σ Q)) : tAnyX2 b0 P wi g0 tt0 wi1 g1 tt1 te vs vs1 σ H Q := h
theorem s_anyGV2 (hC : Ctx K B H L I) (m : Pick (P, .tbl tb) L L') (f : Im.tri tb ∈ I) (k : ∀ tb' H1, Ctx K B H1 ((P, .tbl tb') :: L') (.tri tb' :: I) → kAnyW2 b0 g0 tt0 wi1 g1 tt1 te vs vs1 σ Q J H1) : kAnyG2 P b0 g0 tt0 wi1 g1 tt1 te vs vs1 σ Q J H := tabbed_ctx hC m f k
/-- the inner for: at most 1000 turns -/
def kAnyIn (b0 : Bool) (g1 : TG) (tt1 : TT) (te : TE) (vs1 : List Nat) (σ : L2.St) (Q : VK) (ys : List V) (c : Nat) (Pn : Hp → Prop) : It → Hp → Prop := fun J1 H4 => ∃ W1 : Nat → Nat → List V → Hp → Prop, (∃ m, W1 0 m ys H4) ∧ GW J1 g1 tt1 te vs1 σ (cyA b0) (pyA b0 Q) (fun ys H => ys.length ≤ c ∧ Pn H) W1
theorem any_w2 (w : Walk J n G Y) (hn : n ≤ 100) (Pv : Nat → Hp → Prop) (h0 : Pv 0 H) (hG : ∀ i H, i ≤ n → Pv i H → G H)
    (hs : ∀ i x H H' (ys : List V), i < n → ys.length ≤ 1000 * i → i ≤ 100 → Pv i H → Y i H x H' → g0 x (wipe σ vs) H' fun σ2 H2 => wipe σ2 vs = wipe σ vs ∧ tt0 σ2 H2 fun b H3 =>
      if b = true then wi1 σ2 H3 (kAnyIn b0 g1 tt1 te vs1 σ2 Q ys (1000 * (i + 1)) (Pv (i + 1))) else ys.length ≤ 1000 * (i + 1) ∧ Pv (i + 1) H3)
    (hd : ∀ H, Pv n H → Q (.bl (!b0)) H) : kAnyW2 b0 g0 tt0 wi1 g1 tt1 te vs vs1 σ Q J H := by
  refine ⟨fun i m ys H => m = n - i ∧ i ≤ n ∧ ys.length ≤ 1000 * i ∧ Pv i H, ⟨n, by simp, Nat.zero_le _, Nat.le_refl _, h0⟩, ?_⟩
  rintro i m ys H ⟨rfl, hi, hy, p⟩
  by_cases hlt : i < n
  · refine .inr ⟨w.goes i H hlt (hG i H hi p), fun ys H => ys.length ≤ 1000 * (i + 1) ∧ Pv (i + 1) H, fun ys' H' p' => ⟨n - (i + 1), by omega, rfl, hlt, p'.1, p'.2⟩, fun x H' y => ?_⟩
    exact hs i x H H' ys hlt hy (by omega) p (w.yields i H x H' hlt (hG i H hi p) y)
  · have e : i = n := by omega
    subst e
    exact .inl ⟨w.stops H (hG _ H hi p), hd H p⟩
theorem any_in {ys : List V} {c : Nat} {Pn : Hp → Prop} (w : Walk J n G Y) (hn : n ≤ 1000) (hy : ys.length + 1000 ≤ c) (hc : c ≤ 1000000) (Pv : Nat → Hp → Prop) (h0 : Pv 0 H) (hG : ∀ i H, i ≤ n → Pv i H → G H)
    (hs : ∀ i x H H' (ys : List V) (c' : Nat), i < n → ys.length < c' → c' ≤ 1000000 → Pv i H → Y i H x H' → g1 x (wipe σ vs1) H' fun σ2 H2 => wipe σ2 vs1 = wipe σ vs1 ∧ tt1 σ2 H2 fun b H3 => if b = true then te σ2 H3 (kAnyE b0 ys c' (Pv (i + 1)) Q) else ys.length ≤ c' ∧ Pv (i + 1) H3)
    (hd : ∀ H, Pv n H → Pn H) : kAnyIn b0 g1 tt1 te vs1 σ Q ys c Pn J H := by
  refine ⟨fun i m zs H => m = n - i ∧ i ≤ n ∧ zs.length ≤ ys.length + i ∧ Pv i H, ⟨n, by simp, Nat.zero_le _, Nat.le_refl _, h0⟩, ?_⟩
  rintro i m zs H ⟨rfl, hi, hz, p⟩
  by_cases hlt : i < n
  · refine .inr ⟨w.goes i H hlt (hG i H hi p), fun zs H => zs.length ≤ ys.length + i + 1 ∧ Pv (i + 1) H, fun ys' H' p' => ⟨n - (i + 1), by omega, rfl, hlt, p'.1, p'.2⟩, fun x H' y => ?_⟩
    exact hs i x H H' zs (ys.length + i + 1) hlt (by omega) (by omega) p (w.yields i H x H' hlt (hG i H hi p) y)
  · have e : i = n := by omega
    subst e
    exact .inl ⟨w.stops H (hG _ H hi p), by omega, hd H p⟩
end
/-! locks -/
def kUnl (d : Addr) (od : Obj) (u : HO) (Q : VK) : VK := fun v H' => H' d = some (.frz od u) ∧ Q v (upd H' d u)
theorem s_lock {t : TE} {d : Addr} {u : HO} (hC : Ctx K B H L I) (m : Pick (d, u) L L') (mu : Mut (some u))
    (k : ∀ od H1, Stb H H1 → Ctx K H1 H1 L' (.pr (fun H => H d = some (.frz od u)) (fun _ _ s h => s _ _ h rfl) :: I) → t σ H1 (kUnl d od u Q)) : tLockE t σ H Q := by
  have hC := hC.pick m
  have e := hC.lay.at_ _ List.mem_cons_self
  refine ⟨d, u, hC.get List.mem_cons_self, mu, fun od => ?_⟩
  have s : Stb H (upd H d (.frz od u)) := Stb.put e.1 e.2
  refine k od _ s ?_
  refine ⟨⟨(List.nodup_cons.mp hC.lay.nd).2, fun p hp => ?_⟩, fun i hi => ?_, Stb.refl _⟩
  · have q := hC.lay.at_ p (List.mem_cons_of_mem _ hp)
    have ne : p.1 ≠ d := hC.lay.ne (u := p.2) hp
    exact ⟨by rw [upd_ne ne]; exact q.1, q.2⟩
  · rcases List.mem_cons.mp hi with rfl | hi
    · exact upd_same
    · exact Im.mono s (hC.im i hi)
/-- the lock goes: hC0 from before it -/
theorem unlock {d : Addr} {od : Obj} {u : HO} {H1 H2 : Hp} {L2' : List (Addr × HO)} {J : List Im} (hC0 : Ctx K B H L I) (m : Pick (d, u) L L') (e1 : Stb H H1) (hC : Ctx K H1 H2 L2' J) (f : H2 d = some (.frz od u)) :
    Ctx K B (upd H2 d u) ((d, u) :: L2') I := by
  have h0 := hC0.pick m
  have e := h0.lay.at_ _ List.mem_cons_self
  have s : Stb H (upd H2 d u) := fun b w hb mw => by
    have ne : b ≠ d := fun z => by
      rw [z, e.1] at hb
      cases hb
      rw [e.2] at mw
      cases mw
    rw [upd_ne ne]
    exact hC.sb b w (e1 b w hb mw) mw
  refine h0.moved s ⟨?_, fun p hp => ?_⟩
  · rw [List.map_cons, List.nodup_cons]
    refine ⟨fun z => ?_, hC.lay.nd⟩
    obtain ⟨q, hq, eq⟩ := List.mem_map.mp z
    have z2 := hC.lay.at_ q hq
    rw [eq, f] at z2
    have z3 := Option.some.inj z2.1
    have z4 := z2.2
    rw [← z3] at z4
    cases z4
  · rcases List.mem_cons.mp hp with rfl | hp
    · exact ⟨upd_same, e.2⟩
    · have q := hC.lay.at_ p hp
      have ne : p.1 ≠ d := fun z => by
        rw [z, f] at q
        have z3 := Option.some.inj q.1
        have z4 := q.2
        rw [← z3] at z4
        cases z4
      exact ⟨by rw [upd_ne ne]; exact q.1, q.2⟩
theorem s_unl {d : Addr} {od : Obj} {u : HO} {v : V} {H1 H2 : Hp} {L2' : List (Addr × HO)} {J : List Im} (hC0 : Ctx K B H L I) (m : Pick (d, u) L L') (e1 : Stb H H1) (hC : Ctx K H1 H2 L2' J) (f : H2 d = some (.frz od u)) (k : ∀ H3, Ctx K B H3 ((d, u) :: L2') I → Q v H3) : kUnl d od u Q v H2 := ⟨f, k _ (unlock hC0 m e1 hC f)⟩
end
/-- a dict's rows of plain data: both lists by the same keys -/
theorem look_TDs {K : PySem.W.Frag} {H : Hp} {κ α : Type} [DecidableEq κ] {d : α → PyData} {k : κ} : ∀ {vc : List (κ × V)} {cl : List (κ × α)}, vc.map (·.1) = cl.map (·.1) → TDs K H (vc.map (·.2)) (cl.map fun p => d p.2) →
    (look cl k = none ∧ look vc k = none) ∨ ∃ r v, look cl k = some r ∧ look vc k = some v ∧ TD K H v (d r)
  | [], [], _, _ => .inl ⟨rfl, rfl⟩
  | [], _ :: _, h, _ => by simp at h
  | _ :: _, [], h, _ => by simp at h
  | p :: r, q :: s, h1, h2 => by
    simp only [List.map_cons, List.cons.injEq] at h1 h2
    cases h2 with
    | cons a b =>
      rw [look_cons, look_cons]
      by_cases e : q.1 = k
      · rw [if_pos e, if_pos (h1.1.trans e)]
        exact .inr ⟨_, _, rfl, rfl, a⟩
      · rw [if_neg e, if_neg (fun z => e (h1.1.symm.trans z))]
        exact look_TDs h1.2 b
theorem any_keys {κ α : Type} [DecidableEq κ] {k : κ} (l : List (κ × α)) : (l.any fun p => decide (p.1 = k)) = ((l.map (·.1)).any fun x => decide (x = k)) := by
  rw [List.any_map]; rfl
theorem put_keys {κ α β : Type} [DecidableEq κ] {k : κ} {v : α} {w : β} {l : List (κ × α)} {m : List (κ × β)} (h : l.map (·.1) = m.map (·.1)) : (putR l k v).map (·.1) = (putR m k w).map (·.1) := by
  have e : ∀ {γ : Type} (u : γ) (l : List (κ × γ)), (l.map fun p => if p.1 = k then (p.1, u) else p).map (·.1) = l.map (·.1) := fun u l => by
    rw [List.map_map]
    refine List.map_congr_left fun p _ => ?_
    by_cases h : p.1 = k <;> simp [h]
  unfold putR
  rw [any_keys l, any_keys m, h]
  split
  · rw [e, e, h]
  · rw [List.map_append, List.map_append, h]; rfl
theorem mapput_TDs {K : PySem.W.Frag} {H : Hp} {κ α : Type} [DecidableEq κ] {d : α → PyData} {k : κ} {v : V} {x : α} (q : TD K H v (d x)) : ∀ {vc : List (κ × V)} {cl : List (κ × α)}, vc.map (·.1) = cl.map (·.1) → TDs K H (vc.map (·.2)) (cl.map fun p => d p.2) →
    TDs K H ((vc.map fun p => if p.1 = k then (p.1, v) else p).map (·.2)) ((cl.map fun p => if p.1 = k then (p.1, x) else p).map fun p => d p.2)
  | [], [], _, _ => .nil
  | [], _ :: _, h, _ => by simp at h
  | _ :: _, [], h, _ => by simp at h
  | p :: r, c :: s, h1, h2 => by
    simp only [List.map_cons, List.cons.injEq] at h1 h2
    cases h2 with
    | cons a b =>
      have ih := mapput_TDs (k := k) q h1.2 b
      simp only [List.map_cons]
      by_cases e : c.1 = k
      · rw [if_pos e, if_pos (h1.1.trans e)]
        exact .cons q ih
      · rw [if_neg e, if_neg (fun z => e (h1.1.symm.trans z))]
        exact .cons a ih
theorem put_TDs {K : PySem.W.Frag} {H : Hp} {κ α : Type} [DecidableEq κ] {d : α → PyData} {k : κ} {v : V} {x : α} {vc : List (κ × V)} {cl : List (κ × α)} (h1 : vc.map (·.1) = cl.map (·.1)) (h2 : TDs K H (vc.map (·.2)) (cl.map fun p => d p.2)) (q : TD K H v (d x)) :
    TDs K H ((putR vc k v).map (·.2)) ((putR cl k x).map fun p => d p.2) := by
  unfold putR
  rw [any_keys vc, any_keys cl, h1]
  split
  · exact mapput_TDs q h1 h2
  · rw [List.map_append, List.map_append]
    exact TDs.snoc h2 q
section
variable {K : PySem.W.Frag} {B H : Hp} {L L' : List (Addr × HO)} {I : List Im} {Q : VK} {d : Addr}
/-- tuple(..), list(..) -/
theorem s_tupOfL {p : Addr} {ys : List V} (hC : Ctx K B H L I) (m : H p = some (.lst ys)) (k : ∀ l H1, Ctx K B H1 L (.tup l ys :: I) → Q (.ref l) H1) : rTupOf K [.ref p] H Q := ⟨p, ys, rfl, .inl ⟨SqL.of m, fun l hl => k l _ (hC.newT hl)⟩⟩
theorem s_tupOfT {p : Addr} {ys : List V} (m : SqT K H p ys) (k : Q (.ref p) H) : rTupOf K [.ref p] H Q := ⟨p, ys, rfl, .inr ⟨m, k⟩⟩
theorem s_listOfL {p : Addr} {ys : List V} (hC : Ctx K B H L I) (m : H p = some (.lst ys)) (k : ∀ l H1, Ctx K B H1 ((l, .lst ys) :: L) I → Q (.ref l) H1) : rListOf K [.ref p] H Q := ⟨p, ys, rfl, .inl (SqL.of m), fun l hl => k l _ (hC.newM hl rfl)⟩
theorem s_listOfT {p : Addr} {ys : List V} (hC : Ctx K B H L I) (m : SqT K H p ys) (k : ∀ l H1, Ctx K B H1 ((l, .lst ys) :: L) I → Q (.ref l) H1) : rListOf K [.ref p] H Q := ⟨p, ys, rfl, .inr m, fun l hl => k l _ (hC.newM hl rfl)⟩
theorem s_putKi {R : Hp → Prop} {l : List (Str × V)} {x : Str} {v : V} (hC : Ctx K B H L I) (m : H d = some (.dK (mK id l))) (z : l.length < 100000) (u : Up d (.dK (mK id (putR l x v))) L L') (q : ∀ H1, Ctx K B H1 L' I → R H1) : rSetU (.ref d) (.str x) v H R := s_putKv (f := id) hC m z u q
end
theorem ints_dats (K : PySem.W.Frag) (H : Hp) : ∀ ns : List Int, TDs K H (ns.map V.int) (ns.map PyData.int)
  | [] => .nil
  | n :: r => .cons (.int n) (ints_dats K H r)
theorem ints_sh {n : Nat} : ∀ ns : List Int, ShL n (ns.map PyData.int)
  | [] => ShL.nil
  | i :: r => ShL.cons (Sh.int i) (ints_sh r)
theorem take_get {α : Type} {r : List α} {i : Nat} {p : α} (h : r[i]? = some p) : r.take (i + 1) = r.take i ++ [p] := by
  rw [List.take_succ, h]; rfl
end Ph
namespace Ph
open PySem PySem.Spec PyProof.Rows L2
def nS (i : Int) : Str := Str.ofString (toString i)
theorem nS_len {i : Int} (h0 : 0 ≤ i) (h1 : i < 1000) : (nS i).length ≤ 3 := by
  obtain ⟨n, rfl⟩ := Int.eq_ofNat_of_zero_le h0
  have h : ∀ n : Fin 1000, (nS (n.val : Int)).length ≤ 3 := by decide +kernel
  exact h ⟨n, by omega⟩
section
variable {K : PySem.W.Frag} {B H : Hp} {L L' : List (Addr × HO)} {I : List Im} {Q : VK} {σ : L2.St} {d b : Addr}
theorem s_strI {i : Int} (h0 : 0 ≤ i) (h1 : i < 1000) (h : Q (.str (nS i)) H) : rStrI [.int i] H Q :=
  ⟨i, rfl, Nat.lt_of_le_of_lt (Nat.log2_le_self _) (by omega), h⟩
theorem s_neNN (h : Q (.bl false) H) : rNeU K .non .non H Q := .inl ⟨rfl, by rw [show (!decide (V.non = V.non)) = false from by simp]; exact h⟩
theorem s_eqNN (h : Q (.bl true) H) : rEqU K .non .non H Q := .inl ⟨rfl, by rw [show (decide (V.non = V.non)) = true from by simp]; exact h⟩
theorem s_neNI {i : Int} (h : Q (.bl true) H) : rNeU K .non (.int i) H Q := .inl ⟨rfl, by rw [show (!decide (V.non = V.int i)) = true from by simp]; exact h⟩
theorem s_rep1 {l : Addr} {xs : List V} (hC : Ctx K B H L I) (m : H l = some (.lst xs)) (z : xs.length ≤ 1000) (k : ∀ p H1, Ctx K B H1 ((p, .lst xs) :: L) I → Q (.ref p) H1) : rMulU (.ref l) (.int 1) H Q :=
  ⟨l, 1, xs, rfl, rfl, m, by decide, by decide, by rw [sizeLine_eq]; show xs.length * 1 ≤ _; omega, fun p hp => by
    have e : (List.replicate (1 : Int).toNat xs).flatten = xs := by simp
    rw [e]
    exact k p _ (hC.newM hp rfl)⟩
theorem s_rep0 {l : Addr} {xs : List V} (hC : Ctx K B H L I) (m : H l = some (.lst xs)) (k : ∀ p H1, Ctx K B H1 ((p, .lst []) :: L) I → Q (.ref p) H1) : rMulU (.ref l) (.int 0) H Q :=
  ⟨l, 0, xs, rfl, rfl, m, by decide, by decide, by rw [sizeLine_eq]; show xs.length * 0 ≤ _; omega, fun p hp => by
    have e : (List.replicate (0 : Int).toNat xs).flatten = [] := by simp
    rw [e]
    exact k p _ (hC.newM hp rfl)⟩
theorem s_ixTF {α : Type} {f : α → V} {o : Obj} {l : List ((Str × Int) × α)} {x : Str} {i : Int} {v : α} (m : H d = some (.frz o (.dT (mT f l)))) (mb : H b = some (.tup [.str x, .int i])) (e : look l (x, i) = some v) (q : Q (f v) H) : rIxU K (.ref d) (.ref b) H Q :=
  .inr (.inr (.inr ⟨d, f v, rfl, .inr ⟨_, [.inr x, .inl i], b, .inr ⟨o, m⟩, rfl, mb, by rw [valV_mT (k := (x, i)), e]; rfl⟩, q⟩))
theorem s_ixStr {l : Addr} {xs : List V} {i : Int} (hm : H l = some (.lst xs)) (h0 : 0 ≤ i) (h1 : i < xs.length) (q : ∀ v, v ∈ xs → Q v H) : rIxU K (.ref l) (.int i) H Q := s_ixOne hm h0 h1 q
theorem s_inKe {α : Type} {f : α → V} {l : List (Str × α)} {x : Str} {v : α} (m : H d = some (.dK (mK f l))) (e : look l x = some v) (q : Q (.bl true) H) : rInV K (.str x) (.ref d) H Q := s_inKv m (by rw [e]; exact q)
theorem s_inKz {α : Type} {f : α → V} {l : List (Str × α)} {x : Str} (m : H d = some (.dK (mK f l))) (e : look l x = none) (q : Q (.bl false) H) : rInV K (.str x) (.ref d) H Q := s_inKv m (by rw [e]; exact q)
theorem s_ne00 {l m : Addr} (hl : H l = some (.lst [])) (hm : H m = some (.lst [])) (k : Q (.bl false) H) : rNeU K (.ref l) (.ref m) H Q := s_neE hl hm .nil .nil k
theorem s_eq00 {l m : Addr} (hl : H l = some (.lst [])) (hm : H m = some (.lst [])) (k : Q (.bl true) H) : rEqU K (.ref l) (.ref m) H Q := s_eqE hl hm .nil .nil k
theorem _root_.Ph.Lay.subl (y : Lay H L) (s : L'.Sublist L) : Lay H L' := ⟨(s.map _).nodup y.nd, fun p hp => y.at_ p (s.subset hp)⟩
theorem s_neSameD {x y : V} {d : PyData} {n : Nat} (h1 : Dp K H x d) (h2 : Dp K H y d) (s : Sh n d) (z : n ≤ 50) (k : Q (.bl false) H) : rNeU K x y H Q :=
  s_neD h1 h2 (s.shaped (by omega)) (s.shaped (by omega)) (by rw [eqv_self s]; exact k)
theorem s_eqSameD {x y : V} {d : PyData} {n : Nat} (h1 : Dp K H x d) (h2 : Dp K H y d) (s : Sh n d) (z : n ≤ 50) (k : Q (.bl true) H) : rEqU K x y H Q :=
  s_eqD h1 h2 (s.shaped (by omega)) (s.shaped (by omega)) (by rw [eqv_self s]; exact k)
theorem s_ltT {i j : Int} (p : i < j) (h : Q (.bl true) H) : rLt (.int i) (.int j) H Q := s_ltI (by rw [decide_eq_true p]; exact h)
theorem s_ltF {i j : Int} (p : ¬ i < j) (h : Q (.bl false) H) : rLt (.int i) (.int j) H Q := s_ltI (by rw [decide_eq_false p]; exact h)
theorem s_leT {i j : Int} (p : i ≤ j) (h : Q (.bl true) H) : rLe (.int i) (.int j) H Q := s_leI (by rw [decide_eq_true p]; exact h)
theorem s_leF {i j : Int} (p : ¬ i ≤ j) (h : Q (.bl false) H) : rLe (.int i) (.int j) H Q := s_leI (by rw [decide_eq_false p]; exact h)
theorem s_gtT {i j : Int} (p : j < i) (h : Q (.bl true) H) : rGt (.int i) (.int j) H Q := s_gtI (by rw [decide_eq_true p]; exact h)
theorem s_gtF {i j : Int} (p : ¬ j < i) (h : Q (.bl false) H) : rGt (.int i) (.int j) H Q := s_gtI (by rw [decide_eq_false p]; exact h)
theorem s_geT {i j : Int} (p : j ≤ i) (h : Q (.bl true) H) : rGe (.int i) (.int j) H Q := s_geI (by rw [decide_eq_true p]; exact h)
theorem s_geF {i j : Int} (p : ¬ j ≤ i) (h : Q (.bl false) H) : rGe (.int i) (.int j) H Q := s_geI (by rw [decide_eq_false p]; exact h)
theorem s_ixSet {l : Addr} {xs : List V} {n : Nat} {v : V} (m : H l = some (.lst (xs.set n v))) (h : n < xs.length) (q : Q v H) : rIxU K (.ref l) (.int (n : Nat)) H Q := s_ixL m (atI_nat (by rw [List.getElem?_set]; simp [h])) q
theorem cut3 (a b c d : V) : cutV [a, b, c, d] none (some 3) = [a, b, c] := rfl
theorem s_g1Kei {l : List (Str × V)} {x : Str} {v : V} (m : H d = some (.dK (mK id l))) (e : look l x = some v) (q : Q v H) : kGetK1 d Q (.str x) H := s_g1Ke m e q
theorem s_g2Kei {l : List (Str × V)} {x : Str} {v z : V} (m : H d = some (.dK (mK id l))) (e : look l x = some v) (q : Q v H) : kGetZ2 d (.str x) Q z H := s_g2Ke m e q
theorem s_ixKvi {l : List (Str × V)} {x : Str} {v : V} (m : H d = some (.dK (mK id l))) (e : look l x = some v) (q : Q v H) : rIxU K (.ref d) (.str x) H Q := s_ixKv m e q
theorem s_ixPut {α : Type} {f : α → V} {l : List (Str × α)} {x : Str} {v : α} (m : H d = some (.dK (mK f (putR l x v)))) (q : Q (f v) H) : rIxU K (.ref d) (.str x) H Q := s_ixKv m (by rw [look_put, if_pos rfl]) q
theorem s_ixPuti {l : List (Str × V)} {x : Str} {v : V} (m : H d = some (.dK (mK id (putR l x v)))) (q : Q v H) : rIxU K (.ref d) (.str x) H Q := s_ixPut m q
theorem s_dnewKm {α : Type} (f : α → V) (hC : Ctx K B H L I) (k : ∀ p H1, Ctx K B H1 ((p, .dK (mK f [])) :: L) I → Q (.ref p) H1) : tDNewK σ H Q := s_dnewK hC k
theorem _root_.Ph.Sel.toNil : ∀ L : List (Addr × HO), Sel L []
  | [] => .refl
  | _ :: r => .skip (Sel.toNil r)
theorem look_mem {κ α : Type} [DecidableEq κ] {k : κ} {v : α} {l : List (κ × α)} (h : (k, v) ∈ l) : ∃ w, look l k = some w := by
  have e := look_any k l
  have : (l.any fun p => decide (p.1 = k)) = true := List.any_eq_true.mpr ⟨_, h, decide_eq_true rfl⟩
  rw [this] at e
  exact Option.isSome_iff_exists.mp e.symm
theorem look_some {κ α : Type} [DecidableEq κ] {k : κ} {v : α} : ∀ {l : List (κ × α)}, look l k = some v → (k, v) ∈ l
  | p :: r, h => by
    rw [look_cons] at h
    by_cases e : p.1 = k
    · rw [if_pos e] at h
      cases h
      subst e
      exact List.mem_cons_self
    · rw [if_neg e] at h
      exact List.mem_cons_of_mem _ (look_some h)
end
end Ph
namespace Ph
open PySem PySem.Spec PyProof.Rows L2
/-- the comparison, wherever the old objects (those of h0) still stand -/
def CmpG (pr : Program) (wd : World) (Z : Around) (op : CmpOp) (h0 : Heap) (P : Nat → Value → Prop) (bt : Nat → Nat → Bool) : Prop :=
  ∀ i j x y (z : Shared) (Q E : Value → Shared → Prop), (∀ b o, h0.get? b = some o → z.heap.get? b = some o) → P i x → P j y → Q (.bool (bt i j)) z → wpAny (model pr wd) Z (richCompare op x y) Q E z
section
variable {pr : Program} {wd : World} {Z : Around} {R : Result → Shared → Prop} {it : Addr} {fp wr : List Addr} {n : Nat} {P : Nat → Value → Prop} {St : Nat → Heap → Prop} {h0 : Heap} {bt : Nat → Nat → Bool} {S : Addr}
theorem min_loopG (W : Walks pr wd Z.in1 it fp wr n P St) (cmp : CmpG pr wd Z.in1 .Lt h0 P bt) (hf : S ∉ fp) (hw0 : ∀ b ∈ wr, h0.get? b = none) (hS0 : h0.get? S = none) :
    ∀ (k j : Nat) (z : Shared) (best : Value) (c : Nat), n - (j + 1) = k → j + 1 ≤ n → St (j + 1) z.heap → P (argBest bt j) best → (∀ b o, h0.get? b = some o → z.heap.get? b = some o) →
    z.heap.get? S = some { cls := .type "list", dict := none, data := .seq #[best, best] c, slots := #[] } →
    (∀ v h' tk, P (argBest bt (n - 1)) v → (∀ b o, h0.get? b = some o → h'.get? b = some o) → R (.ok (.ret v)) { z with heap := h', toks := tk }) →
    codeAny (model pr wd) Z (.builtin "min.loop" ⟨[.ref it, .none, .ref S], []⟩) R z := by
  have hSw : S ∉ wr := fun q => hf (W.sub _ q)
  have nam : (toString "min" ++ toString ".loop" : String) = "min.loop" := by decide
  have kp : ∀ {g g' : Heap}, (∀ b o, h0.get? b = some o → g.get? b = some o) → (∀ b o, b ∉ wr → g.get? b = some o → g'.get? b = some o) → ∀ b o, h0.get? b = some o → g'.get? b = some o := fun k1 k2 b o e =>
    k2 b o (fun q => by rw [hw0 b q] at e; cases e) (k1 b o e)
  have kS : ∀ {g : Heap} (f : Obj → Obj), (∀ b o, h0.get? b = some o → g.get? b = some o) → ∀ b o, h0.get? b = some o → (g.update S f).get? b = some o := fun f k1 b o e =>
    (Heap.get?_update_other _ _ (fun q : S = b => by rw [← q, hS0] at e; cases e)).trans (k1 b o e)
  intro k
  induction k with
  | zero =>
    intro j z best c ek ej st pb old eS fin
    have last : j + 1 = n := by omega
    refine codeAny_builtin F.entry_min_loop ?_
    rw [Around.under_plainId F.plain_min_loop _]
    show wpAny _ Z.in1 (seqItems? (.ref S) >>= _) _ _ z
    refine wpAny_bind (wpAny_seqItems eS rfl ?_)
    show wpAny _ Z.in1 (tryCatch (pyNext (.ref it)) _ >>= _) _ _ z
    refine wpAny_bind (wpAny_tryCatch (W.done z _ _ (last ▸ st) fun g tk gk => ?_))
    have eS2 := gk S _ hSw eS
    show wpAny _ Z.in1 (updateSeq S (fun _ => #[]) >>= _) _ _ _
    refine wpAny_bind (wpAny_updateSeq eS2 rfl (wpAny_bind (wpAny_letGo (wpAny_pure ?_))))
    exact fin best _ tk (by rw [← last]; exact pb) (kS _ (kp old gk))
  | succ k ih =>
    intro j z best c ek ej st pb old eS fin
    have more : j + 1 < n := by omega
    refine codeAny_builtin F.entry_min_loop ?_
    rw [Around.under_plainId F.plain_min_loop _]
    show wpAny _ Z.in1 (seqItems? (.ref S) >>= _) _ _ z
    refine wpAny_bind (wpAny_seqItems eS rfl ?_)
    show wpAny _ Z.in1 (tryCatch (pyNext (.ref it)) _ >>= _) _ _ z
    refine wpAny_bind (wpAny_tryCatch (W.item (j + 1) z _ _ more st fun v g tk pv st2 gk => ?_))
    have eS2 := gk S _ hSw eS
    have old2 := kp old gk
    show wpAny _ Z.in1 (tryCatch (holding [v, v] (richCompare .Lt v best >>= _)) _ >>= _) _ _ _
    refine wpAny_bind (wpAny_tryCatch (wpAny_holding (wpAny_bind (cmp (j + 1) (argBest bt j) v best _ _ _ old2 pv pb ?_))))
    refine wpAny_bind (wpAny_holding (wpAny_truthy_bool (wpAny_bind (wpAny_letGo (wpAny_pure ?_)))))
    cases hb : bt (j + 1) (argBest bt j) with
    | true =>
      simp only [if_true]
      refine wpAny_bind (wpAny_updateSeq eS2 rfl (wpAny_bind (wpAny_letGo ?_)))
      rw [nam]
      refine wpAny_pure ⟨plainId_quiet F.plain_min_loop _, ih (j + 1) _ v _ (by omega) more (W.frame _ _ _ st2 fun b q o e => ?_) (by simp only [argBest, hb, if_true]; exact pv) (kS _ old2) (Heap.get?_update_self _ eS2 rfl) fun v2 g2 tk2 pv2 gk2 => fin v2 g2 tk2 pv2 gk2⟩
      exact (Heap.get?_update_other _ _ (fun e2 : S = b => hf (by rw [e2]; exact q))).trans e
    | false =>
      simp only [Bool.false_eq_true, if_false]
      refine wpAny_bind (wpAny_letGo ?_)
      rw [nam]
      exact wpAny_pure ⟨plainId_quiet F.plain_min_loop _, ih (j + 1) _ best c (by omega) more st2 (by simp only [argBest, hb, Bool.false_eq_true, if_false]; exact pb) old2 eS2 fun v2 g2 tk2 pv2 gk2 => fin v2 g2 tk2 pv2 gk2⟩
theorem min_firstG (W : Walks pr wd Z.in1 it fp wr n P St) (cmp : CmpG pr wd Z.in1 .Lt h0 P bt) (hf : S ∉ fp) (hw0 : ∀ b ∈ wr, h0.get? b = none) (hS0 : h0.get? S = none) (hn : 0 < n) {z : Shared} {c : Nat} (st : St 0 z.heap) (old : ∀ b o, h0.get? b = some o → z.heap.get? b = some o)
    (eS : z.heap.get? S = some { cls := .type "list", dict := none, data := .seq #[] c, slots := #[] })
    (fin : ∀ v h' tk, P (argBest bt (n - 1)) v → (∀ b o, h0.get? b = some o → h'.get? b = some o) → R (.ok (.ret v)) { z with heap := h', toks := tk }) :
    codeAny (model pr wd) Z (.builtin "min.loop" ⟨[.ref it, .none, .ref S], []⟩) R z := by
  have hSw : S ∉ wr := fun q => hf (W.sub _ q)
  have nam : (toString "min" ++ toString ".loop" : String) = "min.loop" := by decide
  refine codeAny_builtin F.entry_min_loop ?_
  rw [Around.under_plainId F.plain_min_loop _]
  show wpAny _ Z.in1 (seqItems? (.ref S) >>= _) _ _ z
  refine wpAny_bind (wpAny_seqItems eS rfl ?_)
  show wpAny _ Z.in1 (tryCatch (pyNext (.ref it)) _ >>= _) _ _ z
  refine wpAny_bind (wpAny_tryCatch (W.item 0 z _ _ hn st fun v g tk pv st2 gk => ?_))
  have eS2 := gk S _ hSw eS
  show wpAny _ Z.in1 (updateSeq S (fun _ => #[v, v]) >>= _) _ _ _
  refine wpAny_bind (wpAny_updateSeq eS2 rfl ?_)
  rw [nam]
  refine wpAny_pure ⟨plainId_quiet F.plain_min_loop _, min_loopG W cmp hf hw0 hS0 _ 0 _ v _ rfl hn (W.frame _ _ _ st2 fun b q o e => ?_) pv (fun b o e => ?_) (Heap.get?_update_self _ eS2 rfl) fun v2 g2 tk2 pv2 gk2 => fin v2 g2 tk2 pv2 gk2⟩
  · exact (Heap.get?_update_other _ _ (fun e2 : S = b => hf (by rw [e2]; exact q))).trans e
  · exact (Heap.get?_update_other _ _ (fun q : S = b => by rw [← q, hS0] at e; cases e)).trans (gk b o (fun q => by rw [hw0 b q] at e; cases e) (old b o e))
end
section
variable {pr : Program} {wd : World} {Z : Around} {E : Value → Shared → Prop} {z : Shared} {l : Addr} {xs : Array Value} {bt : Nat → Nat → Bool} {P : Nat → Value → Prop}
theorem min_listG {Q : Value → Shared → Prop} (hh : Z.handled = none) (hl : z.heap.IsList l xs) (hn : 0 < xs.size) (cmp : CmpG pr wd Z.in1 .Lt z.heap (fun i v => xs[i]? = some v) bt)
    (fin : ∀ v h' tk, xs[argBest bt (xs.size - 1)]? = some v → (∀ b o, z.heap.get? b = some o → h'.get? b = some o) → Q v { z with heap := h', toks := tk }) :
    wpAny (model pr wd) Z (call (.builtin "min") [.ref l]) Q E z := by
  have nam : (toString "min" ++ toString ".loop" : String) = "min.loop" := by decide
  have hlt : l < z.heap.objs.size := by obtain ⟨_, e, _⟩ := hl; exact Heap.lt_size e
  refine call_function_tree F.kind_min F.plain_min F.entry_min (F.args_min1 _) ?_
  show wpAny _ Z.in1 (Builtin.Builtins.bindParams "min" ["key", "default"] 0 ⟨[], []⟩ >>= _) _ _ z
  refine wpAny_bind (wpAny_of_eq (show Builtin.Builtins.bindParams "min" ["key", "default"] 0 ⟨[], []⟩ = pure [none, none] from rfl) (wpAny_bind (wpAny_pure ?_)))
  refine wpAny_bind (wpAny_pyIter_list hl ?_)
  refine wpAny_bind (wpAny_newObj_type ?_)
  rw [nam]
  have sz : (z.heap.push { cls := .type "list_iterator", data := .fields #[.ref l, .int 0 0] }).objs.size = z.heap.objs.size + 1 := Heap.size_push ..
  have no : ∀ {b : Addr}, z.heap.objs.size ≤ b → z.heap.get? b = none := fun {b} hb => by
    cases e : z.heap.get? b with
    | none => rfl
    | some o => exact absurd (Heap.lt_size e) (Nat.not_lt.mpr hb)
  have st0 : ((z.heap.push { cls := .type "list_iterator", data := .fields #[.ref l, .int 0 0] }).push { cls := .type "list", data := .seq #[] }).IsListIter z.heap.objs.size l 0 ∧ ((z.heap.push { cls := .type "list_iterator", data := .fields #[.ref l, .int 0 0] }).push { cls := .type "list", data := .seq #[] }).IsList l xs :=
    ⟨⟨_, Heap.get?_push_of_some _ (Heap.get?_push_size _ rfl), rfl, rfl⟩, (hl.push _).push _⟩
  refine wpAny_pure ⟨plainId_quiet F.plain_min_loop _, min_firstG (h0 := z.heap) (S := (z.heap.push { cls := .type "list_iterator", data := .fields #[.ref l, .int 0 0] }).objs.size) (Walks.list (A := Z.in1) hh z.heap.objs.size l (Nat.ne_of_lt hlt) xs) cmp (fun q => ?_) (fun b q => ?_) (no (by rw [sz]; exact Nat.le_succ _)) hn st0 (fun b o e => Heap.get?_push_of_some _ (Heap.get?_push_of_some _ e)) (Heap.get?_push_size _ rfl) fun v g tk pv gk => fin v g tk pv gk⟩
  · simp only [List.mem_cons, List.not_mem_nil, or_false] at q
    rcases q with q | q
    · rw [sz] at q; exact absurd q (Nat.ne_of_gt (Nat.lt_succ_self _))
    · rw [sz] at q; exact absurd hlt (Nat.not_lt.mpr (q ▸ Nat.le_succ _))
  · simp only [List.mem_cons, List.not_mem_nil, or_false] at q
    exact no (by rw [q]; exact Nat.le_refl _)
end
section
variable {pr : Program} {wd : World} {Z : Around} {R : Result → Shared → Prop} {it : Addr} {fp wr : List Addr} {n : Nat} {P : Nat → Value → Prop} {St : Nat → Heap → Prop} {h0 : Heap} {bt : Nat → Nat → Bool} {S : Addr}
theorem max_loopG (W : Walks pr wd Z.in1 it fp wr n P St) (cmp : CmpG pr wd Z.in1 .Gt h0 P bt) (hf : S ∉ fp) (hw0 : ∀ b ∈ wr, h0.get? b = none) (hS0 : h0.get? S = none) :
    ∀ (k j : Nat) (z : Shared) (best : Value) (c : Nat), n - (j + 1) = k → j + 1 ≤ n → St (j + 1) z.heap → P (argBest bt j) best → (∀ b o, h0.get? b = some o → z.heap.get? b = some o) →
    z.heap.get? S = some { cls := .type "list", dict := none, data := .seq #[best, best] c, slots := #[] } →
    (∀ v h' tk, P (argBest bt (n - 1)) v → (∀ b o, h0.get? b = some o → h'.get? b = some o) → R (.ok (.ret v)) { z with heap := h', toks := tk }) →
    codeAny (model pr wd) Z (.builtin "max.loop" ⟨[.ref it, .none, .ref S], []⟩) R z := by
  have hSw : S ∉ wr := fun q => hf (W.sub _ q)
  have nam : (toString "max" ++ toString ".loop" : String) = "max.loop" := by decide
  have kp : ∀ {g g' : Heap}, (∀ b o, h0.get? b = some o → g.get? b = some o) → (∀ b o, b ∉ wr → g.get? b = some o → g'.get? b = some o) → ∀ b o, h0.get? b = some o → g'.get? b = some o := fun k1 k2 b o e =>
    k2 b o (fun q => by rw [hw0 b q] at e; cases e) (k1 b o e)
  have kS : ∀ {g : Heap} (f : Obj → Obj), (∀ b o, h0.get? b = some o → g.get? b = some o) → ∀ b o, h0.get? b = some o → (g.update S f).get? b = some o := fun f k1 b o e =>
    (Heap.get?_update_other _ _ (fun q : S = b => by rw [← q, hS0] at e; cases e)).trans (k1 b o e)
  intro k
  induction k with
  | zero =>
    intro j z best c ek ej st pb old eS fin
    have last : j + 1 = n := by omega
    refine codeAny_builtin F.entry_max_loop ?_
    rw [Around.under_plainId F.plain_max_loop _]
    show wpAny _ Z.in1 (seqItems? (.ref S) >>= _) _ _ z
    refine wpAny_bind (wpAny_seqItems eS rfl ?_)
    show wpAny _ Z.in1 (tryCatch (pyNext (.ref it)) _ >>= _) _ _ z
    refine wpAny_bind (wpAny_tryCatch (W.done z _ _ (last ▸ st) fun g tk gk => ?_))
    have eS2 := gk S _ hSw eS
    show wpAny _ Z.in1 (updateSeq S (fun _ => #[]) >>= _) _ _ _
    refine wpAny_bind (wpAny_updateSeq eS2 rfl (wpAny_bind (wpAny_letGo (wpAny_pure ?_))))
    exact fin best _ tk (by rw [← last]; exact pb) (kS _ (kp old gk))
  | succ k ih =>
    intro j z best c ek ej st pb old eS fin
    have more : j + 1 < n := by omega
    refine codeAny_builtin F.entry_max_loop ?_
    rw [Around.under_plainId F.plain_max_loop _]
    show wpAny _ Z.in1 (seqItems? (.ref S) >>= _) _ _ z
    refine wpAny_bind (wpAny_seqItems eS rfl ?_)
    show wpAny _ Z.in1 (tryCatch (pyNext (.ref it)) _ >>= _) _ _ z
    refine wpAny_bind (wpAny_tryCatch (W.item (j + 1) z _ _ more st fun v g tk pv st2 gk => ?_))
    have eS2 := gk S _ hSw eS
    have old2 := kp old gk
    show wpAny _ Z.in1 (tryCatch (holding [v, v] (richCompare .Gt v best >>= _)) _ >>= _) _ _ _
    refine wpAny_bind (wpAny_tryCatch (wpAny_holding (wpAny_bind (cmp (j + 1) (argBest bt j) v best _ _ _ old2 pv pb ?_))))
    refine wpAny_bind (wpAny_holding (wpAny_truthy_bool (wpAny_bind (wpAny_letGo (wpAny_pure ?_)))))
    cases hb : bt (j + 1) (argBest bt j) with
    | true =>
      simp only [if_true]
      refine wpAny_bind (wpAny_updateSeq eS2 rfl (wpAny_bind (wpAny_letGo ?_)))
      rw [nam]
      refine wpAny_pure ⟨plainId_quiet F.plain_max_loop _, ih (j + 1) _ v _ (by omega) more (W.frame _ _ _ st2 fun b q o e => ?_) (by simp only [argBest, hb, if_true]; exact pv) (kS _ old2) (Heap.get?_update_self _ eS2 rfl) fun v2 g2 tk2 pv2 gk2 => fin v2 g2 tk2 pv2 gk2⟩
      exact (Heap.get?_update_other _ _ (fun e2 : S = b => hf (by rw [e2]; exact q))).trans e
    | false =>
      simp only [Bool.false_eq_true, if_false]
      refine wpAny_bind (wpAny_letGo ?_)
      rw [nam]
      exact wpAny_pure ⟨plainId_quiet F.plain_max_loop _, ih (j + 1) _ best c (by omega) more st2 (by simp only [argBest, hb, Bool.false_eq_true, if_false]; exact pb) old2 eS2 fun v2 g2 tk2 pv2 gk2 => fin v2 g2 tk2 pv2 gk2⟩
theorem max_firstG (W : Walks pr wd Z.in1 it fp wr n P St) (cmp : CmpG pr wd Z.in1 .Gt h0 P bt) (hf : S ∉ fp) (hw0 : ∀ b ∈ wr, h0.get? b = none) (hS0 : h0.get? S = none) (hn : 0 < n) {z : Shared} {c : Nat} (st : St 0 z.heap) (old : ∀ b o, h0.get? b = some o → z.heap.get? b = some o)
    (eS : z.heap.get? S = some { cls := .type "list", dict := none, data := .seq #[] c, slots := #[] })
    (fin : ∀ v h' tk, P (argBest bt (n - 1)) v → (∀ b o, h0.get? b = some o → h'.get? b = some o) → R (.ok (.ret v)) { z with heap := h', toks := tk }) :
    codeAny (model pr wd) Z (.builtin "max.loop" ⟨[.ref it, .none, .ref S], []⟩) R z := by
  have hSw : S ∉ wr := fun q => hf (W.sub _ q)
  have nam : (toString "max" ++ toString ".loop" : String) = "max.loop" := by decide
  refine codeAny_builtin F.entry_max_loop ?_
  rw [Around.under_plainId F.plain_max_loop _]
  show wpAny _ Z.in1 (seqItems? (.ref S) >>= _) _ _ z
  refine wpAny_bind (wpAny_seqItems eS rfl ?_)
  show wpAny _ Z.in1 (tryCatch (pyNext (.ref it)) _ >>= _) _ _ z
  refine wpAny_bind (wpAny_tryCatch (W.item 0 z _ _ hn st fun v g tk pv st2 gk => ?_))
  have eS2 := gk S _ hSw eS
  show wpAny _ Z.in1 (updateSeq S (fun _ => #[v, v]) >>= _) _ _ _
  refine wpAny_bind (wpAny_updateSeq eS2 rfl ?_)
  rw [nam]
  refine wpAny_pure ⟨plainId_quiet F.plain_max_loop _, max_loopG W cmp hf hw0 hS0 _ 0 _ v _ rfl hn (W.frame _ _ _ st2 fun b q o e => ?_) pv (fun b o e => ?_) (Heap.get?_update_self _ eS2 rfl) fun v2 g2 tk2 pv2 gk2 => fin v2 g2 tk2 pv2 gk2⟩
  · exact (Heap.get?_update_other _ _ (fun e2 : S = b => hf (by rw [e2]; exact q))).trans e
  · exact (Heap.get?_update_other _ _ (fun q : S = b => by rw [← q, hS0] at e; cases e)).trans (gk b o (fun q => by rw [hw0 b q] at e; cases e) (old b o e))
end
section
variable {pr : Program} {wd : World} {Z : Around} {E : Value → Shared → Prop} {z : Shared} {l : Addr} {xs : Array Value} {bt : Nat → Nat → Bool} {P : Nat → Value → Prop}
theorem max_listG {Q : Value → Shared → Prop} (hh : Z.handled = none) (hl : z.heap.IsList l xs) (hn : 0 < xs.size) (cmp : CmpG pr wd Z.in1 .Gt z.heap (fun i v => xs[i]? = some v) bt)
    (fin : ∀ v h' tk, xs[argBest bt (xs.size - 1)]? = some v → (∀ b o, z.heap.get? b = some o → h'.get? b = some o) → Q v { z with heap := h', toks := tk }) :
    wpAny (model pr wd) Z (call (.builtin "max") [.ref l]) Q E z := by
  have nam : (toString "max" ++ toString ".loop" : String) = "max.loop" := by decide
  have hlt : l < z.heap.objs.size := by obtain ⟨_, e, _⟩ := hl; exact Heap.lt_size e
  refine call_function_tree F.kind_max F.plain_max F.entry_max (F.args_max1 _) ?_
  show wpAny _ Z.in1 (Builtin.Builtins.bindParams "max" ["key", "default"] 0 ⟨[], []⟩ >>= _) _ _ z
  refine wpAny_bind (wpAny_of_eq (show Builtin.Builtins.bindParams "max" ["key", "default"] 0 ⟨[], []⟩ = pure [none, none] from rfl) (wpAny_bind (wpAny_pure ?_)))
  refine wpAny_bind (wpAny_pyIter_list hl ?_)
  refine wpAny_bind (wpAny_newObj_type ?_)
  rw [nam]
  have sz : (z.heap.push { cls := .type "list_iterator", data := .fields #[.ref l, .int 0 0] }).objs.size = z.heap.objs.size + 1 := Heap.size_push ..
  have no : ∀ {b : Addr}, z.heap.objs.size ≤ b → z.heap.get? b = none := fun {b} hb => by
    cases e : z.heap.get? b with
    | none => rfl
    | some o => exact absurd (Heap.lt_size e) (Nat.not_lt.mpr hb)
  have st0 : ((z.heap.push { cls := .type "list_iterator", data := .fields #[.ref l, .int 0 0] }).push { cls := .type "list", data := .seq #[] }).IsListIter z.heap.objs.size l 0 ∧ ((z.heap.push { cls := .type "list_iterator", data := .fields #[.ref l, .int 0 0] }).push { cls := .type "list", data := .seq #[] }).IsList l xs :=
    ⟨⟨_, Heap.get?_push_of_some _ (Heap.get?_push_size _ rfl), rfl, rfl⟩, (hl.push _).push _⟩
  refine wpAny_pure ⟨plainId_quiet F.plain_max_loop _, max_firstG (h0 := z.heap) (S := (z.heap.push { cls := .type "list_iterator", data := .fields #[.ref l, .int 0 0] }).objs.size) (Walks.list (A := Z.in1) hh z.heap.objs.size l (Nat.ne_of_lt hlt) xs) cmp (fun q => ?_) (fun b q => ?_) (no (by rw [sz]; exact Nat.le_succ _)) hn st0 (fun b o e => Heap.get?_push_of_some _ (Heap.get?_push_of_some _ e)) (Heap.get?_push_size _ rfl) fun v g tk pv gk => fin v g tk pv gk⟩
  · simp only [List.mem_cons, List.not_mem_nil, or_false] at q
    rcases q with q | q
    · rw [sz] at q; exact absurd q (Nat.ne_of_gt (Nat.lt_succ_self _))
    · rw [sz] at q; exact absurd hlt (Nat.not_lt.mpr (q ▸ Nat.le_succ _))
  · simp only [List.mem_cons, List.not_mem_nil, or_false] at q
    exact no (by rw [q]; exact Nat.le_refl _)
end
end Ph
namespace Ph
open PySem PySem.Spec PyProof.Rows L2
inductive Sc
  | i (n : Int)
  | s (x : Str)
  | b (k : Bool)
deriving DecidableEq
def Sc.v : Sc → V
  | .i n => .int n
  | .s x => .str x
  | .b k => .bl k
/-- of one kind -/
def Sc.like : Sc → Sc → Bool
  | .i _, .i _ => true
  | .s _, .s _ => true
  | .b _, .b _ => true
  | _, _ => false
def Sc.lt : Sc → Sc → Bool
  | .i m, .i n => decide (m < n)
  | .s x, .s y => decide (x.cps.toList < y.cps.toList)
  | .b p, .b q => !p && q
  | _, _ => false
def likeL : List Sc → List Sc → Bool
  | [], [] => true
  | x :: r, y :: t => x.like y && likeL r t
  | _, _ => false
/-- x before y, by the first place where they differ -/
def lexS : List Sc → List Sc → Bool
  | x :: r, y :: t => if x = y then lexS r t else x.lt y
  | [], _ :: _ => true
  | _, [] => false
def minIx (ks : List (List Sc)) : Nat := PySem.argBest (fun i j => lexS (ks.getD i []) (ks.getD j [])) (ks.length - 1)
def maxIx (ks : List (List Sc)) : Nat := PySem.argBest (fun i j => lexS (ks.getD j []) (ks.getD i [])) (ks.length - 1)
theorem likeL_len : ∀ {r t : List Sc}, likeL r t = true → r.length = t.length
  | [], [], _ => rfl
  | _ :: r, _ :: t, h => by
    simp only [likeL, Bool.and_eq_true] at h
    rw [List.length_cons, List.length_cons, likeL_len h.2]
  | [], _ :: _, h => by cases h
  | _ :: _, [], h => by cases h
theorem likeL_at : ∀ {r t : List Sc} {j : Nat} {x y : Sc}, likeL r t = true → r[j]? = some x → t[j]? = some y → x.like y = true
  | u :: r, w :: t, 0, x, y, h, e1, e2 => by
    simp only [likeL, Bool.and_eq_true] at h
    cases e1; cases e2
    exact h.1
  | u :: r, w :: t, j + 1, x, y, h, e1, e2 => by
    simp only [likeL, Bool.and_eq_true] at h
    exact likeL_at (j := j) h.2 e1 e2
  | [], _, _, _, _, _, e1, _ => by simp at e1
  | _ :: _, [], _, _, _, _, _, e2 => by simp at e2
/-- the model's way through two tuples is lexS -/
theorem lexAt_lexS {e r : Nat → Bool} : ∀ (ps qs as bs : List Sc) (i : Nat), i = ps.length → ps.length = qs.length → likeL as bs = true →
    (∀ j x y, (ps ++ as)[j]? = some x → (qs ++ bs)[j]? = some y → e j = decide (x = y) ∧ (x ≠ y → r j = x.lt y)) → Ob.lexAt e r false i as.length = lexS as bs
  | ps, qs, [], [], i, hi, hl, hk, h => rfl
  | ps, qs, x :: as, y :: bs, i, hi, hl, hk, h => by
    simp only [likeL, Bool.and_eq_true] at hk
    have h0 := h i x y (by rw [hi, List.getElem?_append_right (Nat.le_refl _), Nat.sub_self]; rfl) (by rw [hi, hl, List.getElem?_append_right (Nat.le_refl _), Nat.sub_self]; rfl)
    have ih := lexAt_lexS (e := e) (r := r) (ps ++ [x]) (qs ++ [y]) as bs (i + 1) (by rw [List.length_append, hi]; rfl) (by rw [List.length_append, List.length_append, hl]; rfl) hk.2 (fun j u w e1 e2 => h j u w (by simpa using e1) (by simpa using e2))
    rw [List.length_cons, Ob.lexAt_succ, h0.1, lexS]
    by_cases q : x = y
    · rw [if_pos q, if_pos (decide_eq_true q), ih]
    · rw [if_neg q, if_neg (by rw [decide_eq_false q]; exact Bool.false_ne_true), h0.2 q]
  | _, _, [], _ :: _, _, _, _, hk, _ => by cases hk
  | _, _, _ :: _, [], _, _, _, hk, _ => by cases hk
theorem Vals.at_ {xs : List V} {its : List Value} (h : Vals xs its) {j : Nat} {x : V} (e : xs[j]? = some x) : ∃ u, its[j]? = some u ∧ RelV x u := by
  induction h generalizing j with
  | nil => simp at e
  | cons a t ih =>
    cases j with
    | zero =>
      cases e
      exact ⟨_, rfl, a⟩
    | succ j => exact ih e
theorem relV_sc {x : Sc} {u : Value} (h : RelV x.v u) : match x with | .i n => ∃ t, u = .int n t | .s z => ∃ t, u = .str z t | .b k => u = .bool k := by
  cases x with
  | i n => exact h
  | s z => exact h
  | b k => exact h
theorem sc_eqAt {A : Around} {s : Shared} {x y : Sc} {u w : Value} (hx : RelV x.v u) (hy : RelV y.v w) (k : x.like y = true) : SeqAt.EqAt A s u w (decide (x = y)) := by
  cases x with
  | i n =>
    cases y with
    | i m =>
      obtain ⟨t, rfl⟩ := hx
      obtain ⟨t', rfl⟩ := hy
      rw [show decide (Sc.i n = Sc.i m) = (n == m) from by by_cases q : n = m <;> simp [q]]
      exact SeqAt.EqAt.int_int _ _ _ _
    | _ => cases k
  | s z =>
    cases y with
    | s z' =>
      obtain ⟨t, rfl⟩ := hx
      obtain ⟨t', rfl⟩ := hy
      rw [show decide (Sc.s z = Sc.s z') = (z == z') from by by_cases q : z = z' <;> simp [q]]
      exact SeqAt.EqAt.str_str _ _ _ _
    | _ => cases k
  | b p =>
    cases y with
    | b q =>
      obtain rfl : u = .bool p := hx
      obtain rfl : w = .bool q := hy
      rw [show decide (Sc.b p = Sc.b q) = (p == q) from by cases p <;> cases q <;> rfl]
      exact SeqAt.EqAt.bool_bool _ _
    | _ => cases k
/-- no bools (their order is not wanted here) -/
def Sc.nob : Sc → Bool
  | .b _ => false
  | _ => true
theorem sc_ltAt {A : Around} {s : Shared} {x y : Sc} {u w : Value} (hx : RelV x.v u) (hy : RelV y.v w) (k : x.like y = true) (n : x.nob = true) : Ob.RcOp .Lt A s u w (x.lt y) := by
  cases x with
  | i n =>
    cases y with
    | i m =>
      obtain ⟨t, rfl⟩ := hx
      obtain ⟨t', rfl⟩ := hy
      exact Ob.RcOp.lt_int _ _ _ _
    | _ => cases k
  | s z =>
    cases y with
    | s z' =>
      obtain ⟨t, rfl⟩ := hx
      obtain ⟨t', rfl⟩ := hy
      exact fun _ _ _ _ h => lt_str h
    | _ => cases k
  | b p => cases n
/-- the rows xs are tuples of the scalars ks -/
inductive TupS (K : PySem.W.Frag) (H : Hp) : List V → List (List Sc) → Prop
  | nil : TupS K H [] []
  | cons {t : Addr} {d : List Sc} {xs : List V} {ks : List (List Sc)} : SqT K H t (d.map Sc.v) → TupS K H xs ks → TupS K H (.ref t :: xs) (d :: ks)
theorem TupS.length {K : PySem.W.Frag} {H : Hp} : ∀ {xs ks}, TupS K H xs ks → xs.length = ks.length
  | _, _, .nil => rfl
  | _, _, .cons _ r => congrArg Nat.succ r.length
theorem TupS.at_ {K : PySem.W.Frag} {H : Hp} : ∀ {xs ks} {i : Nat} {x : V}, TupS K H xs ks → xs[i]? = some x → ∃ t d, x = .ref t ∧ ks[i]? = some d ∧ SqT K H t (d.map Sc.v)
  | _, _, 0, _, .cons a _, e => by
    cases e
    exact ⟨_, _, rfl, rfl, a⟩
  | _, _, i + 1, _, .cons _ r, e => r.at_ (i := i) e
  | _, _, _, _, .nil, e => by simp at e
def allLike (ks : List (List Sc)) : Prop := ∀ a, a ∈ ks → (∀ c, c ∈ a → c.nob = true) ∧ ∀ b, b ∈ ks → likeL a b = true
def rMinT (K : PySem.W.Frag) : List V → Hp → VK → Prop := fun vs H Q => ∃ (a : Addr) (xs : List V) (ks : List (List Sc)), vs = [.ref a] ∧ SqL K H a xs ∧ TupS K H xs ks ∧ allLike ks ∧ 0 < ks.length ∧ ∀ v, xs[minIx ks]? = some v → Q v H
section
variable {X : Cx}
theorem row_items {pins : List (Addr × Obj)} {σ : L2.St} {H : Hp} {s : Shared} {t : Addr} {d : List Sc} (I : Inv X pins σ H s) (h : SqT X.K H t (d.map Sc.v)) : ∃ its : List Value, s.heap.IsTuple t its.toArray ∧ its.length = d.length ∧ ∀ (j : Nat) (x : Sc), d[j]? = some x → ∃ u, its[j]? = some u ∧ RelV x.v u := by
  obtain ⟨its, r1, p1, _⟩ := I.tuple h
  refine ⟨its, p1, ?_, fun j x e => Vals.at_ (j := j) (x := x.v) r1 (by rw [List.getElem?_map, e]; rfl)⟩
  rw [← Vals.length r1, List.length_map]
theorem lt_rows {A : Around} {s : Shared} {l b : Addr} {x y : List Sc} {p q : List Value} (hu : A.units < cLine) (hl : s.heap.IsTuple l p.toArray) (hb : s.heap.IsTuple b q.toArray) (lx : p.length = x.length) (ly : q.length = y.length)
    (hx : ∀ (j : Nat) (c : Sc), x[j]? = some c → ∃ u, p[j]? = some u ∧ RelV c.v u) (hy : ∀ (j : Nat) (c : Sc), y[j]? = some c → ∃ u, q[j]? = some u ∧ RelV c.v u) (k : likeL x y = true) (nb : ∀ c, c ∈ x → c.nob = true) : Ob.RcOp .Lt A s (.ref l) (.ref b) (lexS x y) := by
  have hxy := likeL_len k
  have g : ∀ j (h1 : j < p.toArray.size) (h2 : j < q.toArray.size), ∃ c e, x[j]? = some c ∧ y[j]? = some e ∧ RelV c.v p.toArray[j] ∧ RelV e.v q.toArray[j] := fun j h1 h2 => by
    rw [List.size_toArray] at h1 h2
    have h3 : j < x.length := by omega
    have h4 : j < y.length := by omega
    obtain ⟨u, e1, r1⟩ := hx j _ (List.getElem?_eq_getElem h3)
    obtain ⟨w, e2, r2⟩ := hy j _ (List.getElem?_eq_getElem h4)
    refine ⟨_, _, List.getElem?_eq_getElem h3, List.getElem?_eq_getElem h4, ?_, ?_⟩
    · rw [List.getElem?_eq_getElem h1] at e1
      have := Option.some.inj e1
      rw [List.getElem_toArray, this]
      exact r1
    · rw [List.getElem?_eq_getElem h2] at e2
      have := Option.some.inj e2
      rw [List.getElem_toArray, this]
      exact r2
  have R := Ob.RcOp.tuples_lt (A := A) (s := s) (e := fun j => decide (x[j]? = y[j]?)) (r := fun j => match x[j]?, y[j]? with | some c, some e => c.lt e | _, _ => false) hl hb hu
    (fun j h1 h2 => by
      obtain ⟨c, e, e1, e2, r1, r2⟩ := g j h1 h2
      rw [show decide (x[j]? = y[j]?) = decide (c = e) from by rw [e1, e2]; simp]
      exact sc_eqAt r1 r2 (likeL_at k e1 e2))
    (fun j h1 h2 _ => by
      obtain ⟨c, e, e1, e2, r1, r2⟩ := g j h1 h2
      simp only [e1, e2]
      exact sc_ltAt r1 r2 (likeL_at k e1 e2) (nb c (List.mem_of_getElem? e1)))
  rw [List.size_toArray, List.size_toArray, lx, ly, ← hxy, Nat.min_self, decide_eq_false (Nat.lt_irrefl _)] at R
  rw [lexAt_lexS [] [] x y 0 rfl rfl k (fun j c e e1 e2 => by
    simp only [List.nil_append] at e1 e2
    rw [e1, e2]
    exact ⟨by simp, fun _ => rfl⟩)] at R
  exact R
theorem row_at' {xs : List V} {its : List Value} {i : Nat} {u : Value} (h : Vals xs its) (e : its.toArray[i]? = some u) : ∃ x, xs[i]? = some x ∧ RelV x u := by
  rw [List.getElem?_toArray] at e
  induction h generalizing i with
  | nil => simp at e
  | cons a t ih =>
    cases i with
    | zero =>
      cases e
      exact ⟨_, rfl, a⟩
    | succ i => exact ih e
theorem tup_keep {g g' : Heap} {t : Addr} {p : Array Value} (h : g.IsTuple t p) (k : ∀ b o, g.get? b = some o → g'.get? b = some o) : g'.IsTuple t p := by
  obtain ⟨o, e, c, n, d⟩ := h
  exact ⟨o, k _ _ e, c, n, d⟩
theorem cmp_rows {pins : List (Addr × Obj)} {σ : L2.St} {H : Hp} {s : Shared} {A : Around} {xs : List V} {ks : List (List Sc)} {its : List Value} (I : Inv X pins σ H s) (hu : A.units < cLine) (rv : Vals xs its) (ht : TupS X.K H xs ks) (al : allLike ks) :
    CmpG X.prog X.w A .Lt s.heap (fun i v => its.toArray[i]? = some v) (fun i j => lexS (ks.getD i []) (ks.getD j [])) := by
  intro i j x y z Q E old px py q
  obtain ⟨x', ex, rx⟩ := row_at' rv px
  obtain ⟨y', ey, ry⟩ := row_at' rv py
  obtain ⟨t1, d1, rfl, k1, s1⟩ := ht.at_ ex
  obtain ⟨t2, d2, rfl, k2, s2⟩ := ht.at_ ey
  obtain rfl : x = Value.ref t1 := rx
  obtain rfl : y = Value.ref t2 := ry
  obtain ⟨p1, h1, l1, g1⟩ := row_items I s1
  obtain ⟨p2, h2, l2, g2⟩ := row_items I s2
  have m1 := List.mem_of_getElem? k1
  have m2 := List.mem_of_getElem? k2
  have e1 : ks.getD i [] = d1 := by rw [List.getD_eq_getElem?_getD, k1]; rfl
  have e2 : ks.getD j [] = d2 := by rw [List.getD_eq_getElem?_getD, k2]; rfl
  have w := lt_rows (A := A) (s := z) hu (tup_keep h1 old) (tup_keep h2 old) l1 l2 g1 g2 ((al d1 m1).2 d2 m2) (al d1 m1).1
  dsimp only at q
  rw [e1, e2] at q
  exact w X.prog X.w E Q q
theorem cr_minT (hc : X.calm = true) (hu : X.A.units + 64 < cLine) : CallR X (.builtin "min") (rMinT X.K) := by
  intro pins s σ H vs us Q I r h
  obtain ⟨a, xs, ks, rfl, hs, ht, al, hn, q⟩ := h
  obtain ⟨its, rv, hl, _⟩ := I.list hs
  obtain ⟨u, rfl, ru⟩ := vals1 r
  obtain rfl : u = Value.ref a := ru
  have len : its.toArray.size = ks.length := by rw [List.size_toArray, ← Vals.length rv, ht.length]
  refine min_listG (I.ok.hd hc) hl.isList (by rw [len]; exact hn) (cmp_rows I (by show X.A.units + 1 < cLine; omega) rv ht al) fun v g tk e gk => ?_
  rw [len] at e
  obtain ⟨x, ex, rx⟩ := row_at' rv e
  exact ⟨x, H, I.kept (t' := tk) gk, rx, q x ex⟩
end
end Ph
namespace Ph
open PySem PySem.Spec PyProof.Rows L2
/-! ### two sorted lists of the same things -/
theorem perm_uniq {α : Type} {r : α → α → Prop} (anti : ∀ a b, r a b → r b a → a = b) : ∀ {l m : List α}, l.Perm m → l.Pairwise r → m.Pairwise r → l = m
  | [], m, p, _, _ => (List.Perm.eq_nil p.symm).symm
  | x :: l, [], p, _, _ => absurd p.length_eq (by simp)
  | x :: l, y :: m, p, hl, hm => by
    have e : x = y := by
      rcases List.mem_cons.mp (p.mem_iff.mp (List.mem_cons_self (a := x) (l := l))) with e | hx
      · exact e
      · rcases List.mem_cons.mp (p.mem_iff.mpr (List.mem_cons_self (a := y) (l := m))) with e | hy
        · exact e.symm
        · exact anti x y ((List.pairwise_cons.mp hl).1 y hy) ((List.pairwise_cons.mp hm).1 x hx)
    subst e
    rw [perm_uniq anti p.cons_inv (List.pairwise_cons.mp hl).2 (List.pairwise_cons.mp hm).2]
theorem ltCps_irrefl : ∀ a : List Nat, ltCps a a = false
  | [] => rfl
  | x :: r => by simp [ltCps, ltCps_irrefl r]
theorem ltCps_trans : ∀ {a b c : List Nat}, ltCps a b = true → ltCps b c = true → ltCps a c = true
  | [], [], _, h, _ => by cases h
  | [], _ :: _, [], _, h => by cases h
  | [], _ :: _, _ :: _, _, _ => rfl
  | _ :: _, [], _, h, _ => by cases h
  | _ :: _, _ :: _, [], _, h => by cases h
  | x :: r, y :: s, z :: t, h1, h2 => by
    simp only [ltCps, Bool.or_eq_true, decide_eq_true_eq, Bool.and_eq_true, beq_iff_eq] at h1 h2 ⊢
    rcases h1 with h1 | ⟨rfl, h1⟩
    · rcases h2 with h2 | ⟨rfl, h2⟩
      · exact .inl (by omega)
      · exact .inl h1
    · rcases h2 with h2 | ⟨rfl, h2⟩
      · exact .inl h2
      · exact .inr ⟨rfl, ltCps_trans h1 h2⟩
theorem ltCps_tri : ∀ {a b : List Nat}, ltCps a b = false → ltCps b a = false → a = b
  | [], [], _, _ => rfl
  | [], _ :: _, h, _ => by cases h
  | _ :: _, [], _, h => by cases h
  | x :: r, y :: s, h1, h2 => by
    simp only [ltCps, Bool.or_eq_false_iff, decide_eq_false_iff_not, Bool.and_eq_false_iff, beq_eq_false_iff_ne] at h1 h2
    have e : x = y := by omega
    subst e
    rcases h1.2 with q | q
    · exact absurd rfl q
    · rcases h2.2 with q2 | q2
      · exact absurd rfl q2
      · rw [ltCps_tri q q2]
theorem ltCps_of_le {a b c : List Nat} (h1 : ltCps b a = false) (h2 : ltCps c b = false) : ltCps c a = false := by
  cases h : ltCps c a with
  | false => rfl
  | true =>
    cases hb : ltCps a b with
    | true => rw [ltCps_trans h hb] at h2; cases h2
    | false =>
      have e := ltCps_tri hb h1
      subst e
      rw [h] at h2; cases h2
/-- a not behind b -/
def leT (a b : Str) : Prop := ltCps b.cps.toList a.cps.toList = false
theorem leT_anti (a b : Str) (h1 : leT a b) (h2 : leT b a) : a = b := by
  have e := ltCps_tri h2 h1
  cases a; cases b
  simp only [Str.mk.injEq] at e ⊢
  exact Array.toList_inj.mp e
theorem leT_trans {a b c : Str} (h1 : leT a b) (h2 : leT b c) : leT a c := ltCps_of_le h1 h2
theorem risingS_pw : ∀ {p : Str} {l : List Str}, risingS p l = true → (p :: l).Pairwise leT
  | p, [], _ => List.pairwise_singleton _ _
  | p, x :: r, h => by
    simp only [risingS, Bool.and_eq_true, Bool.not_eq_true'] at h
    have ih := risingS_pw h.2
    refine List.pairwise_cons.mpr ⟨fun y hy => ?_, ih⟩
    rcases List.mem_cons.mp hy with rfl | hy
    · exact h.1
    · exact leT_trans h.1 ((List.pairwise_cons.mp ih).1 y hy)
theorem sortedS_pw : ∀ {l : List Str}, sortedS l = true → l.Pairwise leT
  | [], _ => .nil
  | _ :: _, h => risingS_pw h
/-- the sorted list, by insertion -/
def insT (x : Str) : List Str → List Str
  | [] => [x]
  | y :: r => if ltCps y.cps.toList x.cps.toList = true then y :: insT x r else x :: y :: r
def srtT : List Str → List Str
  | [] => []
  | x :: r => insT x (srtT r)
theorem insT_perm (x : Str) : ∀ l, (insT x l).Perm (x :: l)
  | [] => List.Perm.refl _
  | y :: r => by
    unfold insT
    split
    · exact (List.Perm.cons _ (insT_perm x r)).trans (List.Perm.swap _ _ _)
    · exact List.Perm.refl _
theorem srtT_perm : ∀ l, (srtT l).Perm l
  | [] => List.Perm.refl _
  | x :: r => (insT_perm x _).trans (List.Perm.cons _ (srtT_perm r))
theorem insT_pw (x : Str) : ∀ {l}, l.Pairwise leT → (insT x l).Pairwise leT
  | [], _ => List.pairwise_singleton _ _
  | y :: r, h => by
    unfold insT
    split
    · rename_i q
      refine List.pairwise_cons.mpr ⟨fun z hz => ?_, insT_pw x (List.pairwise_cons.mp h).2⟩
      rcases List.mem_cons.mp ((insT_perm x r).mem_iff.mp hz) with rfl | hz
      · cases e : ltCps z.cps.toList y.cps.toList with
        | false => exact e
        | true => have := ltCps_trans q e; rw [ltCps_irrefl] at this; cases this
      · exact (List.pairwise_cons.mp h).1 z hz
    · rename_i q
      have q : leT x y := by unfold leT; simpa using q
      refine List.pairwise_cons.mpr ⟨fun z hz => ?_, h⟩
      rcases List.mem_cons.mp hz with rfl | hz
      · exact q
      · exact leT_trans q ((List.pairwise_cons.mp h).1 z hz)
theorem srtT_pw : ∀ l, (srtT l).Pairwise leT
  | [] => .nil
  | x :: r => insT_pw x (srtT_pw r)
theorem srtT_of {ys xs : List Str} (p : ys.Perm xs) (h : sortedS ys = true) : ys = srtT xs := perm_uniq leT_anti (p.trans (srtT_perm xs).symm) (sortedS_pw h) (srtT_pw xs)
theorem srtT_id {xs : List Str} (h : xs.Pairwise leT) : srtT xs = xs := perm_uniq leT_anti (srtT_perm xs) (srtT_pw xs) h
def insZ (x : Int) : List Int → List Int
  | [] => [x]
  | y :: r => if y < x then y :: insZ x r else x :: y :: r
def srtZ : List Int → List Int
  | [] => []
  | x :: r => insZ x (srtZ r)
theorem insZ_perm (x : Int) : ∀ l, (insZ x l).Perm (x :: l)
  | [] => List.Perm.refl _
  | y :: r => by
    unfold insZ
    split
    · exact (List.Perm.cons _ (insZ_perm x r)).trans (List.Perm.swap _ _ _)
    · exact List.Perm.refl _
theorem srtZ_perm : ∀ l, (srtZ l).Perm l
  | [] => List.Perm.refl _
  | x :: r => (insZ_perm x _).trans (List.Perm.cons _ (srtZ_perm r))
theorem insZ_pw (x : Int) : ∀ {l : List Int}, l.Pairwise (· ≤ ·) → (insZ x l).Pairwise (· ≤ ·)
  | [], _ => List.pairwise_singleton _ _
  | y :: r, h => by
    unfold insZ
    have h1 := List.pairwise_cons.mp h
    split
    · refine List.pairwise_cons.mpr ⟨fun z hz => ?_, insZ_pw x h1.2⟩
      rcases List.mem_cons.mp ((insZ_perm x r).mem_iff.mp hz) with rfl | hz
      · omega
      · exact h1.1 z hz
    · refine List.pairwise_cons.mpr ⟨fun z hz => ?_, h⟩
      rcases List.mem_cons.mp hz with rfl | hz
      · omega
      · have := h1.1 z hz
        omega
theorem srtZ_pw : ∀ l, (srtZ l).Pairwise (· ≤ ·)
  | [] => .nil
  | x :: r => insZ_pw x (srtZ_pw r)
theorem srtZ_of {ys xs : List Int} (p : ys.Perm xs) (h : ys.Pairwise (· ≤ ·)) : ys = srtZ xs := perm_uniq (fun a b h1 h2 => Int.le_antisymm h1 h2) (p.trans (srtZ_perm xs).symm) h (srtZ_pw xs)
theorem srtZ_id {xs : List Int} (h : xs.Pairwise (· ≤ ·)) : srtZ xs = xs := perm_uniq (fun a b h1 h2 => Int.le_antisymm h1 h2) (srtZ_perm xs) (srtZ_pw xs) h
/-! ### the rules -/
def rSortDS : List V → Hp → VK → Prop := fun xs H Q => ∃ (a : Addr) (kvs : List (Key × V)) (ks : List Str), xs = [.ref a] ∧ Rd H a (.dK kvs) ∧ kvs.map (·.1) = ks.map Sum.inr ∧ ks.length < 64 ∧ ∀ ys p, ys.Perm ks → sortedS ys = true → H p = none → Q (.ref p) (upd H p (.lst (ys.map V.str)))
def rSortDI : List V → Hp → VK → Prop := fun xs H Q => ∃ (a : Addr) (kvs : List (Key × V)) (ks : List Int), xs = [.ref a] ∧ Rd H a (.dK kvs) ∧ kvs.map (·.1) = ks.map Sum.inl ∧ ks.length < 64 ∧ ∀ (ys : List Int) (p : Addr), ys.Perm ks → ys.Pairwise (· ≤ ·) → H p = none → Q (.ref p) (upd H p (.lst (ys.map V.int)))
def rSortU (K : PySem.W.Frag) : List V → Hp → VK → Prop := fun xs H Q => rSortedI K xs H Q ∨ rSortedS K xs H Q ∨ rSortDS xs H Q ∨ rSortDI xs H Q
def rMin1 (K : PySem.W.Frag) : List V → Hp → VK → Prop := fun xs H Q => rMin K xs H Q ∨ rMinT K xs H Q
def rDictP (K : PySem.W.Frag) : List V → Hp → VK → Prop := fun xs H Q => ∃ (a : Addr) (ps : List Addr) (kvs : List (Key × V)), xs = [.ref a] ∧ SqL K H a (ps.map V.ref) ∧ Paired (fun p kv => SqT K H p [kV kv.1, kv.2]) ps kvs ∧ ∀ p, H p = none → Q (.ref p) (upd H p (.dK (mergeK [] kvs)))
def rDictD : List V → Hp → VK → Prop := fun xs H Q => ∃ (a : Addr) (kvs : List (Key × V)), xs = [.ref a] ∧ Rd H a (.dK kvs) ∧ ∀ p, H p = none → Q (.ref p) (upd H p (.dK kvs))
def rDictU (K : PySem.W.Frag) : List V → Hp → VK → Prop := fun xs H Q => rDictP K xs H Q ∨ rDictD xs H Q
def rIsB : R2 := fun x y H Q => match x, y with
  | .bl c, .bl b => Q (.bl (c == b)) H
  | .non, .bl _ => Q (.bl false) H
  | .int _, .bl _ => Q (.bl false) H
  | .str _, .bl _ => Q (.bl false) H
  | .ref _, .bl _ => Q (.bl false) H
  | _, _ => False
def rIsU : R2 := fun x y H Q => rIsN x y H Q ∨ rIsB x y H Q
section
variable {X : Cx}
theorem u_sorted (hc : X.calm = true) : CallR X (.builtin "sorted") (rSortU X.K) := cr_sortedI.or (cr_sortedS.or ((call_sortedD hc).or (call_sortedDI hc)))
theorem u_min1 (hc : X.calm = true) (hu : X.A.units + 64 < cLine) : CallR X (.builtin "min") (rMin1 X.K) := (cr_min hc).or (cr_minT hc hu)
theorem u_dict (hc : X.calm = true) : CallR X (.type "dict") (rDictU X.K) := (call_dictP hc).or call_dictD
theorem op_isB : OpR X (compareOp .Is) rIsB := by
  intro pins s σ H x y v u Q I rx ry h
  cases y with
  | bl b =>
    cases ry
    cases x with
    | bl c =>
      cases rx
      exact wpAny_pure (fin_bl I h (by cases c <;> cases b <;> rfl))
    | non =>
      cases rx
      exact wpAny_pure (fin_bl I h rfl)
    | int n =>
      obtain ⟨t, rfl⟩ := rx
      exact wpAny_pure (fin_bl I h rfl)
    | str n =>
      obtain ⟨t, rfl⟩ := rx
      exact wpAny_pure (fin_bl I h rfl)
    | ref n =>
      cases rx
      exact wpAny_pure (fin_bl I h rfl)
    | _ => exact h.elim
  | _ => exact (show False from (by cases x <;> exact h)).elim
theorem u_is : OpR X (compareOp .Is) rIsU := u_isN.or op_isB
end
end Ph
namespace Ph
open PySem PySem.Spec PyProof.Rows L2
section
variable {K : PySem.W.Frag} {B H : Hp} {L L' : List (Addr × HO)} {I : List Im} {Q : VK} {σ : L2.St} {d b : Addr} {A Bk Ct : L2.St → Hp → Prop} {Bt : VK} {α : Type} {f : α → V}
theorem mK_keys {l : List (Str × α)} : (mK f l).map (·.1) = (l.map (·.1)).map Sum.inr := by unfold mK; rw [List.map_map, List.map_map]; rfl
/-- sorted(d): its keys, sorted -/
theorem s_srtK {l : List (Str × α)} (hC : Ctx K B H L I) (m : H d = some (.dK (mK f l))) (z : l.length < 64) (k : ∀ p H1, Ctx K B H1 ((p, .lst ((srtT (l.map (·.1))).map V.str)) :: L) I → Q (.ref p) H1) : rSortU K [.ref d] H Q :=
  .inr (.inr (.inl ⟨d, _, l.map (·.1), rfl, .inl m, mK_keys, by rw [List.length_map]; exact z, fun ys p hp hs hn => by
    rw [srtT_of hp hs]
    exact k p _ (hC.newM hn rfl)⟩))
theorem s_srtL {xs : List Str} (hC : Ctx K B H L I) (m : H d = some (.lst (xs.map V.str))) (z : xs.length < 64) (k : ∀ p H1, Ctx K B H1 ((p, .lst ((srtT xs).map V.str)) :: L) I → Q (.ref p) H1) : rSortU K [.ref d] H Q :=
  .inr (.inl ⟨d, xs, rfl, SqL.of m, z, fun ys p hp hs hn => by
    rw [srtT_of hp hs]
    exact k p _ (hC.newM hn rfl)⟩)
theorem s_srtI {xs : List Int} (hC : Ctx K B H L I) (m : H d = some (.lst (xs.map V.int))) (k : ∀ p H1, Ctx K B H1 ((p, .lst ((srtZ xs).map V.int)) :: L) I → Q (.ref p) H1) : rSortU K [.ref d] H Q :=
  .inl ⟨d, xs, rfl, SqL.of m, fun ys p hp hs hn => by
    rw [srtZ_of hp hs]
    exact k p _ (hC.newM hn rfl)⟩
theorem s_minT {xs : List V} {ks : List (List Sc)} (m : H d = some (.lst xs)) (ht : TupS K H xs ks) (al : allLike ks) (hn : 0 < ks.length) (k : ∀ v, xs[minIx ks]? = some v → Q v H) : rMin1 K [.ref d] H Q :=
  .inr ⟨d, xs, ks, rfl, SqL.of m, ht, al, hn, k⟩
/-! del d[k] -/
def kDelK (x : V) (A : L2.St → Hp → Prop) (σ : L2.St) : VK := fun y H2 => ∃ a kvs k, x = .ref a ∧ H2 a = some (.dK kvs) ∧ y = kV k ∧ (valV kvs k).isSome = true ∧ A σ (upd H2 a (.dK (dropK kvs k)))
theorem s_del {td ty : TE} (h : td σ H fun x H1 => ty σ H1 (kDelK x A σ)) : sDDel td ty ⟨A, Bt, Bk, Ct⟩ σ H := h
theorem dropK_mK {l : List (Str × α)} {k : Str} : dropK (mK f l) (.inr k) = mK f (l.filter fun p => decide (p.1 ≠ k)) := by
  unfold dropK mK
  rw [List.filter_map]
  congr 1
  refine List.filter_congr fun p _ => ?_
  simp
theorem s_delK {l : List (Str × α)} {x : Str} {v : α} (hC : Ctx K B H L I) (m : H d = some (.dK (mK f l))) (e : look l x = some v) (u : Up d (.dK (mK f (l.filter fun p => decide (p.1 ≠ x)))) L L') (k : ∀ H1, Ctx K B H1 L' I → A σ H1) : kDelK (.ref d) A σ (.str x) H :=
  ⟨d, _, .inr x, rfl, m, rfl, by rw [valV_mK, e]; rfl, by rw [dropK_mK]; exact k _ (hC.put u rfl)⟩
/-! is -/
theorem s_uIsN_non (h : Q (.bl true) H) : rIsU .non .non H Q := .inl ⟨rfl, h⟩
theorem s_uIsN_ref {a : Addr} (h : Q (.bl false) H) : rIsU (.ref a) .non H Q := .inl ⟨rfl, h⟩
theorem s_uIsN_int {i : Int} (h : Q (.bl false) H) : rIsU (.int i) .non H Q := .inl ⟨rfl, h⟩
theorem s_uIsN_str {i : Str} (h : Q (.bl false) H) : rIsU (.str i) .non H Q := .inl ⟨rfl, h⟩
theorem s_uIsN_bl {i : Bool} (h : Q (.bl false) H) : rIsU (.bl i) .non H Q := .inl ⟨rfl, h⟩
theorem s_uIsB_s {i : Bool} (h : Q (.bl true) H) : rIsU (.bl i) (.bl i) H Q := .inr (by show Q (.bl (i == i)) H; rw [show (i == i) = true from by cases i <;> rfl]; exact h)
theorem s_uIsB {i j : Bool} (h : Q (.bl (i == j)) H) : rIsU (.bl i) (.bl j) H Q := .inr h
theorem s_uIsB_non {j : Bool} (h : Q (.bl false) H) : rIsU .non (.bl j) H Q := .inr h
theorem s_uIsB_str {j : Bool} {x : Str} (h : Q (.bl false) H) : rIsU (.str x) (.bl j) H Q := .inr h
theorem s_uIsB_int {j : Bool} {x : Int} (h : Q (.bl false) H) : rIsU (.int x) (.bl j) H Q := .inr h
theorem s_uIsB_ref {j : Bool} {x : Addr} (h : Q (.bl false) H) : rIsU (.ref x) (.bl j) H Q := .inr h
theorem s_initV {x : Addr} (h : Q (.ref x) H) : kInit Q x .non H := ⟨rfl, h⟩
theorem s_lcS {wi : TI} {g : TG} {ttS : L2.St → TT} {te : TE} {vs : List Nat} (h : tLc wi g (ttS σ) te vs σ H Q) : tLcS wi g ttS te vs σ H Q := h
theorem s_extL {l b : Addr} {xs zs : List V} (hC : Ctx K B H L I) (m : H b = some (.lst zs)) (m2 : H l = some (.lst xs)) (z : xs.length + zs.length ≤ 100000) (u : Up l (.lst (xs ++ zs)) L L') (k : ∀ H1, Ctx K B H1 L' I → Q (.ref l) H1) : rIAddU (.ref l) (.ref b) H Q :=
  ⟨l, b, xs, zs, rfl, rfl, m2, m, Nat.le_trans z (by decide), k _ (hC.put u rfl)⟩
theorem perm_focus {α : Type} {A M N : List α} {x : α} : (A ++ (M ++ x :: N)).Perm (x :: (A ++ (M ++ N))) := by
  rw [← List.append_assoc, ← List.append_assoc]
  exact List.perm_middle
end
end Ph
namespace Ph
open PySem PySem.Spec PyProof.Rows L2
section
variable {κ α : Type} [DecidableEq κ]
theorem look_none {l : List (κ × α)} {k : κ} : look l k = none ↔ ∀ p, p ∈ l → p.1 ≠ k := by
  induction l with
  | nil => simp [look_nil]
  | cons p r ih =>
    rw [look_cons]
    by_cases e : p.1 = k
    · rw [if_pos e]
      exact ⟨fun z => (by cases z), fun z => absurd e (z p List.mem_cons_self)⟩
    · rw [if_neg e, ih]
      exact ⟨fun z q hq => by
        rcases List.mem_cons.mp hq with rfl | hq
        · exact e
        · exact z q hq, fun z q hq => z q (List.mem_cons_of_mem _ hq)⟩
theorem putR_new {l : List (κ × α)} {k : κ} {v : α} (h : look l k = none) : putR l k v = l ++ [(k, v)] := by
  unfold putR
  rw [look_any, h]
  rfl
/-- keys all different: each row is found -/
theorem look_of_mem {l : List (κ × α)} {k : κ} {v : α} (nd : (l.map (·.1)).Nodup) (h : (k, v) ∈ l) : look l k = some v := by
  induction l with
  | nil => cases h
  | cons p r ih =>
    rw [List.map_cons, List.nodup_cons] at nd
    rw [look_cons]
    rcases List.mem_cons.mp h with e | h
    · subst e
      rw [if_pos rfl]
    · rw [if_neg (fun e => nd.1 (by rw [e]; exact List.mem_map.mpr ⟨_, h, rfl⟩)), ih nd.2 h]
end
theorem _root_.Ph.Pick.mid {x : Addr × HO} : ∀ {M N : List (Addr × HO)}, Pick x (M ++ x :: N) (M ++ N)
  | [], _ => .here
  | _ :: _, _ => .there Pick.mid
theorem _root_.Ph.Up.mid {a : Addr} {o o' : HO} : ∀ {M N : List (Addr × HO)}, Up a o' (M ++ (a, o) :: N) (M ++ (a, o') :: N)
  | [], _ => .here
  | _ :: _, _ => .there Up.mid
theorem mem_mid {α : Type} {x : α} {M N : List α} : x ∈ M ++ x :: N := List.mem_append_right _ List.mem_cons_self
theorem nodup_pw {α : Type} {r : α → α → Prop} {l : List α} (h : l.Pairwise fun x y => r x y ∧ x ≠ y) : l.Nodup := h.imp fun z => z.2
end Ph
namespace Ph
open PySem PySem.Spec PyProof.Rows L2
section
variable {K : PySem.W.Frag} {B H : Hp} {L L' : List (Addr × HO)} {I : List Im} {Q : VK} {σ : L2.St} {J : It} {n : Nat} {G : Hp → Prop} {Y : Nat → Hp → V → Hp → Prop} {g : TG} {tt : TT} {te : TE} {vs : List Nat} {P : Addr} {wi : TI} {tb : Array Value}
def kTupW (g : TG) (tt : TT) (te : TE) (vs : List Nat) (σ : L2.St) (Q : VK) : It → Hp → Prop := fun J H2 => ∃ W : Nat → Nat → List V → Hp → Prop, (∃ m, W 0 m [] H2) ∧ GW J g tt te vs σ (fun _ => True) (fun _ _ _ => True) (fun ys H' => ∀ l, H' l = none → Q (.ref l) (upd H' l (.tup ys))) W
def kTupG (P : Addr) (g : TG) (tt : TT) (te : TE) (vs : List Nat) (σ : L2.St) (Q : VK) : It → Hp → Prop := fun J H1 => GxR.TabG H1 P ∧ ∀ H2, GxR.Tabbed P H1 H2 → kTupW g tt te vs σ Q J H2
theorem s_tupX (h : wi σ H (kTupG P g tt te vs σ Q)) : tTupX P wi g tt te vs σ H Q := h
theorem s_tupGV (hC : Ctx K B H L I) (m : Pick (P, .tbl tb) L L') (f : Im.tri tb ∈ I) (k : ∀ tb' H1, Ctx K B H1 ((P, .tbl tb') :: L') (.tri tb' :: I) → kTupW g tt te vs σ Q J H1) : kTupG P g tt te vs σ Q J H := tabbed_ctx hC m f k
def kTupE (ys : List V) (c : Nat) (Pn : List V → Hp → Prop) : VK := fun y H4 => ys.length < sizeLine ∧ True ∧ (True → (ys ++ [y]).length ≤ c ∧ Pn (ys ++ [y]) H4)
theorem s_tupE {ys : List V} {c : Nat} {Pn : List V → Hp → Prop} {v : V} (z : ys.length < c) (z2 : c ≤ 1000000) (h : Pn (ys ++ [v]) H) : kTupE ys c Pn v H := ⟨by rw [sizeLine_eq]; omega, True.intro, fun _ => ⟨by rw [List.length_append]; exact z, h⟩⟩
theorem tup_w (w : Walk J n G Y) (hn : n ≤ 100000) (Pv : Nat → List V → Hp → Prop) (h0 : Pv 0 [] H) (hG : ∀ i ys H, i ≤ n → Pv i ys H → G H)
    (hs : ∀ i x H H' (ys : List V), i < n → ys.length < i + 1 → i + 1 ≤ 1000000 → Pv i ys H → Y i H x H' → g x (wipe σ vs) H' fun σ2 H2 => wipe σ2 vs = wipe σ vs ∧ tt σ2 H2 fun b H3 => if b = true then te σ2 H3 (kTupE ys (i + 1) (Pv (i + 1))) else ys.length ≤ i + 1 ∧ Pv (i + 1) ys H3)
    (hd : ∀ ys H, Pv n ys H → ∀ l, H l = none → Q (.ref l) (upd H l (.tup ys))) : kTupW g tt te vs σ Q J H := by
  refine ⟨fun i m ys H => m = n - i ∧ i ≤ n ∧ ys.length ≤ i ∧ Pv i ys H, ⟨n, by simp, Nat.zero_le _, Nat.le_refl _, h0⟩, ?_⟩
  rintro i m ys H ⟨rfl, hi, hy, p⟩
  by_cases hlt : i < n
  · refine .inr ⟨w.goes i H hlt (hG i ys H hi p), fun ys H => ys.length ≤ i + 1 ∧ Pv (i + 1) ys H, fun ys' H' p' => ⟨n - (i + 1), by omega, rfl, hlt, p'.1, p'.2⟩, fun x H' y => ?_⟩
    exact hs i x H H' ys hlt (by omega) (by omega) p (w.yields i H x H' hlt (hG i ys H hi p) y)
  · have e : i = n := by omega
    subst e
    exact .inl ⟨w.stops H (hG _ ys H hi p), hd ys H p⟩
/-! rows of scalars -/
def Sc.d : Sc → PyData
  | .i n => .int n
  | .s x => .str x
  | .b k => .bool k
theorem Sc.td (x : Sc) : TD K H x.v x.d := by
  cases x with
  | i n => exact .int n
  | s z => exact .str z
  | b k => exact .bl k
theorem Sc.tds : ∀ d : List Sc, TDs K H (d.map Sc.v) (d.map Sc.d)
  | [] => .nil
  | x :: r => .cons x.td (Sc.tds r)
theorem TupS.mono {H' : Hp} (s : Stb H H') : ∀ {xs ks}, TupS K H xs ks → TupS K H' xs ks
  | _, _, .nil => .nil
  | _, _, .cons a r => .cons (s.sqt a) (r.mono s)
theorem TupS.snoc {t : Addr} {d : List Sc} (h : SqT K H t (d.map Sc.v)) : ∀ {xs ks}, TupS K H xs ks → TupS K H (xs ++ [.ref t]) (ks ++ [d])
  | _, _, .nil => .cons h .nil
  | _, _, .cons a r => .cons a (r.snoc h)
theorem TupS.tds : ∀ {xs ks}, TupS K H xs ks → TDs K H xs (ks.map fun d => .tuple (d.map Sc.d))
  | _, _, .nil => .nil
  | _, _, .cons a r => .cons (.tup a (Sc.tds _)) r.tds
theorem argBest_le {bt : Nat → Nat → Bool} : ∀ k, PySem.argBest bt k ≤ k
  | 0 => Nat.le_refl _
  | k + 1 => by
    unfold PySem.argBest
    split
    · exact Nat.le_refl _
    · exact Nat.le_succ_of_le (argBest_le k)
theorem minIx_lt {ks : List (List Sc)} (h : 0 < ks.length) : minIx ks < ks.length := by
  have := argBest_le (bt := fun i j => lexS (ks.getD i []) (ks.getD j [])) (ks.length - 1)
  unfold minIx
  omega
end
end Ph
namespace Ph
open PySem PySem.Spec PyProof.Rows L2
theorem Pick.app {x : Addr × HO} {L L' : List (Addr × HO)} (h : Pick x L L') : ∀ {M : List (Addr × HO)}, Pick x (M ++ L) (M ++ L')
  | [] => h
  | _ :: _ => .there (Pick.app h)
theorem Up.app {a : Addr} {o' : HO} {L L' : List (Addr × HO)} (h : Up a o' L L') : ∀ {M : List (Addr × HO)}, Up a o' (M ++ L) (M ++ L')
  | [] => h
  | _ :: _ => .there (Up.app h)
theorem mem_app {α : Type} {x : α} {M N : List α} (h : x ∈ N) : x ∈ M ++ N := List.mem_append_right _ h
section
variable {K : PySem.W.Frag} {B H : Hp} {L L' T : List (Addr × HO)} {I J : List Im} {x : Addr × HO}
theorem Ctx.unpick (p : Pick x T L) (h : Ctx K B H (x :: L) I) : Ctx K B H T I := h.perm p.perm.symm
theorem Ctx.keepI (h : Ctx K B H L J) (s : ∀ j, j ∈ I → j ∈ J) : Ctx K B H L I := ⟨h.lay, fun j hj => h.im j (s j hj), h.sb⟩
end
end Ph
namespace Ph
open PySem PySem.Spec PyProof.Rows L2
/-- the block M stands in L; the rest is L' -/
inductive Blk (M : List (Addr × HO)) : List (Addr × HO) → List (Addr × HO) → Prop
  | here {N : List (Addr × HO)} : Blk M (M ++ N) N
  | there {y : Addr × HO} {L L' : List (Addr × HO)} : Blk M L L' → Blk M (y :: L) (y :: L')
  | over {P L L' : List (Addr × HO)} : Blk M L L' → Blk M (P ++ L) (P ++ L')
theorem Blk.perm {M : List (Addr × HO)} : ∀ {L L' : List (Addr × HO)}, Blk M L L' → L.Perm (M ++ L')
  | _, _, .here => List.Perm.refl _
  | _, _, .there h => (List.Perm.cons _ h.perm).trans List.perm_middle.symm
  | _, _, .over (P := P) (L' := L') h => by
    refine (List.Perm.append_left P h.perm).trans ?_
    rw [← List.append_assoc, ← List.append_assoc]
    exact List.Perm.append_right L' List.perm_append_comm
inductive Perm3 : List (Addr × HO) → List (Addr × HO) → Prop
  | nil {F : List (Addr × HO)} : Perm3 F F
  | cons {x : Addr × HO} {L L' T : List (Addr × HO)} : Pick x L L' → Perm3 L' T → Perm3 L (x :: T)
  | blk {M L L' T : List (Addr × HO)} : Blk M L L' → Perm3 L' T → Perm3 L (M ++ T)
theorem Perm3.lay : ∀ {L T : List (Addr × HO)}, Perm3 L T → L.Perm T
  | _, _, .nil => List.Perm.refl _
  | _, _, .cons p h => p.perm.trans (List.Perm.cons _ h.lay)
  | _, _, .blk p h => p.perm.trans (List.Perm.append_left _ h.lay)
end Ph
namespace Ph
open PySem PySem.Spec PyProof.Rows L2
inductive Sel3 : List (Addr × HO) → List (Addr × HO) → Prop
  | refl {L : List (Addr × HO)} : Sel3 L L
  | cons {x : Addr × HO} {L L' T : List (Addr × HO)} : Pick x L L' → Sel3 L' T → Sel3 L (x :: T)
  | blk {M L L' T : List (Addr × HO)} : Blk M L L' → Sel3 L' T → Sel3 L (M ++ T)
  | skip {x : Addr × HO} {L T : List (Addr × HO)} : Sel3 L T → Sel3 (x :: L) T
  | skipB {M L T : List (Addr × HO)} : Sel3 L T → Sel3 (M ++ L) T
  | none {L : List (Addr × HO)} : Sel3 L []
theorem Sel3.perm : ∀ {L T}, Sel3 L T → ∃ J, L.Perm (T ++ J)
  | L, _, .refl => ⟨[], by rw [List.append_nil]⟩
  | _, _, .cons p s => by
    obtain ⟨J, h⟩ := s.perm
    exact ⟨J, p.perm.trans (List.Perm.cons _ h)⟩
  | _, _, .blk p s => by
    obtain ⟨J, h⟩ := s.perm
    exact ⟨J, p.perm.trans (by rw [List.append_assoc]; exact List.Perm.append_left _ h)⟩
  | _, _, .skip s => by
    obtain ⟨J, h⟩ := s.perm
    exact ⟨_ :: J, (List.Perm.cons _ h).trans List.perm_middle.symm⟩
  | _, _, .skipB (M := M) (T := T) s => by
    obtain ⟨J, h⟩ := s.perm
    refine ⟨M ++ J, (List.Perm.append_left M h).trans ?_⟩
    rw [← List.append_assoc, ← List.append_assoc]
    exact List.Perm.append_right J List.perm_append_comm
  | L, _, .none => ⟨L, List.Perm.refl _⟩
theorem Sel3.lay {H : Hp} {L T : List (Addr × HO)} (s : Sel3 L T) (y : Lay H L) : Lay H T := by
  obtain ⟨J, h⟩ := s.perm
  have y := y.perm h
  exact ⟨(List.nodup_append.mp (by rw [← List.map_append]; exact y.nd)).1, fun p hp => y.at_ p (List.mem_append_left _ hp)⟩
end Ph
namespace Ph
open PySem PySem.Spec PyProof.Rows L2
section
variable {α : Type} {f : α → V} {K : PySem.W.Frag} {B H : Hp} {L L' F : List (Addr × HO)} {I : List Im} {Q : VK} {d : Addr}
theorem s_ixKF {o : Obj} {l : List (Str × α)} {x : Str} {v : α} (m : H d = some (.frz o (.dK (mK f l)))) (e : look l x = some v) (q : Q (f v) H) : rIxU K (.ref d) (.str x) H Q :=
  .inr (.inr (.inr ⟨d, f v, rfl, .inl ⟨_, .inr x, .inr ⟨o, m⟩, rfl, by rw [valV_mK, e]; rfl⟩, q⟩))
theorem DNo.of {k : Key} : ∀ {r : List (Key × V)}, (∀ x, x ∈ r → ¬ x.1 = k) → DNo k r
  | [], _ => .nil
  | _ :: _, h => .there (h _ List.mem_cons_self) (DNo.of fun x m => h x (List.mem_cons_of_mem _ m))
theorem RDis.mk : ∀ {l : List (Str × α)} {acc : List (Key × V)}, (l.map (·.1)).Nodup → (∀ p, p ∈ l → ∀ x, x ∈ acc → ¬ x.1 = .inr p.1) → RDis acc (mK f l)
  | [], _, _, _ => .nil
  | p :: r, acc, nd, h => by
    rw [List.map_cons, List.nodup_cons] at nd
    refine .cons (DNo.of (h p List.mem_cons_self)) (RDis.mk nd.2 fun q m x hx => ?_)
    rcases List.mem_cons.mp hx with rfl | hx
    · intro z
      have z : p.1 = q.1 := Sum.inr.inj z
      exact nd.1 (by rw [z]; exact List.mem_map.mpr ⟨q, m, rfl⟩)
    · exact h q (List.mem_cons_of_mem _ m) x hx
theorem merge_mK {l : List (Str × α)} (nd : (l.map (·.1)).Nodup) : mergeK [] (mK f l) = mK f l := by
  have e := (RDis.mk (f := f) (acc := []) nd (fun _ _ x hx => by cases hx)).ok
  rw [List.reverse_nil, List.nil_append] at e
  exact e
theorem s_dictP {ps : List Addr} {l : List (Str × α)} (hC : Ctx K B H L I) (m : H d = some (.lst (ps.map V.ref))) (h : Paired (fun p kv => SqT K H p [kV kv.1, kv.2]) ps (mK f l)) (nd : (l.map (·.1)).Nodup) (k : ∀ p H1, Ctx K B H1 ((p, .dK (mK f l)) :: L) I → Q (.ref p) H1) : rDictU K [.ref d] H Q :=
  .inl ⟨d, ps, mK f l, rfl, SqL.of m, h, fun p hp => by rw [merge_mK nd]; exact k p _ (hC.newM hp rfl)⟩
theorem Paired.snoc {α β : Type} {G : α → β → Prop} {x : α} {y : β} : ∀ {l : List α} {m : List β}, Paired G l m → G x y → Paired G (l ++ [x]) (m ++ [y])
  | _, _, .nil, h => .cons h .nil
  | _, _, .cons a t, h => .cons a (Paired.snoc t h)
/-- the lock goes; the heap stays known -/
theorem s_unlE {od : Obj} {u : HO} {v : V} {H1 H2 : Hp} {L2' : List (Addr × HO)} {J : List Im} (hC0 : Ctx K B H L I) (m : Pick (d, u) L L') (e1 : Stb H H1) (hC : Ctx K H1 H2 L2' J) (f : H2 d = some (.frz od u)) (k : Ctx K B (upd H2 d u) ((d, u) :: L2') I → Q v (upd H2 d u)) : kUnl d od u Q v H2 := ⟨f, k (unlock hC0 m e1 hC f)⟩
theorem sqt_unl {od : Obj} {u : HO} {p : Addr} {xs : List V} (f : H d = some (.frz od u)) (h : SqT K H p xs) : SqT K (upd H d u) p xs := by
  rcases h with (h | ⟨o, h⟩) | h
  · by_cases c : p = d
    · subst c
      rw [f] at h
      cases h
    · exact .inl (.inl (by rw [upd_ne c]; exact h))
  · by_cases c : p = d
    · subst c
      rw [f] at h
      cases h
      exact .inl (.inl upd_same)
    · exact .inl (.inr ⟨o, by rw [upd_ne c]; exact h⟩)
  · exact .inr h
end
end Ph
namespace Ph
open PySem PySem.Spec PyProof.Rows L2
theorem cps_anti {a b : Str} (h1 : ¬ a.cps.toList < b.cps.toList) (h2 : ¬ b.cps.toList < a.cps.toList) : a = b := by
  have e : a.cps.toList = b.cps.toList := List.le_antisymm (List.not_lt.mp h2) (List.not_lt.mp h1)
  cases a; cases b
  exact congrArg _ (Array.toList_inj.mp e)
def Sc.ltT : Sc → Sc → Bool
  | .i m, .i n => decide (m < n)
  | .s x, .s y => decide (x.cps.toList < y.cps.toList)
  | .b p, .b q => !p && q
  | .i _, _ => true
  | .s _, .b _ => true
  | _, _ => false
theorem ltT_like {x y : Sc} (h : x.like y = true) : x.ltT y = x.lt y := by
  cases x <;> cases y <;> first | rfl | cases h
theorem ltT_tri {x y : Sc} (h1 : x.ltT y = false) (h2 : y.ltT x = false) : x = y := by
  cases x with
  | i m => cases y with
    | i n =>
      have a := of_decide_eq_false h1
      have b := of_decide_eq_false h2
      rw [show m = n from by omega]
    | s _ => cases h1
    | b _ => cases h1
  | s u => cases y with
    | i _ => cases h2
    | s v => rw [cps_anti (of_decide_eq_false h1) (of_decide_eq_false h2)]
    | b _ => cases h1
  | b p => cases y with
    | i _ => cases h2
    | s _ => cases h2
    | b q => revert h1 h2; cases p <;> cases q <;> simp [Sc.ltT]
theorem ltT_asym {x y : Sc} (h : x.ltT y = true) : y.ltT x = false := by
  cases x with
  | i m => cases y with
    | i n =>
      have a := of_decide_eq_true h
      exact decide_eq_false (by omega)
    | s _ => rfl
    | b _ => rfl
  | s u => cases y with
    | i _ => cases h
    | s v => exact decide_eq_false (List.lt_asymm (of_decide_eq_true h))
    | b _ => rfl
  | b p => cases y with
    | i _ => cases h
    | s _ => cases h
    | b q => revert h; cases p <;> cases q <;> simp [Sc.ltT]
theorem ltT_tr {x y z : Sc} (h1 : y.ltT x = false) (h2 : z.ltT y = false) : z.ltT x = false := by
  cases x with
  | i m => cases y with
    | i n => cases z with
      | i o =>
        have a := of_decide_eq_false h1
        have b := of_decide_eq_false h2
        exact decide_eq_false (by omega)
      | s _ => rfl
      | b _ => rfl
    | s _ => cases z with
      | i o => cases h2
      | s _ => rfl
      | b _ => rfl
    | b _ => cases z with
      | i o => cases h2
      | s _ => rfl
      | b _ => rfl
  | s u => cases y with
    | i n => cases h1
    | s v => cases z with
      | i o => cases h2
      | s w =>
        have a := of_decide_eq_false h1
        have b := of_decide_eq_false h2
        exact decide_eq_false (List.not_lt.mpr (List.le_trans (List.not_lt.mp a) (List.not_lt.mp b)))
      | b _ => rfl
    | b _ => cases z with
      | i o => cases h2
      | s _ => cases h2
      | b _ => rfl
  | b p => cases y with
    | i n => cases h1
    | s v => cases h1
    | b q => cases z with
      | i o => cases h2
      | s _ => cases h2
      | b r => revert h1 h2; cases p <;> cases q <;> cases r <;> simp [Sc.ltT]
def lexT : List Sc → List Sc → Bool
  | x :: r, y :: t => if x = y then lexT r t else x.ltT y
  | [], _ :: _ => true
  | _, [] => false
theorem lexT_like : ∀ {x y : List Sc}, likeL x y = true → lexT x y = lexS x y
  | [], [], _ => rfl
  | x :: r, y :: t, h => by
    simp only [likeL, Bool.and_eq_true] at h
    simp only [lexT, lexS]
    rw [lexT_like h.2, ltT_like h.1]
  | [], _ :: _, h => by cases h
  | _ :: _, [], h => by cases h
theorem lexT_asym : ∀ {x y : List Sc}, lexT x y = true → lexT y x = false
  | [], [], h => by cases h
  | [], _ :: _, _ => rfl
  | _ :: _, [], h => by cases h
  | x :: r, y :: t, h => by
    simp only [lexT] at h ⊢
    by_cases e : x = y
    · rw [if_pos e] at h
      rw [if_pos e.symm]
      exact lexT_asym h
    · rw [if_neg e] at h
      rw [if_neg fun z => e z.symm]
      exact ltT_asym h
theorem lexT_tr : ∀ {x y z : List Sc}, lexT y x = false → lexT z y = false → lexT z x = false
  | [], _, [], _, _ => rfl
  | [], _, _ :: _, _, _ => rfl
  | _ :: _, [], _, h1, _ => by cases h1
  | _ :: _, _ :: _, [], _, h2 => by cases h2
  | x :: r, y :: t, z :: w, h1, h2 => by
    simp only [lexT] at h1 h2 ⊢
    by_cases e1 : y = x
    · subst e1
      rw [if_pos rfl] at h1
      by_cases e2 : z = y
      · subst e2
        rw [if_pos rfl] at h2 ⊢
        exact lexT_tr h1 h2
      · rw [if_neg e2] at h2 ⊢
        exact h2
    · rw [if_neg e1] at h1
      by_cases e2 : z = y
      · subst e2
        rw [if_neg e1]
        exact h1
      · rw [if_neg e2] at h2
        by_cases e3 : z = x
        · subst e3
          exact absurd (ltT_tri h2 h1) e2
        · rw [if_neg e3]
          exact ltT_tr h1 h2
theorem lexT_refl : ∀ {x : List Sc}, lexT x x = false
  | [] => rfl
  | x :: r => by rw [lexT, if_pos rfl]; exact lexT_refl
/-- the scalar a value is -/
def decSc : Value → Option Sc
  | .int n _ => some (.i n)
  | .str z _ => some (.s z)
  | .bool k => some (.b k)
  | _ => none
theorem dec_rel {x : Sc} {u : Value} (h : RelV x.v u) : decSc u = some x := by
  cases x with
  | i n => obtain ⟨t, rfl⟩ := h; rfl
  | s z => obtain ⟨t, rfl⟩ := h; rfl
  | b k => obtain rfl : u = .bool k := h; rfl
/-- the row that stands at a value -/
def rowOf (g : Heap) : Value → List Sc
  | .ref t => match g.get? t with
    | some o => match o.data with
      | .seq its _ => its.toList.filterMap decSc
      | _ => []
    | none => []
  | _ => []
theorem rel_dec : ∀ {d : List Sc} {its : List Value}, its.length = d.length → (∀ (j : Nat) (x : Sc), d[j]? = some x → ∃ u, its[j]? = some u ∧ RelV x.v u) → its.filterMap decSc = d
  | [], [], _, _ => rfl
  | [], _ :: _, h, _ => by cases h
  | _ :: _, [], h, _ => by cases h
  | x :: d, u :: its, h, r => by
    obtain ⟨u', e, ru⟩ := r 0 x rfl
    cases e
    rw [List.filterMap_cons, dec_rel ru]
    simp only
    rw [rel_dec (d := d) (its := its) (by rw [List.length_cons, List.length_cons] at h; omega) fun j y e => r (j + 1) y e]
/-- a row: its tuple and what it holds -/
def RowAt (g : Heap) (v : Value) (d : List Sc) : Prop := ∃ (t : Addr) (o : Obj) (its : List Value) (n : Nat), v = .ref t ∧ g.get? t = some o ∧ o.cls = .type "tuple" ∧ o.data = .seq its.toArray n ∧ its.length = d.length ∧ ∀ (j : Nat) (x : Sc), d[j]? = some x → ∃ u, its[j]? = some u ∧ RelV x.v u
theorem RowAt.row {g : Heap} {v : Value} {d : List Sc} (h : RowAt g v d) : rowOf g v = d := by
  obtain ⟨t, o, its, n, rfl, ho, hc, hd, hl, hr⟩ := h
  unfold rowOf
  simp only [ho, hd]
  exact rel_dec hl hr
theorem RowAt.keeps {g g' : Heap} {v : Value} {d : List Sc} (h : RowAt g v d) (k : ∀ b o, g.get? b = some o → o.cls = .type "tuple" → g'.get? b = some o) : RowAt g' v d := by
  obtain ⟨t, o, its, n, e, ho, hc, r⟩ := h
  exact ⟨t, o, its, n, e, k _ _ ho hc, hc, r⟩
section
variable {X : Cx} {prog : Program} {w : World} {A : Around} {s : Shared}
theorem kat_rows : ∀ (as bs : List Sc) (ps qs : List Value) (i : Nat), likeL as bs = true → ps.length = as.length → qs.length = bs.length → (∀ (j : Nat) (x : Sc), as[j]? = some x → ∃ u, ps[j]? = some u ∧ RelV x.v u) → (∀ (j : Nat) (x : Sc), bs[j]? = some x → ∃ u, qs[j]? = some u ∧ RelV x.v u) → (∀ c, c ∈ as → c.nob = true) → (i = 0 → ∃ n, as[0]? = some (.i n)) →
    PySem.W.KatLex prog w A true false (fun r s' => s' = s ∧ r = lexT as bs) (ps.zip qs) i s
  | [], [], [], [], _, _, _, _, _, _, _, _ => PySem.W.kat_nil ⟨rfl, rfl⟩
  | x :: as, y :: bs, p :: ps, q :: qs, i, hk, hp, hq, rp, rq, nb, h0 => by
    simp only [likeL, Bool.and_eq_true] at hk
    obtain ⟨u, e1, r1⟩ := rp 0 x rfl
    obtain ⟨v, e2, r2⟩ := rq 0 y rfl
    cases e1
    cases e2
    refine PySem.W.kat_cons (sc_eqAt r1 r2 hk.1 prog w _ _ ?_)
    refine PySem.W.kat_go (fun e => ?_) (fun e => ?_)
    · have e := of_decide_eq_true e
      refine PySem.W.kat_yes ?_
      have e3 : lexT (x :: as) (y :: bs) = lexT as bs := by rw [lexT, if_pos e]
      rw [e3]
      exact kat_rows as bs ps qs (i + 1) hk.2 (by rw [List.length_cons, List.length_cons] at hp; omega) (by rw [List.length_cons, List.length_cons] at hq; omega) (fun j c h => rp (j + 1) c h) (fun j c h => rq (j + 1) c h) (fun c h => nb c (List.mem_cons_of_mem _ h)) (fun z => by omega)
    · have e := of_decide_eq_false e
      have e3 : lexT (x :: as) (y :: bs) = x.lt y := by rw [lexT, if_neg e, ltT_like hk.1]
      rw [e3]
      refine PySem.W.kat_no ?_
      cases i with
      | zero =>
        obtain ⟨n, hn⟩ := h0 rfl
        cases hn
        cases y with
        | i m =>
          obtain ⟨t1, rfl⟩ := r1
          obtain ⟨t2, rfl⟩ := r2
          exact PyProof.Rows.oneLt_int ⟨rfl, rfl⟩
        | s _ => cases hk.1
        | b _ => cases hk.1
      | succ i => exact PySem.W.kat_one _ _ (sc_ltAt r1 r2 hk.1 (nb x List.mem_cons_self) prog w _ _ ⟨rfl, rfl⟩)
theorem firstsR {h : Heap} : ∀ {vs : List Value}, (∀ v, v ∈ vs → ∃ d n, RowAt h v d ∧ d[0]? = some (.i n)) → ∃ fs : List Value, PySem.W.KatTups h vs fs ∧ fs.length = vs.length ∧ ∀ f ∈ fs, ∃ x t, f = Value.int x t
  | [], _ => ⟨[], PySem.W.KatTups.nil, rfl, fun _ hm => by simp at hm⟩
  | v :: vs, hp => by
    obtain ⟨fs, h1, h2, h3⟩ := firstsR (vs := vs) fun v' hm => hp v' (List.mem_cons_of_mem _ hm)
    obtain ⟨d, n, ⟨a, o, its, m, e, ho, hc, hd, hl, hr⟩, h0⟩ := hp v List.mem_cons_self
    subst e
    obtain ⟨u, e1, r1⟩ := hr 0 _ h0
    obtain ⟨t, rfl⟩ := r1
    refine ⟨.int n t :: fs, PySem.W.KatTups.cons ho hc hd (by rw [List.getElem?_toArray]; exact e1) h1, by rw [List.length_cons, List.length_cons, h2], fun f hm => ?_⟩
    rcases List.mem_cons.mp hm with rfl | hm
    · exact ⟨n, t, rfl⟩
    · exact h3 f hm
theorem rows_cmp {vs : List Value} {k : Value → List Sc} (hp : ∀ v, v ∈ vs → RowAt s.heap v (k v)) (al : allLike (vs.map k)) (fi : ∀ v, v ∈ vs → ∃ n, (k v)[0]? = some (.i n)) : SrtO.Cmp prog w A s (tuples' true) (fun p => p.1 ∈ vs) (SrtO.lt2 fun v u => lexT (k v) (k u)) := by
  intro p q hm hm'
  obtain ⟨a, o, its, n, e, ho, hc, hd, hl, hr⟩ := hp _ hm
  obtain ⟨a', o', its', n', e', ho', hc', hd', hl', hr'⟩ := hp _ hm'
  have al1 := al _ (List.mem_map.mpr ⟨_, hm, rfl⟩)
  have lk := al1.2 _ (List.mem_map.mpr ⟨_, hm', rfl⟩)
  show wpAny (model prog w) A (keyLt' (tuples' true) p.1 q.1) (fun r s' => s' = s ∧ r = lexT (k p.1) (k q.1)) (fun _ _ => False) s
  have fi1 := fi _ hm
  generalize k p.1 = d at hl hr lk al1 fi1 ⊢
  generalize k q.1 = d' at hl' hr' lk ⊢
  rw [e, e']
  refine PySem.W.kat_lt ho hd ho' hd' ?_
  rw [show decide (its.toArray.size < its'.toArray.size) = false from decide_eq_false (by rw [List.size_toArray, List.size_toArray, hl, hl', likeL_len lk]; exact Nat.lt_irrefl _)]
  exact kat_rows d d' its its' 0 lk hl hl' hr hr' al1.1 fun _ => fi1
theorem rows_swo (k : Value → List Sc) : SrtO.Swo fun v u => lexT (k v) (k u) := ⟨fun _ _ h => lexT_asym h, fun _ _ _ h1 h2 => lexT_tr h1 h2⟩
theorem rows_sortable {a : Addr} {vs : List Value} {k : Value → List Sc} (h0 : 0 < vs.length) (hp : ∀ v, v ∈ vs → RowAt s.heap v (k v)) (al : allLike (vs.map k)) (fi : ∀ v, v ∈ vs → ∃ n, (k v)[0]? = some (.i n)) (ha : ∀ o, s.heap.get? a = some o → o.cls ≠ .type "tuple") : SrtO.SortableO prog w A s a vs fun v u => lexT (k v) (k u) := by
  intro h' keep
  have hp' : ∀ v, v ∈ vs → RowAt h' v (k v) := fun v hm => (hp v hm).keeps fun b o e c => keep b o (fun z => by subst z; exact ha o e c) e
  obtain ⟨fs, h1, h2, h3⟩ := firstsR (h := h') (vs := vs) fun v hm => by
    obtain ⟨n, hn⟩ := fi v hm
    exact ⟨_, n, hp' v hm, hn⟩
  refine ⟨tuples' true, fun Q E hq => ?_, rows_cmp (s := { s with heap := h' }) hp' al fi⟩
  refine PySem.W.kat_kind (T := .type "int") h1 (by omega) (fun f hm => ?_) (by rfl) ?_
  · obtain ⟨x, t, rfl⟩ := h3 f hm
    exact PySem.W.Looks.now
  · have e : (Value.type "int" != Value.type "tuple") = true := by first | decide +kernel | rfl | decide
    rw [e]
    exact hq
theorem sorted_rows {l : Addr} {vs : List Value} {k : Value → List Sc} {Q : Value → Shared → Prop} {E : Value → Shared → Prop} (hl : s.heap.IsList l vs.toArray) (hz : vs.length ≤ sizeLine) (hp : ∀ v, v ∈ vs → RowAt s.heap v (k v)) (al : allLike (vs.map k)) (fi : ∀ v, v ∈ vs → ∃ n, (k v)[0]? = some (.i n))
    (h : ∀ (h' : Heap) (d : Addr) (out : List Value), SrtO.Srtd (fun v u => lexT (k v) (k u)) out → SrtO.Stb (fun v u => lexT (k v) (k u)) out vs → (∀ b o, s.heap.get? b = some o → h'.get? b = some o) → s.heap.objs.size ≤ d → (∃ n, h'.get? d = some (seqObj "list" out.toArray n)) → Q (.ref d) { s with heap := h' }) :
    wpAny (model prog w) A (call (.builtin "sorted") [.ref l]) Q E s := by
  refine SrtO.sorted_ord (rows_swo k) hl hz (fun h2 h₁ a ha kk => ?_) fun out hs hb => ?_
  · refine rows_sortable (s := { s with heap := h₁ }) (by omega) (fun v hm => (hp v hm).keeps fun b o e _ => (kk b o e).2) al fi fun o e => ?_
    have e' : some o = some (seqObj "list" vs.toArray 0) := e.symm.trans ha
    cases e'
    intro c
    exact absurd (Value.type.inj c) (by decide)
  · exact h _ _ out hs hb (fun b o e => sortedAll_old e) (Nat.le_succ _) (sortedAll_at s.heap vs out.toArray)
theorem row_at_inv {pins : List (Addr × Obj)} {σ : L2.St} {H : Hp} {t : Addr} {d : List Sc} (I : Inv X pins σ H s) (h : SqT X.K H t (d.map Sc.v)) : RowAt s.heap (.ref t) d := by
  obtain ⟨its, ⟨o, e, c, n, hd⟩, l, r⟩ := row_items I h
  exact ⟨t, o, its, n, rfl, e, c, hd, l, r⟩
theorem rows_of {pins : List (Addr × Obj)} {σ : L2.St} {H : Hp} (I : Inv X pins σ H s) : ∀ {xs : List V} {ks : List (List Sc)} {its : List Value}, Vals xs its → TupS X.K H xs ks → its.map (rowOf s.heap) = ks ∧ ∀ v, v ∈ its → ∃ t, v = .ref t ∧ RowAt s.heap v (rowOf s.heap v) ∧ SqT X.K H t ((rowOf s.heap v).map Sc.v)
  | [], ks, _, .nil, h => by cases h; exact ⟨rfl, fun _ h => by cases h⟩
  | x :: xs, ks, u :: its, .cons r rv, h => by
    cases h with
    | cons a ta =>
    rename_i t d ks
    obtain rfl : u = Value.ref t := r
    obtain ⟨h1, h2⟩ := rows_of I rv ta
    have ra := row_at_inv I a
    refine ⟨by rw [List.map_cons, ra.row, h1], fun v hv => ?_⟩
    rcases List.mem_cons.mp hv with rfl | hv
    · refine ⟨t, rfl, ?_, ?_⟩
      · rw [ra.row]; exact ra
      · rw [ra.row]; exact a
    · exact h2 v hv
def rSortTS (K : PySem.W.Frag) : List V → Hp → VK → Prop := fun vs H Q => ∃ (a : Addr) (xs : List V) (ks : List (List Sc)), vs = [.ref a] ∧ SqL K H a xs ∧ TupS K H xs ks ∧ allLike ks ∧ (∀ d, d ∈ ks → ∃ n, d[0]? = some (.i n)) ∧
  ∀ (ys : List V) (ks' : List (List Sc)) (p : Addr), TupS K H ys ks' → ks'.Perm ks → ks'.Pairwise (fun x y => lexS y x = false) → H p = none → Q (.ref p) (upd H p (.lst ys))
theorem tups_back {H : Hp} {K : PySem.W.Frag} {g : Heap} : ∀ {out : List Value}, (∀ v, v ∈ out → ∃ t, v = .ref t ∧ SqT K H t ((rowOf g v).map Sc.v)) → TupS K H (out.map backV) (out.map (rowOf g))
  | [], _ => .nil
  | v :: out, h => by
    obtain ⟨t, rfl, a⟩ := h v List.mem_cons_self
    exact .cons a (tups_back fun u hu => h u (List.mem_cons_of_mem _ hu))
theorem cr_sortTS : CallR X (.builtin "sorted") (rSortTS X.K) := by
  intro pins s σ H vs us Q I r h
  obtain ⟨a, xs, ks, rfl, hs, ht, al, fi, q⟩ := h
  obtain ⟨its, rv, hl, hz⟩ := I.list hs
  obtain ⟨u, rfl, ru⟩ := vals1 r
  obtain rfl : u = Value.ref a := ru
  obtain ⟨e1, e2⟩ := rows_of I rv ht
  refine sorted_rows (k := rowOf s.heap) hl.isList (by rw [← rv.length]; exact hz) (fun v hv => ?_) (by rw [e1]; exact al) (fun v hv => fi _ (by rw [← e1]; exact List.mem_map.mpr ⟨v, hv, rfl⟩)) fun h' d out h1 h2 kp hd hn => ?_
  · obtain ⟨t, _, ra, _⟩ := e2 v hv
    exact ra
  · have h3 : ∀ u ∈ out, ∃ a, u = Value.ref a := fun u hu => by
      obtain ⟨t, e, _⟩ := e2 u (h2.perm.mem_iff.mp hu)
      exact ⟨t, e⟩
    obtain ⟨n, hn⟩ := hn
    have pm : (out.map (rowOf s.heap)).Perm ks := by rw [← e1]; exact h2.perm.map _
    refine ⟨.ref d, upd H d (.lst (out.map backV)), I.laid (t' := s.toks) kp hd ⟨?_, out, n, vals_back h3, hn⟩, rfl, q _ _ d (tups_back fun v hv => ?_) pm ?_ (I.hok.fresh hd)⟩
    · rw [List.length_map, h2.len, ← rv.length]
      exact hz
    · obtain ⟨t, e, _, a⟩ := e2 v (h2.perm.mem_iff.mp hv)
      exact ⟨t, e, a⟩
    · have h4 : (out.map (rowOf s.heap)).Pairwise (fun x y => lexT y x = false) := List.pairwise_map.mpr h1
      refine List.Pairwise.imp_of_mem (fun {x y} hx hy h => ?_) h4
      rw [← lexT_like ((al y (pm.mem_iff.mp hy)).2 x (pm.mem_iff.mp hx))]
      exact h
end
end Ph
namespace Ph
open PySem PySem.Spec PyProof.Rows L2
def rSortV (K : PySem.W.Frag) : List V → Hp → VK → Prop := fun vs H Q => rSortU K vs H Q ∨ rSortTS K vs H Q
def rTupIx (K : PySem.W.Frag) : V → List V → Hp → VK → Prop := fun x xs H Q => ∃ p, ∃ ys : List Str, ∃ z j, x = .ref p ∧ xs = [.str z] ∧ SqT K H p (ys.map V.str) ∧ ys[j]? = some z ∧ (∀ m, m < j → ys[m]? ≠ some z) ∧ Q (.int (j : Nat)) H
section
variable {X : Cx}
theorem u_sortedV (hc : X.calm = true) : CallR X (.builtin "sorted") (rSortV X.K) := (u_sorted hc).or cr_sortTS
theorem mt_tupIx : MtR X "tuple.index" (rTupIx X.K) := mt_tup_index
end
theorem idxOf_first {α : Type} [DecidableEq α] {x : α} : ∀ {l : List α}, x ∈ l → l[l.idxOf x]? = some x ∧ ∀ m, m < l.idxOf x → l[m]? ≠ some x
  | [], h => by cases h
  | y :: l, h => by
    by_cases e : y = x
    · subst e
      rw [List.idxOf_cons_self]
      exact ⟨rfl, fun m hm => absurd hm (Nat.not_lt_zero m)⟩
    · have h2 : x ∈ l := by
        rcases List.mem_cons.mp h with q | q
        · exact absurd q.symm e
        · exact q
      obtain ⟨a, b⟩ := idxOf_first h2
      rw [List.idxOf_cons, show (y == x) = false from by simp [e], cond_false]
      refine ⟨a, fun m hm => ?_⟩
      cases m with
      | zero => intro z; exact e (Option.some.inj z)
      | succ m => exact b m (by omega)
section
variable {α : Type} {f : α → V} {K : PySem.W.Frag} {B H : Hp} {L L' F : List (Addr × HO)} {I : List Im} {Q : VK} {σ : L2.St} {d : Addr}
theorem s_sortV {a : Addr} (h : rSortU K [.ref a] H Q) : rSortV K [.ref a] H Q := .inl h
theorem s_sortTS {a : Addr} {xs : List V} {ks : List (List Sc)} (hC : Ctx K B H L I) (m : H a = some (.lst xs)) (ht : TupS K H xs ks) (al : allLike ks) (fi : ∀ d, d ∈ ks → ∃ n, d[0]? = some (.i n))
    (k : ∀ ys ks' p H1, TupS K H ys ks' → ks'.Perm ks → ks'.Pairwise (fun x y => lexS y x = false) → Ctx K B H1 ((p, .lst ys) :: L) I → Q (.ref p) H1) : rSortV K [.ref a] H Q :=
  .inr ⟨a, xs, ks, rfl, SqL.of m, ht, al, fi, fun ys ks' p h1 h2 h3 hp => k ys ks' p _ h1 h2 h3 (hC.newM hp rfl)⟩
theorem s_lidx {a : Addr} {xs : List V} {ys : List Str} {x : Str} (m : H a = some (.lst xs)) (e : xs = ys.map V.str) (hx : x ∈ ys) (q : Q (.int (ys.idxOf x : Nat)) H) : rIndex K (.ref a) [.str x] H Q := by
  subst e
  obtain ⟨h1, h2⟩ := idxOf_first hx
  refine ⟨a, ys.map V.str, .str x, ys.idxOf x, .str x, rfl, rfl, SqL.of m, rfl, by rw [List.all_map]; exact List.all_eq_true.mpr fun _ _ => rfl, by rw [List.getElem?_map, h1]; rfl, by simp [eqV], fun j z hj hz => ?_, q⟩
  rw [List.getElem?_map] at hz
  obtain ⟨y, hy, rfl⟩ := Option.map_eq_some_iff.mp hz
  have : y ≠ x := fun z => h2 j hj (by rw [hy, z])
  simp [eqV, this]
theorem s_tidx {a : Addr} {xs : List V} {ys : List Str} {x : Str} (m : SqT K H a xs) (e : xs = ys.map V.str) (hx : x ∈ ys) (q : Q (.int (ys.idxOf x : Nat)) H) : rTupIx K (.ref a) [.str x] H Q := by
  subst e
  obtain ⟨h1, h2⟩ := idxOf_first hx
  exact ⟨a, ys, x, ys.idxOf x, rfl, rfl, m, h1, h2, q⟩
/-- d.pop(x), x is there -/
def kPop1 (ty : TE) (σ : L2.St) (Q : VK) : VK := fun x H1 => ∃ a, x = .ref a ∧ IsD H1 a ∧ ty σ H1 fun y H2 => ∃ kvs k v, H2 a = some (.dK kvs) ∧ y = kV k ∧ valV kvs k = some v ∧ Q v (upd H2 a (.dK (dropK kvs k)))
def kPop1y (a : Addr) (Q : VK) : VK := fun y H2 => ∃ kvs k v, H2 a = some (.dK kvs) ∧ y = kV k ∧ valV kvs k = some v ∧ Q v (upd H2 a (.dK (dropK kvs k)))
theorem s_pop1 {td ty : TE} (h : td σ H (kPop1 ty σ Q)) : tDPop1 td ty σ H Q := h
theorem s_pop1d {ty : TE} {r : List (Key × V)} (m : H d = some (.dK r)) (h : ty σ H (kPop1y d Q)) : kPop1 ty σ Q (.ref d) H := ⟨d, rfl, .inl ⟨r, .inl m⟩, h⟩
def kPop2 (ty tx : TE) (σ : L2.St) (Q : VK) : VK := fun x H1 => ∃ a, x = .ref a ∧ IsD H1 a ∧ ty σ H1 fun y H2 => tx σ H2 fun z H3 => ∃ kvs k, H3 a = some (.dK kvs) ∧ y = kV k ∧ (∀ v, valV kvs k = some v → Q v (upd H3 a (.dK (dropK kvs k)))) ∧ (valV kvs k = none → Q z H3)
def kPop2z (a : Addr) (y : V) (Q : VK) : VK := fun z H3 => ∃ kvs k, H3 a = some (.dK kvs) ∧ y = kV k ∧ (∀ v, valV kvs k = some v → Q v (upd H3 a (.dK (dropK kvs k)))) ∧ (valV kvs k = none → Q z H3)
def kPop2y (a : Addr) (tx : TE) (σ : L2.St) (Q : VK) : VK := fun y H2 => tx σ H2 (kPop2z a y Q)
theorem s_pop2 {td ty tx : TE} (h : td σ H (kPop2 ty tx σ Q)) : tDPop2 td ty tx σ H Q := h
theorem s_pop2d {ty tx : TE} {r : List (Key × V)} (m : H d = some (.dK r)) (h : ty σ H (kPop2y d tx σ Q)) : kPop2 ty tx σ Q (.ref d) H := ⟨d, rfl, .inl ⟨r, .inl m⟩, h⟩
theorem s_pop2y {tx : TE} {y : V} (h : tx σ H (kPop2z d y Q)) : kPop2y d tx σ Q y H := h
theorem s_pop1v {l : List (Str × α)} {x : Str} {v : α} (hC : Ctx K B H L I) (m : H d = some (.dK (mK f l))) (e : look l x = some v) (u : Up d (.dK (mK f (l.filter fun p => decide (p.1 ≠ x)))) L L') (k : ∀ H1, Ctx K B H1 L' I → Q (f v) H1) : kPop1y d Q (.str x) H :=
  ⟨mK f l, .inr x, f v, m, rfl, by rw [valV_mK, e]; rfl, by rw [dropK_mK]; exact k _ (hC.put u rfl)⟩
theorem s_pop2v {l : List (Str × α)} {x : Str} {v : α} {z : V} (hC : Ctx K B H L I) (m : H d = some (.dK (mK f l))) (e : look l x = some v) (u : Up d (.dK (mK f (l.filter fun p => decide (p.1 ≠ x)))) L L') (k : ∀ H1, Ctx K B H1 L' I → Q (f v) H1) : kPop2z d (.str x) Q z H :=
  ⟨mK f l, .inr x, m, rfl, fun w hw => by
    rw [valV_mK, e] at hw
    cases hw
    rw [dropK_mK]; exact k _ (hC.put u rfl), fun hw => by rw [valV_mK, e] at hw; cases hw⟩
/-- a for under a lock -/
def uN (d : Addr) (od : Obj) (u : HO) (A : L2.St → Hp → Prop) : L2.St → Hp → Prop := fun σ' H' => H' d = some (.frz od u) ∧ A σ' (upd H' d u)
def uV (d : Addr) (od : Obj) (u : HO) (A : VK) : VK := fun v H' => H' d = some (.frz od u) ∧ A v (upd H' d u)
theorem s_lockS {t : TS} {d : Addr} {u : HO} {A Bk Ct : L2.St → Hp → Prop} {Rt : VK} (hC : Ctx K B H L I) (m : Pick (d, u) L L') (mu : Mut (some u))
    (k : ∀ od H1, Stb H H1 → Ctx K H1 H1 L' (.pr (fun H => H d = some (.frz od u)) (fun _ _ s h => s _ _ h rfl) :: I) → t ⟨uN d od u A, uV d od u Rt, uN d od u Bk, uN d od u Ct⟩ σ H1) : tLock t ⟨A, Rt, Bk, Ct⟩ σ H := by
  have hC := hC.pick m
  have e := hC.lay.at_ _ List.mem_cons_self
  refine ⟨d, u, hC.get List.mem_cons_self, mu, fun od => ?_⟩
  have s : Stb H (upd H d (.frz od u)) := Stb.put e.1 e.2
  refine k od _ s ?_
  refine ⟨⟨(List.nodup_cons.mp hC.lay.nd).2, fun p hp => ?_⟩, fun i hi => ?_, Stb.refl _⟩
  · have q := hC.lay.at_ p (List.mem_cons_of_mem _ hp)
    have ne : p.1 ≠ d := hC.lay.ne (u := p.2) hp
    exact ⟨by rw [upd_ne ne]; exact q.1, q.2⟩
  · rcases List.mem_cons.mp hi with rfl | hi
    · exact upd_same
    · exact Im.mono s (hC.im i hi)
theorem s_unN {od : Obj} {u : HO} {A : L2.St → Hp → Prop} {H1 H2 : Hp} {L2' : List (Addr × HO)} {J : List Im} (hC0 : Ctx K B H L I) (m : Pick (d, u) L L') (e1 : Stb H H1) (hC : Ctx K H1 H2 L2' J) (f : H2 d = some (.frz od u)) (k : Ctx K B (upd H2 d u) ((d, u) :: L2') I → A σ (upd H2 d u)) : uN d od u A σ H2 := ⟨f, k (unlock hC0 m e1 hC f)⟩
end
end Ph
namespace Ph
open PySem PySem.Spec PyProof.Rows L2
theorem drop_cons {α : Type} {l : List α} {i : Nat} {e : α} (h : l[i]? = some e) : l.drop i = e :: l.drop (i + 1) := by
  obtain ⟨hi, q⟩ := List.getElem?_eq_some_iff.mp h
  rw [List.drop_eq_getElem_cons hi, q]
theorem take_snoc {α : Type} {l : List α} {i : Nat} {e : α} (h : l[i]? = some e) : l.take (i + 1) = l.take i ++ [e] := by rw [List.take_succ, h]; rfl
theorem split_cons {α : Type} {l : List α} {i : Nat} {e : α} (h : l[i]? = some e) : l = l.take i ++ e :: l.drop (i + 1) := by rw [← drop_cons h, List.take_append_drop]
section
variable {ε : Type} {K : PySem.W.Frag} {B H : Hp} {L L' F : List (Addr × HO)} {I : List Im} {Q : VK} {σ : L2.St} {A Cb Dc : L2.St → Hp → Prop} {Bt : VK} {J : It} {G : Hp → Prop} {Y : Nat → Hp → V → Hp → Prop} {es : List ε} {kf : ε → V} {cg : ε → Addr × HO}
theorem mid_perm {x : Addr × HO} {P M N F : List (Addr × HO)} : (P ++ ((M ++ x :: N) ++ F)).Perm (x :: (P ++ (M ++ (N ++ F)))) := by
  rw [List.append_assoc, List.cons_append]
  refine (List.Perm.append_left P List.perm_middle).trans ?_
  exact List.perm_middle
/-- what a for keeps: S at each turn, with the cells ahead of the things' own, and the facts -/
theorem for_cells {tg : TG} {tb : TS} (w : Walk J es.length G Y) (hY : ∀ i H x H', Y i H x H' → H' = H ∧ ∃ e, es[i]? = some e ∧ x = kf e) (g : ε → ε) (S : Nat → L2.St → List (Addr × HO) → List Im → Prop)
    (hG : ∀ i σ P I H1 M, S i σ P I → Ctx K B H1 (P ++ M) I → G H1) {P : List (Addr × HO)} (h0 : S 0 σ P I) (hC : Ctx K B H (P ++ (es.map cg ++ F)) I)
    (turn : ∀ (i : Nat) e σ P I H1 R (Z : L2.St → Hp → Prop), es[i]? = some e → S i σ P I → Ctx K B H1 (cg e :: (P ++ R)) I → (∀ σ' P' I' H', S (i + 1) σ' P' I' → Ctx K B H' (cg (g e) :: (P' ++ R)) I' → Z σ' H') → tg (kf e) σ H1 fun σ2 H2 => tb ⟨Z, Bt, A, Z⟩ σ2 H2)
    (k : ∀ σ' P' I' H', S es.length σ' P' I' → Ctx K B H' (P' ++ ((es.map g).map cg ++ F)) I' → A σ' H') : kFor tg tb ⟨A, Bt, Cb, Dc⟩ σ J H := by
  refine for_w w (fun i σ H1 => ∃ P I, S i σ P I ∧ Ctx K B H1 (P ++ ((((es.take i).map g ++ es.drop i).map cg) ++ F)) I) ⟨P, I, h0, hC⟩ (fun i σ H1 _ ⟨P, I, hS, hC⟩ => hG i σ P I H1 _ hS hC) ?_ ?_
  · rintro i x σ H1 H2 hi ⟨P, I, hS, hC⟩ hy
    obtain ⟨rfl, e, he, rfl⟩ := hY _ _ _ _ hy
    rw [drop_cons he, List.map_append, List.map_cons] at hC
    refine turn i e σ P I _ _ _ he hS (hC.perm mid_perm) (fun σ' P' I' H' hS' hC' => ⟨P', I', hS', ?_⟩)
    refine hC'.perm ?_
    rw [take_snoc he]
    simp only [List.map_append, List.map_cons, List.map_nil, List.append_assoc, List.cons_append, List.nil_append]
    exact perm_focus.symm
  · rintro σ H1 ⟨P, I, hS, hC⟩
    rw [List.take_length, List.drop_length, List.append_nil] at hC
    exact k σ P I H1 hS hC
/-- a comprehension that reads -/
theorem lc_cells {tg : TG} {tt : TT} {te : TE} {vs : List Nat} (w : Walk J es.length G Y) (hY : ∀ i H x H', Y i H x H' → H' = H ∧ ∃ e, es[i]? = some e ∧ x = kf e) (p : ε → Bool) (dv : ε → PyData) (hz : es.length ≤ 10000) {P : List (Addr × HO)}
    (hG : ∀ H1 M, Ctx K B H1 (M ++ P) I → G H1) (hC : Ctx K B H (P ++ (es.map cg ++ F)) I)
    (turn : ∀ (i : Nat) e H1 R (Zy : VK) (Zn : Hp → Prop), es[i]? = some e → Ctx K H1 H1 (cg e :: (P ++ R)) I → (∀ H2 x J', p e = true → Ctx K H1 H2 (cg e :: (P ++ R)) J' → (∀ j, j ∈ I → j ∈ J') → TD K H2 x (dv e) → Zy x H2) → (∀ H2 J', p e = false → Ctx K H1 H2 (cg e :: (P ++ R)) J' → (∀ j, j ∈ I → j ∈ J') → Zn H2) →
      tg (kf e) (wipe σ vs) H1 fun σ2 H2 => wipe σ2 vs = wipe σ vs ∧ tt σ2 H2 fun b H3 => if b = true then te σ2 H3 Zy else Zn H3)
    (k : ∀ H' D vr, Ctx K B H' ((D, .lst vr) :: (P ++ (es.map cg ++ F))) (.dats vr ((es.filter p).map dv) :: I) → Q (.ref D) H') : kLc tg tt te vs σ Q J H := by
  refine lc_w w hC (fun D i H1 => ∃ vr, Ctx K B H1 ((D, .lst vr) :: (P ++ (es.map cg ++ F))) (.dats vr (((es.take i).filter p).map dv) :: I)) (fun D H1 hC => ⟨[], hC.add (i := .dats [] []) .nil⟩) (fun D i H1 _ ⟨vr, hC⟩ => ?_) ?_ ?_
  · refine hG H1 ((D, .lst vr) :: (es.map cg ++ F)) ⟨hC.lay.perm ?_, fun j hj => hC.im j (List.mem_cons_of_mem _ hj), hC.sb⟩
    exact List.Perm.cons _ List.perm_append_comm
  · rintro i x D H1 H2 hi ⟨vr, hC⟩ hy
    obtain ⟨rfl, e, he, rfl⟩ := hY _ _ _ _ hy
    have hd : TDs K _ vr (((es.take i).filter p).map dv) := hC.dats List.mem_cons_self
    have hl : vr.length ≤ 10000 := by
      rw [hd.length, List.length_map]
      refine Nat.le_trans (List.length_filter_le _ _) ?_
      rw [List.length_take]
      omega
    have hp : ((D, HO.lst vr) :: (P ++ (es.map cg ++ F))).Perm (cg e :: (P ++ ((D, .lst vr) :: ((es.take i).map cg ++ ((es.drop (i + 1)).map cg ++ F))))) := by
      rw [split_cons he, List.map_append, List.map_cons]
      refine (List.Perm.cons _ mid_perm).trans ?_
      refine (List.Perm.swap _ _ _).trans (List.Perm.cons _ ?_)
      rw [← split_cons he]
      exact List.perm_middle.symm
    have hC1 := hC.rebase
    refine turn i e _ _ _ _ he ⟨hC1.lay.perm hp, fun j hj => hC1.im j (List.mem_cons_of_mem _ hj), hC1.sb⟩ (fun H3 x J' hb hC2 hs ht => ?_) (fun H3 J' hb hC2 hs => ⟨vr, ?_⟩)
    · have hC3 : Ctx K B H3 ((D, .lst vr) :: (P ++ (es.map cg ++ F))) (.dats vr (((es.take i).filter p).map dv) :: .dats [x] [dv e] :: I) := ⟨hC2.lay.perm hp.symm, fun j hj => by
        rcases List.mem_cons.mp hj with rfl | hj
        · exact Im.mono hC2.sb (hC.im _ List.mem_cons_self)
        · rcases List.mem_cons.mp hj with rfl | hj
          · exact TDs.cons ht .nil
          · exact hC2.im j (hs j hj), hC.sb.trans hC2.sb⟩
      refine s_app (acc := vr) hC3 (hC3.get List.mem_cons_self) (by omega) .here (fun H4 hC4 => ⟨vr ++ [x], ?_⟩)
      have h1 := TDs.append (hC4.dats (vs := vr) (ds := ((es.take i).filter p).map dv) List.mem_cons_self) (hC4.dats (vs := [x]) (ds := [dv e]) (List.mem_cons_of_mem _ List.mem_cons_self))
      rw [take_snoc he, List.filter_append, List.map_append, show ([e] : List ε).filter p = [e] from by simp [hb]]
      exact (hC4.add (i := .dats (vr ++ [x]) _) h1).keepI (fun j hj => by
        rcases List.mem_cons.mp hj with rfl | hj
        · exact List.mem_cons_self
        · exact List.mem_cons_of_mem _ (List.mem_cons_of_mem _ (List.mem_cons_of_mem _ hj)))
    · rw [take_snoc he, List.filter_append, show ([e] : List ε).filter p = [] from by simp [hb], List.append_nil]
      exact ⟨hC2.lay.perm hp.symm, fun j hj => by
        rcases List.mem_cons.mp hj with rfl | hj
        · exact Im.mono hC2.sb (hC.im _ List.mem_cons_self)
        · exact hC2.im j (hs j hj), hC.sb.trans hC2.sb⟩
  · rintro D H1 ⟨vr, hC⟩
    rw [List.take_length] at hC
    exact k H1 D vr hC
def YE (es : List ε) (kf : ε → V) : Nat → Hp → V → Hp → Prop := fun i H x H' => H' = H ∧ ∃ e, es[i]? = some e ∧ x = kf e
theorem ye {i : Nat} {H H' : Hp} {x : V} (h : YE es kf i H x H') : H' = H ∧ ∃ e, es[i]? = some e ∧ x = kf e := h
theorem walk_lstE {a : Addr} {xs : List V} (hx : xs = es.map kf) : Walk (Itl K a) es.length (fun H => SqL K H a xs) (YE es kf) := by
  subst hx
  have w := walk_list (K := K) (a := a) (xs := es.map kf)
  rw [List.length_map] at w
  refine ⟨w.goes, w.stops, fun i H x H' hi hg h => ?_⟩
  obtain ⟨rfl, q⟩ := w.yields i H x H' hi hg h
  rw [List.getElem?_map] at q
  obtain ⟨e, he, rfl⟩ := Option.map_eq_some_iff.mp q
  exact ⟨rfl, e, he, rfl⟩
theorem walk_tupE {a : Addr} {xs : List V} (hx : xs = es.map kf) : Walk (Itt K a) es.length (fun H => SqT K H a xs) (YE es kf) := by
  subst hx
  have w := walk_tup (K := K) (a := a) (xs := es.map kf)
  rw [List.length_map] at w
  refine ⟨w.goes, w.stops, fun i H x H' hi hg h => ?_⟩
  obtain ⟨rfl, q⟩ := w.yields i H x H' hi hg h
  rw [List.getElem?_map] at q
  obtain ⟨e, he, rfl⟩ := Option.map_eq_some_iff.mp q
  exact ⟨rfl, e, he, rfl⟩
theorem walk_keysE {d : Addr} {o : Obj} {kk : ε → Key} {vf : ε → V} {kvs : List (Key × V)} (hk : kvs = es.map fun e => (kk e, vf e)) : Walk (Itk d o kvs) es.length (fun H => H d = some (.frz o (.dK kvs))) (YE es fun e => kV (kk e)) := by
  subst hk
  have w := walk_keys (d := d) (o := o) (kvs := es.map fun e => (kk e, vf e))
  rw [List.length_map] at w
  refine ⟨w.goes, w.stops, fun i H x H' hi hg h => ?_⟩
  obtain ⟨rfl, k, v, q, rfl⟩ := w.yields i H x H' hi hg h
  rw [List.getElem?_map] at q
  obtain ⟨e, he, h2⟩ := Option.map_eq_some_iff.mp q
  cases h2
  exact ⟨rfl, e, he, rfl⟩
theorem walk_valsE {d : Addr} {o : Obj} {kk : ε → Key} {vf : ε → V} {kvs : List (Key × V)} (hk : kvs = es.map fun e => (kk e, vf e)) : Walk (Itd d o kvs) es.length (fun H => H d = some (.frz o (.dK kvs))) (YE es vf) := by
  subst hk
  have w := walk_values (d := d) (o := o) (kvs := es.map fun e => (kk e, vf e))
  rw [List.length_map] at w
  refine ⟨w.goes, w.stops, fun i H x H' hi hg h => ?_⟩
  obtain ⟨rfl, k, q⟩ := w.yields i H x H' hi hg h
  rw [List.getElem?_map] at q
  obtain ⟨e, he, h2⟩ := Option.map_eq_some_iff.mp q
  cases h2
  exact ⟨rfl, e, he, rfl⟩
/-- a tuple of a generator that reads -/
theorem tup_cells {tg : TG} {tt : TT} {te : TE} {vs : List Nat} (w : Walk J es.length G (YE es kf)) (p : ε → Bool) (dv : ε → PyData) (hz : es.length ≤ 10000) {P : List (Addr × HO)}
    (hG : ∀ H1 M, Ctx K B H1 (M ++ P) I → G H1) (hC : Ctx K B H (P ++ (es.map cg ++ F)) I)
    (turn : ∀ (i : Nat) e H1 R (Zy : VK) (Zn : Hp → Prop), es[i]? = some e → Ctx K H1 H1 (cg e :: (P ++ R)) I → (∀ H2 x J', p e = true → Ctx K H1 H2 (cg e :: (P ++ R)) J' → (∀ j, j ∈ I → j ∈ J') → TD K H2 x (dv e) → Zy x H2) → (∀ H2 J', p e = false → Ctx K H1 H2 (cg e :: (P ++ R)) J' → (∀ j, j ∈ I → j ∈ J') → Zn H2) →
      tg (kf e) (wipe σ vs) H1 fun σ2 H2 => wipe σ2 vs = wipe σ vs ∧ tt σ2 H2 fun b H3 => if b = true then te σ2 H3 Zy else Zn H3)
    (k : ∀ H' t vr, Ctx K B H' (P ++ (es.map cg ++ F)) (.tup t vr :: .dats vr ((es.filter p).map dv) :: I) → Q (.ref t) H') : kTupW tg tt te vs σ Q J H := by
  refine tup_w w (by omega) (fun i ys H1 => Ctx K B H1 (P ++ (es.map cg ++ F)) (.dats ys (((es.take i).filter p).map dv) :: I)) (hC.add (i := .dats [] []) .nil) (fun i ys H1 _ hC => ?_) ?_ ?_
  · refine hG H1 (es.map cg ++ F) ⟨hC.lay.perm ?_, fun j hj => hC.im j (List.mem_cons_of_mem _ hj), hC.sb⟩
    exact List.perm_append_comm
  · rintro i x H1 H2 ys hi hy1 hy2 hC hy
    obtain ⟨rfl, e, he, rfl⟩ := ye hy
    have hp : (P ++ (es.map cg ++ F)).Perm (cg e :: (P ++ ((es.take i).map cg ++ ((es.drop (i + 1)).map cg ++ F)))) := by
      conv => lhs; rw [split_cons he]
      rw [List.map_append, List.map_cons]
      exact mid_perm
    have hC1 := hC.rebase
    have hw := turn i e H2 ((es.take i).map cg ++ ((es.drop (i + 1)).map cg ++ F)) (kTupE ys (i + 1) fun ys H1 => Ctx K B H1 (P ++ (es.map cg ++ F)) (.dats ys (((es.take (i + 1)).filter p).map dv) :: I)) (fun H3 => ys.length ≤ i + 1 ∧ Ctx K B H3 (P ++ (es.map cg ++ F)) (.dats ys (((es.take (i + 1)).filter p).map dv) :: I)) he ⟨hC1.lay.perm hp, fun j hj => hC1.im j (List.mem_cons_of_mem _ hj), hC1.sb⟩
    refine hw (fun H3 x J' hb hC2 hs ht => ?_) (fun H3 J' hb hC2 hs => ⟨by omega, ?_⟩)
    · refine s_tupE hy1 hy2 ?_
      rw [take_snoc he, List.filter_append, List.map_append, show ([e] : List ε).filter p = [e] from by simp [hb]]
      exact ⟨hC2.lay.perm hp.symm, fun j hj => by
        rcases List.mem_cons.mp hj with rfl | hj
        · exact TDs.append (show TDs K H3 ys (((es.take i).filter p).map dv) from Im.mono (K := K) (i := .dats ys (((es.take i).filter p).map dv)) hC2.sb (hC.im _ List.mem_cons_self)) (TDs.cons ht .nil)
        · exact hC2.im j (hs j hj), hC.sb.trans hC2.sb⟩
    · rw [take_snoc he, List.filter_append, show ([e] : List ε).filter p = [] from by simp [hb], List.append_nil]
      exact ⟨hC2.lay.perm hp.symm, fun j hj => by
        rcases List.mem_cons.mp hj with rfl | hj
        · exact Im.mono hC2.sb (hC.im _ List.mem_cons_self)
        · exact hC2.im j (hs j hj), hC.sb.trans hC2.sb⟩
  · intro ys H1 hC l hl
    rw [List.take_length] at hC
    exact k _ l ys (hC.newT hl)
theorem tds_strs : ∀ {vr : List V} {ns : List Str}, TDs K H vr (ns.map PyData.str) → vr = ns.map V.str
  | _, [], .nil => rfl
  | _, _ :: _, .cons (.str _) r => by rw [tds_strs r]; rfl
theorem tds_ints : ∀ {vr : List V} {ns : List Int}, TDs K H vr (ns.map PyData.int) → vr = ns.map V.int
  | _, [], .nil => rfl
  | _, _ :: _, .cons (.int _) r => by rw [tds_ints r]; rfl
end
end Ph
namespace Ph
open PySem PySem.Spec PyProof.Rows L2
theorem inV_strs {x : Str} : ∀ {ys : List Str}, inV (.str x) (ys.map V.str) = decide (x ∈ ys)
  | [] => rfl
  | y :: ys => by
    have ih := inV_strs (x := x) (ys := ys)
    unfold inV at ih ⊢
    rw [List.map_cons, List.any_cons, ih]
    by_cases q : x = y
    · subst q; simp [eqV]
    · have q2 : y ≠ x := fun z => q z.symm
      simp [eqV, q, q2]
section
variable {K : PySem.W.Frag} {H : Hp} {Q : VK} {a : Addr} {xs : List V} {ys : List Str} {x u v : Str}
theorem s_inT (m : SqT K H a xs) (e : xs = ys.map V.str) (q : Q (.bl (decide (x ∈ ys))) H) : rInV K (.str x) (.ref a) H Q := by
  subst e
  exact .inl (.inl ⟨a, _, rfl, .inr m, rfl, by rw [List.all_map]; exact List.all_eq_true.mpr fun _ _ => rfl, by rw [if_neg Bool.false_ne_true, inV_strs]; exact q⟩)
theorem s_inL (m : H a = some (.lst xs)) (e : xs = ys.map V.str) (q : Q (.bl (decide (x ∈ ys))) H) : rInV K (.str x) (.ref a) H Q := by
  subst e
  exact .inl (.inl ⟨a, _, rfl, .inl (SqL.of m), rfl, by rw [List.all_map]; exact List.all_eq_true.mpr fun _ _ => rfl, by rw [if_neg Bool.false_ne_true, inV_strs]; exact q⟩)
theorem s_in2T (m : SqT K H a [.str u, .str v]) (q : Q (.bl (decide (x = u ∨ x = v))) H) : rInV K (.str x) (.ref a) H Q := s_inT (ys := [u, v]) m rfl (by rw [show decide (x ∈ [u, v]) = decide (x = u ∨ x = v) from by simp]; exact q)
theorem s_in2L (m : H a = some (.lst [.str u, .str v])) (q : Q (.bl (decide (x = u ∨ x = v))) H) : rInV K (.str x) (.ref a) H Q := s_inL (ys := [u, v]) m rfl (by rw [show decide (x ∈ [u, v]) = decide (x = u ∨ x = v) from by simp]; exact q)
end
end Ph
namespace Ph
open PySem PySem.Spec PyProof.Rows L2
section
variable {ε : Type} {K : PySem.W.Frag} {B H : Hp} {L L' F : List (Addr × HO)} {I : List Im} {Q : VK} {σ : L2.St} {J : It} {G : Hp → Prop} {es : List ε} {kf : ε → V}
theorem lc_read {tg : TG} {tt : TT} {te : TE} {vs : List Nat} (w : Walk J es.length G (YE es kf)) (p : ε → Bool) (dv : ε → PyData) (hz : es.length ≤ 99000) (hG : ∀ H1 x, Ctx K B H1 (x :: L) I → G H1) (hC : Ctx K B H L I)
    (turn : ∀ (i : Nat) e H1 D vr (Zy : VK) (Zn : Hp → Prop), es[i]? = some e → Ctx K H1 H1 ((D, .lst vr) :: L) I → (∀ H2 x J', p e = true → Ctx K H1 H2 ((D, .lst vr) :: L) J' → (∀ j, j ∈ I → j ∈ J') → TD K H2 x (dv e) → Zy x H2) → (∀ H2 J', p e = false → Ctx K H1 H2 ((D, .lst vr) :: L) J' → (∀ j, j ∈ I → j ∈ J') → Zn H2) →
      tg (kf e) (wipe σ vs) H1 fun σ2 H2 => wipe σ2 vs = wipe σ vs ∧ tt σ2 H2 fun b H3 => if b = true then te σ2 H3 Zy else Zn H3)
    (k : ∀ H' D vr, Ctx K B H' ((D, .lst vr) :: L) (.dats vr ((es.filter p).map dv) :: I) → Q (.ref D) H') : kLc tg tt te vs σ Q J H := by
  refine lc_w w hC (fun D i H1 => ∃ vr, Ctx K B H1 ((D, .lst vr) :: L) (.dats vr (((es.take i).filter p).map dv) :: I)) (fun D H1 hC => ⟨[], hC.add (i := .dats [] []) .nil⟩) (fun D i H1 _ ⟨vr, hC⟩ => hG H1 _ ⟨hC.lay, fun j hj => hC.im j (List.mem_cons_of_mem _ hj), hC.sb⟩) ?_ ?_
  · rintro i x D H1 H2 hi ⟨vr, hC⟩ hy
    obtain ⟨rfl, e, he, rfl⟩ := ye hy
    have hd : TDs K _ vr (((es.take i).filter p).map dv) := hC.dats List.mem_cons_self
    have hl : vr.length ≤ 99000 := by
      rw [hd.length, List.length_map]
      refine Nat.le_trans (List.length_filter_le _ _) ?_
      rw [List.length_take]
      omega
    have hC1 := hC.rebase
    refine turn i e _ _ _ _ _ he ⟨hC1.lay, fun j hj => hC1.im j (List.mem_cons_of_mem _ hj), hC1.sb⟩ (fun H3 x J' hb hC2 hs ht => ?_) (fun H3 J' hb hC2 hs => ⟨vr, ?_⟩)
    · have hC3 : Ctx K B H3 ((D, .lst vr) :: L) (.dats vr (((es.take i).filter p).map dv) :: .dats [x] [dv e] :: I) := ⟨hC2.lay, fun j hj => by
        rcases List.mem_cons.mp hj with rfl | hj
        · exact Im.mono hC2.sb (hC.im _ List.mem_cons_self)
        · rcases List.mem_cons.mp hj with rfl | hj
          · exact TDs.cons ht .nil
          · exact hC2.im j (hs j hj), hC.sb.trans hC2.sb⟩
      refine s_app (acc := vr) hC3 (hC3.get List.mem_cons_self) (by omega) .here (fun H4 hC4 => ⟨vr ++ [x], ?_⟩)
      have h1 := TDs.append (hC4.dats (vs := vr) (ds := ((es.take i).filter p).map dv) List.mem_cons_self) (hC4.dats (vs := [x]) (ds := [dv e]) (List.mem_cons_of_mem _ List.mem_cons_self))
      rw [take_snoc he, List.filter_append, List.map_append, show ([e] : List ε).filter p = [e] from by simp [hb]]
      exact (hC4.add (i := .dats (vr ++ [x]) _) h1).keepI (fun j hj => by
        rcases List.mem_cons.mp hj with rfl | hj
        · exact List.mem_cons_self
        · exact List.mem_cons_of_mem _ (List.mem_cons_of_mem _ (List.mem_cons_of_mem _ hj)))
    · rw [take_snoc he, List.filter_append, show ([e] : List ε).filter p = [] from by simp [hb], List.append_nil]
      exact ⟨hC2.lay, fun j hj => by
        rcases List.mem_cons.mp hj with rfl | hj
        · exact Im.mono hC2.sb (hC.im _ List.mem_cons_self)
        · exact hC2.im j (hs j hj), hC.sb.trans hC2.sb⟩
  · rintro D H1 ⟨vr, hC⟩
    rw [List.take_length] at hC
    exact k H1 D vr hC
/-- texts of a list of texts: no cells are made -/
theorem lc_strs {tg : TG} {tt : TT} {te : TE} {vs : List Nat} {a : Addr} {ns : List Str} (p : Str → Bool) (hz : ns.length ≤ 99000) (hm : (a, .lst (ns.map V.str)) ∈ L) (hC : Ctx K B H L I)
    (turn : ∀ x H1 (Zy : VK) (Zn : Hp → Prop), (p x = true → Zy (.str x) H1) → (p x = false → Zn H1) → tg (.str x) (wipe σ vs) H1 fun σ2 H2 => wipe σ2 vs = wipe σ vs ∧ tt σ2 H2 fun b H3 => if b = true then te σ2 H3 Zy else Zn H3)
    (k : ∀ H' D, Ctx K B H' ((D, .lst ((ns.filter p).map V.str)) :: L) I → Q (.ref D) H') : kLc tg tt te vs σ Q (Itl K a) H := by
  refine lc_read (es := ns) (kf := V.str) (walk_lstE rfl) p PyData.str hz (fun H1 x hC => SqL.of (hC.get (List.mem_cons_of_mem _ hm))) hC (fun i x H1 D vr Zy Zn he hC hy hn => turn x H1 Zy Zn (fun hb => hy H1 _ I hb hC (fun j hj => hj) (.str x)) (fun hb => hn H1 I hb hC (fun j hj => hj))) (fun H' D vr hC => ?_)
  have hd := hC.dats (vs := vr) List.mem_cons_self
  rw [tds_strs hd] at hC
  exact k H' D ⟨hC.lay, fun j hj => hC.im j (List.mem_cons_of_mem _ hj), hC.sb⟩
end
end Ph
namespace Ph
open PySem PySem.Spec PyProof.Rows L2
abbrev imFz (d : Addr) (od : Obj) (u : HO) : Im := .pr (fun H => H d = some (.frz od u)) (fun _ _ s h => s _ _ h rfl)
section
variable {K : PySem.W.Frag} {B H : Hp} {L L' : List (Addr × HO)} {I : List Im} {Q : VK} {σ : L2.St} {d : Addr} {od : Obj} {u : HO}
theorem _root_.Ph.Ctx.frz (hC : Ctx K B H L I) (m : imFz d od u ∈ I) : H d = some (.frz od u) := hC.pr (P := fun H => H d = some (.frz od u)) m
theorem s_ixKFi {o : Obj} {l : List (Str × V)} {x : Str} {v : V} (m : H d = some (.frz o (.dK (mK id l)))) (e : look l x = some v) (q : Q v H) : rIxU K (.ref d) (.str x) H Q := s_ixKF (f := id) m e q
theorem s_sum {a : Addr} {ns : List Int} {xs : List V} (m : H a = some (.lst xs)) (e : xs = ns.map V.int) (q : Q (.int ns.sum) H) : rSum K [.ref a] H Q := by
  subst e
  exact ⟨a, ns, rfl, SqL.of m, q⟩
theorem s_lockE {t : TE} (hC : Ctx K B H L I) (m : Pick (d, u) L L') (mu : Mut (some u)) (k : ∀ od H1, Stb H H1 → Ctx K H1 H1 L' (imFz d od u :: I) → t σ H1 (kUnl d od u Q)) : tLockE t σ H Q := s_lock hC m mu k
theorem s_lockT {t : TS} {A Bk Ct : L2.St → Hp → Prop} {Rt : VK} (hC : Ctx K B H L I) (m : Pick (d, u) L L') (mu : Mut (some u)) (k : ∀ od H1, Stb H H1 → Ctx K H1 H1 L' (imFz d od u :: I) → t ⟨uN d od u A, uV d od u Rt, uN d od u Bk, uN d od u Ct⟩ σ H1) : tLock t ⟨A, Rt, Bk, Ct⟩ σ H := s_lockS hC m mu k
end
end Ph
namespace Ph
open PySem PySem.Spec PyProof.Rows L2
section
variable {K : PySem.W.Frag} {H : Hp} {Q : VK} {l m : Addr} {ns ms : List Str}
theorem strs_tds : ∀ ns : List Str, TDs K H (ns.map V.str) (ns.map PyData.str)
  | [] => .nil
  | n :: r => .cons (.str n) (strs_tds r)
theorem ints_tds : ∀ ns : List Int, TDs K H (ns.map V.int) (ns.map PyData.int)
  | [] => .nil
  | n :: r => .cons (.int n) (ints_tds r)
theorem strs_sh (so : ∀ x, x ∈ ns → PyData.strOk x = true) : ShL 50 (ns.map PyData.str) := fun d hd => by
  obtain ⟨x, hx, rfl⟩ := List.mem_map.mp hd
  exact .str (so x hx)
theorem s_neStr (hl : H l = some (.lst (ns.map V.str))) (hm : H m = some (.lst [])) (so : ∀ x, x ∈ ns → PyData.strOk x = true) (k : Q (.bl (!ns.isEmpty)) H) : rNeU K (.ref l) (.ref m) H Q :=
  s_neE hl hm (strs_tds ns) (strs_sh so) (by rw [show (ns.map PyData.str).isEmpty = ns.isEmpty from by cases ns <;> rfl]; exact k)
theorem s_eqStr (hl : H l = some (.lst (ns.map V.str))) (hm : H m = some (.lst [])) (so : ∀ x, x ∈ ns → PyData.strOk x = true) (k : Q (.bl ns.isEmpty) H) : rEqU K (.ref l) (.ref m) H Q :=
  s_eqE hl hm (strs_tds ns) (strs_sh so) (by rw [show (ns.map PyData.str).isEmpty = ns.isEmpty from by cases ns <;> rfl]; exact k)
theorem s_neSameS (hl : H l = some (.lst (ns.map V.str))) (hm : H m = some (.lst (ns.map V.str))) (so : ∀ x, x ∈ ns → PyData.strOk x = true) (k : Q (.bl false) H) : rNeU K (.ref l) (.ref m) H Q :=
  s_neSameL hl hm (strs_tds ns) (strs_tds ns) (strs_sh so) k
end
end Ph
namespace Ph
open PySem PySem.Spec PyProof.Rows L2
def TupK (K : PySem.W.Frag) (a : Addr) (xs : List V) : Prop := (∀ H : Hp, SqT K H a xs) ∧ ∃ o : Obj, K.lookup a = some o ∧ o.cls = .type "tuple" ∧ o.dict = none
def strOfV : Value → Option Str
  | .str z _ => some z
  | _ => none
def strsAre : List Value → List Str → Bool
  | [], [] => true
  | .str z _ :: r, s :: t => z == s && strsAre r t
  | _, _ => false
theorem strsAre_ok : ∀ {l : List Value} {ss : List Str}, strsAre l ss = true → Vals (ss.map V.str) l
  | [], [], _ => .nil
  | .str z t :: r, s :: ss, h => by
    simp only [strsAre, Bool.and_eq_true, beq_iff_eq] at h
    obtain ⟨rfl, h⟩ := h
    exact .cons ⟨t, rfl⟩ (strsAre_ok h)
  | [], _ :: _, h => by cases h
  | v :: r, [], h => by cases v <;> cases h
  | .none :: _, _ :: _, h => by cases h
  | .bool _ :: _, _ :: _, h => by cases h
  | .int _ _ :: _, _ :: _, h => by cases h
  | .ref _ :: _, _ :: _, h => by cases h
  | v :: _, _ :: _, h => by
    cases v <;> first | cases h | skip
    simp only [strsAre, Bool.and_eq_true, beq_iff_eq] at h
    obtain ⟨rfl, h⟩ := h
    exact .cons ⟨_, rfl⟩ (strsAre_ok h)
def tupS (K : PySem.W.Frag) (a : Addr) (ss : List Str) : Bool := match K.lookup a with
  | some ⟨.type n, none, .seq its _, _⟩ => n == "tuple" && (strsAre its.toList ss && decide (its.size ≤ 1000))
  | _ => false
theorem tupS_ok {K : PySem.W.Frag} {a : Addr} {ss : List Str} (h : tupS K a ss = true) : TupK K a (ss.map V.str) := by
  unfold tupS at h
  split at h
  · rename_i n its k sl e
    simp only [Bool.and_eq_true, beq_iff_eq, decide_eq_true_eq] at h
    exact ⟨fun H => .inr ⟨_, its, k, e, by rw [h.1], rfl, by rw [sizeLine_eq]; omega, strsAre_ok h.2.1⟩, _, e, by rw [h.1], rfl⟩
  · cases h
theorem s_tyT {K : PySem.W.Frag} {H : Hp} {Q : VK} {σ : L2.St} {p : Addr} {xs : List V} {r : V → List V → Hp → VK → Prop} {tr : TA} (m : TupK K p xs) (h : tr σ H fun xs H2 => r (.ref p) xs H2 Q) : kBm K "tuple" r σ tr Q (.ref p) H := ⟨.inr (.inl ⟨rfl, m.2⟩), h⟩
end Ph
namespace Ph
open PySem PySem.Spec PyProof.Rows L2
def rNeDL : R2 := fun x y H Q => ∃ a b ks ls, x = .ref a ∧ y = .ref b ∧ H a = some (.dK ks) ∧ H b = some (.dK ls) ∧ ks.length ≠ ls.length ∧ Q (.bl true) H
def rNeX (K : PySem.W.Frag) : R2 := fun x y H Q => rNeU K x y H Q ∨ rNeDA x y H Q ∨ rNeDL x y H Q
section
variable {X : Cx}
theorem op_ne_dictL (hu : X.A.units < cLine) : OpR X (compareOp .NotEq) rNeDL := by
  intro pins s σ H x y v u Q I rx ry h
  obtain ⟨a, b, ks, ls, rfl, rfl, ea, eb, hlen, q⟩ := h
  obtain rfl : v = Value.ref a := rx
  obtain rfl : u = Value.ref b := ry
  obtain ⟨_, ya, va, ra, da⟩ := (show ObjOk X.prog X.w H s.heap a (.dK ks) from I.hok a _ ea)
  obtain ⟨_, yb, vb, rb, db⟩ := (show ObjOk X.prog X.w H s.heap b (.dK ls) from I.hok b _ eb)
  have hl : va.length ≠ vb.length := by rw [← ra.length, ← rb.length]; exact hlen
  exact PySem.W.keq_ne (knd := mixKind X.prog X.w) (r := false) ya yb da db hu (fun e => absurd e hl) (fin_bl I q (by simp [hl]))
theorem u_neX (hu : X.A.units + 64 < cLine) : OpR X (compareOp .NotEq) (rNeX X.K) := (u_ne hu).or ((op_ne_dictA (by omega)).or (op_ne_dictL (by omega)))
end
section
variable {K : PySem.W.Frag} {H : Hp} {Q : VK} {a b : Addr} {ks : List (Key × V)}
theorem s_neX0 (m : H a = some (.dK [])) (m2 : H b = some (.dK [])) (q : Q (.bl false) H) : rNeX K (.ref a) (.ref b) H Q := .inr (.inl ⟨a, b, [], [], rfl, rfl, m, m2, rfl, (fun p h => by cases h), q⟩)
theorem s_neX1 (m : H a = some (.dK ks)) (h : 0 < ks.length) (m2 : H b = some (.dK [])) (q : Q (.bl true) H) : rNeX K (.ref a) (.ref b) H Q := .inr (.inr ⟨a, b, ks, [], rfl, rfl, m, m2, (by rw [List.length_nil]; omega), q⟩)
end
end Ph
namespace Ph
open PySem PySem.Spec PyProof.Rows L2
def mI {α : Type} (f : α → V) (l : List (Int × α)) : List (Key × V) := l.map fun p => (.inl p.1, f p.2)
section
variable {α : Type} {f : α → V}
theorem mI_len {l : List (Int × α)} : (mI f l).length = l.length := by unfold mI; rw [List.length_map]
theorem mI_keys {l : List (Int × α)} : (mI f l).map (·.1) = (l.map (·.1)).map Sum.inl := by unfold mI; rw [List.map_map, List.map_map]; rfl
theorem valV_mI {k : Int} : ∀ {l : List (Int × α)}, valV (mI f l) (.inl k) = (look l k).map f
  | [] => rfl
  | p :: r => by
    show valV ((Sum.inl p.1, f p.2) :: mI f r) (.inl k) = _
    rw [look_cons]
    by_cases h : p.1 = k
    · rw [valV_pos (by simp [h]), if_pos h]; rfl
    · rw [valV_neg (by simpa using h), if_neg h, valV_mI]
theorem putK_mI {l : List (Int × α)} {k : Int} {v : α} : putK (mI f l) (.inl k) (f v) = mI f (putR l k v) := by
  unfold putK putR
  rw [valV_any, valV_mI, look_any, Option.isSome_map]
  split
  · unfold mI
    rw [List.map_map, List.map_map]
    refine List.map_congr_left fun p _ => ?_
    by_cases h : p.1 = k <;> simp [h]
  · unfold mI
    rw [List.map_append]; rfl
theorem RDis.mkI : ∀ {l : List (Int × α)} {acc : List (Key × V)}, (l.map (·.1)).Nodup → (∀ p, p ∈ l → ∀ x, x ∈ acc → ¬ x.1 = .inl p.1) → RDis acc (mI f l)
  | [], _, _, _ => .nil
  | p :: r, acc, nd, h => by
    rw [List.map_cons, List.nodup_cons] at nd
    refine .cons (DNo.of (h p List.mem_cons_self)) (RDis.mkI nd.2 fun q m x hx => ?_)
    rcases List.mem_cons.mp hx with rfl | hx
    · intro z
      have z : p.1 = q.1 := Sum.inl.inj z
      exact nd.1 (by rw [z]; exact List.mem_map.mpr ⟨q, m, rfl⟩)
    · exact h q (List.mem_cons_of_mem _ m) x hx
theorem merge_mI {l : List (Int × α)} (nd : (l.map (·.1)).Nodup) : mergeK [] (mI f l) = mI f l := by
  have e := (RDis.mkI (f := f) (acc := []) nd (fun _ _ x hx => by cases hx)).ok
  rw [List.reverse_nil, List.nil_append] at e
  exact e
end
section
variable {α : Type} {f : α → V} {K : PySem.W.Frag} {B H : Hp} {L L' F : List (Addr × HO)} {I : List Im} {Q : VK} {σ : L2.St} {d : Addr}
theorem s_ixI {l : List (Int × α)} {x : Int} {v : α} (m : H d = some (.dK (mI f l))) (e : look l x = some v) (q : Q (f v) H) : rIxU K (.ref d) (.int x) H Q :=
  .inr (.inr (.inr ⟨d, f v, rfl, .inl ⟨_, .inl x, .inl m, rfl, by rw [valV_mI, e]; rfl⟩, q⟩))
theorem s_ixIF {o : Obj} {l : List (Int × α)} {x : Int} {v : α} (m : H d = some (.frz o (.dK (mI f l)))) (e : look l x = some v) (q : Q (f v) H) : rIxU K (.ref d) (.int x) H Q :=
  .inr (.inr (.inr ⟨d, f v, rfl, .inl ⟨_, .inl x, .inr ⟨o, m⟩, rfl, by rw [valV_mI, e]; rfl⟩, q⟩))
theorem s_ixIi {l : List (Int × V)} {x : Int} {v : V} (m : H d = some (.dK (mI id l))) (e : look l x = some v) (q : Q v H) : rIxU K (.ref d) (.int x) H Q := s_ixI (f := id) m e q
theorem s_ixIFi {o : Obj} {l : List (Int × V)} {x : Int} {v : V} (m : H d = some (.frz o (.dK (mI id l)))) (e : look l x = some v) (q : Q v H) : rIxU K (.ref d) (.int x) H Q := s_ixIF (f := id) m e q
theorem s_ninIe {l : List (Int × α)} {x : Int} {v : α} (m : H d = some (.dK (mI f l))) (e : look l x = some v) (q : Q (.bl false) H) : rNotInV K (.int x) (.ref d) H Q :=
  .inl (.inr (.inl ⟨d, _, rfl, .inl ⟨_, .inl x, .inl m, rfl, rfl⟩, by rw [valV_mI, Option.isSome_map, e]; exact q⟩))
theorem s_ninIz {l : List (Int × α)} {x : Int} (m : H d = some (.dK (mI f l))) (e : look l x = none) (q : Q (.bl true) H) : rNotInV K (.int x) (.ref d) H Q :=
  .inl (.inr (.inl ⟨d, _, rfl, .inl ⟨_, .inl x, .inl m, rfl, rfl⟩, by rw [valV_mI, Option.isSome_map, e]; exact q⟩))
theorem s_g1Ie {l : List (Int × V)} {x : Int} {v : V} (m : H d = some (.dK (mI id l))) (e : look l x = some v) (q : Q v H) : kGetK1 d Q (.int x) H := ⟨_, .inl (.inl ⟨_, .inl x, .inl m, rfl, rfl⟩), by rw [valV_mI, e]; exact q⟩
theorem s_g1Iz {l : List (Int × V)} {x : Int} (m : H d = some (.dK (mI id l))) (e : look l x = none) (q : Q .non H) : kGetK1 d Q (.int x) H := ⟨_, .inl (.inl ⟨_, .inl x, .inl m, rfl, rfl⟩), by rw [valV_mI, e]; exact q⟩
theorem s_putI {R : Hp → Prop} {l : List (Int × V)} {x : Int} {v : V} (hC : Ctx K B H L I) (m : H d = some (.dK (mI id l))) (z : l.length < 100000) (u : Up d (.dK (mI id (putR l x v))) L L') (q : ∀ H1, Ctx K B H1 L' I → R H1) : rSetU (.ref d) (.int x) v H R :=
  .inr ⟨d, _, rfl, DPut.k (k := Sum.inl x) m (by rw [mI_len]; exact Nat.lt_of_lt_of_le z (by decide)), by rw [show putK (mI id l) (.inl x) v = mI id (putR l x v) from putK_mI (f := id)]; exact q _ (hC.put u rfl)⟩
theorem s_srtI2 {l : List (Int × α)} (hC : Ctx K B H L I) (m : H d = some (.dK (mI f l))) (z : l.length < 64) (k : ∀ p H1, Ctx K B H1 ((p, .lst ((srtZ (l.map (·.1))).map V.int)) :: L) I → Q (.ref p) H1) : rSortU K [.ref d] H Q :=
  .inr (.inr (.inr ⟨d, _, l.map (·.1), rfl, .inl m, mI_keys, by rw [List.length_map]; exact z, fun ys p hp hs hn => by
    rw [srtZ_of hp hs]
    exact k p _ (hC.newM hn rfl)⟩))
theorem s_dictI {ps : List Addr} {l : List (Int × α)} (hC : Ctx K B H L I) (m : H d = some (.lst (ps.map V.ref))) (h : Paired (fun p kv => SqT K H p [kV kv.1, kv.2]) ps (mI f l)) (nd : (l.map (·.1)).Nodup) (k : ∀ p H1, Ctx K B H1 ((p, .dK (mI f l)) :: L) I → Q (.ref p) H1) : rDictU K [.ref d] H Q :=
  .inl ⟨d, ps, mI f l, rfl, SqL.of m, h, fun p hp => by rw [merge_mI nd]; exact k p _ (hC.newM hp rfl)⟩
theorem s_lenI {kvs : List (Key × V)} (m : H d = some (.dK kvs)) (q : Q (.int kvs.length) H) : rLenU K [.ref d] H Q := s_lenD m q
/-! list(d.items()) -/
theorem pairedImp {α β : Type} {G G2 : α → β → Prop} (g : ∀ x y, G x y → G2 x y) : ∀ {l : List α} {m : List β}, Paired G l m → Paired G2 l m
  | _, _, .nil => .nil
  | _, _, .cons a t => .cons (g _ _ a) (pairedImp g t)
abbrev imPs (K : PySem.W.Frag) (ts : List Addr) (kvs : List (Key × V)) : Im := .pr (fun H => Paired (fun (t : Addr) (q : Key × V) => SqT K H t [kV q.1, q.2]) ts kvs) (fun H H' s h => pairedImp (G := fun (t : Addr) (q : Key × V) => SqT K H t [kV q.1, q.2]) (G2 := fun (t : Addr) (q : Key × V) => SqT K H' t [kV q.1, q.2]) (fun _ _ z => s.sqt z) h)
def kItemsL (Q : VK) : VK := fun x H1 => LiI.rItemsL x H1 Q
theorem s_litE {te : TE} (h : te σ H (kItemsL Q)) : LiI.tListItems te σ H Q := h
theorem s_lit {kvs : List (Key × V)} (hC : Ctx K B H L I) (m : H d = some (.dK kvs)) (k : ∀ p ts H1, Ctx K B H1 ((p, .lst (ts.map V.ref)) :: L) (imPs K ts kvs :: I) → Q (.ref p) H1) : kItemsL Q (.ref d) H := by
  refine ⟨d, kvs, rfl, m, fun H' p ts keep hp hts hn hpl hpd => k p ts H' ?_⟩
  have s : Stb H H' := fun b w hb _ => keep b w hb
  refine ⟨⟨?_, fun q hq => ?_⟩, fun i hi => ?_, hC.sb.trans s⟩
  · rw [List.map_cons, List.nodup_cons]
    refine ⟨fun z => ?_, hC.lay.nd⟩
    obtain ⟨q, hq, e⟩ := List.mem_map.mp z
    have z2 := (hC.lay.at_ q hq).1
    rw [e, hp] at z2
    cases z2
  · rcases List.mem_cons.mp hq with e | hq
    · subst e
      exact ⟨hpl, rfl⟩
    · exact ⟨keep _ _ (hC.lay.at_ q hq).1, (hC.lay.at_ q hq).2⟩
  · rcases List.mem_cons.mp hi with rfl | hi
    · exact pairedImp (fun _ _ z => .inl (.inl z)) hpd
    · exact Im.mono s (hC.im i hi)
end
end Ph
namespace Ph
open PySem PySem.Spec PyProof.Rows L2
section
variable {ε : Type} {K : PySem.W.Frag} {B H : Hp} {L L' F : List (Addr × HO)} {I : List Im} {Q : VK} {σ : L2.St} {J : It} {G : Hp → Prop} {es : List ε} {kf : ε → V} {b0 : Bool}
variable {tg : TG} {tt : TT} {te : TE} {vs : List Nat}
theorem any_read (w : Walk J es.length G (YE es kf)) (p : ε → Bool) (hz : es.length ≤ 90000) (hG : ∀ H1, Ctx K B H1 L I → G H1) (hC : Ctx K B H L I)
    (turn : ∀ (i : Nat) e H1 (Z : VK) (Zn : Hp → Prop), es[i]? = some e → Ctx K B H1 L I → (∀ H2, Ctx K B H2 L I → Z (.bl (p e)) H2) → tg (kf e) (wipe σ vs) H1 fun σ2 H2 => wipe σ2 vs = wipe σ vs ∧ tt σ2 H2 fun b H3 => if b = true then te σ2 H3 Z else Zn H3)
    (k : ∀ H', Ctx K B H' L I → Q (.bl (if b0 = true then es.any p else es.all p)) H') : kAnyW b0 tg tt te vs σ Q J H := by
  refine any_w w (by omega) (fun i H1 => Ctx K B H1 L I ∧ ∀ j, j < i → ∀ e, es[j]? = some e → p e = !b0) ⟨hC, fun j hj => absurd hj (Nat.not_lt_zero _)⟩ (fun i H1 _ h => hG H1 h.1) ?_ ?_
  · rintro i x H1 H2 ys hi hy1 hy2 ⟨hC, hp⟩ hy
    obtain ⟨rfl, e, he, rfl⟩ := ye hy
    exact turn i e H2 (kAnyE b0 ys (i + 1) (fun H1 => Ctx K B H1 L I ∧ ∀ j, j < i + 1 → ∀ e, es[j]? = some e → p e = !b0) Q) _ he hC (fun H3 hC3 => s_anyE hy1 hy2 (by
      by_cases q : p e = b0
      · rw [if_pos q]
        have := k H3 hC3
        cases b0 with
        | true =>
          rw [if_pos rfl, show es.any p = true from List.any_eq_true.mpr ⟨e, List.mem_of_getElem? he, q⟩] at this
          exact this
        | false =>
          rw [if_neg Bool.false_ne_true, show es.all p = false from List.all_eq_false.mpr ⟨e, List.mem_of_getElem? he, by rw [q]; exact Bool.false_ne_true⟩] at this
          exact this
      · rw [if_neg q]
        refine ⟨hC3, fun j hj f hf => ?_⟩
        rcases Nat.lt_succ_iff_lt_or_eq.mp hj with hj | rfl
        · exact hp j hj f hf
        · rw [he] at hf
          cases hf
          cases b0 <;> cases h : p e <;> simp_all))
  · rintro H1 ⟨hC, hp⟩
    have := k H1 hC
    cases b0 with
    | true =>
      rw [if_pos rfl, show es.any p = false from List.any_eq_false.mpr fun e he z => by
        obtain ⟨j, hj⟩ := List.mem_iff_getElem?.mp he
        have := hp j (List.getElem?_eq_some_iff.mp hj).1 e hj
        rw [this] at z; cases z] at this
      exact this
    | false =>
      rw [if_neg Bool.false_ne_true, show es.all p = true from List.all_eq_true.mpr fun e he => by
        obtain ⟨j, hj⟩ := List.mem_iff_getElem?.mp he
        exact hp j (List.getElem?_eq_some_iff.mp hj).1 e hj] at this
      exact this
theorem tup_read (w : Walk J es.length G (YE es kf)) (p : ε → Bool) (dv : ε → PyData) (hz : es.length ≤ 90000) (hG : ∀ H1, Ctx K B H1 L I → G H1) (hC : Ctx K B H L I)
    (turn : ∀ (i : Nat) e H1 (Zy : VK) (Zn : Hp → Prop), es[i]? = some e → Ctx K H1 H1 L I → (∀ H2 x J', p e = true → Ctx K H1 H2 L J' → (∀ j, j ∈ I → j ∈ J') → TD K H2 x (dv e) → Zy x H2) → (∀ H2 J', p e = false → Ctx K H1 H2 L J' → (∀ j, j ∈ I → j ∈ J') → Zn H2) →
      tg (kf e) (wipe σ vs) H1 fun σ2 H2 => wipe σ2 vs = wipe σ vs ∧ tt σ2 H2 fun b H3 => if b = true then te σ2 H3 Zy else Zn H3)
    (k : ∀ H' t vr, Ctx K B H' L (.tup t vr :: .dats vr ((es.filter p).map dv) :: I) → Q (.ref t) H') : kTupW tg tt te vs σ Q J H := by
  refine tup_w w (by omega) (fun i ys H1 => Ctx K B H1 L (.dats ys (((es.take i).filter p).map dv) :: I)) (hC.add (i := .dats [] []) .nil) (fun i ys H1 _ hC => hG H1 (hC.keepI fun j hj => List.mem_cons_of_mem _ hj)) ?_ ?_
  · rintro i x H1 H2 ys hi hy1 hy2 hC hy
    obtain ⟨rfl, e, he, rfl⟩ := ye hy
    have hC1 := hC.rebase
    have hw := turn i e H2 (kTupE ys (i + 1) fun ys H1 => Ctx K B H1 L (.dats ys (((es.take (i + 1)).filter p).map dv) :: I)) (fun H3 => ys.length ≤ i + 1 ∧ Ctx K B H3 L (.dats ys (((es.take (i + 1)).filter p).map dv) :: I)) he ⟨hC1.lay, fun j hj => hC1.im j (List.mem_cons_of_mem _ hj), hC1.sb⟩
    refine hw (fun H3 x J' hb hC2 hs ht => ?_) (fun H3 J' hb hC2 hs => ⟨by omega, ?_⟩)
    · refine s_tupE hy1 hy2 ?_
      rw [take_snoc he, List.filter_append, List.map_append, show ([e] : List ε).filter p = [e] from by simp [hb]]
      exact ⟨hC2.lay, fun j hj => by
        rcases List.mem_cons.mp hj with rfl | hj
        · exact TDs.append (show TDs K H3 ys (((es.take i).filter p).map dv) from Im.mono (K := K) (i := .dats ys (((es.take i).filter p).map dv)) hC2.sb (hC.im _ List.mem_cons_self)) (TDs.cons ht .nil)
        · exact hC2.im j (hs j hj), hC.sb.trans hC2.sb⟩
    · rw [take_snoc he, List.filter_append, show ([e] : List ε).filter p = [] from by simp [hb], List.append_nil]
      exact ⟨hC2.lay, fun j hj => by
        rcases List.mem_cons.mp hj with rfl | hj
        · exact Im.mono hC2.sb (hC.im _ List.mem_cons_self)
        · exact hC2.im j (hs j hj), hC.sb.trans hC2.sb⟩
  · intro ys H1 hC l hl
    rw [List.take_length] at hC
    exact k _ l ys (hC.newT hl)
end
end Ph
namespace Ph
open PySem PySem.Spec PyProof.Rows L2
theorem inV_ints {x : Int} : ∀ {ys : List Int}, inV (.int x) (ys.map V.int) = decide (x ∈ ys)
  | [] => rfl
  | y :: ys => by
    have ih := inV_ints (x := x) (ys := ys)
    unfold inV at ih ⊢
    rw [List.map_cons, List.any_cons, ih]
    by_cases q : x = y
    · subst q; simp [eqV]
    · have q2 : y ≠ x := fun z => q z.symm
      simp [eqV, q, q2]
theorem inV_nonS : ∀ {ys : List Str}, inV .non (ys.map V.str) = false
  | [] => rfl
  | y :: ys => by
    have ih := inV_nonS (ys := ys)
    unfold inV at ih ⊢
    rw [List.map_cons, List.any_cons, ih]
    simp [eqV]
section
variable {K : PySem.W.Frag} {H : Hp} {Q : VK} {a : Addr} {xs : List V} {ys : List Str} {x : Str}
theorem s_inLI {n : Int} {ns : List Int} (m : H a = some (.lst (ns.map V.int))) (q : Q (.bl (decide (n ∈ ns))) H) : rInV K (.int n) (.ref a) H Q :=
  .inl (.inl ⟨a, _, rfl, .inl (SqL.of m), rfl, by rw [List.all_map]; exact List.all_eq_true.mpr fun _ _ => rfl, by rw [if_neg Bool.false_ne_true, inV_ints]; exact q⟩)
theorem s_ninT (m : SqT K H a xs) (e : xs = ys.map V.str) (q : Q (.bl (!decide (x ∈ ys))) H) : rNotInV K (.str x) (.ref a) H Q := by
  subst e
  exact .inl (.inl ⟨a, _, rfl, .inr m, rfl, by rw [List.all_map]; exact List.all_eq_true.mpr fun _ _ => rfl, by rw [if_pos rfl, inV_strs]; exact q⟩)
theorem s_inNL (m : H a = some (.lst xs)) (e : xs = ys.map V.str) (q : Q (.bl false) H) : rInV K .non (.ref a) H Q := by
  subst e
  exact .inl (.inl ⟨a, _, rfl, .inl (SqL.of m), rfl, by rw [List.all_map]; exact List.all_eq_true.mpr fun _ _ => rfl, by rw [if_neg Bool.false_ne_true, inV_nonS]; exact q⟩)
theorem s_ninNL (m : H a = some (.lst [.non, .str x])) {y : V} (hy : y = .non ∨ ∃ z, y = .str z) (q : Q (.bl (!decide (y = .non ∨ y = .str x))) H) : rNotInV K y (.ref a) H Q := by
  rcases hy with rfl | ⟨z, rfl⟩
  · exact .inl (.inl ⟨a, _, rfl, .inl (SqL.of m), rfl, rfl, by rw [if_pos rfl, show inV V.non [.non, .str x] = true from by unfold inV; simp [eqV]]; simpa using q⟩)
  · refine .inl (.inl ⟨a, _, rfl, .inl (SqL.of m), rfl, rfl, ?_⟩)
    rw [if_pos rfl, show inV (V.str z) [.non, .str x] = decide (z = x) from by
      unfold inV
      by_cases h : z = x
      · subst h; simp [eqV]
      · have h2 : x ≠ z := fun w => h w.symm
        simp [eqV, h, h2]]
    simpa using q
end
section
variable {H : Hp} {σ : L2.St} {d : Addr} {R : It → Hp → Prop}
def kVals (R : It → Hp → Prop) : VK := fun x H1 => ∃ d o kvs, x = .ref d ∧ H1 d = some (.frz o (.dK kvs)) ∧ R (Itd d o kvs) H1
theorem s_valsE {td : TE} (h : td σ H (kVals R)) : iVals td σ H R := h
theorem s_valsK {o : Obj} {kvs : List (Key × V)} (m : H d = some (.frz o (.dK kvs))) (h : R (Itd d o kvs) H) : kVals R (.ref d) H := ⟨d, o, kvs, rfl, m, h⟩
end
theorem eqv_strs : ∀ {xs ys : List Str}, PyData.eqvAll (xs.map PyData.str) (ys.map PyData.str) = decide (xs = ys)
  | [], [] => by simp [PyData.eqvAll]
  | [], _ :: _ => by simp [PyData.eqvAll]
  | _ :: _, [] => by simp [PyData.eqvAll]
  | x :: xs, y :: ys => by
    rw [List.map_cons, List.map_cons, PyData.eqvAll, eqv_strs, PyData.eqv]
    by_cases h1 : x = y
    · by_cases h2 : xs = ys <;> simp [h1, h2]
    · simp [h1]
section
variable {K : PySem.W.Frag} {H : Hp} {Q : VK} {l m : Addr} {ns ms : List Str}
theorem s_eqSS (hl : H l = some (.lst (ns.map V.str))) (hm : H m = some (.lst (ms.map V.str))) (s1 : ∀ x, x ∈ ns → PyData.strOk x = true) (s2 : ∀ x, x ∈ ms → PyData.strOk x = true) (k : Q (.bl (decide (ns = ms))) H) : rEqU K (.ref l) (.ref m) H Q :=
  s_eqD (Dp.lst (SqL.of hl) (strs_tds ns).dp) (Dp.lst (SqL.of hm) (strs_tds ms).dp) ((strs_sh s1).list.shaped (by decide)) ((strs_sh s2).list.shaped (by decide)) (by rw [PyData.eqv, eqv_strs]; exact k)
theorem s_neSS (hl : H l = some (.lst (ns.map V.str))) (hm : H m = some (.lst (ms.map V.str))) (s1 : ∀ x, x ∈ ns → PyData.strOk x = true) (s2 : ∀ x, x ∈ ms → PyData.strOk x = true) (k : Q (.bl (!decide (ns = ms))) H) : rNeU K (.ref l) (.ref m) H Q :=
  s_neD (Dp.lst (SqL.of hl) (strs_tds ns).dp) (Dp.lst (SqL.of hm) (strs_tds ms).dp) ((strs_sh s1).list.shaped (by decide)) ((strs_sh s2).list.shaped (by decide)) (by rw [PyData.eqv, eqv_strs]; exact k)
end
end Ph
namespace Ph
open PySem PySem.Spec PyProof.Rows L2
section
variable {ε : Type} {K : PySem.W.Frag} {B H : Hp} {L L' F : List (Addr × HO)} {I : List Im} {Q : VK} {σ : L2.St} {J : It} {G : Hp → Prop} {es : List ε} {kf : ε → V}
theorem lc_pick {tg : TG} {tt : TT} {te : TE} {vs : List Nat} (w : Walk J es.length G (YE es kf)) (p : ε → Bool) (vf : ε → V) (hz : es.length ≤ 99000) (hG : ∀ H1 x, Ctx K B H1 (x :: L) I → G H1) (hC : Ctx K B H L I)
    (turn : ∀ (i : Nat) e H1 D vr (Zy : VK) (Zn : Hp → Prop), es[i]? = some e → Ctx K B H1 ((D, .lst vr) :: L) I → (∀ H2 J', p e = true → Ctx K B H2 ((D, .lst vr) :: L) J' → (∀ j, j ∈ I → j ∈ J') → Zy (vf e) H2) → (∀ H2 J', p e = false → Ctx K B H2 ((D, .lst vr) :: L) J' → (∀ j, j ∈ I → j ∈ J') → Zn H2) →
      tg (kf e) (wipe σ vs) H1 fun σ2 H2 => wipe σ2 vs = wipe σ vs ∧ tt σ2 H2 fun b H3 => if b = true then te σ2 H3 Zy else Zn H3)
    (k : ∀ H' D, Ctx K B H' ((D, .lst ((es.filter p).map vf)) :: L) I → Q (.ref D) H') : kLc tg tt te vs σ Q J H := by
  refine lc_w w hC (fun D i H1 => Ctx K B H1 ((D, .lst (((es.take i).filter p).map vf)) :: L) I) (fun D H1 hC => hC) (fun D i H1 _ hC => hG H1 _ hC) ?_ ?_
  · rintro i x D H1 H2 hi hC hy
    obtain ⟨rfl, e, he, rfl⟩ := ye hy
    have hl : (((es.take i).filter p).map vf).length ≤ 99000 := by
      rw [List.length_map]
      refine Nat.le_trans (List.length_filter_le _ _) ?_
      rw [List.length_take]
      omega
    refine turn i e _ _ _ _ _ he hC (fun H3 J' hb hC2 hs => ?_) (fun H3 J' hb hC2 hs => ?_)
    · have hC3 : Ctx K B H3 ((D, .lst (((es.take i).filter p).map vf)) :: L) I := hC2.keepI hs
      refine s_app hC3 (hC3.get List.mem_cons_self) (by omega) .here (fun H4 hC4 => ?_)
      rw [take_snoc he, List.filter_append, List.map_append, show ([e] : List ε).filter p = [e] from by simp [hb]]
      exact hC4
    · show Ctx K B H3 ((D, .lst (((es.take (i + 1)).filter p).map vf)) :: L) I
      rw [take_snoc he, List.filter_append, show ([e] : List ε).filter p = [] from by simp [hb], List.append_nil]
      exact hC2.keepI hs
  · rintro D H1 hC
    rw [List.take_length] at hC
    exact k H1 D hC
end
end Ph
namespace Ph
open PySem PySem.Spec PyProof.Rows L2
def rNeLL : R2 := fun x y H Q => ∃ l b xs ys, x = .ref l ∧ y = .ref b ∧ H l = some (.lst xs) ∧ H b = some (.lst ys) ∧ xs.length ≠ ys.length ∧ Q (.bl true) H
def rNeY (K : PySem.W.Frag) : R2 := fun x y H Q => rNeU K x y H Q ∨ rNeLL x y H Q
section
variable {X : Cx}
theorem op_neLL (hu : X.A.units < cLine) : OpR X (compareOp .NotEq) rNeLL := by
  intro pins s σ H x y v u Q I rx ry h
  obtain ⟨l, b, xs, ys, rfl, rfl, el, eb, hlen, q⟩ := h
  obtain rfl : v = Value.ref l := rx
  obtain rfl : u = Value.ref b := ry
  obtain ⟨_, va, ca, ra, da⟩ := (show ObjOk X.prog X.w H s.heap l (.lst xs) from I.hok l _ el)
  obtain ⟨_, vb, cb, rb, db⟩ := (show ObjOk X.prog X.w H s.heap b (.lst ys) from I.hok b _ eb)
  have la : xs.length = va.length := ra.length
  have lb : ys.length = vb.length := rb.length
  refine PySem.SeqAt.RcNeAt.lists_lengths (items := va.toArray) (items2 := vb.toArray) ⟨_, da, rfl, _, rfl⟩ ⟨_, db, rfl, _, rfl⟩ ?_ hu _ _ _ _ (fin_bl I q rfl)
  simp only [List.size_toArray, bne_iff_ne, ne_eq]
  omega
theorem u_neY (hu : X.A.units + 64 < cLine) : OpR X (compareOp .NotEq) (rNeY X.K) := (u_ne hu).or (op_neLL (by omega))
end
section
variable {K : PySem.W.Frag} {H : Hp} {Q : VK} {a b : Addr} {xs : List V}
theorem s_neY (hl : H a = some (.lst xs)) (hm : H b = some (.lst [])) (q : Q (.bl (!xs.isEmpty)) H) : rNeY K (.ref a) (.ref b) H Q := by
  cases xs with
  | nil => exact .inl (s_ne00 hl hm q)
  | cons x r => exact .inr ⟨a, b, _, _, rfl, rfl, hl, hm, by simp, q⟩
end
end Ph
namespace Ph
open PySem PySem.Spec PyProof.Rows L2 LamX
/-- told: try: return a() / except C1: return r1 / except C2: return r2 -/
def kTold2 (K : PySem.W.Frag) (C1 : Addr) (r1 : Str) (C2 : Addr) (r2 : Str) (Q : VK) : XK := fun cls _ H' => ∃ b, PySem.W.exmOne K cls (.ref C1) = some b ∧ (b = true → Q (.str r1) H') ∧ (b = false → ∃ b2, PySem.W.exmOne K cls (.ref C2) = some b2 ∧ (b2 = true → Q (.str r2) H') ∧ (b2 = false → False))
def TTold2 (K : PySem.W.Frag) (C1 : Addr) (r1 : Str) (C2 : Addr) (r2 : Str) : (XK → Hp → VK → Prop) → Hp → VK → Prop := fun tl H Q => tl (kTold2 K C1 r1 C2 r2 Q) H Q
theorem told_gives2 {X : Cx} {Ng : List Str} {x a e1 e2 q r1 r2 : Str} {sg : Scope} {g C1 C2 : Addr} {cdg : Value} {j1 j2 : Nat} {p1 p2 p3 p4 p5 p6 p7 p8 p9 p10 p11 p12 : Pos} (hge1 : sg.names.lookup e1 = some .globalImplicit) (hme1 : X.mg e1 = some (.ref C1)) (hde1 : (e1 == ("__debug__" : Str)) = false)
    (hge2 : sg.names.lookup e2 = some .globalImplicit) (hme2 : X.mg e2 = some (.ref C2)) (hde2 : (e2 == ("__debug__" : Str)) = false) (h0 : ∀ f : Addr, (L2.start Ng [V.ref f])[0]? = some (some (V.ref f))) :
    GivesTo X Ng x sg g cdg [.Try [.Return (some (.Call (.Name a p1) [] [] p2)) p3] [.ExceptHandler (some (.Name e1 p4)) none [.Return (some (.Constant (.str r1) j1 p5)) p6] p7, .ExceptHandler (some (.Name e2 p9)) none [.Return (some (.Constant (.str r2) j2 p10)) p11] p12] [] [] p8] a q (TTold2 X.K C1 r1 C2 r2) := by
  intro f c' s H Q tl act hc h
  have hgl1 : Gl (cxOf C8.CX0 X.prog X.w X.K X.mg X.base Ng x sg g cdg X.A X.stack s H C8.E0).nox e1 := hge1
  have hgl2 : Gl (cxOf C8.CX0 X.prog X.w X.K X.mg X.base Ng x sg g cdg X.A X.stack s H C8.E0).nox e2 := hge2
  refine ⟨_, pss_one (ps_try_many (X := (cxOf C8.CX0 X.prog X.w X.K X.mg X.base Ng x sg g cdg X.A X.stack s H C8.E0).nox)
      (tb := fun W D σ H => ∃ Ech : XK, (∀ cls d σ' H', Ech cls d H' → W cls d σ' H') ∧ σ[0]? = some (some (.ref f)) ∧ H c' = some (CodeO c' q) ∧ tl Ech H D.rt)
      rfl rfl LamX.takes0 (fun W pn xe tk _ => ?_) (HdsOk.cons (c := .ref C1) ⟨hgl1, hde1, .inl hme1⟩ (fun a oe cls d pn _ _ => pss_one (ps_ret pe_str)) (HdsOk.cons (c := .ref C2) ⟨hgl2, hde2, .inl hme2⟩ (fun a oe cls d pn _ _ => pss_one (ps_ret pe_str)) .nil))), ?_⟩
  · refine ⟨fun pins s' σ H' D I h' => ?_⟩
    obtain ⟨Ech, hW, h1, h2, h3⟩ := h'
    have hp := act W pn xe Ech p1 p2 tk hW
    have hq := pss_one (ps_ret (pos := p3) hp)
    exact hq.run pins s' σ H' D I ⟨h1, h2, h3⟩
  · exact ⟨kTold2 X.K C1 r1 C2 r2 Q, fun cls d σ' H' ⟨b, e1, e2, e3⟩ => ⟨b, e1, fun hb a _ => e2 hb, fun hb => (e3 hb).imp fun b2 z => ⟨z.1, fun hb a _ => z.2.1 hb, fun hb => z.2.2 hb⟩⟩, h0 f, hc, h⟩
/-- x(lambda: body), x the teller -/
theorem pe_lamP2 {X : Cx} {x a r1 r2 : Str} {g c P C1 C2 : Addr} {k : Nat} {pg : Arguments} {bg : List Stmt} {sg : Scope} {dV kV doc pm cdv ct oc : Value} {an od : Option Addr} {osl : Array (Option Value)} {Ng : List Str}
    {ps : Arguments} {body : Expr} {sc : Scope} {t : XK → TE} {p lpos pos : Pos} (hg : Gl X x) (hm : X.mg x = some (.ref g)) (hk : PySem.W.keepIn X.K (.ref g) = true)
    (lk : X.K.lookup g = some ⟨oc, od, .func (PySem.W.fnOf x x pg bg sg dV kV doc pm an cdv ct), osl⟩) (hcg : PySem.W.codeIn X.K cdv x = true) (hb : L2.Binds X.K (PySem.W.fnOf x x pg bg sg dV kV doc pm an cdv ct) [a] []) (Sg : FnScope Ng [a] sg) (hNg : Ng[0]? = some a) (hva : Vis sg a)
    (hG : GivesTo X Ng x sg g cdv bg a (X.env.qual ++ "<lambda>") (TTold2 X.K C1 r1 C2 r2))
    (TB : LamX.TabB X.base X.mg c P) (hcode : X.env.code = .ref c) (hr : Room (k + 2) X.A) (L : LamS X.env.scope sc) (hdef : defaultsOf ps X.env = ([], []))
    (hbind : ∀ (q : Str) (cl : List (Str × Addr)) (pm cv ctv : Value), bindArgs (PySem.W.kla_fn "<lambda>" q ps body sc cl pm cv ctv) ⟨[], []⟩ = pure [])
    (hbody : ∀ (A : Around) (outer : List Env) (s : Shared) (H : Hp) (E : XK) (f c' : Addr), Room k (A.deeper (lamEnv X sc s.heap.objs.size f c')) → PE (lamCx X A outer s H E sc f c') body (t E))
    (hdb : (x == ("__debug__" : Str)) = false := by decide) (hd : (a == ("__debug__" : Str)) = false := by decide) (hcd : (a == ("__classdict__" : Str)) = false := by decide) :
    PE X (.Call (.Name x p) [.Lambda ps body sc lpos] [] pos) (tLamP P (X.env.qual ++ "<lambda>") (TTold2 X.K C1 r1 C2 r2) t) := by
  refine ⟨fun pins s σ H Q I h => ?_⟩
  obtain ⟨hT, h⟩ := h
  refine wpAny_Call_Name_kw (ld_glob I hg hm ?_ hdb)
  refine PySem.W.callWith_K (h₀ := X.base) I.ok.mod.kin hk ?_ (by rfl) (by rfl)
  show wpAny _ _ (spliced ((false, eval (.Lambda ps body sc lpos) X.env) :: backTo pos (starEach [] X.env))) _ _ s
  refine Calls.spliced_cons (lamC_make I TB hcode hT hdef (L.has I.ok) fun f c' H1 s' I1 eP T1 hf hco => ?_)
  refine Calls.spliced_nil ⟨I1.kIn, ?_⟩
  have rc : codeAny (model X.prog X.w) X.A (.call (.ref g) ⟨[.ref f], []⟩) (CR C8.CX0 X.stack X.prog X.w H1 s' Q C8.E0) s' := by
    refine run_ofS (N := Ng) (ps := [a]) (us := [.ref f]) (vs := [.ref f]) lk hcg Sg hr I1.env0 (hb s' [.ref f] I1.kIn rfl) (.cons rfl .nil) rfl fun hr' => ?_
    obtain ⟨t', ht', hq'⟩ := hG f c' s' H1 Q (fun E H' Q' => H' f = some (LamC f c' (X.env.qual ++ "<lambda>") ps body sc (cloFrom X.env.cells sc.names [])) ∧ t E σ H' Q')
      (fun W pn xe E p1 p2 tk hW => pe_actC (i := 0) I1 L (hbind _ _ · _ ·) tk hW hr' (fun A outer s H hr2 => hbody A outer s H E f c' hr2) hNg hva hd hcd) hco ⟨hf, h H1 eP T1⟩
    exact ⟨t', ht'.nox, hq'⟩
  refine wpAny_call (codeAny_mono rc fun r s2 hq => ?_)
  cases r with
  | error e => exact (show False from hq).elim
  | ok fl =>
    cases fl with
    | ret u => exact I1.after hq
    | next => exact False.elim hq
    | brk => exact False.elim hq
    | cont => exact False.elim hq
section
variable {K : PySem.W.Frag} {B H : Hp} {L L' : List (Addr × HO)} {I : List Im} {Q : VK} {σ : L2.St} {P C1 C2 D : Addr} {q r1 r2 : Str} {tb : Array Value} {d : Option Addr}
theorem s_lam2 {t : XK → TE} (hC : Ctx K B H L I) (m : Pick (P, .tbl tb) L L') (f : Im.tab q tb ∈ I) (k : ∀ tb' H1, Ctx K B H1 ((P, .tbl tb') :: L') (.tab q tb' :: I) → t (kTold2 K C1 r1 C2 r2 Q) σ H1 Q) : tLamP P q (TTold2 K C1 r1 C2 r2) t σ H Q := by
  have hC := hC.pick m
  have e0 := hC.get List.mem_cons_self
  refine ⟨(hC.tab f).tabS e0, fun H1 e t1 => ?_⟩
  obtain ⟨tb', h1, h2, h3⟩ := t1
  exact k tb' H1 ((hC.but List.mem_cons_self .here rfl e h1).add (i := .tab q tb') ⟨h2, h3⟩)
theorem s_told2a (e : PySem.W.exmOne K (.ref D) (.ref C1) = some true) (h : Q (.str r1) H) : kTold2 K C1 r1 C2 r2 Q (.ref D) d H := ⟨true, e, fun _ => h, fun q => by cases q⟩
theorem s_told2b (e : PySem.W.exmOne K (.ref D) (.ref C1) = some false) (e2 : PySem.W.exmOne K (.ref D) (.ref C2) = some true) (h : Q (.str r2) H) : kTold2 K C1 r1 C2 r2 Q (.ref D) d H := ⟨false, e, (fun q => by cases q), fun _ => ⟨true, e2, fun _ => h, fun q => by cases q⟩⟩
end
def rIMulU : R2 := rI CMul fun i j => .int (i * j)
def rIDivU : R2 := rI CDiv fun i j => .int (i / j)
theorem u_imul {X : Cx} : OpR X (inplaceOp .Mult) rIMulU := iop_mul
theorem u_ifdiv {X : Cx} : OpR X (inplaceOp .FloorDiv) rIDivU := iop_fdiv
section
variable {H : Hp} {Q : VK} {i j : Int}
theorem s_imulI (c : CMul i j) (h : Q (.int (i * j)) H) : rIMulU (.int i) (.int j) H Q := ⟨i, j, rfl, rfl, c, h⟩
theorem s_idivI (c : CDiv i j) (h : Q (.int (i / j)) H) : rIDivU (.int i) (.int j) H Q := ⟨i, j, rfl, rfl, c, h⟩
end
end Ph
namespace Ph
open PySem PySem.Spec PyProof.Rows L2
theorem stored_new {K : Type} [DecidableEq K] : ∀ (ps xs : List (K × Addr × Value)), ((xs ++ ps).map (·.1)).Nodup → storedAllH xs ps = xs ++ ps
  | [], xs, _ => by rw [List.append_nil]; rfl
  | p :: ps, xs, nd => by
    show storedAllH (storedH xs p.1 p.2.1 p.2.2) ps = _
    have hno : atKey xs p.1 = none := by
      cases h : atKey xs p.1 with
      | none => rfl
      | some q =>
        exfalso
        rw [List.map_append, List.map_cons] at nd
        have hd := (List.nodup_append.mp nd).2.2
        have : ∃ x, x ∈ xs ∧ x.1 = p.1 := by
          unfold atKey at h
          cases hf : xs.find? (fun x => decide (x.1 = p.1)) with
          | none => simp [hf] at h
          | some x => exact ⟨x, List.mem_of_find?_eq_some hf, of_decide_eq_true (List.find?_some (p := fun x : K × Addr × Value => decide (x.1 = p.1)) hf)⟩
        obtain ⟨x, hx, e⟩ := this
        exact hd x.1 (List.mem_map.mpr ⟨x, hx, rfl⟩) p.1 List.mem_cons_self e
    rw [storedH_new hno, stored_new ps _ (by rw [List.append_assoc]; exact nd), List.append_assoc]
    rfl
/-- a row of the list: the pair, its key's place, its key, its value -/
abbrev T3 := Addr × Addr × List Key × V
def rDictPT (K : PySem.W.Frag) : List V → Hp → VK → Prop := fun xs H Q => ∃ (a : Addr) (ts : List T3), xs = [.ref a] ∧ SqL K H a (ts.map fun t => V.ref t.1) ∧ (∀ t, t ∈ ts → SqT K H t.1 [.ref t.2.1, t.2.2.2] ∧ H t.2.1 = some (.tup (t.2.2.1.map kV))) ∧ (ts.map fun t => t.2.2.1).Nodup ∧
  ∀ p, H p = none → Q (.ref p) (upd H p (.dT (ts.map fun t => t.2.2)))
theorem trips_of {X : Cx} {pins : List (Addr × Obj)} {σ : L2.St} {H : Hp} {s : Shared} (I : Inv X pins σ H s) : ∀ {ts : List T3}, (∀ t, t ∈ ts → SqT X.K H t.1 [.ref t.2.1, t.2.2.2] ∧ H t.2.1 = some (.tup (t.2.2.1.map kV))) →
    ∃ ys : List Value, Paired (fun (t : T3) y => RelV t.2.2.2 y ∧ IsTup s.heap t.1 #[.ref t.2.1, y]) ts ys
  | [], _ => ⟨[], .nil⟩
  | t :: ts, h => by
    obtain ⟨ys, hp⟩ := trips_of I (ts := ts) fun t ht => h t (List.mem_cons_of_mem _ ht)
    obtain ⟨its, rv, ht, _⟩ := I.tuple (h t List.mem_cons_self).1
    obtain ⟨u, y, ei, ru, ry⟩ := vals2 rv
    subst ei
    cases (show u = Value.ref t.2.1 from ru)
    exact ⟨y :: ys, .cons ⟨ry, ht⟩ hp⟩
theorem pairAt {α β : Type} {R : α → β → Prop} : ∀ {l : List α} {m : List β}, Paired R l m → ∀ {i : Nat} {x : α} {y : β}, l[i]? = some x → m[i]? = some y → R x y
  | _, _, .cons h t, 0, x, y, e1, e2 => by
    cases (show _ = x from Option.some.inj e1)
    cases (show _ = y from Option.some.inj e2)
    exact h
  | _, _, .cons h t, i + 1, x, y, e1, e2 => pairAt t (i := i) (by simpa using e1) (by simpa using e2)
  | _, _, .nil, i, x, y, e1, _ => by simp at e1
theorem cr_dictPT {X : Cx} (hcalm : X.calm = true) (hu : X.A.units + 64 < cLine) : CallR X (.type "dict") (rDictPT X.K) := by
  intro pins s σ H xs us Q I r q
  obtain ⟨a, ts, ex, hq, ht, nd, q⟩ := q
  subst ex
  obtain ⟨u, eu, rx⟩ := vals1 r
  subst eu
  cases rx
  obtain ⟨its, rv, pl, hz⟩ := I.list hq
  have ei := refs_at (ps := ts.map fun t => t.1) (us := its) (by rw [List.map_map]; exact rv)
  subst ei
  rw [List.length_map] at hz
  obtain ⟨ys, hp⟩ := trips_of I ht
  have hlen : ys.length = ts.length := (Paired.length hp).symm
  obtain ⟨o, n, ho, hc, hd, hdat⟩ := pl
  have hprs : (List.zipWith (fun (t : T3) y => (Value.ref t.2.1, y)) ts ys).length = ts.length := by rw [List.length_zipWith]; omega
  have hps3 : (List.zipWith (fun (t : T3) y => (t.2.2.1, t.2.1, y)) ts ys).length = ts.length := by rw [List.length_zipWith]; omega
  have hk3 : (List.zipWith (fun (t : T3) y => (t.2.2.1, t.2.1, y)) ts ys).map (·.1) = ts.map fun t => t.2.2.1 := by
    refine List.ext_getElem? fun i => ?_
    rw [List.getElem?_map, List.getElem?_zipWith, List.getElem?_map]
    cases ht' : ts[i]? with
    | none => rfl
    | some t =>
      have hi : i < ys.length := by rw [hlen]; exact (List.getElem?_eq_some_iff.mp ht').1
      rw [List.getElem?_eq_getElem hi]
      rfl
  refine PySem.call_dict_pairsH (knd := tupleKind (mixKind X.prog X.w)) (ps := List.zipWith (fun (t : T3) y => (t.2.2.1, t.2.1, y)) ts ys)
    (PairArg.list a ((ts.map fun t => t.1).map Value.ref).toArray (fun j => ((ts[j]?).map fun t => t.1).getD a) (List.zipWith (fun (t : T3) y => (Value.ref t.2.1, y)) ts ys)) (I.ok.hd hcalm) (show X.A.in1.in1.units < cLine from ?_) ⟨⟨o, n, ho, hc, hd, hdat⟩, ?_, fun j k v e => ?_⟩ ⟨by rw [hps3, hprs], fun i key v e => ?_⟩ (fun h' hk x hx => ?_) (by rw [hprs]; exact hz) fun h' tk hd' hk => ?_
  · show X.A.units + 1 + 1 < cLine
    omega
  · simp [hprs]
  · obtain ⟨t, y, e1, e2, e3⟩ := List.getElem?_zipWith_eq_some.mp e
    cases e3
    have hr := pairAt hp e1 e2
    refine ⟨by simp [e1], ?_⟩
    show PairAt s.heap (((ts[j]?).map fun t => t.1).getD a) _ _
    rw [e1]
    obtain ⟨o2, h1, h2, n2, h3⟩ := hr.2
    exact .inl ⟨o2, h1, h2, n2, h3⟩
  · obtain ⟨t, y, e1, e2, e3⟩ := List.getElem?_zipWith_eq_some.mp e
    cases e3
    exact ⟨t.2.2.1, t.2.1, List.getElem?_zipWith_eq_some.mpr ⟨t, v, e1, e2, rfl⟩, rfl⟩
  · obtain ⟨i, e⟩ := List.mem_iff_getElem?.mp hx
    obtain ⟨t, y, e1, e2, e3⟩ := List.getElem?_zipWith_eq_some.mp e
    subst e3
    obtain ⟨o2, its2, n2, h1, h2, h3, h4⟩ := (show IsTupleKey (mixKind X.prog X.w) s.heap t.2.2.1 t.2.1 from key_of I.hok (ht t (List.mem_of_getElem? e1)).2)
    exact ⟨o2, its2, n2, hk _ _ (Nat.ne_of_lt (Heap.lt_size h1)) (fun z => by cases z) h1, h2, h3, h4⟩
  · have hm : (s.heap.objs.size == sysModules) = false := beq_eq_false_iff_ne.mpr (Nat.ne_of_gt I.big)
    rw [stored_new _ [] (by rw [List.nil_append, hk3]; exact nd), List.nil_append] at hd'
    obtain ⟨o3, es, ep, g1, g2, g3, g4, _, g6⟩ := hd'
    refine ⟨.ref s.heap.objs.size, upd H s.heap.objs.size (.dT (ts.map fun t => t.2.2)), I.laid (t' := tk) (fun b u e => hk b u (fun z => by cases z) e) (Nat.le_refl _) (show ObjOk X.prog X.w _ _ _ (.dT (ts.map fun t => t.2.2)) from ⟨by rw [List.length_map]; exact hz, hm, _, ?_, o3, es, ep, g1, g2, g3, g4, g6⟩), rfl, q _ (I.hok.fresh (Nat.le_refl _))⟩
    have key : ∀ (H2 : Hp), (∀ b xs, H b = some (.tup xs) → H2 b = some (.tup xs)) → ∀ {ts : List T3} {ys : List Value}, Paired (fun (t : T3) y => RelV t.2.2.2 y ∧ IsTup s.heap t.1 #[.ref t.2.1, y]) ts ys → (∀ t, t ∈ ts → H t.2.1 = some (.tup (t.2.2.1.map kV))) →
        Paired (fun (p : List Key × V) (q : List Key × Addr × Value) => p.1 = q.1 ∧ H2 q.2.1 = some (.tup (p.1.map kV)) ∧ RelV p.2 q.2.2) (ts.map fun t => t.2.2) (List.zipWith (fun (t : T3) y => (t.2.2.1, t.2.1, y)) ts ys) := by
      intro H2 hk2 ts ys hp
      induction hp with
      | nil => exact fun _ => .nil
      | cons h _ ih => exact fun ht => .cons ⟨rfl, hk2 _ _ (ht _ List.mem_cons_self), h.1⟩ (ih fun t h => ht t (List.mem_cons_of_mem _ h))
    exact key _ (fun b xs e => by rw [upd_ne (ne_of_none e (I.hok.fresh (Nat.le_refl _)))]; exact e) hp fun t h => (ht t h).2
def rDictV (K : PySem.W.Frag) : List V → Hp → VK → Prop := fun xs H Q => rDictU K xs H Q ∨ rDictPT K xs H Q
theorem u_dictV {X : Cx} (hc : X.calm = true) (hu : X.A.units + 64 < cLine) : CallR X (.type "dict") (rDictV X.K) := (u_dict hc).or (cr_dictPT hc hu)
/-- x not in "..", a written text -/
theorem elt_ninC {X : Cx} {sc : Scope} {x z : Str} {j : Nat} {p1 p2 p3 : Pos} (hk : sc.kind = .function) (hl : sc.names.lookup x = some .local)
    (hd : (x == ("__debug__" : Str)) = false := by decide) : EltG X sc x (.Compare (.Name x p1) [.NotIn] [.Constant (.str z) j p2] p3) (fun c => !decide (c ∈ z.cps.toList)) := by
  intro ce A' E' c t zz m hA hsc hglo hns hn hx
  refine wpAny_Compare1 ?_
  refine wpAny_Name (wpAny_loadName_local (by rw [hsc]; exact hk) (show ce.scope.names.lookup x = some .local by rw [hsc]; exact hl) hn hx ?_) hd
  refine wpAny_Constant_str ?_
  refine PySem.P.notIn_str ⟨?_, GxR.keeps_tok _ _⟩
  show Value.bool _ = Value.bool _
  rw [PySem.StrLaws.found_one]
end Ph
namespace Ph
open PySem PySem.Spec PyProof.Rows L2
/-- rows with keys (text, text) -/
def mP {α : Type} (f : α → V) (l : List ((Str × Str) × α)) : List (List Key × V) := l.map fun p => ([.inr p.1.1, .inr p.1.2], f p.2)
abbrev k2S (k : Str × Str) : List V := [.str k.1, .str k.2]
theorem keyP_inj {a b : Str × Str} : ([Sum.inr a.1, Sum.inr a.2] : List Key) = [.inr b.1, .inr b.2] ↔ a = b := by
  obtain ⟨a1, a2⟩ := a
  obtain ⟨b1, b2⟩ := b
  constructor
  · intro h
    injection h with h1 h2
    injection h2 with h2 _
    injection h1 with h1
    injection h2 with h2
    exact Prod.ext h1 h2
  · intro h; cases h; rfl
section
variable {α : Type} {f : α → V}
theorem mP_len {l : List ((Str × Str) × α)} : (mP f l).length = l.length := by unfold mP; rw [List.length_map]
theorem valV_mP {k : Str × Str} : ∀ {l : List ((Str × Str) × α)}, valV (mP f l) [.inr k.1, .inr k.2] = (look l k).map f
  | [] => rfl
  | p :: r => by
    show valV (([Sum.inr p.1.1, Sum.inr p.1.2], f p.2) :: mP f r) [.inr k.1, .inr k.2] = _
    rw [look_cons]
    by_cases h : p.1 = k
    · rw [valV_pos (keyP_inj.mpr h), if_pos h]; rfl
    · rw [valV_neg (fun e => h (keyP_inj.mp e)), if_neg h, valV_mP]
theorem putK_mP {l : List ((Str × Str) × α)} {k : Str × Str} {v : α} : putK (mP f l) [.inr k.1, .inr k.2] (f v) = mP f (putR l k v) := by
  unfold putK putR
  rw [valV_any, valV_mP, look_any, Option.isSome_map]
  split
  · unfold mP
    rw [List.map_map, List.map_map]
    refine List.map_congr_left fun p _ => ?_
    by_cases h : p.1 = k
    · have e := keyP_inj.mpr h
      simp only [Function.comp, e, h, if_true]
    · have e : ¬ ([Sum.inr p.1.1, Sum.inr p.1.2] : List Key) = [.inr k.1, .inr k.2] := fun e => h (keyP_inj.mp e)
      simp only [Function.comp, e, h, if_false]
  · unfold mP
    rw [List.map_append]; rfl
theorem dropK_mP {l : List ((Str × Str) × α)} {k : Str × Str} : dropK (mP f l) [.inr k.1, .inr k.2] = mP f (l.filter fun p => decide (p.1 ≠ k)) := by
  unfold dropK mP
  rw [List.filter_map]
  congr 1
  refine List.filter_congr fun p _ => ?_
  show decide (([Sum.inr p.1.1, Sum.inr p.1.2] : List Key) ≠ [.inr k.1, .inr k.2]) = decide (p.1 ≠ k)
  by_cases h : p.1 = k
  · rw [decide_eq_false (show ¬ ([Sum.inr p.1.1, Sum.inr p.1.2] : List Key) ≠ [.inr k.1, .inr k.2] from fun z => z (keyP_inj.mpr h)), decide_eq_false (show ¬ p.1 ≠ k from fun z => z h)]
  · rw [decide_eq_true (show ([Sum.inr p.1.1, Sum.inr p.1.2] : List Key) ≠ [.inr k.1, .inr k.2] from fun z => h (keyP_inj.mp z)), decide_eq_true h]
end
section
variable {K : PySem.W.Frag} {B H : Hp} {L L' : List (Addr × HO)} {I : List Im} {Q : VK} {σ : L2.St} {d b : Addr} {x y : Str}
theorem s_ixP {l : List ((Str × Str) × V)} {v : V} (m : H d = some (.dT (mP id l))) (mb : H b = some (.tup [.str x, .str y])) (e : look l (x, y) = some v) (q : Q v H) : rIxU K (.ref d) (.ref b) H Q :=
  .inr (.inr (.inr ⟨d, v, rfl, .inr ⟨_, [.inr x, .inr y], b, .inl m, rfl, mb, by rw [valV_mP (k := (x, y)), e]; rfl⟩, q⟩))
theorem s_ixPF {l : List ((Str × Str) × V)} {v : V} {o : Obj} (m : H d = some (.frz o (.dT (mP id l)))) (mb : H b = some (.tup [.str x, .str y])) (e : look l (x, y) = some v) (q : Q v H) : rIxU K (.ref d) (.ref b) H Q :=
  .inr (.inr (.inr ⟨d, v, rfl, .inr ⟨_, [.inr x, .inr y], b, .inr ⟨o, m⟩, rfl, mb, by rw [valV_mP (k := (x, y)), e]; rfl⟩, q⟩))
theorem s_inP {l : List ((Str × Str) × V)} (m : H d = some (.dT (mP id l))) (mb : H b = some (.tup [.str x, .str y])) (q : Q (.bl (look l (x, y)).isSome) H) : rInV K (.ref b) (.ref d) H Q :=
  .inl (.inr (.inl ⟨d, _, rfl, .inr ⟨_, [.inr x, .inr y], b, .inl m, rfl, mb, rfl⟩, by rw [valV_mP (k := (x, y)), Option.isSome_map]; exact q⟩))
theorem s_g1P {l : List ((Str × Str) × V)} (m : H d = some (.dT (mP id l))) (mb : H b = some (.tup [.str x, .str y])) (q : Q ((look l (x, y)).getD .non) H) : kGetK1 d Q (.ref b) H :=
  ⟨_, .inl (.inr ⟨_, [.inr x, .inr y], b, .inl m, rfl, mb, rfl⟩), by rw [valV_mP (k := (x, y)), Option.map_id]; exact q⟩
theorem s_g2P {l : List ((Str × Str) × V)} {z : V} (m : H d = some (.dT (mP id l))) (mb : H b = some (.tup [.str x, .str y])) (q : Q ((look l (x, y)).getD z) H) : kGetZ2 d (.ref b) Q z H :=
  ⟨_, .inl (.inr ⟨_, [.inr x, .inr y], b, .inl m, rfl, mb, rfl⟩), by rw [valV_mP (k := (x, y)), Option.map_id]; exact q⟩
theorem s_putP {R : Hp → Prop} {l : List ((Str × Str) × V)} {v : V} (hC : Ctx K B H L I) (m : H d = some (.dT (mP id l))) (mb : H b = some (.tup [.str x, .str y])) (z : l.length < 100000) (u : Up d (.dT (mP id (putR l (x, y) v))) L L') (q : ∀ H1, Ctx K B H1 L' I → R H1) : rSetU (.ref d) (.ref b) v H R :=
  .inr ⟨d, _, rfl, DPut.t (k := [Sum.inr x, Sum.inr y]) m mb (by rw [mP_len]; exact Nat.lt_of_lt_of_le z (by decide)), by rw [show putK (mP id l) [.inr x, .inr y] v = mP id (putR l (x, y) v) from putK_mP (f := id) (k := (x, y))]; exact q _ (hC.put u rfl)⟩
/-- dict(l) of a list of pairs with such keys -/
theorem s_dictP2 {ts : List (Addr × Addr × (Str × Str) × V)} (hC : Ctx K B H L I) (m : H d = some (.lst (ts.map fun t => V.ref t.1))) (h : ∀ t, t ∈ ts → SqT K H t.1 [.ref t.2.1, t.2.2.2] ∧ H t.2.1 = some (.tup [.str t.2.2.1.1, .str t.2.2.1.2])) (nd : (ts.map fun t => t.2.2.1).Nodup)
    (k : ∀ p H1, Ctx K B H1 ((p, .dT (mP id (ts.map fun t => t.2.2))) :: L) I → Q (.ref p) H1) : rDictV K [.ref d] H Q := by
  refine .inr ⟨d, ts.map fun t => (t.1, t.2.1, [.inr t.2.2.1.1, .inr t.2.2.1.2], t.2.2.2), rfl, SqL.of (by rw [List.map_map]; exact m), fun t ht => ?_, ?_, fun p hp => ?_⟩
  · obtain ⟨t0, h0, rfl⟩ := List.mem_map.mp ht
    exact h t0 h0
  · rw [List.map_map]
    have : (ts.map fun t => ([.inr t.2.2.1.1, .inr t.2.2.1.2] : List Key)) = (ts.map fun t => t.2.2.1).map fun k => ([.inr k.1, .inr k.2] : List Key) := by rw [List.map_map]; rfl
    show (ts.map fun t => ([.inr t.2.2.1.1, .inr t.2.2.1.2] : List Key)).Nodup
    rw [this]
    exact List.Pairwise.map _ (fun a b hne e => hne (keyP_inj.mp e)) nd
  · rw [List.map_map]
    have e : (ts.map ((fun t : T3 => t.2.2) ∘ fun t => (t.1, t.2.1, [.inr t.2.2.1.1, .inr t.2.2.1.2], t.2.2.2))) = mP id (ts.map fun t => t.2.2) := by unfold mP; rw [List.map_map]; rfl
    rw [e]
    exact k p _ (hC.newM hp rfl)
end
end Ph
namespace Ph
open PySem PySem.Spec PyProof.Rows L2
section
variable {K : PySem.W.Frag} {H : Hp} {Q : VK}
theorem s_isiS_str {x : Str} (h : Q (.bl true) H) : rIsi K [.str x, .ty "str"] H Q := ⟨_, _, _, _, true, rfl, .ty _, .base (.str x), by rfl, h⟩
theorem s_isiS_int {x : Str} (h : Q (.bl false) H) : rIsi K [.str x, .ty "int"] H Q := ⟨_, _, _, _, false, rfl, .ty _, .base (.str x), by rfl, h⟩
theorem s_isiS_bool {x : Str} (h : Q (.bl false) H) : rIsi K [.str x, .ty "bool"] H Q := ⟨_, _, _, _, false, rfl, .ty _, .base (.str x), by rfl, h⟩
theorem s_isiS_tuple {x : Str} (h : Q (.bl false) H) : rIsi K [.str x, .ty "tuple"] H Q := ⟨_, _, _, _, false, rfl, .ty _, .base (.str x), by rfl, h⟩
theorem s_isiI_str {x : Int} (h : Q (.bl false) H) : rIsi K [.int x, .ty "str"] H Q := ⟨_, _, _, _, false, rfl, .ty _, .base (.int x), by rfl, h⟩
theorem s_isiI_int {x : Int} (h : Q (.bl true) H) : rIsi K [.int x, .ty "int"] H Q := ⟨_, _, _, _, true, rfl, .ty _, .base (.int x), by rfl, h⟩
theorem s_isiI_bool {x : Int} (h : Q (.bl false) H) : rIsi K [.int x, .ty "bool"] H Q := ⟨_, _, _, _, false, rfl, .ty _, .base (.int x), by rfl, h⟩
theorem s_isiI_tuple {x : Int} (h : Q (.bl false) H) : rIsi K [.int x, .ty "tuple"] H Q := ⟨_, _, _, _, false, rfl, .ty _, .base (.int x), by rfl, h⟩
theorem s_isiB_str {x : Bool} (h : Q (.bl false) H) : rIsi K [.bl x, .ty "str"] H Q := ⟨_, _, _, _, false, rfl, .ty _, .base (.bl x), by rfl, h⟩
theorem s_isiB_int {x : Bool} (h : Q (.bl true) H) : rIsi K [.bl x, .ty "int"] H Q := ⟨_, _, _, _, true, rfl, .ty _, .base (.bl x), by rfl, h⟩
theorem s_isiB_bool {x : Bool} (h : Q (.bl true) H) : rIsi K [.bl x, .ty "bool"] H Q := ⟨_, _, _, _, true, rfl, .ty _, .base (.bl x), by rfl, h⟩
theorem s_isiB_tuple {x : Bool} (h : Q (.bl false) H) : rIsi K [.bl x, .ty "tuple"] H Q := ⟨_, _, _, _, false, rfl, .ty _, .base (.bl x), by rfl, h⟩
theorem s_isiN_str  (h : Q (.bl false) H) : rIsi K [.non, .ty "str"] H Q := ⟨_, _, _, _, false, rfl, .ty _, .base .non, by rfl, h⟩
theorem s_isiN_int  (h : Q (.bl false) H) : rIsi K [.non, .ty "int"] H Q := ⟨_, _, _, _, false, rfl, .ty _, .base .non, by rfl, h⟩
theorem s_isiN_bool  (h : Q (.bl false) H) : rIsi K [.non, .ty "bool"] H Q := ⟨_, _, _, _, false, rfl, .ty _, .base .non, by rfl, h⟩
theorem s_isiN_tuple  (h : Q (.bl false) H) : rIsi K [.non, .ty "tuple"] H Q := ⟨_, _, _, _, false, rfl, .ty _, .base .non, by rfl, h⟩
end
end Ph
namespace Ph
open PySem PySem.Spec PyProof PyProof.Rows L2
open PySem.Calls
section
variable {prog : Program} {w : World} {A : Around} {E : Value → Shared → Prop} {s : Shared} {b : Bool}
theorem call_abs_bool {Q : Value → Shared → Prop} (h : ∀ u tk, Q (.int (if b then 1 else 0) u) { s with toks := tk }) :
    wpAny (model prog w) A (call (.builtin "abs") [.bool b]) Q E s := by
  refine call_function_entry kind_abs plain_abs entry_abs (args_abs _) ?_
  unfold Builtin.«abs»
  refine wpAny_bind (m := oneArg "abs" _) (wpAny_pure ?_)
  refine wpAny_bind (m := callSpecial? (.bool b) (Str.ofString "__abs__")) (wpAny_callSpecial?_slot (name := Str.ofString "__abs__") (PyProof.Rows.typeIs_bool' s b) F.slot_bool_abs
    (wpAny_call_entry F.slot_bool_abs (PyProof.Rows.typeIs_bool' s b) entry_int_abs ?_ (args_int_abs _)))
  have h' := h s.toks (s.toks + 1)
  cases b
  · exact wpAny_ret_mkInt (wpAny_pure ⟨_, rfl, h'⟩)
  · exact wpAny_ret_mkInt (wpAny_pure ⟨_, rfl, h'⟩)
end
def rAbsU : List V → Hp → VK → Prop := fun xs H Q => (∃ i, xs = [.int i] ∧ Q (.int (if i < 0 then -i else i)) H) ∨ ∃ b, xs = [.bl b] ∧ Q (.int (if b then 1 else 0)) H
theorem call_absB {X : Cx} : CallR X (.builtin "abs") (fun xs H Q => ∃ b, xs = [.bl b] ∧ Q (.int (if b then 1 else 0)) H) := by
  intro pins s σ H xs us Q I r h
  obtain ⟨b, rfl, q⟩ := h
  obtain ⟨u, rfl, r1⟩ := vals1 r
  have hu : u = .bool b := by first | exact r1 | (cases r1; rfl)
  subst hu
  exact call_abs_bool fun u tk => ⟨.int (if b then 1 else 0), H, I.tok _, ⟨_, rfl⟩, q⟩
theorem u_abs {X : Cx} : CallR X (.builtin "abs") rAbsU := call_abs.or call_absB
section
variable {H : Hp} {Q : VK}
theorem s_absI {i : Int} (h : Q (.int (if i < 0 then -i else i)) H) : rAbsU [.int i] H Q := .inl ⟨i, rfl, h⟩
theorem s_absB {b : Bool} (h : Q (.int (if b then 1 else 0)) H) : rAbsU [.bl b] H Q := .inr ⟨b, rfl, h⟩
end
end Ph
namespace Ph
open PySem PySem.Spec PyProof.Rows L2
section
theorem upd_self {H : Hp} {d : Addr} {o : HO} (h : H d = some o) : upd H d o = H := by
  funext b
  by_cases e : b = d
  · subst e; rw [upd_same, h]
  · rw [upd_ne e]
theorem look_del {κ α : Type} [DecidableEq κ] {k j : κ} : ∀ {l : List (κ × α)}, look (l.filter fun p => decide (p.1 ≠ k)) j = if j = k then none else look l j
  | [] => by simp [look_nil]
  | p :: r => by
    rw [List.filter_cons]
    by_cases h : p.1 = k
    · rw [if_neg (by simp [h]), look_del, look_cons]
      by_cases q : j = k
      · rw [if_pos q, if_pos q]
      · rw [if_neg q, if_neg q, if_neg (fun z => q (z.symm.trans h))]
    · rw [if_pos (by simp [h]), look_cons, look_cons, look_del]
      by_cases q : j = k
      · rw [if_pos q, if_pos q, if_neg (fun z => h (z.trans q))]
      · rw [if_neg q, if_neg q]
theorem del_none {κ α : Type} [DecidableEq κ] {k : κ} {l : List (κ × α)} (h : look l k = none) : (l.filter fun p => decide (p.1 ≠ k)) = l :=
  List.filter_eq_self.mpr fun p hp => decide_eq_true (look_none.mp h p hp)
variable {K : PySem.W.Frag} {B H : Hp} {L L' : List (Addr × HO)} {I : List Im} {Q : VK} {σ : L2.St} {d b : Addr} {x y : Str} {z : V}
theorem s_tyDK {r0 : List (Key × V)} {r : V → List V → Hp → VK → Prop} {tr : TA} (e : H d = some (.dK r0)) (h : tr σ H fun xs H2 => r (.ref d) xs H2 Q) : kBm K "dict" r σ tr Q (.ref d) H := ⟨.inr (.inr (.inl ⟨rfl, .inl ⟨_, e⟩⟩)), h⟩
theorem s_tyDT {r0 : List (List Key × V)} {r : V → List V → Hp → VK → Prop} {tr : TA} (e : H d = some (.dT r0)) (h : tr σ H fun xs H2 => r (.ref d) xs H2 Q) : kBm K "dict" r σ tr Q (.ref d) H := ⟨.inr (.inr (.inl ⟨rfl, .inr ⟨_, e⟩⟩)), h⟩
theorem s_popP {l : List ((Str × Str) × V)} (hC : Ctx K B H L I) (m : H d = some (.dT (mP id l))) (mb : H b = some (.tup [.str x, .str y])) (u : Up d (.dT (mP id (l.filter fun p => decide (p.1 ≠ (x, y))))) L L') (k : ∀ v H1, Ctx K B H1 L' I → Q v H1) : DX.rPopT (.ref d) [.ref b, z] H Q :=
  ⟨d, mP id l, [.inr x, .inr y], b, z, rfl, rfl, m, mb, fun v hv => by
    rw [show dropK (mP id l) [.inr x, .inr y] = _ from dropK_mP (f := id) (k := (x, y))]
    exact k v _ (hC.put u rfl), fun hn => by
    have hl : look l (x, y) = none := by
      have e := valV_mP (f := id) (l := l) (k := (x, y))
      rw [hn] at e
      cases h : look l (x, y) with
      | none => rfl
      | some w => rw [h] at e; cases e
    rw [del_none hl] at u
    have := hC.put u rfl
    rw [upd_self m] at this
    exact k z _ this⟩
theorem s_pop2a {α : Type} {f : α → V} {l : List (Str × α)} (hC : Ctx K B H L I) (m : H d = some (.dK (mK f l))) (u : Up d (.dK (mK f (l.filter fun p => decide (p.1 ≠ x)))) L L') (k : ∀ v H1, Ctx K B H1 L' I → Q v H1) : kPop2z d (.str x) Q z H :=
  ⟨mK f l, .inr x, m, rfl, fun v hv => by
    rw [dropK_mK]
    exact k v _ (hC.put u rfl), fun hn => by
    have hl : look l x = none := by
      rw [valV_mK] at hn
      cases h : look l x with
      | none => rfl
      | some w => rw [h] at hn; cases hn
    rw [del_none hl] at u
    have := hC.put u rfl
    rw [upd_self m] at this
    exact k z _ this⟩
end
end Ph
namespace Ph
open PySem PySem.Spec PyProof.Rows L2
def kVo : Option Key → V
  | none => .non
  | some k => kV k
theorem kVo_is {P : Program} {w : World} {k : Option Key} {u : Value} (r : RelV (kVo k) u) : (noneKind P w).is k u = true := by
  cases k with
  | none =>
    obtain rfl : u = Value.none := r
    rfl
  | some k => exact kV_is (P := P) (w := w) (k := k) r
theorem items_areO {P : Program} {w : World} : ∀ {ks : List (Option Key)} {us : List Value}, Vals (ks.map kVo) us → ItemsAre (noneKind P w) ks us
  | [], _, r => by rw [List.map_nil] at r; cases r; exact .nil
  | k :: ks, _, r => by
    rw [List.map_cons] at r
    cases r with
    | cons h t => exact .cons (kVo_is h) (items_areO t)
theorem items_some {P : Program} {w : World} {ks : List Key} {us : List Value} (h : ItemsAre (mixKind P w) ks us) : ItemsAre (noneKind P w) (ks.map some) us := by
  induction h with
  | nil => exact .nil
  | cons h1 _ ih => exact .cons h1 ih
theorem key_ofO {P : Program} {w : World} {H : Hp} {h : Heap} {a : Addr} {ks : List (Option Key)} (ok : HOk P w H h) (e : H a = some (.tup (ks.map kVo))) : (tupleKind (noneKind P w)).is h ks a := by
  obtain ⟨_, its, r, o, h1, h2, n, h3⟩ := (show ObjOk P w H h a (.tup (ks.map kVo)) from ok a _ e)
  exact ⟨o, its.toArray, n, h1, h2, h3, by simpa using items_areO r⟩
theorem map_some_inj : ∀ {a b : List Key}, List.map (some : Key → Option Key) a = List.map some b → a = b
  | [], [], _ => rfl
  | [], _ :: _, h => by cases h
  | _ :: _, [], h => by cases h
  | x :: a, y :: b, h => by
    injection h with h1 h2
    rw [Option.some.inj h1, map_some_inj h2]
theorem dictO {P : Program} {w : World} {h : Heap} {d : Addr} {xs : List (List Key × Addr × Value)} (m : h.DictOfH (tupleKind (mixKind P w)) d xs) : h.DictOfH (tupleKind (noneKind P w)) d (xs.map fun x => (List.map some x.1, x.2)) := by
  obtain ⟨o, es, ep, h1, h2, h3, h4, h5, h6⟩ := m
  refine ⟨o, es, ep, h1, h2, h3, ?_, fun x hx => ?_, ?_⟩
  · rw [h4, List.map_map]
    refine List.map_congr_left fun x _ => ?_
    show DictEntry.mk (tupleKeyHash (mixKind P w) x.1) _ _ = DictEntry.mk (tupleKeyHash (noneKind P w) (List.map some x.1)) _ _
    have e : tupleKeyHash (noneKind P w) (List.map some x.1) = tupleKeyHash (mixKind P w) x.1 := by
      unfold tupleKeyHash
      rw [List.map_map]
      rfl
    rw [e]
  · obtain ⟨y, hy, rfl⟩ := List.mem_map.mp hx
    obtain ⟨o', its, n, q1, q2, q3, q4⟩ := h5 y hy
    exact ⟨o', its, n, q1, q2, q3, items_some q4⟩
  · rw [List.map_map]
    have : (xs.map ((fun x : List (Option Key) × Addr × Value => x.1) ∘ fun x : List Key × Addr × Value => (List.map some x.1, x.2))) = (xs.map (·.1)).map (fun k => List.map some k) := by rw [List.map_map]; rfl
    rw [this]
    refine List.Pairwise.map _ (fun a b hne e => hne ?_) h6
    exact map_some_inj e
theorem atO {xs : List (List Key × Addr × Value)} {ks : List (Option Key)} (hn : none ∈ ks) : atKey (xs.map fun x => (List.map some x.1, x.2)) ks = none := by
  unfold atKey
  rw [List.find?_eq_none.mpr]
  · rfl
  · intro x hx z
    obtain ⟨y, _, rfl⟩ := List.mem_map.mp hx
    have e : List.map some y.1 = ks := of_decide_eq_true z
    rw [← e] at hn
    obtain ⟨k, _, hk⟩ := List.mem_map.mp hn
    cases hk
def DGetM (H : Hp) (a : Addr) (y : V) (r : Option V) : Prop := DGetN H a y r ∨ ∃ (kvs : List (List Key × V)) (ks : List (Option Key)) (b : Addr), Rd H a (.dT kvs) ∧ y = .ref b ∧ H b = some (.tup (ks.map kVo)) ∧ none ∈ ks ∧ r = none
def tGet2M (td ty tx : TE) : TE := fun σ H Q => td σ H fun x H1 => ∃ a, x = .ref a ∧ IsD H1 a ∧ ty σ H1 fun y H2 => tx σ H2 fun z H3 => ∃ o, DGetM H3 a y o ∧ Q (o.getD z) H3
section
variable {X : Cx} {pins : List (Addr × Obj)} {σ : L2.St} {H : Hp} {s : Shared} {a : Addr} {y d : V} {u r : Value} {o : Option V} {A : Around} {E : Value → Shared → Prop}
theorem d_get2M {Q : Value → Shared → Prop} (hu : A.units + 1 < cLine) (I : Inv X pins σ H s) (g : DGetM H a y o) (ry : RelV y u) (rd : RelV d r) (h : ∀ w' s', Inv X pins σ H s' → RelV (o.getD d) w' → Q w' s') :
    wpAny (model X.prog X.w) A (call (.builtin "dict.get") [.ref a, u, r]) Q E s := by
  rcases g with g | ⟨kvs, ks, b, e, rfl, eb, hn, rfl⟩
  · exact d_get2N hu I g ry rd h
  · cases (show u = Value.ref b from ry)
    obtain ⟨z, hd, xs, rel, dd⟩ := dt_rd I.hok e
    refine call_meetsIn PySem.F.slot_dict_get dd.typeIs PySem.F.entry_dict_get (PySem.F.args_dict_get_3 _ _ _) (meetsH_dict_get_default (tupleKind (noneKind X.prog X.w)) a b hd r) ⟨tupleKind_room_in1 hu, ks, _, key_ofO I.hok eb, dictO dd, h _ _ (I.tok _) ?_⟩
    rw [atO hn]
    exact rd
end
section
variable {X : Cx} {o e f : Expr} {apos cpos : Pos} {td ty tx : TE}
theorem pe_get2M (hu : X.A.units + 64 < cLine) (ho : PE X o td) (he : PE X e ty) (hf : PE X f tx) (m : M2 X o "get" apos e f cpos) : PE X (.Call (.Attribute o "get" apos) [e, f] [] cpos) (tGet2M td ty tx) := by
  refine ⟨fun pins s σ H Q I h => ?_⟩
  refine wpAny_Call_method m.base m.few m.line PySem.F.plainAttrs_dict PySem.F.slot_dict_get PySem.F.type_dict_get (thn (ho.run pins s σ H _ I h) fun u s1 ⟨x, H1, I1, rx, a, ex, d, q1⟩ => ?_)
  subst ex
  obtain rfl : u = Value.ref a := rx
  obtain ⟨t1, t2, _⟩ := isD_at I1 d
  refine ⟨t1, t2, ?_⟩
  rw [m.trees]
  refine Calls.callWith_builtin rfl (Calls.evalArgs_plain (Calls.spliced_cons (thn (he.run pins s1 σ H1 _ I1 q1) fun iv s2 ⟨y, H2, I2, ry, q2⟩ =>
    Calls.spliced_cons (thn (hf.run pins s2 σ H2 _ I2 q2) fun fv s3 ⟨z, H3, I3, rz, ov, g, q3⟩ => Calls.spliced_nil ?_))))
  exact d_get2M (by omega) I3 g ry rz fun w' s4 I4 rw' => ⟨_, H3, I4, rw', q3⟩
end
section
variable {H : Hp} {Q : VK} {σ : L2.St} {d b : Addr}
def kGet2M (ty tx : TE) (σ : L2.St) (Q : VK) : VK := fun x H1 => ∃ a, x = .ref a ∧ IsD H1 a ∧ ty σ H1 fun y H2 => tx σ H2 fun z H3 => ∃ o, DGetM H3 a y o ∧ Q (o.getD z) H3
def kGetZ2M (a : Addr) (y : V) (Q : VK) : VK := fun z H3 => ∃ o, DGetM H3 a y o ∧ Q (o.getD z) H3
def kGetY2M (a : Addr) (tx : TE) (σ : L2.St) (Q : VK) : VK := fun y H2 => tx σ H2 (kGetZ2M a y Q)
theorem s_g2M {td ty tx : TE} (h : td σ H (kGet2M ty tx σ Q)) : tGet2M td ty tx σ H Q := h
theorem s_g2MK {ty tx : TE} {l : List (Key × V)} (m : H d = some (.dK l)) (h : ty σ H (kGetY2M d tx σ Q)) : kGet2M ty tx σ Q (.ref d) H := ⟨d, rfl, .inl ⟨l, .inl m⟩, h⟩
theorem s_g2MT {ty tx : TE} {l : List (List Key × V)} (m : H d = some (.dT l)) (h : ty σ H (kGetY2M d tx σ Q)) : kGet2M ty tx σ Q (.ref d) H := ⟨d, rfl, .inr ⟨l, .inl m⟩, h⟩
theorem s_g2My {tx : TE} {y : V} (h : tx σ H (kGetZ2M d y Q)) : kGetY2M d tx σ Q y H := h
theorem s_g2Mo {y z : V} (h : kGetZ2 d y Q z H) : kGetZ2M d y Q z H := by
  obtain ⟨o, g, q⟩ := h
  exact ⟨o, .inl g, q⟩
theorem s_g2Mn {x : Str} {z : V} {l : List (List Key × V)} (m : H d = some (.dT l)) (mb : H b = some (.tup [.non, .str x])) (q : Q z H) : kGetZ2M d (.ref b) Q z H :=
  ⟨none, .inr ⟨l, [none, some (.inr x)], b, .inl m, rfl, mb, List.mem_cons_self, rfl⟩, q⟩
theorem s_g2iv {l : List (Str × V)} {x : Str} {z : V} (m : H d = some (.dK (mK id l))) (q : Q ((look l x).getD z) H) : kGetZ2 d (.str x) Q z H := s_g2Kv m (by rw [Option.map_id]; exact q)
end
end Ph
namespace Ph
open PySem PySem.Spec PyProof.Rows L2
abbrev PrF (K : PySem.W.Frag) (H : Hp) (p : Addr) (kv : Key × V) : Prop := SqT K H p [kV kv.1, kv.2]
section
variable {K : PySem.W.Frag} {B H H' : Hp} {L L' : List (Addr × HO)} {I : List Im} {Q : VK} {σ : L2.St} {d : Addr}
theorem prf_mono {ps : List Addr} {l : List (Key × V)} (s : Stb H H') (h : Paired (PrF K H) ps l) : Paired (PrF K H') ps l := Paired.mapP h fun p kv z => s.sqt z
theorem prf_unl {d : Addr} {od : Obj} {u : HO} {ps : List Addr} {l : List (Key × V)} (f : H d = some (.frz od u)) (h : Paired (PrF K H) ps l) : Paired (PrF K (upd H d u)) ps l := Paired.mapP h fun p kv z => sqt_unl f z
abbrev imP (K : PySem.W.Frag) (ps : List Addr) (l : List (Key × V)) : Im := .pr (fun H => Paired (PrF K H) ps l) (fun _ _ s h => prf_mono s h)
theorem mK_app {l m : List (Str × V)} : mK id (l ++ m) = mK id l ++ mK id m := List.map_append
theorem mK_at {l : List (Str × V)} {i : Nat} {k : Key} {v : V} (h : (mK id l)[i]? = some (k, v)) : ∃ x, l[i]? = some (x, v) ∧ k = .inr x := by
  unfold mK at h
  rw [List.getElem?_map] at h
  cases e : l[i]? with
  | none => rw [e] at h; cases h
  | some q => rw [e] at h; cases h; exact ⟨q.1, rfl, rfl⟩
theorem pairsK {td : TE} {g : TG} {tt : TT} {te : TE} {vs : List Nat} {l : List (Str × V)} (p : Str → Bool) (htd : ∀ H Q, Q (.ref d) H → td σ H Q) (hC : Ctx K B H L I) (m : Pick (d, .dK (mK id l)) L L') (hz : l.length ≤ 90000)
    (turn : ∀ x v H1 D acc od (Zy : VK) (Zn : Hp → Prop), (x, v) ∈ l → Ctx K H1 H1 ((D, .lst acc) :: L') (imFz d od (.dK (mK id l)) :: I) →
      (∀ H2 tp J', p x = true → Ctx K H1 H2 ((D, .lst acc) :: L') J' → (∀ j, j ∈ imFz d od (.dK (mK id l)) :: I → j ∈ J') → SqT K H2 tp [.str x, v] → Zy (.ref tp) H2) →
      (∀ H2 J', p x = false → Ctx K H1 H2 ((D, .lst acc) :: L') J' → (∀ j, j ∈ imFz d od (.dK (mK id l)) :: I → j ∈ J') → Zn H2) →
      g (.str x) (wipe σ vs) H1 fun σ2 H2 => wipe σ2 vs = wipe σ vs ∧ tt σ2 H2 fun b H3 => if b = true then te σ2 H3 Zy else Zn H3)
    (k : ∀ H' D ps, Ctx K B H' ((d, .dK (mK id l)) :: (D, .lst (ps.map V.ref)) :: L') (imP K ps (mK id (l.filter fun q => p q.1)) :: I) → Q (.ref D) H') :
    tLockE (tLc (iKeys td) g tt te vs) σ H Q := by
  have hC0 := hC
  refine s_lockE hC m trivial (fun od H1 s1 hC => ?_)
  refine s_lc (s_keys (htd _ _ (s_keysK (hC.frz List.mem_cons_self) ?_)))
  refine lc_w walk_keys hC (fun D i H2 => ∃ ps, Ctx K H1 H2 ((D, .lst (ps.map V.ref)) :: L') (imP K ps (mK id ((l.take i).filter fun q => p q.1)) :: imFz d od (.dK (mK id l)) :: I)) (fun D H2 hC => ⟨[], hC.add (i := imP K [] []) .nil⟩) (fun D i H2 _ ⟨ps, hC⟩ => hC.frz (List.mem_cons_of_mem _ List.mem_cons_self)) ?_ ?_
  · rintro i x D H2 H3 hi ⟨ps, hC⟩ ⟨rfl, k, v, hk, hx⟩
    obtain ⟨x, he, rfl⟩ := mK_at hk
    subst hx
    have hP := hC.pr (P := fun H => Paired (PrF K H) ps (mK id ((l.take i).filter fun q => p q.1))) List.mem_cons_self
    have hl : ps.length ≤ 90000 := by
      have q := hP.length
      unfold mK at q
      rw [List.length_map] at q
      have q2 := List.length_filter_le (fun q : Str × V => p q.1) (l.take i)
      rw [List.length_take] at q2
      omega
    have hC1 := hC.rebase
    refine turn x v _ D (ps.map V.ref) od _ _ (List.mem_of_getElem? he) ⟨hC1.lay, fun j hj => hC1.im j (List.mem_cons_of_mem _ hj), hC1.sb⟩ (fun H4 tp J' hb hC2 hs ht => ?_) (fun H4 J' hb hC2 hs => ⟨ps, ?_⟩)
    · have hC3 : Ctx K H1 H4 ((D, .lst (ps.map V.ref)) :: L') (imP K (ps ++ [tp]) (mK id (((l.take i).filter fun q => p q.1) ++ [(x, v)])) :: imFz d od (.dK (mK id l)) :: I) := ⟨hC2.lay, fun j hj => by
        rcases List.mem_cons.mp hj with rfl | hj
        · show Paired (PrF K H4) (ps ++ [tp]) (mK id (((l.take i).filter fun q => p q.1) ++ [(x, v)]))
          rw [mK_app]
          exact Paired.snoc (prf_mono hC2.sb hP) ht
        · exact hC2.im j (hs j hj), hC.sb.trans hC2.sb⟩
      refine s_app (acc := ps.map V.ref) hC3 (hC3.get List.mem_cons_self) (by rw [List.length_map]; omega) .here (fun H5 hC5 => ⟨ps ++ [tp], ?_⟩)
      rw [take_snoc he, List.filter_append, show ([(x, v)] : List (Str × V)).filter (fun q => p q.1) = [(x, v)] from by simp [hb], List.map_append]
      exact hC5
    · rw [take_snoc he, List.filter_append, show ([(x, v)] : List (Str × V)).filter (fun q => p q.1) = [] from by simp [hb], List.append_nil]
      exact ⟨hC2.lay, fun j hj => by
        rcases List.mem_cons.mp hj with rfl | hj
        · exact prf_mono hC2.sb hP
        · exact hC2.im j (hs j hj), hC.sb.trans hC2.sb⟩
  · rintro D H2 ⟨ps, hC⟩
    have f := hC.frz (d := d) (od := od) (u := .dK (mK id l)) (List.mem_cons_of_mem _ List.mem_cons_self)
    have hP := hC.pr (P := fun H => Paired (PrF K H) ps (mK id ((l.take (mK id l).length).filter fun q => p q.1))) List.mem_cons_self
    rw [show l.take (mK id l).length = l from by unfold mK; rw [List.length_map, List.take_length]] at hP
    refine s_unlE hC0 m s1 hC f (fun hC => ?_)
    exact k _ D ps (hC.add (i := imP K ps _) (prf_unl f hP))
/-- what a pair over a tuple key is -/
abbrev T4 := Addr × Addr × (Str × Str) × V
def TsOk (K : PySem.W.Frag) (H : Hp) (ts : List T4) : Prop := ∀ t, t ∈ ts → SqT K H t.1 [.ref t.2.1, t.2.2.2] ∧ H t.2.1 = some (.tup [.str t.2.2.1.1, .str t.2.2.1.2])
theorem tsok_mono {ts : List T4} (s : Stb H H') (h : TsOk K H ts) : TsOk K H' ts := fun t ht => ⟨s.sqt (h t ht).1, s _ _ (h t ht).2 rfl⟩
theorem tsok_unl {od : Obj} {u : HO} {ts : List T4} (f : H d = some (.frz od u)) (h : TsOk K H ts) : TsOk K (upd H d u) ts := fun t ht => ⟨sqt_unl f (h t ht).1, by
  have q := (h t ht).2
  rw [upd_ne (fun z => by rw [z, f] at q; cases q)]
  exact q⟩
abbrev imT (K : PySem.W.Frag) (ts : List T4) : Im := .pr (fun H => TsOk K H ts) (fun _ _ s h => tsok_mono s h)
theorem mP_at {l : List ((Str × Str) × V)} {i : Nat} {k : List Key} {v : V} (h : (mP id l)[i]? = some (k, v)) : ∃ x, l[i]? = some (x, v) ∧ k = [.inr x.1, .inr x.2] := by
  unfold mP at h
  rw [List.getElem?_map] at h
  cases e : l[i]? with
  | none => rw [e] at h; cases h
  | some q => rw [e] at h; cases h; exact ⟨q.1, rfl, rfl⟩
theorem pairsT {td : TE} {g : TG} {tt : TT} {te : TE} {vs : List Nat} {l : List ((Str × Str) × V)} (p : Str × Str → Bool) (htd : ∀ H Q, Q (.ref d) H → td σ H Q) (hC : Ctx K B H L I) (m : Pick (d, .dT (mP id l)) L L') (hz : l.length ≤ 90000)
    (turn : ∀ x v b H1 D acc od (Zy : VK) (Zn : Hp → Prop), (x, v) ∈ l → H1 b = some (.tup [.str x.1, .str x.2]) → Ctx K H1 H1 ((D, .lst acc) :: L') (imFz d od (.dT (mP id l)) :: I) →
      (∀ H2 tp J', p x = true → Ctx K H1 H2 ((D, .lst acc) :: L') J' → (∀ j, j ∈ imFz d od (.dT (mP id l)) :: I → j ∈ J') → SqT K H2 tp [.ref b, v] → Zy (.ref tp) H2) →
      (∀ H2 J', p x = false → Ctx K H1 H2 ((D, .lst acc) :: L') J' → (∀ j, j ∈ imFz d od (.dT (mP id l)) :: I → j ∈ J') → Zn H2) →
      g (.ref b) (wipe σ vs) H1 fun σ2 H2 => wipe σ2 vs = wipe σ vs ∧ tt σ2 H2 fun b H3 => if b = true then te σ2 H3 Zy else Zn H3)
    (k : ∀ H' D ts, ts.map (fun t => t.2.2) = (l.filter fun q => p q.1) → Ctx K B H' ((d, .dT (mP id l)) :: (D, .lst (ts.map fun t => V.ref t.1)) :: L') (imT K ts :: I) → Q (.ref D) H') :
    tLockE (tLc (iKeys td) g tt te vs) σ H Q := by
  have hC0 := hC
  refine s_lockE hC m trivial (fun od H1 s1 hC => ?_)
  refine s_lc (s_keys (htd _ _ (s_keysT (hC.frz List.mem_cons_self) ?_)))
  refine lc_w walk_keysT hC (fun D i H2 => ∃ ts : List T4, ts.map (fun t => t.2.2) = ((l.take i).filter fun q => p q.1) ∧ Ctx K H1 H2 ((D, .lst (ts.map fun t => V.ref t.1)) :: L') (imT K ts :: imFz d od (.dT (mP id l)) :: I)) (fun D H2 hC => ⟨[], rfl, hC.add (i := imT K []) (fun _ h => nomatch h)⟩) (fun D i H2 _ ⟨ts, _, hC⟩ => hC.frz (List.mem_cons_of_mem _ List.mem_cons_self)) ?_ ?_
  · rintro i x D H2 H3 hi ⟨ts, ets, hC⟩ ⟨rfl, k, v, b, hk, rfl, hb0⟩
    obtain ⟨x, he, rfl⟩ := mP_at hk
    have hP := hC.pr (P := fun H => TsOk K H ts) List.mem_cons_self
    have hl : ts.length ≤ 90000 := by
      have q := congrArg List.length ets
      rw [List.length_map] at q
      have q2 := List.length_filter_le (fun q : (Str × Str) × V => p q.1) (l.take i)
      rw [List.length_take] at q2
      omega
    have hC1 := hC.rebase
    refine turn x v b _ D _ od _ _ (List.mem_of_getElem? he) hb0 ⟨hC1.lay, fun j hj => hC1.im j (List.mem_cons_of_mem _ hj), hC1.sb⟩ (fun H4 tp J' hb hC2 hs ht => ?_) (fun H4 J' hb hC2 hs => ⟨ts, ?_, ?_⟩)
    · have hC3 : Ctx K H1 H4 ((D, .lst (ts.map fun t => V.ref t.1)) :: L') (imT K (ts ++ [(tp, b, x, v)]) :: imFz d od (.dT (mP id l)) :: I) := ⟨hC2.lay, fun j hj => by
        rcases List.mem_cons.mp hj with rfl | hj
        · show TsOk K H4 (ts ++ [(tp, b, x, v)])
          intro t ht'
          rcases List.mem_append.mp ht' with h | h
          · exact tsok_mono hC2.sb hP t h
          · rw [List.mem_singleton.mp h]
            exact ⟨ht, hC2.sb _ _ hb0 rfl⟩
        · exact hC2.im j (hs j hj), hC.sb.trans hC2.sb⟩
      refine s_app (acc := ts.map fun t => V.ref t.1) hC3 (hC3.get List.mem_cons_self) (by rw [List.length_map]; omega) .here (fun H5 hC5 => ⟨ts ++ [(tp, b, x, v)], ?_, ?_⟩)
      · rw [take_snoc he, List.filter_append, show ([(x, v)] : List ((Str × Str) × V)).filter (fun q => p q.1) = [(x, v)] from by simp [hb], List.map_append, ets]; rfl
      · rw [List.map_append]
        exact hC5
    · rw [take_snoc he, List.filter_append, show ([(x, v)] : List ((Str × Str) × V)).filter (fun q => p q.1) = [] from by simp [hb], List.append_nil]
      exact ets
    · exact ⟨hC2.lay, fun j hj => by
        rcases List.mem_cons.mp hj with rfl | hj
        · exact tsok_mono hC2.sb hP
        · exact hC2.im j (hs j hj), hC.sb.trans hC2.sb⟩
  · rintro D H2 ⟨ts, ets, hC⟩
    have f := hC.frz (d := d) (od := od) (u := .dT (mP id l)) (List.mem_cons_of_mem _ List.mem_cons_self)
    have hP := hC.pr (P := fun H => TsOk K H ts) List.mem_cons_self
    rw [show l.take (mP id l).length = l from by unfold mP; rw [List.length_map, List.take_length]] at ets
    refine s_unlE hC0 m s1 hC f (fun hC => ?_)
    exact k _ D ts ets (hC.add (i := imT K ts) (tsok_unl f hP))
end
end Ph
namespace Ph
open PySem PySem.Spec PyProof PyProof.Rows L2
open PySem.W (KeqHitsP samePairsP)
section
variable {prog : Program} {w : World} {K : Type} [DecidableEq K] {knd : KeyKind prog w K} {A : Around} {s : Shared}
theorem rcNe_dicts {a b : Addr} {ka kb : List (K × Value)} {r : Bool} (ha : (a == sysModules) = false) (hb : (b == sysModules) = false)
    (da : s.heap.DictOf knd a ka) (db : s.heap.DictOf knd b kb) (hu : A.units < cLine) (hits : ka.length = kb.length → KeqHitsP prog w A.in1 s kb ka r) (E Q : Value → Shared → Prop) (h : Q (.bool (!(ka.length == kb.length && r))) s) : wpAny (model prog w) A (richCompare .NotEq (.ref a) (.ref b)) Q E s := by
  refine wpAny_richCompare_same_room (op := .NotEq) da.typeIs db.typeIs PySem.F.slot_dict_ne (wpAny_call_entry PySem.F.slot_dict_ne da.typeIs PySem.F.entry_dict_ne ?_ (PySem.F.args_dict_ne_2 _ _)) hu
  show wpAny _ _ (Builtin.Dict.dictSlotArgs "__ne__" ⟨[.ref a, .ref b], []⟩ >>= _) _ _ s
  refine wpAny_bind ?_
  unfold Builtin.Dict.dictSlotArgs
  refine wpAny_bind (PySem.wpAny_notOrdered_dict da.typeIs ?_)
  show wpAny _ _ (pure (Value.ref a, Value.ref b)) _ _ s
  refine wpAny_pure ?_
  refine wpAny_bind (wpAny_isInstance (T := "dict") db.typeIs PySem.F.sub_dict_dict ?_)
  simp only [Bool.not_true, Bool.false_eq_true, if_false]
  refine wpAny_bind (wpAny_pure (wpAny_bind (wpAny_pure ?_)))
  refine wpAny_bind (samePairsP ha hb da db hits ?_)
  refine wpAny_pure ⟨_, rfl, ?_, ?_⟩
  · exact fun x => nomatch x
  · simpa using h
end
def rNeDk : R2 := fun x y H Q => ∃ a b ks ls, x = .ref a ∧ y = .ref b ∧ H a = some (.dK ks) ∧ H b = some (.dK ls) ∧ ks.length = ls.length ∧ (∀ p, p ∈ ks → valV ls p.1 = some p.2 ∧ flatB p.2 = true) ∧ Q (.bl false) H
def rNeW (K : PySem.W.Frag) : R2 := fun x y H Q => rNeY K x y H Q ∨ rNeDk x y H Q
section
variable {X : Cx}
theorem op_neDk (hu : X.A.units + 64 < cLine) : OpR X (compareOp .NotEq) rNeDk := by
  intro pins s σ H x y v u Q I rx ry h
  obtain ⟨a, b, ks, ls, rfl, rfl, ha, hb, hl, hp, q⟩ := h
  obtain rfl : v = Value.ref a := rx
  obtain rfl : u = Value.ref b := ry
  obtain ⟨_, ya, va, ra, da⟩ := (show ObjOk X.prog X.w H s.heap a (.dK ks) from I.hok a _ ha)
  obtain ⟨_, yb, vb, rb, db⟩ := (show ObjOk X.prog X.w H s.heap b (.dK ls) from I.hok b _ hb)
  refine rcNe_dicts (knd := mixKind X.prog X.w) (r := true) ya yb da db (by omega) (fun _ => hits_run (F := fun x y => x = y ∧ flatB x = true) (fun x y v u z r1 r2 => ?_) rb ra (fun p hm => ⟨p.2, (hp p hm).1, rfl, (hp p hm).2⟩)) _ _ ?_
  · obtain ⟨rfl, f⟩ := z
    exact (eqAt_same r1 r2 f).eqP
  · have e : va.length = vb.length := by rw [← ra.length, ← rb.length]; exact hl
    rw [show (!(va.length == vb.length && true)) = false from by rw [e]; simp]
    exact ⟨.bl false, H, I, rfl, q⟩
theorem u_neW (hu : X.A.units + 64 < cLine) : OpR X (compareOp .NotEq) (rNeW X.K) := (u_neY hu).or (op_neDk hu)
end
section
variable {K : PySem.W.Frag} {H : Hp} {Q : VK} {a b : Addr} {x y : V}
theorem s_neWo (h : rNeU K x y H Q) : rNeW K x y H Q := .inl (.inl h)
/-- rows of texts -/
theorem s_neDk {l m : List (Str × V)} (ha : H a = some (.dK (mK id l))) (hb : H b = some (.dK (mK id m))) (hl : l.length = m.length) (hp : ∀ p, p ∈ l → look m p.1 = some p.2 ∧ flatB p.2 = true) (q : Q (.bl false) H) : rNeW K (.ref a) (.ref b) H Q :=
  .inr ⟨a, b, _, _, rfl, rfl, ha, hb, by unfold mK; rw [List.length_map, List.length_map]; exact hl, fun p h => by
    unfold mK at h
    obtain ⟨z, hz, rfl⟩ := List.mem_map.mp h
    exact ⟨by rw [valV_mK, (hp z hz).1]; rfl, (hp z hz).2⟩, q⟩
end
end Ph
namespace Ph
open PySem PySem.Spec PyProof.Rows L2
variable {K : PySem.W.Frag} {X : Cx} {H : Hp} {Q : VK}
def rMulW : R2 := fun x y H Q => rMulU x y H Q ∨ ∃ a : Str, x = .str a ∧ ((y = .int 0 ∧ Q (.str "") H) ∨ (y = .int 1 ∧ Q (.str a) H))
theorem u_mulW : OpR X (binaryOp .Mult) rMulW := by
  intro pins s σ H x y v u Q I rx ry h
  rcases h with h | ⟨i, rfl, ⟨rfl, q⟩ | ⟨rfl, q⟩⟩
  · exact u_mul pins s σ H x y v u Q I rx ry h
  · obtain ⟨t, rfl⟩ := rx
    obtain ⟨t2, rfl⟩ := ry
    exact PySem.P.mul_str_none (by decide) (by decide) ⟨.str _, H, I.tok _, ⟨_, rfl⟩, q⟩
  · obtain ⟨t, rfl⟩ := rx
    obtain ⟨t2, rfl⟩ := ry
    refine PySem.P.mul_str (by decide) (fun _ h => absurd h (by simp)) (fun _ h => absurd h (by simp)) ?_
    rw [if_neg (by decide), if_pos (by rfl)]
    exact ⟨.str _, H, I, ⟨_, rfl⟩, q⟩
theorem s_mulW {x : Str} {k : Int} (h0 : 0 ≤ k) (h1 : k ≤ 1000) (h3 : 1 ≤ x.length) (h4 : x.length ≤ 1000) (h : ∀ y : Str, y.cps.toList = (List.replicate k.toNat x.cps.toList).flatten → Q (.str y) H) : rMulW (.str x) (.int k) H Q := by
  by_cases c0 : k = 0
  · subst c0
    exact .inr ⟨x, rfl, .inl ⟨rfl, h _ rfl⟩⟩
  · by_cases c1 : k = 1
    · subst c1
      exact .inr ⟨x, rfl, .inr ⟨rfl, h _ (by simp)⟩⟩
    · exact .inl (s_mulS (by omega) h1 h3 h4 (h _ (repS_list x k.toNat)))
end Ph
namespace Ph
open PySem PySem.Spec PyProof.Rows L2
section
variable {K : PySem.W.Frag} {H B : Hp} {Q : VK} {d : Addr} {L L' : List (Addr × HO)} {I : List Im}
theorem s_ixSc {z : Str} {i : Int} {c : Nat} (hz : z.length ≤ 100000) (e : atI z.cps.toList i = some c) (q : Q (.str ⟨#[c]⟩) H) : rIxU K (.str z) (.int i) H Q := .inr (.inr (.inl ⟨z, i, c, rfl, rfl, by rw [sizeLine_eq]; omega, e, q⟩))
theorem s_lenKm {α : Type} {f : α → V} {l : List (Str × α)} (m : H d = some (.dK (mK f l))) (q : Q (.int l.length) H) : rLenU K [.ref d] H Q := s_lenD m (by unfold mK; rw [List.length_map]; exact q)
theorem s_lenKi {l : List (Str × V)} (m : H d = some (.dK (mK id l))) (q : Q (.int l.length) H) : rLenU K [.ref d] H Q := s_lenKm m q
end
end Ph
namespace Ph
open PySem PySem.Spec PyProof.Rows L2
abbrev rPart1 : V → List V → Hp → VK → Prop := fun x xs H Q => ∃ a b, x = .str a ∧ xs = [.str b] ∧ (b.length == 0) = false ∧ a.length ≤ sizeLine ∧
      ∀ p, H p = none → Q (.ref p) (upd H p (.tup [.str (Txt.partition a b).1, .str (Txt.partition a b).2.1, .str (Txt.partition a b).2.2]))
abbrev rStW : V → List V → Hp → VK → Prop := fun x xs H Q => ∃ a b, x = .str a ∧ xs = [.str b] ∧ Q (.bl (Txt.startswith a b)) H
abbrev rEnW : V → List V → Hp → VK → Prop := fun x xs H Q => ∃ a b, x = .str a ∧ xs = [.str b] ∧ Q (.bl (Txt.endswith a b)) H
abbrev rJoin1 (K : PySem.W.Frag) : V → List V → Hp → VK → Prop := fun x xs H Q => ∃ a p, ∃ ys : List Str, x = .str a ∧ xs = [.ref p] ∧ (SqL K H p (ys.map V.str) ∨ SqT K H p (ys.map V.str)) ∧
      (ys.map (·.length)).sum + ys.length * a.length ≤ 16777216 ∧ Q (.str (Txt.join a ys)) H
abbrev tJoined (ts : List TE) : TE := fun σ H Q => tJs ts Str.empty σ H fun out H1 => Q (.str out) H1
section
variable {K : PySem.W.Frag} {B H : Hp} {L L' : List (Addr × HO)} {I : List Im} {Q : VK} {σ : L2.St}
theorem s_part {a b : Str} (hC : Ctx K B H L I) (hb : (b.length == 0) = false) (hz : a.length ≤ 100000) (k : ∀ p H1, Ctx K B H1 L (.tup p [.str (Txt.partition a b).1, .str (Txt.partition a b).2.1, .str (Txt.partition a b).2.2] :: I) → Q (.ref p) H1) : rPart1 (.str a) [.str b] H Q :=
  ⟨a, b, rfl, rfl, hb, by rw [sizeLine_eq]; omega, fun p hp => k p _ (hC.newT hp)⟩
theorem s_stW {a b : Str} (q : Q (.bl (Txt.startswith a b)) H) : rStW (.str a) [.str b] H Q := ⟨a, b, rfl, rfl, q⟩
theorem s_enW {a b : Str} (q : Q (.bl (Txt.endswith a b)) H) : rEnW (.str a) [.str b] H Q := ⟨a, b, rfl, rfl, q⟩
theorem s_join {a : Str} {p : Addr} {ys : List Str} (m : H p = some (.lst (ys.map V.str))) (hz : (ys.map (·.length)).sum + ys.length * a.length ≤ 16777216) (q : Q (.str (Txt.join a ys)) H) : rJoin1 K (.str a) [.ref p] H Q :=
  ⟨a, p, ys, rfl, rfl, .inl (SqL.of m), hz, q⟩
end
end Ph
namespace Ph
open PySem PySem.Spec PyProof PyProof.Rows L2
def relabelS (scope sc : Scope) : Scope :=
  { scope with names := scope.names.map fun (n, k) => if (k == NameKind.free && sc.kind == .function && sc.names.lookup n == some .cell) then (n, NameKind.cell) else (n, k) }
theorem blkOk_in {X : Cx} {s : Shared} {H : Hp} {sc1 scope dsc : Scope} {cl : List (Str × Addr)} {C : Addr} {fp : List Addr} {N : List Str} {own : List (Str × Nat)} (hN : X.N = N) (hs : X.env.scope = dsc) (h : blkC N (relabelS sc1 dsc) scope own = true) :
    BlkOk (X.blk s H sc1 (compEnvC sc1 cl C X.env) fp).N (X.blk s H sc1 (compEnvC sc1 cl C X.env) fp).env.scope scope own := by
  subst hN
  subst hs
  exact blkOk_by (sc := relabelS sc1 X.env.scope) h
end Ph
namespace Wk
open PySem PySem.Spec PyProof.Rows L2 Ph
def top (i : Nat) : Stmt := PySem.Challenge.pw_phonestack_k11_settings_and_people.main.body.getD i (.Pass ⟨0, 0, 0, 0⟩)
abbrev s_People__init : Stmt := inClass (top 11) 0
abbrev N_People__init : List Str := ["self", "owner"]
theorem sc_People__init : FnScope N_People__init ["self", "owner"] (defScope s_People__init) := ⟨rfl, rfl, rfl, by decide +kernel, rfl, by decide +kernel, by decide +kernel⟩
abbrev s_People_need_owner : Stmt := inClass (top 11) 1
abbrev N_People_need_owner : List Str := ["self"]
theorem sc_People_need_owner : FnScope N_People_need_owner ["self"] (defScope s_People_need_owner) := ⟨rfl, rfl, rfl, by decide +kernel, rfl, by decide +kernel, by decide +kernel⟩
abbrev s_People_add : Stmt := inClass (top 11) 2
abbrev N_People_add : List Str := ["self", "name"]
theorem sc_People_add : FnScope N_People_add ["self", "name"] (defScope s_People_add) := ⟨rfl, rfl, rfl, by decide +kernel, rfl, by decide +kernel, by decide +kernel⟩
abbrev s_People_remove : Stmt := inClass (top 11) 3
abbrev N_People_remove : List Str := ["self", "name", "gone", "app"]
theorem sc_People_remove : FnScope N_People_remove ["self", "name"] (defScope s_People_remove) := ⟨rfl, rfl, rfl, by decide +kernel, rfl, by decide +kernel, by decide +kernel⟩
abbrev s_People_set_code : Stmt := inClass (top 11) 4
abbrev N_People_set_code : List Str := ["self", "code", "sign"]
theorem sc_People_set_code : FnScope N_People_set_code ["self", "code"] (defScope s_People_set_code) := ⟨rfl, rfl, rfl, by decide +kernel, rfl, by decide +kernel, by decide +kernel⟩
abbrev s_People_leave : Stmt := inClass (top 11) 5
abbrev N_People_leave : List Str := ["self"]
theorem sc_People_leave : FnScope N_People_leave ["self"] (defScope s_People_leave) := ⟨rfl, rfl, rfl, by decide +kernel, rfl, by decide +kernel, by decide +kernel⟩
abbrev s_People_enter : Stmt := inClass (top 11) 6
abbrev N_People_enter : List Str := ["self", "name", "code", "time", "wait", "step"]
theorem sc_People_enter : FnScope N_People_enter ["self", "name", "code", "time"] (defScope s_People_enter) := ⟨rfl, rfl, rfl, by decide +kernel, rfl, by decide +kernel, by decide +kernel⟩
abbrev s_People_give : Stmt := inClass (top 11) 7
abbrev N_People_give : List Str := ["self", "app"]
theorem sc_People_give : FnScope N_People_give ["self", "app"] (defScope s_People_give) := ⟨rfl, rfl, rfl, by decide +kernel, rfl, by decide +kernel, by decide +kernel⟩
abbrev s_People_take : Stmt := inClass (top 11) 8
abbrev N_People_take : List Str := ["self", "app"]
theorem sc_People_take : FnScope N_People_take ["self", "app"] (defScope s_People_take) := ⟨rfl, rfl, rfl, by decide +kernel, rfl, by decide +kernel, by decide +kernel⟩
abbrev s_People_has_app : Stmt := inClass (top 11) 9
abbrev N_People_has_app : List Str := ["self", "app", "name"]
theorem sc_People_has_app : FnScope N_People_has_app ["self", "app"] (defScope s_People_has_app) := ⟨rfl, rfl, rfl, by decide +kernel, rfl, by decide +kernel, by decide +kernel⟩
abbrev s_People_sees : Stmt := inClass (top 11) 10
abbrev N_People_sees : List Str := ["self", "app"]
theorem sc_People_sees : FnScope N_People_sees ["self", "app"] (defScope s_People_sees) := ⟨rfl, rfl, rfl, by decide +kernel, rfl, by decide +kernel, by decide +kernel⟩
abbrev s_Kind__init : Stmt := inClass (top 19) 0
abbrev N_Kind__init : List Str := ["self", "default", "allowed"]
theorem sc_Kind__init : FnScope N_Kind__init ["self", "default", "allowed"] (defScope s_Kind__init) := ⟨rfl, rfl, rfl, by decide +kernel, rfl, by decide +kernel, by decide +kernel⟩
abbrev s_Kind_check : Stmt := inClass (top 19) 1
abbrev N_Kind_check : List Str := ["self", "value", "good", "one"]
theorem sc_Kind_check : FnScope N_Kind_check ["self", "value"] (defScope s_Kind_check) := ⟨rfl, rfl, rfl, by decide +kernel, rfl, by decide +kernel, by decide +kernel⟩
abbrev s_Settings__init : Stmt := inClass (top 21) 0
abbrev N_Settings__init : List Str := ["self"]
theorem sc_Settings__init : FnScope N_Settings__init ["self"] (defScope s_Settings__init) := ⟨rfl, rfl, rfl, by decide +kernel, rfl, by decide +kernel, by decide +kernel⟩
abbrev s_Settings_declare : Stmt := inClass (top 21) 1
abbrev N_Settings_declare : List Str := ["self", "name", "default", "allowed", "kind"]
theorem sc_Settings_declare : FnScope N_Settings_declare ["self", "name", "default", "allowed"] (defScope s_Settings_declare) := ⟨rfl, rfl, rfl, by decide +kernel, rfl, by decide +kernel, by decide +kernel⟩
abbrev s_Settings_kind_of : Stmt := inClass (top 21) 2
abbrev N_Settings_kind_of : List Str := ["self", "name"]
theorem sc_Settings_kind_of : FnScope N_Settings_kind_of ["self", "name"] (defScope s_Settings_kind_of) := ⟨rfl, rfl, rfl, by decide +kernel, rfl, by decide +kernel, by decide +kernel⟩
abbrev s_Settings_set_value : Stmt := inClass (top 21) 3
abbrev N_Settings_set_value : List Str := ["self", "name", "value", "person"]
theorem sc_Settings_set_value : FnScope N_Settings_set_value ["self", "name", "value", "person"] (defScope s_Settings_set_value) := ⟨rfl, rfl, rfl, by decide +kernel, rfl, by decide +kernel, by decide +kernel⟩
abbrev s_Settings_clear : Stmt := inClass (top 21) 4
abbrev N_Settings_clear : List Str := ["self", "name", "person"]
theorem sc_Settings_clear : FnScope N_Settings_clear ["self", "name", "person"] (defScope s_Settings_clear) := ⟨rfl, rfl, rfl, by decide +kernel, rfl, by decide +kernel, by decide +kernel⟩
abbrev s_Settings_rule : Stmt := inClass (top 21) 5
abbrev N_Settings_rule : List Str := ["self", "name", "value", "kind"]
theorem sc_Settings_rule : FnScope N_Settings_rule ["self", "name", "value"] (defScope s_Settings_rule) := ⟨rfl, rfl, rfl, by decide +kernel, rfl, by decide +kernel, by decide +kernel⟩
abbrev s_Settings_value : Stmt := inClass (top 21) 6
abbrev N_Settings_value : List Str := ["self", "name", "person", "kind"]
theorem sc_Settings_value : FnScope N_Settings_value ["self", "name", "person"] (defScope s_Settings_value) := ⟨rfl, rfl, rfl, by decide +kernel, rfl, by decide +kernel, by decide +kernel⟩
abbrev s_Settings_shown : Stmt := inClass (top 21) 7
abbrev N_Settings_shown : List Str := ["self", "name"]
theorem sc_Settings_shown : FnScope N_Settings_shown ["self"] (defScope s_Settings_shown) := ⟨rfl, rfl, rfl, by decide +kernel, rfl, by decide +kernel, by decide +kernel⟩
abbrev s_check_name : Stmt := top 7
abbrev N_check_name : List Str := ["name", "sign"]
theorem sc_check_name : FnScope N_check_name ["name"] (defScope s_check_name) := ⟨rfl, rfl, rfl, by decide +kernel, rfl, by decide +kernel, by decide +kernel⟩
abbrev s_check_key : Stmt := top 8
abbrev N_check_key : List Str := ["key", "sign"]
theorem sc_check_key : FnScope N_check_key ["key"] (defScope s_check_key) := ⟨rfl, rfl, rfl, by decide +kernel, rfl, by decide +kernel, by decide +kernel⟩
abbrev s_check_value : Stmt := top 17
abbrev N_check_value : List Str := ["value", "depth", "part", "sign"]
theorem sc_check_value : FnScope N_check_value ["value", "depth"] (defScope s_check_value) := ⟨rfl, rfl, rfl, by decide +kernel, rfl, by decide +kernel, by decide +kernel⟩
abbrev s_is_span : Stmt := top 20
abbrev N_is_span : List Str := ["allowed", "one", "plain"]
theorem sc_is_span : FnScope N_is_span ["allowed"] (defScope s_is_span) := ⟨rfl, rfl, rfl, by decide +kernel, rfl, by decide +kernel, by decide +kernel⟩
abbrev s_law_dice : Stmt := top 23
abbrev N_law_dice : List Str := ["cell"]
theorem sc_law_dice : FnScope N_law_dice ["cell"] (defScope s_law_dice) := ⟨rfl, rfl, rfl, by decide +kernel, rfl, by decide +kernel, by decide +kernel⟩
abbrev s_law_roll : Stmt := top 24
abbrev N_law_roll : List Str := ["dice", "many", "found"]
theorem sc_law_roll : FnScope N_law_roll ["dice", "many"] (defScope s_law_roll) := ⟨rfl, rfl, rfl, by decide +kernel, rfl, by decide +kernel, by decide +kernel⟩
abbrev s_law_rounds : Stmt := top 25
abbrev N_law_rounds : List Str := ["script", "most", "cells", "cell"]
theorem sc_law_rounds : FnScope N_law_rounds ["script", "most"] (defScope s_law_rounds) := ⟨rfl, rfl, rfl, by decide +kernel, rfl, by decide +kernel, by decide +kernel⟩
abbrev s_law_told : Stmt := top 26
abbrev N_law_told : List Str := ["what"]
theorem sc_law_told : FnScope N_law_told ["what"] (defScope s_law_told) := ⟨rfl, rfl, rfl, by decide +kernel, rfl, by decide +kernel, by decide +kernel⟩
abbrev s_law_allowed : Stmt := top 27
abbrev N_law_allowed : List Str := ["allowed", "value"]
theorem sc_law_allowed : FnScope N_law_allowed ["allowed", "value"] (defScope s_law_allowed) := ⟨rfl, rfl, rfl, by decide +kernel, rfl, by decide +kernel, by decide +kernel⟩
abbrev s_law_settings : Stmt := top 28
abbrev N_law_settings : List Str := ["dice", "settings", "kinds", "device", "own", "rules", "name", "step", "sort", "value", "person", "good", "one", "who", "due", "found", "row", "bad"]
theorem sc_law_settings : FnScope N_law_settings ["dice"] (defScope s_law_settings) := ⟨rfl, rfl, rfl, by decide +kernel, rfl, by decide +kernel, by decide +kernel⟩
abbrev s_law : Stmt := top 29
abbrev N_law : List Str := ["script", "dice", "people", "codes", "apps", "here", "failed", "until", "time", "step", "sort", "name", "code", "app", "one", "locked", "good", "told_now", "other", "gone", "rows", "wrong", "row"]
theorem sc_law : FnScope N_law ["script"] (defScope s_law) := ⟨rfl, rfl, rfl, by decide +kernel, rfl, by decide +kernel, by decide +kernel⟩
structure Adr where
  c_People : Addr
  c_Kind : Addr
  c_Settings : Addr
  c_NameFault : Addr
  c_RightFault : Addr
  f_People__init : Addr
  fd_People__init : FuncData
  f_People_need_owner : Addr
  fd_People_need_owner : FuncData
  f_People_add : Addr
  fd_People_add : FuncData
  f_People_remove : Addr
  fd_People_remove : FuncData
  f_People_set_code : Addr
  fd_People_set_code : FuncData
  f_People_leave : Addr
  fd_People_leave : FuncData
  f_People_enter : Addr
  fd_People_enter : FuncData
  f_People_give : Addr
  fd_People_give : FuncData
  f_People_take : Addr
  fd_People_take : FuncData
  f_People_has_app : Addr
  fd_People_has_app : FuncData
  f_People_sees : Addr
  fd_People_sees : FuncData
  f_Kind__init : Addr
  fd_Kind__init : FuncData
  f_Kind_check : Addr
  fd_Kind_check : FuncData
  f_Settings__init : Addr
  fd_Settings__init : FuncData
  f_Settings_declare : Addr
  fd_Settings_declare : FuncData
  f_Settings_kind_of : Addr
  fd_Settings_kind_of : FuncData
  f_Settings_set_value : Addr
  fd_Settings_set_value : FuncData
  f_Settings_clear : Addr
  fd_Settings_clear : FuncData
  f_Settings_rule : Addr
  fd_Settings_rule : FuncData
  f_Settings_value : Addr
  fd_Settings_value : FuncData
  f_Settings_shown : Addr
  fd_Settings_shown : FuncData
  f_check_name : Addr
  fd_check_name : FuncData
  f_check_key : Addr
  fd_check_key : FuncData
  f_check_value : Addr
  fd_check_value : FuncData
  f_is_span : Addr
  fd_is_span : FuncData
  f_law_dice : Addr
  fd_law_dice : FuncData
  f_law_roll : Addr
  fd_law_roll : FuncData
  f_law_rounds : Addr
  fd_law_rounds : FuncData
  f_law_told : Addr
  fd_law_told : FuncData
  f_law_allowed : Addr
  fd_law_allowed : FuncData
  f_law_settings : Addr
  fd_law_settings : FuncData
  f_law : Addr
  fd_law : FuncData
  cc_People_remove : Addr
  tb_People_remove : Addr
  cc_People_set_code : Addr
  tb_People_set_code : Addr
  cc_People_has_app : Addr
  tb_People_has_app : Addr
  cc_Kind_check : Addr
  tb_Kind_check : Addr
  cc_Settings_shown : Addr
  tb_Settings_shown : Addr
  cc_check_name : Addr
  tb_check_name : Addr
  cc_check_key : Addr
  tb_check_key : Addr
  cc_check_value : Addr
  tb_check_value : Addr
  cc_is_span : Addr
  tb_is_span : Addr
  cc_law_settings : Addr
  tb_law_settings : Addr
  cc_law : Addr
  tb_law : Addr
structure Txt (K : PySem.W.Frag) (mg : Str → Option Value) (a : Adr) : Prop where
  cl_People : Cls K a.c_People
  na_People_owner : NoAttr K a.c_People "owner"
  na_People_codes : NoAttr K a.c_People "codes"
  na_People_apps : NoAttr K a.c_People "apps"
  na_People_here : NoAttr K a.c_People "here"
  na_People_failed : NoAttr K a.c_People "failed"
  na_People_locked_until : NoAttr K a.c_People "locked_until"
  mgc_People : mg "People" = some (.ref a.c_People)
  mk_People : Mk K a.c_People a.f_People__init
  cl_Kind : Cls K a.c_Kind
  na_Kind_default : NoAttr K a.c_Kind "default"
  na_Kind_allowed : NoAttr K a.c_Kind "allowed"
  mgc_Kind : mg "Kind" = some (.ref a.c_Kind)
  mk_Kind : Mk K a.c_Kind a.f_Kind__init
  cl_Settings : Cls K a.c_Settings
  na_Settings_kinds : NoAttr K a.c_Settings "kinds"
  na_Settings_rows : NoAttr K a.c_Settings "rows"
  na_Settings_own : NoAttr K a.c_Settings "own"
  na_Settings_rules : NoAttr K a.c_Settings "rules"
  mgc_Settings : mg "Settings" = some (.ref a.c_Settings)
  mk_Settings : Mk K a.c_Settings a.f_Settings__init
  fn_People__init : FunD K "__init__" "People.__init__" (defArgs s_People__init) (defBody s_People__init) (defScope s_People__init) [] [] a.f_People__init a.fd_People__init
  bi_People__init : Binds K a.fd_People__init ["self", "owner"] []
  me_People_need_owner : Meth K a.c_People "need_owner" a.f_People_need_owner
  fn_People_need_owner : FunD K "need_owner" "People.need_owner" (defArgs s_People_need_owner) (defBody s_People_need_owner) (defScope s_People_need_owner) [] [] a.f_People_need_owner a.fd_People_need_owner
  bi_People_need_owner : Binds K a.fd_People_need_owner ["self"] []
  me_People_add : Meth K a.c_People "add" a.f_People_add
  fn_People_add : FunD K "add" "People.add" (defArgs s_People_add) (defBody s_People_add) (defScope s_People_add) [] [] a.f_People_add a.fd_People_add
  bi_People_add : Binds K a.fd_People_add ["self", "name"] []
  me_People_remove : Meth K a.c_People "remove" a.f_People_remove
  fn_People_remove : FunD K "remove" "People.remove" (defArgs s_People_remove) (defBody s_People_remove) (defScope s_People_remove) [] [] a.f_People_remove a.fd_People_remove
  bi_People_remove : Binds K a.fd_People_remove ["self", "name"] []
  me_People_set_code : Meth K a.c_People "set_code" a.f_People_set_code
  fn_People_set_code : FunD K "set_code" "People.set_code" (defArgs s_People_set_code) (defBody s_People_set_code) (defScope s_People_set_code) [] [] a.f_People_set_code a.fd_People_set_code
  bi_People_set_code : Binds K a.fd_People_set_code ["self", "code"] []
  me_People_leave : Meth K a.c_People "leave" a.f_People_leave
  fn_People_leave : FunD K "leave" "People.leave" (defArgs s_People_leave) (defBody s_People_leave) (defScope s_People_leave) [] [] a.f_People_leave a.fd_People_leave
  bi_People_leave : Binds K a.fd_People_leave ["self"] []
  me_People_enter : Meth K a.c_People "enter" a.f_People_enter
  fn_People_enter : FunD K "enter" "People.enter" (defArgs s_People_enter) (defBody s_People_enter) (defScope s_People_enter) [] [] a.f_People_enter a.fd_People_enter
  bi_People_enter : Binds K a.fd_People_enter ["self", "name", "code", "time"] []
  me_People_give : Meth K a.c_People "give" a.f_People_give
  fn_People_give : FunD K "give" "People.give" (defArgs s_People_give) (defBody s_People_give) (defScope s_People_give) [] [] a.f_People_give a.fd_People_give
  bi_People_give : Binds K a.fd_People_give ["self", "app"] []
  me_People_take : Meth K a.c_People "take" a.f_People_take
  fn_People_take : FunD K "take" "People.take" (defArgs s_People_take) (defBody s_People_take) (defScope s_People_take) [] [] a.f_People_take a.fd_People_take
  bi_People_take : Binds K a.fd_People_take ["self", "app"] []
  me_People_has_app : Meth K a.c_People "has_app" a.f_People_has_app
  fn_People_has_app : FunD K "has_app" "People.has_app" (defArgs s_People_has_app) (defBody s_People_has_app) (defScope s_People_has_app) [] [] a.f_People_has_app a.fd_People_has_app
  bi_People_has_app : Binds K a.fd_People_has_app ["self", "app"] []
  me_People_sees : Meth K a.c_People "sees" a.f_People_sees
  fn_People_sees : FunD K "sees" "People.sees" (defArgs s_People_sees) (defBody s_People_sees) (defScope s_People_sees) [] [] a.f_People_sees a.fd_People_sees
  bi_People_sees : Binds K a.fd_People_sees ["self", "app"] []
  fn_Kind__init : FunD K "__init__" "Kind.__init__" (defArgs s_Kind__init) (defBody s_Kind__init) (defScope s_Kind__init) [] [] a.f_Kind__init a.fd_Kind__init
  bi_Kind__init : Binds K a.fd_Kind__init ["self", "default", "allowed"] []
  me_Kind_check : Meth K a.c_Kind "check" a.f_Kind_check
  fn_Kind_check : FunD K "check" "Kind.check" (defArgs s_Kind_check) (defBody s_Kind_check) (defScope s_Kind_check) [] [] a.f_Kind_check a.fd_Kind_check
  bi_Kind_check : Binds K a.fd_Kind_check ["self", "value"] []
  fn_Settings__init : FunD K "__init__" "Settings.__init__" (defArgs s_Settings__init) (defBody s_Settings__init) (defScope s_Settings__init) [] [] a.f_Settings__init a.fd_Settings__init
  bi_Settings__init : Binds K a.fd_Settings__init ["self"] []
  me_Settings_declare : Meth K a.c_Settings "declare" a.f_Settings_declare
  fn_Settings_declare : FunD K "declare" "Settings.declare" (defArgs s_Settings_declare) (defBody s_Settings_declare) (defScope s_Settings_declare) [.non] [] a.f_Settings_declare a.fd_Settings_declare
  bi_Settings_declare : Binds K a.fd_Settings_declare ["self", "name", "default", "allowed"] []
  me_Settings_kind_of : Meth K a.c_Settings "kind_of" a.f_Settings_kind_of
  fn_Settings_kind_of : FunD K "kind_of" "Settings.kind_of" (defArgs s_Settings_kind_of) (defBody s_Settings_kind_of) (defScope s_Settings_kind_of) [] [] a.f_Settings_kind_of a.fd_Settings_kind_of
  bi_Settings_kind_of : Binds K a.fd_Settings_kind_of ["self", "name"] []
  me_Settings_set_value : Meth K a.c_Settings "set_value" a.f_Settings_set_value
  fn_Settings_set_value : FunD K "set_value" "Settings.set_value" (defArgs s_Settings_set_value) (defBody s_Settings_set_value) (defScope s_Settings_set_value) [.non] [] a.f_Settings_set_value a.fd_Settings_set_value
  bi_Settings_set_value : Binds K a.fd_Settings_set_value ["self", "name", "value", "person"] []
  me_Settings_clear : Meth K a.c_Settings "clear" a.f_Settings_clear
  fn_Settings_clear : FunD K "clear" "Settings.clear" (defArgs s_Settings_clear) (defBody s_Settings_clear) (defScope s_Settings_clear) [.non] [] a.f_Settings_clear a.fd_Settings_clear
  bi_Settings_clear : Binds K a.fd_Settings_clear ["self", "name", "person"] []
  me_Settings_rule : Meth K a.c_Settings "rule" a.f_Settings_rule
  fn_Settings_rule : FunD K "rule" "Settings.rule" (defArgs s_Settings_rule) (defBody s_Settings_rule) (defScope s_Settings_rule) [] [] a.f_Settings_rule a.fd_Settings_rule
  bi_Settings_rule : Binds K a.fd_Settings_rule ["self", "name", "value"] []
  me_Settings_value : Meth K a.c_Settings "value" a.f_Settings_value
  fn_Settings_value : FunD K "value" "Settings.value" (defArgs s_Settings_value) (defBody s_Settings_value) (defScope s_Settings_value) [.non] [] a.f_Settings_value a.fd_Settings_value
  bi_Settings_value : Binds K a.fd_Settings_value ["self", "name", "person"] []
  bi_Settings_value_2 : ∃ ds, Vals [.non] ds ∧ Binds K a.fd_Settings_value ["self", "name", "person"] ds
  me_Settings_shown : Meth K a.c_Settings "shown" a.f_Settings_shown
  fn_Settings_shown : FunD K "shown" "Settings.shown" (defArgs s_Settings_shown) (defBody s_Settings_shown) (defScope s_Settings_shown) [] [] a.f_Settings_shown a.fd_Settings_shown
  bi_Settings_shown : Binds K a.fd_Settings_shown ["self"] []
  mg_check_name : mg "check_name" = some (.ref a.f_check_name)
  fn_check_name : FunD K "check_name" "check_name" (defArgs s_check_name) (defBody s_check_name) (defScope s_check_name) [] [] a.f_check_name a.fd_check_name
  bi_check_name : Binds K a.fd_check_name ["name"] []
  mg_check_key : mg "check_key" = some (.ref a.f_check_key)
  fn_check_key : FunD K "check_key" "check_key" (defArgs s_check_key) (defBody s_check_key) (defScope s_check_key) [] [] a.f_check_key a.fd_check_key
  bi_check_key : Binds K a.fd_check_key ["key"] []
  mg_check_value : mg "check_value" = some (.ref a.f_check_value)
  fn_check_value : FunD K "check_value" "check_value" (defArgs s_check_value) (defBody s_check_value) (defScope s_check_value) [(.int 0)] [] a.f_check_value a.fd_check_value
  bi_check_value : Binds K a.fd_check_value ["value", "depth"] []
  bi_check_value_1 : ∃ ds, Vals [(.int 0)] ds ∧ Binds K a.fd_check_value ["value", "depth"] ds
  mg_is_span : mg "is_span" = some (.ref a.f_is_span)
  fn_is_span : FunD K "is_span" "is_span" (defArgs s_is_span) (defBody s_is_span) (defScope s_is_span) [] [] a.f_is_span a.fd_is_span
  bi_is_span : Binds K a.fd_is_span ["allowed"] []
  mg_law_dice : mg "_law_dice" = some (.ref a.f_law_dice)
  fn_law_dice : FunD K "_law_dice" "_law_dice" (defArgs s_law_dice) (defBody s_law_dice) (defScope s_law_dice) [] [] a.f_law_dice a.fd_law_dice
  bi_law_dice : Binds K a.fd_law_dice ["cell"] []
  mg_law_roll : mg "_law_roll" = some (.ref a.f_law_roll)
  fn_law_roll : FunD K "_law_roll" "_law_roll" (defArgs s_law_roll) (defBody s_law_roll) (defScope s_law_roll) [] [] a.f_law_roll a.fd_law_roll
  bi_law_roll : Binds K a.fd_law_roll ["dice", "many"] []
  mg_law_rounds : mg "_law_rounds" = some (.ref a.f_law_rounds)
  fn_law_rounds : FunD K "_law_rounds" "_law_rounds" (defArgs s_law_rounds) (defBody s_law_rounds) (defScope s_law_rounds) [] [] a.f_law_rounds a.fd_law_rounds
  bi_law_rounds : Binds K a.fd_law_rounds ["script", "most"] []
  mg_law_told : mg "_law_told" = some (.ref a.f_law_told)
  fn_law_told : FunD K "_law_told" "_law_told" (defArgs s_law_told) (defBody s_law_told) (defScope s_law_told) [] [] a.f_law_told a.fd_law_told
  bi_law_told : Binds K a.fd_law_told ["what"] []
  mg_law_allowed : mg "_law_allowed" = some (.ref a.f_law_allowed)
  fn_law_allowed : FunD K "_law_allowed" "_law_allowed" (defArgs s_law_allowed) (defBody s_law_allowed) (defScope s_law_allowed) [] [] a.f_law_allowed a.fd_law_allowed
  bi_law_allowed : Binds K a.fd_law_allowed ["allowed", "value"] []
  mg_law_settings : mg "_law_settings" = some (.ref a.f_law_settings)
  fn_law_settings : FunD K "_law_settings" "_law_settings" (defArgs s_law_settings) (defBody s_law_settings) (defScope s_law_settings) [] [] a.f_law_settings a.fd_law_settings
  bi_law_settings : Binds K a.fd_law_settings ["dice"] []
  mg_law : mg "law" = some (.ref a.f_law)
  fn_law : FunD K "law" "law" (defArgs s_law) (defBody s_law) (defScope s_law) [] [] a.f_law a.fd_law
  bi_law : Binds K a.fd_law ["script"] []
  no_abs : mg "abs" = none
  no_all : mg "all" = none
  no_any : mg "any" = none
  no_bool : mg "bool" = none
  no_dict : mg "dict" = none
  no_int : mg "int" = none
  no_isinstance : mg "isinstance" = none
  no_len : mg "len" = none
  no_list : mg "list" = none
  no_min : mg "min" = none
  no_range : mg "range" = none
  no_sorted : mg "sorted" = none
  no_str : mg "str" = none
  no_tuple : mg "tuple" = none
  gl_KEY_LETTERS : ∃ t, mg "KEY_LETTERS" = some (.str "abcdefghijklmnopqrstuvwxyzABCDEFGHIJKLMNOPQRSTUVWXYZ0123456789._-/" t)
  gl_LETTERS : ∃ t, mg "LETTERS" = some (.str "\n !\"#$&'()*+,-./0123456789:;<=>?@ABCDEFGHIJKLMNOPQRSTUVWXYZ[\\]^_`abcdefghijklmnopqrstuvwxyz{|}~" t)
  gl_MOST_NUMBER : ∃ t, mg "MOST_NUMBER" = some (.int 1000000000000 t)
  gl_MOST_PEOPLE : ∃ t, mg "MOST_PEOPLE" = some (.int 4 t)
  gl_MOST_TEXT : ∃ t, mg "MOST_TEXT" = some (.int 200 t)
  gl_NAME_LETTERS : ∃ t, mg "NAME_LETTERS" = some (.str "abcdefghijklmnopqrstuvwxyz0123456789." t)
  en_RightFault_NameFault : PySem.W.exmOne K (.ref a.c_RightFault) (.ref a.c_NameFault) = some false
  mgc_NameFault : mg "NameFault" = some (.ref a.c_NameFault)
  xc_NameFault : PySem.W.excIn K a.c_NameFault [.type "ValueError", .type "Exception", .type "BaseException", .type "object"] "ValueError.__new__" = true
  kc_NameFault : PySem.W.keepIn K (.ref a.c_NameFault) = true
  bc_NameFault : PySem.W.subIn K (.ref a.c_NameFault) (.type "BaseException") = some true
  tc_NameFault : PySem.W.typeIn K (.ref a.c_NameFault) = some (.type "type")
  ec_NameFault : PySem.W.exmOne K (.ref a.c_NameFault) (.ref a.c_NameFault) = some true
  mgc_RightFault : mg "RightFault" = some (.ref a.c_RightFault)
  xc_RightFault : PySem.W.excIn K a.c_RightFault [.type "ValueError", .type "Exception", .type "BaseException", .type "object"] "ValueError.__new__" = true
  kc_RightFault : PySem.W.keepIn K (.ref a.c_RightFault) = true
  bc_RightFault : PySem.W.subIn K (.ref a.c_RightFault) (.type "BaseException") = some true
  tc_RightFault : PySem.W.typeIn K (.ref a.c_RightFault) = some (.type "type")
  ec_RightFault : PySem.W.exmOne K (.ref a.c_RightFault) (.ref a.c_RightFault) = some true
  cd_People_remove : a.fd_People_remove.code = .ref a.cc_People_remove
  cd_People_set_code : a.fd_People_set_code.code = .ref a.cc_People_set_code
  cd_People_has_app : a.fd_People_has_app.code = .ref a.cc_People_has_app
  cd_Kind_check : a.fd_Kind_check.code = .ref a.cc_Kind_check
  cd_Settings_shown : a.fd_Settings_shown.code = .ref a.cc_Settings_shown
  cd_check_name : a.fd_check_name.code = .ref a.cc_check_name
  cd_check_key : a.fd_check_key.code = .ref a.cc_check_key
  cd_check_value : a.fd_check_value.code = .ref a.cc_check_value
  cd_is_span : a.fd_is_span.code = .ref a.cc_is_span
  cd_law_settings : a.fd_law_settings.code = .ref a.cc_law_settings
  cd_law : a.fd_law.code = .ref a.cc_law
end Wk
namespace Wk
open PySem PySem.Spec PyProof.Rows L2 Ph
/-! ### values -/
def dV : V → PyData
  | .int i => .int i
  | .bl b => .bool b
  | .str x => .str x
  | _ => .none
def isB : V → Bool
  | .bl _ => true
  | _ => false
def eqPy (v o : V) : Bool := PyData.eqv (dV v) (dV o)
/-- values that are drawn, or that stand as defaults -/
inductive ValOk : V → Prop
  | non : ValOk .non
  | bl (b : Bool) : ValOk (.bl b)
  | int (i : Int) (h0 : 0 ≤ i) (h1 : i ≤ 100) : ValOk (.int i)
  | str (x : Str) (h : x.length ≤ 100) (h1 : PyData.strOk x = true) (h2 : (x.cps.toList.any fun c => !decide (c ∈ ("\n !\"#$&'()*+,-./0123456789:;<=>?@ABCDEFGHIJKLMNOPQRSTUVWXYZ[\\]^_`abcdefghijklmnopqrstuvwxyz{|}~" : Str).cps.toList)) = false) : ValOk (.str x)
def ALS : List (List V) := [[.int 0, .int 9], [.int 9, .int 0], [.bl true, .bl false], [.str "slow", .str "fast"], [.str "a", .str "b"]]
def spanB (xs : List V) : Bool := decide (xs = [.int 0, .int 9])
def inSpan : V → Bool
  | .int i => decide (0 ≤ i ∧ i ≤ 9)
  | _ => false
def shortS : V → Bool
  | .str x => decide (x.length ≤ 60)
  | _ => false
def goodV (al : Option (List V)) (v : V) : Bool := match al with
  | none => shortS v
  | some xs => if spanB xs = true then inSpan v else xs.any fun o => eqPy v o && (isB v == isB o)
def scaB : V → Bool
  | .non => true
  | .int _ => true
  | .bl _ => true
  | .str x => PyData.strOk x
  | _ => false
theorem sca_td {K : PySem.W.Frag} {H : Hp} {v : V} (h : scaB v = true) : TD K H v (dV v) := by
  cases v with
  | non => exact .non
  | int i => exact .int _
  | bl b => exact .bl _
  | str x => exact .str _
  | _ => cases h
theorem sca_sh {v : V} (h : scaB v = true) : SeqAt.shaped (dV v) = true := by
  cases v with
  | str x => show (PyData.canLay0 (.str x) && decide ((PyData.str x).depth ≤ 64)) = true; simp [PyData.canLay0, PyData.depth]; exact h
  | non => rfl
  | int i => simp [dV, SeqAt.shaped, PyData.canLay0, PyData.depth]
  | bl b => rfl
  | _ => cases h
theorem ValOk.sca {v : V} (h : ValOk v) : scaB v = true := by
  cases h with
  | str x h h1 h2 => exact h1
  | _ => rfl
/-! ### settings -/
structure KE where
  nm : Str
  df : V
  al : Option (Addr × List V)
  ad : Addr
  dx : Addr
def alV : Option (Addr × List V) → V
  | none => .non
  | some p => .ref p.1
def alX (o : Option (Addr × List V)) : Option (List V) := o.map (·.2)
def AlOk (K : PySem.W.Frag) (H : Hp) (o : Option (Addr × List V)) : Prop := ∀ p, o = some p → SqT K H p.1 p.2 ∧ p.2 ∈ ALS ∧ p.2 ≠ [.int 9, .int 0]
def kindsK (ks : List KE) : List (Str × V) := ks.map fun e => (e.nm, V.ref e.ad)
def kcell (a : Adr) (e : KE) : Addr × HO := (e.ad, .ins a.c_Kind e.dx [("default", e.df), ("allowed", alV e.al)])
def kcells (a : Adr) (ks : List KE) : List (Addr × HO) := ks.map (kcell a)
structure TK (qk qv qp qc : Array Value) : Prop where
  k : TriplesOk qk.toList
  v : TriplesOk qv.toList
  p : TriplesOk qp.toList
  c : TriplesOk qc.toList
abbrev KT (a : Adr) (qk qv qp qc : Array Value) (F : List (Addr × HO)) : List (Addr × HO) := (a.tb_check_key, .tbl qk) :: (a.tb_check_value, .tbl qv) :: (a.tb_is_span, .tbl qp) :: (a.tb_Kind_check, .tbl qc) :: F
abbrev SL (a : Adr) (so dx kd rd od ud : Addr) (ks : List KE) (rows : List (Str × V)) (own : List ((Str × Str) × V)) (rules : List (Str × V)) (F : List (Addr × HO)) : List (Addr × HO) :=
  (so, .ins a.c_Settings dx [("kinds", .ref kd), ("rows", .ref rd), ("own", .ref od), ("rules", .ref ud)]) :: (kd, .dK (mK id (kindsK ks))) :: (rd, .dK (mK id rows)) :: (od, .dT (mP id own)) :: (ud, .dK (mK id rules)) :: (kcells a ks ++ F)
/-- a fact of the kinds: their tuples -/
def KsOk (K : PySem.W.Frag) (H : Hp) (ks : List KE) : Prop := ∀ e, e ∈ ks → AlOk K H e.al
structure OkK (ks : List KE) : Prop where
  len : ks.length ≤ 10
  nd : (ks.map fun e => e.nm).Nodup
def NMS : List Str := ["volume", "dark", "name", "mode", "new"]
def delR {κ α : Type} [DecidableEq κ] (l : List (κ × α)) (x : κ) : List (κ × α) := l.filter fun p => decide (p.1 ≠ x)
/-! ### the promises: settings -/
def sp_check_key (K : PySem.W.Frag) (a : Adr) : Sp := fun vs H Q E => vs.length = 1 ∧ ∃ (k : Str) (q : Array Value) (F : List (Addr × HO)), vs = [.str k] ∧ Lay H ((a.tb_check_key, .tbl q) :: F) ∧ TriplesOk q.toList ∧ k ∈ NMS ∧
  ∀ H' q', Stb H H' → Lay H' ((a.tb_check_key, .tbl q') :: F) → TriplesOk q'.toList → Q .non H'
def sp_is_span (K : PySem.W.Frag) (a : Adr) : Sp := fun vs H Q E => vs.length = 1 ∧ ∃ (p : Addr) (xs : List V) (q : Array Value) (F : List (Addr × HO)), vs = [.ref p] ∧ SqT K H p xs ∧ xs ∈ ALS ∧ Lay H ((a.tb_is_span, .tbl q) :: F) ∧ TriplesOk q.toList ∧
  ∀ H' q', Stb H H' → Lay H' ((a.tb_is_span, .tbl q') :: F) → TriplesOk q'.toList → Q (.bl (spanB xs)) H'
def sp_check_value (K : PySem.W.Frag) (a : Adr) : Sp := fun vs H Q E => vs.length = 2 ∧ ∃ (v : V) (q : Array Value) (F : List (Addr × HO)), vs = [v, .int 0] ∧ ValOk v ∧ Lay H ((a.tb_check_value, .tbl q) :: F) ∧ TriplesOk q.toList ∧
  ∀ H' q', Stb H H' → Lay H' ((a.tb_check_value, .tbl q') :: F) → TriplesOk q'.toList → Q .non H'
def sp_Kind__init (K : PySem.W.Frag) (a : Adr) : Sp := fun vs H Q E => vs.length = 3 ∧ ∃ (x dx : Addr) (d al : V) (F : List (Addr × HO)), vs = [.ref x, d, al] ∧ Lay H ((x, .ins a.c_Kind dx []) :: F) ∧
  ∀ H', Stb H H' → Lay H' ((x, .ins a.c_Kind dx [("default", d), ("allowed", al)]) :: F) → Q .non H'
def sp_Kind_check (K : PySem.W.Frag) (a : Adr) : Sp := fun vs H Q E => vs.length = 2 ∧ ∃ (e : KE) (v : V) (qk qv qp qc : Array Value) (F : List (Addr × HO)), vs = [.ref e.ad, v] ∧ ValOk v ∧ AlOk K H e.al ∧ Lay H (KT a qk qv qp qc (kcell a e :: F)) ∧ TK qk qv qp qc ∧
  (goodV (alX e.al) v = true → ∀ H' qv qp qc, Stb H H' → Lay H' (KT a qk qv qp qc (kcell a e :: F)) → TK qk qv qp qc → Q .non H') ∧
  (goodV (alX e.al) v = false → ∀ H' qv qp qc, Stb H H' → Lay H' (KT a qk qv qp qc (kcell a e :: F)) → TK qk qv qp qc → E (.ref a.c_NameFault) none H')
def sp_Settings__init (K : PySem.W.Frag) (a : Adr) : Sp := fun vs H Q E => vs.length = 1 ∧ ∃ (x dx : Addr) (F : List (Addr × HO)), vs = [.ref x] ∧ Lay H ((x, .ins a.c_Settings dx []) :: F) ∧
  ∀ H' kd rd od ud, Stb H H' → Lay H' (SL a x dx kd rd od ud [] [] [] [] F) → Q .non H'
def sp_Settings_declare (K : PySem.W.Frag) (a : Adr) : Sp := fun vs H Q E => vs.length = 4 ∧ ∃ (so dx kd rd od ud : Addr) (nm : Str) (df : V) (al : Option (Addr × List V)) (ks : List KE) (rows rules : List (Str × V)) (own : List ((Str × Str) × V)) (qk qv qp qc : Array Value) (F : List (Addr × HO)),
  vs = [.ref so, .str nm, df, alV al] ∧ ValOk df ∧ AlOk K H al ∧ nm ∈ NMS ∧ OkK ks ∧ ks.length ≤ 9 ∧ Lay H (KT a qk qv qp qc (SL a so dx kd rd od ud ks rows own rules F)) ∧ TK qk qv qp qc ∧
  ((∀ e, e ∈ ks → e.nm ≠ nm) → goodV (alX al) df = true → ∀ H' ad d qk qv qp qc, Stb H H' → Lay H' (KT a qk qv qp qc (SL a so dx kd rd od ud (ks ++ [⟨nm, df, al, ad, d⟩]) rows own rules F)) → TK qk qv qp qc → Q .non H') ∧
  (¬ ((∀ e, e ∈ ks → e.nm ≠ nm) ∧ goodV (alX al) df = true) → ∀ H' qk qv qp qc, Stb H H' → Lay H' (KT a qk qv qp qc (SL a so dx kd rd od ud ks rows own rules F)) → TK qk qv qp qc → E (.ref a.c_NameFault) none H')
def sp_Settings_kind_of (K : PySem.W.Frag) (a : Adr) : Sp := fun vs H Q E => vs.length = 2 ∧ ∃ (so dx kd rd od ud : Addr) (nm : Str) (ks : List KE) (rows rules : List (Str × V)) (own : List ((Str × Str) × V)) (F : List (Addr × HO)), vs = [.ref so, .str nm] ∧ OkK ks ∧ Lay H (SL a so dx kd rd od ud ks rows own rules F) ∧
  (∀ e, e ∈ ks → e.nm = nm → Q (.ref e.ad) H) ∧ ((∀ e, e ∈ ks → e.nm ≠ nm) → ∀ H', Stb H H' → Lay H' (SL a so dx kd rd od ud ks rows own rules F) → E (.ref a.c_NameFault) none H')
/-- a person: None or a name -/
def pV : Option Str → V
  | none => .non
  | some s => .str s
def setB (ks : List KE) (rules : List (Str × V)) (nm : Str) (v : V) : Bool := (ks.any fun e => decide (e.nm = nm) && goodV (alX e.al) v) && (look rules nm).isNone
def rowsS (rows : List (Str × V)) (nm : Str) (v : V) (p : Option Str) : List (Str × V) := match p with
  | none => putR rows nm v
  | some _ => rows
def ownS (own : List ((Str × Str) × V)) (nm : Str) (v : V) (p : Option Str) : List ((Str × Str) × V) := match p with
  | none => own
  | some s => putR own (s, nm) v
def sp_Settings_set_value (K : PySem.W.Frag) (a : Adr) : Sp := fun vs H Q E => vs.length = 4 ∧ ∃ (so dx kd rd od ud : Addr) (nm : Str) (v : V) (p : Option Str) (ks : List KE) (rows rules : List (Str × V)) (own : List ((Str × Str) × V)) (qk qv qp qc : Array Value) (F : List (Addr × HO)),
  vs = [.ref so, .str nm, v, pV p] ∧ ValOk v ∧ KsOk K H ks ∧ OkK ks ∧ rows.length ≤ 1000 ∧ own.length ≤ 1000 ∧ Lay H (KT a qk qv qp qc (SL a so dx kd rd od ud ks rows own rules F)) ∧ TK qk qv qp qc ∧
  (setB ks rules nm v = true → ∀ H' qv qp qc, Stb H H' → Lay H' (KT a qk qv qp qc (SL a so dx kd rd od ud ks (rowsS rows nm v p) (ownS own nm v p) rules F)) → TK qk qv qp qc → Q .non H') ∧
  (setB ks rules nm v = false → ∀ H' qv qp qc, Stb H H' → Lay H' (KT a qk qv qp qc (SL a so dx kd rd od ud ks rows own rules F)) → TK qk qv qp qc → E (.ref a.c_NameFault) none H')
def rowsC (rows : List (Str × V)) (nm : Str) (p : Option Str) : List (Str × V) := match p with
  | none => delR rows nm
  | some _ => rows
def ownC (own : List ((Str × Str) × V)) (nm : Str) (p : Option Str) : List ((Str × Str) × V) := match p with
  | none => own
  | some s => delR own (s, nm)
def sp_Settings_clear (K : PySem.W.Frag) (a : Adr) : Sp := fun vs H Q E => vs.length = 3 ∧ ∃ (so dx kd rd od ud : Addr) (nm : Str) (p : Option Str) (ks : List KE) (rows rules : List (Str × V)) (own : List ((Str × Str) × V)) (F : List (Addr × HO)), vs = [.ref so, .str nm, pV p] ∧ OkK ks ∧ Lay H (SL a so dx kd rd od ud ks rows own rules F) ∧
  ((∃ e, e ∈ ks ∧ e.nm = nm) → ∀ H', Stb H H' → Lay H' (SL a so dx kd rd od ud ks (rowsC rows nm p) (ownC own nm p) rules F) → Q .non H') ∧
  ((∀ e, e ∈ ks → e.nm ≠ nm) → ∀ H', Stb H H' → Lay H' (SL a so dx kd rd od ud ks rows own rules F) → E (.ref a.c_NameFault) none H')
def ruleB (ks : List KE) (nm : Str) (v : V) : Bool := ks.any fun e => decide (e.nm = nm) && (decide (v = .non) || goodV (alX e.al) v)
def rulesS (rules : List (Str × V)) (nm : Str) (v : V) : List (Str × V) := if v = .non then delR rules nm else putR rules nm v
def sp_Settings_rule (K : PySem.W.Frag) (a : Adr) : Sp := fun vs H Q E => vs.length = 3 ∧ ∃ (so dx kd rd od ud : Addr) (nm : Str) (v : V) (ks : List KE) (rows rules : List (Str × V)) (own : List ((Str × Str) × V)) (qk qv qp qc : Array Value) (F : List (Addr × HO)),
  vs = [.ref so, .str nm, v] ∧ ValOk v ∧ KsOk K H ks ∧ OkK ks ∧ rules.length ≤ 1000 ∧ Lay H (KT a qk qv qp qc (SL a so dx kd rd od ud ks rows own rules F)) ∧ TK qk qv qp qc ∧
  (ruleB ks nm v = true → ∀ H' qv qp qc, Stb H H' → Lay H' (KT a qk qv qp qc (SL a so dx kd rd od ud ks rows own (rulesS rules nm v) F)) → TK qk qv qp qc → Q .non H') ∧
  (ruleB ks nm v = false → ∀ H' qv qp qc, Stb H H' → Lay H' (KT a qk qv qp qc (SL a so dx kd rd od ud ks rows own rules F)) → TK qk qv qp qc → E (.ref a.c_NameFault) none H')
def ownL (own : List ((Str × Str) × V)) (nm : Str) : Option Str → Option V
  | none => none
  | some s => look own (s, nm)
/-- what counts -/
def valE (e : KE) (rows : List (Str × V)) (own : List ((Str × Str) × V)) (rules : List (Str × V)) (p : Option Str) : V := (look rules e.nm).getD ((ownL own e.nm p).getD ((look rows e.nm).getD e.df))
def sp_Settings_value (K : PySem.W.Frag) (a : Adr) : Sp := fun vs H Q E => vs.length = 3 ∧ ∃ (so dx kd rd od ud : Addr) (nm : Str) (p : Option Str) (ks : List KE) (rows rules : List (Str × V)) (own : List ((Str × Str) × V)) (F : List (Addr × HO)), vs = [.ref so, .str nm, pV p] ∧ OkK ks ∧ Lay H (SL a so dx kd rd od ud ks rows own rules F) ∧
  (∀ e, e ∈ ks → e.nm = nm → ∀ H', Stb H H' → Lay H' (SL a so dx kd rd od ud ks rows own rules F) → Q (valE e rows own rules p) H') ∧ ((∀ e, e ∈ ks → e.nm ≠ nm) → ∀ H', Stb H H' → Lay H' (SL a so dx kd rd od ud ks rows own rules F) → E (.ref a.c_NameFault) none H')
def sp_Settings_shown (K : PySem.W.Frag) (a : Adr) : Sp := fun vs H Q E => vs.length = 1 ∧ ∃ (so dx kd rd od ud : Addr) (ks : List KE) (rows rules : List (Str × V)) (own : List ((Str × Str) × V)) (qs : Array Value) (F : List (Addr × HO)), vs = [.ref so] ∧ OkK ks ∧ Lay H ((a.tb_Settings_shown, .tbl qs) :: SL a so dx kd rd od ud ks rows own rules F) ∧ TriplesOk qs.toList ∧
  (∀ e, e ∈ ks → ValOk (valE e rows own rules none)) ∧ ∀ H' p vr qs', Stb H H' → Lay H' ((a.tb_Settings_shown, .tbl qs') :: SL a so dx kd rd od ud ks rows own rules F) → TriplesOk qs'.toList → SqT K H' p vr → TDs K H' vr ((srtT (ks.map fun e => e.nm)).map fun n => .tuple [.str n, (((ks.find? fun e => decide (e.nm = n)).map fun e => dV (valE e rows own rules none)).getD .none)]) → Q (.ref p) H'
def sp_law_dice (K : PySem.W.Frag) (a : Adr) : Sp := fun vs H Q E => vs.length = 1 ∧ ∃ (c : Int) (L : List (Addr × HO)), vs = [.int c] ∧ Lay H L ∧ ∀ p H' (i j k : Int), Stb H H' → Lay H' ((p, .lst [.int i, .int j, .int k]) :: L) → Q (.ref p) H'
def sp_law_roll (K : PySem.W.Frag) (a : Adr) : Sp := fun vs H Q E => vs.length = 2 ∧ ∃ (d : Addr) (m i j k : Int) (F : List (Addr × HO)), vs = [.ref d, .int m] ∧ Lay H ((d, .lst [.int i, .int j, .int k]) :: F) ∧ 0 < m ∧ m ≤ 100000000 ∧
  ∀ (r i' j' k' : Int) H', 0 ≤ r → r < m → Stb H H' → Lay H' ((d, .lst [.int i', .int j', .int k']) :: F) → Q (.int r) H'
def DL (ds : List (Addr × Int × Int × Int)) : List (Addr × HO) := ds.map fun d => (d.1, HO.lst [.int d.2.1, .int d.2.2.1, .int d.2.2.2])
def sp_law_rounds (K : PySem.W.Frag) (a : Adr) : Sp := fun vs H Q E => vs.length = 2 ∧ ∃ (s : Addr) (m : Int) (ns : List Int) (L : List (Addr × HO)), vs = [.ref s, .int m] ∧ SqL K H s (ns.map V.int) ∧ Lay H L ∧ 0 ≤ m ∧ m ≤ 1000 ∧
  ∀ p (ds : List (Addr × Int × Int × Int)) H', Stb H H' → Lay H' ((p, .lst (ds.map fun d => V.ref d.1)) :: (DL ds ++ L)) → Q (.ref p) H'
def sp_law_allowed (K : PySem.W.Frag) (a : Adr) : Sp := fun vs H Q E => vs.length = 2 ∧ ∃ (v : V) (al : Option (Addr × List V)) (L : List (Addr × HO)), vs = [alV al, v] ∧ ValOk v ∧ AlOk K H al ∧ Lay H L ∧ ∀ H', Stb H H' → Lay H' L → Q (.bl (goodV (alX al) v)) H'
def sp_law_settings (K : PySem.W.Frag) (a : Adr) : Sp := fun vs H Q E => vs.length = 1 ∧ ∃ (dd : Addr) (i j l : Int) (qsh tbS qk qv qp qc : Array Value) (F : List (Addr × HO)), vs = [.ref dd] ∧
  Lay H ((dd, .lst [.int i, .int j, .int l]) :: (a.tb_Settings_shown, .tbl qsh) :: (a.tb_law_settings, .tbl tbS) :: KT a qk qv qp qc F) ∧ TabOK (lamq "_law_settings") tbS H ∧ TriplesOk qsh.toList ∧ TK qk qv qp qc ∧
  ∀ H' (i j l : Int) qsh tbS qk qv qp qc, Stb H H' → Lay H' ((dd, .lst [.int i, .int j, .int l]) :: (a.tb_Settings_shown, .tbl qsh) :: (a.tb_law_settings, .tbl tbS) :: KT a qk qv qp qc F) → TabOK (lamq "_law_settings") tbS H' → TriplesOk qsh.toList → TK qk qv qp qc → Q (.bl true) H'
/-! ### people -/
def PNM : List Str := ["ann", "bob", "cy", "dan", "eve"]
def CDS : List V := [.non, .str "1234", .str "99999", .str "12", .str "12ab", .str "77777"]
abbrev Aps := List (Str × (Addr × List Str))
def appK (xs : List Str) : HO := .dK (mK V.bl (xs.map fun x => (x, true)))
def acells (aps : Aps) : List (Addr × HO) := aps.map fun e => (e.2.1, appK e.2.2)
abbrev PL (a : Adr) (po dx cd ad : Addr) (codes : List (Str × V)) (aps : Aps) (here : Option Str) (fl un : Int) (F : List (Addr × HO)) : List (Addr × HO) :=
  (po, .ins a.c_People dx [("owner", .str "ann"), ("codes", .ref cd), ("apps", .ref ad), ("here", pV here), ("failed", .int fl), ("locked_until", .int un)]) :: (cd, .dK (mK id codes)) :: (ad, .dK (mK (fun p : Addr × List Str => V.ref p.1) aps)) :: (acells aps ++ F)
structure POk (codes : List (Str × V)) (aps : Aps) (here : Option Str) : Prop where
  keys : codes.map (·.1) = aps.map (·.1)
  nd : (codes.map (·.1)).Nodup
  len : codes.length ≤ 4
  nms : ∀ p, p ∈ codes → p.1 ∈ PNM
  lst : ∀ e, e ∈ aps → e.2.2.Nodup ∧ ∀ x, x ∈ e.2.2 → x = "x" ∨ x = "y"
  here : ∀ s, here = some s → (look codes s).isSome = true
  cds : ∀ p, p ∈ codes → p.2 ∈ CDS
def hasB (aps : Aps) (x : Str) : Bool := aps.any fun e => decide (x ∈ e.2.2)
def addB (codes : List (Str × V)) (here : Option Str) (nm : Str) : Bool := decide (here = some ("ann" : Str)) && ((look codes nm).isNone && decide (codes.length < 4))
def remB (codes : List (Str × V)) (here : Option Str) (nm : Str) : Bool := decide (here = some ("ann" : Str)) && (decide (nm ≠ ("ann" : Str)) && (look codes nm).isSome)
def goneL (aps : Aps) (nm : Str) : List Str := match look aps nm with
  | none => []
  | some e => (srtT e.2).filter fun x => !hasB (delR aps nm) x
def codeB (here : Option Str) (c : V) : Bool := here.isSome && decide (c = .non ∨ c = .str "1234" ∨ c = .str "99999")
def setC (codes : List (Str × V)) (here : Option Str) (c : V) : List (Str × V) := match here with
  | none => codes
  | some s => putR codes s c
def entB (codes : List (Str × V)) (un : Int) (nm : Str) (c : V) (t : Int) : Bool := decide (un ≤ t) && (match look codes nm with | none => false | some w => decide (w = .non ∨ w = c))
def wroB (codes : List (Str × V)) (un : Int) (nm : Str) (c : V) (t : Int) : Bool := decide (un ≤ t) && (match look codes nm with | none => false | some w => !decide (w = .non ∨ w = c))
def waitI (f : Int) : Int := 30 * 2 ^ (min (f - 5) 6).toNat
def entF (codes : List (Str × V)) (fl un : Int) (nm : Str) (c : V) (t : Int) : Int := if wroB codes un nm c t = true then fl + 1 else fl
def entU (codes : List (Str × V)) (fl un : Int) (nm : Str) (c : V) (t : Int) : Int := if wroB codes un nm c t = true ∧ 5 ≤ fl + 1 then t + waitI (fl + 1) else un
def setA (aps : Aps) (here : Option Str) (f : List Str → List Str) : Aps := aps.map fun e => if some e.1 = here then (e.1, e.2.1, f e.2.2) else e
def giveL (x : Str) (xs : List Str) : List Str := if x ∈ xs then xs else xs ++ [x]
def takeL (x : Str) (xs : List Str) : List Str := xs.filter fun y => decide (y ≠ x)
def seesB (aps : Aps) (here : Option Str) (x : Str) : Bool := match here with
  | none => false
  | some s => match look aps s with
    | none => false
    | some e => decide (x ∈ e.2)
def sp_check_name (K : PySem.W.Frag) (a : Adr) : Sp := fun vs H Q E => vs.length = 1 ∧ ∃ (nm : Str) (q : Array Value) (F : List (Addr × HO)), vs = [.str nm] ∧ Lay H ((a.tb_check_name, .tbl q) :: F) ∧ TriplesOk q.toList ∧ (nm ∈ PNM ∨ nm = "A") ∧
  (nm ∈ PNM → ∀ H' q', Stb H H' → Lay H' ((a.tb_check_name, .tbl q') :: F) → TriplesOk q'.toList → Q .non H') ∧
  (nm = "A" → ∀ H' q', Stb H H' → Lay H' ((a.tb_check_name, .tbl q') :: F) → TriplesOk q'.toList → E (.ref a.c_NameFault) none H')
def sp_People__init (K : PySem.W.Frag) (a : Adr) : Sp := fun vs H Q E => vs.length = 2 ∧ ∃ (x dx : Addr) (nm : Str) (q : Array Value) (F : List (Addr × HO)), vs = [.ref x, .str nm] ∧ Lay H ((x, .ins a.c_People dx []) :: (a.tb_check_name, .tbl q) :: F) ∧ TriplesOk q.toList ∧ (nm = "ann" ∨ nm = "A") ∧
  (nm = "ann" → ∀ H' cd ad d1 q', Stb H H' → Lay H' (PL a x dx cd ad [("ann", .non)] [("ann", d1, [])] (some "ann") 0 0 ((a.tb_check_name, .tbl q') :: F)) → TriplesOk q'.toList → Q .non H') ∧
  (nm = "A" → ∀ H' q', Stb H H' → Lay H' ((a.tb_check_name, .tbl q') :: F) → TriplesOk q'.toList → E (.ref a.c_NameFault) none H')
def sp_People_need_owner (K : PySem.W.Frag) (a : Adr) : Sp := fun vs H Q E => vs.length = 1 ∧ ∃ (po dx cd ad : Addr) (codes : List (Str × V)) (aps : Aps) (here : Option Str) (fl un : Int) (F : List (Addr × HO)), vs = [.ref po] ∧ Lay H (PL a po dx cd ad codes aps here fl un F) ∧
  (here = some ("ann" : Str) → ∀ H', Stb H H' → Lay H' (PL a po dx cd ad codes aps here fl un F) → Q .non H') ∧
  (here ≠ some ("ann" : Str) → ∀ H', Stb H H' → Lay H' (PL a po dx cd ad codes aps here fl un F) → E (.ref a.c_RightFault) none H')
def sp_People_add (K : PySem.W.Frag) (a : Adr) : Sp := fun vs H Q E => vs.length = 2 ∧ ∃ (po dx cd ad : Addr) (codes : List (Str × V)) (aps : Aps) (here : Option Str) (fl un : Int) (nm : Str) (q : Array Value) (F : List (Addr × HO)), vs = [.ref po, .str nm] ∧ Lay H (PL a po dx cd ad codes aps here fl un ((a.tb_check_name, .tbl q) :: F)) ∧ TriplesOk q.toList ∧ nm ∈ PNM ∧ POk codes aps here ∧
  (addB codes here nm = true → ∀ H' d q', Stb H H' → Lay H' (PL a po dx cd ad (codes ++ [(nm, .non)]) (aps ++ [(nm, d, [])]) here fl un ((a.tb_check_name, .tbl q') :: F)) → TriplesOk q'.toList → Q .non H') ∧
  (addB codes here nm = false → ∀ H' q', Stb H H' → Lay H' (PL a po dx cd ad codes aps here fl un ((a.tb_check_name, .tbl q') :: F)) → TriplesOk q'.toList → E (.ref a.c_RightFault) none H')
def sp_People_remove (K : PySem.W.Frag) (a : Adr) : Sp := fun vs H Q E => vs.length = 2 ∧ ∃ (po dx cd ad : Addr) (codes : List (Str × V)) (aps : Aps) (here : Option Str) (fl un : Int) (nm : Str) (qr qh : Array Value) (F : List (Addr × HO)), vs = [.ref po, .str nm] ∧ Lay H (PL a po dx cd ad codes aps here fl un ((a.tb_People_remove, .tbl qr) :: (a.tb_People_has_app, .tbl qh) :: F)) ∧ TriplesOk qr.toList ∧ TriplesOk qh.toList ∧ POk codes aps here ∧
  (remB codes here nm = true → ∀ H' t qr' qh', Stb H H' → Lay H' (PL a po dx cd ad (delR codes nm) (delR aps nm) here fl un ((a.tb_People_remove, .tbl qr') :: (a.tb_People_has_app, .tbl qh') :: F)) → TriplesOk qr'.toList → TriplesOk qh'.toList → SqT K H' t ((goneL aps nm).map V.str) → Q (.ref t) H') ∧
  (remB codes here nm = false → ∀ H', Stb H H' → Lay H' (PL a po dx cd ad codes aps here fl un ((a.tb_People_remove, .tbl qr) :: (a.tb_People_has_app, .tbl qh) :: F)) → E (.ref a.c_RightFault) none H')
def sp_People_set_code (K : PySem.W.Frag) (a : Adr) : Sp := fun vs H Q E => vs.length = 2 ∧ ∃ (po dx cd ad : Addr) (codes : List (Str × V)) (aps : Aps) (here : Option Str) (fl un : Int) (c : V) (q : Array Value) (F : List (Addr × HO)), vs = [.ref po, c] ∧ Lay H (PL a po dx cd ad codes aps here fl un ((a.tb_People_set_code, .tbl q) :: F)) ∧ TriplesOk q.toList ∧ POk codes aps here ∧ c ∈ CDS ∧ c ≠ .str "77777" ∧
  (codeB here c = true → ∀ H' q', Stb H H' → Lay H' (PL a po dx cd ad (setC codes here c) aps here fl un ((a.tb_People_set_code, .tbl q') :: F)) → TriplesOk q'.toList → Q .non H') ∧
  (codeB here c = false → ∀ H' q', Stb H H' → Lay H' (PL a po dx cd ad codes aps here fl un ((a.tb_People_set_code, .tbl q') :: F)) → TriplesOk q'.toList → E (.ref a.c_RightFault) none H')
def sp_People_leave (K : PySem.W.Frag) (a : Adr) : Sp := fun vs H Q E => vs.length = 1 ∧ ∃ (po dx cd ad : Addr) (codes : List (Str × V)) (aps : Aps) (here : Option Str) (fl un : Int) (F : List (Addr × HO)), vs = [.ref po] ∧ Lay H (PL a po dx cd ad codes aps here fl un F) ∧
  ∀ H', Stb H H' → Lay H' (PL a po dx cd ad codes aps none fl un F) → Q .non H'
def sp_People_enter (K : PySem.W.Frag) (a : Adr) : Sp := fun vs H Q E => vs.length = 4 ∧ ∃ (po dx cd ad : Addr) (codes : List (Str × V)) (aps : Aps) (here : Option Str) (fl un : Int) (nm : Str) (c : V) (t : Int) (F : List (Addr × HO)), vs = [.ref po, .str nm, c, .int t] ∧ Lay H (PL a po dx cd ad codes aps here fl un F) ∧ POk codes aps here ∧ c ∈ CDS ∧ 0 ≤ fl ∧
  (entB codes un nm c t = true → ∀ H', Stb H H' → Lay H' (PL a po dx cd ad codes aps (some nm) 0 un F) → Q .non H') ∧
  (entB codes un nm c t = false → ∀ H', Stb H H' → Lay H' (PL a po dx cd ad codes aps here (entF codes fl un nm c t) (entU codes fl un nm c t) F) → E (.ref a.c_RightFault) none H')
def sp_People_give (K : PySem.W.Frag) (a : Adr) : Sp := fun vs H Q E => vs.length = 2 ∧ ∃ (po dx cd ad : Addr) (codes : List (Str × V)) (aps : Aps) (here : Option Str) (fl un : Int) (x : Str) (F : List (Addr × HO)), vs = [.ref po, .str x] ∧ Lay H (PL a po dx cd ad codes aps here fl un F) ∧ POk codes aps here ∧ (x = "x" ∨ x = "y") ∧
  (here.isSome = true → ∀ H', Stb H H' → Lay H' (PL a po dx cd ad codes (setA aps here (giveL x)) here fl un F) → Q .non H') ∧
  (here.isSome = false → ∀ H', Stb H H' → Lay H' (PL a po dx cd ad codes aps here fl un F) → E (.ref a.c_RightFault) none H')
def sp_People_take (K : PySem.W.Frag) (a : Adr) : Sp := fun vs H Q E => vs.length = 2 ∧ ∃ (po dx cd ad : Addr) (codes : List (Str × V)) (aps : Aps) (here : Option Str) (fl un : Int) (x : Str) (qh : Array Value) (F : List (Addr × HO)), vs = [.ref po, .str x] ∧ Lay H (PL a po dx cd ad codes aps here fl un ((a.tb_People_has_app, .tbl qh) :: F)) ∧ TriplesOk qh.toList ∧ POk codes aps here ∧ (x = "x" ∨ x = "y") ∧
  (seesB aps here x = true → ∀ H' qh', Stb H H' → Lay H' (PL a po dx cd ad codes (setA aps here (takeL x)) here fl un ((a.tb_People_has_app, .tbl qh') :: F)) → TriplesOk qh'.toList → Q (.bl (!hasB (setA aps here (takeL x)) x)) H') ∧
  (seesB aps here x = false → ∀ H', Stb H H' → Lay H' (PL a po dx cd ad codes aps here fl un ((a.tb_People_has_app, .tbl qh) :: F)) → E (.ref a.c_RightFault) none H')
def sp_People_has_app (K : PySem.W.Frag) (a : Adr) : Sp := fun vs H Q E => vs.length = 2 ∧ ∃ (po dx cd ad : Addr) (codes : List (Str × V)) (aps : Aps) (here : Option Str) (fl un : Int) (x : Str) (qh : Array Value) (F : List (Addr × HO)), vs = [.ref po, .str x] ∧ Lay H (PL a po dx cd ad codes aps here fl un ((a.tb_People_has_app, .tbl qh) :: F)) ∧ TriplesOk qh.toList ∧ (aps.map (·.1)).Nodup ∧ aps.length ≤ 4 ∧
  ∀ H' qh', Stb H H' → Lay H' (PL a po dx cd ad codes aps here fl un ((a.tb_People_has_app, .tbl qh') :: F)) → TriplesOk qh'.toList → Q (.bl (hasB aps x)) H'
def sp_People_sees (K : PySem.W.Frag) (a : Adr) : Sp := fun vs H Q E => vs.length = 2 ∧ ∃ (po dx cd ad : Addr) (codes : List (Str × V)) (aps : Aps) (here : Option Str) (fl un : Int) (x : Str) (F : List (Addr × HO)), vs = [.ref po, .str x] ∧ Lay H (PL a po dx cd ad codes aps here fl un F) ∧ POk codes aps here ∧
  ∀ H', Stb H H' → Lay H' (PL a po dx cd ad codes aps here fl un F) → Q (.bl (seesB aps here x)) H'
def sp_law_told (K : PySem.W.Frag) (a : Adr) : Sp := fun vs H Q E => vs.length = 1 ∧ False
def sp_law (K : PySem.W.Frag) (a : Adr) : Sp := fun vs H Q E => vs.length = 1 ∧ ∃ (s : Addr) (ns : List Int), vs = [.ref s] ∧ SqL K H s (ns.map V.int) ∧ Lay H [(a.tb_People_remove, .tbl #[]), (a.tb_People_set_code, .tbl #[]), (a.tb_People_has_app, .tbl #[]), (a.tb_Kind_check, .tbl #[]), (a.tb_Settings_shown, .tbl #[]), (a.tb_check_name, .tbl #[]), (a.tb_check_key, .tbl #[]), (a.tb_check_value, .tbl #[]), (a.tb_is_span, .tbl #[]), (a.tb_law_settings, .tbl #[]), (a.tb_law, .tbl #[])] ∧ ∀ H', Q (.bl true) H'
end Wk
namespace Wk
open PySem PySem.Spec PyProof.Rows L2 Ph
open LamX (TTold)
open GxR (tAnyS)
def t_People__init (K : PySem.W.Frag) (a : Adr) (E : XK) : TS :=
  (tSeq (tDrop (tCall (sp_check_name K a) [] E (tCons (tVar 1) tNil))) (tSeq (sFld K (tVar 0) (tVar 1) "owner") (tSeq (sFld K (tVar 0) (tDisp (((tVar 1), (tC .non)) :: [])) "codes") (tSeq (sFld K (tVar 0) (tDisp (((tVar 1), tDNewK) :: [])) "apps") (tSeq (sFld K (tVar 0) (tVar 1) "here") (tSeq (sFld K (tVar 0) (tC (.int 0)) "failed") (sFld K (tVar 0) (tC (.int 0)) "locked_until")))))))
def t_People_need_owner (K : PySem.W.Frag) (a : Adr) (E : XK) : TS :=
  (tIfS (tTest (tOp (rNeU K) (tFld K (tVar 0) "here") (tFld K (tVar 0) "owner"))) (tRaiseE a.c_RightFault E) tNext)
def t_People_add (K : PySem.W.Frag) (a : Adr) (E : XK) : TS :=
  (tSeq (tDrop (tMeth a.c_People "need_owner" (sp_People_need_owner K a) [] E (tVar 0) tNil)) (tSeq (tDrop (tCall (sp_check_name K a) [] E (tCons (tVar 1) tNil))) (tSeq (tIfS (tOr (tTest (tOp (rInV K) (tVar 1) (tFld K (tVar 0) "codes"))) (tTest (tOp rGe (tCB (rLenU K) (tCons (tFld K (tVar 0) "codes") tNil)) (tC (.int 4))))) (tRaiseE a.c_RightFault E) tNext) (tSeq (tAsg (tC .non) (gSub (tFld K (tVar 0) "codes") (tVar 1) rSetU)) (tAsg tDNewK (gSub (tFld K (tVar 0) "apps") (tVar 1) rSetU))))))
def t_People_remove_tail0 (K : PySem.W.Frag) (a : Adr) (E : XK) : TS :=
  (tSeq (tAsg (tDPop1 (tFld K (tVar 0) "apps") (tVar 1)) (gName 2)) (tSeq (sDDel (tFld K (tVar 0) "codes") (tVar 1)) (tRet (tTupX a.tb_People_remove (iList K (tCB (rSortU K) (tCons (tVar 2) tNil))) (gName 3) (tNot (tTruth K (tMeth a.c_People "has_app" (sp_People_has_app K a) [] E0 (tVar 0) (tCons (tVar 3) tNil)))) (tVar 3) [3]))))
def t_People_remove (K : PySem.W.Frag) (a : Adr) (E : XK) : TS :=
  (tSeq (tDrop (tMeth a.c_People "need_owner" (sp_People_need_owner K a) [] E (tVar 0) tNil)) (tSeq (tIfS (tOr (tTest (tOp (rEqU K) (tVar 1) (tFld K (tVar 0) "owner"))) (tTest (tOp (rNotInV K) (tVar 1) (tFld K (tVar 0) "codes")))) (tRaiseE a.c_RightFault E) tNext) (t_People_remove_tail0 K a E)))
def t_People_set_code_tail0 (K : PySem.W.Frag) (a : Adr) (E : XK) : TS :=
  (tSeq (tIfS (tAnd (tTest (tOp rNotN (tVar 1) (tC .non))) (tOr (tNot (tTest (tChain rLe rLe (tC (.int 4)) (tCB (rLenU K) (tCons (tVar 1) tNil)) (tC (.int 12))))) (tTruth K (tAnyS a.tb_People_set_code (fun c => !decide (c ∈ ("0123456789" : Str).cps.toList)) (tVar 1))))) (tRaiseE a.c_RightFault E) tNext) (tAsg (tVar 1) (gSub (tFld K (tVar 0) "codes") (tFld K (tVar 0) "here") rSetU)))
def t_People_set_code (K : PySem.W.Frag) (a : Adr) (E : XK) : TS :=
  (tSeq (tIfS (tTest (tOp rIsU (tFld K (tVar 0) "here") (tC .non))) (tRaiseE a.c_RightFault E) tNext) (t_People_set_code_tail0 K a E))
def t_People_leave (K : PySem.W.Frag) (a : Adr) (E : XK) : TS :=
  (sFld K (tVar 0) (tC .non) "here")
def t_People_enter_for0 (K : PySem.W.Frag) (a : Adr) (E : XK) : TS :=
  (tAug 4 (tC (.int 2)) rIMulU)
def t_People_enter_tail1 (K : PySem.W.Frag) (a : Adr) (E : XK) : TS :=
  (tSeq (tFor (iRng1 (tCons (tCB (rMin2) (tCons (tOp rSubU (tFld K (tVar 0) "failed") (tC (.int 5))) (tCons (tC (.int 6)) tNil))) tNil)) (gName 5) (t_People_enter_for0 K a E)) (sFld K (tVar 0) (tOp (rAddU K) (tVar 3) (tVar 4)) "locked_until"))
def t_People_enter_tail2 (K : PySem.W.Frag) (a : Adr) (E : XK) : TS :=
  (tSeq (tIfS (tTest (tOp rGe (tFld K (tVar 0) "failed") (tC (.int 5)))) (tSeq (tAsg (tC (.int 30)) (gName 4)) (t_People_enter_tail1 K a E)) tNext) (tRaiseE a.c_RightFault E))
def t_People_enter_if3 (K : PySem.W.Frag) (a : Adr) (E : XK) : TS :=
  (tSeq (sFldAug K (tVar 0) (tC (.int 1)) rIAddU "failed") (t_People_enter_tail2 K a E))
def t_People_enter_tail4 (K : PySem.W.Frag) (a : Adr) (E : XK) : TS :=
  (tSeq (sFld K (tVar 0) (tC (.int 0)) "failed") (sFld K (tVar 0) (tVar 1) "here"))
def t_People_enter_tail5 (K : PySem.W.Frag) (a : Adr) (E : XK) : TS :=
  (tSeq (tIfS (tAnd (tTest (tOp rNotN (tOp (rIxU K) (tFld K (tVar 0) "codes") (tVar 1)) (tC .non))) (tTest (tOp (rNeU K) (tOp (rIxU K) (tFld K (tVar 0) "codes") (tVar 1)) (tVar 2)))) (t_People_enter_if3 K a E) tNext) (t_People_enter_tail4 K a E))
def t_People_enter (K : PySem.W.Frag) (a : Adr) (E : XK) : TS :=
  (tSeq (tIfS (tOr (tTest (tOp rLt (tVar 3) (tFld K (tVar 0) "locked_until"))) (tTest (tOp (rNotInV K) (tVar 1) (tFld K (tVar 0) "codes")))) (tRaiseE a.c_RightFault E) tNext) (t_People_enter_tail5 K a E))
def t_People_give (K : PySem.W.Frag) (a : Adr) (E : XK) : TS :=
  (tSeq (tIfS (tTest (tOp rIsU (tFld K (tVar 0) "here") (tC .non))) (tRaiseE a.c_RightFault E) tNext) (tAsg (tC (.bl true)) (gSub (tOp (rIxU K) (tFld K (tVar 0) "apps") (tFld K (tVar 0) "here")) (tVar 1) rSetU)))
def t_People_take (K : PySem.W.Frag) (a : Adr) (E : XK) : TS :=
  (tSeq (tIfS (tOr (tTest (tOp rIsU (tFld K (tVar 0) "here") (tC .non))) (tTest (tOp (rNotInV K) (tVar 1) (tOp (rIxU K) (tFld K (tVar 0) "apps") (tFld K (tVar 0) "here"))))) (tRaiseE a.c_RightFault E) tNext) (tSeq (sDDel (tOp (rIxU K) (tFld K (tVar 0) "apps") (tFld K (tVar 0) "here")) (tVar 1)) (tRet (tNotV (tMeth a.c_People "has_app" (sp_People_has_app K a) [] E (tVar 0) (tCons (tVar 1) tNil))))))
def t_People_has_app (K : PySem.W.Frag) (a : Adr) (E : XK) : TS :=
  (tRet (tLockE (tAnyX true a.tb_People_has_app (iKeys (tFld K (tVar 0) "apps")) (gName 2) tYes (tOp (rInV K) (tVar 1) (tOp (rIxU K) (tFld K (tVar 0) "apps") (tVar 2))) [2])))
def t_People_sees (K : PySem.W.Frag) (a : Adr) (E : XK) : TS :=
  (tRet (tAndV (tOp rNotN (tFld K (tVar 0) "here") (tC .non)) (tOp (rInV K) (tVar 1) (tOp (rIxU K) (tFld K (tVar 0) "apps") (tFld K (tVar 0) "here")))))
def t_Kind__init (K : PySem.W.Frag) (a : Adr) (E : XK) : TS :=
  (tSeq (sFld K (tVar 0) (tVar 1) "default") (sFld K (tVar 0) (tVar 2) "allowed"))
def t_Kind_check_tail0 (K : PySem.W.Frag) (a : Adr) (E : XK) : TS :=
  (tSeq (tIfS (tNot (tTruth K (tVar 2))) (tRaiseE a.c_NameFault E) tNext) (tDrop (tCall (sp_check_value K a) [(.int 0)] E (tCons (tVar 1) tNil))))
def t_Kind_check (K : PySem.W.Frag) (a : Adr) (E : XK) : TS :=
  (tSeq (tIfS (tTest (tOp rIsU (tFld K (tVar 0) "allowed") (tC .non))) (tAsg (tAndV (tCB (rIsi K) (tCons (tVar 1) (tCons (tC (.ty "str")) tNil))) (tOp rLe (tCB (rLenU K) (tCons (tVar 1) tNil)) (tC (.int 60)))) (gName 2)) (tIfS (tTruth K (tCall (sp_is_span K a) [] E (tCons (tFld K (tVar 0) "allowed") tNil))) (tSeq (tAsg (tAndV (tCB (rIsi K) (tCons (tVar 1) (tCons (tC (.ty "int")) tNil))) (tNotV (tCB (rIsi K) (tCons (tVar 1) (tCons (tC (.ty "bool")) tNil))))) (gName 2)) (tAsg (tAndV (tVar 2) (tChain rLe rLe (tOp (rIxU K) (tFld K (tVar 0) "allowed") (tC (.int 0))) (tVar 1) (tOp (rIxU K) (tFld K (tVar 0) "allowed") (tC (.int 1))))) (gName 2))) (tAsg (tAnyX true a.tb_Kind_check (iTup K (tFld K (tVar 0) "allowed")) (gName 3) tYes (tAndV (tOp (rEqU K) (tVar 1) (tVar 3)) (tOp (rEqU K) (tCB (rIsi K) (tCons (tVar 1) (tCons (tC (.ty "bool")) tNil))) (tCB (rIsi K) (tCons (tVar 3) (tCons (tC (.ty "bool")) tNil))))) [3]) (gName 2)))) (t_Kind_check_tail0 K a E))
def t_Settings__init (K : PySem.W.Frag) (a : Adr) (E : XK) : TS :=
  (tSeq (sFld K (tVar 0) tDNewK "kinds") (tSeq (sFld K (tVar 0) tDNewK "rows") (tSeq (sFld K (tVar 0) tDNewT "own") (sFld K (tVar 0) tDNewK "rules"))))
def t_Settings_declare (K : PySem.W.Frag) (a : Adr) (E : XK) : TS :=
  (tSeq (tDrop (tCall (sp_check_key K a) [] E (tCons (tVar 1) tNil))) (tSeq (tIfS (tTest (tOp (rInV K) (tVar 1) (tFld K (tVar 0) "kinds"))) (tRaiseE a.c_NameFault E) tNext) (tSeq (tAsg (tMake a.c_Kind (sp_Kind__init K a) [] E (tCons (tVar 2) (tCons (tVar 3) tNil))) (gName 4)) (tSeq (tDrop (tMeth a.c_Kind "check" (sp_Kind_check K a) [] E (tVar 4) (tCons (tVar 2) tNil))) (tAsg (tVar 4) (gSub (tFld K (tVar 0) "kinds") (tVar 1) rSetU))))))
def t_Settings_kind_of (K : PySem.W.Frag) (a : Adr) (E : XK) : TS :=
  (tSeq (tIfS (tTest (tOp (rNotInV K) (tVar 1) (tFld K (tVar 0) "kinds"))) (tRaiseE a.c_NameFault E) tNext) (tRet (tOp (rIxU K) (tFld K (tVar 0) "kinds") (tVar 1))))
def t_Settings_set_value_tail0 (K : PySem.W.Frag) (a : Adr) (E : XK) : TS :=
  (tSeq (tIfS (tTest (tOp (rInV K) (tVar 1) (tFld K (tVar 0) "rules"))) (tRaiseE a.c_NameFault E) tNext) (tIfS (tTest (tOp rIsU (tVar 3) (tC .non))) (tAsg (tVar 2) (gSub (tFld K (tVar 0) "rows") (tVar 1) rSetU)) (tAsg (tVar 2) (gSub (tFld K (tVar 0) "own") (tTup (tCons (tVar 3) (tCons (tVar 1) tNil))) rSetU))))
def t_Settings_set_value (K : PySem.W.Frag) (a : Adr) (E : XK) : TS :=
  (tSeq (tDrop (tMeth a.c_Kind "check" (sp_Kind_check K a) [] E (tMeth a.c_Settings "kind_of" (sp_Settings_kind_of K a) [] E (tVar 0) (tCons (tVar 1) tNil)) (tCons (tVar 2) tNil))) (t_Settings_set_value_tail0 K a E))
def t_Settings_clear (K : PySem.W.Frag) (a : Adr) (E : XK) : TS :=
  (tSeq (tDrop (tMeth a.c_Settings "kind_of" (sp_Settings_kind_of K a) [] E (tVar 0) (tCons (tVar 1) tNil))) (tIfS (tTest (tOp rIsU (tVar 2) (tC .non))) (tDrop (tDPop2 (tFld K (tVar 0) "rows") (tVar 1) (tC .non))) (tDrop (tBM K "dict" DX.rPopT (tFld K (tVar 0) "own") (tCons (tTup (tCons (tVar 2) (tCons (tVar 1) tNil))) (tCons (tC .non) tNil))))))
def t_Settings_rule_tail0 (K : PySem.W.Frag) (a : Adr) (E : XK) : TS :=
  (tIfS (tTest (tOp rIsU (tVar 2) (tC .non))) (tDrop (tDPop2 (tFld K (tVar 0) "rules") (tVar 1) (tC .non))) (tSeq (tDrop (tMeth a.c_Kind "check" (sp_Kind_check K a) [] E (tVar 3) (tCons (tVar 2) tNil))) (tAsg (tVar 2) (gSub (tFld K (tVar 0) "rules") (tVar 1) rSetU))))
def t_Settings_rule (K : PySem.W.Frag) (a : Adr) (E : XK) : TS :=
  (tSeq (tAsg (tMeth a.c_Settings "kind_of" (sp_Settings_kind_of K a) [] E (tVar 0) (tCons (tVar 1) tNil)) (gName 3)) (t_Settings_rule_tail0 K a E))
def t_Settings_value_tail0 (K : PySem.W.Frag) (a : Adr) (E : XK) : TS :=
  (tSeq (tIfS (tAnd (tTest (tOp rNotN (tVar 2) (tC .non))) (tTest (tOp (rInV K) (tTup (tCons (tVar 2) (tCons (tVar 1) tNil))) (tFld K (tVar 0) "own")))) (tRet (tOp (rIxU K) (tFld K (tVar 0) "own") (tTup (tCons (tVar 2) (tCons (tVar 1) tNil))))) tNext) (tRet (tGet2 (tFld K (tVar 0) "rows") (tVar 1) (tFld K (tVar 3) "default"))))
def t_Settings_value_tail1 (K : PySem.W.Frag) (a : Adr) (E : XK) : TS :=
  (tSeq (tIfS (tTest (tOp (rInV K) (tVar 1) (tFld K (tVar 0) "rules"))) (tRet (tOp (rIxU K) (tFld K (tVar 0) "rules") (tVar 1))) tNext) (t_Settings_value_tail0 K a E))
def t_Settings_value (K : PySem.W.Frag) (a : Adr) (E : XK) : TS :=
  (tSeq (tAsg (tMeth a.c_Settings "kind_of" (sp_Settings_kind_of K a) [] E (tVar 0) (tCons (tVar 1) tNil)) (gName 3)) (t_Settings_value_tail1 K a E))
def t_Settings_shown (K : PySem.W.Frag) (a : Adr) (E : XK) : TS :=
  (tRet (tTupX a.tb_Settings_shown (iList K (tCB (rSortU K) (tCons (tFld K (tVar 0) "kinds") tNil))) (gName 1) tYes (tTup (tCons (tVar 1) (tCons (tMeth a.c_Settings "value" (sp_Settings_value K a) [.non] E0 (tVar 0) (tCons (tVar 1) tNil)) tNil))) [1]))
def t_check_name (K : PySem.W.Frag) (a : Adr) (E : XK) : TS :=
  (tIfS (tOr (tNot (tTest (tChain rLt rLe (tC (.int 0)) (tCB (rLenU K) (tCons (tVar 0) tNil)) (tC (.int 30))))) (tOr (tTruth K (tAnyS a.tb_check_name (fun c => !decide (c ∈ ("abcdefghijklmnopqrstuvwxyz0123456789." : Str).cps.toList)) (tVar 0))) (tOr (tTest (tOp (rEqU K) (tOp (rIxU K) (tVar 0) (tC (.int 0))) (tC (.str ".")))) (tTest (tOp (rEqU K) (tOp (rIxU K) (tVar 0) (tUn rNeg (tC (.int 1)))) (tC (.str "."))))))) (tRaiseE a.c_NameFault E) tNext)
def t_check_key (K : PySem.W.Frag) (a : Adr) (E : XK) : TS :=
  (tIfS (tOr (tNot (tTest (tChain rLt rLe (tC (.int 0)) (tCB (rLenU K) (tCons (tVar 0) tNil)) (tC (.int 60))))) (tTruth K (tAnyS a.tb_check_key (fun c => !decide (c ∈ ("abcdefghijklmnopqrstuvwxyzABCDEFGHIJKLMNOPQRSTUVWXYZ0123456789._-/" : Str).cps.toList)) (tVar 0)))) (tRaiseE a.c_NameFault E) tNext)
def t_check_value (K : PySem.W.Frag) (a : Adr) (E : XK) : TS :=
  (tIfS (tTruth K (tCB (rIsi K) (tCons (tVar 0) (tCons (tC (.ty "tuple")) tNil)))) tNever (tIfS (tTruth K (tCB (rIsi K) (tCons (tVar 0) (tCons (tC (.ty "str")) tNil)))) (tIfS (tOr (tTest (tOp rGt (tCB (rLenU K) (tCons (tVar 0) tNil)) (tC (.int 200)))) (tTruth K (tAnyS a.tb_check_value (fun c => !decide (c ∈ ("\n !\"#$&'()*+,-./0123456789:;<=>?@ABCDEFGHIJKLMNOPQRSTUVWXYZ[\\]^_`abcdefghijklmnopqrstuvwxyz{|}~" : Str).cps.toList)) (tVar 0)))) (tRaiseE a.c_NameFault E) tNext) (tIfS (tAnd (tTest (tOp rNotN (tVar 0) (tC .non))) (tOr (tNot (tTruth K (tCB (rIsi K) (tCons (tVar 0) (tCons (tC (.ty "int")) tNil))))) (tTest (tOp rGt (tCB (rAbsU) (tCons (tVar 0) tNil)) (tC (.int 1000000000000)))))) (tRaiseE a.c_NameFault E) tNext)))
def t_is_span_tail0 (K : PySem.W.Frag) (a : Adr) (E : XK) : TS :=
  (tRet (tAndV (tVar 2) (tOp rLt (tOp (rIxU K) (tVar 0) (tC (.int 0))) (tOp (rIxU K) (tVar 0) (tC (.int 1))))))
def t_is_span (K : PySem.W.Frag) (a : Adr) (E : XK) : TS :=
  (tSeq (tAsg (tAndV (tOp (rEqU K) (tCB (rLenU K) (tCons (tVar 0) tNil)) (tC (.int 2))) (tAnyX false a.tb_is_span (iTup K (tVar 0)) (gName 1) tYes (tAndV (tCB (rIsi K) (tCons (tVar 1) (tCons (tC (.ty "int")) tNil))) (tNotV (tCB (rIsi K) (tCons (tVar 1) (tCons (tC (.ty "bool")) tNil))))) [1])) (gName 2)) (t_is_span_tail0 K a E))
def t_law_dice (K : PySem.W.Frag) (a : Adr) (E : XK) : TS :=
  (tSeq (tIfS (tTest (tChain rLt rLt (tOp rSubU (tC (.int 0)) (tC (.int 10))) (tVar 0) (tC (.int 10)))) (tRet (tLst (tCons (tCB (rAbsU) (tCons (tVar 0) tNil)) (tCons (tC (.int 0)) (tCons (tC (.int 2)) tNil))))) tNext) (tRet (tLst (tCons (tVar 0) (tCons (tOp (rAddU K) (tC (.int 1)) (tOp rModU (tCB (rInt1) (tCons (tVar 0) tNil)) (tC (.int 1009)))) (tCons (tCB (rInt1) (tCons (tOp rGe (tVar 0) (tOp rPowU (tC (.int 10)) (tC (.int 18)))) tNil)) tNil))))))
def t_law_roll (K : PySem.W.Frag) (a : Adr) (E : XK) : TS :=
  (tSeq (tIfS (tOr (tTest (tOp (rEqU K) (tOp (rIxU K) (tVar 0) (tC (.int 2))) (tC (.int 2)))) (tAnd (tTest (tOp (rEqU K) (tOp (rIxU K) (tVar 0) (tC (.int 2))) (tC (.int 1)))) (tTest (tOp rGt (tOp (rIxU K) (tVar 0) (tC (.int 0))) (tC (.int 0)))))) (tSeq (tAsg (tOp rModU (tCB (rInt1) (tCons (tOp (rIxU K) (tVar 0) (tC (.int 0))) tNil)) (tVar 1)) (gName 2)) (tSeq (tAsg (tOp rDivU (tOp (rIxU K) (tVar 0) (tC (.int 0))) (tVar 1)) (gSub (tVar 0) (tC (.int 0)) rSetU)) (tRet (tVar 2)))) tNext) (tSeq (tAsg (tC (.int 0)) (gSub (tVar 0) (tC (.int 2)) rSetU)) (tSeq (tIfS (tTest (tOp rGt (tVar 1) (tC (.int 100000000)))) tNever tNext) (tSeq (tAsg (tOp rModU (tCB (rInt1) (tCons (tOp (rAddU K) (tOp (rAddU K) (tOp rMulU (tOp (rIxU K) (tVar 0) (tC (.int 0))) (tC (.int 48271))) (tOp rMulU (tOp (rIxU K) (tVar 0) (tC (.int 1))) (tC (.int 69621)))) (tC (.int 11))) tNil)) (tC (.int 2147483647))) (gSub (tVar 0) (tC (.int 0)) rSetU)) (tSeq (tAsg (tOp (rAddU K) (tOp (rIxU K) (tVar 0) (tC (.int 1))) (tC (.int 1))) (gSub (tVar 0) (tC (.int 1)) rSetU)) (tRet (tOp rModU (tCB (rInt1) (tCons (tOp rDivU (tOp (rIxU K) (tVar 0) (tC (.int 0))) (tC (.int 7))) tNil)) (tVar 1))))))))
def t_law_rounds (K : PySem.W.Frag) (a : Adr) (E : XK) : TS :=
  (tSeq (tAsg (tSl (rSlU K) (tVar 0) tNoPart (tPart (tVar 1))) (gName 2)) (tSeq (tIfS (tTest (tOp (rEqU K) (tVar 2) (tLst tNil))) (tAsg (tLst (tCons (tC (.int 0)) tNil)) (gName 2)) tNext) (tRet (tLc (iList K (tVar 2)) (gName 3) tYes (tCall (sp_law_dice K a) [] E0 (tCons (tVar 3) tNil)) [3]))))
def t_law_allowed (K : PySem.W.Frag) (a : Adr) (E : XK) : TS :=
  (tSeq (tIfS (tTest (tOp rIsU (tVar 0) (tC .non))) (tRet (tAndV (tCB (rIsi K) (tCons (tVar 1) (tCons (tC (.ty "str")) tNil))) (tOp rLt (tCB (rLenU K) (tCons (tVar 1) tNil)) (tC (.int 61))))) tNext) (tSeq (tIfS (tTest (tOp (rEqU K) (tVar 0) (tTup (tCons (tC (.int 0)) (tCons (tC (.int 9)) tNil))))) (tRet (tAndV (tCB (rIsi K) (tCons (tVar 1) (tCons (tC (.ty "int")) tNil))) (tAndV (tNotV (tCB (rIsi K) (tCons (tVar 1) (tCons (tC (.ty "bool")) tNil)))) (tChain rLe rLe (tC (.int 0)) (tVar 1) (tC (.int 9)))))) tNext) (tRet (tAndV (tOp (rInV K) (tVar 1) (tVar 0)) (tOp (rEqU K) (tCB (rIsi K) (tCons (tVar 1) (tCons (tC (.ty "bool")) tNil))) (tCB (rIsi K) (tCons (tOp (rIxU K) (tVar 0) (tC (.int 0))) (tCons (tC (.ty "bool")) tNil))))))))
def t_law_settings_for0 (K : PySem.W.Frag) (a : Adr) (E : XK) : TS :=
  (tDrop (tMeth a.c_Settings "declare" (sp_Settings_declare K a) [] E (tVar 1) (tCons (tVar 6) (tCons (tOp (rIxU K) (tOp (rIxU K) (tVar 2) (tVar 6)) (tC (.int 0))) (tCons (tOp (rIxU K) (tOp (rIxU K) (tVar 2) (tVar 6)) (tC (.int 1))) tNil)))))
def t_law_settings_tail1 (K : PySem.W.Frag) (a : Adr) (E : XK) : TS :=
  (tIfS (tAnd (tTruth K (tVar 11)) (tTest (tOp rIsU (tVar 10) (tC .non)))) (tAsg (tVar 9) (gSub (tVar 3) (tVar 6) rSetU)) (tIfS (tTruth K (tVar 11)) (tAsg (tVar 9) (gSub (tVar 4) (tTup (tCons (tVar 10) (tCons (tVar 6) tNil))) rSetU)) tNext))
def t_law_settings_tail2 (K : PySem.W.Frag) (a : Adr) (E : XK) : TS :=
  (tSeq (tAsg (tAndV (tVar 11) (tOp (rNotInV K) (tVar 6) (tVar 5))) (gName 11)) (tSeq (tIfS (tTest (tOp (rEqU K) (tOp (rEqU K) (tLamP a.tb_law_settings (lamq "_law_settings") (TTold2 K a.c_NameFault "NameFault" a.c_RightFault "RightFault") (fun E => (tMeth a.c_Settings "set_value" (sp_Settings_set_value K a) [] E (tVar 1) (tCons (tVar 6) (tCons (tVar 9) (tCons (tVar 10) tNil)))))) (tC (.str "NameFault"))) (tVar 11))) (tRet (tC (.bl false))) tNext) (t_law_settings_tail1 K a E)))
def t_law_settings_if3 (K : PySem.W.Frag) (a : Adr) (E : XK) : TS :=
  (tSeq (tAsg (tAndV (tVar 11) (tOp (rNotInV K) (tVar 6) (tVar 5))) (gName 11)) (tSeq (tIfS (tTest (tOp (rEqU K) (tOp (rEqU K) (tLamP a.tb_law_settings (lamq "_law_settings") (TTold2 K a.c_NameFault "NameFault" a.c_RightFault "RightFault") (fun E => (tMeth a.c_Settings "set_value" (sp_Settings_set_value K a) [] E (tVar 1) (tCons (tVar 6) (tCons (tVar 9) (tCons (tVar 10) tNil)))))) (tC (.str "NameFault"))) (tVar 11))) (tRet (tC (.bl false))) tNext) (t_law_settings_tail1 K a E)))
def t_law_settings_tail4 (K : PySem.W.Frag) (a : Adr) (E : XK) : TS :=
  (tAsg (tCB (rDictV K) (tCons (tLockE (tLc (iKeys (tVar 4)) (gName 12) (tTest (tOp (rNeU K) (tVar 12) (tTup (tCons (tVar 10) (tCons (tVar 6) tNil))))) (tTup (tCons (tVar 12) (tCons (tOp (rIxU K) (tVar 4) (tVar 12)) tNil))) [12])) tNil)) (gName 4))
def t_law_settings_tail5 (K : PySem.W.Frag) (a : Adr) (E : XK) : TS :=
  (tSeq (tAsg (tCB (rDictU K) (tCons (tLockE (tLc (iKeys (tVar 3)) (gName 12) (tOr (tTest (tOp rNotN (tVar 10) (tC .non))) (tTest (tOp (rNeU K) (tVar 12) (tVar 6)))) (tTup (tCons (tVar 12) (tCons (tOp (rIxU K) (tVar 3) (tVar 12)) tNil))) [12])) tNil)) (gName 3)) (t_law_settings_tail4 K a E))
def t_law_settings_tail6 (K : PySem.W.Frag) (a : Adr) (E : XK) : TS :=
  (tSeq (tIfS (tTest (tOp (rEqU K) (tOp (rEqU K) (tLamP a.tb_law_settings (lamq "_law_settings") (TTold2 K a.c_NameFault "NameFault" a.c_RightFault "RightFault") (fun E => (tMeth a.c_Settings "clear" (sp_Settings_clear K a) [] E (tVar 1) (tCons (tVar 6) (tCons (tVar 10) tNil))))) (tC (.str "NameFault"))) (tOp (rInV K) (tVar 6) (tVar 2)))) (tRet (tC (.bl false))) tNext) (t_law_settings_tail5 K a E))
def t_law_settings_if7 (K : PySem.W.Frag) (a : Adr) (E : XK) : TS :=
  (tSeq (tIfS (tTest (tOp (rEqU K) (tOp (rEqU K) (tLamP a.tb_law_settings (lamq "_law_settings") (TTold2 K a.c_NameFault "NameFault" a.c_RightFault "RightFault") (fun E => (tMeth a.c_Settings "clear" (sp_Settings_clear K a) [] E (tVar 1) (tCons (tVar 6) (tCons (tVar 10) tNil))))) (tC (.str "NameFault"))) (tOp (rInV K) (tVar 6) (tVar 2)))) (tRet (tC (.bl false))) tNext) (t_law_settings_tail5 K a E))
def t_law_settings_tail8 (K : PySem.W.Frag) (a : Adr) (E : XK) : TS :=
  (tIfS (tTruth K (tVar 11)) (tAsg (tCB (rDictU K) (tCons (tOp (rAddU K) (tLockE (tLc (iKeys (tVar 5)) (gName 12) (tTest (tOp (rNeU K) (tVar 12) (tVar 6))) (tTup (tCons (tVar 12) (tCons (tOp (rIxU K) (tVar 5) (tVar 12)) tNil))) [12])) (tOp rMulU (tLst (tCons (tTup (tCons (tVar 6) (tCons (tVar 9) tNil))) tNil)) (tCB (rInt1) (tCons (tOp rNotN (tVar 9) (tC .non)) tNil)))) tNil)) (gName 5)) tNext)
def t_law_settings_tail9 (K : PySem.W.Frag) (a : Adr) (E : XK) : TS :=
  (tSeq (tIfS (tTest (tOp (rEqU K) (tOp (rEqU K) (tLamP a.tb_law_settings (lamq "_law_settings") (TTold2 K a.c_NameFault "NameFault" a.c_RightFault "RightFault") (fun E => (tMeth a.c_Settings "rule" (sp_Settings_rule K a) [] E (tVar 1) (tCons (tVar 6) (tCons (tVar 9) tNil))))) (tC (.str "NameFault"))) (tVar 11))) (tRet (tC (.bl false))) tNext) (t_law_settings_tail8 K a E))
def t_law_settings_tail10 (K : PySem.W.Frag) (a : Adr) (E : XK) : TS :=
  (tSeq (tAsg (tAndV (tOp (rInV K) (tVar 6) (tVar 2)) (tOrV (tOp rIsU (tVar 9) (tC .non)) (tVar 11))) (gName 11)) (t_law_settings_tail9 K a E))
def t_law_settings_else11 (K : PySem.W.Frag) (a : Adr) (E : XK) : TS :=
  (tSeq (tAsg (tAndV (tOp (rInV K) (tVar 6) (tVar 2)) (tOrV (tOp rIsU (tVar 9) (tC .non)) (tVar 11))) (gName 11)) (t_law_settings_tail9 K a E))
def t_law_settings_tail12 (K : PySem.W.Frag) (a : Adr) (E : XK) : TS :=
  (tSeq (tAsg (tGet2M (tVar 5) (tVar 12) (tGet2M (tVar 4) (tTup (tCons (tVar 13) (tCons (tVar 12) tNil))) (tGet2M (tVar 3) (tVar 12) (tOp (rIxU K) (tOp (rIxU K) (tVar 2) (tVar 12)) (tC (.int 0)))))) (gName 14)) (tSeq (tAsg (tMeth a.c_Settings "value" (sp_Settings_value K a) [] E (tVar 1) (tCons (tVar 12) (tCons (tVar 13) tNil))) (gName 15)) (tIfS (tOr (tTest (tOp (rNeU K) (tVar 15) (tVar 14))) (tTest (tOp (rNeU K) (tCB (rIsi K) (tCons (tVar 15) (tCons (tC (.ty "bool")) tNil))) (tCB (rIsi K) (tCons (tVar 14) (tCons (tC (.ty "bool")) tNil)))))) (tRet (tC (.bl false))) tNext)))
def t_law_settings_for13 (K : PySem.W.Frag) (a : Adr) (E : XK) : TS :=
  (tSeq (tAsg (tGet2M (tVar 5) (tVar 12) (tGet2M (tVar 4) (tTup (tCons (tVar 13) (tCons (tVar 12) tNil))) (tGet2M (tVar 3) (tVar 12) (tOp (rIxU K) (tOp (rIxU K) (tVar 2) (tVar 12)) (tC (.int 0)))))) (gName 14)) (tSeq (tAsg (tMeth a.c_Settings "value" (sp_Settings_value K a) [] E (tVar 1) (tCons (tVar 12) (tCons (tVar 13) tNil))) (gName 15)) (tIfS (tOr (tTest (tOp (rNeU K) (tVar 15) (tVar 14))) (tTest (tOp (rNeU K) (tCB (rIsi K) (tCons (tVar 15) (tCons (tC (.ty "bool")) tNil))) (tCB (rIsi K) (tCons (tVar 14) (tCons (tC (.ty "bool")) tNil)))))) (tRet (tC (.bl false))) tNext)))
def t_law_settings_for14 (K : PySem.W.Frag) (a : Adr) (E : XK) : TS :=
  (tFor (iList K (tLst (tCons (tC .non) (tCons (tC (.str "ann")) (tCons (tC (.str "bob")) tNil))))) (gName 13) (t_law_settings_for13 K a E))
def t_law_settings_tail15 (K : PySem.W.Frag) (a : Adr) (E : XK) : TS :=
  (tIfS (tOr (tTest (tOp (rNeU K) (tLc (iTup K (tMeth a.c_Settings "shown" (sp_Settings_shown K a) [] E (tVar 1) tNil)) (gName 16) tYes (tOp (rIxU K) (tVar 16) (tC (.int 0))) [16]) (tCB (rSortU K) (tCons (tVar 2) tNil)))) (tTest (tOp (rNeU K) (tLamP a.tb_law_settings (lamq "_law_settings") (TTold2 K a.c_NameFault "NameFault" a.c_RightFault "RightFault") (fun E => (tMeth a.c_Settings "value" (sp_Settings_value K a) [.non] E (tVar 1) (tCons (tC (.str "none")) tNil)))) (tC (.str "NameFault"))))) (tRet (tC (.bl false))) tNext)
def t_law_settings_tail16 (K : PySem.W.Frag) (a : Adr) (E : XK) : TS :=
  (tSeq (tLock (tFor (iKeys (tVar 2)) (gName 12) (t_law_settings_for14 K a E))) (t_law_settings_tail15 K a E))
def t_law_settings_tail17 (K : PySem.W.Frag) (a : Adr) (E : XK) : TS :=
  (tSeq (tIfS (tTest (tOp rLt (tVar 8) (tC (.int 3)))) (t_law_settings_if3 K a E) (tIfS (tTest (tOp (rEqU K) (tVar 8) (tC (.int 3)))) (t_law_settings_if7 K a E) (t_law_settings_else11 K a E))) (t_law_settings_tail16 K a E))
def t_law_settings_tail18 (K : PySem.W.Frag) (a : Adr) (E : XK) : TS :=
  (tSeq (tAsg (tAndV (tOp (rInV K) (tVar 6) (tVar 2)) (tCall (sp_law_allowed K a) [] E (tCons (tOp (rIxU K) (tOp (rIxU K) (tVar 2) (tVar 6)) (tC (.int 1))) (tCons (tVar 9) tNil)))) (gName 11)) (t_law_settings_tail17 K a E))
def t_law_settings_tail19 (K : PySem.W.Frag) (a : Adr) (E : XK) : TS :=
  (tSeq (tAsg (tOp (rIxU K) (tLst (tCons (tC .non) (tCons (tC (.str "ann")) (tCons (tC (.str "bob")) tNil)))) (tCall (sp_law_roll K a) [] E (tCons (tVar 0) (tCons (tC (.int 3)) tNil)))) (gName 10)) (t_law_settings_tail18 K a E))
def t_law_settings_tail20 (K : PySem.W.Frag) (a : Adr) (E : XK) : TS :=
  (tSeq (tAsg (tOp (rIxU K) (tLst (tCons (tC (.int 5)) (tCons (tC (.int 12)) (tCons (tC (.bl true)) (tCons (tC (.int 1)) (tCons (tC (.int 0)) (tCons (tC (.str "slow")) (tCons (tC (.str "fast")) (tCons (tOp rMulW (tC (.str "x")) (tCall (sp_law_roll K a) [] E (tCons (tVar 0) (tCons (tC (.int 70)) tNil)))) (tCons (tC .non) tNil)))))))))) (tCall (sp_law_roll K a) [] E (tCons (tVar 0) (tCons (tC (.int 9)) tNil)))) (gName 9)) (t_law_settings_tail19 K a E))
def t_law_settings_for21 (K : PySem.W.Frag) (a : Adr) (E : XK) : TS :=
  (tSeq (tAsg (tTup (tCons (tOp (rIxU K) (tLst (tCons (tC (.str "volume")) (tCons (tC (.str "dark")) (tCons (tC (.str "name")) (tCons (tC (.str "mode")) (tCons (tC (.str "none")) tNil)))))) (tCall (sp_law_roll K a) [] E (tCons (tVar 0) (tCons (tC (.int 5)) tNil)))) (tCons (tCall (sp_law_roll K a) [] E (tCons (tVar 0) (tCons (tC (.int 5)) tNil))) tNil))) (gTup K 2 (gCons (gName 6) (gCons (gName 8) gNil)))) (t_law_settings_tail20 K a E))
def t_law_settings_tail22 (K : PySem.W.Frag) (a : Adr) (E : XK) : TS :=
  (tRet (tAndV (tOp (rEqU K) (tVar 17) (tOp rMulU (tLst (tCons (tC (.str "NameFault")) tNil)) (tC (.int 2)))) (tAndV (tCall (sp_is_span K a) [] E (tCons (tTup (tCons (tC (.int 0)) (tCons (tC (.int 9)) tNil))) tNil)) (tAndV (tNotV (tCall (sp_is_span K a) [] E (tCons (tTup (tCons (tC (.int 9)) (tCons (tC (.int 0)) tNil))) tNil))) (tAndV (tNotV (tCall (sp_is_span K a) [] E (tCons (tTup (tCons (tC (.bl true)) (tCons (tC (.bl false)) tNil))) tNil))) (tOp rIsU (tMeth a.c_Kind "check" (sp_Kind_check K a) [] E (tMake a.c_Kind (sp_Kind__init K a) [] E (tCons (tC (.str "a")) (tCons (tTup (tCons (tC (.str "a")) (tCons (tC (.str "b")) tNil))) tNil))) (tCons (tC (.str "b")) tNil)) (tC .non)))))))
def t_law_settings_tail23 (K : PySem.W.Frag) (a : Adr) (E : XK) : TS :=
  (tSeq (tAsg (tLst (tCons (tLamP a.tb_law_settings (lamq "_law_settings") (TTold2 K a.c_NameFault "NameFault" a.c_RightFault "RightFault") (fun E => (tMeth a.c_Settings "declare" (sp_Settings_declare K a) [] E (tVar 1) (tCons (tC (.str "volume")) (tCons (tC (.int 1)) (tCons (tTup (tCons (tC (.int 0)) (tCons (tC (.int 9)) tNil))) tNil)))))) (tCons (tLamP a.tb_law_settings (lamq "_law_settings") (TTold2 K a.c_NameFault "NameFault" a.c_RightFault "RightFault") (fun E => (tMeth a.c_Settings "declare" (sp_Settings_declare K a) [] E (tVar 1) (tCons (tC (.str "new")) (tCons (tC (.int 10)) (tCons (tTup (tCons (tC (.int 0)) (tCons (tC (.int 9)) tNil))) tNil)))))) tNil))) (gName 17)) (t_law_settings_tail22 K a E))
def t_law_settings_tail24 (K : PySem.W.Frag) (a : Adr) (E : XK) : TS :=
  (tSeq (tFor (iRng1 (tCons (tCall (sp_law_roll K a) [] E (tCons (tVar 0) (tCons (tC (.int 51)) tNil))) tNil)) (gName 7) (t_law_settings_for21 K a E)) (t_law_settings_tail23 K a E))
def t_law_settings_tail25 (K : PySem.W.Frag) (a : Adr) (E : XK) : TS :=
  (tSeq (tLock (tFor (iKeys (tVar 2)) (gName 6) (t_law_settings_for0 K a E))) (t_law_settings_tail24 K a E))
def t_law_settings (K : PySem.W.Frag) (a : Adr) (E : XK) : TS :=
  (tSeq (tAsg (tTup (tCons (tMake a.c_Settings (sp_Settings__init K a) [] E tNil) (tCons (tDisp (((tC (.str "volume")), (tTup (tCons (tC (.int 5)) (tCons (tTup (tCons (tC (.int 0)) (tCons (tC (.int 9)) tNil))) tNil)))) :: (((tC (.str "dark")), (tTup (tCons (tC (.bl false)) (tCons (tTup (tCons (tC (.bl true)) (tCons (tC (.bl false)) tNil))) tNil)))) :: (((tC (.str "name")), (tTup (tCons (tC (.str "phone")) (tCons (tC .non) tNil)))) :: (((tC (.str "mode")), (tTup (tCons (tC (.str "slow")) (tCons (tTup (tCons (tC (.str "slow")) (tCons (tC (.str "fast")) tNil))) tNil)))) :: []))))) (tCons tDNewK (tCons tDNewT (tCons tDNewK tNil)))))) (gTup K 5 (gCons (gName 1) (gCons (gName 2) (gCons (gName 3) (gCons (gName 4) (gCons (gName 5) gNil))))))) (t_law_settings_tail25 K a E))
def t_law_if0 (K : PySem.W.Frag) (a : Adr) (E : XK) : TS :=
  (tAsg (tTup (tCons (tOp (rIxU K) (tVar 15) (tCall (sp_law_roll K a) [] E (tCons (tVar 1) (tCons (tCB (rLenU K) (tCons (tVar 15) tNil)) tNil)))) (tCons (tC (.str "77777")) tNil))) (gTup K 2 (gCons (gName 11) (gCons (gName 12) gNil))))
def t_law_tail1 (K : PySem.W.Frag) (a : Adr) (E : XK) : TS :=
  (tAsg (tIf (tTruth K (tVar 16)) (tTup (tCons (tCB (rDictU K) (tCons (tOp (rAddU K) (LiI.tListItems (tVar 3)) (tLst (tCons (tTup (tCons (tVar 11) (tCons (tC .non) tNil))) tNil))) tNil)) (tCons (tCB (rDictU K) (tCons (tOp (rAddU K) (LiI.tListItems (tVar 4)) (tLst (tCons (tTup (tCons (tVar 11) (tCons (tLst tNil) tNil))) tNil))) tNil)) tNil))) (tTup (tCons (tVar 3) (tCons (tVar 4) tNil)))) (gTup K 2 (gCons (gName 3) (gCons (gName 4) gNil))))
def t_law_tail2 (K : PySem.W.Frag) (a : Adr) (E : XK) : TS :=
  (tSeq (tAsg (tLamP a.tb_law (lamq "law") (TTold2 K a.c_NameFault "NameFault" a.c_RightFault "RightFault") (fun E => (tMeth a.c_People "add" (sp_People_add K a) [] E (tVar 2) (tCons (tVar 11) tNil)))) (gName 17)) (t_law_tail1 K a E))
def t_law_if3 (K : PySem.W.Frag) (a : Adr) (E : XK) : TS :=
  (tSeq (tAsg (tAndV (tOp (rEqU K) (tVar 5) (tC (.str "ann"))) (tAndV (tOp (rNotInV K) (tVar 11) (tVar 3)) (tOp rLt (tCB (rLenU K) (tCons (tVar 3) tNil)) (tC (.int 4))))) (gName 16)) (t_law_tail2 K a E))
def t_law_tail4 (K : PySem.W.Frag) (a : Adr) (E : XK) : TS :=
  (tAsg (tLc (iTup K (tTup (tCons (tVar 3) (tCons (tVar 4) tNil)))) (gName 20) tYes (tCB (rDictU K) (tCons (tLockE (tLc (iKeys (tVar 20)) (gName 14) (tOr (tTest (tOp (rNeU K) (tVar 14) (tVar 11))) (tNot (tTruth K (tVar 16)))) (tTup (tCons (tVar 14) (tCons (tOp (rIxU K) (tVar 20) (tVar 14)) tNil))) [14])) tNil)) [20]) (gUnl K 2 (gCons (gName 3) (gCons (gName 4) gNil))))
def t_law_tail5 (K : PySem.W.Frag) (a : Adr) (E : XK) : TS :=
  (tSeq (tIfS (tAnd (tTruth K (tVar 16)) (tTest (tOp (rNeU K) (tCB (rListOf K) (tCons (tVar 17) tNil)) (tVar 19)))) (tRet (tC (.bl false))) tNext) (t_law_tail4 K a E))
def t_law_tail6 (K : PySem.W.Frag) (a : Adr) (E : XK) : TS :=
  (tSeq (tAsg (tLamP a.tb_law (lamq "law") (TTold2 K a.c_NameFault "NameFault" a.c_RightFault "RightFault") (fun E => (tMeth a.c_People "remove" (sp_People_remove K a) [] E (tVar 2) (tCons (tVar 11) tNil)))) (gName 17)) (t_law_tail5 K a E))
def t_law_tail7 (K : PySem.W.Frag) (a : Adr) (E : XK) : TS :=
  (tSeq (tAsg (tLc (iList K (tCB (rSortU K) (tCons (tGet2 (tVar 4) (tVar 11) (tLst tNil)) tNil))) (gName 14) (tTest (tOp (rEqU K) (tLockE (tLc (iKeys (tVar 4)) (gName 18) (tAnd (tTest (tOp (rNeU K) (tVar 18) (tVar 11))) (tTest (tOp (rInV K) (tVar 14) (tOp (rIxU K) (tVar 4) (tVar 18))))) (tC (.int 1)) [18])) (tLst tNil))) (tVar 14) [14]) (gName 19)) (t_law_tail6 K a E))
def t_law_if8 (K : PySem.W.Frag) (a : Adr) (E : XK) : TS :=
  (tSeq (tAsg (tAndV (tOp (rEqU K) (tVar 5) (tC (.str "ann"))) (tAndV (tOp (rNeU K) (tVar 11) (tC (.str "ann"))) (tOp (rInV K) (tVar 11) (tVar 3)))) (gName 16)) (t_law_tail7 K a E))
def t_law_tail9 (K : PySem.W.Frag) (a : Adr) (E : XK) : TS :=
  (tAsg (tIf (tTruth K (tVar 16)) (tCB (rDictU K) (tCons (tOp (rAddU K) (LiI.tListItems (tVar 3)) (tLst (tCons (tTup (tCons (tVar 5) (tCons (tVar 12) tNil))) tNil))) tNil)) (tVar 3)) (gName 3))
def t_law_tail10 (K : PySem.W.Frag) (a : Adr) (E : XK) : TS :=
  (tSeq (tAsg (tLamP a.tb_law (lamq "law") (TTold2 K a.c_NameFault "NameFault" a.c_RightFault "RightFault") (fun E => (tMeth a.c_People "set_code" (sp_People_set_code K a) [] E (tVar 2) (tCons (tVar 12) tNil)))) (gName 17)) (t_law_tail9 K a E))
def t_law_if11 (K : PySem.W.Frag) (a : Adr) (E : XK) : TS :=
  (tSeq (tAsg (tAndV (tOp rNotN (tVar 5) (tC .non)) (tOp (rInV K) (tVar 12) (tLst (tCons (tC .non) (tCons (tC (.str "1234")) (tCons (tC (.str "99999")) tNil)))))) (gName 16)) (t_law_tail10 K a E))
def t_law_if12 (K : PySem.W.Frag) (a : Adr) (E : XK) : TS :=
  (tAsg (tTup (tCons (tC (.bl true)) (tCons (tMeth a.c_People "leave" (sp_People_leave K a) [] E (tVar 2) tNil) (tCons (tC .non) tNil)))) (gTup K 3 (gCons (gName 16) (gCons (gName 17) (gCons (gName 5) gNil)))))
def t_law_tail13 (K : PySem.W.Frag) (a : Adr) (E : XK) : TS :=
  (tAsg (tIf (tAnd (tTruth K (tVar 21)) (tTest (tOp rGe (tVar 6) (tC (.int 5))))) (tOp (rAddU K) (tVar 8) (tOp rMulU (tC (.int 30)) (tOp (rIxU K) (tLst (tCons (tC (.int 1)) (tCons (tC (.int 2)) (tCons (tC (.int 4)) (tCons (tC (.int 8)) (tCons (tC (.int 16)) (tCons (tC (.int 32)) (tCons (tC (.int 64)) tNil)))))))) (tCB (rMin2) (tCons (tOp rSubU (tVar 6) (tC (.int 5))) (tCons (tC (.int 6)) tNil)))))) (tVar 7)) (gName 7))
def t_law_tail14 (K : PySem.W.Frag) (a : Adr) (E : XK) : TS :=
  (tSeq (tAsg (tIf (tTruth K (tVar 16)) (tTup (tCons (tC (.int 0)) (tCons (tVar 11) tNil))) (tTup (tCons (tOp (rAddU K) (tVar 6) (tCB (rInt1) (tCons (tVar 21) tNil))) (tCons (tVar 5) tNil)))) (gTup K 2 (gCons (gName 6) (gCons (gName 5) gNil)))) (t_law_tail13 K a E))
def t_law_tail15 (K : PySem.W.Frag) (a : Adr) (E : XK) : TS :=
  (tSeq (tAsg (tLamP a.tb_law (lamq "law") (TTold2 K a.c_NameFault "NameFault" a.c_RightFault "RightFault") (fun E => (tMeth a.c_People "enter" (sp_People_enter K a) [] E (tVar 2) (tCons (tVar 11) (tCons (tVar 12) (tCons (tVar 8) tNil)))))) (gName 17)) (t_law_tail14 K a E))
def t_law_tail16 (K : PySem.W.Frag) (a : Adr) (E : XK) : TS :=
  (tSeq (tAsg (tAndV (tOp rGe (tVar 8) (tVar 7)) (tAndV (tOp (rInV K) (tVar 11) (tVar 3)) (tOp (rNotInV K) (tOp (rIxU K) (tVar 3) (tVar 11)) (tLst (tCons (tC .non) (tCons (tVar 12) tNil)))))) (gName 21)) (t_law_tail15 K a E))
def t_law_if17 (K : PySem.W.Frag) (a : Adr) (E : XK) : TS :=
  (tSeq (tAsg (tAndV (tOp rGe (tVar 8) (tVar 7)) (tAndV (tOp (rInV K) (tVar 11) (tVar 3)) (tOp (rInV K) (tOp (rIxU K) (tVar 3) (tVar 11)) (tLst (tCons (tC .non) (tCons (tVar 12) tNil)))))) (gName 16)) (t_law_tail16 K a E))
def t_law_tail18 (K : PySem.W.Frag) (a : Adr) (E : XK) : TS :=
  (tAsg (tCB (rDictU K) (tCons (tLockE (tLc (iKeys (tVar 4)) (gName 14) tYes (tTup (tCons (tVar 14) (tCons (tOp (rAddU K) (tOp (rIxU K) (tVar 4) (tVar 14)) (tOp rMulU (tLst (tCons (tVar 13) tNil)) (tCB (rInt1) (tCons (tAndV (tOp (rEqU K) (tVar 14) (tVar 5)) (tOp (rNotInV K) (tVar 13) (tOp (rIxU K) (tVar 4) (tVar 14)))) tNil)))) tNil))) [14])) tNil)) (gName 4))
def t_law_tail19 (K : PySem.W.Frag) (a : Adr) (E : XK) : TS :=
  (tSeq (tAsg (tLamP a.tb_law (lamq "law") (TTold2 K a.c_NameFault "NameFault" a.c_RightFault "RightFault") (fun E => (tMeth a.c_People "give" (sp_People_give K a) [] E (tVar 2) (tCons (tVar 13) tNil)))) (gName 17)) (t_law_tail18 K a E))
def t_law_if20 (K : PySem.W.Frag) (a : Adr) (E : XK) : TS :=
  (tSeq (tAsg (tOp rNotN (tVar 5) (tC .non)) (gName 16)) (t_law_tail19 K a E))
def t_law_tail21 (K : PySem.W.Frag) (a : Adr) (E : XK) : TS :=
  (tIfS (tAnd (tTruth K (tVar 16)) (tTest (tOp (rNeU K) (tVar 17) (tOp (rEqU K) (tLockE (tLc (iKeys (tVar 4)) (gName 14) (tTest (tOp (rInV K) (tVar 13) (tOp (rIxU K) (tVar 4) (tVar 14)))) (tVar 14) [14])) (tLst tNil))))) (tRet (tC (.bl false))) tNext)
def t_law_tail22 (K : PySem.W.Frag) (a : Adr) (E : XK) : TS :=
  (tSeq (tAsg (tCB (rDictU K) (tCons (tLockE (tLc (iKeys (tVar 4)) (gName 14) tYes (tTup (tCons (tVar 14) (tCons (tLc (iList K (tOp (rIxU K) (tVar 4) (tVar 14))) (gName 22) (tOr (tNot (tTruth K (tVar 16))) (tOr (tTest (tOp (rNeU K) (tVar 14) (tVar 5))) (tTest (tOp (rNeU K) (tVar 22) (tVar 13))))) (tVar 22) [22]) tNil))) [14])) tNil)) (gName 4)) (t_law_tail21 K a E))
def t_law_tail23 (K : PySem.W.Frag) (a : Adr) (E : XK) : TS :=
  (tSeq (tAsg (tLamP a.tb_law (lamq "law") (TTold2 K a.c_NameFault "NameFault" a.c_RightFault "RightFault") (fun E => (tMeth a.c_People "take" (sp_People_take K a) [] E (tVar 2) (tCons (tVar 13) tNil)))) (gName 17)) (t_law_tail22 K a E))
def t_law_else24 (K : PySem.W.Frag) (a : Adr) (E : XK) : TS :=
  (tSeq (tAsg (tAndV (tOp rNotN (tVar 5) (tC .non)) (tOp (rInV K) (tVar 13) (tOp (rIxU K) (tVar 4) (tVar 5)))) (gName 16)) (t_law_tail23 K a E))
def t_law_for25 (K : PySem.W.Frag) (a : Adr) (E : XK) : TS :=
  (tIfS (tOr (tTest (tOp (rNeU K) (tMeth a.c_People "has_app" (sp_People_has_app K a) [] E (tVar 2) (tCons (tVar 14) tNil)) (tOp (rNeU K) (tLockE (tLc (iKeys (tVar 4)) (gName 11) (tTest (tOp (rInV K) (tVar 14) (tOp (rIxU K) (tVar 4) (tVar 11)))) (tVar 11) [11])) (tLst tNil)))) (tTest (tOp (rNeU K) (tMeth a.c_People "sees" (sp_People_sees K a) [] E (tVar 2) (tCons (tVar 14) tNil)) (tAndV (tOp rNotN (tVar 5) (tC .non)) (tOp (rInV K) (tVar 14) (tOp (rIxU K) (tVar 4) (tVar 5))))))) (tRet (tC (.bl false))) tNext)
def t_law_tail26 (K : PySem.W.Frag) (a : Adr) (E : XK) : TS :=
  (tFor (iList K (tLst (tCons (tC (.str "x")) (tCons (tC (.str "y")) tNil)))) (gName 14) (t_law_for25 K a E))
def t_law_tail27 (K : PySem.W.Frag) (a : Adr) (E : XK) : TS :=
  (tSeq (tIfS (tOr (tTest (tOp (rEqU K) (tOp (rEqU K) (tVar 17) (tC (.str "RightFault"))) (tVar 16))) (tOr (tTest (tOp (rNeU K) (tFld K (tVar 2) "here") (tVar 5))) (tOr (tTest (tOp (rNeW K) (tFld K (tVar 2) "codes") (tVar 3))) (tOr (tTest (tOp (rNeU K) (tFld K (tVar 2) "failed") (tVar 6))) (tTest (tOp (rNeU K) (tFld K (tVar 2) "locked_until") (tVar 7))))))) (tRet (tC (.bl false))) tNext) (t_law_tail26 K a E))
def t_law_tail28 (K : PySem.W.Frag) (a : Adr) (E : XK) : TS :=
  (tSeq (tIfS (tTest (tOp (rEqU K) (tVar 10) (tC (.int 0)))) (t_law_if3 K a E) (tIfS (tAnd (tTest (tOp (rEqU K) (tVar 10) (tC (.int 1)))) (tTest (tOp (rEqU K) (tCall (sp_law_roll K a) [] E (tCons (tVar 1) (tCons (tC (.int 3)) tNil))) (tC (.int 0))))) (t_law_if8 K a E) (tIfS (tTest (tOp (rEqU K) (tVar 10) (tC (.int 2)))) (t_law_if11 K a E) (tIfS (tTest (tOp (rEqU K) (tVar 10) (tC (.int 3)))) (t_law_if12 K a E) (tIfS (tTest (tOp rLt (tVar 10) (tC (.int 6)))) (t_law_if17 K a E) (tIfS (tTest (tOp rLt (tVar 10) (tC (.int 8)))) (t_law_if20 K a E) (t_law_else24 K a E))))))) (t_law_tail27 K a E))
def t_law_tail29 (K : PySem.W.Frag) (a : Adr) (E : XK) : TS :=
  (tSeq (tIfS (tAnd (tTest (tOp (rEqU K) (tVar 10) (tC (.int 5)))) (tAnd (tTest (tOp (rNeU K) (tVar 15) (tLst tNil))) (tTest (tOp rGt (tCall (sp_law_roll K a) [] E (tCons (tVar 1) (tCons (tC (.int 4)) tNil))) (tC (.int 0)))))) (t_law_if0 K a E) tNext) (t_law_tail28 K a E))
def t_law_tail30 (K : PySem.W.Frag) (a : Adr) (E : XK) : TS :=
  (tSeq (tAsg (tLc (iList K (tCB (rSortU K) (tCons (tVar 3) tNil))) (gName 14) (tTest (tOp rNotN (tOp (rIxU K) (tVar 3) (tVar 14)) (tC .non))) (tVar 14) [14]) (gName 15)) (t_law_tail29 K a E))
def t_law_tail31 (K : PySem.W.Frag) (a : Adr) (E : XK) : TS :=
  (tSeq (tAsg (tTup (tCons (tOp (rIxU K) (tLst (tCons (tC (.str "ann")) (tCons (tC (.str "bob")) (tCons (tC (.str "cy")) (tCons (tC (.str "dan")) (tCons (tC (.str "eve")) tNil)))))) (tCall (sp_law_roll K a) [] E (tCons (tVar 1) (tCons (tC (.int 5)) tNil)))) (tCons (tOp (rIxU K) (tLst (tCons (tC .non) (tCons (tC (.str "1234")) (tCons (tC (.str "99999")) (tCons (tC (.str "12")) (tCons (tC (.str "12ab")) tNil)))))) (tCall (sp_law_roll K a) [] E (tCons (tVar 1) (tCons (tC (.int 5)) tNil)))) (tCons (tOp (rIxU K) (tC (.str "xy")) (tCall (sp_law_roll K a) [] E (tCons (tVar 1) (tCons (tC (.int 2)) tNil)))) tNil)))) (gTup K 3 (gCons (gName 11) (gCons (gName 12) (gCons (gName 13) gNil))))) (t_law_tail30 K a E))
def t_law_for32 (K : PySem.W.Frag) (a : Adr) (E : XK) : TS :=
  (tSeq (tAsg (tTup (tCons (tOp (rAddU K) (tVar 8) (tCall (sp_law_roll K a) [] E (tCons (tVar 1) (tCons (tC (.int 25)) tNil)))) (tCons (tCall (sp_law_roll K a) [] E (tCons (tVar 1) (tCons (tC (.int 9)) tNil))) tNil))) (gTup K 2 (gCons (gName 8) (gCons (gName 10) gNil)))) (t_law_tail31 K a E))
def t_law_tail33 (K : PySem.W.Frag) (a : Adr) (E : XK) : TS :=
  (tFor (iRng1 (tCons (tCall (sp_law_roll K a) [] E (tCons (tVar 1) (tCons (tC (.int 61)) tNil))) tNil)) (gName 9) (t_law_for32 K a E))
def t_law_tail34 (K : PySem.W.Frag) (a : Adr) (E : XK) : TS :=
  (tSeq (tAsg (tTup (tCons (tMake a.c_People (sp_People__init K a) [] E (tCons (tC (.str "ann")) tNil)) (tCons (tDisp (((tC (.str "ann")), (tC .non)) :: [])) (tCons (tDisp (((tC (.str "ann")), (tLst tNil)) :: [])) (tCons (tC (.str "ann")) (tCons (tC (.int 0)) (tCons (tC (.int 0)) (tCons (tC (.int 0)) tNil)))))))) (gTup K 7 (gCons (gName 2) (gCons (gName 3) (gCons (gName 4) (gCons (gName 5) (gCons (gName 6) (gCons (gName 7) (gCons (gName 8) gNil))))))))) (t_law_tail33 K a E))
def t_law_for35 (K : PySem.W.Frag) (a : Adr) (E : XK) : TS :=
  (tSeq (tIfS (tNot (tTruth K (tCall (sp_law_settings K a) [] E (tCons (tVar 1) tNil)))) (tRet (tC (.bl false))) tNext) (t_law_tail34 K a E))
def t_law_tail36 (K : PySem.W.Frag) (a : Adr) (E : XK) : TS :=
  (tRet (tAndV (tOp (rEqU K) (tLamP a.tb_law (lamq "law") (TTold2 K a.c_NameFault "NameFault" a.c_RightFault "RightFault") (fun E => (tMake a.c_People (sp_People__init K a) [] E (tCons (tC (.str "A")) tNil)))) (tC (.str "NameFault"))) (tOp rIsU (tMeth a.c_People "need_owner" (sp_People_need_owner K a) [] E (tMake a.c_People (sp_People__init K a) [] E (tCons (tC (.str "ann")) tNil)) tNil) (tC .non))))
def t_law (K : PySem.W.Frag) (a : Adr) (E : XK) : TS :=
  (tSeq (tFor (iList K (tCall (sp_law_rounds K a) [] E (tCons (tVar 0) (tCons (tC (.int 1)) tNil)))) (gName 1) (t_law_for35 K a E)) (t_law_tail36 K a E))
end Wk
namespace Wk
open PySem PySem.Spec PyProof.Rows L2 Ph
section
variable {K : PySem.W.Frag} {a : Adr} {B H : Hp} {Q : VK} {E : XK} {L F O : List (Addr × HO)} {I : List Im}
theorem c_dice {c : Int} (hC : Ctx K B H L I) (k : ∀ p i j l H1, Ctx K B H1 ((p, .lst [.int i, .int j, .int l]) :: L) I → Q (.ref p) H1) : sp_law_dice K a [.int c] H Q E :=
  ⟨rfl, c, L, rfl, hC.lay, fun p H' i j l s y => k p i j l H' (hC.moved s y)⟩
theorem c_roll {d : Addr} {m i j l : Int} (hC : Ctx K B H L I) (pk : Pick (d, .lst [.int i, .int j, .int l]) L F) (h0 : 0 < m) (h1 : m ≤ 100000000)
    (k : ∀ r i' j' l' H1, 0 ≤ r → r < m → Ctx K B H1 ((d, .lst [.int i', .int j', .int l']) :: F) I → Q (.int r) H1) : sp_law_roll K a [.ref d, .int m] H Q E :=
  ⟨rfl, d, m, i, j, l, F, rfl, hC.lay.pick pk, h0, h1, fun r i' j' k' H' r0 r1 s y => k r i' j' k' H' r0 r1 (hC.moved s y)⟩
/-! kinds -/
variable {ks : List KE} {e : KE} {nm : Str} {so dx kd rd od ud : Addr} {rows rules : List (Str × V)} {own : List ((Str × Str) × V)} {qk qv qp qc : Array Value} {v : V} {p : Option Str}
theorem okk_eq (ok : OkK ks) {f : KE} (he : e ∈ ks) (hf : f ∈ ks) (q : e.nm = f.nm) : e = f := by
  obtain ⟨i, hi⟩ := List.mem_iff_getElem?.mp he
  obtain ⟨j, hj⟩ := List.mem_iff_getElem?.mp hf
  have a1 : (ks.map fun e => e.nm)[i]? = some f.nm := by rw [List.getElem?_map, hi]; exact congrArg some q
  have a2 : (ks.map fun e => e.nm)[j]? = some f.nm := by rw [List.getElem?_map, hj]; rfl
  have l1 := (List.getElem?_eq_some_iff.mp a1).1
  have hij : i = j := (List.getElem?_inj l1 ok.nd).mp (a1.trans a2.symm)
  subst hij
  rw [hi] at hj
  exact Option.some.inj hj
theorem kinds_look (ok : OkK ks) (he : e ∈ ks) : look (kindsK ks) e.nm = some (.ref e.ad) := look_of_mem (by unfold kindsK; rw [List.map_map]; exact ok.nd) (List.mem_map.mpr ⟨e, he, rfl⟩)
theorem kinds_none (h : ∀ e, e ∈ ks → e.nm ≠ nm) : look (kindsK ks) nm = none := look_none.mpr fun p hp => by
  obtain ⟨e, he, rfl⟩ := List.mem_map.mp hp
  exact h e he
theorem kcells_app {fs : List KE} : kcells a (ks ++ fs) = kcells a ks ++ kcells a fs := List.map_append
theorem kcells_mid {i : Nat} (h : ks[i]? = some e) : kcells a ks ++ F = kcells a (ks.take i) ++ kcell a e :: (kcells a (ks.drop (i + 1)) ++ F) := by
  conv => lhs; rw [split_cons h]
  rw [kcells_app, List.append_assoc]
  rfl
theorem anyK_of {f : KE → Bool} (ok : OkK ks) (he : e ∈ ks) : (ks.any fun x => decide (x.nm = e.nm) && f x) = f e := by
  rw [Bool.eq_iff_iff, List.any_eq_true]
  constructor
  · rintro ⟨x, hx, z⟩
    simp only [Bool.and_eq_true, decide_eq_true_eq] at z
    have := okk_eq ok hx he z.1
    subst this
    exact z.2
  · intro z
    exact ⟨e, he, by simp [z]⟩
theorem anyK_none {f : KE → Bool} (h : ∀ e, e ∈ ks → e.nm ≠ nm) : (ks.any fun x => decide (x.nm = nm) && f x) = false := by
  rw [List.any_eq_false]
  intro x hx z
  simp only [Bool.and_eq_true, decide_eq_true_eq] at z
  exact h x hx z.1
/-! calls -/
theorem c_ckey {q : Array Value} {L' : List (Addr × HO)} {k : Str} (hC : Ctx K B H L I) (p : Pick (a.tb_check_key, .tbl q) L L') (ht : TriplesOk q.toList) (hk : k ∈ NMS) (kk : ∀ q' H1, TriplesOk q'.toList → Ctx K B H1 ((a.tb_check_key, .tbl q') :: L') I → Q .non H1) : sp_check_key K a [.str k] H Q E :=
  ⟨rfl, k, q, L', rfl, hC.lay.pick p, ht, hk, fun H' q' s y t => kk q' H' t (hC.moved s y)⟩
theorem c_span {q : Array Value} {L' : List (Addr × HO)} {t : Addr} {xs : List V} {b : Bool} (hC : Ctx K B H L I) (p : Pick (a.tb_is_span, .tbl q) L L') (ht : TriplesOk q.toList) (hx : SqT K H t xs) (hxs : xs ∈ ALS) (e : spanB xs = b) (kk : ∀ q' H1, TriplesOk q'.toList → Ctx K B H1 ((a.tb_is_span, .tbl q') :: L') I → Q (.bl b) H1) : sp_is_span K a [.ref t] H Q E :=
  ⟨rfl, t, xs, q, L', rfl, hx, hxs, hC.lay.pick p, ht, fun H' q' s y t => by rw [e]; exact kk q' H' t (hC.moved s y)⟩
theorem c_cval {q : Array Value} {L' : List (Addr × HO)} (hC : Ctx K B H L I) (p : Pick (a.tb_check_value, .tbl q) L L') (ht : TriplesOk q.toList) (hv : ValOk v) (kk : ∀ q' H1, TriplesOk q'.toList → Ctx K B H1 ((a.tb_check_value, .tbl q') :: L') I → Q .non H1) : sp_check_value K a [v, .int 0] H Q E :=
  ⟨rfl, v, q, L', rfl, hv, hC.lay.pick p, ht, fun H' q' s y t => kk q' H' t (hC.moved s y)⟩
theorem c_kinit {x dx : Addr} {d al : V} (hC : Ctx K B H ((x, .ins a.c_Kind dx []) :: F) I) (k : ∀ H1, Ctx K B H1 ((x, .ins a.c_Kind dx [("default", d), ("allowed", al)]) :: F) I → Q .non H1) : sp_Kind__init K a [.ref x, d, al] H Q E :=
  ⟨rfl, x, dx, d, al, F, rfl, hC.lay, fun H1 s y => k H1 (hC.moved s y)⟩
theorem c_checkT (hC : Ctx K B H L I) (p : Perm3 L (KT a qk qv qp qc (kcell a e :: F))) (hv : ValOk v) (hal : AlOk K H e.al) (tk : TK qk qv qp qc) (hg : goodV (alX e.al) v = true) (k : ∀ qv' qp' qc' H1, TK qk qv' qp' qc' → Ctx K B H1 (KT a qk qv' qp' qc' (kcell a e :: F)) I → Q .non H1) : sp_Kind_check K a [.ref e.ad, v] H Q E :=
  ⟨rfl, e, v, qk, qv, qp, qc, F, rfl, hv, hal, hC.lay.perm p.lay, tk, fun _ H' qv' qp' qc' s y t => k qv' qp' qc' H' t (hC.moved s y), fun h => by rw [hg] at h; cases h⟩
theorem c_checkF (hC : Ctx K B H L I) (p : Perm3 L (KT a qk qv qp qc (kcell a e :: F))) (hv : ValOk v) (hal : AlOk K H e.al) (tk : TK qk qv qp qc) (hg : goodV (alX e.al) v = false) (k : ∀ qv' qp' qc' H1, TK qk qv' qp' qc' → Ctx K B H1 (KT a qk qv' qp' qc' (kcell a e :: F)) I → E (.ref a.c_NameFault) none H1) : sp_Kind_check K a [.ref e.ad, v] H Q E :=
  ⟨rfl, e, v, qk, qv, qp, qc, F, rfl, hv, hal, hC.lay.perm p.lay, tk, fun h => (by rw [hg] at h; cases h), fun _ H' qv' qp' qc' s y t => k qv' qp' qc' H' t (hC.moved s y)⟩
theorem c_kind (hC : Ctx K B H L I) (p : Perm3 L (SL a so dx kd rd od ud ks rows own rules F)) (ok : OkK ks) (he : e ∈ ks) (hn : e.nm = nm) (k : Q (.ref e.ad) H) : sp_Settings_kind_of K a [.ref so, .str nm] H Q E :=
  ⟨rfl, so, dx, kd, rd, od, ud, nm, ks, rows, rules, own, F, rfl, ok, hC.lay.perm p.lay, fun f hf q => by rw [okk_eq ok hf he (q.trans hn.symm)]; exact k, fun h => absurd hn (h e he)⟩
theorem c_kindF (hC : Ctx K B H L I) (p : Perm3 L (SL a so dx kd rd od ud ks rows own rules F)) (ok : OkK ks) (hn : ∀ e, e ∈ ks → e.nm ≠ nm) (k : ∀ H1, Ctx K B H1 L I → E (.ref a.c_NameFault) none H1) : sp_Settings_kind_of K a [.ref so, .str nm] H Q E :=
  ⟨rfl, so, dx, kd, rd, od, ud, nm, ks, rows, rules, own, F, rfl, ok, hC.lay.perm p.lay, fun f hf q => absurd q (hn f hf), fun _ H' s y => k H' (hC.moved s (y.perm p.lay.symm))⟩
end
section
variable {K : PySem.W.Frag} {H : Hp} {Q : VK}
def isI : V → Bool
  | .int _ => true
  | _ => false
theorem s_isvB {v : V} (h : scaB v = true) (k : Q (.bl (isB v)) H) : rIsi K [v, .ty "bool"] H Q := by
  cases v with
  | non => exact s_isiN_bool k
  | int i => exact s_isiI_bool k
  | bl b => exact s_isiB_bool k
  | str x => exact s_isiS_bool k
  | _ => cases h
theorem s_isvI {v : V} (h : scaB v = true) (k : Q (.bl (isI v || isB v)) H) : rIsi K [v, .ty "int"] H Q := by
  cases v with
  | non => exact s_isiN_int k
  | int i => exact s_isiI_int k
  | bl b => exact s_isiB_int k
  | str x => exact s_isiS_int k
  | _ => cases h
theorem s_isvT {v : V} (h : scaB v = true) (k : Q (.bl false) H) : rIsi K [v, .ty "tuple"] H Q := by
  cases v with
  | non => exact s_isiN_tuple k
  | int i => exact s_isiI_tuple k
  | bl b => exact s_isiB_tuple k
  | str x => exact s_isiS_tuple k
  | _ => cases h
theorem s_eqV {v o : V} (h : scaB v = true) (h2 : scaB o = true) (k : Q (.bl (eqPy v o)) H) : rEqU K v o H Q := s_eqD (sca_td h).dp (sca_td h2).dp (sca_sh h) (sca_sh h2) k
theorem s_neV {v o : V} (h : scaB v = true) (h2 : scaB o = true) (k : Q (.bl (!eqPy v o)) H) : rNeU K v o H Q := s_neD (sca_td h).dp (sca_td h2).dp (sca_sh h) (sca_sh h2) k
theorem als_sca : ∀ xs, xs ∈ ALS → ∀ o, o ∈ xs → scaB o = true := by decide +kernel
theorem als_len : ∀ xs, xs ∈ ALS → xs.length = 2 := by decide +kernel
end
theorem alok_mono {K : PySem.W.Frag} {H H' : Hp} {o : Option (Addr × List V)} (s : Stb H H') (h : AlOk K H o) : AlOk K H' o := fun p hp => ⟨Im.mono (K := K) (i := .tup p.1 p.2) s (h p hp).1, (h p hp).2⟩
theorem ksok_mono {K : PySem.W.Frag} {H H' : Hp} {ks : List KE} (s : Stb H H') (h : KsOk K H ks) : KsOk K H' ks := fun e he => alok_mono s (h e he)
theorem kindsK_len {ks : List KE} : (kindsK ks).length = ks.length := by unfold kindsK; rw [List.length_map]
theorem kindsK_add {ks : List KE} {e : KE} (h : ∀ f, f ∈ ks → f.nm ≠ e.nm) : putR (kindsK ks) e.nm (.ref e.ad) = kindsK (ks ++ [e]) := by
  rw [putR_new (kinds_none h)]
  unfold kindsK
  rw [List.map_append]; rfl
section
variable {K : PySem.W.Frag} {a : Adr} {B H : Hp} {Q : VK} {E : XK} {L F O : List (Addr × HO)} {I : List Im}
variable {ks : List KE} {e : KE} {nm : Str} {so dx kd rd od ud : Addr} {rows rules : List (Str × V)} {own : List ((Str × Str) × V)} {qk qv qp qc qs : Array Value} {v df : V} {p : Option Str} {al : Option (Addr × List V)}
theorem s_isNv {v : V} (h : scaB v = true) (hn : v ≠ .non) (k : Q (.bl false) H) : rIsU v .non H Q := by
  cases v with
  | non => exact absurd rfl hn
  | int i => exact s_uIsN_int k
  | bl b => exact s_uIsN_bl k
  | str x => exact s_uIsN_str k
  | _ => cases h
theorem kind_or (ks : List KE) (nm : Str) : (∀ e, e ∈ ks → e.nm ≠ nm) ∨ ∃ e, e ∈ ks ∧ e.nm = nm := by
  by_cases hn : ∀ e, e ∈ ks → e.nm ≠ nm
  · exact .inl hn
  · refine .inr (Classical.byContradiction fun z => hn fun e he q => z ⟨e, he, q⟩)
theorem setB_of (ok : OkK ks) (he : e ∈ ks) : setB ks rules e.nm v = (goodV (alX e.al) v && (look rules e.nm).isNone) := by
  unfold setB; rw [anyK_of (f := fun e => goodV (alX e.al) v) ok he]
theorem ruleB_of (ok : OkK ks) (he : e ∈ ks) : ruleB ks e.nm v = (decide (v = .non) || goodV (alX e.al) v) := by
  unfold ruleB; rw [anyK_of (f := fun e => (decide (v = .non) || goodV (alX e.al) v)) ok he]
theorem setB_no (h : ∀ e, e ∈ ks → e.nm ≠ nm) : setB ks rules nm v = false := by
  unfold setB; rw [anyK_none (f := fun e => goodV (alX e.al) v) h]; rfl
theorem ruleB_no (h : ∀ e, e ∈ ks → e.nm ≠ nm) : ruleB ks nm v = false := by
  unfold ruleB; rw [anyK_none (f := fun e => (decide (v = .non) || goodV (alX e.al) v)) h]
theorem c_value (hC : Ctx K B H L I) (pm : Perm3 L (SL a so dx kd rd od ud ks rows own rules F)) (ok : OkK ks) (he : e ∈ ks) (hn : e.nm = nm) (k : ∀ H1, Ctx K B H1 L I → Q (valE e rows own rules p) H1) : sp_Settings_value K a [.ref so, .str nm, pV p] H Q E :=
  ⟨rfl, so, dx, kd, rd, od, ud, nm, p, ks, rows, rules, own, F, rfl, ok, hC.lay.perm pm.lay, fun f hf q H1 s y => by rw [okk_eq ok hf he (q.trans hn.symm)]; exact k H1 (hC.moved s (y.perm pm.lay.symm)), fun h => absurd hn (h e he)⟩
theorem c_valueF (hC : Ctx K B H L I) (pm : Perm3 L (SL a so dx kd rd od ud ks rows own rules F)) (ok : OkK ks) (hn : ∀ e, e ∈ ks → e.nm ≠ nm) (k : ∀ H1, Ctx K B H1 L I → E (.ref a.c_NameFault) none H1) : sp_Settings_value K a [.ref so, .str nm, pV p] H Q E :=
  ⟨rfl, so, dx, kd, rd, od, ud, nm, p, ks, rows, rules, own, F, rfl, ok, hC.lay.perm pm.lay, fun f hf q => absurd q (hn f hf), fun _ H1 s y => k H1 (hC.moved s (y.perm pm.lay.symm))⟩
theorem c_declT (hC : Ctx K B H L I) (pm : Perm3 L (KT a qk qv qp qc (SL a so dx kd rd od ud ks rows own rules F))) (hdf : ValOk df) (hal : AlOk K H al) (hnm : nm ∈ NMS) (ok : OkK ks) (hl : ks.length ≤ 9) (tk : TK qk qv qp qc) (h1 : ∀ e, e ∈ ks → e.nm ≠ nm) (h2 : goodV (alX al) df = true)
    (k : ∀ ad d qk qv qp qc H1, TK qk qv qp qc → Ctx K B H1 (KT a qk qv qp qc (SL a so dx kd rd od ud (ks ++ [⟨nm, df, al, ad, d⟩]) rows own rules F)) I → Q .non H1) : sp_Settings_declare K a [.ref so, .str nm, df, alV al] H Q E :=
  ⟨rfl, so, dx, kd, rd, od, ud, nm, df, al, ks, rows, rules, own, qk, qv, qp, qc, F, rfl, hdf, hal, hnm, ok, hl, hC.lay.perm pm.lay, tk, fun _ _ H1 ad d qk qv qp qc s y t => k ad d qk qv qp qc H1 t (hC.moved s y), fun h => absurd ⟨h1, h2⟩ h⟩
theorem c_declF (hC : Ctx K B H L I) (pm : Perm3 L (KT a qk qv qp qc (SL a so dx kd rd od ud ks rows own rules F))) (hdf : ValOk df) (hal : AlOk K H al) (hnm : nm ∈ NMS) (ok : OkK ks) (hl : ks.length ≤ 9) (tk : TK qk qv qp qc) (h1 : ¬ ((∀ e, e ∈ ks → e.nm ≠ nm) ∧ goodV (alX al) df = true))
    (k : ∀ qk qv qp qc H1, TK qk qv qp qc → Ctx K B H1 (KT a qk qv qp qc (SL a so dx kd rd od ud ks rows own rules F)) I → E (.ref a.c_NameFault) none H1) : sp_Settings_declare K a [.ref so, .str nm, df, alV al] H Q E :=
  ⟨rfl, so, dx, kd, rd, od, ud, nm, df, al, ks, rows, rules, own, qk, qv, qp, qc, F, rfl, hdf, hal, hnm, ok, hl, hC.lay.perm pm.lay, tk, fun x1 x2 => absurd ⟨x1, x2⟩ h1, fun _ H1 qk qv qp qc s y t => k qk qv qp qc H1 t (hC.moved s y)⟩
theorem c_set (hC : Ctx K B H L I) (pm : Perm3 L (KT a qk qv qp qc (SL a so dx kd rd od ud ks rows own rules F))) (hv : ValOk v) (hk : KsOk K H ks) (ok : OkK ks) (h1 : rows.length ≤ 1000) (h2 : own.length ≤ 1000) (tk : TK qk qv qp qc)
    (kT : setB ks rules nm v = true → ∀ qv qp qc H1, TK qk qv qp qc → Ctx K B H1 (KT a qk qv qp qc (SL a so dx kd rd od ud ks (rowsS rows nm v p) (ownS own nm v p) rules F)) I → Q .non H1)
    (kF : setB ks rules nm v = false → ∀ qv qp qc H1, TK qk qv qp qc → Ctx K B H1 (KT a qk qv qp qc (SL a so dx kd rd od ud ks rows own rules F)) I → E (.ref a.c_NameFault) none H1) : sp_Settings_set_value K a [.ref so, .str nm, v, pV p] H Q E :=
  ⟨rfl, so, dx, kd, rd, od, ud, nm, v, p, ks, rows, rules, own, qk, qv, qp, qc, F, rfl, hv, hk, ok, h1, h2, hC.lay.perm pm.lay, tk, fun b H1 qv qp qc s y t => kT b qv qp qc H1 t (hC.moved s y), fun b H1 qv qp qc s y t => kF b qv qp qc H1 t (hC.moved s y)⟩
theorem c_clear (hC : Ctx K B H L I) (pm : Perm3 L (SL a so dx kd rd od ud ks rows own rules F)) (ok : OkK ks)
    (kT : (∃ e, e ∈ ks ∧ e.nm = nm) → ∀ H1, Ctx K B H1 (SL a so dx kd rd od ud ks (rowsC rows nm p) (ownC own nm p) rules F) I → Q .non H1)
    (kF : (∀ e, e ∈ ks → e.nm ≠ nm) → ∀ H1, Ctx K B H1 (SL a so dx kd rd od ud ks rows own rules F) I → E (.ref a.c_NameFault) none H1) : sp_Settings_clear K a [.ref so, .str nm, pV p] H Q E :=
  ⟨rfl, so, dx, kd, rd, od, ud, nm, p, ks, rows, rules, own, F, rfl, ok, hC.lay.perm pm.lay, fun b H1 s y => kT b H1 (hC.moved s y), fun b H1 s y => kF b H1 (hC.moved s y)⟩
theorem c_rule (hC : Ctx K B H L I) (pm : Perm3 L (KT a qk qv qp qc (SL a so dx kd rd od ud ks rows own rules F))) (hv : ValOk v) (hk : KsOk K H ks) (ok : OkK ks) (h1 : rules.length ≤ 1000) (tk : TK qk qv qp qc)
    (kT : ruleB ks nm v = true → ∀ qv qp qc H1, TK qk qv qp qc → Ctx K B H1 (KT a qk qv qp qc (SL a so dx kd rd od ud ks rows own (rulesS rules nm v) F)) I → Q .non H1)
    (kF : ruleB ks nm v = false → ∀ qv qp qc H1, TK qk qv qp qc → Ctx K B H1 (KT a qk qv qp qc (SL a so dx kd rd od ud ks rows own rules F)) I → E (.ref a.c_NameFault) none H1) : sp_Settings_rule K a [.ref so, .str nm, v] H Q E :=
  ⟨rfl, so, dx, kd, rd, od, ud, nm, v, ks, rows, rules, own, qk, qv, qp, qc, F, rfl, hv, hk, ok, h1, hC.lay.perm pm.lay, tk, fun b H1 qv qp qc s y t => kT b qv qp qc H1 t (hC.moved s y), fun b H1 qv qp qc s y t => kF b qv qp qc H1 t (hC.moved s y)⟩
end
section
variable {K : PySem.W.Frag} {a : Adr} {B H : Hp} {Q : VK} {E : XK} {L : List (Addr × HO)} {I : List Im} {v : V} {al : Option (Addr × List V)}
theorem sca_flat {v : V} (h : scaB v = true) : flatV v = true := by
  cases v with
  | non => rfl
  | int i => rfl
  | bl b => rfl
  | str x => rfl
  | _ => cases h
theorem eqV_py {v o : V} (h : scaB v = true) (h2 : scaB o = true) : eqV o v = eqPy v o := by
  cases v with
  | non => cases o with
    | non => rfl
    | int i => simp [eqV, eqPy, dV, PyData.eqv]
    | bl b => simp [eqV, eqPy, dV, PyData.eqv]
    | str x => simp [eqV, eqPy, dV, PyData.eqv]
    | _ => cases h2
  | int i => cases o with
    | non => simp [eqV, eqPy, dV, PyData.eqv]
    | int j => (simp [eqV, eqPy, dV, PyData.eqv]; exact BEq.comm)
    | bl b => (simp [eqV, eqPy, dV, PyData.eqv]; exact BEq.comm)
    | str x => simp [eqV, eqPy, dV, PyData.eqv]
    | _ => cases h2
  | bl c => cases o with
    | non => simp [eqV, eqPy, dV, PyData.eqv]
    | int j => (simp [eqV, eqPy, dV, PyData.eqv]; exact BEq.comm)
    | bl b => cases b <;> cases c <;> rfl
    | str x => simp [eqV, eqPy, dV, PyData.eqv]
    | _ => cases h2
  | str z => cases o with
    | non => simp [eqV, eqPy, dV, PyData.eqv]
    | int j => simp [eqV, eqPy, dV, PyData.eqv]
    | bl b => simp [eqV, eqPy, dV, PyData.eqv]
    | str x => (simp [eqV, eqPy, dV, PyData.eqv]; exact BEq.comm)
    | _ => cases h2
  | _ => cases h
theorem s_inF {p : Addr} {xs : List V} (m : SqT K H p xs) (hv : scaB v = true) (hx : ∀ o, o ∈ xs → scaB o = true) (q : Q (.bl (xs.any fun o => eqPy v o)) H) : rInV K v (.ref p) H Q :=
  .inl (.inl ⟨p, _, rfl, .inr m, sca_flat hv, List.all_eq_true.mpr fun o ho => sca_flat (hx o ho), by
    rw [if_neg Bool.false_ne_true]
    have e : inV v xs = xs.any fun o => eqPy v o := by
      unfold inV
      rw [Bool.eq_iff_iff, List.any_eq_true, List.any_eq_true]
      constructor
      · rintro ⟨o, ho, z⟩; exact ⟨o, ho, by rw [← eqV_py hv (hx o ho)]; exact z⟩
      · rintro ⟨o, ho, z⟩; exact ⟨o, ho, by rw [eqV_py hv (hx o ho)]; exact z⟩
    rw [e]; exact q⟩)
theorem any_const {xs : List V} {c : Bool} (h : ∀ o, o ∈ xs → isB o = c) : (xs.any fun o => eqPy v o && (isB v == isB o)) = ((xs.any fun o => eqPy v o) && (isB v == c)) := by
  rw [Bool.eq_iff_iff, Bool.and_eq_true, List.any_eq_true, List.any_eq_true]
  constructor
  · rintro ⟨o, ho, z⟩
    rw [Bool.and_eq_true, h o ho] at z
    exact ⟨⟨o, ho, z.1⟩, z.2⟩
  · rintro ⟨⟨o, ho, z⟩, w⟩
    exact ⟨o, ho, by rw [Bool.and_eq_true, h o ho]; exact ⟨z, w⟩⟩
theorem c_allowed (hC : Ctx K B H L I) (hv : ValOk v) (hal : AlOk K H al) (k : ∀ H1, Ctx K B H1 L I → Q (.bl (goodV (alX al) v)) H1) : sp_law_allowed K a [alV al, v] H Q E :=
  ⟨rfl, v, al, L, rfl, hv, hal, hC.lay, fun H1 s y => k H1 (hC.moved s y)⟩
theorem c_shown {so dx kd rd od ud : Addr} {ks : List KE} {rows rules : List (Str × V)} {own : List ((Str × Str) × V)} {qs : Array Value} {F : List (Addr × HO)} (hC : Ctx K B H L I) (pm : Perm3 L ((a.tb_Settings_shown, .tbl qs) :: SL a so dx kd rd od ud ks rows own rules F)) (ok : OkK ks) (ht : TriplesOk qs.toList) (hv : ∀ e, e ∈ ks → ValOk (valE e rows own rules none))
    (k : ∀ H1 p vr qs', TriplesOk qs'.toList → Ctx K B H1 ((a.tb_Settings_shown, .tbl qs') :: SL a so dx kd rd od ud ks rows own rules F) (.tup p vr :: .dats vr ((srtT (ks.map fun e => e.nm)).map fun n => .tuple [.str n, (((ks.find? fun e => decide (e.nm = n)).map fun e => dV (valE e rows own rules none)).getD .none)]) :: I) → Q (.ref p) H1) : sp_Settings_shown K a [.ref so] H Q E :=
  ⟨rfl, so, dx, kd, rd, od, ud, ks, rows, rules, own, qs, F, rfl, ok, hC.lay.perm pm.lay, ht, hv, fun H1 p vr qs' s y t h1 h2 => k H1 p vr qs' t (((hC.moved s y).add (i := .dats vr _) h2).add (i := .tup p vr) h1)⟩
end
/-! the law's table of settings -/
structure QE where
  nm : Str
  df : V
  al : Option (Addr × List V)
  u : Addr
def qOk (K : PySem.W.Frag) (H : Hp) (qs : List QE) : Prop := ∀ q, q ∈ qs → SqT K H q.u [q.df, alV q.al] ∧ AlOk K H q.al
theorem qok_mono {K : PySem.W.Frag} {H H' : Hp} {qs : List QE} (s : Stb H H') (h : qOk K H qs) : qOk K H' qs := fun q hq => ⟨s.sqt (h q hq).1, alok_mono s (h q hq).2⟩
abbrev imQ (K : PySem.W.Frag) (qs : List QE) : Im := .pr (fun H => qOk K H qs) (fun _ _ s h => qok_mono s h)
def kd2 (qs : List QE) : List (Str × V) := qs.map fun q => (q.nm, V.ref q.u)
structure QsOk (qs : List QE) : Prop where
  nms : qs.map (fun q => q.nm) = (["volume", "dark", "name", "mode"] : List Str)
  ok : ∀ q, q ∈ qs → ValOk q.df ∧ goodV (alX q.al) q.df = true
def Mat (ks : List KE) (qs : List QE) : Prop := ks.map (fun e => (e.nm, e.df, e.al)) = qs.map fun q => (q.nm, q.df, q.al)
theorem Mat.nms {ks : List KE} {qs : List QE} (h : Mat ks qs) : ks.map (fun e => e.nm) = qs.map fun q => q.nm := by
  have := congrArg (List.map fun x : Str × V × Option (Addr × List V) => x.1) h
  rw [List.map_map, List.map_map] at this
  exact this
theorem Mat.of {ks : List KE} {qs : List QE} (h : Mat ks qs) {q : QE} (hq : q ∈ qs) : ∃ e, e ∈ ks ∧ e.nm = q.nm ∧ e.df = q.df ∧ e.al = q.al := by
  have : (q.nm, q.df, q.al) ∈ ks.map (fun e => (e.nm, e.df, e.al)) := by rw [h]; exact List.mem_map.mpr ⟨q, hq, rfl⟩
  obtain ⟨e, he, z⟩ := List.mem_map.mp this
  injection z with z1 z
  injection z with z2 z3
  exact ⟨e, he, z1, z2, z3⟩
theorem Mat.back {ks : List KE} {qs : List QE} (h : Mat ks qs) {e : KE} (he : e ∈ ks) : ∃ q, q ∈ qs ∧ q.nm = e.nm ∧ q.df = e.df ∧ q.al = e.al := by
  have : (e.nm, e.df, e.al) ∈ qs.map (fun q => (q.nm, q.df, q.al)) := by rw [← h]; exact List.mem_map.mpr ⟨e, he, rfl⟩
  obtain ⟨q, hq, z⟩ := List.mem_map.mp this
  injection z with z1 z
  injection z with z2 z3
  exact ⟨q, hq, z1, z2, z3⟩
theorem QsOk.nd {qs : List QE} (h : QsOk qs) : (qs.map fun q => q.nm).Nodup := by rw [h.nms]; decide +kernel
theorem QsOk.len {qs : List QE} (h : QsOk qs) : qs.length = 4 := by
  have := congrArg List.length h.nms
  rw [List.length_map] at this
  exact this
theorem kd2_len {qs : List QE} : (kd2 qs).length = qs.length := by unfold kd2; rw [List.length_map]
theorem kd2_look {qs : List QE} (h : QsOk qs) {q : QE} (hq : q ∈ qs) : look (kd2 qs) q.nm = some (.ref q.u) := look_of_mem (by unfold kd2; rw [List.map_map]; exact h.nd) (List.mem_map.mpr ⟨q, hq, rfl⟩)
theorem kd2_none {qs : List QE} {nm : Str} (h : ∀ q, q ∈ qs → q.nm ≠ nm) : look (kd2 qs) nm = none := look_none.mpr fun p hp => by
  obtain ⟨q, hq, rfl⟩ := List.mem_map.mp hp
  exact h q hq
theorem okk_of {ks : List KE} {qs : List QE} (h : Mat ks qs) (hq : QsOk qs) : OkK ks := ⟨by have := congrArg List.length h.nms; rw [List.length_map, List.length_map, hq.len] at this; omega, by rw [h.nms]; exact hq.nd⟩
theorem ksok_of {K : PySem.W.Frag} {H : Hp} {ks : List KE} {qs : List QE} (h : Mat ks qs) (hq : qOk K H qs) : KsOk K H ks := fun e he => by
  obtain ⟨q, hm, _, _, h3⟩ := h.back he
  rw [← h3]
  exact (hq q hm).2
abbrev SWL (a : Adr) (dd : Addr) (i j l : Int) (kL dL oL rL : Addr) (qsh tbS qk qv qp qc : Array Value) (so dx kd rd od ud : Addr) (ks : List KE) (qs : List QE) (rows rules rulesL : List (Str × V)) (own : List ((Str × Str) × V)) (F : List (Addr × HO)) : List (Addr × HO) :=
  (dd, .lst [.int i, .int j, .int l]) :: (a.tb_Settings_shown, .tbl qsh) :: (a.tb_law_settings, .tbl tbS) :: (kL, .dK (mK id (kd2 qs))) :: (dL, .dK (mK id rows)) :: (oL, .dT (mP id own)) :: (rL, .dK (mK id rulesL)) :: KT a qk qv qp qc (SL a so dx kd rd od ud ks rows own rules F)
abbrev wImS (K : PySem.W.Frag) (qs : List QE) (qsh tbS : Array Value) : List Im := [imQ K qs, .tri qsh, .tab (lamq "_law_settings") tbS]
/-- what the law's tables keep -/
structure SI (n : Nat) (ks : List KE) (qs : List QE) (rows rules rulesL : List (Str × V)) (own : List ((Str × Str) × V)) : Prop where
  mat : Mat ks qs
  qok : QsOk qs
  l1 : rows.length ≤ n
  l2 : own.length ≤ n
  l3 : rules.length ≤ n
  l4 : rulesL.length ≤ n
  n1 : (rows.map (·.1)).Nodup
  n2 : (own.map (·.1)).Nodup
  n4 : (rulesL.map (·.1)).Nodup
  v1 : ∀ p, p ∈ rows → ValOk p.2 ∧ ∃ q, q ∈ qs ∧ q.nm = p.1
  v2 : ∀ p, p ∈ own → ValOk p.2 ∧ ∃ q, q ∈ qs ∧ q.nm = p.1.2
  v3 : ∀ p, p ∈ rules → ValOk p.2
  eq : ∀ x, look rulesL x = look rules x
  v5 : ∀ p, p ∈ own → PyData.strOk p.1.1 = true
theorem look_val {κ : Type} [DecidableEq κ] {l : List (κ × V)} {k : κ} {v : V} (h : ∀ p, p ∈ l → ValOk p.2) (e : look l k = some v) : ValOk v := h _ (look_some e)
theorem SI.val {n : Nat} {ks : List KE} {qs : List QE} {rows rules rulesL : List (Str × V)} {own : List ((Str × Str) × V)} (h : SI n ks qs rows rules rulesL own) {e : KE} (he : e ∈ ks) (p : Option Str) : ValOk (valE e rows own rules p) := by
  unfold valE
  cases h1 : look rules e.nm with
  | some v => exact look_val h.v3 h1
  | none =>
    cases h2 : ownL own e.nm p with
    | some v =>
      cases p with
      | none => cases h2
      | some s => exact look_val (fun p hp => (h.v2 p hp).1) (show look own (s, e.nm) = some v from h2)
    | none =>
      cases h3 : look rows e.nm with
      | some v => exact look_val (fun p hp => (h.v1 p hp).1) h3
      | none =>
        obtain ⟨q, hq, _, h5, _⟩ := h.mat.back he
        show ValOk e.df
        rw [← h5]
        exact (h.qok.ok q hq).1
theorem sca_refl {v : V} (h : scaB v = true) : eqPy v v = true := by
  rw [← eqV_py h h]
  cases v with
  | non => rfl
  | int i => simp [eqV]
  | bl b => cases b <;> rfl
  | str x => simp [eqV]
  | _ => cases h
/-! the plain law's steps -/
theorem putR_keys {κ : Type} [DecidableEq κ] {l : List (κ × V)} {k : κ} {v : V} (nd : (l.map (·.1)).Nodup) : ((putR l k v).map (·.1)).Nodup := by
  cases h : look l k with
  | none =>
    rw [putR_new h, List.map_append]
    refine List.nodup_append.mpr ⟨nd, by simp, ?_⟩
    intro a ha b hb
    obtain ⟨p, hp, rfl⟩ := List.mem_map.mp ha
    rw [List.map_cons, List.map_nil, List.mem_singleton] at hb
    rw [hb]
    exact look_none.mp h p hp
  | some w =>
    have : (putR l k v).map (·.1) = l.map (·.1) := by
      unfold putR
      rw [look_any, h, if_pos (show (some w).isSome = true from rfl), List.map_map]
      refine List.map_congr_left fun p _ => ?_
      show (if p.1 = k then (p.1, v) else p).1 = p.1
      split <;> rfl
    rw [this]; exact nd
theorem putR_mem {κ : Type} [DecidableEq κ] {l : List (κ × V)} {k : κ} {v : V} {p : κ × V} (h : p ∈ putR l k v) : p ∈ l ∨ p = (k, v) := by
  unfold putR at h
  split at h
  · obtain ⟨q, hq, rfl⟩ := List.mem_map.mp h
    by_cases c : q.1 = k
    · rw [if_pos c]; right; rw [c]
    · rw [if_neg c]; exact .inl hq
  · rcases List.mem_append.mp h with h | h
    · exact .inl h
    · exact .inr (List.mem_singleton.mp h)
section
variable {n : Nat} {ks : List KE} {qs : List QE} {rows rules rulesL : List (Str × V)} {own : List ((Str × Str) × V)} {nm : Str} {v : V}
theorem SI.up (h : SI n ks qs rows rules rulesL own) : SI (n + 1) ks qs rows rules rulesL own :=
  ⟨h.mat, h.qok, Nat.le_succ_of_le h.l1, Nat.le_succ_of_le h.l2, Nat.le_succ_of_le h.l3, Nat.le_succ_of_le h.l4, h.n1, h.n2, h.n4, h.v1, h.v2, h.v3, h.eq, h.v5⟩
theorem SI.setRow (h : SI n ks qs rows rules rulesL own) (hv : ValOk v) (hq : ∃ q, q ∈ qs ∧ q.nm = nm) : SI (n + 1) ks qs (putR rows nm v) rules rulesL own :=
  ⟨h.mat, h.qok, Nat.le_trans putR_len (Nat.succ_le_succ h.l1), Nat.le_succ_of_le h.l2, Nat.le_succ_of_le h.l3, Nat.le_succ_of_le h.l4, putR_keys h.n1, h.n2, h.n4,
    fun p hp => by
      rcases putR_mem hp with hp | rfl
      · exact h.v1 p hp
      · exact ⟨hv, hq⟩, h.v2, h.v3, h.eq, h.v5⟩
theorem SI.setOwn {s : Str} (hs : PyData.strOk s = true) (h : SI n ks qs rows rules rulesL own) (hv : ValOk v) (hq : ∃ q, q ∈ qs ∧ q.nm = nm) : SI (n + 1) ks qs rows rules rulesL (putR own (s, nm) v) :=
  ⟨h.mat, h.qok, Nat.le_succ_of_le h.l1, Nat.le_trans putR_len (Nat.succ_le_succ h.l2), Nat.le_succ_of_le h.l3, Nat.le_succ_of_le h.l4, h.n1, putR_keys h.n2, h.n4, h.v1,
    fun p hp => by
      rcases putR_mem hp with hp | rfl
      · exact h.v2 p hp
      · exact ⟨hv, hq⟩, h.v3, h.eq, fun p hp => by
      rcases putR_mem hp with hp | rfl
      · exact h.v5 p hp
      · exact hs⟩
theorem del_keys {κ : Type} [DecidableEq κ] {l : List (κ × V)} {k : κ} (nd : (l.map (·.1)).Nodup) : ((delR l k).map (·.1)).Nodup := nd.sublist ((List.filter_sublist).map _)
theorem SI.clr {p : Option Str} (h : SI n ks qs rows rules rulesL own) : SI (n + 1) ks qs (rowsC rows nm p) rules rulesL (ownC own nm p) := by
  cases p with
  | none => exact ⟨h.mat, h.qok, Nat.le_succ_of_le (Nat.le_trans (List.length_filter_le _ _) h.l1), Nat.le_succ_of_le h.l2, Nat.le_succ_of_le h.l3, Nat.le_succ_of_le h.l4, del_keys h.n1, h.n2, h.n4, fun p hp => h.v1 p (List.mem_filter.mp hp).1, h.v2, h.v3, h.eq, h.v5⟩
  | some s => exact ⟨h.mat, h.qok, Nat.le_succ_of_le h.l1, Nat.le_succ_of_le (Nat.le_trans (List.length_filter_le _ _) h.l2), Nat.le_succ_of_le h.l3, Nat.le_succ_of_le h.l4, h.n1, del_keys h.n2, h.n4, h.v1, fun p hp => h.v2 p (List.mem_filter.mp hp).1, h.v3, h.eq, fun p hp => h.v5 p (List.mem_filter.mp hp).1⟩
/-- the rules as the law keeps them -/
def rulesW (rulesL : List (Str × V)) (nm : Str) (v : V) : List (Str × V) := delR rulesL nm ++ (if v = .non then [] else [(nm, v)])
theorem look_del' {κ : Type} [DecidableEq κ] {l : List (κ × V)} {k j : κ} : look (delR l k) j = if j = k then none else look l j := look_del
theorem SI.rul (h : SI n ks qs rows rules rulesL own) (hv : ValOk v) : SI (n + 1) ks qs rows (rulesS rules nm v) (rulesW rulesL nm v) own := by
  refine ⟨h.mat, h.qok, Nat.le_succ_of_le h.l1, Nat.le_succ_of_le h.l2, ?_, ?_, h.n1, h.n2, ?_, h.v1, h.v2, ?_, ?_, h.v5⟩
  · unfold rulesS
    split
    · exact Nat.le_succ_of_le (Nat.le_trans (List.length_filter_le _ _) h.l3)
    · exact Nat.le_trans putR_len (Nat.succ_le_succ h.l3)
  · unfold rulesW
    rw [List.length_append]
    have := Nat.le_trans (List.length_filter_le (fun p : Str × V => decide (p.1 ≠ nm)) rulesL) h.l4
    unfold delR
    split
    · simp only [List.length_nil]; omega
    · simp only [List.length_cons, List.length_nil]; omega
  · unfold rulesW
    split
    · rw [List.append_nil]; exact del_keys h.n4
    · rw [List.map_append]
      refine List.nodup_append.mpr ⟨del_keys h.n4, by simp, ?_⟩
      intro a ha b hb
      obtain ⟨p, hp, rfl⟩ := List.mem_map.mp ha
      rw [List.map_cons, List.map_nil, List.mem_singleton] at hb
      rw [hb]
      exact of_decide_eq_true (List.mem_filter.mp hp).2
  · unfold rulesS
    split
    · exact fun p hp => h.v3 p (List.mem_filter.mp hp).1
    · intro p hp
      rcases putR_mem hp with hp | rfl
      · exact h.v3 p hp
      · exact hv
  · intro x
    unfold rulesS rulesW
    split
    · rw [List.append_nil, look_del', look_del', h.eq]
    · rw [look_app, look_del', look_put, look_cons, look_nil]
      by_cases c : x = nm
      · rw [if_pos c, if_pos c]; subst c; simp
      · rw [if_neg c, if_neg c, if_neg (fun z : nm = x => c z.symm), h.eq]; simp
end
/-! people -/
section
variable {K : PySem.W.Frag} {a : Adr} {B H : Hp} {Q : VK} {E : XK} {L F : List (Addr × HO)} {I : List Im} {po dx cd ad : Addr} {codes : List (Str × V)} {aps : Aps} {here : Option Str} {fl un t : Int} {nm x : Str} {c : V} {q qr qh : Array Value}
theorem c_cname (hC : Ctx K B H L I) (pm : Perm3 L ((a.tb_check_name, .tbl q) :: F)) (ht : TriplesOk q.toList) (hn : nm ∈ PNM) (k : ∀ q' H1, TriplesOk q'.toList → Ctx K B H1 ((a.tb_check_name, .tbl q') :: F) I → Q .non H1) : sp_check_name K a [.str nm] H Q E :=
  ⟨rfl, nm, q, F, rfl, hC.lay.perm pm.lay, ht, .inl hn, fun _ H' q' s y t => k q' H' t (hC.moved s y), fun h => by rw [h] at hn; exact absurd hn (by decide +kernel)⟩
theorem c_cnameF (hC : Ctx K B H L I) (pm : Perm3 L ((a.tb_check_name, .tbl q) :: F)) (ht : TriplesOk q.toList) (k : ∀ q' H1, TriplesOk q'.toList → Ctx K B H1 ((a.tb_check_name, .tbl q') :: F) I → E (.ref a.c_NameFault) none H1) : sp_check_name K a [.str "A"] H Q E :=
  ⟨rfl, "A", q, F, rfl, hC.lay.perm pm.lay, ht, .inr rfl, fun h => absurd h (by decide +kernel), fun _ H' q' s y t => k q' H' t (hC.moved s y)⟩
theorem c_pinit {po dx : Addr} (hC : Ctx K B H L I) (pm : Perm3 L ((po, .ins a.c_People dx []) :: (a.tb_check_name, .tbl q) :: F)) (ht : TriplesOk q.toList)
    (k : ∀ cd ad d1 q' H1, TriplesOk q'.toList → Ctx K B H1 (PL a po dx cd ad [("ann", .non)] [("ann", d1, [])] (some "ann") 0 0 ((a.tb_check_name, .tbl q') :: F)) I → Q .non H1) : sp_People__init K a [.ref po, .str "ann"] H Q E :=
  ⟨rfl, po, dx, "ann", q, F, rfl, hC.lay.perm pm.lay, ht, .inl rfl, fun _ H' cd ad d1 q' s y t => k cd ad d1 q' H' t (hC.moved s y), fun h => absurd h (by decide +kernel)⟩
theorem c_pinitF {po dx : Addr} (hC : Ctx K B H L I) (pm : Perm3 L ((po, .ins a.c_People dx []) :: (a.tb_check_name, .tbl q) :: F)) (ht : TriplesOk q.toList)
    (k : ∀ q' H1, TriplesOk q'.toList → Ctx K B H1 ((a.tb_check_name, .tbl q') :: F) I → E (.ref a.c_NameFault) none H1) : sp_People__init K a [.ref po, .str "A"] H Q E :=
  ⟨rfl, po, dx, "A", q, F, rfl, hC.lay.perm pm.lay, ht, .inr rfl, fun h => absurd h (by decide +kernel), fun _ H' q' s y t => k q' H' t (hC.moved s y)⟩
theorem c_need (hC : Ctx K B H L I) (pm : Perm3 L (PL a po dx cd ad codes aps here fl un F)) (hh : here = some ("ann" : Str)) (k : ∀ H1, Ctx K B H1 (PL a po dx cd ad codes aps here fl un F) I → Q .non H1) : sp_People_need_owner K a [.ref po] H Q E :=
  ⟨rfl, po, dx, cd, ad, codes, aps, here, fl, un, F, rfl, hC.lay.perm pm.lay, fun _ H' s y => k H' (hC.moved s y), fun h => absurd hh h⟩
theorem c_needF (hC : Ctx K B H L I) (pm : Perm3 L (PL a po dx cd ad codes aps here fl un F)) (hh : here ≠ some ("ann" : Str)) (k : ∀ H1, Ctx K B H1 (PL a po dx cd ad codes aps here fl un F) I → E (.ref a.c_RightFault) none H1) : sp_People_need_owner K a [.ref po] H Q E :=
  ⟨rfl, po, dx, cd, ad, codes, aps, here, fl, un, F, rfl, hC.lay.perm pm.lay, fun h => absurd h hh, fun _ H' s y => k H' (hC.moved s y)⟩
theorem c_add (hC : Ctx K B H L I) (pm : Perm3 L (PL a po dx cd ad codes aps here fl un ((a.tb_check_name, .tbl q) :: F))) (ht : TriplesOk q.toList) (hn : nm ∈ PNM) (ok : POk codes aps here)
    (kT : addB codes here nm = true → ∀ d q' H1, TriplesOk q'.toList → Ctx K B H1 (PL a po dx cd ad (codes ++ [(nm, .non)]) (aps ++ [(nm, d, [])]) here fl un ((a.tb_check_name, .tbl q') :: F)) I → Q .non H1)
    (kF : addB codes here nm = false → ∀ q' H1, TriplesOk q'.toList → Ctx K B H1 (PL a po dx cd ad codes aps here fl un ((a.tb_check_name, .tbl q') :: F)) I → E (.ref a.c_RightFault) none H1) : sp_People_add K a [.ref po, .str nm] H Q E :=
  ⟨rfl, po, dx, cd, ad, codes, aps, here, fl, un, nm, q, F, rfl, hC.lay.perm pm.lay, ht, hn, ok, fun b H' d q' s y t => kT b d q' H' t (hC.moved s y), fun b H' q' s y t => kF b q' H' t (hC.moved s y)⟩
theorem c_remove (hC : Ctx K B H L I) (pm : Perm3 L (PL a po dx cd ad codes aps here fl un ((a.tb_People_remove, .tbl qr) :: (a.tb_People_has_app, .tbl qh) :: F))) (h1 : TriplesOk qr.toList) (h2 : TriplesOk qh.toList) (ok : POk codes aps here)
    (kT : remB codes here nm = true → ∀ t qr' qh' H1, TriplesOk qr'.toList → TriplesOk qh'.toList → Ctx K B H1 (PL a po dx cd ad (delR codes nm) (delR aps nm) here fl un ((a.tb_People_remove, .tbl qr') :: (a.tb_People_has_app, .tbl qh') :: F)) (.tup t ((goneL aps nm).map V.str) :: I) → Q (.ref t) H1)
    (kF : remB codes here nm = false → ∀ H1, Ctx K B H1 (PL a po dx cd ad codes aps here fl un ((a.tb_People_remove, .tbl qr) :: (a.tb_People_has_app, .tbl qh) :: F)) I → E (.ref a.c_RightFault) none H1) : sp_People_remove K a [.ref po, .str nm] H Q E :=
  ⟨rfl, po, dx, cd, ad, codes, aps, here, fl, un, nm, qr, qh, F, rfl, hC.lay.perm pm.lay, h1, h2, ok, fun b H' t qr' qh' s y t1 t2 ht => kT b t qr' qh' H' t1 t2 ((hC.moved s y).add (i := .tup t _) ht), fun b H' s y => kF b H' (hC.moved s y)⟩
theorem c_code (hC : Ctx K B H L I) (pm : Perm3 L (PL a po dx cd ad codes aps here fl un ((a.tb_People_set_code, .tbl q) :: F))) (ht : TriplesOk q.toList) (ok : POk codes aps here) (hc : c ∈ CDS) (hc2 : c ≠ .str "77777")
    (kT : codeB here c = true → ∀ q' H1, TriplesOk q'.toList → Ctx K B H1 (PL a po dx cd ad (setC codes here c) aps here fl un ((a.tb_People_set_code, .tbl q') :: F)) I → Q .non H1)
    (kF : codeB here c = false → ∀ q' H1, TriplesOk q'.toList → Ctx K B H1 (PL a po dx cd ad codes aps here fl un ((a.tb_People_set_code, .tbl q') :: F)) I → E (.ref a.c_RightFault) none H1) : sp_People_set_code K a [.ref po, c] H Q E :=
  ⟨rfl, po, dx, cd, ad, codes, aps, here, fl, un, c, q, F, rfl, hC.lay.perm pm.lay, ht, ok, hc, hc2, fun b H' q' s y t => kT b q' H' t (hC.moved s y), fun b H' q' s y t => kF b q' H' t (hC.moved s y)⟩
theorem c_leave (hC : Ctx K B H L I) (pm : Perm3 L (PL a po dx cd ad codes aps here fl un F)) (k : ∀ H1, Ctx K B H1 (PL a po dx cd ad codes aps none fl un F) I → Q .non H1) : sp_People_leave K a [.ref po] H Q E :=
  ⟨rfl, po, dx, cd, ad, codes, aps, here, fl, un, F, rfl, hC.lay.perm pm.lay, fun H' s y => k H' (hC.moved s y)⟩
theorem c_enter (hC : Ctx K B H L I) (pm : Perm3 L (PL a po dx cd ad codes aps here fl un F)) (ok : POk codes aps here) (hc : c ∈ CDS) (hf : 0 ≤ fl)
    (kT : entB codes un nm c t = true → ∀ H1, Ctx K B H1 (PL a po dx cd ad codes aps (some nm) 0 un F) I → Q .non H1)
    (kF : entB codes un nm c t = false → ∀ H1, Ctx K B H1 (PL a po dx cd ad codes aps here (entF codes fl un nm c t) (entU codes fl un nm c t) F) I → E (.ref a.c_RightFault) none H1) : sp_People_enter K a [.ref po, .str nm, c, .int t] H Q E :=
  ⟨rfl, po, dx, cd, ad, codes, aps, here, fl, un, nm, c, t, F, rfl, hC.lay.perm pm.lay, ok, hc, hf, fun b H' s y => kT b H' (hC.moved s y), fun b H' s y => kF b H' (hC.moved s y)⟩
theorem c_give (hC : Ctx K B H L I) (pm : Perm3 L (PL a po dx cd ad codes aps here fl un F)) (ok : POk codes aps here) (hx : x = "x" ∨ x = "y")
    (kT : here.isSome = true → ∀ H1, Ctx K B H1 (PL a po dx cd ad codes (setA aps here (giveL x)) here fl un F) I → Q .non H1)
    (kF : here.isSome = false → ∀ H1, Ctx K B H1 (PL a po dx cd ad codes aps here fl un F) I → E (.ref a.c_RightFault) none H1) : sp_People_give K a [.ref po, .str x] H Q E :=
  ⟨rfl, po, dx, cd, ad, codes, aps, here, fl, un, x, F, rfl, hC.lay.perm pm.lay, ok, hx, fun b H' s y => kT b H' (hC.moved s y), fun b H' s y => kF b H' (hC.moved s y)⟩
theorem c_take (hC : Ctx K B H L I) (pm : Perm3 L (PL a po dx cd ad codes aps here fl un ((a.tb_People_has_app, .tbl qh) :: F))) (ht : TriplesOk qh.toList) (ok : POk codes aps here) (hx : x = "x" ∨ x = "y")
    (kT : seesB aps here x = true → ∀ qh' H1, TriplesOk qh'.toList → Ctx K B H1 (PL a po dx cd ad codes (setA aps here (takeL x)) here fl un ((a.tb_People_has_app, .tbl qh') :: F)) I → Q (.bl (!hasB (setA aps here (takeL x)) x)) H1)
    (kF : seesB aps here x = false → ∀ H1, Ctx K B H1 (PL a po dx cd ad codes aps here fl un ((a.tb_People_has_app, .tbl qh) :: F)) I → E (.ref a.c_RightFault) none H1) : sp_People_take K a [.ref po, .str x] H Q E :=
  ⟨rfl, po, dx, cd, ad, codes, aps, here, fl, un, x, qh, F, rfl, hC.lay.perm pm.lay, ht, ok, hx, fun b H' qh' s y t => kT b qh' H' t (hC.moved s y), fun b H' s y => kF b H' (hC.moved s y)⟩
theorem c_has (hC : Ctx K B H L I) (pm : Perm3 L (PL a po dx cd ad codes aps here fl un ((a.tb_People_has_app, .tbl qh) :: F))) (ht : TriplesOk qh.toList) (nd : (aps.map (·.1)).Nodup) (hl : aps.length ≤ 4)
    (k : ∀ qh' H1, TriplesOk qh'.toList → Ctx K B H1 (PL a po dx cd ad codes aps here fl un ((a.tb_People_has_app, .tbl qh') :: F)) I → Q (.bl (hasB aps x)) H1) : sp_People_has_app K a [.ref po, .str x] H Q E :=
  ⟨rfl, po, dx, cd, ad, codes, aps, here, fl, un, x, qh, F, rfl, hC.lay.perm pm.lay, ht, nd, hl, fun H' qh' s y t => k qh' H' t (hC.moved s y)⟩
theorem c_sees (hC : Ctx K B H L I) (pm : Perm3 L (PL a po dx cd ad codes aps here fl un F)) (ok : POk codes aps here) (k : ∀ H1, Ctx K B H1 (PL a po dx cd ad codes aps here fl un F) I → Q (.bl (seesB aps here x)) H1) : sp_People_sees K a [.ref po, .str x] H Q E :=
  ⟨rfl, po, dx, cd, ad, codes, aps, here, fl, un, x, F, rfl, hC.lay.perm pm.lay, ok, fun H' s y => k H' (hC.moved s y)⟩
theorem acells_app {bps : Aps} : acells (aps ++ bps) = acells aps ++ acells bps := List.map_append
theorem acells_mid {i : Nat} {e : Str × (Addr × List Str)} (h : aps[i]? = some e) : acells aps ++ F = acells (aps.take i) ++ (e.2.1, appK e.2.2) :: (acells (aps.drop (i + 1)) ++ F) := by
  conv => lhs; rw [split_cons h]
  rw [acells_app, List.append_assoc]
  rfl
theorem POk.lk (ok : POk codes aps here) {s : Str} (h : (look codes s).isSome = true) : ∃ e, e ∈ aps ∧ e.1 = s ∧ look aps s = some e.2 := by
  have hm : s ∈ codes.map (·.1) := by
    cases hl : look codes s with
    | none => rw [hl] at h; cases h
    | some v => exact List.mem_map.mpr ⟨_, look_some hl, rfl⟩
  rw [ok.keys] at hm
  obtain ⟨e, he, rfl⟩ := List.mem_map.mp hm
  exact ⟨e, he, rfl, look_of_mem (by rw [← ok.keys]; exact ok.nd) he⟩
theorem aps_look (ok : POk codes aps here) {s : Str} (h : here = some s) : ∃ e, e ∈ aps ∧ e.1 = s ∧ look aps s = some e.2 := ok.lk (ok.here s h)
theorem look_apps {xs : List Str} {x : Str} : (look (xs.map fun x => (x, true)) x) = if x ∈ xs then some true else none := by
  by_cases c : x ∈ xs
  · rw [if_pos c]
    obtain ⟨b, hb⟩ : ∃ b, look (xs.map fun x => (x, true)) x = some b := by
      cases hl : look (xs.map fun x => (x, true)) x with
      | none => exact absurd rfl (look_none.mp hl (x, true) (List.mem_map.mpr ⟨x, c, rfl⟩))
      | some b => exact ⟨b, rfl⟩
    rw [hb]
    obtain ⟨y, _, q⟩ := List.mem_map.mp (look_some hb)
    cases q; rfl
  · rw [if_neg c]
    exact look_none.mpr fun p hp q => by
      obtain ⟨y, hy, rfl⟩ := List.mem_map.mp hp
      exact c (q ▸ hy)
end
end Wk
namespace Wk
open PySem PySem.Spec PyProof.Rows L2 Ph
open LamX (TTold)
open GxR (tAnyS)
set_option hygiene false in
local macro_rules | `(tactic| walk_at "cls") => `(tactic| first | with_reducible exact T.cl_People | with_reducible exact T.cl_Kind | with_reducible exact T.cl_Settings)
set_option hygiene false in
local macro_rules | `(tactic| walk_at "na") => `(tactic| first | with_reducible exact T.na_People_owner | with_reducible exact T.na_People_codes | with_reducible exact T.na_People_apps | with_reducible exact T.na_People_here | with_reducible exact T.na_People_failed | with_reducible exact T.na_People_locked_until | with_reducible exact T.na_Kind_default | with_reducible exact T.na_Kind_allowed | with_reducible exact T.na_Settings_kinds | with_reducible exact T.na_Settings_rows | with_reducible exact T.na_Settings_own | with_reducible exact T.na_Settings_rules)
set_option hygiene false in
local macro_rules | `(tactic| walk_at "exc") => `(tactic| first | with_reducible exact T.ec_NameFault | with_reducible exact T.ec_RightFault)
set_option hygiene false in
local macro_rules | `(tactic| walk_at "exn") => `(tactic| first | with_reducible exact T.en_RightFault_NameFault)
set_option hygiene false in
local macro_rules | `(tactic| walk_at "mem") => `(tactic| first | with_reducible assumption | with_reducible exact List.mem_cons_self | with_reducible exact mem_mid | ((with_reducible apply List.mem_cons_of_mem); walk_at "mem") | ((with_reducible apply mem_app); walk_at "mem"))
set_option hygiene false in
local macro_rules | `(tactic| walk_at "up") => `(tactic| first | with_reducible exact Up.here | with_reducible exact Up.mid | ((with_reducible apply Up.there); walk_at "up") | ((with_reducible apply Up.app); walk_at "up"))
set_option hygiene false in
local macro_rules | `(tactic| walk_at "pick") => `(tactic| first | with_reducible exact Pick.here | with_reducible exact Pick.mid | ((with_reducible apply Pick.there); walk_at "pick") | ((with_reducible apply Pick.app); walk_at "pick"))
set_option hygiene false in
local macro_rules | `(tactic| walk_at "set") => `(tactic| first | with_reducible exact SetAt.here | ((with_reducible apply SetAt.there); walk_at "set"))
set_option hygiene false in
local macro_rules | `(tactic| walk_at "lset") => `(tactic| first | with_reducible exact LSet.here | ((with_reducible apply LSet.there); walk_at "lset"))
set_option hygiene false in
local macro_rules | `(tactic| walk_at "sne") => `(tactic| first | (intro hq; exact absurd (Sum.inr.inj hq) (by decide +kernel)) | decide +kernel)
set_option hygiene false in
local macro_rules | `(tactic| walk_at "lk") => `(tactic| first | with_reducible exact Lk.here | ((with_reducible apply Lk.there); (walk_at "sne"); walk_at "lk"))
set_option hygiene false in
local macro_rules | `(tactic| walk_at "nolk") => `(tactic| first | with_reducible exact NoLk.nil | ((with_reducible apply NoLk.there); (walk_at "sne"); walk_at "nolk"))
set_option hygiene false in
local macro_rules | `(tactic| walk_at "put") => `(tactic| first | with_reducible exact Put.nil | with_reducible exact Put.here | ((with_reducible apply Put.there); (walk_at "sne"); walk_at "put"))
set_option hygiene false in
local macro_rules | `(tactic| walk_at "dk") => `(tactic| first | with_reducible exact Dk.here | ((with_reducible apply Dk.there); (walk_at "sne"); walk_at "dk"))
set_option hygiene false in
local macro_rules | `(tactic| walk_at "dno") => `(tactic| first | with_reducible exact DNo.nil | ((with_reducible apply DNo.there); (walk_at "sne"); walk_at "dno"))
set_option hygiene false in
local macro_rules | `(tactic| walk_at "dpt") => `(tactic| first | ((with_reducible apply DPt.here); walk_at "dno") | ((with_reducible apply DPt.there); (walk_at "sne"); walk_at "dpt"))
set_option hygiene false in
local macro_rules | `(tactic| walk_at "get") => `(tactic| exact hC.get (by walk_at "mem"))
set_option hygiene false in
local macro_rules | `(tactic| walk_at "sqt") => `(tactic| exact hC.tup (by walk_at "mem"))
set_option hygiene false in
local macro_rules | `(tactic| walk_at "len") => `(tactic| first | (simp; done) | (simp only [List.length_append, List.length_cons, List.length_nil]; omega) | omega)
set_option hygiene false in
local macro_rules | `(tactic| walk_at "alli") => `(tactic| first | exact AllI.nil | (apply AllI.cons; walk_at "alli"))
set_option hygiene false in
local macro_rules | `(tactic| walk_at "tok") => `(tactic| first | with_reducible exact ToK.nil | ((with_reducible apply ToK.str); walk_at "tok") | ((with_reducible apply ToK.int); walk_at "tok"))
set_option hygiene false in
local macro_rules | `(tactic| walk_at "rdis") => `(tactic| first | with_reducible exact RDis.nil | ((with_reducible apply RDis.cons); (walk_at "dno"); walk_at "rdis"))
set_option hygiene false in
local macro_rules | `(tactic| walk_at "pull") => `(tactic| first | with_reducible exact Pull.here | ((with_reducible apply Pull.there); walk_at "pull"))
set_option hygiene false in
local macro_rules | `(tactic| walk_at "st3") => `(tactic| first
  | with_reducible refine s_for ?_
  | with_reducible refine s_il ?_
  | ((with_reducible refine' s_ilV ?sm ?_); (case sm => walk_at "get"))
  | with_reducible refine s_rng ?_
  | ((with_reducible refine' s_rngV ?s1 ?s2 ?_); (case s1 => omega); (case s2 => omega))
  | with_reducible refine s_sl ?_
  | with_reducible refine s_noPart ?_
  | with_reducible refine s_partE ?_
  | with_reducible refine s_partV ?_
  | ((with_reducible refine' s_slL hC ?sm ?_); (case sm => first | assumption | exact SqL.of (by walk_at "get")); clear hC; intro sp H hC)
  | with_reducible refine s_lc ?_
  | ((with_reducible refine' s_app hC ?sm ?sz ?su ?_); (case sm => walk_at "get"); (case sz => walk_at "len"); (case su => walk_at "up"); clear hC; intro H hC)
  | ((with_reducible refine' s_disp hC ?_); clear hC; intro dp H hC)
  | with_reducible refine s_pair ?_
  | with_reducible refine s_pnil ?_
  | ((with_reducible refine' s_dispV hC ?sm ?sh ?sn ?sz ?su ?_); (case sm => walk_at "get"); (case sh => walk_at "tok"); (case sn => walk_at "rdis"); (case sz => walk_at "len"); (case su => walk_at "up"); clear hC; intro H hC)
  | ((with_reducible refine' s_toldE ?se ?_); (case se => walk_at "exc"))
  | ((with_reducible refine' s_addL hC ?s1 ?s2 ?sz ?_); (case s1 => walk_at "get"); (case s2 => walk_at "get"); (case sz => walk_at "len"); clear hC; intro lp H hC)
  | ((with_reducible refine' s_ixAny ?sm ?sa ?s0 ?s1 ?_); (case sm => walk_at "get"); (case sa => walk_at "alli"); (case s0 => omega); (case s1 => walk_at "len"); intro iz hiz; simp only [List.mem_cons, List.not_mem_nil, or_false] at hiz))
-- a step of no choice
set_option hygiene false in
local macro_rules | `(tactic| walk_at "st0") => `(tactic| first
  | ((with_reducible refine' s_var ?sa ?_); (case sa => first | rfl | assumption))
  | with_reducible refine s_c ?_
  | with_reducible refine s_op ?_
  | with_reducible refine s_fld ?_
  | ((with_reducible refine' s_fldV ?sm ?sc ?sn ?sl ?_); (case sm => walk_at "get"); (case sc => walk_at "cls"); (case sn => walk_at "na"); (case sl => walk_at "lk"))
  | with_reducible refine s_cons ?_
  | with_reducible refine s_nil ?_
  | with_reducible refine s_seq ?_
  | with_reducible refine s_asg ?_
  | ((with_reducible refine' s_name ?sa ?_); (case sa => walk_at "set"))
  | with_reducible refine s_nx ?_
  | with_reducible refine s_next ?_
  | with_reducible refine s_test ?_
  | with_reducible refine s_bl ?_
  | with_reducible refine s_tru ?_
  | with_reducible refine s_truB ?_
  | with_reducible refine s_truN ?_
  | with_reducible refine s_if ?_
  | with_reducible refine s_and ?_
  | with_reducible refine s_or ?_
  | with_reducible refine s_not ?_
  | with_reducible refine s_ifE ?_
  | with_reducible refine iteT ?_
  | with_reducible refine iteF ?_
  | with_reducible refine s_iteNT ?_
  | with_reducible refine s_iteNF ?_)
set_option hygiene false in
local macro_rules | `(tactic| walk_at "st1") => `(tactic| first
  | with_reducible refine s_addI ?_
  | with_reducible refine s_subI ?_
  | with_reducible refine s_iaddI ?_
  | ((with_reducible refine' s_ltT ?sq ?_); (case sq => assumption))
  | ((with_reducible refine' s_ltF ?sq ?_); (case sq => assumption))
  | with_reducible refine s_ltI ?_
  | ((with_reducible refine' s_leT ?sq ?_); (case sq => assumption))
  | ((with_reducible refine' s_leF ?sq ?_); (case sq => assumption))
  | with_reducible refine s_leI ?_
  | ((with_reducible refine' s_gtT ?sq ?_); (case sq => assumption))
  | ((with_reducible refine' s_gtF ?sq ?_); (case sq => assumption))
  | with_reducible refine s_gtI ?_
  | ((with_reducible refine' s_geT ?sq ?_); (case sq => assumption))
  | ((with_reducible refine' s_geF ?sq ?_); (case sq => assumption))
  | with_reducible refine s_geI ?_
  | ((with_reducible refine' s_eqIT ?sq ?_); (case sq => assumption))
  | ((with_reducible refine' s_eqIF ?sq ?_); (case sq => assumption))
  | with_reducible refine s_eqI ?_
  | with_reducible refine s_neIF ?_
  | with_reducible refine s_neI ?_
  | with_reducible refine s_isN_non ?_
  | with_reducible refine s_isN_ref ?_
  | with_reducible refine s_isN_int ?_
  | with_reducible refine s_isN_str ?_
  | with_reducible refine s_notN_non ?_
  | with_reducible refine s_notN_ref ?_
  | with_reducible refine s_notN_int ?_
  | with_reducible refine s_notN_str ?_
  | ((with_reducible refine' s_eqST ?sq ?_); (case sq => with_reducible rfl))
  | with_reducible refine s_eqS ?_
  | with_reducible refine s_neSs ?_
  | with_reducible refine s_neS ?_
  | with_reducible refine s_eqBs ?_
  | with_reducible refine s_eqTF ?_
  | with_reducible refine s_eqFT ?_
  | with_reducible refine s_eqB ?_
  | with_reducible refine s_neBs ?_
  | with_reducible refine s_neTF ?_
  | with_reducible refine s_neFT ?_
  | with_reducible refine s_neB ?_
  | with_reducible refine s_eqNS ?_
  | with_reducible refine s_eqSN ?_
  | with_reducible refine s_neNS ?_
  | ((with_reducible refine' s_mulI ?sc ?_); (case sc => first | exact .inr ⟨by decide, by decide⟩ | exact .inl ⟨by decide, by decide⟩ | exact .inr ⟨by omega, by omega⟩ | exact .inl ⟨by omega, by omega⟩))
  | ((with_reducible refine' s_modI ?sc ?_); (case sc => first | decide | omega))
  | ((with_reducible refine' s_divI ?sc ?_); (case sc => exact ⟨by first | decide | omega, by first | decide | omega⟩))
  | ((with_reducible refine' s_powI ?sc ?_); (case sc => exact ⟨by decide, by decide, by decide⟩))
  | (refine' s_ixT (j := 0) ?sm ?se ?_; (case sm => walk_at "sqt"); (case se => rfl))
  | (refine' s_ixT (j := 1) ?sm ?se ?_; (case sm => walk_at "sqt"); (case se => rfl))
  | ((with_reducible refine' s_ixD ?sm ?se ?_); (case sm => walk_at "get"); (case se => walk_at "dk"))
  | ((with_reducible refine' s_ixHead ?sm ?_); (case sm => walk_at "get"))
  | ((with_reducible refine' s_ixLast ?sm ?_); (case sm => walk_at "get"))
  | ((with_reducible refine' s_ixL ?sm ?se ?_); (case sm => walk_at "get"); (case se => rfl)))
set_option hygiene false in
local macro_rules | `(tactic| walk_at "st2") => `(tactic| first
  | with_reducible refine s_setF ?_
  | ((with_reducible refine' s_setV hC ?sm ?sc ?sn ?sz ?sp ?su ?_); (case sm => walk_at "get"); (case sc => walk_at "cls"); (case sn => walk_at "na"); (case sz => walk_at "len"); (case sp => walk_at "put"); (case su => walk_at "up"); clear hC; intro H hC)
  | with_reducible refine s_augF ?_
  | ((with_reducible refine' s_augV ?sm ?sc ?sn ?sl ?_); (case sm => walk_at "get"); (case sc => walk_at "cls"); (case sn => walk_at "na"); (case sl => walk_at "lk"))
  | ((with_reducible refine' s_augW hC ?sm ?sz ?sp ?su ?_); (case sm => walk_at "get"); (case sz => walk_at "len"); (case sp => walk_at "put"); (case su => walk_at "up"); clear hC; intro H hC)
  | with_reducible refine s_tup ?_
  | ((with_reducible refine' s_tupP hC ?sz ?_); (case sz => walk_at "len"); clear hC; intro tp H hC)
  | with_reducible refine s_lst ?_
  | ((with_reducible refine' s_lstN hC ?sz ?_); (case sz => walk_at "len"); clear hC; intro lp H hC)
  | with_reducible refine s_ret ?_
  | with_reducible refine s_retN ?_
  | with_reducible refine s_drop ?_
  | with_reducible refine s_bm ?_
  | ((with_reducible refine' s_tyL ?sm ?_); (case sm => walk_at "get"))
  | ((with_reducible refine' s_append hC ?sm ?sz ?su ?_); (case sm => walk_at "get"); (case sz => walk_at "len"); (case su => walk_at "up"); clear hC; intro H hC)
  | with_reducible refine s_cb ?_
  | with_reducible refine s_abs ?_
  | with_reducible refine s_absI ?_
  | with_reducible refine s_absB ?_
  | with_reducible refine s_max2N ?_
  | with_reducible refine s_min2N ?_
  | with_reducible refine s_int1 ?_
  | with_reducible refine s_int1T ?_
  | with_reducible refine s_int1F ?_
  | with_reducible refine s_int1b ?_
  | with_reducible refine s_par ?_
  | with_reducible refine s_par2V ?_
  | with_reducible refine s_par3 ?_
  | with_reducible refine s_par3V ?_
  | with_reducible refine s_subG ?_
  | ((with_reducible refine' s_putD hC ?sm ?sz ?sp ?su ?_); (case sm => walk_at "get"); (case sz => walk_at "len"); (case sp => walk_at "dpt"); (case su => walk_at "up"); clear hC; intro H hC)
  | ((with_reducible refine' s_putL (j := 0) hC ?sm ?se ?sw ?su ?_); (case sm => walk_at "get"); (case se => rfl); (case sw => walk_at "lset"); (case su => walk_at "up"); clear hC; intro H hC)
  | ((with_reducible refine' s_putL (j := 1) hC ?sm ?se ?sw ?su ?_); (case sm => walk_at "get"); (case se => rfl); (case sw => walk_at "lset"); (case su => walk_at "up"); clear hC; intro H hC)
  | ((with_reducible refine' s_putL (j := 2) hC ?sm ?se ?sw ?su ?_); (case sm => walk_at "get"); (case se => rfl); (case sw => walk_at "lset"); (case su => walk_at "up"); clear hC; intro H hC)
  | ((with_reducible refine' s_gtup ?sm ?sz ?_); (case sm => walk_at "sqt"); (case sz => rfl))
  | with_reducible refine s_gcons ?_
  | with_reducible refine s_gnil ?_
  | with_reducible refine s_call ?_
  | with_reducible refine s_callV ?_
  | ((with_reducible refine s_callD ?_); dsimp only [List.cons_append, List.nil_append])
  | with_reducible refine s_meth ?_
  | ((with_reducible refine' s_methV ?sm ?sn ?_); (case sm => walk_at "get"); (case sn => walk_at "nolk"))
  | with_reducible refine s_make ?_
  | ((with_reducible refine s_makeV hC ?_); clear hC; intro mx mdx H hC)
  | with_reducible refine s_raise ?_
  | with_reducible refine s_chain ?_
  | with_reducible refine s_chainB ?_
  | with_reducible refine s_andV ?_
  | with_reducible refine s_andB ?_
  | with_reducible refine s_orV ?_
  | with_reducible refine s_orB ?_
  | with_reducible refine s_notV ?_
  | with_reducible refine s_notB ?_
  | with_reducible refine s_un ?_
  | with_reducible refine s_negI ?_
  | with_reducible refine s_asg2 ?_
  | with_reducible refine s_break ?_
  | with_reducible refine s_cont ?_)
set_option hygiene false in
local macro_rules | `(tactic| walk_at "sl") => `(tactic| first | exact Nat.le_trans (nS_len (by omega) (by omega)) (by decide) | exact Nat.le_trans (by assumption) (by decide) | (refine Nat.le_trans (cutS_length _ _ _) ?_; walk_at "sl") | (refine app_le10 ?_ ?_ <;> walk_at "sl") | (refine app_le5 ?_ ?_ <;> walk_at "sl") | (refine app_le2 ?_ ?_ <;> walk_at "sl") | (refine app_le1 ?_ ?_ <;> walk_at "sl") | (refine app_le05 ?_ ?_ <;> walk_at "sl") | (rw [repS_length]; decide) | decide | omega)
set_option hygiene false in
local macro_rules | `(tactic| walk_at "st4") => `(tactic| first
  | with_reducible refine s_gfld ?_
  | with_reducible refine s_bm0 ?_
  | ((with_reducible refine' s_popL hC ?sm ?su ?_); (case sm => walk_at "get"); (case su => walk_at "up"); clear hC; intro H hC)
  | with_reducible refine s_m1 ?_
  | with_reducible refine s_m1V ?_
  | ((with_reducible refine' s_split hC ?sb ?sz ?_); (case sb => rfl); (case sz => walk_at "sl"); clear hC; intro sp H hC)
  | with_reducible refine s_isStrS ?_
  | with_reducible refine s_isStrI ?_
  | ((with_reducible refine' s_slS ?sz ?_); (case sz => walk_at "sl"))
  | ((with_reducible refine' s_slT1 hC ?sm ?sz ?_); (case sm => walk_at "sqt"); (case sz => walk_at "len"); clear hC; intro sp H hC)
  | ((with_reducible refine' s_mulS ?s1 ?s2 ?s3 ?s4 ?_); (case s1 => decide); (case s2 => decide); (case s3 => decide); (case s4 => decide))
  | ((with_reducible refine' s_addSS ?s1 ?s2 ?_); (case s1 => walk_at "sl"); (case s2 => walk_at "sl"))
  | ((with_reducible refine' s_lenL ?sm ?_); (case sm => walk_at "get"))
  | ((with_reducible refine' s_lenSS ?s1 ?_); (case s1 => walk_at "sl"))
  | with_reducible refine s_anyS ?_
  | ((with_reducible refine' s_anyV hC ?sp ?sm ?_); (case sp => walk_at "pick"); (case sm => walk_at "mem"); clear hC; intro tb H hC)
  | ((with_reducible refine' s_lam hC ?sp ?sm ?_); (case sp => walk_at "pick"); (case sm => walk_at "mem"); clear hC; intro tb H hC; try dsimp only)
  | ((with_reducible refine' s_lamV hC ?sp ?sm ?_); (case sp => walk_at "pick"); (case sm => walk_at "mem"); clear hC; intro lf lc tb H hC)
  | with_reducible refine s_yes ?_
  | with_reducible refine s_initV ?_
  | with_reducible refine s_tupX ?_
  | ((with_reducible refine' s_tupGV hC ?sp ?sm ?_); (case sp => walk_at "pick"); (case sm => walk_at "mem"); clear hC; intro tb H hC)
  | ((with_reducible refine' s_tupE ?s1 ?s2 ?_); (case s1 => omega); (case s2 => omega))
  | with_reducible refine s_lcS ?_
  | ((with_reducible refine' s_aug ?sa ?_); (case sa => first | rfl | assumption))
  | ((with_reducible refine' s_extL hC ?sm ?s2 ?sz ?su ?_); (case sm => walk_at "get"); (case s2 => walk_at "get"); (case sz => walk_at "len"); (case su => walk_at "up"); clear hC; intro H hC)
  | with_reducible refine s_uIsN_non ?_
  | with_reducible refine s_uIsN_ref ?_
  | with_reducible refine s_uIsN_int ?_
  | with_reducible refine s_uIsN_str ?_
  | with_reducible refine s_uIsN_bl ?_
  | with_reducible refine s_uIsB_s ?_
  | with_reducible refine s_uIsB_non ?_
  | with_reducible refine s_uIsB_str ?_
  | with_reducible refine s_uIsB_int ?_
  | with_reducible refine s_uIsB_ref ?_
  | with_reducible refine s_uIsB ?_
  | with_reducible refine s_del ?_
  | ((with_reducible refine' s_ixSet ?sm ?sz ?_); (case sm => walk_at "get"); (case sz => assumption))
  | ((with_reducible refine' s_ne00 ?s1 ?s2 ?_); (case s1 => walk_at "get"); (case s2 => walk_at "get"))
  | ((with_reducible refine' s_eq00 ?s1 ?s2 ?_); (case s1 => walk_at "get"); (case s2 => walk_at "get"))
  | with_reducible refine s_neNN ?_
  | with_reducible refine s_eqNN ?_
  | ((with_reducible refine' s_strI ?s0 ?s1 ?_); (case s0 => omega); (case s1 => omega))
  | ((with_reducible refine' s_rep1 hC ?sm ?sz ?_); (case sm => walk_at "get"); (case sz => walk_at "len"); clear hC; intro lp H hC)
  | ((with_reducible refine' s_rep0 hC ?sm ?_); (case sm => walk_at "get"); clear hC; intro lp H hC)
  | with_reducible refine s_it ?_
  | ((with_reducible refine' s_itV ?sm ?_); (case sm => walk_at "sqt"))
  | with_reducible refine s_seqI ?_
  | ((with_reducible refine' s_seqL ?sm ?_); (case sm => walk_at "get"))
  | ((with_reducible refine' s_seqT ?sm ?_); (case sm => walk_at "sqt"))
  | with_reducible refine s_keys ?_
  | with_reducible refine s_anyX ?_
  | ((with_reducible refine' s_anyGV hC ?sp ?sm ?_); (case sp => walk_at "pick"); (case sm => walk_at "mem"); clear hC; intro tb H hC)
  | with_reducible refine s_anyX2 ?_
  | ((with_reducible refine' s_anyGV2 hC ?sp ?sm ?_); (case sp => walk_at "pick"); (case sm => walk_at "mem"); clear hC; intro tb H hC)
  | ((with_reducible refine' s_anyE ?s1 ?s2 ?_); (case s1 => omega); (case s2 => omega))
  | ((with_reducible refine' s_tupOfL hC ?sm ?_); (case sm => walk_at "get"); clear hC; intro tp H hC)
  | ((with_reducible refine' s_tupOfT ?sm ?_); (case sm => walk_at "sqt"))
  | ((with_reducible refine' s_listOfL hC ?sm ?_); (case sm => walk_at "get"); clear hC; intro lp H hC)
  | ((with_reducible refine' s_listOfT hC ?sm ?_); (case sm => walk_at "sqt"); clear hC; intro lp H hC))
set_option hygiene false in
local macro_rules | `(tactic| walk_at "st") => `(tactic| first | walk_at "st0" | walk_at "st1" | walk_at "st2" | walk_at "stc" | walk_at "st3" | walk_at "st4")
set_option hygiene false in
local macro_rules | `(tactic| walk_at "go") => `(tactic| repeat walk_at "st")
set_option hygiene false in
local macro_rules | `(tactic| walk_at "start") => `(tactic| simp only [L2.start, List.length_cons, List.length_nil, List.map_cons, List.map_nil, List.cons_append, List.nil_append, List.replicate, Nat.reduceAdd, Nat.reduceSub, List.range, List.range.loop, List.getElem?_cons_zero, List.getElem?_cons_succ])
set_option hygiene false in
local macro_rules | `(tactic| walk_at "perm2") => `(tactic| first | exact Perm2.nil | (apply Perm2.cons; (walk_at "pick"); walk_at "perm2"))
set_option hygiene false in
local macro_rules | `(tactic| walk_at "lay") => `(tactic| (apply Lay.perm2 hC.lay; walk_at "perm2"))
set_option hygiene false in
local macro_rules | `(tactic| walk_at "sp") => `(tactic| first | refine s_iteDT (by first | assumption | omega) ?_ | refine s_iteDF (by first | assumption | omega) ?_ | refine s_iteNDT (by first | assumption | omega) ?_ | refine s_iteNDF (by first | assumption | omega) ?_ | refine s_iteD (fun c => ?_) (fun c => ?_) | refine s_iteND (fun c => ?_) (fun c => ?_) | refine s_iteB (fun c => ?_) (fun c => ?_) | refine s_iteNB (fun c => ?_) (fun c => ?_))
set_option hygiene false in
local macro_rules | `(tactic| walk_at "all") => `(tactic| ((walk_at "go"); (try ((walk_at "sp") <;> walk_at "all"))))
set_option hygiene false in
local macro_rules | `(tactic| walk_at "tds") => `(tactic| first | exact TDs.nil | exact hC.dats (by walk_at "mem") | exact TDs.mono hC.sb (by assumption) | (apply TDs.cons; (walk_at "td"); walk_at "tds") | (apply TDs.snoc; (walk_at "tds"); walk_at "td") | (apply TDs.append; (walk_at "tds"); walk_at "tds"))
set_option hygiene false in
local macro_rules | `(tactic| walk_at "td") => `(tactic| first | exact TD.non | exact TD.int _ | exact TD.str _ | exact TD.bl _ | exact hC.dat (by walk_at "mem") | (apply TD.tupR; (walk_at "tds"); walk_at "sqt"))
set_option hygiene false in
local macro_rules | `(tactic| walk_at "dsl") => `(tactic| (try dsimp only [List.nil_append, List.cons_append] at hC))
set_option hygiene false in
local macro_rules | `(tactic| walk_at "subs") => `(tactic| first | with_reducible exact Subs.nil | ((with_reducible apply Subs.cons); (walk_at "mem"); walk_at "subs"))
set_option hygiene false in
local macro_rules | `(tactic| walk_at "selT") => `(tactic| first | with_reducible exact Sel.refl | with_reducible exact Sel.toNil _ | ((with_reducible apply Sel.skip); walk_at "selT"))
set_option hygiene false in
local macro_rules | `(tactic| walk_at "sel") => `(tactic| first | ((with_reducible apply Sel.cons); (walk_at "pick"); walk_at "sel") | walk_at "selT")
set_option hygiene false in
local macro_rules | `(tactic| walk_at "lay2") => `(tactic| first | exact hC.lay | ((try simp only [List.nil_append, List.cons_append]); (refine Sel.lay ?_ hC.lay); walk_at "sel"))
set_option hygiene false in
local macro_rules | `(tactic| walk_at "ctx") => `(tactic| ((refine' Ctx.sub hC ?cly ?csu); (case cly => walk_at "lay2"); (case csu => walk_at "subs")))
set_option hygiene false in
local macro_rules | `(tactic| walk_at "blk") => `(tactic| first | with_reducible exact Blk.here | ((with_reducible apply Blk.there); walk_at "blk") | ((with_reducible apply Blk.over); walk_at "blk"))
set_option hygiene false in
local macro_rules | `(tactic| walk_at "perm3") => `(tactic| first | with_reducible exact Perm3.nil | ((with_reducible apply Perm3.cons); (walk_at "pick"); walk_at "perm3") | ((with_reducible apply Perm3.blk); (walk_at "blk"); walk_at "perm3"))
set_option hygiene false in
local macro_rules | `(tactic| walk_at "selU") => `(tactic| first | with_reducible exact Sel3.refl | with_reducible exact Sel3.none | ((with_reducible apply Sel3.skip); walk_at "selU") | ((with_reducible apply Sel3.skipB); walk_at "selU"))
set_option hygiene false in
local macro_rules | `(tactic| walk_at "sel3") => `(tactic| first | ((with_reducible apply Sel3.cons); (walk_at "pick"); walk_at "sel3") | ((with_reducible apply Sel3.blk); (walk_at "blk"); walk_at "sel3") | walk_at "selU")
set_option hygiene false in
local macro_rules | `(tactic| walk_at "lay3") => `(tactic| first | exact hC.lay | ((try simp only [List.nil_append, List.cons_append]); (refine Sel3.lay ?_ hC.lay); walk_at "sel3"))
set_option hygiene false in
local macro_rules | `(tactic| walk_at "tdm") => `(tactic| first | exact hC.dats (by walk_at "mem") | exact TDs.nil)
set_option hygiene false in
local macro_rules | `(tactic| walk_at "prm") => `(tactic| exact hC.pr (by walk_at "mem"))
set_option hygiene false in
local macro_rules | `(tactic| walk_at "stg") => `(tactic| first
  | with_reducible refine s_g1 ?_
  | with_reducible refine s_notN_bl ?_
  | with_reducible refine s_isN_bl ?_
  | ((with_reducible refine' s_tupP hC ?sz ?_); (case sz => walk_at "len"); clear hC; intro tp H hC)
  | ((with_reducible refine' s_dnewK hC ?_); clear hC; intro dp H hC)
  | ((with_reducible refine' s_dnewT hC ?_); clear hC; intro dp H hC)
  | with_reducible refine s_g2 ?_
  | ((with_reducible refine' s_g1K ?sm ?_); (case sm => walk_at "get"))
  | ((with_reducible refine' s_g1T ?sm ?_); (case sm => walk_at "get"))
  | ((with_reducible refine' s_g2K ?sm ?_); (case sm => walk_at "get"))
  | ((with_reducible refine' s_g2T ?sm ?_); (case sm => walk_at "get"))
  | with_reducible refine s_g2y ?_
  | ((with_reducible refine' s_g1Kei ?sm ?se ?_); (case sm => walk_at "get"); (case se => assumption))
  | ((with_reducible refine' s_g1Ke ?sm ?se ?_); (case sm => walk_at "get"); (case se => assumption))
  | ((with_reducible refine' s_g1Kz ?sm ?se ?_); (case sm => walk_at "get"); (case se => assumption))
  | ((with_reducible refine' s_g2Kei ?sm ?se ?_); (case sm => walk_at "get"); (case se => assumption))
  | ((with_reducible refine' s_g2Ke ?sm ?se ?_); (case sm => walk_at "get"); (case se => assumption))
  | ((with_reducible refine' s_g2Kz ?sm ?se ?_); (case sm => walk_at "get"); (case se => assumption))
  | ((with_reducible refine' s_g2TI ?sm ?sb ?_); (case sm => walk_at "get"); (case sb => walk_at "prm"))
  | ((with_reducible refine' s_ixL ?sm ?se ?_); (case sm => walk_at "get"); (case se => assumption))
  | (refine' s_ixT (j := 3) ?sm ?se ?_; (case sm => walk_at "sqt"); (case se => rfl))
  | ((with_reducible refine' s_putN hC ?sm ?sz ?su ?_); (case sm => walk_at "get"); (case sz => assumption); (case su => walk_at "up"); clear hC; intro H hC)
  | ((with_reducible refine' s_srtK hC ?sm ?sz ?_); (case sm => walk_at "get"); (case sz => first | omega | (walk_at "len")); clear hC; intro sq H hC)
  | ((with_reducible refine' s_srtL hC ?sm ?sz ?_); (case sm => walk_at "get"); (case sz => first | omega | (walk_at "len")); clear hC; intro sq H hC)
  | ((with_reducible refine' s_delK hC ?sm ?se ?su ?_); (case sm => walk_at "get"); (case se => assumption); (case su => walk_at "up"); clear hC; intro H hC)
  | ((with_reducible refine' s_ixPuti ?sm ?_); (case sm => walk_at "get"))
  | ((with_reducible refine' s_ixPut ?sm ?_); (case sm => walk_at "get"))
  | ((with_reducible refine' s_ixKvi ?sm ?se ?_); (case sm => walk_at "get"); (case se => assumption))
  | ((with_reducible refine' s_ixKv ?sm ?se ?_); (case sm => walk_at "get"); (case se => assumption))
  | ((with_reducible refine' s_ninKe ?sm ?se ?_); (case sm => walk_at "get"); (case se => assumption))
  | ((with_reducible refine' s_ninKz ?sm ?se ?_); (case sm => walk_at "get"); (case se => assumption))
  | ((with_reducible refine' s_g1Kv ?sm ?_); (case sm => walk_at "get"))
  | ((with_reducible refine' s_g1Kn ?sm ?_); (case sm => walk_at "get"))
  | ((with_reducible refine' s_g2Kv ?sm ?_); (case sm => walk_at "get"))
  | ((with_reducible refine' s_g2Kn ?sm ?_); (case sm => walk_at "get"))
  | ((with_reducible refine' s_g2Tv ?sm ?sb ?_); (case sm => walk_at "get"); (case sb => walk_at "prm"))
  | ((with_reducible refine' s_putKv (f := V.str) hC ?sm ?sz ?su ?_); (case sm => walk_at "get"); (case sz => omega); (case su => walk_at "up"); clear hC; intro H hC)
  | ((with_reducible refine' s_putKv (f := V.int) hC ?sm ?sz ?su ?_); (case sm => walk_at "get"); (case sz => omega); (case su => walk_at "up"); clear hC; intro H hC)
  | ((with_reducible refine' s_putKi hC ?sm ?sz ?su ?_); (case sm => walk_at "get"); (case sz => omega); (case su => walk_at "up"); clear hC; intro H hC)
  | ((with_reducible refine' s_putTv (f := V.int) hC ?sm ?sb ?sz ?su ?_); (case sm => walk_at "get"); (case sb => walk_at "prm"); (case sz => omega); (case su => walk_at "up"); clear hC; intro H hC)
  | ((with_reducible refine' s_inKe ?sm ?se ?_); (case sm => walk_at "get"); (case se => assumption))
  | ((with_reducible refine' s_inKz ?sm ?se ?_); (case sm => walk_at "get"); (case se => assumption))
  | ((with_reducible refine' s_inKv ?sm ?_); (case sm => walk_at "get"))
  | ((with_reducible refine' s_ninKv ?sm ?_); (case sm => walk_at "get"))
  | ((with_reducible refine' s_inKn ?sm ?_); (case sm => walk_at "get"))
  | ((with_reducible refine' s_ninKn ?sm ?_); (case sm => walk_at "get")))
set_option hygiene false in
local macro_rules | `(tactic| walk_at "stc") => `(tactic| first
  | ((with_reducible refine' c_kinit hC ?_); clear hC; intro H hC)
  | ((with_reducible refine' c_dice hC ?_); clear hC; intro dd di dj dl H hC)
  | ((with_reducible refine' c_roll hC ?sp ?s0 ?s1 ?_); (case sp => walk_at "pick"); (case s0 => omega); (case s1 => omega); clear hC; intro rr di dj dl H hr0 hr1 hC)
  | ((with_reducible refine' s_lam2 hC ?sp ?sm ?_); (case sp => walk_at "pick"); (case sm => walk_at "mem"); clear hC; intro tb H hC; try dsimp only)
  | ((with_reducible refine' s_told2a ?se ?_); (case se => walk_at "exc"))
  | ((with_reducible refine' s_told2b ?se ?sf ?_); (case se => walk_at "exn"); (case sf => walk_at "exc"))
  | with_reducible refine s_isiS_str ?_
  | with_reducible refine s_isiS_int ?_
  | with_reducible refine s_isiS_bool ?_
  | with_reducible refine s_isiS_tuple ?_
  | with_reducible refine s_isiI_str ?_
  | with_reducible refine s_isiI_int ?_
  | with_reducible refine s_isiI_bool ?_
  | with_reducible refine s_isiI_tuple ?_
  | with_reducible refine s_isiB_str ?_
  | with_reducible refine s_isiB_int ?_
  | with_reducible refine s_isiB_bool ?_
  | with_reducible refine s_isiB_tuple ?_
  | with_reducible refine s_isiN_str ?_
  | with_reducible refine s_isiN_int ?_
  | with_reducible refine s_isiN_bool ?_
  | with_reducible refine s_isiN_tuple ?_
  | ((with_reducible refine' s_ixKFi ?sm ?se ?_); (case sm => exact hC.frz (by walk_at "mem")); (case se => assumption))
  | ((with_reducible refine' s_imulI ?sc ?_); (case sc => first | exact .inr ⟨by decide, by decide⟩ | exact .inl ⟨by decide, by decide⟩ | exact .inr ⟨by omega, by omega⟩ | exact .inl ⟨by omega, by omega⟩))
  | ((with_reducible refine' s_mulW ?s0 ?s1 ?s2 ?s3 ?_); (case s0 => omega); (case s1 => omega); (case s2 => decide); (case s3 => decide); intro mw hmw)
  | ((with_reducible refine' s_ixSc ?s1 ?s2 ?_); (case s1 => decide); (case s2 => rfl))
  | ((with_reducible refine' s_lenKi ?sm ?_); (case sm => walk_at "get"))
  | ((with_reducible refine' s_lenKm ?sm ?_); (case sm => walk_at "get"))
  | with_reducible refine s_pop2 ?_
  | ((with_reducible refine' s_pop2d ?sm ?_); (case sm => walk_at "get"))
  | with_reducible refine s_pop2y ?_
  | ((with_reducible refine' s_pop2a hC ?sm ?su ?_); (case sm => walk_at "get"); (case su => walk_at "up"); clear hC; intro pv H hC)
  | ((with_reducible refine' s_tyDK ?sm ?_); (case sm => walk_at "get"))
  | ((with_reducible refine' s_tyDT ?sm ?_); (case sm => walk_at "get"))
  | ((with_reducible refine' s_popP hC ?sm ?sb ?su ?_); (case sm => walk_at "get"); (case sb => walk_at "prm"); (case su => walk_at "up"); clear hC; intro pv H hC)
  | ((with_reducible refine' s_putP hC ?sm ?sb ?sz ?su ?_); (case sm => walk_at "get"); (case sb => walk_at "prm"); (case sz => omega); (case su => walk_at "up"); clear hC; intro H hC)
  | ((with_reducible refine' s_g2P ?sm ?sb ?_); (case sm => walk_at "get"); (case sb => walk_at "prm"))
  | ((with_reducible refine' s_inP ?sm ?sb ?_); (case sm => walk_at "get"); (case sb => walk_at "prm"))
  | ((with_reducible refine' s_ixP ?sm ?sb ?se ?_); (case sm => walk_at "get"); (case sb => walk_at "prm"); (case se => assumption))
  | with_reducible refine s_g2M ?_
  | ((with_reducible refine' s_g2MK ?sm ?_); (case sm => walk_at "get"))
  | ((with_reducible refine' s_g2MT ?sm ?_); (case sm => walk_at "get"))
  | with_reducible refine s_g2My ?_
  | walk_at "stg")
section
variable {K : PySem.W.Frag} {mg : Str → Option Value} {a : Adr} {vs : List V} {H : Hp} {Q : VK} {E : XK}
theorem pure_Kind__init (T : Txt K mg a) (h : sp_Kind__init K a vs H Q E) : t_Kind__init K a E { nx := fun _ H' => Q .non H', rt := Q } (L2.start N_Kind__init vs) H := by
  obtain ⟨_, x, dx, d, al, F, rfl, y, k⟩ := h
  have hC := Ctx.start (K := K) y
  unfold t_Kind__init
  walk_at "start"
  walk_at "go"
  exact k _ hC.sb hC.lay
theorem pure_Settings__init (T : Txt K mg a) (h : sp_Settings__init K a vs H Q E) : t_Settings__init K a E { nx := fun _ H' => Q .non H', rt := Q } (L2.start N_Settings__init vs) H := by
  obtain ⟨_, x, dx, F, rfl, y, k⟩ := h
  have hC := Ctx.start (K := K) y
  unfold t_Settings__init
  walk_at "start"
  walk_at "go"
  rename_i d1 g1 g2 d2 g3 g4 d3 g5 g6 g7
  refine k _ _ _ _ _ hC.sb (show Lay H ((x, .ins a.c_Settings dx [("kinds", .ref d1), ("rows", .ref d2), ("own", .ref d3), ("rules", .ref dp)]) :: (d1, .dK []) :: (d2, .dK []) :: (d3, .dT []) :: (dp, .dK []) :: F) from by walk_at "lay3")
theorem keys_ok : ∀ k, k ∈ NMS → 0 < k.length ∧ k.length ≤ 60 ∧ (k.cps.toList.any fun c => !decide (c ∈ ("abcdefghijklmnopqrstuvwxyzABCDEFGHIJKLMNOPQRSTUVWXYZ0123456789._-/" : Str).cps.toList)) = false := by decide +kernel
theorem pure_check_key {H0 : Hp} (T : Txt K mg a) (h : sp_check_key K a vs H0 Q E) : t_check_key K a E { nx := fun _ H' => Q .non H', rt := Q } (L2.start N_check_key vs) H0 := by
  obtain ⟨_, nm, q, F, rfl, y, ht, hk, k⟩ := h
  have hC := (Ctx.start (K := K) y).add (i := .tri q) ht
  obtain ⟨h1, h2, h3⟩ := keys_ok nm hk
  have c1 : (0 : Int) < (nm.length : Nat) := by omega
  have c2 : ((nm.length : Nat) : Int) ≤ 60 := by omega
  unfold t_check_key
  walk_at "start"
  walk_at "all"
  all_goals first
    | (exact k _ _ hC.sb hC.lay (hC.tri List.mem_cons_self))
    | (rename_i c; rw [h3] at c; cases c)
    | (rw [h3]; walk_at "all"; exact k _ _ hC.sb hC.lay (hC.tri List.mem_cons_self))
    | trace_state
end
section
variable {K : PySem.W.Frag} {mg : Str → Option Value} {a : Adr} {vs : List V} {B H : Hp} {Q : VK} {E : XK} {L : List (Addr × HO)} {I : List Im}
theorem pure_is_span {H0 : Hp} (T : Txt K mg a) (h : sp_is_span K a vs H0 Q E) : t_is_span K a E { nx := fun _ H' => Q .non H', rt := Q } (L2.start N_is_span vs) H0 := by
  obtain ⟨_, p, xs, q, F, rfl, hx, hxs, y, ht, k⟩ := h
  have hC := ((Ctx.start (K := K) y).add (i := .tri q) ht).add (i := .tup p xs) hx
  have hsc := als_sca xs hxs
  have hl := als_len xs hxs
  unfold t_is_span
  walk_at "start"
  walk_at "go"
  refine s_lenT (hC.tup (by walk_at "mem")) ?_
  rw [hl, show ((2 : Nat) : Int) = 2 from rfl]
  walk_at "go"
  walk_at "sp"
  walk_at "go"
  refine any_read (es := xs) (kf := fun e : V => e) (walk_tupE (xs := xs) (by rw [List.map_id'])) (fun e => isI e) (by omega) (fun H1 hC => hC.tup (by walk_at "mem")) hC (fun i e H1 Z Zn he hC hz => ?_) (fun H' hC => ?_)
  · have hs := hsc e (List.mem_of_getElem? he)
    simp only [wipe, List.set_cons_zero, List.set_cons_succ]
    walk_at "go"
    refine ⟨rfl, ?_⟩
    walk_at "go"
    refine s_isvI hs ?_
    have hb : isI e = ((isI e || isB e) && !isB e) := by cases e <;> rfl
    rw [hb] at hz
    cases h1 : (isI e || isB e)
    · rw [h1] at hz
      walk_at "go"
      exact hz _ hC
    · rw [h1] at hz
      walk_at "go"
      refine s_isvB hs ?_
      walk_at "go"
      exact hz _ hC
  · rw [if_neg Bool.false_ne_true]
    have hk : ∀ b, b = spanB xs → Q (.bl b) H' := fun b hb => by
      rw [hb]
      exact k _ _ hC.sb (by walk_at "lay3") (hC.tri (by walk_at "mem"))
    unfold t_is_span_tail0
    simp only [ALS, List.mem_cons, List.not_mem_nil, or_false] at hxs
    rcases hxs with rfl | rfl | rfl | rfl | rfl
    · rw [show ([.int 0, .int 9] : List V).all (fun e => isI e) = true from rfl]
      walk_at "go"
      exact hk _ (by decide)
    · rw [show ([.int 9, .int 0] : List V).all (fun e => isI e) = true from rfl]
      walk_at "go"
      exact hk _ (by decide)
    all_goals
      rw [show ∀ x y : V, isI x = false → ([x, y] : List V).all (fun e => isI e) = false from fun x y z => by simp [z]]
      · walk_at "go"
        exact hk _ (by decide)
      · rfl
theorem pure_check_value {H0 : Hp} (T : Txt K mg a) (h : sp_check_value K a vs H0 Q E) : t_check_value K a E { nx := fun _ H' => Q .non H', rt := Q } (L2.start N_check_value vs) H0 := by
  obtain ⟨_, v, q, F, rfl, hv, y, ht, k⟩ := h
  have hC := (Ctx.start (K := K) y).add (i := .tri q) ht
  unfold t_check_value
  walk_at "start"
  cases hv with
  | non =>
    walk_at "go"
    exact k _ _ hC.sb hC.lay ht
  | bl b =>
    walk_at "go"
    cases b
    all_goals
      walk_at "all"
      exact k _ _ hC.sb hC.lay ht
  | int i h0 h1 =>
    have c : ¬ ((i.natAbs : Int) > 1000000000000) := by omega
    walk_at "all"
    exact k _ _ hC.sb hC.lay ht
  | str x h h1 h2 =>
    have c : ¬ ((x.length : Int) > 200) := by omega
    walk_at "all"
    all_goals first
      | exact k _ _ hC.sb hC.lay (hC.tri List.mem_cons_self)
      | (rename_i c; rw [h2] at c; cases c)
      | (rw [h2]; walk_at "all"; exact k _ _ hC.sb hC.lay (hC.tri List.mem_cons_self))
      | trace_state
end
section
variable {K : PySem.W.Frag} {mg : Str → Option Value} {a : Adr} {vs : List V} {B H : Hp} {Q : VK} {E : XK} {L : List (Addr × HO)} {I : List Im}
theorem pure_Kind_check {H0 : Hp} (T : Txt K mg a) (h : sp_Kind_check K a vs H0 Q E) : t_Kind_check K a E { nx := fun _ H' => Q .non H', rt := Q } (L2.start N_Kind_check vs) H0 := by
  obtain ⟨_, e, v, qk, qv, qp, qc, F, rfl, hv, hal, y, tk, kT, kF⟩ := h
  have hC := (((Ctx.start (K := K) y).add (i := .tri qv) tk.v).add (i := .tri qp) tk.p).add (i := .tri qc) tk.c
  have hs := hv.sca
  have tail : ∀ H1 qp' qc' b x, Ctx K H0 H1 (KT a qk qv qp' qc' (kcell a e :: F)) [.tri qv] → TriplesOk qp'.toList → TriplesOk qc'.toList → goodV (alX e.al) v = b →
      t_Kind_check_tail0 K a E { nx := fun _ H' => Q .non H', rt := Q } [some (.ref e.ad), some v, some (.bl b), x] H1 := by
    intro H1 qp' qc' b x hC t1 t2 hb
    unfold t_Kind_check_tail0
    cases b
    · walk_at "go"
      exact kF hb _ _ _ _ hC.sb (by walk_at "lay3") ⟨tk.k, tk.v, t1, t2⟩
    · walk_at "go"
      refine c_cval hC (by walk_at "pick") (hC.tri (by walk_at "mem")) hv ?_
      clear hC; intro q2 H hq2 hC
      exact kT hb _ _ _ _ hC.sb (by walk_at "lay3") ⟨tk.k, hq2, t1, t2⟩
  obtain ⟨nm, df, al, ad, dx⟩ := e
  unfold t_Kind_check
  walk_at "start"
  cases al with
  | none =>
    simp only [kcell, alV] at hC
    walk_at "go"
    have hk : ∀ b x, goodV none v = b → t_Kind_check_tail0 K a E { nx := fun _ H' => Q .non H', rt := Q } [some (.ref ad), some v, some (.bl b), x] H0 := fun b x hb =>
      tail H0 qp qc b x (hC.sub hC.lay (by walk_at "subs")) tk.p tk.c hb
    cases hv with
    | non => walk_at "go"; exact hk _ _ rfl
    | bl b => walk_at "go"; exact hk _ _ rfl
    | int i h0 h1 => walk_at "go"; exact hk _ _ rfl
    | str x h h1 h2 => walk_at "go"; exact hk _ _ (by simp only [goodV, shortS]; congr 1; rw [eq_iff_iff]; omega)
  | some p =>
    obtain ⟨tp, xs⟩ := p
    obtain ⟨hx, hxs, hn⟩ := hal _ rfl
    simp only at hx hxs hn
    have hsc := als_sca xs hxs
    simp only [kcell, alV] at hC
    replace hC := hC.add (i := .tup tp xs) hx
    walk_at "go"
    refine c_span hC (by walk_at "pick") (hC.tri (by walk_at "mem")) (hC.tup (by walk_at "mem")) hxs rfl ?_
    clear hC; intro q1 H hq1 hC
    have hk : ∀ H1 qc' b x, TriplesOk qc'.toList → Ctx K H0 H1 ((a.tb_check_key, .tbl qk) :: (a.tb_check_value, .tbl qv) :: (a.tb_is_span, .tbl q1) :: (a.tb_Kind_check, .tbl qc') :: kcell a ⟨nm, df, some (tp, xs), ad, dx⟩ :: F) [.tri qv] → goodV (some xs) v = b → t_Kind_check_tail0 K a E { nx := fun _ H' => Q .non H', rt := Q } [some (.ref ad), some v, some (.bl b), x] H1 := fun H1 qc' b x t2 hC hb =>
      tail H1 q1 qc' b x hC hq1 t2 hb
    cases hsp : spanB xs
    · have hg : goodV (some xs) v = xs.any fun o => eqPy v o && (isB v == isB o) := by simp only [goodV, hsp]; rw [if_neg Bool.false_ne_true]
      walk_at "go"
      refine any_read (es := xs) (kf := fun e : V => e) (walk_tupE (xs := xs) (by rw [List.map_id'])) (fun o => eqPy v o && (isB v == isB o)) (by have := als_len xs hxs; omega) (fun H1 hC => hC.tup (by walk_at "mem")) hC (fun i e H1 Z Zn he hC hz => ?_) (fun H' hC => ?_)
      · have hse := hsc e (List.mem_of_getElem? he)
        simp only [wipe, List.set_cons_zero, List.set_cons_succ]
        walk_at "go"
        refine ⟨rfl, ?_⟩
        walk_at "go"
        refine s_eqV hs hse ?_
        cases h1 : eqPy v e
        · rw [h1] at hz
          walk_at "go"
          exact hz _ hC
        · rw [h1] at hz
          walk_at "go"
          refine s_isvB hs ?_
          walk_at "go"
          refine s_isvB hse ?_
          refine s_eqB ?_
          exact hz _ hC
      · rw [if_pos rfl]
        walk_at "go"
        have ht := hC.tri (ps := tb) (by walk_at "mem")
        exact hk _ tb _ _ ht (hC.sub (by simp only [kcell, alV]; walk_at "lay3") (by walk_at "subs")) hg
    · have hx2 : xs = [.int 0, .int 9] := of_decide_eq_true hsp
      subst hx2
      have hk2 : ∀ b x, inSpan v = b → t_Kind_check_tail0 K a E { nx := fun _ H' => Q .non H', rt := Q } [some (.ref ad), some v, some (.bl b), x] H := fun b x hb =>
        hk H qc b x tk.c (hC.sub (by simp only [kcell, alV]; walk_at "lay3") (by walk_at "subs")) (by rw [← hb]; rfl)
      walk_at "go"
      cases hv with
      | non => walk_at "go"; exact hk2 _ _ rfl
      | bl b => walk_at "go"; exact hk2 _ _ rfl
      | int i h0 h1 =>
        walk_at "all"
        all_goals exact hk2 _ _ (by simp only [inSpan]; first | exact decide_eq_true (by omega) | exact decide_eq_false (by omega) | (congr 1; rw [eq_iff_iff]; omega))
      | str x h h1 h2 => walk_at "go"; exact hk2 _ _ rfl
end
section
variable {K : PySem.W.Frag} {mg : Str → Option Value} {a : Adr} {vs : List V} {B H : Hp} {Q : VK} {E : XK} {L : List (Addr × HO)} {I : List Im}
theorem pure_Settings_declare {H0 : Hp} (T : Txt K mg a) (h : sp_Settings_declare K a vs H0 Q E) : t_Settings_declare K a E { nx := fun _ H' => Q .non H', rt := Q } (L2.start N_Settings_declare vs) H0 := by
  obtain ⟨_, so, dx, kd, rd, od, ud, nm, df, al, ks, rows, rules, own, qk, qv, qp, qc, F, rfl, hdf, hal, hnm, ok, hlen, y, tk, kT, kF⟩ := h
  have hC := ((((Ctx.start (K := K) y).add (i := .tri qk) tk.k).add (i := .tri qv) tk.v).add (i := .tri qp) tk.p).add (i := .tri qc) tk.c
  have hz : (kindsK ks).length ≤ 9 := by rw [kindsK_len]; exact hlen
  unfold t_Settings_declare
  walk_at "start"
  walk_at "go"
  refine c_ckey hC (by walk_at "pick") (hC.tri (by walk_at "mem")) hnm ?_
  clear hC; intro q1 H hq1 hC
  by_cases hn : ∀ e, e ∈ ks → e.nm ≠ nm
  · have e1 := kinds_none hn
    walk_at "go"
    cases hg : goodV (alX al) df
    · refine c_checkF (e := ⟨nm, df, al, mx, mdx⟩) (qk := q1) (qv := qv) (qp := qp) (qc := qc) hC (by unfold kcell; walk_at "perm3") hdf (alok_mono hC.sb hal) ⟨hq1, tk.v, tk.p, tk.c⟩ hg ?_
      clear hC; intro qv2 qp2 qc2 H tk2 hC
      exact kF (fun z => by rw [hg] at z; cases z.2) _ _ _ _ _ hC.sb (by walk_at "lay3") tk2
    · refine c_checkT (e := ⟨nm, df, al, mx, mdx⟩) (qk := q1) (qv := qv) (qp := qp) (qc := qc) hC (by unfold kcell; walk_at "perm3") hdf (alok_mono hC.sb hal) ⟨hq1, tk.v, tk.p, tk.c⟩ hg ?_
      clear hC; intro qv2 qp2 qc2 H tk2 hC
      walk_at "go"
      have hk := kindsK_add (e := ⟨nm, df, al, mx, mdx⟩) hn
      simp only at hk
      rw [hk] at hC
      refine kT hn hg _ mx mdx _ _ _ _ hC.sb ?_ tk2
      unfold KT SL
      rw [kcells_app, List.append_assoc]
      show Lay H (_ :: _ :: _ :: _ :: _ :: _ :: _ :: _ :: _ :: (kcells a ks ++ (kcell a ⟨nm, df, al, mx, mdx⟩ :: F)))
      walk_at "lay3"
  · have hm : ∃ e, e ∈ ks ∧ e.nm = nm := by
      apply Classical.byContradiction
      intro z
      exact hn fun e he q => z ⟨e, he, q⟩
    obtain ⟨e, he, rfl⟩ := hm
    have e1 := kinds_look ok he
    walk_at "go"
    exact kF (fun z => z.1 e he rfl) _ _ _ _ _ hC.sb (by walk_at "lay3") ⟨hq1, tk.v, tk.p, tk.c⟩
theorem pure_Settings_kind_of {H0 : Hp} (T : Txt K mg a) (h : sp_Settings_kind_of K a vs H0 Q E) : t_Settings_kind_of K a E { nx := fun _ H' => Q .non H', rt := Q } (L2.start N_Settings_kind_of vs) H0 := by
  obtain ⟨_, so, dx, kd, rd, od, ud, nm, ks, rows, rules, own, F, rfl, ok, y, kT, kF⟩ := h
  have hC := Ctx.start (K := K) y
  unfold t_Settings_kind_of
  walk_at "start"
  by_cases hn : ∀ e, e ∈ ks → e.nm ≠ nm
  · have e1 := kinds_none hn
    walk_at "go"
    exact kF hn _ hC.sb hC.lay
  · have hm : ∃ e, e ∈ ks ∧ e.nm = nm := by
      apply Classical.byContradiction
      intro z
      exact hn fun e he q => z ⟨e, he, q⟩
    obtain ⟨e, he, rfl⟩ := hm
    have e1 := kinds_look ok he
    walk_at "go"
    exact kT e he rfl
theorem pure_Settings_clear {H0 : Hp} (T : Txt K mg a) (h : sp_Settings_clear K a vs H0 Q E) : t_Settings_clear K a E { nx := fun _ H' => Q .non H', rt := Q } (L2.start N_Settings_clear vs) H0 := by
  obtain ⟨_, so, dx, kd, rd, od, ud, nm, p, ks, rows, rules, own, F, rfl, ok, y, kT, kF⟩ := h
  have hC := Ctx.start (K := K) y
  unfold t_Settings_clear
  walk_at "start"
  walk_at "go"
  by_cases hn : ∀ e, e ∈ ks → e.nm ≠ nm
  · refine c_kindF hC (by walk_at "perm3") ok hn ?_
    clear hC; intro H hC
    exact kF hn _ hC.sb hC.lay
  · have hm : ∃ e, e ∈ ks ∧ e.nm = nm := by
      apply Classical.byContradiction
      intro z
      exact hn fun e he q => z ⟨e, he, q⟩
    obtain ⟨e, he, hnm⟩ := hm
    refine c_kind hC (by walk_at "perm3") ok he hnm ?_
    cases p with
    | none =>
      simp only [pV]
      walk_at "go"
      exact kT ⟨e, he, hnm⟩ _ hC.sb hC.lay
    | some s =>
      simp only [pV]
      walk_at "go"
      exact kT ⟨e, he, hnm⟩ _ hC.sb hC.lay
end
section
variable {K : PySem.W.Frag} {mg : Str → Option Value} {a : Adr} {vs : List V} {B H : Hp} {Q : VK} {E : XK} {L : List (Addr × HO)} {I : List Im}
theorem pure_Settings_set_value {H0 : Hp} (T : Txt K mg a) (h : sp_Settings_set_value K a vs H0 Q E) : t_Settings_set_value K a E { nx := fun _ H' => Q .non H', rt := Q } (L2.start N_Settings_set_value vs) H0 := by
  obtain ⟨_, so, dx, kd, rd, od, ud, nm, v, p, ks, rows, rules, own, qk, qv, qp, qc, F, rfl, hv, hks, ok, hl1, hl2, y, tk, kT, kF⟩ := h
  have hC := (((Ctx.start (K := K) y).add (i := .tri qv) tk.v).add (i := .tri qp) tk.p).add (i := .tri qc) tk.c
  unfold t_Settings_set_value
  walk_at "start"
  walk_at "go"
  rcases kind_or ks nm with hn | ⟨e, he, rfl⟩
  · refine c_kindF hC (by walk_at "perm3") ok hn ?_
    clear hC; intro H hC
    exact kF (setB_no hn) _ _ _ _ hC.sb hC.lay tk
  · refine c_kind hC (by walk_at "perm3") ok he rfl ?_
    rw [setB_of ok he] at kT kF
    obtain ⟨j, hj⟩ := List.mem_iff_getElem?.mp he
    unfold KT SL at hC
    rw [kcells_mid hj] at hC
    simp only [kcell] at hC
    walk_at "go"
    cases hg : goodV (alX e.al) v
    · refine c_checkF (e := e) (qk := qk) (qv := qv) (qp := qp) (qc := qc) hC (by unfold kcell; walk_at "perm3") hv (alok_mono hC.sb (hks e he)) tk hg ?_
      clear hC; intro qv2 qp2 qc2 H tk2 hC
      exact kF (by rw [hg]; rfl) _ _ _ _ hC.sb (by unfold KT SL; rw [kcells_mid hj]; walk_at "lay3") tk2
    · refine c_checkT (e := e) (qk := qk) (qv := qv) (qp := qp) (qc := qc) hC (by unfold kcell; walk_at "perm3") hv (alok_mono hC.sb (hks e he)) tk hg ?_
      clear hC; intro qv2 qp2 qc2 H tk2 hC
      unfold t_Settings_set_value_tail0
      cases hr : look rules e.nm with
      | some w =>
        walk_at "go"
        exact kF (by rw [hr]; simp) _ _ _ _ hC.sb (by unfold KT SL; rw [kcells_mid hj]; walk_at "lay3") tk2
      | none =>
        cases p with
        | none =>
          simp only [pV]
          walk_at "go"
          exact kT (by rw [hg, hr]; rfl) _ _ _ _ hC.sb (by unfold KT SL rowsS ownS; rw [kcells_mid hj]; walk_at "lay3") tk2
        | some s =>
          simp only [pV]
          walk_at "go"
          exact kT (by rw [hg, hr]; rfl) _ _ _ _ hC.sb (by unfold KT SL rowsS ownS; rw [kcells_mid hj]; walk_at "lay3") tk2
theorem pure_Settings_rule {H0 : Hp} (T : Txt K mg a) (h : sp_Settings_rule K a vs H0 Q E) : t_Settings_rule K a E { nx := fun _ H' => Q .non H', rt := Q } (L2.start N_Settings_rule vs) H0 := by
  obtain ⟨_, so, dx, kd, rd, od, ud, nm, v, ks, rows, rules, own, qk, qv, qp, qc, F, rfl, hv, hks, ok, hl1, y, tk, kT, kF⟩ := h
  have hC := (((Ctx.start (K := K) y).add (i := .tri qv) tk.v).add (i := .tri qp) tk.p).add (i := .tri qc) tk.c
  unfold t_Settings_rule
  walk_at "start"
  walk_at "go"
  rcases kind_or ks nm with hn | ⟨e, he, rfl⟩
  · refine c_kindF hC (by walk_at "perm3") ok hn ?_
    clear hC; intro H hC
    exact kF (ruleB_no hn) _ _ _ _ hC.sb hC.lay tk
  · refine c_kind hC (by walk_at "perm3") ok he rfl ?_
    rw [ruleB_of ok he] at kT kF
    obtain ⟨j, hj⟩ := List.mem_iff_getElem?.mp he
    unfold t_Settings_rule_tail0
    walk_at "go"
    by_cases hv0 : v = .non
    · subst hv0
      walk_at "go"
      exact kT rfl _ _ _ _ hC.sb (by unfold KT SL rulesS; rw [if_pos rfl]; walk_at "lay3") tk
    · refine s_isNv hv.sca hv0 ?_
      have hd : decide (v = .non) = false := decide_eq_false hv0
      unfold KT SL at hC
      rw [kcells_mid hj] at hC
      simp only [kcell] at hC
      walk_at "go"
      cases hg : goodV (alX e.al) v
      · refine c_checkF (e := e) (qk := qk) (qv := qv) (qp := qp) (qc := qc) hC (by unfold kcell; walk_at "perm3") hv (alok_mono hC.sb (hks e he)) tk hg ?_
        clear hC; intro qv2 qp2 qc2 H tk2 hC
        exact kF (by rw [hg, hd]; rfl) _ _ _ _ hC.sb (by unfold KT SL; rw [kcells_mid hj]; walk_at "lay3") tk2
      · refine c_checkT (e := e) (qk := qk) (qv := qv) (qp := qp) (qc := qc) hC (by unfold kcell; walk_at "perm3") hv (alok_mono hC.sb (hks e he)) tk hg ?_
        clear hC; intro qv2 qp2 qc2 H tk2 hC
        walk_at "go"
        exact kT (by rw [hg, hd]; rfl) _ _ _ _ hC.sb (by unfold KT SL rulesS; rw [if_neg hv0, kcells_mid hj]; walk_at "lay3") tk2
theorem pure_Settings_value {H0 : Hp} (T : Txt K mg a) (h : sp_Settings_value K a vs H0 Q E) : t_Settings_value K a E { nx := fun _ H' => Q .non H', rt := Q } (L2.start N_Settings_value vs) H0 := by
  obtain ⟨_, so, dx, kd, rd, od, ud, nm, p, ks, rows, rules, own, F, rfl, ok, y, kT, kF⟩ := h
  have hC := Ctx.start (K := K) y
  unfold t_Settings_value
  walk_at "start"
  walk_at "go"
  rcases kind_or ks nm with hn | ⟨e, he, rfl⟩
  · refine c_kindF hC (by walk_at "perm3") ok hn ?_
    clear hC; intro H hC
    exact kF hn _ hC.sb hC.lay
  · refine c_kind hC (by walk_at "perm3") ok he rfl ?_
    obtain ⟨j, hj⟩ := List.mem_iff_getElem?.mp he
    unfold SL at hC
    rw [kcells_mid hj] at hC
    simp only [kcell] at hC
    unfold t_Settings_value_tail1 t_Settings_value_tail0
    have fin : ∀ H1 I1 w, Ctx K H0 H1 ((so, HO.ins a.c_Settings dx [("kinds", V.ref kd), ("rows", V.ref rd), ("own", V.ref od), ("rules", V.ref ud)]) :: (kd, HO.dK (mK id (kindsK ks))) :: (rd, HO.dK (mK id rows)) :: (od, HO.dT (mP id own)) :: (ud, HO.dK (mK id rules)) :: (kcells a (ks.take j) ++ (e.ad, HO.ins a.c_Kind e.dx [("default", e.df), ("allowed", alV e.al)]) :: (kcells a (ks.drop (j + 1)) ++ F))) I1 → valE e rows own rules p = w → Q w H1 := by
      intro H1 I1 w hC hw
      rw [← hw]
      exact kT e he rfl _ hC.sb (by unfold SL; rw [kcells_mid hj]; exact hC.lay)
    cases hr : look rules e.nm with
    | some w =>
      walk_at "go"
      exact fin _ _ _ hC (by unfold valE; rw [hr]; rfl)
    | none =>
      cases p with
      | none =>
        simp only [pV]
        cases hd : look rows e.nm with
        | some w =>
          walk_at "go"
          exact fin _ _ _ hC (by unfold valE ownL; rw [hr, hd]; rfl)
        | none =>
          walk_at "go"
          exact fin _ _ _ hC (by unfold valE ownL; rw [hr, hd]; rfl)
      | some s =>
        simp only [pV]
        cases ho : look own (s, e.nm) with
        | some w =>
          walk_at "go"
          rw [ho, show (some w).isSome = true from rfl]
          walk_at "go"
          exact fin _ _ _ hC (by unfold valE ownL; simp only [hr, ho, Option.getD])
        | none =>
          walk_at "go"
          rw [ho, show (none : Option V).isSome = false from rfl]
          cases hd : look rows e.nm with
          | some w =>
            walk_at "go"
            exact fin _ _ _ hC (by unfold valE ownL; simp only [hr, ho, hd, Option.getD])
          | none =>
            walk_at "go"
            exact fin _ _ _ hC (by unfold valE ownL; simp only [hr, ho, hd, Option.getD])
end
section
variable {K : PySem.W.Frag} {mg : Str → Option Value} {a : Adr} {vs : List V} {B H : Hp} {Q : VK} {E : XK} {L : List (Addr × HO)} {I : List Im}
theorem pure_Settings_shown {H0 : Hp} (T : Txt K mg a) (h : sp_Settings_shown K a vs H0 Q E) : t_Settings_shown K a E { nx := fun _ H' => Q .non H', rt := Q } (L2.start N_Settings_shown vs) H0 := by
  obtain ⟨_, so, dx, kd, rd, od, ud, ks, rows, rules, own, qs, F, rfl, ok, y, ht, hv, k⟩ := h
  have hC := (Ctx.start (K := K) y).add (i := .tri qs) ht
  have hz : (kindsK ks).length ≤ 10 := by rw [kindsK_len]; exact ok.len
  have hm : (kindsK ks).map (·.1) = ks.map fun e => e.nm := by unfold kindsK; rw [List.map_map]; rfl
  unfold SL at hC
  unfold t_Settings_shown
  walk_at "start"
  walk_at "go"
  rw [hm] at hC
  refine tup_read (es := srtT (ks.map fun e => e.nm)) (kf := V.str) (walk_lstE (xs := (srtT ((kindsK ks).map (·.1))).map V.str) (by rw [hm])) (fun _ => true) (fun n => .tuple [.str n, (((ks.find? fun e => decide (e.nm = n)).map fun e => dV (valE e rows own rules none)).getD .none)]) (by rw [(srtT_perm _).length_eq, List.length_map]; have := ok.len; omega) (fun H1 hC => SqL.of (by rw [hm]; exact hC.get (by walk_at "mem"))) hC (fun i n H1 Zy Zn he hC hy hn => ?_) (fun H' t vr hC => ?_)
  · have hn2 : n ∈ ks.map fun e => e.nm := (srtT_perm _).mem_iff.mp (List.mem_of_getElem? he)
    obtain ⟨e, hek, rfl⟩ := List.mem_map.mp hn2
    simp only [wipe, List.set_cons_zero, List.set_cons_succ]
    walk_at "go"
    refine ⟨rfl, ?_⟩
    walk_at "go"
    refine c_value (p := none) hC (by walk_at "perm3") ok hek rfl ?_
    clear hC; intro H hC
    walk_at "go"
    have hf : (ks.find? fun x => decide (x.nm = e.nm)) = some e := by
      cases hf : ks.find? fun x => decide (x.nm = e.nm) with
      | none => exact absurd (decide_eq_true rfl) (List.find?_eq_none.mp hf e hek)
      | some f => rw [okk_eq ok (List.mem_of_find?_eq_some hf) hek (of_decide_eq_true (List.find?_some (p := fun x : KE => decide (x.nm = e.nm)) hf))]
    refine hy _ _ _ rfl hC (fun j hj => by walk_at "mem") ?_
    rw [hf]
    exact .tup (hC.tup (by walk_at "mem")) (.cons (.str _) (.cons (sca_td (hv e hek).sca) .nil))
  · have ht := hC.tri (ps := tb) (by walk_at "mem")
    have hd := hC.dats (vs := vr) (ds := ((srtT (ks.map fun e => e.nm)).filter fun _ => true).map fun n => .tuple [.str n, (((ks.find? fun e => decide (e.nm = n)).map fun e => dV (valE e rows own rules none)).getD .none)]) (by walk_at "mem")
    rw [show ((srtT (ks.map fun e => e.nm)).filter fun _ => true) = srtT (ks.map fun e => e.nm) from List.filter_eq_self.mpr fun _ _ => rfl] at hd
    exact k _ _ _ _ hC.sb (by unfold SL; walk_at "lay3") ht (hC.tup (by walk_at "mem")) hd
theorem als_eq : ∀ xs, xs ∈ ALS → PyData.eqv (.tuple (xs.map dV)) (.tuple [.int 0, .int 9]) = spanB xs := by
  intro xs h
  simp only [ALS, List.mem_cons, List.not_mem_nil, or_false] at h
  rcases h with rfl | rfl | rfl | rfl | rfl
  all_goals simp [PyData.eqv, PyData.eqvAll, dV, spanB]
theorem als_const : ∀ xs, xs ∈ ALS → ∃ x r, xs = x :: r ∧ ∀ o, o ∈ xs → isB o = isB x := by
  intro xs h
  simp only [ALS, List.mem_cons, List.not_mem_nil, or_false] at h
  rcases h with rfl | rfl | rfl | rfl | rfl
  all_goals refine ⟨_, _, rfl, by decide⟩
theorem als_sh {xs : List V} (h : xs ∈ ALS) : SeqAt.shaped (.tuple (xs.map dV)) = true := by
  simp only [ALS, List.mem_cons, List.not_mem_nil, or_false] at h
  rcases h with rfl | rfl | rfl | rfl | rfl
  all_goals decide +kernel
theorem scas_td {xs : List V} (h : ∀ o, o ∈ xs → scaB o = true) : TDs K H xs (xs.map dV) := by
  induction xs with
  | nil => exact .nil
  | cons x r ih => exact .cons (sca_td (h x List.mem_cons_self)) (ih fun o ho => h o (List.mem_cons_of_mem _ ho))
theorem pure_law_allowed {H0 : Hp} (T : Txt K mg a) (h : sp_law_allowed K a vs H0 Q E) : t_law_allowed K a E { nx := fun _ H' => Q .non H', rt := Q } (L2.start N_law_allowed vs) H0 := by
  obtain ⟨_, v, al, L, rfl, hv, hal, y, k⟩ := h
  have hC := Ctx.start (K := K) y
  have hs := hv.sca
  unfold t_law_allowed
  walk_at "start"
  cases al with
  | none =>
    simp only [alV]
    have hk : ∀ b, goodV none v = b → Q (.bl b) H0 := fun b hb => by rw [← hb]; exact k _ hC.sb hC.lay
    cases hv with
    | non => walk_at "go"; exact hk _ rfl
    | bl b => walk_at "go"; exact hk _ rfl
    | int i h0 h1 => walk_at "go"; exact hk _ rfl
    | str x h h1 h2 => walk_at "go"; exact hk _ (by simp only [goodV, shortS]; congr 1; rw [eq_iff_iff]; omega)
  | some p =>
    obtain ⟨tp0, xs⟩ := p
    obtain ⟨hx, hxs, hn⟩ := hal _ rfl
    simp only at hx hxs hn
    have hsc := als_sca xs hxs
    simp only [alV]
    replace hC := hC.add (i := .tup tp0 xs) hx
    walk_at "go"
    have ht : TD K H (.ref tp0) (.tuple (xs.map dV)) := .tup (hC.tup (by walk_at "mem")) (scas_td hsc)
    have ht2 : TD K H (.ref tp) (.tuple [.int 0, .int 9]) := .tup (hC.tup (by walk_at "mem")) (.cons (.int _) (.cons (.int _) .nil))
    refine s_eqD ht.dp ht2.dp (als_sh hxs) (by decide +kernel) ?_
    rw [als_eq xs hxs]
    have hk : ∀ b H1 I1, Ctx K H0 H1 L I1 → goodV (some xs) v = b → Q (.bl b) H1 := fun b H1 I1 hC hb => by rw [← hb]; exact k _ hC.sb hC.lay
    cases hsp : spanB xs
    · have hg : goodV (some xs) v = xs.any fun o => eqPy v o && (isB v == isB o) := by simp only [goodV, hsp]; rw [if_neg Bool.false_ne_true]
      obtain ⟨x, r, hxr, hc⟩ := als_const xs hxs
      rw [any_const hc] at hg
      walk_at "go"
      refine s_inF (hC.tup (a := tp0) (by walk_at "mem")) hs hsc ?_
      cases h1 : xs.any fun o => eqPy v o
      · rw [h1] at hg
        walk_at "go"
        exact hk _ _ _ hC hg
      · rw [h1] at hg
        walk_at "go"
        refine s_isvB hs ?_
        walk_at "go"
        refine s_ixT (j := 0) (hC.tup (a := tp0) (by walk_at "mem")) (by rw [hxr]; rfl) ?_
        walk_at "go"
        refine s_isvB (hsc x (by rw [hxr]; exact List.mem_cons_self)) ?_
        refine s_eqB ?_
        exact hk _ _ _ hC hg
    · have hx2 : xs = [.int 0, .int 9] := of_decide_eq_true hsp
      subst hx2
      have hk2 : ∀ b, inSpan v = b → Q (.bl b) H := fun b hb => hk b _ _ hC (by rw [← hb]; rfl)
      walk_at "go"
      cases hv with
      | non => walk_at "go"; exact hk2 _ rfl
      | bl b => walk_at "go"; exact hk2 _ rfl
      | int i h0 h1 =>
        walk_at "all"
        all_goals exact hk2 _ (by simp only [inSpan]; first | exact decide_eq_true (by omega) | exact decide_eq_false (by omega) | (congr 1; rw [eq_iff_iff]; omega))
      | str x h h1 h2 => walk_at "go"; exact hk2 _ rfl
end
section
variable {K : PySem.W.Frag} {mg : Str → Option Value} {a : Adr} {vs : List V} {H : Hp} {Q : VK} {E : XK}
theorem pure_law_roll (T : Txt K mg a) (h : sp_law_roll K a vs H Q E) : t_law_roll K a E { nx := fun _ H' => Q .non H', rt := Q } (L2.start N_law_roll vs) H := by
  obtain ⟨_, d, m, i, j, l, F, rfl, h1, m0, m1, k⟩ := h
  have hC := Ctx.start (K := K) h1
  unfold t_law_roll
  walk_at "start"
  walk_at "all"
  all_goals first
    | exact k _ _ _ _ _ (Int.emod_nonneg _ (by omega)) (Int.emod_lt_of_pos _ m0) hC.sb hC.lay
theorem pure_law_dice (T : Txt K mg a) (h : sp_law_dice K a vs H Q E) : t_law_dice K a E { nx := fun _ H' => Q .non H', rt := Q } (L2.start N_law_dice vs) H := by
  obtain ⟨_, c0, L, rfl, h1, k⟩ := h
  have hC := Ctx.start (K := K) h1
  unfold t_law_dice
  walk_at "start"
  walk_at "all"
  all_goals first
    | exact k _ _ _ _ _ hC.sb hC.lay
    | trace_state
theorem DL.snoc {ds : List (Addr × Int × Int × Int)} {p : Addr} {i j l : Int} {x : Addr × HO} {L F : List (Addr × HO)} : ((p, HO.lst [.int i, .int j, .int l]) :: (x :: (F ++ (DL ds ++ L)))).Perm (x :: (F ++ (DL (ds ++ [(p, i, j, l)]) ++ L))) := by
  refine (List.Perm.swap _ _ _).trans (List.Perm.cons _ ?_)
  unfold DL
  rw [List.map_append, List.append_assoc]
  refine List.Perm.trans (List.perm_middle (l₁ := F)).symm ?_
  exact List.Perm.append_left F List.perm_middle.symm
theorem ints_cut {ns : List Int} {m : Int} (h0 : 0 ≤ m) (h1 : m ≤ 1000) : ∃ ms : List Int, cutV (ns.map V.int) none (some m) = ms.map V.int ∧ ms.length ≤ 1000 := by
  unfold cutV
  rw [← List.map_drop, ← List.map_take]
  refine ⟨_, rfl, ?_⟩
  rw [List.length_take]
  refine Nat.le_trans (Nat.min_le_left _ _) ?_
  obtain ⟨k, rfl⟩ := Int.eq_ofNat_of_zero_le h0
  show HT.sIx _ _ (some (k : Int)) - _ ≤ 1000
  rw [HT.sIx_nat]
  omega
theorem rounds_rest {B : Hp} {a : Adr} {v0 v1 : Option V} {q : Addr} {ms : List Int} {L F : List (Addr × HO)} (hC : Ctx K B H ((q, .lst (ms.map V.int)) :: (F ++ L)) []) (hm : ms.length ≤ 1000)
    (k : ∀ p (ds : List (Addr × Int × Int × Int)) H', Stb B H' → Lay H' ((p, .lst (ds.map fun d => V.ref d.1)) :: (DL ds ++ L)) → Q (.ref p) H') :
    kLc (gName 3) tYes (tCall (sp_law_dice K a) [] E0 (tCons (tVar 3) tNil)) [3] [v0, v1, some (.ref q), none] Q (Itl K q) H := by
  refine lc_lst (xs := ms.map V.int) hC (fun D i H1 => ∃ ds : List (Addr × Int × Int × Int), ds.length = i ∧ Ctx K B H1 ((D, .lst (ds.map fun d => V.ref d.1)) :: ((q, .lst (ms.map V.int)) :: (F ++ (DL ds ++ L)))) [])
    (fun D H1 hC => ⟨[], rfl, hC⟩) (fun i D H1 hi ⟨ds, e, hC⟩ => hC.get (by walk_at "mem")) ?_ ?_
  · rintro i x D H hx ⟨ds, e, hC⟩
    have hlt := (List.getElem?_eq_some_iff.mp hx).1
    rw [List.length_map] at hlt
    rw [List.getElem?_map] at hx
    obtain ⟨n, hn, rfl⟩ := Option.map_eq_some_iff.mp hx
    simp only [wipe, List.set_cons_zero, List.set_cons_succ]
    walk_at "go"
    refine ⟨rfl, ?_⟩
    walk_at "go"
    refine s_app hC (acc := ds.map fun d => V.ref d.1) (hC.get (by walk_at "mem")) (by rw [List.length_map]; omega) (.there .here) (fun H2 hC => ?_)
    refine ⟨ds ++ [(dd, di, dj, dl)], by rw [List.length_append, e]; rfl, ?_⟩
    rw [List.map_append]
    refine hC.perm ?_
    refine (List.Perm.swap _ _ _).trans (List.Perm.cons _ ?_)
    exact DL.snoc
  · rintro D H ⟨ds, e, hC⟩
    refine k D ds H hC.sb ?_
    have y := hC.lay.perm (List.Perm.swap _ _ _)
    have y := y.tail
    have z : ((D, HO.lst (ds.map fun d => V.ref d.1)) :: (F ++ (DL ds ++ L))).Perm (F ++ ((D, HO.lst (ds.map fun d => V.ref d.1)) :: (DL ds ++ L))) := List.perm_middle.symm
    have y := y.perm z
    exact ⟨(List.nodup_append.mp (by rw [← List.map_append]; exact y.nd)).2.1, fun p hp => y.at_ p (List.mem_append_right _ hp)⟩
theorem pure_law_rounds (T : Txt K mg a) (h : sp_law_rounds K a vs H Q E) : t_law_rounds K a E { nx := fun _ H' => Q .non H', rt := Q } (L2.start N_law_rounds vs) H := by
  obtain ⟨_, s, m, ns, L, rfl, hs, h1, m0, m1, k⟩ := h
  have hC := Ctx.start (K := K) h1
  unfold t_law_rounds
  walk_at "start"
  walk_at "go"
  obtain ⟨ms, e, hm⟩ := ints_cut (ns := ns) m0 m1
  rw [e] at hC
  refine s_eqD (Dp.lst (SqL.of (hC.get (by walk_at "mem"))) (ints_dats K _ ms).dp) (Dp.lst (SqL.of (hC.get (by walk_at "mem"))) .nil) ((ints_sh (n := 0) ms).list.shaped (by decide)) ((ShL.nil (n := 0)).list.shaped (by decide)) ?_
  walk_at "go"
  refine s_iteB (fun c => ?_) (fun c => ?_)
  · walk_at "go"
    exact rounds_rest (ms := [0]) (F := [_, _]) hC (by decide) k
  · walk_at "go"
    exact rounds_rest (ms := ms) (F := [_]) (hC.perm (List.Perm.swap _ _ _)) hm k
end
section
variable {K : PySem.W.Frag} {mg : Str → Option Value} {a : Adr} {vs : List V} {B H : Hp} {Q : VK} {E : XK} {L L' F : List (Addr × HO)} {I : List Im}
variable {dd kL dL oL rL so dx kd rd od ud : Addr} {i j l : Int} {qsh tbS qk qv qp qc : Array Value} {ks : List KE} {qs : List QE} {rows rules rulesL : List (Str × V)} {own : List ((Str × Str) × V)} {n : Nat} {N Bk Ct : L2.St → Hp → Prop} {Rt : VK}
variable {v6 v7 v8 v9 v10 v11 v12 v13 v14 v15 v16 v17 : Option V}
def WS (K : PySem.W.Frag) (a : Adr) (B : Hp) (dd kL so dx kd rd od ud : Addr) (ks : List KE) (qs : List QE) (F : List (Addr × HO)) (n : Nat) (σ : L2.St) (H : Hp) : Prop :=
  ∃ (i j l : Int) (dL oL rL : Addr) (qsh tbS qk qv qp qc : Array Value) (rows rules rulesL : List (Str × V)) (own : List ((Str × Str) × V)) (v6 v7 v8 v9 v10 v11 v12 v13 v14 v15 v16 v17 : Option V),
    σ = [some (.ref dd), some (.ref so), some (.ref kL), some (.ref dL), some (.ref oL), some (.ref rL), v6, v7, v8, v9, v10, v11, v12, v13, v14, v15, v16, v17] ∧ SI n ks qs rows rules rulesL own ∧ TK qk qv qp qc ∧
    Ctx K B H (SWL a dd i j l kL dL oL rL qsh tbS qk qv qp qc so dx kd rd od ud ks qs rows rules rulesL own F) (wImS K qs qsh tbS)
theorem win (h : SI n ks qs rows rules rulesL own) (tk : TK qk qv qp qc) (hC : Ctx K B H (SWL a dd i j l kL dL oL rL qsh tbS qk qv qp qc so dx kd rd od ud ks qs rows rules rulesL own F) (wImS K qs qsh tbS)) :
    WS K a B dd kL so dx kd rd od ud ks qs F n [some (.ref dd), some (.ref so), some (.ref kL), some (.ref dL), some (.ref oL), some (.ref rL), v6, v7, v8, v9, v10, v11, v12, v13, v14, v15, v16, v17] H :=
  ⟨i, j, l, dL, oL, rL, qsh, tbS, qk, qv, qp, qc, rows, rules, rulesL, own, v6, v7, v8, v9, v10, v11, v12, v13, v14, v15, v16, v17, rfl, h, tk, hC⟩
theorem who_of {x : V} {i : Nat} (h : ([.non, .str "ann", .str "bob"] : List V)[i]? = some x) : ∃ p : Option Str, x = pV p := by
  match i, h with
  | 0, h => cases h; exact ⟨none, rfl⟩
  | 1, h => cases h; exact ⟨some "ann", rfl⟩
  | 2, h => cases h; exact ⟨some "bob", rfl⟩
theorem due_eq (h : SI n ks qs rows rules rulesL own) {e : KE} {q : QE} (h1 : e.nm = q.nm) (h2 : e.df = q.df) (p : Option Str) :
    (look rulesL q.nm).getD ((ownL own q.nm p).getD ((look rows q.nm).getD q.df)) = valE e rows own rules p := by
  unfold valE
  rw [h.eq, h1, h2]
/-- one round of the check -/
theorem tail12_ok (T : Txt K mg a) {odk : Obj} {q : QE} {p : Option Str} {J : List Im} (h : SI n ks qs rows rules rulesL own) (hq : q ∈ qs)
    (hI : imFz kL odk (.dK (mK id (kd2 qs))) ∈ J) (hQ : imQ K qs ∈ J)
    (hC : Ctx K B H ((dL, .dK (mK id rows)) :: (oL, .dT (mP id own)) :: (rL, .dK (mK id rulesL)) :: SL a so dx kd rd od ud ks rows own rules F) J)
    (k : ∀ H1 x y, Ctx K B H1 ((dL, .dK (mK id rows)) :: (oL, .dT (mP id own)) :: (rL, .dK (mK id rulesL)) :: SL a so dx kd rd od ud ks rows own rules F) J → N [some (.ref dd), some (.ref so), some (.ref kL), some (.ref dL), some (.ref oL), some (.ref rL), v6, v7, v8, v9, v10, v11, some (.str q.nm), some (pV p), x, y, v16, v17] H1) :
    t_law_settings_tail12 K a E ⟨N, Rt, Bk, Ct⟩ [some (.ref dd), some (.ref so), some (.ref kL), some (.ref dL), some (.ref oL), some (.ref rL), v6, v7, v8, v9, v10, v11, some (.str q.nm), some (pV p), v14, v15, v16, v17] H := by
  have hL := kd2_look h.qok hq
  have hu := hC.pr (P := fun H => qOk K H qs) hQ q hq
  obtain ⟨e, he, en, ed, _⟩ := h.mat.of hq
  have hval := (h.val he p).sca
  replace hC := hC.add (i := .tup q.u _) hu.1
  unfold SL at hC
  unfold t_law_settings_tail12
  have fin : ∀ H1 I1, Ctx K B H1 ((dL, .dK (mK id rows)) :: (oL, .dT (mP id own)) :: (rL, .dK (mK id rulesL)) :: SL a so dx kd rd od ud ks rows own rules F) I1 → (∀ j, j ∈ J → j ∈ I1) →
      (tSeq (tAsg (tMeth a.c_Settings "value" (sp_Settings_value K a) [] E (tVar 1) (tCons (tVar 12) (tCons (tVar 13) tNil))) (gName 15)) (tIfS (tOr (tTest (tOp (rNeU K) (tVar 15) (tVar 14))) (tTest (tOp (rNeU K) (tCB (rIsi K) (tCons (tVar 15) (tCons (tC (.ty "bool")) tNil))) (tCB (rIsi K) (tCons (tVar 14) (tCons (tC (.ty "bool")) tNil)))))) (tRet (tC (.bl false))) tNext)) ⟨N, Rt, Bk, Ct⟩ [some (.ref dd), some (.ref so), some (.ref kL), some (.ref dL), some (.ref oL), some (.ref rL), v6, v7, v8, v9, v10, v11, some (.str q.nm), some (pV p), some (valE e rows own rules p), v15, v16, v17] H1 := by
    intro H1 I1 hC hs
    unfold SL at hC
    walk_at "go"
    refine c_value (p := p) hC (by walk_at "perm3") (okk_of h.mat h.qok) he en ?_
    clear hC; intro H hC
    walk_at "go"
    refine s_neV hval hval ?_
    rw [sca_refl hval]
    walk_at "go"
    refine s_isvB hval ?_
    walk_at "go"
    refine s_isvB hval ?_
    walk_at "go"
    exact k _ _ _ ⟨by unfold SL; walk_at "lay3", fun j hj => hC.im j (hs j hj), hC.sb⟩
  walk_at "go"
  cases p with
  | none =>
    simp only [pV] at fin ⊢
    walk_at "go"
    refine s_g2Mo (s_g2iv (hC.get (by walk_at "mem")) ?_)
    refine s_g2Mn (hC.get (by walk_at "mem")) (by walk_at "prm") ?_
    refine s_g2Mo (s_g2iv (hC.get (by walk_at "mem")) ?_)
    rw [show (look rulesL q.nm).getD ((look rows q.nm).getD q.df) = valE e rows own rules none from due_eq h en ed none]
    refine s_name (by walk_at "set") ?_
    exact fin _ _ hC (fun j hj => by walk_at "mem")
  | some s =>
    simp only [pV] at fin ⊢
    walk_at "go"
    refine s_g2Mo (s_g2iv (hC.get (by walk_at "mem")) ?_)
    refine s_g2Mo (s_g2P (hC.get (by walk_at "mem")) (by walk_at "prm") ?_)
    refine s_g2Mo (s_g2iv (hC.get (by walk_at "mem")) ?_)
    rw [show (look rulesL q.nm).getD ((look own (s, q.nm)).getD ((look rows q.nm).getD q.df)) = valE e rows own rules (some s) from due_eq h en ed (some s)]
    refine s_name (by walk_at "set") ?_
    exact fin _ _ hC (fun j hj => by walk_at "mem")
end
section
variable {K : PySem.W.Frag} {mg : Str → Option Value} {a : Adr} {vs : List V} {B H : Hp} {Q : VK} {E : XK} {L L' F : List (Addr × HO)} {I : List Im}
variable {dd kL dL oL rL so dx kd rd od ud : Addr} {i j l : Int} {qsh tbS qk qv qp qc : Array Value} {ks : List KE} {qs : List QE} {rows rules rulesL : List (Str × V)} {own : List ((Str × Str) × V)} {n : Nat} {N Bk Ct : L2.St → Hp → Prop} {Rt : VK}
variable {v6 v7 v8 v9 v10 v11 v12 v13 v14 v15 v16 v17 : Option V}
theorem kd2_nms {qs : List QE} (h : Mat ks qs) : (kd2 qs).map (·.1) = ks.map fun e => e.nm := by rw [h.nms]; unfold kd2; rw [List.map_map]; rfl
theorem nms_ok (h : SI n ks qs rows rules rulesL own) : ∀ x, x ∈ srtT (ks.map fun e => e.nm) → PyData.strOk x = true := by
  intro x hx
  have := (srtT_perm _).mem_iff.mp hx
  rw [h.mat.nms, h.qok.nms] at this
  have key : ∀ x, x ∈ (["volume", "dark", "name", "mode"] : List Str) → PyData.strOk x = true := by decide +kernel
  exact key x this
theorem none_no (h : SI n ks qs rows rules rulesL own) : ∀ e, e ∈ ks → e.nm ≠ ("none" : Str) := by
  intro e he
  have : e.nm ∈ ks.map fun e => e.nm := List.mem_map.mpr ⟨e, he, rfl⟩
  rw [h.mat.nms, h.qok.nms] at this
  have key : ∀ x, x ∈ (["volume", "dark", "name", "mode"] : List Str) → x ≠ ("none" : Str) := by decide +kernel
  exact key _ this
theorem zip_snd : ∀ {vr : List V} {ns : List Str}, ns.length ≤ vr.length → (vr.zip ns).map (fun z : V × Str => V.str z.2) = ns.map V.str
  | _, [], _ => by simp
  | v :: vr, n :: ns, h => by
    rw [List.zip_cons_cons, List.map_cons, List.map_cons, zip_snd (by simpa using h)]
theorem tail15_ok (T : Txt K mg a) (h : SI n ks qs rows rules rulesL own) (tk : TK qk qv qp qc) (hC : Ctx K B H (SWL a dd i j l kL dL oL rL qsh tbS qk qv qp qc so dx kd rd od ud ks qs rows rules rulesL own F) (wImS K qs qsh tbS))
    (k : ∀ σ H, WS K a B dd kL so dx kd rd od ud ks qs F n σ H → N σ H) :
    t_law_settings_tail15 K a E ⟨N, Rt, Bk, Ct⟩ [some (.ref dd), some (.ref so), some (.ref kL), some (.ref dL), some (.ref oL), some (.ref rL), v6, v7, v8, v9, v10, v11, v12, v13, v14, v15, v16, v17] H := by
  have okk := okk_of h.mat h.qok
  have hkl : (kd2 qs).length < 64 := by rw [kd2_len, h.qok.len]; decide
  unfold t_law_settings_tail15
  unfold SWL wImS KT SL at hC
  walk_at "go"
  refine c_shown hC (by unfold SL; walk_at "perm3") okk (hC.tri (by walk_at "mem")) (fun e he => h.val he none) (fun H1 t vr qsh' hts hC => ?_)
  unfold SL at hC
  walk_at "go"
  have hd := hC.dats (vs := vr) (ds := (srtT (ks.map fun e => e.nm)).map fun n => .tuple [.str n, (((ks.find? fun e => decide (e.nm = n)).map fun e => dV (valE e rows own rules none)).getD .none)]) (by walk_at "mem")
  have hlen : vr.length = (srtT (ks.map fun e => e.nm)).length := by rw [hd.length, List.length_map]
  have hl10 : (srtT (ks.map fun e => e.nm)).length ≤ 10 := by rw [(srtT_perm _).length_eq, List.length_map]; exact okk.len
  refine lc_pick (es := vr.zip (srtT (ks.map fun e => e.nm))) (kf := fun z : V × Str => z.1) (walk_tupE (xs := vr) (by rw [List.map_fst_zip (by omega)])) (fun _ => true) (fun z => .str z.2) (by rw [List.length_zip]; omega) (fun H1 x hC => hC.tup (by walk_at "mem")) hC (fun i0 z H1 D vr2 Zy Zn he hC hy hn => ?_) (fun H bL hC => ?_)
  · obtain ⟨v, nm⟩ := z
    have h1 := List.getElem?_zip_eq_some.mp he
    obtain ⟨w, hw, td⟩ := TDs_at (d := .tuple [.str nm, (((ks.find? fun e => decide (e.nm = nm)).map fun e => dV (valE e rows own rules none)).getD .none)]) (hC.dats (vs := vr) (ds := (srtT (ks.map fun e => e.nm)).map fun n => .tuple [.str n, (((ks.find? fun e => decide (e.nm = n)).map fun e => dV (valE e rows own rules none)).getD .none)]) (by walk_at "mem")) (i := i0) (by rw [List.getElem?_map, h1.2]; rfl)
    have hvw : v = w := Option.some.inj (h1.1.symm.trans hw)
    subst hvw
    cases td with
    | tup sq lt =>
    rename_i t0 xs0
    cases lt with
    | cons a1 lt =>
      cases a1
      have hC2 := hC
      replace hC := hC.add (i := .tup t0 _) sq
      simp only [wipe, List.set_cons_zero, List.set_cons_succ]
      walk_at "go"
      refine ⟨rfl, ?_⟩
      walk_at "go"
      exact hy _ _ rfl hC2 (fun j hj => hj)
  have hz : ((vr.zip (srtT (ks.map fun e => e.nm))).filter fun _ => true).map (fun z : V × Str => V.str z.2) = (srtT (ks.map fun e => e.nm)).map V.str := by
    rw [show ((vr.zip (srtT (ks.map fun e => e.nm))).filter fun _ => true) = vr.zip (srtT (ks.map fun e => e.nm)) from List.filter_eq_self.mpr fun _ _ => rfl]
    exact zip_snd (by omega)
  rw [hz] at hC
  walk_at "go"
  rw [kd2_nms h.mat] at hC
  refine s_neSameS (hC.get (by walk_at "mem")) (hC.get (by walk_at "mem")) (nms_ok h) ?_
  walk_at "go"
  refine c_valueF (p := none) hC (by unfold SL; walk_at "perm3") okk (none_no h) ?_
  clear hC; intro H hC
  walk_at "go"
  have hb := hC.im (.tab (lamq "_law_settings") tb) (by walk_at "mem")
  exact k _ _ (win (qsh := qsh') (tbS := tb) h tk ⟨by unfold SWL KT SL; walk_at "lay3", (by
    intro j hj
    rcases List.mem_cons.mp hj with rfl | hj
    · exact hC.im _ (by walk_at "mem")
    · rcases List.mem_cons.mp hj with rfl | hj
      · exact hts
      · rcases List.mem_cons.mp hj with rfl | hj
        · exact hb
        · cases hj), hC.sb⟩)
/-- all that counts is looked at -/
theorem tail16_ok (T : Txt K mg a) (h : SI n ks qs rows rules rulesL own) (tk : TK qk qv qp qc) (hC : Ctx K B H (SWL a dd i j l kL dL oL rL qsh tbS qk qv qp qc so dx kd rd od ud ks qs rows rules rulesL own F) (wImS K qs qsh tbS))
    (k : ∀ σ H, WS K a B dd kL so dx kd rd od ud ks qs F n σ H → N σ H) :
    t_law_settings_tail16 K a E ⟨N, Rt, Bk, Ct⟩ [some (.ref dd), some (.ref so), some (.ref kL), some (.ref dL), some (.ref oL), some (.ref rL), v6, v7, v8, v9, v10, v11, v12, v13, v14, v15, v16, v17] H := by
  unfold t_law_settings_tail16
  have hC0 := hC
  unfold SWL wImS at hC
  walk_at "go"
  have pk : Pick (kL, HO.dK (mK id (kd2 qs))) (SWL a dd i j l kL dL oL rL qsh tbS qk qv qp qc so dx kd rd od ud ks qs rows rules rulesL own F) ((dd, .lst [.int i, .int j, .int l]) :: (a.tb_Settings_shown, .tbl qsh) :: (a.tb_law_settings, .tbl tbS) :: (dL, .dK (mK id rows)) :: (oL, .dT (mP id own)) :: (rL, .dK (mK id rulesL)) :: KT a qk qv qp qc (SL a so dx kd rd od ud ks rows own rules F)) := by walk_at "pick"
  refine s_lockT hC0 pk trivial (fun odk H1 s1 hC => ?_)
  refine s_for (s_keys (s_var rfl (s_keysK (hC.frz (by walk_at "mem")) ?_)))
  refine for_w (walk_keysE (es := qs) (kk := fun q => Sum.inr q.nm) (vf := fun q => V.ref q.u) (by unfold kd2 mK; rw [List.map_map]; rfl)) (fun _ σ H => ∃ (v12 v13 v14 v15 : Option V), σ = [some (.ref dd), some (.ref so), some (.ref kL), some (.ref dL), some (.ref oL), some (.ref rL), v6, v7, v8, v9, v10, v11, v12, v13, v14, v15, v16, v17] ∧ Ctx K H1 H ((dd, .lst [.int i, .int j, .int l]) :: (a.tb_Settings_shown, .tbl qsh) :: (a.tb_law_settings, .tbl tbS) :: (dL, .dK (mK id rows)) :: (oL, .dT (mP id own)) :: (rL, .dK (mK id rulesL)) :: KT a qk qv qp qc (SL a so dx kd rd od ud ks rows own rules F)) (imFz kL odk (.dK (mK id (kd2 qs))) :: wImS K qs qsh tbS)) ⟨v12, v13, v14, v15, rfl, hC⟩ (fun _ σ H _ ⟨_, _, _, _, _, hC⟩ => hC.frz (by walk_at "mem")) ?_ ?_
  · rintro ix x σ H2 H3 hi ⟨w12, w13, w14, w15, rfl, hC⟩ hy
    obtain ⟨rfl, q, hq, rfl⟩ := ye hy
    have hqm := List.mem_of_getElem? hq
    refine s_name (by walk_at "set") ?_
    unfold t_law_settings_for14
    refine s_for (s_il ?_)
    walk_at "go"
    refine for_w (walk_list (xs := [.non, .str "ann", .str "bob"])) (fun _ σ H => ∃ (v13 v14 v15 : Option V), σ = [some (.ref dd), some (.ref so), some (.ref kL), some (.ref dL), some (.ref oL), some (.ref rL), v6, v7, v8, v9, v10, v11, some (.str q.nm), v13, v14, v15, v16, v17] ∧ Ctx K H1 H ((lp, .lst [.non, .str "ann", .str "bob"]) :: (dd, .lst [.int i, .int j, .int l]) :: (a.tb_Settings_shown, .tbl qsh) :: (a.tb_law_settings, .tbl tbS) :: (dL, .dK (mK id rows)) :: (oL, .dT (mP id own)) :: (rL, .dK (mK id rulesL)) :: KT a qk qv qp qc (SL a so dx kd rd od ud ks rows own rules F)) (imFz kL odk (.dK (mK id (kd2 qs))) :: wImS K qs qsh tbS)) ⟨w13, w14, w15, rfl, hC⟩ (fun _ σ H _ ⟨_, _, _, _, hC⟩ => SqL.of (hC.get (by walk_at "mem"))) ?_ ?_
    · rintro iy y σ H4 H5 hi2 ⟨u13, u14, u15, rfl, hC⟩ ⟨rfl, hy2⟩
      obtain ⟨p, rfl⟩ := who_of hy2
      refine s_name (by walk_at "set") ?_
      unfold t_law_settings_for13
      refine tail12_ok T (dx := dx) (kd := kd) (rd := rd) (od := od) (ud := ud) (n := n) (ks := ks) (qs := qs) (F := (lp, .lst [.non, .str "ann", .str "bob"]) :: (dd, .lst [.int i, .int j, .int l]) :: (a.tb_Settings_shown, .tbl qsh) :: (a.tb_law_settings, .tbl tbS) :: KT a qk qv qp qc F) h hqm (hI := by walk_at "mem") (hQ := by walk_at "mem") (J := imFz kL odk (.dK (mK id (kd2 qs))) :: wImS K qs qsh tbS) ⟨?_, hC.im, hC.sb⟩ ?_
      · unfold SL
        unfold KT SL at hC
        walk_at "lay3"
      · intro H6 x y hC
        refine ⟨_, _, _, rfl, ?_, hC.im, hC.sb⟩
        unfold SL at hC
        unfold KT SL
        walk_at "lay3"
    · rintro σ H4 ⟨u13, u14, u15, rfl, hC⟩
      exact ⟨_, _, _, _, rfl, hC.lay.subl (.cons _ (List.Sublist.refl _)), hC.im, hC.sb⟩
  · rintro σ H2 ⟨w12, w13, w14, w15, rfl, hC⟩
    refine s_unN hC0 pk s1 hC (hC.frz (by walk_at "mem")) (fun hC => ?_)
    exact tail15_ok T h tk ⟨by unfold SWL; walk_at "lay3", hC.im, hC.sb⟩ k
end
section
variable {K : PySem.W.Frag} {mg : Str → Option Value} {a : Adr} {vs : List V} {B H : Hp} {Q : VK} {E : XK} {L L' F : List (Addr × HO)} {I : List Im}
variable {dd kL dL oL rL so dx kd rd od ud : Addr} {i j l : Int} {qsh tbS qk qv qp qc : Array Value} {ks : List KE} {qs : List QE} {rows rules rulesL : List (Str × V)} {own : List ((Str × Str) × V)} {n : Nat} {N Bk Ct : L2.St → Hp → Prop} {Rt : VK}
variable {v7 v11 v12 v13 v14 v15 v16 v17 : Option V} {nm : Str} {sort : Int} {v : V} {p : Option Str}
/-- whether a value is one of the setting's -/
def gdB (ks : List KE) (nm : Str) (v : V) : Bool := ks.any fun e => decide (e.nm = nm) && goodV (alX e.al) v
theorem gd_q (h : SI n ks qs rows rules rulesL own) (g : gdB ks nm v = true) : ∃ q, q ∈ qs ∧ q.nm = nm := by
  unfold gdB at g
  obtain ⟨e, he, z⟩ := List.any_eq_true.mp g
  rw [Bool.and_eq_true] at z
  obtain ⟨q, hq, h1, _⟩ := h.mat.back he
  exact ⟨q, hq, h1.trans (of_decide_eq_true z.1)⟩
theorem if3_ok (T : Txt K mg a) (h : SI n ks qs rows rules rulesL own) (hn : n ≤ 90) (tk : TK qk qv qp qc) (hv : ValOk v) (okp : ∀ s, p = some s → PyData.strOk s = true) (hC : Ctx K B H (SWL a dd i j l kL dL oL rL qsh tbS qk qv qp qc so dx kd rd od ud ks qs rows rules rulesL own F) (wImS K qs qsh tbS))
    (k : ∀ σ H, WS K a B dd kL so dx kd rd od ud ks qs F (n + 1) σ H → N σ H) :
    t_law_settings_if3 K a E ⟨t_law_settings_tail16 K a E ⟨N, Rt, Bk, Ct⟩, Rt, Bk, Ct⟩ [some (.ref dd), some (.ref so), some (.ref kL), some (.ref dL), some (.ref oL), some (.ref rL), some (.str nm), v7, some (.int sort), some v, some (pV p), some (.bl (gdB ks nm v)), v12, v13, v14, v15, v16, v17] H := by
  have okk := okk_of h.mat h.qok
  have hl1 := h.l1
  have hl2 := h.l2
  have hl1' : rows.length ≤ 1000 := by omega
  have hl2' : own.length ≤ 1000 := by omega
  have hset : setB ks rules nm v = (gdB ks nm v && (look rules nm).isNone) := rfl
  have heq := h.eq nm
  have hks : ∀ {H1 I1 L1}, Ctx K B H1 L1 I1 → imQ K qs ∈ I1 → KsOk K H1 ks := fun hC hm => ksok_of h.mat (hC.pr (P := fun H => qOk K H qs) hm)
  unfold t_law_settings_if3 t_law_settings_tail1
  unfold SWL wImS KT SL at hC
  cases hg : gdB ks nm v with
  | false =>
    walk_at "go"
    refine c_set (p := p) hC (by unfold KT SL; walk_at "perm3") hv (hks hC (by walk_at "mem")) okk hl1' hl2' tk (fun hb => by rw [hset, hg] at hb; cases hb) (fun _ qv qp qc H tk hC => ?_)
    unfold KT SL at hC
    walk_at "go"
    have hb := hC.im (.tab (lamq "_law_settings") tb) (by walk_at "mem")
    exact tail16_ok T (qsh := qsh) (tbS := tb) h.up tk ⟨by unfold SWL KT SL; walk_at "lay3", (by
      intro j hj
      rcases List.mem_cons.mp hj with rfl | hj
      · exact hC.im _ (by walk_at "mem")
      · rcases List.mem_cons.mp hj with rfl | hj
        · exact hC.im _ (by walk_at "mem")
        · rcases List.mem_cons.mp hj with rfl | hj
          · exact hb
          · cases hj), hC.sb⟩ k
  | true =>
    cases hr : look rules nm with
    | some w =>
      have hr2 : look rulesL nm = some w := heq.trans hr
      walk_at "go"
      refine c_set (p := p) hC (by unfold KT SL; walk_at "perm3") hv (hks hC (by walk_at "mem")) okk hl1' hl2' tk (fun hb => by rw [hset, hr, hg] at hb; cases hb) (fun _ qv qp qc H tk hC => ?_)
      unfold KT SL at hC
      walk_at "go"
      have hb := hC.im (.tab (lamq "_law_settings") tb) (by walk_at "mem")
      exact tail16_ok T (qsh := qsh) (tbS := tb) h.up tk ⟨by unfold SWL KT SL; walk_at "lay3", (by
        intro j hj
        rcases List.mem_cons.mp hj with rfl | hj
        · exact hC.im _ (by walk_at "mem")
        · rcases List.mem_cons.mp hj with rfl | hj
          · exact hC.im _ (by walk_at "mem")
          · rcases List.mem_cons.mp hj with rfl | hj
            · exact hb
            · cases hj), hC.sb⟩ k
    | none =>
      have hr2 : look rulesL nm = none := heq.trans hr
      have hqn := gd_q h hg
      walk_at "go"
      refine c_set (p := p) hC (by unfold KT SL; walk_at "perm3") hv (hks hC (by walk_at "mem")) okk hl1' hl2' tk (fun _ qv qp qc H tk hC => ?_) (fun hb => by rw [hset, hr, hg] at hb; cases hb)
      unfold KT SL at hC
      cases p with
      | none =>
        simp only [pV, rowsS, ownS] at hC ⊢
        walk_at "go"
        have hb := hC.im (.tab (lamq "_law_settings") tb) (by walk_at "mem")
        exact tail16_ok T (qsh := qsh) (tbS := tb) (h.setRow hv hqn) tk ⟨by unfold SWL KT SL; walk_at "lay3", (by
          intro j hj
          rcases List.mem_cons.mp hj with rfl | hj
          · exact hC.im _ (by walk_at "mem")
          · rcases List.mem_cons.mp hj with rfl | hj
            · exact hC.im _ (by walk_at "mem")
            · rcases List.mem_cons.mp hj with rfl | hj
              · exact hb
              · cases hj), hC.sb⟩ k
      | some s =>
        simp only [pV, rowsS, ownS] at hC ⊢
        walk_at "go"
        have hb := hC.im (.tab (lamq "_law_settings") tb) (by walk_at "mem")
        exact tail16_ok T (qsh := qsh) (tbS := tb) (SI.setOwn (okp s rfl) h hv hqn) tk ⟨by unfold SWL KT SL; walk_at "lay3", (by
          intro j hj
          rcases List.mem_cons.mp hj with rfl | hj
          · exact hC.im _ (by walk_at "mem")
          · rcases List.mem_cons.mp hj with rfl | hj
            · exact hC.im _ (by walk_at "mem")
            · rcases List.mem_cons.mp hj with rfl | hj
              · exact hb
              · cases hj), hC.sb⟩ k
end
section
variable {K : PySem.W.Frag} {mg : Str → Option Value} {a : Adr} {vs : List V} {B H : Hp} {Q : VK} {E : XK} {L L' F : List (Addr × HO)} {I : List Im}
variable {dd kL dL oL rL so dx kd rd od ud : Addr} {i j l : Int} {qsh tbS qk qv qp qc : Array Value} {ks : List KE} {qs : List QE} {rows rules rulesL : List (Str × V)} {own : List ((Str × Str) × V)} {n : Nat} {N Bk Ct : L2.St → Hp → Prop} {Rt : VK}
variable {v7 v9 v11 v12 v13 v14 v15 v16 v17 : Option V} {nm : Str} {sort : Int} {v : V} {p : Option Str}
theorem fil_id {α : Type} {l : List α} : (l.filter fun _ => true) = l := List.filter_eq_self.mpr fun _ _ => rfl
theorem strs_td {x y : Str} {b : Addr} (h : SqT K H b [.str x, .str y]) : TD K H (.ref b) (.tuple [.str x, .str y]) := .tup h (.cons (.str _) (.cons (.str _) .nil))
theorem nons_td {y : Str} {b : Addr} (h : SqT K H b [.non, .str y]) : TD K H (.ref b) (.tuple [.none, .str y]) := .tup h (.cons .non (.cons (.str _) .nil))
theorem sh_pair {x y : Str} (h1 : PyData.strOk x = true) (h2 : PyData.strOk y = true) : SeqAt.shaped (.tuple [.str x, .str y]) = true := by
  show (PyData.canLay0 (.tuple [.str x, .str y]) && decide ((PyData.tuple [.str x, .str y]).depth ≤ 64)) = true
  simp [PyData.canLay0, PyData.depth, PyData.canLayAll0, PyData.depthAll, h1, h2, PyData.canLayAll0, PyData.depthAll]
theorem sh_npair {y : Str} (h2 : PyData.strOk y = true) : SeqAt.shaped (.tuple [.none, .str y]) = true := by
  show (PyData.canLay0 (.tuple [.none, .str y]) && decide ((PyData.tuple [.none, .str y]).depth ≤ 64)) = true
  simp [PyData.canLay0, PyData.depth, PyData.canLayAll0, PyData.depthAll, h2, PyData.canLayAll0, PyData.depthAll]
theorem eqv_pair {x y z w : Str} : PyData.eqv (.tuple [.str x, .str y]) (.tuple [.str z, .str w]) = decide ((x, y) = (z, w)) := by
  simp only [PyData.eqv, PyData.eqvAll, Bool.and_true, Prod.mk.injEq, Bool.decide_and]
  rfl
theorem eqv_npair {x y w : Str} : PyData.eqv (.tuple [.str x, .str y]) (.tuple [.none, .str w]) = false := by
  simp [PyData.eqv, PyData.eqvAll]
def rowP (nm : Str) (p : Option Str) (x : Str) : Bool := match p with
  | none => decide (x ≠ nm)
  | some _ => true
def ownP (nm : Str) (p : Option Str) (x : Str × Str) : Bool := match p with
  | none => true
  | some s => decide (x ≠ (s, nm))
theorem rows_step (n1 : (rows.map (·.1)).Nodup) (l1 : rows.length ≤ 1000) (hC : Ctx K B H ((dL, .dK (mK id rows)) :: F) I)
    (k : ∀ H1 d x I1, Ctx K B H1 ((d, .dK (mK id (rowsC rows nm p))) :: F) I1 → (∀ j, j ∈ I → j ∈ I1) → N [some (.ref dd), some (.ref so), some (.ref kL), some (.ref d), some (.ref oL), some (.ref rL), some (.str nm), v7, some (.int sort), v9, some (pV p), v11, x, v13, v14, v15, v16, v17] H1) :
    tAsg (tCB (rDictU K) (tCons (tLockE (tLc (iKeys (tVar 3)) (gName 12) (tOr (tTest (tOp rNotN (tVar 10) (tC .non))) (tTest (tOp (rNeU K) (tVar 12) (tVar 6)))) (tTup (tCons (tVar 12) (tCons (tOp (rIxU K) (tVar 3) (tVar 12)) tNil))) [12])) tNil)) (gName 3) ⟨N, Rt, Bk, Ct⟩ [some (.ref dd), some (.ref so), some (.ref kL), some (.ref dL), some (.ref oL), some (.ref rL), some (.str nm), v7, some (.int sort), v9, some (pV p), v11, v12, v13, v14, v15, v16, v17] H := by
  refine s_asg (s_cb (s_cons ?_))
  refine pairsK (rowP nm p) (fun H Q q => s_var rfl q) hC (by walk_at "pick") (by omega) (fun x v H1 D acc od Zy Zn hm hC hy hn => ?_) (fun H1 D ps hC => ?_)
  · have hlk : look rows x = some v := look_of_mem n1 hm
    simp only [wipe, List.set_cons_zero, List.set_cons_succ]
    walk_at "go"
    refine ⟨rfl, ?_⟩
    cases p with
    | none =>
      simp only [pV] at hy hn ⊢
      by_cases c : x = nm
      · subst c
        walk_at "all"
        exact hn _ _ (by simp [rowP]) hC (fun j hj => hj)
      · walk_at "all"
        exact hy _ _ _ (by simp [rowP, c]) hC (fun j hj => by walk_at "mem") (hC.tup (by walk_at "mem"))
    | some s =>
      simp only [pV] at hy hn ⊢
      walk_at "go"
      exact hy _ _ _ rfl hC (fun j hj => by walk_at "mem") (hC.tup (by walk_at "mem"))
  · have hP := hC.pr (P := fun H => Paired (PrF K H) ps (mK id (rows.filter fun q => rowP nm p q.1))) List.mem_cons_self
    have hr : (rows.filter fun q => rowP nm p q.1) = rowsC rows nm p := by
      cases p with
      | none => rfl
      | some s => exact fil_id
    rw [hr] at hP
    have nd : ((rowsC rows nm p).map (·.1)).Nodup := by
      cases p with
      | none => exact del_keys n1
      | some s => exact n1
    walk_at "go"
    refine s_dictP hC (hC.get (by walk_at "mem")) hP nd ?_
    clear hC; intro d H hC
    refine s_name (by walk_at "set") ?_
    walk_at "go"
    refine k _ d _ _ ⟨by walk_at "lay3", hC.im, hC.sb⟩ (fun j hj => List.mem_cons_of_mem _ hj)
theorem qn_ok (h : SI n ks qs rows rules rulesL own) {x : Str} (hq : ∃ q, q ∈ qs ∧ q.nm = x) : PyData.strOk x = true := by
  obtain ⟨q, hq, rfl⟩ := hq
  have : q.nm ∈ qs.map fun q => q.nm := List.mem_map.mpr ⟨q, hq, rfl⟩
  rw [h.qok.nms] at this
  have key : ∀ x, x ∈ (["volume", "dark", "name", "mode"] : List Str) → PyData.strOk x = true := by decide +kernel
  exact key _ this
theorem own_step (n2 : (own.map (·.1)).Nodup) (l2 : own.length ≤ 1000) (ok : ∀ q, q ∈ own → PyData.strOk q.1.1 = true ∧ PyData.strOk q.1.2 = true) (okn : PyData.strOk nm = true) (okp : ∀ s, p = some s → PyData.strOk s = true) (hC : Ctx K B H ((oL, .dT (mP id own)) :: F) I)
    (k : ∀ H1 d x I1, Ctx K B H1 ((d, .dT (mP id (ownC own nm p))) :: F) I1 → (∀ j, j ∈ I → j ∈ I1) → N [some (.ref dd), some (.ref so), some (.ref kL), some (.ref dL), some (.ref d), some (.ref rL), some (.str nm), v7, some (.int sort), v9, some (pV p), v11, x, v13, v14, v15, v16, v17] H1) :
    t_law_settings_tail4 K a E ⟨N, Rt, Bk, Ct⟩ [some (.ref dd), some (.ref so), some (.ref kL), some (.ref dL), some (.ref oL), some (.ref rL), some (.str nm), v7, some (.int sort), v9, some (pV p), v11, v12, v13, v14, v15, v16, v17] H := by
  unfold t_law_settings_tail4
  refine s_asg (s_cb (s_cons ?_))
  refine pairsT (ownP nm p) (fun H Q q => s_var rfl q) hC (by walk_at "pick") (by omega) (fun x v b H1 D acc od Zy Zn hm hb hC hy hn => ?_) (fun H1 D ts ets hC => ?_)
  · have hlk : look own x = some v := look_of_mem n2 hm
    have hox := ok _ hm
    replace hC := (hC.add (i := .tup b [.str x.1, .str x.2]) (.inl (.inl hb))).add (i := .pr (fun H => H b = some (.tup [.str x.1, .str x.2])) (fun _ _ s h => s _ _ h rfl)) hb
    simp only [wipe, List.set_cons_zero, List.set_cons_succ]
    walk_at "go"
    refine ⟨rfl, ?_⟩
    cases p with
    | none =>
      simp only [pV] at hy hn ⊢
      walk_at "go"
      refine s_neD (strs_td (hC.tup (by walk_at "mem"))).dp (nons_td (hC.tup (by walk_at "mem"))).dp (sh_pair hox.1 hox.2) (sh_npair okn) ?_
      rw [eqv_npair]
      walk_at "go"
      refine s_ixPF (hC.frz (by walk_at "mem")) (hC.pr (P := fun H => H b = some (.tup [.str x.1, .str x.2])) (by walk_at "mem")) hlk ?_
      walk_at "go"
      exact hy _ _ _ rfl ⟨hC.lay, hC.im, hC.sb⟩ (fun j hj => by walk_at "mem") (hC.tup (by walk_at "mem"))
    | some s =>
      simp only [pV] at hy hn ⊢
      walk_at "go"
      refine s_neD (strs_td (hC.tup (by walk_at "mem"))).dp (strs_td (hC.tup (by walk_at "mem"))).dp (sh_pair hox.1 hox.2) (sh_pair (okp s rfl) okn) ?_
      rw [eqv_pair]
      by_cases c : (x.1, x.2) = (s, nm)
      · rw [decide_eq_true c]
        walk_at "go"
        exact hn _ _ (decide_eq_false fun z => z c) ⟨hC.lay, hC.im, hC.sb⟩ (fun j hj => by walk_at "mem")
      · rw [decide_eq_false c]
        walk_at "go"
        refine s_ixPF (hC.frz (by walk_at "mem")) (hC.pr (P := fun H => H b = some (.tup [.str x.1, .str x.2])) (by walk_at "mem")) hlk ?_
        walk_at "go"
        exact hy _ _ _ (decide_eq_true c) ⟨hC.lay, hC.im, hC.sb⟩ (fun j hj => by walk_at "mem") (hC.tup (by walk_at "mem"))
  · have hP := hC.pr (P := fun H => TsOk K H ts) List.mem_cons_self
    have hr : (own.filter fun q => ownP nm p q.1) = ownC own nm p := by
      cases p with
      | none => exact fil_id
      | some s => rfl
    rw [hr] at ets
    have nd : ((ownC own nm p).map (·.1)).Nodup := by
      cases p with
      | none => exact n2
      | some s => exact del_keys n2
    walk_at "go"
    refine s_dictP2 hC (hC.get (by walk_at "mem")) hP (by rw [show (ts.map fun t => t.2.2.1) = (ts.map fun t => t.2.2).map (·.1) from by rw [List.map_map]; rfl, ets]; exact nd) ?_
    clear hC; intro d H hC
    rw [ets] at hC
    refine s_name (by walk_at "set") ?_
    walk_at "go"
    refine k _ d _ _ ⟨by walk_at "lay3", hC.im, hC.sb⟩ (fun j hj => List.mem_cons_of_mem _ hj)
theorem tail5_ok (h : SI n ks qs rows rules rulesL own) (hn : n ≤ 90) (okn : PyData.strOk nm = true) (okp : ∀ s, p = some s → PyData.strOk s = true) (hC : Ctx K B H ((dL, .dK (mK id rows)) :: (oL, .dT (mP id own)) :: F) I)
    (k : ∀ H1 d o x I1, Ctx K B H1 ((d, .dK (mK id (rowsC rows nm p))) :: (o, .dT (mP id (ownC own nm p))) :: F) I1 → (∀ j, j ∈ I → j ∈ I1) → N [some (.ref dd), some (.ref so), some (.ref kL), some (.ref d), some (.ref o), some (.ref rL), some (.str nm), v7, some (.int sort), v9, some (pV p), v11, x, v13, v14, v15, v16, v17] H1) :
    t_law_settings_tail5 K a E ⟨N, Rt, Bk, Ct⟩ [some (.ref dd), some (.ref so), some (.ref kL), some (.ref dL), some (.ref oL), some (.ref rL), some (.str nm), v7, some (.int sort), v9, some (pV p), v11, v12, v13, v14, v15, v16, v17] H := by
  have hl1 := h.l1
  have hl2 := h.l2
  unfold t_law_settings_tail5
  refine s_seq ?_
  refine rows_step (p := p) h.n1 (by omega) hC (fun H1 d x I1 hC1 hs1 => ?_)
  refine own_step (p := p) (F := (d, .dK (mK id (rowsC rows nm p))) :: F) h.n2 (by omega) (fun q hq => ⟨h.v5 q hq, qn_ok h (h.v2 q hq).2⟩) okn okp ⟨hC1.lay.perm (List.Perm.swap _ _ _), hC1.im, hC1.sb⟩ (fun H2 o x I2 hC2 hs2 => ?_)
  exact k _ d o x I2 ⟨hC2.lay.perm (List.Perm.swap _ _ _), hC2.im, hC2.sb⟩ (fun j hj => hs2 _ (hs1 _ hj))
theorem kd_or (qs : List QE) (nm : Str) : (∀ q, q ∈ qs → q.nm ≠ nm) ∨ ∃ q, q ∈ qs ∧ q.nm = nm := by
  by_cases hn : ∀ q, q ∈ qs → q.nm ≠ nm
  · exact .inl hn
  · refine .inr (Classical.byContradiction fun z => hn fun e he q => z ⟨e, he, q⟩)
theorem kd_no (h : Mat ks qs) (hn : ∀ q, q ∈ qs → q.nm ≠ nm) : ∀ e, e ∈ ks → e.nm ≠ nm := fun e he z => by
  obtain ⟨q, hq, h1, _⟩ := h.back he
  exact hn q hq (h1.trans z)
theorem gdB_no (h : Mat ks qs) (hn : ∀ q, q ∈ qs → q.nm ≠ nm) : gdB ks nm v = false := anyK_none (f := fun e => goodV (alX e.al) v) (kd_no h hn)
theorem gdB_of (h : Mat ks qs) (hq : QsOk qs) {q : QE} (m : q ∈ qs) : gdB ks q.nm v = goodV (alX q.al) v := by
  obtain ⟨e, he, h1, _, h3⟩ := h.of m
  rw [← h1, ← h3]
  exact anyK_of (f := fun e => goodV (alX e.al) v) (okk_of h hq) he
theorem ruleB_gd (h : Mat ks qs) (hq : QsOk qs) {q : QE} (m : q ∈ qs) : ruleB ks q.nm v = (decide (v = .non) || gdB ks q.nm v) := by
  obtain ⟨e, he, h1, _, h3⟩ := h.of m
  rw [← h1, ruleB_of (okk_of h hq) he]
  congr 1
  exact (anyK_of (f := fun e => goodV (alX e.al) v) (okk_of h hq) he).symm
theorem fin16 (T : Txt K mg a) (h : SI n ks qs rows rules rulesL own) (tk : TK qk qv qp qc) {I' : List Im} (hC : Ctx K B H L' I') (hl : Lay H (SWL a dd i j l kL dL oL rL qsh tbS qk qv qp qc so dx kd rd od ud ks qs rows rules rulesL own F)) (h1 : imQ K qs ∈ I') (h2 : Im.tri qsh ∈ I') (h3 : Im.tab (lamq "_law_settings") tbS ∈ I') {v6 v7 v8 v10 : Option V}
    (k : ∀ σ H, WS K a B dd kL so dx kd rd od ud ks qs F n σ H → N σ H) :
    t_law_settings_tail16 K a E ⟨N, Rt, Bk, Ct⟩ [some (.ref dd), some (.ref so), some (.ref kL), some (.ref dL), some (.ref oL), some (.ref rL), v6, v7, v8, v9, v10, v11, v12, v13, v14, v15, v16, v17] H :=
  tail16_ok T (qsh := qsh) (tbS := tbS) h tk ⟨hl, (by
    intro j hj
    rcases List.mem_cons.mp hj with rfl | hj
    · exact hC.im _ h1
    · rcases List.mem_cons.mp hj with rfl | hj
      · exact hC.im _ h2
      · rcases List.mem_cons.mp hj with rfl | hj
        · exact hC.im _ h3
        · cases hj), hC.sb⟩ k
theorem if7_ok (T : Txt K mg a) (h : SI n ks qs rows rules rulesL own) (hn : n ≤ 90) (tk : TK qk qv qp qc) (okp : ∀ s, p = some s → PyData.strOk s = true) (okn : PyData.strOk nm = true) (hC : Ctx K B H (SWL a dd i j l kL dL oL rL qsh tbS qk qv qp qc so dx kd rd od ud ks qs rows rules rulesL own F) (wImS K qs qsh tbS))
    (k : ∀ σ H, WS K a B dd kL so dx kd rd od ud ks qs F (n + 1) σ H → N σ H) :
    t_law_settings_if7 K a E ⟨t_law_settings_tail16 K a E ⟨N, Rt, Bk, Ct⟩, Rt, Bk, Ct⟩ [some (.ref dd), some (.ref so), some (.ref kL), some (.ref dL), some (.ref oL), some (.ref rL), some (.str nm), v7, some (.int sort), v9, some (pV p), v11, v12, v13, v14, v15, v16, v17] H := by
  have okk := okk_of h.mat h.qok
  unfold t_law_settings_if7
  unfold SWL wImS KT SL at hC
  rcases kd_or qs nm with hq | ⟨q, hq, rfl⟩
  · have hL := kd2_none hq
    have hkn := kd_no h.mat hq
    walk_at "go"
    refine c_clear (p := p) hC (by unfold SL; walk_at "perm3") okk (fun ⟨e, he, z⟩ => absurd z (hkn e he)) (fun _ H hC => ?_)
    unfold SL at hC
    walk_at "go"
    have e1 : rowsC rows nm p = rows := by
      cases p with
      | none => exact del_none (look_none.mpr fun r hr z => by obtain ⟨_, q, hq2, w⟩ := h.v1 r hr; exact hq q hq2 (w.trans z))
      | some s => rfl
    have e2 : ownC own nm p = own := by
      cases p with
      | none => rfl
      | some s => exact del_none (look_none.mpr fun r hr z => by obtain ⟨_, q, hq2, w⟩ := h.v2 r hr; exact hq q hq2 (w.trans (congrArg Prod.snd z)))
    refine tail5_ok (p := p) h hn okn okp (F := (dd, .lst [.int i, .int j, .int l]) :: (a.tb_Settings_shown, .tbl qsh) :: (a.tb_law_settings, .tbl tb) :: (kL, .dK (mK id (kd2 qs))) :: (rL, .dK (mK id rulesL)) :: KT a qk qv qp qc (SL a so dx kd rd od ud ks rows own rules F)) ⟨by unfold KT SL; walk_at "lay3", hC.im, hC.sb⟩ (fun H1 d o x I1 hC1 hs => ?_)
    rw [e1, e2] at hC1
    unfold KT SL at hC1
    have hC := hC1
    exact fin16 (qsh := qsh) (tbS := tb) (i := i) (j := j) (l := l) T h.up tk hC (by unfold SWL KT SL; walk_at "lay3") (hs _ (by walk_at "mem")) (hs _ (by walk_at "mem")) (hs _ (by walk_at "mem")) k
  · have hL := kd2_look h.qok hq
    obtain ⟨e, he, en, _, _⟩ := h.mat.of hq
    walk_at "go"
    refine c_clear (p := p) hC (by unfold SL; walk_at "perm3") okk (fun _ H hC => ?_) (fun z => absurd en (z e he))
    unfold SL at hC
    walk_at "go"
    refine tail5_ok (p := p) h hn okn okp (F := (dd, .lst [.int i, .int j, .int l]) :: (a.tb_Settings_shown, .tbl qsh) :: (a.tb_law_settings, .tbl tb) :: (kL, .dK (mK id (kd2 qs))) :: (rL, .dK (mK id rulesL)) :: KT a qk qv qp qc (SL a so dx kd rd od ud ks (rowsC rows q.nm p) (ownC own q.nm p) rules F)) ⟨by unfold KT SL; walk_at "lay3", hC.im, hC.sb⟩ (fun H1 d o x I1 hC1 hs => ?_)
    unfold KT SL at hC1
    have hC := hC1
    exact fin16 (qsh := qsh) (tbS := tb) (i := i) (j := j) (l := l) T h.clr tk hC (by unfold SWL KT SL; walk_at "lay3") (hs _ (by walk_at "mem")) (hs _ (by walk_at "mem")) (hs _ (by walk_at "mem")) k
end
section
variable {K : PySem.W.Frag} {mg : Str → Option Value} {a : Adr} {vs : List V} {B H : Hp} {Q : VK} {E : XK} {L L' F : List (Addr × HO)} {I : List Im}
variable {dd kL dL oL rL so dx kd rd od ud : Addr} {i j l : Int} {qsh tbS qk qv qp qc : Array Value} {ks : List KE} {qs : List QE} {rows rules rulesL : List (Str × V)} {own : List ((Str × Str) × V)} {n : Nat} {N Bk Ct : L2.St → Hp → Prop} {Rt : VK}
variable {v7 v9 v11 v12 v13 v14 v15 v16 v17 : Option V} {nm : Str} {sort : Int} {v : V} {p : Option Str}
theorem tail8_ok (hv : ValOk v) (l4 : rulesL.length ≤ 1000) (n4 : (rulesL.map (·.1)).Nodup) {g : Bool} {x10 : V} (hC : Ctx K B H ((rL, .dK (mK id rulesL)) :: F) I)
    (k : ∀ H1 d x I1, Ctx K B H1 ((d, .dK (mK id (if g = true then rulesW rulesL nm v else rulesL))) :: F) I1 → (∀ j, j ∈ I → j ∈ I1) → N [some (.ref dd), some (.ref so), some (.ref kL), some (.ref dL), some (.ref oL), some (.ref d), some (.str nm), v7, some (.int sort), some v, some x10, some (.bl g), x, v13, v14, v15, v16, v17] H1) :
    t_law_settings_tail8 K a E ⟨N, Rt, Bk, Ct⟩ [some (.ref dd), some (.ref so), some (.ref kL), some (.ref dL), some (.ref oL), some (.ref rL), some (.str nm), v7, some (.int sort), some v, some x10, some (.bl g), v12, v13, v14, v15, v16, v17] H := by
  unfold t_law_settings_tail8
  cases g with
  | false =>
    walk_at "go"
    exact k _ _ _ _ hC (fun j hj => hj)
  | true =>
    refine s_if (s_tru (s_var rfl (s_truB ?_)))
    simp only [if_true]
    refine s_asg (s_cb (s_cons (s_op ?_)))
    refine pairsK (fun x => decide (x ≠ nm)) (fun H Q q => s_var rfl q) hC (by walk_at "pick") (by omega) (fun x v H1 D acc od Zy Zn hm hC hy hn => ?_) (fun H1 D ps hC => ?_)
    · have hlk : look rulesL x = some v := look_of_mem n4 hm
      simp only [wipe, List.set_cons_zero, List.set_cons_succ]
      walk_at "go"
      refine ⟨rfl, ?_⟩
      by_cases c : x = nm
      · subst c
        walk_at "all"
        exact hn _ _ (by simp) hC (fun j hj => by walk_at "mem")
      · walk_at "all"
        exact hy _ _ _ (by simp [c]) hC (fun j hj => by walk_at "mem") (hC.tup (by walk_at "mem"))
    · have hP := hC.pr (P := fun H => Paired (PrF K H) ps (mK id (rulesL.filter fun q => decide (q.1 ≠ nm)))) List.mem_cons_self
      have hpl : ps.length ≤ 1000 := by
        have q := hP.length
        unfold mK at q
        rw [List.length_map] at q
        have q2 := List.length_filter_le (fun q : Str × V => decide (q.1 ≠ nm)) rulesL
        omega
      have nd : ((delR rulesL nm).map (·.1)).Nodup := del_keys n4
      have hw : rulesW rulesL nm v = (rulesL.filter fun q => decide (q.1 ≠ nm)) ++ (if v = .non then [] else [(nm, v)]) := rfl
      rw [hw] at k
      have hlen : (ps.map V.ref).length ≤ 1000 := by rw [List.length_map]; exact hpl
      by_cases hvn : v = .non
      · subst hvn
        walk_at "go"
        simp only [List.append_nil] at hC
        refine s_dictP hC (hC.get (by walk_at "mem")) (hC.pr (P := fun H => Paired (PrF K H) ps (mK id (rulesL.filter fun q => decide (q.1 ≠ nm)))) (by walk_at "mem")) nd ?_
        clear hC; intro d H hC
        refine s_name (by walk_at "set") ?_
        walk_at "go"
        refine k _ d _ _ ⟨?_, hC.im, hC.sb⟩ (fun j hj => by walk_at "mem")
        rw [if_pos rfl, if_pos rfl, List.append_nil]
        walk_at "lay3"
      · have hnn : ∀ {H1 : Hp} {Q1 : VK}, Q1 (.bl true) H1 → rNotN v .non H1 Q1 := by
          intro H1 Q1 q
          cases hv with
          | non => exact absurd rfl hvn
          | bl b => exact s_notN_bl q
          | int i _ _ => exact s_notN_int q
          | str x _ _ _ => exact s_notN_str q
        walk_at "go"
        refine hnn ?_
        walk_at "go"
        refine s_dictP (f := id) (ps := ps ++ [tp]) (l := delR rulesL nm ++ [(nm, v)]) hC (by rw [List.map_append, List.map_cons, List.map_nil]; exact hC.get (by walk_at "mem")) (by rw [mK_app]; exact Ph.Paired.snoc (hC.pr (P := fun H => Paired (PrF K H) ps (mK id (rulesL.filter fun q => decide (q.1 ≠ nm)))) (by walk_at "mem")) (show SqT K H tp [.str nm, v] from hC.tup (by walk_at "mem"))) (by
          rw [List.map_append]
          refine List.nodup_append.mpr ⟨nd, by simp, ?_⟩
          intro a ha b hb
          obtain ⟨p, hp, rfl⟩ := List.mem_map.mp ha
          rw [List.map_cons, List.map_nil, List.mem_singleton] at hb
          rw [hb]
          exact of_decide_eq_true (List.mem_filter.mp hp).2) ?_
        clear hC; intro d H hC
        refine s_name (by walk_at "set") ?_
        walk_at "go"
        refine k _ d _ _ ⟨?_, hC.im, hC.sb⟩ (fun j hj => by walk_at "mem")
        rw [if_pos rfl, if_neg hvn]
        show Lay H ((d, .dK (mK id (delR rulesL nm ++ [(nm, v)]))) :: F)
        walk_at "lay3"
theorem else11_ok (T : Txt K mg a) (h : SI n ks qs rows rules rulesL own) (hn : n ≤ 90) (tk : TK qk qv qp qc) (hv : ValOk v) (hC : Ctx K B H (SWL a dd i j l kL dL oL rL qsh tbS qk qv qp qc so dx kd rd od ud ks qs rows rules rulesL own F) (wImS K qs qsh tbS))
    (k : ∀ σ H, WS K a B dd kL so dx kd rd od ud ks qs F (n + 1) σ H → N σ H) :
    t_law_settings_else11 K a E ⟨t_law_settings_tail16 K a E ⟨N, Rt, Bk, Ct⟩, Rt, Bk, Ct⟩ [some (.ref dd), some (.ref so), some (.ref kL), some (.ref dL), some (.ref oL), some (.ref rL), some (.str nm), v7, some (.int sort), some v, some (pV p), some (.bl (gdB ks nm v)), v12, v13, v14, v15, v16, v17] H := by
  have okk := okk_of h.mat h.qok
  have hl3 := h.l3
  have hl4 := h.l4
  have hl3' : rules.length ≤ 1000 := by omega
  have hks : ∀ {H1 I1 L1}, Ctx K B H1 L1 I1 → imQ K qs ∈ I1 → KsOk K H1 ks := fun hC hm => ksok_of h.mat (hC.pr (P := fun H => qOk K H qs) hm)
  unfold t_law_settings_else11
  unfold SWL wImS KT SL at hC
  rcases kd_or qs nm with hq | ⟨q, hq, rfl⟩
  · have hL := kd2_none hq
    have hkn := kd_no h.mat hq
    have hr : ruleB ks nm v = false := ruleB_no hkn
    unfold t_law_settings_tail9
    walk_at "go"
    refine c_rule hC (by unfold KT SL; walk_at "perm3") hv (hks hC (by walk_at "mem")) okk hl3' tk (fun b => by rw [hr] at b; cases b) (fun _ qv qp qc H tk hC => ?_)
    unfold KT SL at hC
    walk_at "go"
    refine tail8_ok (g := false) hv (by omega) h.n4 (F := (dd, .lst [.int i, .int j, .int l]) :: (a.tb_Settings_shown, .tbl qsh) :: (a.tb_law_settings, .tbl tb) :: (kL, .dK (mK id (kd2 qs))) :: (dL, .dK (mK id rows)) :: (oL, .dT (mP id own)) :: KT a qk qv qp qc (SL a so dx kd rd od ud ks rows own rules F)) ⟨by unfold KT SL; walk_at "lay3", hC.im, hC.sb⟩ (fun H1 d x I1 hC1 hs => ?_)
    simp only [Bool.false_eq_true, if_false] at hC1
    unfold KT SL at hC1
    have hC := hC1
    exact fin16 (qsh := qsh) (tbS := tb) (i := i) (j := j) (l := l) T h.up tk hC (by unfold SWL KT SL; walk_at "lay3") (hs _ (by walk_at "mem")) (hs _ (by walk_at "mem")) (hs _ (by walk_at "mem")) k
  · have hL := kd2_look h.qok hq
    have hr : ruleB ks q.nm v = (decide (v = .non) || gdB ks q.nm v) := ruleB_gd h.mat h.qok hq
    have hnn : ∀ {H1 : Hp} {Q1 : VK}, Q1 (.bl (decide (v = .non))) H1 → rIsU v .non H1 Q1 := by
      intro H1 Q1 q
      cases hv with
      | non => exact s_uIsN_non q
      | bl b => exact s_uIsN_bl q
      | int i _ _ => exact s_uIsN_int q
      | str x _ _ _ => exact s_uIsN_str q
    walk_at "go"
    refine hnn ?_
    have rest : ∀ g, (decide (v = .non) || gdB ks q.nm v) = g → t_law_settings_tail9 K a E ⟨t_law_settings_tail16 K a E ⟨N, Rt, Bk, Ct⟩, Rt, Bk, Ct⟩ [some (.ref dd), some (.ref so), some (.ref kL), some (.ref dL), some (.ref oL), some (.ref rL), some (.str q.nm), v7, some (.int sort), some v, some (pV p), some (.bl g), v12, v13, v14, v15, v16, v17] H := by
      intro g hg
      rw [hg] at hr
      unfold t_law_settings_tail9
      walk_at "go"
      have fin : ∀ qv qp qc H1, TK qk qv qp qc → Ctx K B H1 (KT a qk qv qp qc (SL a so dx kd rd od ud ks rows own (if g = true then rulesS rules q.nm v else rules) ((dd, .lst [.int i, .int j, .int l]) :: (a.tb_Settings_shown, .tbl qsh) :: (a.tb_law_settings, .tbl tb) :: (kL, .dK (mK id (kd2 qs))) :: (dL, .dK (mK id rows)) :: (oL, .dT (mP id own)) :: (rL, .dK (mK id rulesL)) :: F))) [.tab (lamq "_law_settings") tb, imQ K qs, .tri qsh, .tab (lamq "_law_settings") tbS] →
          t_law_settings_tail8 K a E ⟨t_law_settings_tail16 K a E ⟨N, Rt, Bk, Ct⟩, Rt, Bk, Ct⟩ [some (.ref dd), some (.ref so), some (.ref kL), some (.ref dL), some (.ref oL), some (.ref rL), some (.str q.nm), v7, some (.int sort), some v, some (pV p), some (.bl g), v12, v13, v14, v15, v16, v17] H1 := by
        intro qv qp qc H1 tk hC
        unfold KT SL at hC
        refine tail8_ok (g := g) hv (by omega) h.n4 (F := (dd, .lst [.int i, .int j, .int l]) :: (a.tb_Settings_shown, .tbl qsh) :: (a.tb_law_settings, .tbl tb) :: (kL, .dK (mK id (kd2 qs))) :: (dL, .dK (mK id rows)) :: (oL, .dT (mP id own)) :: KT a qk qv qp qc (SL a so dx kd rd od ud ks rows own (if g = true then rulesS rules q.nm v else rules) F)) ⟨by unfold KT SL; walk_at "lay3", hC.im, hC.sb⟩ (fun H1 d x I1 hC1 hs => ?_)
        unfold KT SL at hC1
        cases g with
        | false =>
          simp only [Bool.false_eq_true, if_false] at hC1
          have hC := hC1
          exact fin16 (qsh := qsh) (tbS := tb) (i := i) (j := j) (l := l) T h.up tk hC (by unfold SWL KT SL; walk_at "lay3") (hs _ (by walk_at "mem")) (hs _ (by walk_at "mem")) (hs _ (by walk_at "mem")) k
        | true =>
          simp only [if_true] at hC1
          have hC := hC1
          exact fin16 (qsh := qsh) (tbS := tb) (i := i) (j := j) (l := l) T (h.rul hv) tk hC (by unfold SWL KT SL; walk_at "lay3") (hs _ (by walk_at "mem")) (hs _ (by walk_at "mem")) (hs _ (by walk_at "mem")) k
      refine c_rule hC (by unfold KT SL; walk_at "perm3") hv (hks hC (by walk_at "mem")) okk hl3' tk (fun b qv qp qc H tk hC => ?_) (fun b qv qp qc H tk hC => ?_)
      · obtain rfl : g = true := hr.symm.trans b
        simp only [if_true] at fin
        unfold KT SL at hC
        walk_at "go"
        exact fin _ _ _ _ tk ⟨by unfold KT SL; walk_at "lay3", hC.im, hC.sb⟩
      · obtain rfl : g = false := hr.symm.trans b
        simp only [Bool.false_eq_true, if_false] at fin
        unfold KT SL at hC
        walk_at "go"
        exact fin _ _ _ _ tk ⟨by unfold KT SL; walk_at "lay3", hC.im, hC.sb⟩
    cases hvn : decide (v = .non) with
    | true =>
      rw [hvn] at rest
      walk_at "go"
      exact rest true rfl
    | false =>
      rw [hvn] at rest
      walk_at "go"
      exact rest _ rfl
end
section
variable {K : PySem.W.Frag} {mg : Str → Option Value} {a : Adr} {vs : List V} {B H : Hp} {Q : VK} {E : XK} {L L' F : List (Addr × HO)} {I : List Im}
variable {dd kL dL oL rL so dx kd rd od ud : Addr} {i j l : Int} {qsh tbS qk qv qp qc : Array Value} {ks : List KE} {qs : List QE} {rows rules rulesL : List (Str × V)} {own : List ((Str × Str) × V)} {n : Nat} {N Bk Ct : L2.St → Hp → Prop} {Rt : VK}
variable {v6 v7 v8 v9 v10 v11 v12 v13 v14 v15 v16 v17 : Option V} {nm : Str} {sort : Int} {v : V} {p : Option Str}
theorem tail17_ok (T : Txt K mg a) (h : SI n ks qs rows rules rulesL own) (hn : n ≤ 90) (tk : TK qk qv qp qc) (hv : ValOk v) (okp : ∀ s, p = some s → PyData.strOk s = true) (okn : PyData.strOk nm = true) (hC : Ctx K B H (SWL a dd i j l kL dL oL rL qsh tbS qk qv qp qc so dx kd rd od ud ks qs rows rules rulesL own F) (wImS K qs qsh tbS))
    (k : ∀ σ H, WS K a B dd kL so dx kd rd od ud ks qs F (n + 1) σ H → N σ H) :
    t_law_settings_tail17 K a E ⟨N, Rt, Bk, Ct⟩ [some (.ref dd), some (.ref so), some (.ref kL), some (.ref dL), some (.ref oL), some (.ref rL), some (.str nm), v7, some (.int sort), some v, some (pV p), some (.bl (gdB ks nm v)), v12, v13, v14, v15, v16, v17] H := by
  unfold t_law_settings_tail17
  by_cases c1 : sort < 3
  · walk_at "go"
    exact if3_ok T h hn tk hv okp hC k
  · by_cases c2 : sort = 3
    · subst c2
      walk_at "all"
      exact if7_ok T h hn tk okp okn hC k
    · walk_at "all"
      exact else11_ok T h hn tk hv hC k
theorem tail18_ok (T : Txt K mg a) (h : SI n ks qs rows rules rulesL own) (hn : n ≤ 90) (tk : TK qk qv qp qc) (hv : ValOk v) (okp : ∀ s, p = some s → PyData.strOk s = true) (okn : PyData.strOk nm = true) (hC : Ctx K B H (SWL a dd i j l kL dL oL rL qsh tbS qk qv qp qc so dx kd rd od ud ks qs rows rules rulesL own F) (wImS K qs qsh tbS))
    (k : ∀ σ H, WS K a B dd kL so dx kd rd od ud ks qs F (n + 1) σ H → N σ H) :
    t_law_settings_tail18 K a E ⟨N, Rt, Bk, Ct⟩ [some (.ref dd), some (.ref so), some (.ref kL), some (.ref dL), some (.ref oL), some (.ref rL), some (.str nm), v7, some (.int sort), some v, some (pV p), v11, v12, v13, v14, v15, v16, v17] H := by
  have hC0 := hC
  unfold t_law_settings_tail18
  unfold SWL wImS KT SL at hC
  rcases kd_or qs nm with hq | ⟨q, hq, rfl⟩
  · have hL := kd2_none hq
    have hg : gdB ks nm v = false := gdB_no h.mat hq
    walk_at "go"
    rw [show V.bl false = V.bl (gdB ks nm v) from by rw [hg]]
    exact tail17_ok T h hn tk hv okp okn hC0 k
  · have hL := kd2_look h.qok hq
    have hu := hC.pr (P := fun H => qOk K H qs) (by walk_at "mem") q hq
    have hg : gdB ks q.nm v = goodV (alX q.al) v := gdB_of h.mat h.qok hq
    replace hC := hC.add (i := .tup q.u _) hu.1
    walk_at "go"
    refine c_allowed hC hv hu.2 ?_
    clear hC; intro H hC
    walk_at "go"
    rw [← hg]
    exact tail17_ok T (qsh := qsh) (tbS := tbS) h hn tk hv okp okn ⟨by unfold SWL KT SL; walk_at "lay3", fun j hj => hC.im j (List.mem_cons_of_mem _ hj), hC.sb⟩ k
theorem s_ixV {l : Addr} {xs : List V} {i : Int} (m : H l = some (.lst xs)) (h0 : 0 ≤ i) (h1 : i < xs.length) (q : ∀ v, v ∈ xs → Q v H) : rIxU K (.ref l) (.int i) H Q := by
  obtain ⟨v, e, hm⟩ := atI_at h0 h1
  exact s_ixL m e (q v hm)
theorem xs_ok {y : Str} {n : Nat} (hn : n ≤ 100) (h : y.cps.toList = (List.replicate n ("x" : Str).cps.toList).flatten) : ValOk (.str y) := by
  have hl : y.cps.toList = List.replicate n 120 := by
    rw [h]
    have : ("x" : Str).cps.toList = [120] := by rfl
    rw [this]
    clear h hn this
    induction n with
    | zero => rfl
    | succ n ih => rw [List.replicate_succ, List.flatten_cons, ih]; rfl
  have hm : ∀ c, c ∈ y.cps.toList → c = 120 := by
    rw [hl]
    exact fun c hc => (List.mem_replicate.mp hc).2
  refine .str y ?_ ?_ ?_
  · show y.cps.size ≤ 100
    rw [← Array.length_toList, hl, List.length_replicate]
    exact hn
  · show y.cps.all (fun c => decide (c < 0x110000)) = true
    rw [← Array.all_toList, List.all_eq_true]
    intro c hc
    rw [hm c hc]; decide
  · rw [List.any_eq_false]
    intro c hc
    rw [hm c hc]
    decide +kernel
theorem for21_ok (T : Txt K mg a) (h : SI n ks qs rows rules rulesL own) (hn : n ≤ 90) (tk : TK qk qv qp qc) (hC : Ctx K B H (SWL a dd i j l kL dL oL rL qsh tbS qk qv qp qc so dx kd rd od ud ks qs rows rules rulesL own F) (wImS K qs qsh tbS))
    (k : ∀ σ H, WS K a B dd kL so dx kd rd od ud ks qs F (n + 1) σ H → N σ H) :
    t_law_settings_for21 K a E ⟨N, Rt, Bk, Ct⟩ [some (.ref dd), some (.ref so), some (.ref kL), some (.ref dL), some (.ref oL), some (.ref rL), v6, v7, v8, v9, v10, v11, v12, v13, v14, v15, v16, v17] H := by
  unfold t_law_settings_for21 t_law_settings_tail20 t_law_settings_tail19
  unfold SWL wImS KT SL at hC
  walk_at "go"
  refine s_ixV (hC.get (by walk_at "mem")) hr0 (by simp only [List.length_cons, List.length_nil]; omega) (fun w hw => ?_)
  obtain ⟨nm, rfl, okn⟩ : ∃ nm, w = .str nm ∧ PyData.strOk nm = true := by
    simp only [List.mem_cons, List.not_mem_nil, or_false] at hw
    rcases hw with rfl | rfl | rfl | rfl | rfl
    all_goals exact ⟨_, rfl, by decide +kernel⟩
  clear hw
  walk_at "go"
  refine s_ixV (hC.get (by walk_at "mem")) hr0 (by simp only [List.length_cons, List.length_nil]; omega) (fun w hw => ?_)
  have hv : ValOk w := by
    simp only [List.mem_cons, List.not_mem_nil, or_false] at hw
    rcases hw with rfl | rfl | rfl | rfl | rfl | rfl | rfl | rfl | rfl
    · exact .int _ (by decide) (by decide)
    · exact .int _ (by decide) (by decide)
    · exact .bl _
    · exact .int _ (by decide) (by decide)
    · exact .int _ (by decide) (by decide)
    · exact .str _ (by decide +kernel) (by decide +kernel) (by decide +kernel)
    · exact .str _ (by decide +kernel) (by decide +kernel) (by decide +kernel)
    · exact xs_ok (by omega) hmw
    · exact .non
  clear hw
  walk_at "go"
  refine s_ixV (hC.get (by walk_at "mem")) hr0 (by simp only [List.length_cons, List.length_nil]; omega) (fun w2 hw2 => ?_)
  obtain ⟨p, rfl, okp⟩ : ∃ p : Option Str, w2 = pV p ∧ ∀ s, p = some s → PyData.strOk s = true := by
    simp only [List.mem_cons, List.not_mem_nil, or_false] at hw2
    rcases hw2 with rfl | rfl | rfl
    · exact ⟨none, rfl, fun s z => nomatch z⟩
    · exact ⟨some "ann", rfl, fun s z => by cases z; decide +kernel⟩
    · exact ⟨some "bob", rfl, fun s z => by cases z; decide +kernel⟩
  clear hw2
  walk_at "go"
  exact tail18_ok T (qsh := qsh) (tbS := tbS) (i := di) (j := dj) (l := dl) h hn tk hv okp okn ⟨by unfold SWL KT SL; walk_at "lay3", fun j hj => hC.im j (by
    rcases List.mem_cons.mp hj with rfl | hj
    · walk_at "mem"
    · rcases List.mem_cons.mp hj with rfl | hj
      · walk_at "mem"
      · rcases List.mem_cons.mp hj with rfl | hj
        · walk_at "mem"
        · cases hj), hC.sb⟩ k
end
section
variable {K : PySem.W.Frag} {mg : Str → Option Value} {a : Adr} {vs : List V} {B H : Hp} {Q : VK} {E : XK} {L L' F : List (Addr × HO)} {I : List Im}
variable {dd kL dL oL rL so dx kd rd od ud : Addr} {i j l : Int} {qsh tbS qk qv qp qc : Array Value} {ks : List KE} {qs : List QE} {rows rules rulesL : List (Str × V)} {own : List ((Str × Str) × V)} {n : Nat} {N Bk Ct : L2.St → Hp → Prop} {Rt : VK}
variable {v6 v7 v8 v9 v10 v11 v12 v13 v14 v15 v16 v17 : Option V} {nm : Str} {sort : Int} {v : V} {p : Option Str}
theorem s_rep2 {l : Addr} {xs : List V} (hC : Ctx K B H L I) (m : H l = some (.lst xs)) (z : xs.length ≤ 1000) (k : ∀ p H1, Ctx K B H1 ((p, .lst (xs ++ xs)) :: L) I → Q (.ref p) H1) : rMulU (.ref l) (.int 2) H Q :=
  ⟨l, 2, xs, rfl, rfl, m, by decide, by decide, by rw [sizeLine_eq]; show xs.length * 2 ≤ _; omega, fun p hp => by
    have e : (List.replicate (2 : Int).toNat xs).flatten = xs ++ xs := by simp [List.replicate]
    rw [e]
    exact k p _ (hC.newM hp rfl)⟩
theorem tail23_ok (T : Txt K mg a) (h : SI n ks qs rows rules rulesL own) (tk : TK qk qv qp qc) (hC : Ctx K B H (SWL a dd i j l kL dL oL rL qsh tbS qk qv qp qc so dx kd rd od ud ks qs rows rules rulesL own F) (wImS K qs qsh tbS))
    (k : ∀ H' (i j l : Int) qsh tbS qk qv qp qc, Stb B H' → Lay H' ((dd, .lst [.int i, .int j, .int l]) :: (a.tb_Settings_shown, .tbl qsh) :: (a.tb_law_settings, .tbl tbS) :: KT a qk qv qp qc F) → TabOK (lamq "_law_settings") tbS H' → TriplesOk qsh.toList → TK qk qv qp qc → Rt (.bl true) H') :
    t_law_settings_tail23 K a E ⟨N, Rt, Bk, Ct⟩ [some (.ref dd), some (.ref so), some (.ref kL), some (.ref dL), some (.ref oL), some (.ref rL), v6, v7, v8, v9, v10, v11, v12, v13, v14, v15, v16, v17] H := by
  have okk := okk_of h.mat h.qok
  have hkl : ks.length ≤ 9 := by
    have := congrArg List.length h.mat.nms
    rw [List.length_map, List.length_map, h.qok.len] at this
    omega
  have hvol : ∃ e, e ∈ ks ∧ e.nm = "volume" := by
    have : ("volume" : Str) ∈ ks.map fun e => e.nm := by rw [h.mat.nms, h.qok.nms]; exact List.mem_cons_self
    obtain ⟨e, he, q⟩ := List.mem_map.mp this
    exact ⟨e, he, q⟩
  have hspan : ∀ {H1 : Hp} {t : Addr}, SqT K H1 t [.int 0, .int 9] → AlOk K H1 (some (t, [.int 0, .int 9])) := fun hs p e => by
    cases e
    exact ⟨hs, show [V.int 0, V.int 9] ∈ ALS by decide +kernel, show [V.int 0, V.int 9] ≠ [V.int 9, V.int 0] by decide +kernel⟩
  unfold t_law_settings_tail23 t_law_settings_tail22
  unfold SWL wImS KT SL at hC
  walk_at "go"
  refine c_declF (al := some (tp, [.int 0, .int 9])) (so := so) (dx := dx) (kd := kd) (rd := rd) (od := od) (ud := ud) (ks := ks) (rows := rows) (rules := rules) (own := own) hC (by unfold KT SL; walk_at "perm3") (.int 1 (by decide) (by decide)) (hspan (hC.tup (by walk_at "mem"))) (by decide +kernel) okk hkl tk (fun z => by obtain ⟨e, he, q⟩ := hvol; exact z.1 e he q) (fun qk qv qp qc H tk hC => ?_)
  unfold KT SL at hC
  walk_at "go"
  refine c_declF (al := some (tp, [.int 0, .int 9])) (so := so) (dx := dx) (kd := kd) (rd := rd) (od := od) (ud := ud) (ks := ks) (rows := rows) (rules := rules) (own := own) hC (by unfold KT SL; walk_at "perm3") (.int 10 (by decide) (by decide)) (hspan (hC.tup (by walk_at "mem"))) (by decide +kernel) okk hkl tk (fun z => absurd z.2 (show ¬ goodV (some [.int 0, .int 9]) (.int 10) = true by decide +kernel)) (fun qk qv qp qc H tk hC => ?_)
  unfold KT SL at hC
  walk_at "go"
  refine s_rep2 hC (hC.get (by walk_at "mem")) (by simp) (fun p1 H1 hC => ?_)
  simp only [List.cons_append, List.nil_append] at hC
  refine s_eqSS (ns := ["NameFault", "NameFault"]) (ms := ["NameFault", "NameFault"]) (show _ = some (.lst [.str "NameFault", .str "NameFault"]) from hC.get (by walk_at "mem")) (show _ = some (.lst [.str "NameFault", .str "NameFault"]) from hC.get (by walk_at "mem")) (by decide +kernel) (by decide +kernel) ?_
  rw [decide_eq_true rfl]
  walk_at "go"
  refine c_span (b := true) (xs := [.int 0, .int 9]) hC (by walk_at "pick") tk.p (hC.tup (by walk_at "mem")) (by decide +kernel) (by decide +kernel) ?_
  clear hC; intro q1 H hq1 hC
  walk_at "go"
  refine c_span (b := false) (xs := [.int 9, .int 0]) hC (by walk_at "pick") hq1 (hC.tup (by walk_at "mem")) (by decide +kernel) (by decide +kernel) ?_
  clear hC; intro q2 H hq2 hC
  walk_at "go"
  refine c_span (b := false) (xs := [.bl true, .bl false]) hC (by walk_at "pick") hq2 (hC.tup (by walk_at "mem")) (by decide +kernel) (by decide +kernel) ?_
  clear hC; intro q3 H hq3 hC
  walk_at "go"
  refine c_checkT (e := ⟨"a", .str "a", some (tp, [.str "a", .str "b"]), mx, mdx⟩) (v := .str "b") hC (by unfold KT kcell; dsimp only [alV]; walk_at "perm3") (.str _ (by decide +kernel) (by decide +kernel) (by decide +kernel)) (fun p z => by cases z; exact ⟨hC.tup (by walk_at "mem"), show [V.str "a", V.str "b"] ∈ ALS by decide +kernel, show [V.str "a", V.str "b"] ≠ [V.int 9, V.int 0] by decide +kernel⟩) ⟨tk.k, tk.v, hq3, tk.c⟩ (show goodV (some [.str "a", .str "b"]) (.str "b") = true by decide +kernel) ?_
  clear hC; intro qv' qp' qc' H tk hC
  unfold KT at hC
  walk_at "go"
  exact k _ i j l qsh tb qk _ _ _ hC.sb (by unfold KT; walk_at "lay3") (hC.im (.tab (lamq "_law_settings") tb) (by walk_at "mem")) (hC.tri (by walk_at "mem")) tk
end
section
variable {K : PySem.W.Frag} {mg : Str → Option Value} {a : Adr} {vs : List V} {B H : Hp} {Q : VK} {E : XK} {L L' F : List (Addr × HO)} {I : List Im}
variable {dd kL dL oL rL so dx kd rd od ud : Addr} {i j l : Int} {qsh tbS qk qv qp qc : Array Value} {ks : List KE} {qs : List QE} {rows rules rulesL : List (Str × V)} {own : List ((Str × Str) × V)} {n : Nat} {N Bk Ct : L2.St → Hp → Prop} {Rt : VK}
variable {v6 v7 v8 v9 v10 v11 v12 v13 v14 v15 v16 v17 : Option V} {nm : Str} {sort : Int} {v : V} {p : Option Str}
theorem tail24_ok (T : Txt K mg a) (h : SI 0 ks qs rows rules rulesL own) (tk : TK qk qv qp qc) (hC : Ctx K B H (SWL a dd i j l kL dL oL rL qsh tbS qk qv qp qc so dx kd rd od ud ks qs rows rules rulesL own F) (wImS K qs qsh tbS))
    (k : ∀ H' (i j l : Int) qsh tbS qk qv qp qc, Stb B H' → Lay H' ((dd, .lst [.int i, .int j, .int l]) :: (a.tb_Settings_shown, .tbl qsh) :: (a.tb_law_settings, .tbl tbS) :: KT a qk qv qp qc F) → TabOK (lamq "_law_settings") tbS H' → TriplesOk qsh.toList → TK qk qv qp qc → Rt (.bl true) H') :
    t_law_settings_tail24 K a E ⟨N, Rt, Bk, Ct⟩ [some (.ref dd), some (.ref so), some (.ref kL), some (.ref dL), some (.ref oL), some (.ref rL), v6, v7, v8, v9, v10, v11, v12, v13, v14, v15, v16, v17] H := by
  unfold t_law_settings_tail24
  unfold SWL wImS KT SL at hC
  walk_at "go"
  refine for_rng (n := rr.toNat) (fun n σ H1 => WS K a B dd kL so dx kd rd od ud ks qs F n σ H1) ?_ ?_ ?_
  · exact win (qsh := qsh) (tbS := tbS) (i := di) (j := dj) (l := dl) h tk ⟨by unfold SWL KT SL; walk_at "lay3", hC.im, hC.sb⟩
  · rintro n σ H1 hn ⟨i, j, l, dL, oL, rL, qsh, tbS, qk, qv, qp, qc, rows, rules, rulesL, own, v6, v7, v8, v9, v10, v11, v12, v13, v14, v15, v16, v17, rfl, h, tk, hC⟩
    refine s_name (by walk_at "set") ?_
    exact for21_ok T h (by omega) tk hC (fun σ H w => w)
  · rintro σ H1 ⟨i, j, l, dL, oL, rL, qsh, tbS, qk, qv, qp, qc, rows, rules, rulesL, own, v6, v7, v8, v9, v10, v11, v12, v13, v14, v15, v16, v17, rfl, h, tk, hC⟩
    exact tail23_ok T h tk hC k
theorem si0 (hm : Mat ks qs) (hq : QsOk qs) : SI 0 ks qs [] [] [] [] :=
  ⟨hm, hq, Nat.le_refl _, Nat.le_refl _, Nat.le_refl _, Nat.le_refl _, List.nodup_nil, List.nodup_nil, List.nodup_nil, (fun p hp => nomatch hp), (fun p hp => nomatch hp), (fun p hp => nomatch hp), fun x => rfl, (fun p hp => nomatch hp)⟩
theorem tail25_ok (T : Txt K mg a) (hq : QsOk qs) (tk : TK qk qv qp qc) (hC : Ctx K B H (SWL a dd i j l kL dL oL rL qsh tbS qk qv qp qc so dx kd rd od ud [] qs [] [] [] [] F) (wImS K qs qsh tbS))
    (k : ∀ H' (i j l : Int) qsh tbS qk qv qp qc, Stb B H' → Lay H' ((dd, .lst [.int i, .int j, .int l]) :: (a.tb_Settings_shown, .tbl qsh) :: (a.tb_law_settings, .tbl tbS) :: KT a qk qv qp qc F) → TabOK (lamq "_law_settings") tbS H' → TriplesOk qsh.toList → TK qk qv qp qc → Rt (.bl true) H') :
    t_law_settings_tail25 K a E ⟨N, Rt, Bk, Ct⟩ [some (.ref dd), some (.ref so), some (.ref kL), some (.ref dL), some (.ref oL), some (.ref rL), v6, v7, v8, v9, v10, v11, v12, v13, v14, v15, v16, v17] H := by
  unfold t_law_settings_tail25
  have hC0 := hC
  unfold SWL wImS at hC
  walk_at "go"
  have pk : Pick (kL, HO.dK (mK id (kd2 qs))) (SWL a dd i j l kL dL oL rL qsh tbS qk qv qp qc so dx kd rd od ud [] qs [] [] [] [] F) ((dd, .lst [.int i, .int j, .int l]) :: (a.tb_Settings_shown, .tbl qsh) :: (a.tb_law_settings, .tbl tbS) :: (dL, .dK (mK id [])) :: (oL, .dT (mP id [])) :: (rL, .dK (mK id [])) :: KT a qk qv qp qc (SL a so dx kd rd od ud [] [] [] [] F)) := by walk_at "pick"
  refine s_lockT hC0 pk trivial (fun odk H1 s1 hC => ?_)
  refine s_for (s_keys (s_var rfl (s_keysK (hC.frz (by walk_at "mem")) ?_)))
  refine for_w (walk_keysE (es := qs) (kk := fun q => Sum.inr q.nm) (vf := fun q => V.ref q.u) (by unfold kd2 mK; rw [List.map_map]; rfl)) (fun ix σ H => ∃ (v6 : Option V) (ks : List KE) (qk qv qp qc : Array Value), Mat ks (qs.take ix) ∧ TK qk qv qp qc ∧ σ = [some (.ref dd), some (.ref so), some (.ref kL), some (.ref dL), some (.ref oL), some (.ref rL), v6, v7, v8, v9, v10, v11, v12, v13, v14, v15, v16, v17] ∧ Ctx K H1 H ((dd, .lst [.int i, .int j, .int l]) :: (a.tb_Settings_shown, .tbl qsh) :: (a.tb_law_settings, .tbl tbS) :: (dL, .dK (mK id [])) :: (oL, .dT (mP id [])) :: (rL, .dK (mK id [])) :: KT a qk qv qp qc (SL a so dx kd rd od ud ks [] [] [] F)) (imFz kL odk (.dK (mK id (kd2 qs))) :: wImS K qs qsh tbS)) ⟨v6, [], qk, qv, qp, qc, rfl, tk, rfl, hC⟩ (fun _ σ H _ ⟨_, _, _, _, _, _, _, _, _, hC⟩ => hC.frz (by walk_at "mem")) ?_ ?_
  · rintro ix x σ H2 H3 hi ⟨w6, ks, qk, qv, qp, qc, hm, tk, rfl, hC⟩ hy
    obtain ⟨rfl, q, hqi, rfl⟩ := ye hy
    have hqm := List.mem_of_getElem? hqi
    have hL := kd2_look hq hqm
    have hu := hC.pr (P := fun H => qOk K H qs) (by walk_at "mem") q hqm
    have hlen : ks.length ≤ 4 := by
      have z := congrArg List.length hm.nms
      rw [List.length_map, List.length_map, List.length_take, hq.len] at z
      omega
    have hnm : q.nm ∈ NMS := by
      have z : q.nm ∈ qs.map fun q => q.nm := List.mem_map.mpr ⟨q, hqm, rfl⟩
      rw [hq.nms] at z
      have key : ∀ x, x ∈ (["volume", "dark", "name", "mode"] : List Str) → x ∈ NMS := by decide +kernel
      exact key _ z
    have hnew : ∀ e, e ∈ ks → e.nm ≠ q.nm := by
      intro e he z
      have m : e.nm ∈ ks.map fun e => e.nm := List.mem_map.mpr ⟨e, he, rfl⟩
      rw [hm.nms] at m
      have nd := hq.nd
      rw [split_cons hqi, List.map_append, List.map_cons] at nd
      exact (List.nodup_append.mp nd).2.2 _ m q.nm List.mem_cons_self z
    have okk : OkK ks := ⟨by omega, by
      rw [hm.nms]
      exact hq.nd.sublist ((List.take_sublist _ _).map _)⟩
    have hok := hq.ok q hqm
    have hC1 := hC.rebase
    replace hC := hC.add (i := .tup q.u _) hu.1
    refine s_name (by walk_at "set") ?_
    simp only [kV]
    unfold t_law_settings_for0
    unfold KT SL at hC
    walk_at "go"
    refine c_declT (al := q.al) (so := so) (dx := dx) (kd := kd) (rd := rd) (od := od) (ud := ud) (ks := ks) hC (by unfold KT SL; walk_at "perm3") hok.1 (hC.pr (P := fun H => qOk K H qs) (by walk_at "mem") q hqm).2 hnm okk (by omega) tk hnew hok.2 (fun ad d qk qv qp qc H tk hC => ?_)
    refine ⟨some (.str q.nm), ks ++ [⟨q.nm, q.df, q.al, ad, d⟩], qk, qv, qp, qc, ?_, tk, rfl, ⟨?_, fun j hj => hC.im j (List.mem_cons_of_mem _ hj), hC.sb⟩⟩
    · unfold Mat at hm ⊢
      rw [take_snoc hqi, List.map_append, List.map_append, hm]; rfl
    · unfold KT SL at hC ⊢
      walk_at "lay3"
  · rintro σ H2 ⟨w6, ks, qk, qv, qp, qc, hm, tk, rfl, hC⟩
    rw [List.take_of_length_le (Nat.le_refl _)] at hm
    refine s_unN hC0 pk s1 hC (hC.frz (by walk_at "mem")) (fun hC => ?_)
    exact tail24_ok T (qsh := qsh) (tbS := tbS) (si0 hm hq) tk ⟨by unfold SWL; walk_at "lay3", hC.im, hC.sb⟩ k
theorem c_sinit {x : Addr} (hC : Ctx K B H ((x, .ins a.c_Settings dx []) :: F) I) (k : ∀ kd rd od ud H1, Ctx K B H1 (SL a x dx kd rd od ud [] [] [] [] F) I → Q .non H1) : sp_Settings__init K a [.ref x] H Q E :=
  ⟨rfl, x, dx, F, rfl, hC.lay, fun H1 kd rd od ud s y => k kd rd od ud H1 (hC.moved s y)⟩
theorem start_ok (T : Txt K mg a) (tk : TK qk qv qp qc) {u1 u2 u3 u4 t1 t2 t4 : Addr} (hC : Ctx K B H ((rL, .dK []) :: (oL, .dT []) :: (dL, .dK []) :: (kL, .dK [(Sum.inr "volume", .ref u1), (Sum.inr "dark", .ref u2), (Sum.inr "name", .ref u3), (Sum.inr "mode", .ref u4)]) :: SL a so dx kd rd od ud [] [] [] [] ((dd, .lst [.int i, .int j, .int l]) :: (a.tb_Settings_shown, .tbl qsh) :: (a.tb_law_settings, .tbl tbS) :: KT a qk qv qp qc F)) I)
    (h1 : Im.tup u1 [.int 5, .ref t1] ∈ I) (h2 : Im.tup t1 [.int 0, .int 9] ∈ I) (h3 : Im.tup u2 [.bl false, .ref t2] ∈ I) (h4 : Im.tup t2 [.bl true, .bl false] ∈ I) (h5 : Im.tup u3 [.str "phone", .non] ∈ I) (h6 : Im.tup u4 [.str "slow", .ref t4] ∈ I) (h7 : Im.tup t4 [.str "slow", .str "fast"] ∈ I) (h8 : Im.tri qsh ∈ I) (h9 : Im.tab (lamq "_law_settings") tbS ∈ I)
    (k : ∀ H' (i j l : Int) qsh tbS qk qv qp qc, Stb B H' → Lay H' ((dd, .lst [.int i, .int j, .int l]) :: (a.tb_Settings_shown, .tbl qsh) :: (a.tb_law_settings, .tbl tbS) :: KT a qk qv qp qc F) → TabOK (lamq "_law_settings") tbS H' → TriplesOk qsh.toList → TK qk qv qp qc → Rt (.bl true) H') :
    t_law_settings_tail25 K a E ⟨N, Rt, Bk, Ct⟩ [some (.ref dd), some (.ref so), some (.ref kL), some (.ref dL), some (.ref oL), some (.ref rL), v6, v7, v8, v9, v10, v11, v12, v13, v14, v15, v16, v17] H := by
  have key : ∀ {t : Addr} {xs : List V}, Im.tup t xs ∈ I → xs ∈ ALS → xs ≠ [.int 9, .int 0] → AlOk K H (some (t, xs)) := fun hm h1 h2 p e => by
    cases e
    exact ⟨hC.tup hm, h1, h2⟩
  have hq : QsOk [⟨"volume", .int 5, some (t1, [.int 0, .int 9]), u1⟩, ⟨"dark", .bl false, some (t2, [.bl true, .bl false]), u2⟩, ⟨"name", .str "phone", none, u3⟩, ⟨"mode", .str "slow", some (t4, [.str "slow", .str "fast"]), u4⟩] := by
    refine ⟨rfl, ?_⟩
    intro q hq
    simp only [List.mem_cons, List.not_mem_nil, or_false] at hq
    rcases hq with rfl | rfl | rfl | rfl
    · exact ⟨.int _ (by decide) (by decide), show goodV (some [.int 0, .int 9]) (.int 5) = true by decide +kernel⟩
    · exact ⟨.bl _, show goodV (some [.bl true, .bl false]) (.bl false) = true by decide +kernel⟩
    · exact ⟨.str _ (by decide +kernel) (by decide +kernel) (by decide +kernel), show goodV none (.str "phone") = true by decide +kernel⟩
    · exact ⟨.str _ (by decide +kernel) (by decide +kernel) (by decide +kernel), show goodV (some [.str "slow", .str "fast"]) (.str "slow") = true by decide +kernel⟩
  have hQ : qOk K H [⟨"volume", .int 5, some (t1, [.int 0, .int 9]), u1⟩, ⟨"dark", .bl false, some (t2, [.bl true, .bl false]), u2⟩, ⟨"name", .str "phone", none, u3⟩, ⟨"mode", .str "slow", some (t4, [.str "slow", .str "fast"]), u4⟩] := by
    intro q hq
    simp only [List.mem_cons, List.not_mem_nil, or_false] at hq
    rcases hq with rfl | rfl | rfl | rfl
    · exact ⟨hC.tup h1, key h2 (by decide +kernel) (by decide +kernel)⟩
    · exact ⟨hC.tup h3, key h4 (by decide +kernel) (by decide +kernel)⟩
    · exact ⟨hC.tup h5, fun p e => nomatch e⟩
    · exact ⟨hC.tup h6, key h7 (by decide +kernel) (by decide +kernel)⟩
  refine tail25_ok (i := i) (j := j) (l := l) (dx := dx) (kd := kd) (rd := rd) (od := od) (ud := ud) (F := F) T hq tk (qsh := qsh) (tbS := tbS) ⟨?_, fun j hj => ?_, hC.sb⟩ k
  · unfold SWL
    unfold KT SL at hC ⊢
    show Lay H ((dd, .lst [.int i, .int j, .int l]) :: (a.tb_Settings_shown, .tbl qsh) :: (a.tb_law_settings, .tbl tbS) :: (kL, .dK [(Sum.inr "volume", .ref u1), (Sum.inr "dark", .ref u2), (Sum.inr "name", .ref u3), (Sum.inr "mode", .ref u4)]) :: (dL, .dK []) :: (oL, .dT []) :: (rL, .dK []) :: _)
    walk_at "lay3"
  · rcases List.mem_cons.mp hj with rfl | hj
    · exact hQ
    · rcases List.mem_cons.mp hj with rfl | hj
      · exact hC.im _ h8
      · rcases List.mem_cons.mp hj with rfl | hj
        · exact hC.im _ h9
        · cases hj
theorem pure_law_settings {H0 : Hp} (T : Txt K mg a) (h : sp_law_settings K a vs H0 Q E) : t_law_settings K a E { nx := fun _ H' => Q .non H', rt := Q } (L2.start N_law_settings vs) H0 := by
  obtain ⟨_, dd, i, j, l, qsh, tbS, qk, qv, qp, qc, F, rfl, y, htb, hts, tk, k⟩ := h
  have hC := ((Ctx.start (K := K) y).add (i := .tab (lamq "_law_settings") tbS) htb).add (i := .tri qsh) hts
  unfold KT at hC
  unfold t_law_settings
  walk_at "start"
  walk_at "go"
  refine c_sinit hC (fun kd rd od ud H hC => ?_)
  unfold SL at hC
  walk_at "go"
  exact start_ok T tk hC (by walk_at "mem") (by walk_at "mem") (by walk_at "mem") (by walk_at "mem") (by walk_at "mem") (by walk_at "mem") (by walk_at "mem") (by walk_at "mem") (by walk_at "mem") k
end
section
variable {K : PySem.W.Frag} {mg : Str → Option Value} {a : Adr} {vs : List V} {H : Hp} {Q : VK} {E : XK}
theorem pnm_ok : ∀ k, k ∈ PNM → 0 < k.length ∧ k.length ≤ 30 ∧ (k.cps.toList.any fun c => !decide (c ∈ ("abcdefghijklmnopqrstuvwxyz0123456789." : Str).cps.toList)) = false := by decide +kernel
theorem pnm_dot : ∀ k, k ∈ PNM → ∃ c0 c1, atI k.cps.toList 0 = some c0 ∧ atI k.cps.toList (-1) = some c1 ∧ (⟨#[c0]⟩ : Str) ≠ "." ∧ (⟨#[c1]⟩ : Str) ≠ "." := by
  intro k hk
  simp only [PNM, List.mem_cons, List.not_mem_nil, or_false] at hk
  rcases hk with rfl | rfl | rfl | rfl | rfl
  all_goals exact ⟨_, _, rfl, rfl, by decide +kernel, by decide +kernel⟩
theorem pure_check_name {H0 : Hp} (T : Txt K mg a) (h : sp_check_name K a vs H0 Q E) : t_check_name K a E { nx := fun _ H' => Q .non H', rt := Q } (L2.start N_check_name vs) H0 := by
  obtain ⟨_, nm, q, F, rfl, y, ht, hk, k1, k2⟩ := h
  have hC := (Ctx.start (K := K) y).add (i := .tri q) ht
  unfold t_check_name
  walk_at "start"
  rcases hk with hk | rfl
  · have k1 := k1 hk
    clear k2
    obtain ⟨h1, h2, h3⟩ := pnm_ok nm hk
    obtain ⟨c0, c1, e0, e1, n0, n1⟩ := pnm_dot nm hk
    have g1 : (0 : Int) < (nm.length : Nat) := by omega
    have g2 : ((nm.length : Nat) : Int) ≤ 30 := by omega
    have hl : nm.length ≤ 100000 := by omega
    walk_at "all"
    · rename_i c; rw [h3] at c; cases c
    · refine s_ixSc hl e0 ?_
      walk_at "all"
      refine s_ixSc hl e1 ?_
      walk_at "all"
      exact k1 _ _ hC.sb hC.lay (hC.tri List.mem_cons_self)
  · have k2 := k2 rfl
    have hA : (("A" : Str).cps.toList.any fun c => !decide (c ∈ ("abcdefghijklmnopqrstuvwxyz0123456789." : Str).cps.toList)) = true := by decide +kernel
    walk_at "all"
    all_goals first
      | exact k2 _ _ hC.sb (by walk_at "lay3") (hC.tri List.mem_cons_self)
      | (rename_i c; exact absurd c (by decide +kernel))
      | (rename_i c1; rw [hA] at c1; cases c1)
      | trace_state
theorem pure_People__init {H0 : Hp} (T : Txt K mg a) (h : sp_People__init K a vs H0 Q E) : t_People__init K a E { nx := fun _ H' => Q .non H', rt := Q } (L2.start N_People__init vs) H0 := by
  obtain ⟨_, x, dx, nm, q, F, rfl, y, ht, hk, k1, k2⟩ := h
  have hC := (Ctx.start (K := K) y).add (i := .tri q) ht
  unfold t_People__init
  walk_at "start"
  walk_at "go"
  rcases hk with rfl | rfl
  · have k1 := k1 rfl
    refine c_cname hC (by walk_at "perm3") (hC.tri (by walk_at "mem")) (by decide +kernel) ?_
    clear hC; intro q' H hq hC
    walk_at "go"
    rename_i d1 g1 g2 g3 d2 g4 g5 g6 g7 g8 g9
    refine k1 _ d1 d2 dp q' hC.sb ?_ hq
    show Lay H ((x, .ins a.c_People dx [("owner", .str "ann"), ("codes", .ref d1), ("apps", .ref d2), ("here", .str "ann"), ("failed", .int 0), ("locked_until", .int 0)]) :: (d1, .dK [(Sum.inr ("ann" : Str), V.non)]) :: (d2, .dK [(Sum.inr ("ann" : Str), V.ref dp)]) :: (dp, .dK []) :: (a.tb_check_name, .tbl q') :: F)
    walk_at "lay3"
  · have k2 := k2 rfl
    refine c_cnameF hC (by walk_at "perm3") (hC.tri (by walk_at "mem")) ?_
    intro q' H hq hC
    exact k2 _ _ hC.sb (by walk_at "lay3") hq
theorem pure_People_need_owner {H0 : Hp} (T : Txt K mg a) (h : sp_People_need_owner K a vs H0 Q E) : t_People_need_owner K a E { nx := fun _ H' => Q .non H', rt := Q } (L2.start N_People_need_owner vs) H0 := by
  obtain ⟨_, po, dx, cd, ad, codes, aps, here, fl, un, F, rfl, y, k1, k2⟩ := h
  have hC := Ctx.start (K := K) y
  unfold PL at hC
  unfold t_People_need_owner
  walk_at "start"
  cases here with
  | none =>
    simp only [pV] at hC
    walk_at "go"
    exact k2 (by simp) _ hC.sb hC.lay
  | some s =>
    simp only [pV] at hC
    walk_at "go"
    by_cases c : s = "ann"
    · subst c
      have k1 := k1 rfl _ hC.sb hC.lay
      walk_at "all"
      all_goals first | exact k1 | contradiction
    · have k2 := k2 (by simpa using c) _ hC.sb hC.lay
      walk_at "all"
      all_goals first | exact k2 | contradiction
theorem pure_People_leave {H0 : Hp} (T : Txt K mg a) (h : sp_People_leave K a vs H0 Q E) : t_People_leave K a E { nx := fun _ H' => Q .non H', rt := Q } (L2.start N_People_leave vs) H0 := by
  obtain ⟨_, po, dx, cd, ad, codes, aps, here, fl, un, F, rfl, y, k⟩ := h
  have hC := Ctx.start (K := K) y
  unfold PL at hC
  unfold t_People_leave
  walk_at "start"
  walk_at "go"
  exact k _ hC.sb hC.lay
theorem sees_of {aps : Aps} {s x : Str} {e : Addr × List Str} (h : look aps s = some e) : seesB aps (some s) x = decide (x ∈ e.2) := by simp [seesB, h]
theorem pure_People_sees {H0 : Hp} (T : Txt K mg a) (h : sp_People_sees K a vs H0 Q E) : t_People_sees K a E { nx := fun _ H' => Q .non H', rt := Q } (L2.start N_People_sees vs) H0 := by
  obtain ⟨_, po, dx, cd, ad, codes, aps, here, fl, un, x, F, rfl, y, ok, k⟩ := h
  have hC := Ctx.start (K := K) y
  unfold PL at hC
  unfold t_People_sees
  walk_at "start"
  cases here with
  | none =>
    simp only [pV] at hC
    walk_at "go"
    exact k _ hC.sb hC.lay
  | some s =>
    obtain ⟨e, he, hl⟩ := aps_look ok rfl
    obtain ⟨i, hi⟩ := List.mem_iff_getElem?.mp he
    have hC0 := hC
    simp only [pV] at hC
    rw [acells_mid hi] at hC
    unfold appK at hC
    walk_at "go"
    refine s_ixKv (hC.get (by walk_at "mem")) hl.2 ?_
    refine s_inKv (hC.get (by walk_at "mem")) ?_
    rw [look_apps]
    have hs : seesB aps (some s) x = (if x ∈ e.2.2 then some true else none).isSome := by
      rw [sees_of hl.2]
      by_cases c : x ∈ e.2.2
      · simp [c]
      · simp [c]
    rw [← hs]
    exact k _ hC0.sb hC0.lay
end
section
variable {K : PySem.W.Frag} {mg : Str → Option Value} {a : Adr} {vs : List V} {B H : Hp} {Q : VK} {E : XK} {L F : List (Addr × HO)} {I : List Im} {codes : List (Str × V)} {aps : Aps} {here : Option Str} {nm : Str}
theorem POk.alen (ok : POk codes aps here) : aps.length ≤ 4 := by
  have := congrArg List.length ok.keys
  rw [List.length_map, List.length_map] at this
  have := ok.len
  omega
theorem POk.andd (ok : POk codes aps here) : (aps.map (·.1)).Nodup := by rw [← ok.keys]; exact ok.nd
theorem POk.nope (ok : POk codes aps here) {s : Str} (h : look codes s = none) : look aps s = none := by
  refine look_none.mpr fun p hp q => ?_
  have hm : s ∈ codes.map (·.1) := by rw [ok.keys]; exact List.mem_map.mpr ⟨p, hp, q⟩
  obtain ⟨r, hr, z⟩ := List.mem_map.mp hm
  exact look_none.mp h r hr z
theorem pure_People_has_app {H0 : Hp} (T : Txt K mg a) (h : sp_People_has_app K a vs H0 Q E) : t_People_has_app K a E { nx := fun _ H' => Q .non H', rt := Q } (L2.start N_People_has_app vs) H0 := by
  obtain ⟨_, po, dx, cd, ad, codes, aps, here, fl, un, x, qh, F, rfl, y, ht, nd, hl, k⟩ := h
  have hC := (Ctx.start (K := K) y).add (i := .tri qh) ht
  unfold PL at hC
  unfold t_People_has_app
  walk_at "start"
  refine s_ret ?_
  have hC0 := hC
  refine s_lockE (u := HO.dK (mK (fun p : Addr × List Str => V.ref p.1) aps)) (d := ad) hC (by walk_at "pick") trivial (fun od H1 s1 hC => ?_)
  refine s_anyX (s_keys ?_)
  walk_at "go"
  refine s_keysK (hC.frz (by walk_at "mem")) ?_
  walk_at "go"
  refine any_read (es := aps) (kf := fun e => V.str e.1) (walk_keysE (es := aps) (kk := fun q => Sum.inr q.1) (vf := fun q : Str × (Addr × List Str) => V.ref q.2.1) rfl) (fun e => decide (x ∈ e.2.2)) (by omega) (fun H1 hC => hC.frz (by walk_at "mem")) hC (fun i e H1 Z Zn he hC hz => ?_) (fun H' hC => ?_)
  · have hlk : look aps e.1 = some e.2 := look_of_mem nd (List.mem_of_getElem? he)
    have hC2 := hC
    rw [acells_mid he] at hC
    unfold appK at hC
    simp only [wipe, List.set_cons_zero, List.set_cons_succ]
    walk_at "go"
    refine ⟨rfl, ?_⟩
    walk_at "go"
    refine s_ixKF (hC.frz (by walk_at "mem")) hlk ?_
    refine s_inKv (hC.get (by walk_at "mem")) ?_
    rw [look_apps, show (if x ∈ e.2.2 then some true else none).isSome = decide (x ∈ e.2.2) from by by_cases c : x ∈ e.2.2 <;> simp [c]]
    exact hz _ hC2
  · have pk : Pick (ad, HO.dK (mK (fun p : Addr × List Str => V.ref p.1) aps)) ((po, .ins a.c_People dx [("owner", .str "ann"), ("codes", .ref cd), ("apps", .ref ad), ("here", pV here), ("failed", .int fl), ("locked_until", .int un)]) :: (cd, .dK (mK id codes)) :: (ad, .dK (mK (fun p : Addr × List Str => V.ref p.1) aps)) :: (acells aps ++ (a.tb_People_has_app, .tbl qh) :: F)) ((po, .ins a.c_People dx [("owner", .str "ann"), ("codes", .ref cd), ("apps", .ref ad), ("here", pV here), ("failed", .int fl), ("locked_until", .int un)]) :: (cd, .dK (mK id codes)) :: (acells aps ++ (a.tb_People_has_app, .tbl qh) :: F)) := by walk_at "pick"
    have htb := hC.tri (ps := tb) (by walk_at "mem")
    refine s_unlE hC0 pk s1 hC (hC.frz (by walk_at "mem")) (fun hC => ?_)
    exact k _ _ hC.sb (by unfold PL; walk_at "lay3") htb
theorem pure_People_add {H0 : Hp} (T : Txt K mg a) (h : sp_People_add K a vs H0 Q E) : t_People_add K a E { nx := fun _ H' => Q .non H', rt := Q } (L2.start N_People_add vs) H0 := by
  obtain ⟨_, po, dx, cd, ad, codes, aps, here, fl, un, nm, q, F, rfl, y, ht, hn, ok, kT, kF⟩ := h
  have hC := (Ctx.start (K := K) y).add (i := .tri q) ht
  have hcl := ok.len
  have hal := ok.alen
  unfold PL at hC
  unfold t_People_add
  walk_at "start"
  walk_at "go"
  by_cases hh : here = some ("ann" : Str)
  · refine c_need hC (by unfold PL; walk_at "perm3") hh ?_
    clear hC; intro H hC
    unfold PL at hC
    walk_at "go"
    refine c_cname hC (by walk_at "perm3") (hC.tri (by walk_at "mem")) hn ?_
    clear hC; intro q' H hq hC
    cases hlk : look codes nm with
    | some w =>
      have hb : addB codes here nm = false := by simp [addB, hlk]
      have kF := kF hb
      walk_at "go"
      exact kF _ _ hC.sb (by unfold PL; walk_at "lay3") hq
    | none =>
      have hla := ok.nope hlk
      by_cases hc4 : codes.length < 4
      · have hb : addB codes here nm = true := by simp [addB, hlk, hh, hc4]
        have kT := kT hb
        walk_at "all"
        refine s_putKv (f := fun p : Addr × List Str => V.ref p.1) (v := (dp, ([] : List Str))) hC (hC.get (by walk_at "mem")) (by omega) (by walk_at "up") ?_
        clear hC; intro H hC
        rw [putR_new hlk, putR_new hla] at hC
        refine kT _ dp _ hC.sb ?_ hq
        unfold PL
        rw [acells_app, List.append_assoc]
        show Lay H (_ :: _ :: _ :: (acells aps ++ (dp, HO.dK []) :: (a.tb_check_name, .tbl q') :: F))
        walk_at "lay3"
      · have hb : addB codes here nm = false := by simp [addB, hlk, hc4]
        have kF := kF hb
        walk_at "all"
        exact kF _ _ hC.sb (by unfold PL; walk_at "lay3") hq
  · refine c_needF hC (by unfold PL; walk_at "perm3") hh ?_
    intro H hC
    exact kF (by simp [addB, hh]) _ _ hC.sb (by unfold PL; walk_at "lay3") (hC.tri (by walk_at "mem"))
end
section
variable {K : PySem.W.Frag} {mg : Str → Option Value} {a : Adr} {vs : List V} {B H : Hp} {Q : VK} {E : XK} {L F : List (Addr × HO)} {I : List Im} {codes : List (Str × V)} {aps : Aps} {here : Option Str} {nm : Str}
theorem pure_People_set_code {H0 : Hp} (T : Txt K mg a) (h : sp_People_set_code K a vs H0 Q E) : t_People_set_code K a E { nx := fun _ H' => Q .non H', rt := Q } (L2.start N_People_set_code vs) H0 := by
  obtain ⟨_, po, dx, cd, ad, codes, aps, here, fl, un, c, q, F, rfl, y, ht, ok, hc, hc2, kT, kF⟩ := h
  have hC := (Ctx.start (K := K) y).add (i := .tri q) ht
  have hcl := ok.len
  unfold PL at hC
  unfold t_People_set_code
  walk_at "start"
  cases here with
  | none =>
    simp only [pV] at hC
    walk_at "go"
    exact kF rfl _ q hC.sb (by unfold PL; simp only [pV]; walk_at "lay3") (hC.tri (by walk_at "mem"))
  | some s =>
    simp only [pV] at hC
    unfold t_People_set_code_tail0
    simp only [CDS, List.mem_cons, List.not_mem_nil, or_false] at hc
    have dg1 : (("1234" : Str).cps.toList.any fun c => !decide (c ∈ ("0123456789" : Str).cps.toList)) = false := by decide +kernel
    have dg2 : (("99999" : Str).cps.toList.any fun c => !decide (c ∈ ("0123456789" : Str).cps.toList)) = false := by decide +kernel
    have dg3 : (("12ab" : Str).cps.toList.any fun c => !decide (c ∈ ("0123456789" : Str).cps.toList)) = true := by decide +kernel
    rcases hc with rfl | rfl | rfl | rfl | rfl | rfl
    · have kT := kT rfl
      simp only [setC] at kT
      walk_at "all"
      exact kT _ q hC.sb (by unfold PL; simp only [pV]; walk_at "lay3") (hC.tri (by walk_at "mem"))
    · have kT := kT rfl
      simp only [setC] at kT
      walk_at "all"
      all_goals first
        | exact kT _ tb hC.sb (by unfold PL; simp only [pV]; walk_at "lay3") (hC.tri (by walk_at "mem"))
        | (rename_i c; exact absurd c (by decide +kernel))
        | (rename_i c; rw [dg1] at c; cases c)
    · have kT := kT rfl
      simp only [setC] at kT
      walk_at "all"
      all_goals first
        | exact kT _ tb hC.sb (by unfold PL; simp only [pV]; walk_at "lay3") (hC.tri (by walk_at "mem"))
        | (rename_i c; exact absurd c (by decide +kernel))
        | (rename_i c; rw [dg2] at c; cases c)
    · have kF := kF rfl
      walk_at "all"
      all_goals first
        | exact kF _ tb hC.sb (by unfold PL; simp only [pV]; walk_at "lay3") (hC.tri (by walk_at "mem"))
        | exact kF _ q hC.sb (by unfold PL; simp only [pV]; walk_at "lay3") (hC.tri (by walk_at "mem"))
        | (rename_i c; exact absurd c (by decide +kernel))
        | (rename_i c1 c; exact absurd c1 (by decide +kernel))
    · have kF := kF rfl
      walk_at "all"
      all_goals first
        | exact kF _ tb hC.sb (by unfold PL; simp only [pV]; walk_at "lay3") (hC.tri (by walk_at "mem"))
        | exact kF _ q hC.sb (by unfold PL; simp only [pV]; walk_at "lay3") (hC.tri (by walk_at "mem"))
        | (rename_i c; exact absurd c (by decide +kernel))
        | (rename_i c; rw [dg3] at c; cases c)
    · exact absurd rfl hc2
end
section
variable {K : PySem.W.Frag} {mg : Str → Option Value} {a : Adr} {vs : List V} {B H : Hp} {Q : VK} {E : XK} {L F : List (Addr × HO)} {I : List Im} {codes : List (Str × V)} {aps : Aps} {here : Option Str} {nm : Str}
theorem cds_sca : ∀ c, c ∈ CDS → scaB c = true := by decide +kernel
theorem cds_ne : ∀ c, c ∈ CDS → ∀ d, d ∈ CDS → eqPy c d = decide (c = d) := by decide +kernel
theorem waitI_at {f : Int} {k : Nat} (h : min (f - 5) 6 = (k : Int)) : waitI f = 30 * 2 ^ k := by
  unfold waitI
  rw [h]
  rfl
theorem pure_People_enter {H0 : Hp} (T : Txt K mg a) (h : sp_People_enter K a vs H0 Q E) : t_People_enter K a E { nx := fun _ H' => Q .non H', rt := Q } (L2.start N_People_enter vs) H0 := by
  obtain ⟨_, po, dx, cd, ad, codes, aps, here, fl, un, nm, c, t, F, rfl, y, ok, hc, hf, kT, kF⟩ := h
  have hC := Ctx.start (K := K) y
  have hcl := ok.len
  unfold PL at hC
  unfold t_People_enter
  walk_at "start"
  by_cases h1 : t < un
  · have hb : entB codes un nm c t = false := by unfold entB; rw [decide_eq_false (by omega)]; rfl
    have hw : wroB codes un nm c t = false := by unfold wroB; rw [decide_eq_false (by omega)]; rfl
    have kF := kF hb
    simp only [entF, entU, hw, Bool.false_eq_true, if_false, false_and] at kF
    walk_at "go"
    exact kF _ hC.sb (by unfold PL; walk_at "lay3")
  · have hd : decide (un ≤ t) = true := decide_eq_true (by omega)
    cases hlk : look codes nm with
    | none =>
      have hb : entB codes un nm c t = false := by unfold entB; rw [hlk, Bool.and_false]
      have hw : wroB codes un nm c t = false := by unfold wroB; rw [hlk, Bool.and_false]
      have kF := kF hb
      simp only [entF, entU, hw, Bool.false_eq_true, if_false, false_and] at kF
      walk_at "go"
      exact kF _ hC.sb (by unfold PL; walk_at "lay3")
    | some w =>
      have hwc := ok.cds _ (look_some hlk)
      simp only at hwc
      have hws := cds_sca w hwc
      have hcs := cds_sca c hc
      have hbq : entB codes un nm c t = decide (w = .non ∨ w = c) := by unfold entB; rw [hlk, hd]; rfl
      have hwq : wroB codes un nm c t = !decide (w = .non ∨ w = c) := by unfold wroB; rw [hlk, hd]; rfl
      unfold t_People_enter_tail5
      by_cases hn : w = .non
      · subst hn
        have kT := kT (by rw [hbq]; exact decide_eq_true (.inl rfl))
        unfold t_People_enter_tail4
        walk_at "go"
        exact kT _ hC.sb (by unfold PL; walk_at "lay3")
      · have hnn : ∀ {H1 : Hp} {Q1 : VK}, Q1 (.bl true) H1 → rNotN w .non H1 Q1 := by
          intro H1 Q1 q
          simp only [CDS, List.mem_cons, List.not_mem_nil, or_false] at hwc
          rcases hwc with rfl | rfl | rfl | rfl | rfl | rfl
          · exact absurd rfl hn
          all_goals exact s_notN_str q
        walk_at "go"
        refine hnn ?_
        walk_at "go"
        refine s_neV hws hcs ?_
        rw [cds_ne w hwc c hc]
        by_cases hwc2 : w = c
        · have kT := kT (by rw [hbq]; exact decide_eq_true (.inr hwc2))
          rw [decide_eq_true hwc2]
          unfold t_People_enter_tail4
          walk_at "go"
          exact kT _ hC.sb (by unfold PL; walk_at "lay3")
        · have hno : ¬ (w = .non ∨ w = c) := fun z => z.elim hn hwc2
          have kF := kF (by rw [hbq]; exact decide_eq_false hno)
          have hw : wroB codes un nm c t = true := by rw [hwq, decide_eq_false hno]; rfl
          simp only [entF, entU, hw, if_true, true_and] at kF
          rw [decide_eq_false hwc2]
          unfold t_People_enter_if3 t_People_enter_tail2 t_People_enter_tail1
          by_cases h5 : fl + 1 ≥ 5
          · rw [if_pos h5] at kF
            walk_at "go"
            have hmn : mnI (fl + 1 - 5) 6 = min (fl + 1 - 5) 6 := by unfold mnI; split <;> omega
            obtain ⟨k, hk, hk6⟩ : ∃ k : Nat, min (fl + 1 - 5) 6 = (k : Int) ∧ k ≤ 6 := ⟨(min (fl + 1 - 5) 6).toNat, by omega, by omega⟩
            rw [hmn, hk]
            rw [waitI_at hk] at kF
            refine s_rngV (by omega) (by omega) ?_
            refine for_rng (n := ((k : Nat) : Int).toNat) (fun n σ H1 => ∃ (v5 : Option V), σ = [some (.ref po), some (.str nm), some c, some (.int t), some (.int (30 * 2 ^ n)), v5] ∧ Ctx K H0 H1 (PL a po dx cd ad codes aps here (fl + 1) un F) []) ⟨none, rfl, hC⟩ ?_ ?_
            · rintro n σ H1 hn ⟨v5, rfl, hC⟩
              have hp : (30 * 2 ^ n : Int) ≤ 30 * 64 := by
                have : n = 0 ∨ n = 1 ∨ n = 2 ∨ n = 3 ∨ n = 4 ∨ n = 5 := by omega
                rcases this with rfl | rfl | rfl | rfl | rfl | rfl <;> decide
              have hp0 : (0 : Int) ≤ 30 * 2 ^ n := by
                have : n = 0 ∨ n = 1 ∨ n = 2 ∨ n = 3 ∨ n = 4 ∨ n = 5 := by omega
                rcases this with rfl | rfl | rfl | rfl | rfl | rfl <;> decide
              unfold t_People_enter_for0
              walk_at "go"
              refine ⟨some (.int n), ?_, hC⟩
              rw [show (30 * 2 ^ n * 2 : Int) = 30 * 2 ^ (n + 1) from by rw [Int.pow_succ, Int.mul_assoc]]
            · rintro σ H1 ⟨v5, rfl, hC⟩
              rw [show ((k : Nat) : Int).toNat = k from rfl]
              unfold PL at hC
              walk_at "go"
              exact kF _ hC.sb (by unfold PL; walk_at "lay3")
          · rw [if_neg h5] at kF
            walk_at "all"
            exact kF _ hC.sb (by unfold PL; walk_at "lay3")
end
section
variable {K : PySem.W.Frag} {mg : Str → Option Value} {a : Adr} {vs : List V} {B H : Hp} {Q : VK} {E : XK} {L F : List (Addr × HO)} {I : List Im} {codes : List (Str × V)} {aps : Aps} {here : Option Str} {nm : Str}
theorem isS_apps {xs : List Str} {x : Str} : (look (xs.map fun x => (x, true)) x).isSome = decide (x ∈ xs) := by
  rw [look_apps]
  by_cases c : x ∈ xs <;> simp [c]
theorem put_apps {xs : List Str} {x : Str} : putR (xs.map fun x => (x, true)) x true = (giveL x xs).map fun x => (x, true) := by
  unfold giveL
  by_cases c : x ∈ xs
  · rw [if_pos c]
    have hl : look (xs.map fun x => (x, true)) x = some true := by rw [look_apps, if_pos c]
    unfold putR
    rw [look_any, hl, if_pos (show (some true).isSome = true from rfl)]
    rw [List.map_map]
    refine List.map_congr_left fun y _ => ?_
    show (if y = x then (y, true) else (y, true)) = _
    split <;> rfl
  · rw [if_neg c]
    have hl : look (xs.map fun x => (x, true)) x = none := by rw [look_apps, if_neg c]
    rw [putR_new hl, List.map_append]; rfl
theorem del_apps {xs : List Str} {x : Str} : ((xs.map fun x => (x, true)).filter fun p => decide (p.1 ≠ x)) = (takeL x xs).map fun x => (x, true) := by
  unfold takeL
  rw [List.filter_map]; rfl
theorem two_len {xs : List Str} (nd : xs.Nodup) (h : ∀ x, x ∈ xs → x = "x" ∨ x = "y") : xs.length ≤ 2 := by
  match xs, nd, h with
  | [], _, _ => simp
  | [_], _, _ => simp
  | [_, _], _, _ => simp
  | a :: b :: c :: r, nd, h =>
    exfalso
    have ha := h a (by simp)
    have hb := h b (by simp)
    have hc := h c (by simp)
    simp only [List.nodup_cons, List.mem_cons, not_or] at nd
    rcases ha with rfl | rfl <;> rcases hb with rfl | rfl <;> rcases hc with rfl | rfl <;> simp_all
theorem setA_mid {i : Nat} {e : Str × (Addr × List Str)} {s : Str} {f : List Str → List Str} (nd : (aps.map (·.1)).Nodup) (h : aps[i]? = some e) (hs : e.1 = s) : setA aps (some s) f = aps.take i ++ (e.1, e.2.1, f e.2.2) :: aps.drop (i + 1) := by
  subst hs
  have hsp := split_cons h
  have other : ∀ (l : Aps), (∀ p, p ∈ l → p.1 ≠ e.1) → (l.map fun q => if some q.1 = some e.1 then (q.1, q.2.1, f q.2.2) else q) = l := by
    intro l hl
    conv => rhs; rw [← List.map_id l]
    refine List.map_congr_left fun q hq => ?_
    rw [if_neg fun z => hl q hq (Option.some.inj z)]; rfl
  rw [hsp, List.map_append, List.map_cons] at nd
  obtain ⟨n1, n2, n3⟩ := List.nodup_append.mp nd
  rw [List.nodup_cons] at n2
  unfold setA
  conv => lhs; rw [hsp]
  rw [List.map_append, List.map_cons, if_pos rfl, other, other]
  · exact fun p hp z => n2.1 (z ▸ List.mem_map.mpr ⟨p, hp, rfl⟩)
  · exact fun p hp z => n3 p.1 (List.mem_map.mpr ⟨p, hp, rfl⟩) e.1 List.mem_cons_self z
theorem setA_keys {f : List Str → List Str} : (setA aps here f).map (·.1) = aps.map (·.1) := by
  unfold setA
  rw [List.map_map]
  refine List.map_congr_left fun e _ => ?_
  show (if some e.1 = here then (e.1, e.2.1, f e.2.2) else e).1 = e.1
  split <;> rfl
theorem setA_mK {f : List Str → List Str} : mK (fun p : Addr × List Str => V.ref p.1) (setA aps here f) = mK (fun p : Addr × List Str => V.ref p.1) aps := by
  unfold setA mK
  rw [List.map_map]
  refine List.map_congr_left fun e _ => ?_
  show (Sum.inr (if some e.1 = here then (e.1, e.2.1, f e.2.2) else e).1, V.ref (if some e.1 = here then (e.1, e.2.1, f e.2.2) else e).2.1) = (Sum.inr e.1, V.ref e.2.1)
  split <;> rfl
theorem pure_People_give {H0 : Hp} (T : Txt K mg a) (h : sp_People_give K a vs H0 Q E) : t_People_give K a E { nx := fun _ H' => Q .non H', rt := Q } (L2.start N_People_give vs) H0 := by
  obtain ⟨_, po, dx, cd, ad, codes, aps, here, fl, un, x, F, rfl, y, ok, hx, kT, kF⟩ := h
  have hC := Ctx.start (K := K) y
  unfold PL at hC
  unfold t_People_give
  walk_at "start"
  cases here with
  | none =>
    simp only [pV] at hC
    walk_at "go"
    exact kF rfl _ hC.sb hC.lay
  | some s =>
    obtain ⟨e, he, hl⟩ := aps_look ok rfl
    obtain ⟨i, hi⟩ := List.mem_iff_getElem?.mp he
    have nd : (aps.map (·.1)).Nodup := by rw [← ok.keys]; exact ok.nd
    have hxl : e.2.2.length ≤ 2 := two_len (ok.lst e he).1 (ok.lst e he).2
    simp only [pV] at hC
    rw [acells_mid hi] at hC
    unfold appK at hC
    walk_at "go"
    refine s_ixKv (hC.get (by walk_at "mem")) hl.2 ?_
    walk_at "go"
    refine s_putKv (f := V.bl) (v := true) hC (hC.get (by walk_at "mem")) (by rw [List.length_map]; omega) (by walk_at "up") ?_
    clear hC; intro H hC
    rw [put_apps] at hC
    refine kT rfl _ hC.sb ?_
    unfold PL
    rw [setA_mK, setA_mid nd hi hl.1, acells_app]
    have hy := hC.lay
    simp only [List.append_assoc]
    exact hy
theorem pure_People_take {H0 : Hp} (T : Txt K mg a) (h : sp_People_take K a vs H0 Q E) : t_People_take K a E { nx := fun _ H' => Q .non H', rt := Q } (L2.start N_People_take vs) H0 := by
  obtain ⟨_, po, dx, cd, ad, codes, aps, here, fl, un, x, qh, F, rfl, y, ht, ok, hx, kT, kF⟩ := h
  have hC := (Ctx.start (K := K) y).add (i := .tri qh) ht
  unfold PL at hC
  unfold t_People_take
  walk_at "start"
  cases here with
  | none =>
    simp only [pV] at hC
    walk_at "go"
    exact kF rfl _ hC.sb hC.lay
  | some s =>
    obtain ⟨e, he, hl⟩ := aps_look ok rfl
    obtain ⟨i, hi⟩ := List.mem_iff_getElem?.mp he
    have nd : (aps.map (·.1)).Nodup := by rw [← ok.keys]; exact ok.nd
    have hal : aps.length ≤ 4 := by
      have := congrArg List.length ok.keys
      rw [List.length_map, List.length_map] at this
      have := ok.len
      omega
    have hC0 := hC
    simp only [pV] at hC
    rw [acells_mid hi] at hC
    unfold appK at hC
    walk_at "go"
    refine s_ixKv (hC.get (by walk_at "mem")) hl.2 ?_
    by_cases c : x ∈ e.2.2
    · have kT := kT (by rw [sees_of hl.2]; exact decide_eq_true c)
      have hlk : look (e.2.2.map fun x => (x, true)) x = some true := by rw [look_apps, if_pos c]
      walk_at "go"
      refine s_ixKv (hC.get (by walk_at "mem")) hl.2 ?_
      walk_at "go"
      rw [del_apps] at hC
      have hC2 : Ctx K H0 H (PL a po dx cd ad codes (setA aps (some s) (takeL x)) (some s) fl un ((a.tb_People_has_app, .tbl qh) :: F)) [Im.tri qh] := ⟨by
        unfold PL
        rw [setA_mK, setA_mid nd hi hl.1, acells_app]
        have hy := hC.lay
        simp only [List.append_assoc]
        exact hy, hC.im, hC.sb⟩
      clear hC
      have hC := hC2
      refine c_has (aps := setA aps (some s) (takeL x)) (F := F) (qh := qh) (codes := codes) (fl := fl) (un := un) (here := some s) hC (by unfold PL; walk_at "perm3") (hC.tri (by walk_at "mem")) (by rw [setA_keys]; exact nd) (by unfold setA; rw [List.length_map]; exact hal) ?_
      clear hC; intro qh' H hq hC
      walk_at "go"
      exact kT _ _ hC.sb hC.lay hq
    · have kF := kF (by rw [sees_of hl.2]; exact decide_eq_false c)
      have hlk : look (e.2.2.map fun x => (x, true)) x = none := by rw [look_apps, if_neg c]
      walk_at "go"
      exact kF _ hC0.sb hC0.lay
end
section
variable {K : PySem.W.Frag} {mg : Str → Option Value} {a : Adr} {vs : List V} {B H : Hp} {Q : VK} {E : XK} {L F : List (Addr × HO)} {I : List Im} {codes : List (Str × V)} {aps : Aps} {here : Option Str} {nm : Str}
theorem del_mid {i : Nat} {e : Str × (Addr × List Str)} {s : Str} (nd : (aps.map (·.1)).Nodup) (h : aps[i]? = some e) (hs : e.1 = s) : delR aps s = aps.take i ++ aps.drop (i + 1) := by
  subst hs
  have hsp := split_cons h
  rw [hsp, List.map_append, List.map_cons] at nd
  obtain ⟨n1, n2, n3⟩ := List.nodup_append.mp nd
  rw [List.nodup_cons] at n2
  unfold delR
  conv => lhs; rw [hsp]
  rw [List.filter_append, List.filter_cons_of_neg (by simp)]
  congr 1
  · exact List.filter_eq_self.mpr fun p hp => decide_eq_true fun z => n3 p.1 (List.mem_map.mpr ⟨p, hp, rfl⟩) e.1 List.mem_cons_self z
  · exact List.filter_eq_self.mpr fun p hp => decide_eq_true fun z => n2.1 (z ▸ List.mem_map.mpr ⟨p, hp, rfl⟩)
theorem pure_People_remove {H0 : Hp} (T : Txt K mg a) (h : sp_People_remove K a vs H0 Q E) : t_People_remove K a E { nx := fun _ H' => Q .non H', rt := Q } (L2.start N_People_remove vs) H0 := by
  obtain ⟨_, po, dx, cd, ad, codes, aps, here, fl, un, nm, qr, qh, F, rfl, y, ht1, ht2, ok, kT, kF⟩ := h
  have hC := ((Ctx.start (K := K) y).add (i := .tri qh) ht2).add (i := .tri qr) ht1
  have hcl := ok.len
  unfold PL at hC
  unfold t_People_remove
  walk_at "start"
  walk_at "go"
  by_cases hh : here = some ("ann" : Str)
  · refine c_need hC (by unfold PL; walk_at "perm3") hh ?_
    clear hC; intro H hC
    unfold PL at hC
    by_cases hn : nm = "ann"
    · have kF1 := kF (by simp [remB, hn])
      subst hn
      walk_at "all"
      exact kF1 _ hC.sb (by unfold PL; walk_at "lay3")
    · cases hlk : look codes nm with
      | none =>
        have kF1 := kF (by simp [remB, hlk])
        walk_at "all"
        exact kF1 _ hC.sb (by unfold PL; walk_at "lay3")
      | some w =>
        have kT := kT (by simp [remB, hlk, hh, hn])
        obtain ⟨e, he, hl⟩ := ok.lk (show (look codes nm).isSome = true by rw [hlk]; rfl)
        unfold t_People_remove_tail0
        walk_at "all"
        refine s_pop1 ?_
        walk_at "go"
        refine s_pop1d (hC.get (by walk_at "mem")) ?_
        walk_at "go"
        refine s_pop1v hC (hC.get (by walk_at "mem")) hl.2 (by walk_at "up") (fun H hC => ?_)
        walk_at "go"
        obtain ⟨i, hi⟩ := List.mem_iff_getElem?.mp he
        have nd : (aps.map (·.1)).Nodup := by rw [← ok.keys]; exact ok.nd
        have hal : aps.length ≤ 4 := by
          have q := congrArg List.length ok.keys
          rw [List.length_map, List.length_map] at q
          omega
        have hxl : e.2.2.length ≤ 2 := two_len (ok.lst e he).1 (ok.lst e he).2
        have hg : goneL aps nm = (srtT e.2.2).filter fun x => !hasB (delR aps nm) x := by unfold goneL; rw [hl.2]
        have hdel : acells (delR aps nm) = acells (aps.take i) ++ acells (aps.drop (i + 1)) := by rw [del_mid nd hi hl.1, acells_app]
        have hm : ((e.2.2.map fun x => (x, true)).map fun p : Str × Bool => p.1) = e.2.2 := by rw [List.map_map]; exact List.map_id _
        rw [acells_mid hi] at hC
        unfold appK at hC
        refine s_srtK hC (hC.get (by walk_at "mem")) (by rw [List.length_map]; omega) ?_
        clear hC; intro sq H hC
        rw [hm] at hC
        have hC2 : Ctx K H0 H ((sq, .lst ((srtT e.2.2).map V.str)) :: (a.tb_People_remove, .tbl qr) :: PL a po dx cd ad (delR codes nm) (delR aps nm) here fl un ((a.tb_People_has_app, .tbl qh) :: F)) [.tri qr, .tri qh] := by
          refine ⟨?_, hC.im, hC.sb⟩
          unfold PL
          rw [hdel, List.append_assoc]
          show Lay H ((sq, .lst ((srtT e.2.2).map V.str)) :: (a.tb_People_remove, .tbl qr) :: (po, .ins a.c_People dx [("owner", .str "ann"), ("codes", .ref cd), ("apps", .ref ad), ("here", pV here), ("failed", .int fl), ("locked_until", .int un)]) :: (cd, .dK (mK id (codes.filter fun p => decide (p.1 ≠ nm)))) :: (ad, .dK (mK (fun p : Addr × List Str => V.ref p.1) (aps.filter fun p => decide (p.1 ≠ nm)))) :: (acells (aps.take i) ++ (acells (aps.drop (i + 1)) ++ (a.tb_People_has_app, .tbl qh) :: F)))
          walk_at "lay3"
        clear hC
        have hC := hC2
        walk_at "go"
        refine tup_w (walk_lstE (xs := (srtT e.2.2).map V.str) (es := srtT e.2.2) (kf := V.str) rfl) (by rw [(srtT_perm _).length_eq]; omega) (fun i ys H1 => ys = (((srtT e.2.2).take i).filter fun x => !hasB (delR aps nm) x).map V.str ∧ ∃ qh', TriplesOk qh'.toList ∧ Ctx K H0 H1 ((a.tb_People_remove, .tbl tb) :: (sq, .lst ((srtT e.2.2).map V.str)) :: PL a po dx cd ad (delR codes nm) (delR aps nm) here fl un ((a.tb_People_has_app, .tbl qh') :: F)) [.tri tb]) ⟨rfl, qh, ht2, ⟨hC.lay, fun j hj => hC.im j (by
          rcases List.mem_cons.mp hj with rfl | hj
          · walk_at "mem"
          · cases hj), hC.sb⟩⟩ (fun i ys H1 _ ⟨_, qh', _, hC⟩ => SqL.of (hC.get (by walk_at "mem"))) ?_ ?_
        · rintro i x H1 H2 ys hi hy1 hy2 ⟨rfl, qh', hq', hC⟩ hy
          obtain ⟨rfl, z, hz, rfl⟩ := ye hy
          simp only [wipe, List.set_cons_zero, List.set_cons_succ]
          walk_at "go"
          refine ⟨rfl, ?_⟩
          walk_at "go"
          refine c_has (aps := delR aps nm) (qh := qh') hC (by unfold PL; walk_at "perm3") hq' (nd.sublist ((List.filter_sublist).map _)) (Nat.le_trans (List.length_filter_le _ _) (by omega)) ?_
          clear hC; intro qh2 H hq2 hC
          have hC3 : Ctx K H0 H ((a.tb_People_remove, .tbl tb) :: (sq, .lst ((srtT e.2.2).map V.str)) :: PL a po dx cd ad (delR codes nm) (delR aps nm) here fl un ((a.tb_People_has_app, .tbl qh2) :: F)) [.tri tb] := ⟨by unfold PL at hC ⊢; walk_at "lay3", hC.im, hC.sb⟩
          cases hb : hasB (delR aps nm) z
          · walk_at "go"
            refine ⟨?_, qh2, hq2, hC3⟩
            rw [take_snoc hz, List.filter_append, List.map_append, show ([z] : List Str).filter (fun x => !hasB (delR aps nm) x) = [z] from by simp [hb]]; rfl
          · walk_at "go"
            refine ⟨by omega, ?_, qh2, hq2, hC3⟩
            rw [take_snoc hz, List.filter_append, show ([z] : List Str).filter (fun x => !hasB (delR aps nm) x) = [] from by simp [hb], List.append_nil]
        · rintro ys H1 ⟨rfl, qh2, hq2, hC⟩ l hl0
          rw [List.take_length, ← hg] at *
          have hC4 := hC.newT (xs := (goneL aps nm).map V.str) hl0
          have hC := hC4
          unfold PL at hC
          exact kT _ l tb qh2 hC.sb (by unfold PL; walk_at "lay3") (hC.tri (by walk_at "mem")) hq2 (hC.tup (by walk_at "mem"))
  · refine c_needF hC (by unfold PL; walk_at "perm3") hh ?_
    intro H hC
    exact kF (by simp [remB, hh]) _ hC.sb (by unfold PL; walk_at "lay3")
end
section
variable {K : PySem.W.Frag} {mg : Str → Option Value} {a : Adr} {vs : List V} {B H : Hp} {Q : VK} {E : XK} {L L' F : List (Addr × HO)} {I : List Im}
variable {s dd po dx cd ad cL aL : Addr} {i j l fl un tm : Int} {qr qs qh qn tb : Array Value} {codes : List (Str × V)} {aps lps : Aps} {here : Option Str} {nm x : Str} {c : V} {N Bk Ct : L2.St → Hp → Prop} {Rt : VK}
variable {v9 v10 v11 v12 v13 v14 v15 v16 v17 v18 v19 v20 v21 v22 : Option V}
def lcells (lps : Aps) : List (Addr × HO) := lps.map fun e => (e.2.1, HO.lst (e.2.2.map V.str))
theorem lcells_app {l m : Aps} : lcells (l ++ m) = lcells l ++ lcells m := List.map_append
theorem lcells_mid {i : Nat} {e : Str × (Addr × List Str)} (h : lps[i]? = some e) : lcells lps ++ F = lcells (lps.take i) ++ (e.2.1, HO.lst (e.2.2.map V.str)) :: (lcells (lps.drop (i + 1)) ++ F) := by
  conv => lhs; rw [split_cons h]
  rw [lcells_app, List.append_assoc]
  rfl
abbrev LWL (a : Adr) (dd : Addr) (i j l : Int) (cL aL : Addr) (lps : Aps) (qr qs qh qn tb : Array Value) (po dx cd ad : Addr) (codes : List (Str × V)) (aps : Aps) (here : Option Str) (fl un : Int) (F : List (Addr × HO)) : List (Addr × HO) :=
  (dd, .lst [.int i, .int j, .int l]) :: (cL, .dK (mK id codes)) :: (aL, .dK (mK (fun p : Addr × List Str => V.ref p.1) lps)) :: (a.tb_People_remove, .tbl qr) :: (a.tb_People_set_code, .tbl qs) :: (a.tb_People_has_app, .tbl qh) :: (a.tb_check_name, .tbl qn) :: (a.tb_law, .tbl tb) :: (lcells lps ++ PL a po dx cd ad codes aps here fl un F)
structure TQ4 (qr qs qh qn : Array Value) : Prop where
  r : TriplesOk qr.toList
  s : TriplesOk qs.toList
  h : TriplesOk qh.toList
  n : TriplesOk qn.toList
structure LInv (codes : List (Str × V)) (aps lps : Aps) (here : Option Str) (fl : Int) : Prop where
  ok : POk codes aps here
  same : lps.map (fun e => (e.1, e.2.2)) = aps.map (fun e => (e.1, e.2.2))
  fl0 : 0 ≤ fl
def WL (K : PySem.W.Frag) (a : Adr) (B : Hp) (s dd po dx cd ad : Addr) (F : List (Addr × HO)) (σ : L2.St) (H : Hp) : Prop :=
  ∃ (i j l fl un tm : Int) (cL aL : Addr) (qr qs qh qn tb : Array Value) (codes : List (Str × V)) (aps lps : Aps) (here : Option Str) (v9 v10 v11 v12 v13 v14 v15 v16 v17 v18 v19 v20 v21 v22 : Option V),
    σ = [some (.ref s), some (.ref dd), some (.ref po), some (.ref cL), some (.ref aL), some (pV here), some (.int fl), some (.int un), some (.int tm), v9, v10, v11, v12, v13, v14, v15, v16, v17, v18, v19, v20, v21, v22] ∧
    LInv codes aps lps here fl ∧ TQ4 qr qs qh qn ∧ Ctx K B H (LWL a dd i j l cL aL lps qr qs qh qn tb po dx cd ad codes aps here fl un F) [.tab (lamq "law") tb]
theorem LInv.keys (h : LInv codes aps lps here fl) : lps.map (·.1) = aps.map (·.1) := by
  have := congrArg (List.map fun x : Str × List Str => x.1) h.same
  rw [List.map_map, List.map_map] at this
  exact this
theorem LInv.nd (h : LInv codes aps lps here fl) : (lps.map (·.1)).Nodup := by rw [h.keys, ← h.ok.keys]; exact h.ok.nd
theorem LInv.len (h : LInv codes aps lps here fl) : lps.length ≤ 4 := by
  have q := congrArg List.length h.keys
  rw [List.length_map, List.length_map] at q
  have q2 := congrArg List.length h.ok.keys
  rw [List.length_map, List.length_map] at q2
  have := h.ok.len
  omega
theorem LInv.has (h : LInv codes aps lps here fl) : (lps.any fun e => decide (x ∈ e.2.2)) = hasB aps x := by
  have e1 : (lps.any fun e => decide (x ∈ e.2.2)) = (lps.map fun e => (e.1, e.2.2)).any fun e => decide (x ∈ e.2) := by rw [List.any_map]; rfl
  have e2 : hasB aps x = (aps.map fun e => (e.1, e.2.2)).any fun e => decide (x ∈ e.2) := by rw [List.any_map]; rfl
  rw [e1, e2, h.same]
theorem LInv.lk (h : LInv codes aps lps here fl) {z : Str} {e : Str × (Addr × List Str)} (he : e ∈ aps) (hz : e.1 = z) : ∃ e', e' ∈ lps ∧ e'.1 = z ∧ look lps z = some e'.2 ∧ e'.2.2 = e.2.2 := by
  have hm : (e.1, e.2.2) ∈ lps.map (fun e => (e.1, e.2.2)) := by rw [h.same]; exact List.mem_map.mpr ⟨e, he, rfl⟩
  obtain ⟨e', he', q⟩ := List.mem_map.mp hm
  injection q with q1 q2
  exact ⟨e', he', q1.trans hz, by rw [← hz, ← q1]; exact look_of_mem h.nd he', q2⟩
theorem s_inLS {d : Addr} {ys : List Str} (m : H d = some (.lst (ys.map V.str))) (q : Q (.bl (decide (x ∈ ys))) H) : rInV K (.str x) (.ref d) H Q :=
  .inl (.inl ⟨d, _, rfl, .inl (SqL.of m), rfl, by rw [List.all_map]; exact List.all_eq_true.mpr fun _ _ => rfl, by rw [if_neg Bool.false_ne_true, inV_strs]; exact q⟩)
theorem lockpick {α : Type} {f : α → V} {σ : L2.St} {d : Addr} {l : List (Str × α)} {td : TE} {g : TG} {tt : TT} {te : TE} {vs : List Nat} (p : Str × α → Bool) (vf : Str × α → V) (htd : ∀ H Q, Q (.ref d) H → td σ H Q) (hC : Ctx K B H L I) (m : Pick (d, .dK (mK f l)) L L') (hz : l.length ≤ 90000)
    (turn : ∀ (i : Nat) e H0 H1 D vr od (Zy : VK) (Zn : Hp → Prop), l[i]? = some e → Ctx K H0 H1 ((D, .lst vr) :: L') (imFz d od (.dK (mK f l)) :: I) → (∀ H2 J', p e = true → Ctx K H0 H2 ((D, .lst vr) :: L') J' → (∀ j, j ∈ imFz d od (.dK (mK f l)) :: I → j ∈ J') → Zy (vf e) H2) → (∀ H2 J', p e = false → Ctx K H0 H2 ((D, .lst vr) :: L') J' → (∀ j, j ∈ imFz d od (.dK (mK f l)) :: I → j ∈ J') → Zn H2) →
      g (.str e.1) (wipe σ vs) H1 fun σ2 H2 => wipe σ2 vs = wipe σ vs ∧ tt σ2 H2 fun b H3 => if b = true then te σ2 H3 Zy else Zn H3)
    (k : ∀ H' D, Ctx K B H' ((d, .dK (mK f l)) :: (D, .lst ((l.filter p).map vf)) :: L') I → Q (.ref D) H') :
    tLockE (tLc (iKeys td) g tt te vs) σ H Q := by
  have hC0 := hC
  refine s_lockE hC m trivial (fun od H1 s1 hC => ?_)
  refine s_lc (s_keys (htd _ _ (s_keysK (hC.frz List.mem_cons_self) ?_)))
  refine lc_pick (es := l) (kf := fun e => V.str e.1) (walk_keysE (es := l) (kk := fun q => Sum.inr q.1) (vf := fun q => f q.2) rfl) p vf (by omega) (fun H1 x hC => hC.frz List.mem_cons_self) hC (fun i e H2 D vr Zy Zn he hC hy hn => turn i e H1 H2 D vr od Zy Zn he hC hy hn) (fun H2 D hC => ?_)
  refine s_unlE hC0 m s1 hC (hC.frz List.mem_cons_self) (fun hC => k _ D hC)
theorem pnm_str : ∀ x, x ∈ PNM → PyData.strOk x = true := by decide +kernel
/-- who has an app, as the law sees it -/
theorem names_ne {D e0 : Addr} (h : LInv codes aps lps here fl) (m1 : H D = some (.lst ((lps.filter fun e => decide (x ∈ e.2.2)).map fun e => V.str e.1))) (m2 : H e0 = some (.lst [])) (k : Q (.bl (hasB aps x)) H) : rNeU K (.ref D) (.ref e0) H Q := by
  refine s_neSS (ns := (lps.filter fun e => decide (x ∈ e.2.2)).map (·.1)) (ms := []) (by rw [List.map_map]; exact m1) m2 ?_ (fun x hx => nomatch hx) ?_
  · intro y hy
    obtain ⟨e, he, rfl⟩ := List.mem_map.mp hy
    have : e.1 ∈ lps.map (·.1) := List.mem_map.mpr ⟨e, (List.mem_filter.mp he).1, rfl⟩
    rw [h.keys, ← h.ok.keys] at this
    obtain ⟨r, hr, z⟩ := List.mem_map.mp this
    rw [← z]
    exact pnm_str _ (h.ok.nms r hr)
  · have e : (!decide ((lps.filter fun e => decide (x ∈ e.2.2)).map (·.1) = [])) = hasB aps x := by
      rw [← h.has]
      cases hf : lps.filter fun e => decide (x ∈ e.2.2) with
      | nil =>
        have : (lps.any fun e => decide (x ∈ e.2.2)) = false := by
          rw [List.any_eq_false]
          intro e he z
          have : e ∈ lps.filter fun e => decide (x ∈ e.2.2) := List.mem_filter.mpr ⟨he, z⟩
          rw [hf] at this; cases this
        rw [this]; rfl
      | cons e r =>
        have : e ∈ lps.filter fun e => decide (x ∈ e.2.2) := by rw [hf]; exact List.mem_cons_self
        have := List.mem_filter.mp this
        rw [show (lps.any fun e => decide (x ∈ e.2.2)) = true from List.any_eq_true.mpr ⟨e, this.1, this.2⟩]; rfl
    rw [e]; exact k
end
section
variable {K : PySem.W.Frag} {mg : Str → Option Value} {a : Adr} {vs : List V} {B H : Hp} {Q : VK} {E : XK} {L L' F : List (Addr × HO)} {I : List Im}
variable {s dd po dx cd ad cL aL : Addr} {i j l fl un tm : Int} {qr qs qh qn tb : Array Value} {codes : List (Str × V)} {aps lps : Aps} {here : Option Str} {nm x : Str} {c : V} {N Bk Ct : L2.St → Hp → Prop} {Rt : VK}
variable {v9 v10 v11 v12 v13 v14 v15 v16 v17 v18 v19 v20 v21 v22 : Option V}
theorem wlin (h : LInv codes aps lps here fl) (tq : TQ4 qr qs qh qn) (hC : Ctx K B H (LWL a dd i j l cL aL lps qr qs qh qn tb po dx cd ad codes aps here fl un F) [.tab (lamq "law") tb]) :
    WL K a B s dd po dx cd ad F [some (.ref s), some (.ref dd), some (.ref po), some (.ref cL), some (.ref aL), some (pV here), some (.int fl), some (.int un), some (.int tm), v9, v10, v11, v12, v13, v14, v15, v16, v17, v18, v19, v20, v21, v22] H :=
  ⟨i, j, l, fl, un, tm, cL, aL, qr, qs, qh, qn, tb, codes, aps, lps, here, v9, v10, v11, v12, v13, v14, v15, v16, v17, v18, v19, v20, v21, v22, rfl, h, tq, hC⟩
theorem lget (hC : Ctx K B H L I) (hb : ∀ c, c ∈ lcells lps → c ∈ L) {e : Str × (Addr × List Str)} (he : e ∈ lps) : H e.2.1 = some (.lst (e.2.2.map V.str)) :=
  hC.get (hb _ (List.mem_map.mpr ⟨e, he, rfl⟩))
theorem sees_ev {σ : L2.St} {m : Nat} (h : LInv codes aps lps here fl) (h4 : σ[4]? = some (some (.ref aL))) (h5 : σ[5]? = some (some (pV here))) (hm : σ[m]? = some (some (.str x))) (hd : H aL = some (.dK (mK (fun p : Addr × List Str => V.ref p.1) lps))) (hl : ∀ e, e ∈ lps → H e.2.1 = some (.lst (e.2.2.map V.str))) (q : Q (.bl (seesB aps here x)) H) :
    (tAndV (tOp rNotN (tVar 5) (tC .non)) (tOp (rInV K) (tVar m) (tOp (rIxU K) (tVar 4) (tVar 5)))) σ H Q := by
  cases here with
  | none =>
    simp only [pV] at h5
    refine s_andV (s_op (s_var h5 (s_c (s_notN_non ?_))))
    refine s_andB ?_
    exact q
  | some z =>
    simp only [pV] at h5
    obtain ⟨e, he, hz, hlk⟩ := aps_look h.ok rfl
    obtain ⟨e', he', hz', hlk', he2⟩ := h.lk he hz
    rw [sees_of hlk, ← he2] at q
    refine s_andV (s_op (s_var h5 (s_c (s_notN_str ?_))))
    refine s_andB ?_
    refine s_op (s_var hm (s_op (s_var h4 (s_var h5 ?_))))
    refine s_ixKv hd hlk' ?_
    exact s_inLS (hl _ he') q
theorem for25_ok (T : Txt K mg a) (h : LInv codes aps lps here fl) (tq : TQ4 qr qs qh qn) (hC : Ctx K B H (LWL a dd i j l cL aL lps qr qs qh qn tb po dx cd ad codes aps here fl un F) [.tab (lamq "law") tb])
    (k : ∀ H1 qh', TriplesOk qh'.toList → Ctx K B H1 (LWL a dd i j l cL aL lps qr qs qh' qn tb po dx cd ad codes aps here fl un F) [.tab (lamq "law") tb] → N [some (.ref s), some (.ref dd), some (.ref po), some (.ref cL), some (.ref aL), some (pV here), some (.int fl), some (.int un), some (.int tm), v9, v10, v11, v12, v13, some (.str x), v15, v16, v17, v18, v19, v20, v21, v22] H1) :
    t_law_for25 K a E ⟨N, Rt, Bk, Ct⟩ [some (.ref s), some (.ref dd), some (.ref po), some (.ref cL), some (.ref aL), some (pV here), some (.int fl), some (.int un), some (.int tm), v9, v10, v11, v12, v13, some (.str x), v15, v16, v17, v18, v19, v20, v21, v22] H := by
  have hal := h.ok.alen
  have hll := h.len
  unfold t_law_for25
  unfold LWL at hC
  walk_at "go"
  refine c_has (aps := aps) (x := x) hC (by unfold PL; walk_at "perm3") tq.h h.ok.andd hal ?_
  clear hC; intro qh' H hqh hC
  unfold PL at hC
  walk_at "go"
  refine lockpick (α := Addr × List Str) (f := fun p => V.ref p.1) (l := lps) (fun e => decide (x ∈ e.2.2)) (fun e => V.str e.1) (fun H Q q => s_var rfl q) hC (by walk_at "pick") (by omega) (fun i0 e H0 H1 D vr od Zy Zn he hC hy hn => ?_) (fun H1 D hC => ?_)
  · have hlk : look lps e.1 = some e.2 := look_of_mem h.nd (List.mem_of_getElem? he)
    have hC2 := hC
    simp only [wipe, List.set_cons_zero, List.set_cons_succ]
    walk_at "go"
    refine ⟨rfl, ?_⟩
    walk_at "go"
    refine s_ixKF (hC.frz (by walk_at "mem")) hlk ?_
    have hm : H1 e.2.1 = some (.lst (e.2.2.map V.str)) := by
      have hC := hC
      rw [lcells_mid he] at hC
      exact hC.get (by walk_at "mem")
    refine s_inLS hm ?_
    cases hb : decide (x ∈ e.2.2)
    · walk_at "go"
      exact hn _ _ hb hC (fun j hj => hj)
    · walk_at "go"
      exact hy _ _ hb hC (fun j hj => hj)
  · walk_at "go"
    refine names_ne (x := x) h (hC.get (by walk_at "mem")) (hC.get (by walk_at "mem")) ?_
    refine s_neBs ?_
    walk_at "go"
    refine c_sees (aps := aps) (x := x) (here := here) (fl := fl) (un := un) (codes := codes) hC (by unfold PL; walk_at "perm3") h.ok ?_
    clear hC; intro H hC
    have fin : ∀ {H1 : Hp} {D1 e1 : Addr}, Ctx K B H1 ((D1, .lst ((lps.filter fun e => decide (x ∈ e.2.2)).map fun e => V.str e.1)) :: (e1, .lst []) :: LWL a dd i j l cL aL lps qr qs qh' qn tb po dx cd ad codes aps here fl un F) [.tab (lamq "law") tb] → N [some (.ref s), some (.ref dd), some (.ref po), some (.ref cL), some (.ref aL), some (pV here), some (.int fl), some (.int un), some (.int tm), v9, v10, v11, v12, v13, some (.str x), v15, v16, v17, v18, v19, v20, v21, v22] H1 := fun hC => k _ _ hqh ⟨by walk_at "lay3", hC.im, hC.sb⟩
    unfold PL at hC
    refine sees_ev (aps := aps) (here := here) (x := x) h rfl rfl rfl (hC.get (by walk_at "mem")) (fun e he => lget hC (fun c hc => by simp [hc]) he) ?_
    refine s_neBs ?_
    walk_at "go"
    exact fin ⟨by unfold LWL PL; walk_at "lay3", hC.im, hC.sb⟩
theorem tail26_ok (T : Txt K mg a) (h : LInv codes aps lps here fl) (tq : TQ4 qr qs qh qn) (hC : Ctx K B H (LWL a dd i j l cL aL lps qr qs qh qn tb po dx cd ad codes aps here fl un F) [.tab (lamq "law") tb])
    (k : ∀ σ H, WL K a B s dd po dx cd ad F σ H → N σ H) :
    t_law_tail26 K a E ⟨N, Rt, Bk, Ct⟩ [some (.ref s), some (.ref dd), some (.ref po), some (.ref cL), some (.ref aL), some (pV here), some (.int fl), some (.int un), some (.int tm), v9, v10, v11, v12, v13, v14, v15, v16, v17, v18, v19, v20, v21, v22] H := by
  unfold t_law_tail26
  unfold LWL at hC
  walk_at "go"
  refine for_w (walk_list (xs := [.str "x", .str "y"])) (fun _ σ H => ∃ (v14 : Option V) (qh : Array Value), TriplesOk qh.toList ∧ σ = [some (.ref s), some (.ref dd), some (.ref po), some (.ref cL), some (.ref aL), some (pV here), some (.int fl), some (.int un), some (.int tm), v9, v10, v11, v12, v13, v14, v15, v16, v17, v18, v19, v20, v21, v22] ∧ Ctx K B H (LWL a dd i j l cL aL lps qr qs qh qn tb po dx cd ad codes aps here fl un ((lp, .lst [.str "x", .str "y"]) :: F)) [.tab (lamq "law") tb]) ⟨v14, qh, tq.h, rfl, ⟨by unfold LWL; walk_at "lay3", hC.im, hC.sb⟩⟩ (fun _ σ H _ ⟨_, _, _, _, hC⟩ => SqL.of (hC.get (by unfold LWL; walk_at "mem"))) ?_ ?_
  · rintro ix y σ H4 H5 hi2 ⟨u14, qh2, hq2, rfl, hC⟩ ⟨rfl, hy2⟩
    obtain ⟨x, rfl⟩ : ∃ x, y = .str x := by
      match ix, hy2 with
      | 0, h => cases h; exact ⟨_, rfl⟩
      | 1, h => cases h; exact ⟨_, rfl⟩
    refine s_name (by walk_at "set") ?_
    exact for25_ok T h ⟨tq.r, tq.s, hq2, tq.n⟩ hC (fun H1 qh' hq hC => ⟨some (.str x), qh', hq, rfl, hC⟩)
  · rintro σ H4 ⟨u14, qh2, hq2, rfl, hC⟩
    exact k _ _ (wlin h ⟨tq.r, tq.s, hq2, tq.n⟩ ⟨by unfold LWL PL at hC ⊢; walk_at "lay3", hC.im, hC.sb⟩)
theorem cds_flat : ∀ c, c ∈ CDS → flatB c = true := by decide +kernel
theorem s_nePV {p : Option Str} (q : Q (.bl false) H) : rNeU K (pV p) (pV p) H Q := by
  cases p with
  | none => exact s_neNN q
  | some z => exact s_neSs q
theorem tail27_ok (T : Txt K mg a) (h : LInv codes aps lps here fl) (tq : TQ4 qr qs qh qn) {told : V} {good : Bool} (ht : ∀ Q : VK, Q (.bl (!good)) H → rEqU K told (.str "RightFault") H Q) (hC : Ctx K B H (LWL a dd i j l cL aL lps qr qs qh qn tb po dx cd ad codes aps here fl un F) [.tab (lamq "law") tb])
    (k : ∀ σ H, WL K a B s dd po dx cd ad F σ H → N σ H) :
    t_law_tail27 K a E ⟨N, Rt, Bk, Ct⟩ [some (.ref s), some (.ref dd), some (.ref po), some (.ref cL), some (.ref aL), some (pV here), some (.int fl), some (.int un), some (.int tm), v9, v10, v11, v12, v13, v14, v15, some (.bl good), some told, v18, v19, v20, v21, v22] H := by
  have hC0 := hC
  unfold t_law_tail27
  unfold LWL PL at hC
  walk_at "go"
  refine ht _ ?_
  cases good
  all_goals
    first | rw [Bool.not_false] | rw [Bool.not_true]
    walk_at "go"
    refine s_nePV ?_
    walk_at "go"
    refine s_neDk (l := codes) (m := codes) (hC.get (by walk_at "mem")) (hC.get (by walk_at "mem")) rfl (fun p hp => ⟨look_of_mem h.ok.nd hp, cds_flat _ (h.ok.cds p hp)⟩) ?_
    walk_at "go"
    exact tail26_ok T h tq hC0 k
end
section
variable {K : PySem.W.Frag} {mg : Str → Option Value} {a : Adr} {vs : List V} {B H : Hp} {Q : VK} {E : XK} {L L' F : List (Addr × HO)} {I : List Im}
variable {s dd po dx cd ad cL aL : Addr} {i j l fl un tm : Int} {qr qs qh qn tb : Array Value} {codes : List (Str × V)} {aps lps : Aps} {here : Option Str} {nm x : Str} {c : V} {N Bk Ct : L2.St → Hp → Prop} {Rt : VK}
variable {v9 v10 v11 v12 v13 v14 v15 v16 v17 v18 v19 v20 v21 v22 : Option V}
theorem merge_snoc {α : Type} {f : α → V} {l : List (Str × α)} {k : Str} {v : α} (nd : (l.map (·.1)).Nodup) : mergeK [] (mK f l ++ [(.inr k, f v)]) = mK f (putR l k v) := by
  have e : mergeK [] (mK f l ++ [(.inr k, f v)]) = putK (mergeK [] (mK f l)) (.inr k) (f v) := by unfold mergeK; rw [List.foldl_append]; rfl
  rw [e, merge_mK nd, putK_mK]
theorem dict_snoc {α : Type} {f : α → V} {l : List (Str × α)} {k : Str} {v : α} {D tp : Addr} {ts : List Addr} (hC : Ctx K B H L I) (m : H D = some (.lst (ts.map V.ref ++ [V.ref tp]))) (hP : Paired (fun (t : Addr) (q : Key × V) => SqT K H t [kV q.1, q.2]) ts (mK f l)) (ht : SqT K H tp [.str k, f v]) (nd : (l.map (·.1)).Nodup) (q : ∀ p H1, Ctx K B H1 ((p, .dK (mK f (putR l k v))) :: L) I → Q (.ref p) H1) : rDictU K [.ref D] H Q :=
  .inl ⟨D, ts ++ [tp], mK f l ++ [(.inr k, f v)], rfl, SqL.of (by rw [List.map_append]; exact m), Ph.Paired.snoc (y := ((.inr k, f v) : Key × V)) hP ht, fun p hp => by rw [merge_snoc nd]; exact q p _ (hC.newM hp rfl)⟩
theorem dict_snoci {l : List (Str × V)} {k : Str} {v : V} {D tp : Addr} {ts : List Addr} (hC : Ctx K B H L I) (m : H D = some (.lst (ts.map V.ref ++ [V.ref tp]))) (hP : Paired (fun (t : Addr) (q : Key × V) => SqT K H t [kV q.1, q.2]) ts (mK id l)) (ht : SqT K H tp [.str k, v]) (nd : (l.map (·.1)).Nodup) (q : ∀ p H1, Ctx K B H1 ((p, .dK (mK id (putR l k v))) :: L) I → Q (.ref p) H1) : rDictU K [.ref D] H Q := dict_snoc (f := id) hC m hP ht nd q
theorem dict_snocA {l : Aps} {k : Str} {u : Addr} {xs : List Str} {D tp : Addr} {ts : List Addr} (hC : Ctx K B H L I) (m : H D = some (.lst (ts.map V.ref ++ [V.ref tp]))) (hP : Paired (fun (t : Addr) (q : Key × V) => SqT K H t [kV q.1, q.2]) ts (mK (fun p : Addr × List Str => V.ref p.1) l)) (ht : SqT K H tp [.str k, .ref u]) (nd : (l.map (·.1)).Nodup) (q : ∀ p H1, Ctx K B H1 ((p, .dK (mK (fun p : Addr × List Str => V.ref p.1) (putR l k (u, xs)))) :: L) I → Q (.ref p) H1) : rDictU K [.ref D] H Q := dict_snoc (f := fun p : Addr × List Str => V.ref p.1) (v := (u, xs)) hC m hP ht nd q
theorem LInv.add {d d2 : Addr} (h : LInv codes aps lps here fl) (hn : nm ∈ PNM) (hk : look codes nm = none) (hl : codes.length < 4) : LInv (codes ++ [(nm, .non)]) (aps ++ [(nm, d, [])]) (lps ++ [(nm, d2, [])]) here fl :=
  ⟨⟨by rw [List.map_append, List.map_append, h.ok.keys]; rfl, by
      rw [List.map_append]
      refine List.nodup_append.mpr ⟨h.ok.nd, by simp, fun a ha b hb z => ?_⟩
      obtain ⟨p, hp, rfl⟩ := List.mem_map.mp ha
      rw [List.map_cons, List.map_nil, List.mem_singleton] at hb
      exact look_none.mp hk p hp (z.trans hb), by rw [List.length_append]; exact hl, fun p hp => by
      rcases List.mem_append.mp hp with hp | hp
      · exact h.ok.nms p hp
      · rw [List.mem_singleton.mp hp]; exact hn, fun e he => by
      rcases List.mem_append.mp he with he | he
      · exact h.ok.lst e he
      · rw [List.mem_singleton.mp he]; exact ⟨List.nodup_nil, fun x hx => nomatch hx⟩, fun z hz => by
      have := h.ok.here z hz
      rw [Ph.look_app]
      cases hq : look codes z with
      | none => rw [hq] at this; cases this
      | some w => rfl, fun p hp => by
      rcases List.mem_append.mp hp with hp | hp
      · exact h.ok.cds p hp
      · rw [List.mem_singleton.mp hp]; exact List.mem_cons_self⟩, by rw [List.map_append, List.map_append, h.same]; rfl, h.fl0⟩
theorem LInv.nope (h : LInv codes aps lps here fl) (hk : look codes nm = none) : look lps nm = none := by
  refine look_none.mpr fun p hp q => ?_
  have hm : nm ∈ codes.map (·.1) := by rw [h.ok.keys, ← h.keys]; exact List.mem_map.mpr ⟨p, hp, q⟩
  obtain ⟨r, hr, z⟩ := List.mem_map.mp hm
  exact look_none.mp hk r hr z
theorem good_add {σ : L2.St} {I : List Im} (hC : Ctx K B H L I) (hm : (cL, HO.dK (mK id codes)) ∈ L) (h3 : σ[3]? = some (some (.ref cL))) (h5 : σ[5]? = some (some (pV here))) (h11 : σ[11]? = some (some (.str nm))) (hl : codes.length ≤ 4) (q : Q (.bl (addB codes here nm)) H) :
    (tAndV (tOp (rEqU K) (tVar 5) (tC (.str "ann"))) (tAndV (tOp (rNotInV K) (tVar 11) (tVar 3)) (tOp rLt (tCB (rLenU K) (tCons (tVar 3) tNil)) (tC (.int 4))))) σ H Q := by
  cases here with
  | none =>
    simp only [pV] at h5
    walk_at "go"
    exact q
  | some z =>
    simp only [pV] at h5
    by_cases hz : z = "ann"
    · subst hz
      cases hlk : look codes nm with
      | some w =>
        rw [show addB codes (some "ann") nm = false from by simp [addB, hlk]] at q
        walk_at "go"
        exact q
      | none =>
        by_cases h4 : codes.length < 4
        · rw [show addB codes (some "ann") nm = true from by simp [addB, hlk, h4]] at q
          have h4' : ((codes.length : Nat) : Int) < 4 := by omega
          walk_at "go"
          exact q
        · rw [show addB codes (some "ann") nm = false from by simp [addB, hlk, h4]] at q
          have h4' : ¬ ((codes.length : Nat) : Int) < 4 := by omega
          walk_at "go"
          exact q
    · rw [show addB codes (some z) nm = false from by simp [addB, hz]] at q
      walk_at "go"
      rw [decide_eq_false hz]
      walk_at "go"
      exact q
theorem if3_add (T : Txt K mg a) (h : LInv codes aps lps here fl) (tq : TQ4 qr qs qh qn) (hn : nm ∈ PNM) (hC : Ctx K B H (LWL a dd i j l cL aL lps qr qs qh qn tb po dx cd ad codes aps here fl un F) [.tab (lamq "law") tb])
    (k : ∀ σ H, WL K a B s dd po dx cd ad F σ H → N σ H) :
    t_law_if3 K a E ⟨t_law_tail27 K a E ⟨N, Rt, Bk, Ct⟩, Rt, Bk, Ct⟩ [some (.ref s), some (.ref dd), some (.ref po), some (.ref cL), some (.ref aL), some (pV here), some (.int fl), some (.int un), some (.int tm), v9, v10, some (.str nm), v12, v13, v14, v15, v16, v17, v18, v19, v20, v21, v22] H := by
  unfold t_law_if3 t_law_tail2
  unfold LWL PL at hC
  refine s_seq (s_asg ?_)
  refine good_add hC (by walk_at "mem") rfl rfl rfl h.ok.len ?_
  walk_at "go"
  refine c_add (aps := aps) (here := here) (fl := fl) (un := un) (codes := codes) hC (by unfold PL; walk_at "perm3") tq.n hn h.ok (fun hb d q' H1 hq hC => ?_) (fun hb q' H1 hq hC => ?_)
  · unfold PL at hC
    rw [hb]
    unfold t_law_tail1
    have hlk : look codes nm = none := by
      cases e : look codes nm with
      | none => rfl
      | some w => rw [show addB codes here nm = false from by simp [addB, e]] at hb; cases hb
    have hl4 : codes.length < 4 := by
      by_cases e : codes.length < 4
      · exact e
      · rw [show addB codes here nm = false from by simp [addB, e]] at hb; cases hb
    walk_at "go"
    refine s_litE ?_
    walk_at "go"
    refine s_lit hC (hC.get (by walk_at "mem")) (fun p1 ts1 H2 hC => ?_)
    have hz1 : (ts1.map V.ref).length ≤ 4 := by
      have q := (hC.pr (P := fun H => Paired (fun (t : Addr) (q : Key × V) => SqT K H t [kV q.1, q.2]) ts1 (mK id codes)) (by walk_at "mem")).length
      unfold mK at q
      rw [List.length_map] at q ⊢
      omega
    walk_at "go"
    refine dict_snoci (l := codes) hC (hC.get (by walk_at "mem")) (hC.pr (P := fun H => Paired (fun (t : Addr) (q : Key × V) => SqT K H t [kV q.1, q.2]) ts1 (mK id codes)) (by walk_at "mem")) (hC.tup (by walk_at "mem")) h.ok.nd (fun c2 H3 hC => ?_)
    rw [putR_new hlk] at hC
    walk_at "go"
    refine s_litE ?_
    walk_at "go"
    refine s_lit hC (hC.get (by walk_at "mem")) (fun p2 ts2 H2 hC => ?_)
    have hz2 : (ts2.map V.ref).length ≤ 4 := by
      have q := (hC.pr (P := fun H => Paired (fun (t : Addr) (q : Key × V) => SqT K H t [kV q.1, q.2]) ts2 (mK (fun p : Addr × List Str => V.ref p.1) lps)) (by walk_at "mem")).length
      unfold mK at q
      rw [List.length_map] at q ⊢
      have := h.len
      omega
    walk_at "go"
    rename_i lpA g1 g2 lpB g3
    refine dict_snocA (l := lps) (u := lpA) (xs := []) hC (hC.get (by walk_at "mem")) (hC.pr (P := fun H => Paired (fun (t : Addr) (q : Key × V) => SqT K H t [kV q.1, q.2]) ts2 (mK (fun p : Addr × List Str => V.ref p.1) lps)) (by walk_at "mem")) (hC.tup (by walk_at "mem")) h.nd (fun a2 H3 hC => ?_)
    rw [putR_new (h.nope hlk)] at hC
    walk_at "go"
    refine tail27_ok T (h.add (d := d) (d2 := lpA) hn hlk hl4) ⟨tq.r, tq.s, tq.h, hq⟩ (good := true) (fun Q q => s_eqNS q) (i := i) (j := j) (l := l) (dx := dx) (cd := cd) (ad := ad) (tb := tb) (F := F) ⟨?_, fun j hj => (by
      rcases List.mem_cons.mp hj with rfl | hj
      · exact hC.im _ (by walk_at "mem")
      · cases hj), hC.sb⟩ k
    unfold LWL PL
    rw [show lcells (lps ++ [(nm, lpA, [])]) = lcells lps ++ [(lpA, HO.lst [])] from lcells_app, List.append_assoc]
    walk_at "lay3"
  · unfold PL at hC
    rw [hb]
    unfold t_law_tail1
    walk_at "go"
    exact tail27_ok T h ⟨tq.r, tq.s, tq.h, hq⟩ (fun Q q => s_eqST rfl q) ⟨by unfold LWL PL; walk_at "lay3", fun j hj => (by
      rcases List.mem_cons.mp hj with rfl | hj
      · exact hC.im _ (by walk_at "mem")
      · cases hj), hC.sb⟩ k
end
section
variable {K : PySem.W.Frag} {mg : Str → Option Value} {a : Adr} {vs : List V} {B H : Hp} {Q : VK} {E : XK} {L L' F : List (Addr × HO)} {I : List Im}
variable {s dd po dx cd ad cL aL : Addr} {i j l fl un tm : Int} {qr qs qh qn tb : Array Value} {codes : List (Str × V)} {aps lps : Aps} {here : Option Str} {nm x : Str} {c : V} {N Bk Ct : L2.St → Hp → Prop} {Rt : VK}
variable {v9 v10 v11 v12 v13 v14 v15 v16 v17 v18 v19 v20 v21 v22 : Option V}
theorem one_im {tb0 : Array Value} {I' : List Im} (hC : Ctx K B H L I') (hm : Im.tab (lamq "law") tb0 ∈ I') : ∀ j, j ∈ [Im.tab (lamq "law") tb0] → j.ok K H := fun j hj => by
  rcases List.mem_cons.mp hj with rfl | hj
  · exact hC.im _ hm
  · cases hj
theorem inV_sca {v : V} {xs : List V} (hv : scaB v = true) (hx : ∀ o, o ∈ xs → scaB o = true) : inV v xs = xs.any fun o => eqPy v o := by
  unfold inV
  rw [Bool.eq_iff_iff, List.any_eq_true, List.any_eq_true]
  constructor
  · rintro ⟨o, ho, z⟩; exact ⟨o, ho, by rw [← eqV_py hv (hx o ho)]; exact z⟩
  · rintro ⟨o, ho, z⟩; exact ⟨o, ho, by rw [eqV_py hv (hx o ho)]; exact z⟩
theorem s_inLF {p : Addr} {xs : List V} {v : V} (m : H p = some (.lst xs)) (hv : scaB v = true) (hx : ∀ o, o ∈ xs → scaB o = true) (q : Q (.bl (xs.any fun o => eqPy v o)) H) : rInV K v (.ref p) H Q :=
  .inl (.inl ⟨p, _, rfl, .inl (SqL.of m), sca_flat hv, List.all_eq_true.mpr fun o ho => sca_flat (hx o ho), by rw [if_neg Bool.false_ne_true, inV_sca hv hx]; exact q⟩)
theorem s_ninLF {p : Addr} {xs : List V} {v : V} (m : H p = some (.lst xs)) (hv : scaB v = true) (hx : ∀ o, o ∈ xs → scaB o = true) (q : Q (.bl (!xs.any fun o => eqPy v o)) H) : rNotInV K v (.ref p) H Q :=
  .inl (.inl ⟨p, _, rfl, .inl (SqL.of m), sca_flat hv, List.all_eq_true.mpr fun o ho => sca_flat (hx o ho), by rw [if_pos rfl, inV_sca hv hx]; exact q⟩)
theorem LInv.code (h : LInv codes aps lps here fl) (hc : c ∈ CDS) : LInv (setC codes here c) aps lps here fl := by
  cases hh : here with
  | none => subst hh; exact h
  | some z =>
    subst hh
    have hlk : ∃ w, look codes z = some w := Option.isSome_iff_exists.mp (h.ok.here z rfl)
    obtain ⟨w, hw⟩ := hlk
    have hk : (putR codes z c).map (·.1) = codes.map (·.1) := by
      unfold putR
      rw [look_any, hw, if_pos (show (some w).isSome = true from rfl), List.map_map]
      refine List.map_congr_left fun p _ => ?_
      show (if p.1 = z then (p.1, c) else p).1 = p.1
      split <;> rfl
    refine ⟨⟨hk.trans h.ok.keys, by show ((putR codes z c).map (·.1)).Nodup; rw [hk]; exact h.ok.nd, ?_, ?_, h.ok.lst, fun y hy => ?_, ?_⟩, h.same, h.fl0⟩
    · show (putR codes z c).length ≤ 4
      have := congrArg List.length hk
      rw [List.length_map, List.length_map] at this
      rw [this]; exact h.ok.len
    · intro p hp
      have : p.1 ∈ (putR codes z c).map (·.1) := List.mem_map.mpr ⟨p, hp, rfl⟩
      rw [hk] at this
      obtain ⟨r, hr, e⟩ := List.mem_map.mp this
      rw [← e]; exact h.ok.nms r hr
    · cases hy
      show (look (putR codes z c) z).isSome = true
      rw [look_put, if_pos rfl]; rfl
    · intro p hp
      rcases putR_mem hp with hp | rfl
      · exact h.ok.cds p hp
      · exact hc
theorem cds_code : ∀ c, c ∈ CDS → ([V.non, V.str "1234", V.str "99999"].any fun o => eqPy c o) = decide (c = .non ∨ c = .str "1234" ∨ c = .str "99999") := by decide +kernel
theorem if11_code (T : Txt K mg a) (h : LInv codes aps lps here fl) (tq : TQ4 qr qs qh qn) (hc : c ∈ CDS) (hc2 : c ≠ .str "77777") (hC : Ctx K B H (LWL a dd i j l cL aL lps qr qs qh qn tb po dx cd ad codes aps here fl un F) [.tab (lamq "law") tb])
    (k : ∀ σ H, WL K a B s dd po dx cd ad F σ H → N σ H) :
    t_law_if11 K a E ⟨t_law_tail27 K a E ⟨N, Rt, Bk, Ct⟩, Rt, Bk, Ct⟩ [some (.ref s), some (.ref dd), some (.ref po), some (.ref cL), some (.ref aL), some (pV here), some (.int fl), some (.int un), some (.int tm), v9, v10, v11, some c, v13, v14, v15, v16, v17, v18, v19, v20, v21, v22] H := by
  unfold t_law_if11 t_law_tail10
  unfold LWL PL at hC
  have key : ∀ {H1 : Hp} {b : Bool}, codeB here c = b → Ctx K B H1 (LWL a dd i j l cL aL lps qr qs qh qn tb po dx cd ad codes aps here fl un F) [.tab (lamq "law") tb] → (tSeq (tAsg (tLamP a.tb_law (lamq "law") (TTold2 K a.c_NameFault "NameFault" a.c_RightFault "RightFault") (fun E => (tMeth a.c_People "set_code" (sp_People_set_code K a) [] E (tVar 2) (tCons (tVar 12) tNil)))) (gName 17)) (t_law_tail9 K a E)) ⟨t_law_tail27 K a E ⟨N, Rt, Bk, Ct⟩, Rt, Bk, Ct⟩ [some (.ref s), some (.ref dd), some (.ref po), some (.ref cL), some (.ref aL), some (pV here), some (.int fl), some (.int un), some (.int tm), v9, v10, v11, some c, v13, v14, v15, some (.bl b), v17, v18, v19, v20, v21, v22] H1 := by
    intro H1 b hb hC
    unfold LWL PL at hC
    walk_at "go"
    refine c_code (aps := aps) (here := here) (fl := fl) (un := un) (codes := codes) hC (by unfold PL; walk_at "perm3") tq.s h.ok hc hc2 (fun hb2 q' H1 hq hC => ?_) (fun hb2 q' H1 hq hC => ?_)
    · obtain rfl : b = true := hb.symm.trans hb2
      unfold PL at hC
      unfold t_law_tail9
      cases here with
      | none => cases hb2
      | some z =>
        simp only [pV, setC] at hC ⊢
        walk_at "go"
        refine s_litE ?_
        walk_at "go"
        refine s_lit hC (hC.get (by walk_at "mem")) (fun p1 ts1 H2 hC => ?_)
        have hz1 : (ts1.map V.ref).length ≤ 4 := by
          have q := (hC.pr (P := fun H => Paired (fun (t : Addr) (q : Key × V) => SqT K H t [kV q.1, q.2]) ts1 (mK id codes)) (by walk_at "mem")).length
          have := h.ok.len
          unfold mK at q
          rw [List.length_map] at q ⊢
          omega
        walk_at "go"
        refine dict_snoci (l := codes) hC (hC.get (by walk_at "mem")) (hC.pr (P := fun H => Paired (fun (t : Addr) (q : Key × V) => SqT K H t [kV q.1, q.2]) ts1 (mK id codes)) (by walk_at "mem")) (hC.tup (by walk_at "mem")) h.ok.nd (fun c2 H3 hC => ?_)
        walk_at "go"
        have h2 := h.code hc
        simp only [setC] at h2
        exact tail27_ok (here := some z) T h2 ⟨tq.r, hq, tq.h, tq.n⟩ (good := true) (fun Q q => s_eqNS q) (i := i) (j := j) (l := l) (dx := dx) (cd := cd) (ad := ad) (tb := tb) (F := F) ⟨by unfold LWL PL; simp only [pV]; walk_at "lay3", one_im hC (by walk_at "mem"), hC.sb⟩ k
    · obtain rfl : b = false := hb.symm.trans hb2
      unfold PL at hC
      unfold t_law_tail9
      walk_at "go"
      exact tail27_ok T h ⟨tq.r, hq, tq.h, tq.n⟩ (good := false) (fun Q q => s_eqST rfl q) (i := i) (j := j) (l := l) (dx := dx) (cd := cd) (ad := ad) (tb := tb) (F := F) ⟨by unfold LWL PL; walk_at "lay3", one_im hC (by walk_at "mem"), hC.sb⟩ k
  cases here with
  | none =>
    refine s_seq (s_asg (s_andV (s_op (s_var rfl (s_c (s_notN_non (s_andB ?_)))))))
    refine iteF ?_
    refine s_name (by walk_at "set") ?_
    exact key rfl hC
  | some z =>
    simp only [pV] at hC ⊢
    walk_at "go"
    refine s_inLF (hC.get (by walk_at "mem")) (cds_sca c hc) (by decide +kernel) ?_
    rw [show ([V.non, V.str "1234", V.str "99999"].any fun o => eqPy c o) = codeB (some z) c from cds_code c hc]
    refine s_name (by walk_at "set") ?_
    exact key rfl ⟨by unfold LWL PL; simp only [pV]; walk_at "lay3", hC.im, hC.sb⟩
end
section
variable {K : PySem.W.Frag} {mg : Str → Option Value} {a : Adr} {vs : List V} {B H : Hp} {Q : VK} {E : XK} {L L' F : List (Addr × HO)} {I : List Im}
variable {s dd po dx cd ad cL aL : Addr} {i j l fl un tm : Int} {qr qs qh qn tb : Array Value} {codes : List (Str × V)} {aps lps : Aps} {here : Option Str} {nm x : Str} {c : V} {N Bk Ct : L2.St → Hp → Prop} {Rt : VK}
variable {v9 v10 v11 v12 v13 v14 v15 v16 v17 v18 v19 v20 v21 v22 : Option V}
theorem LInv.gone (h : LInv codes aps lps here fl) : LInv codes aps lps none fl :=
  ⟨⟨h.ok.keys, h.ok.nd, h.ok.len, h.ok.nms, h.ok.lst, (fun z hz => nomatch hz), h.ok.cds⟩, h.same, h.fl0⟩
theorem LInv.come (h : LInv codes aps lps here fl) (hk : (look codes nm).isSome = true) : LInv codes aps lps (some nm) 0 :=
  ⟨⟨h.ok.keys, h.ok.nd, h.ok.len, h.ok.nms, h.ok.lst, (fun z hz => by cases hz; exact hk), h.ok.cds⟩, h.same, Int.le_refl _⟩
theorem LInv.fld {f2 : Int} (h : LInv codes aps lps here fl) (hf : 0 ≤ f2) : LInv codes aps lps here f2 := ⟨h.ok, h.same, hf⟩
theorem if12_leave (T : Txt K mg a) (h : LInv codes aps lps here fl) (tq : TQ4 qr qs qh qn) (hC : Ctx K B H (LWL a dd i j l cL aL lps qr qs qh qn tb po dx cd ad codes aps here fl un F) [.tab (lamq "law") tb])
    (k : ∀ σ H, WL K a B s dd po dx cd ad F σ H → N σ H) :
    t_law_if12 K a E ⟨t_law_tail27 K a E ⟨N, Rt, Bk, Ct⟩, Rt, Bk, Ct⟩ [some (.ref s), some (.ref dd), some (.ref po), some (.ref cL), some (.ref aL), some (pV here), some (.int fl), some (.int un), some (.int tm), v9, v10, v11, v12, v13, v14, v15, v16, v17, v18, v19, v20, v21, v22] H := by
  unfold t_law_if12
  unfold LWL PL at hC
  walk_at "go"
  refine c_leave (aps := aps) (here := here) (fl := fl) (un := un) (codes := codes) hC (by unfold PL; walk_at "perm3") ?_
  clear hC; intro H hC
  unfold PL at hC
  simp only [pV] at hC
  walk_at "go"
  exact tail27_ok (here := none) T h.gone tq (good := true) (fun Q q => s_eqNS q) (i := i) (j := j) (l := l) (dx := dx) (cd := cd) (ad := ad) (tb := tb) (F := F) ⟨by unfold LWL PL; simp only [pV]; walk_at "lay3", one_im hC (by walk_at "mem"), hC.sb⟩ k
theorem ent_ev {σ : L2.St} (hC : Ctx K B H L I) (hm : (cL, HO.dK (mK id codes)) ∈ L) (h3 : σ[3]? = some (some (.ref cL))) (h7 : σ[7]? = some (some (.int un))) (h8 : σ[8]? = some (some (.int tm))) (h11 : σ[11]? = some (some (.str nm))) (h12 : σ[12]? = some (some c)) (hc : c ∈ CDS) (hcd : ∀ p, p ∈ codes → p.2 ∈ CDS)
    (q : ∀ lp H1, Ctx K B H1 (lp ++ L) I → Q (.bl (entB codes un nm c tm)) H1) :
    (tAndV (tOp rGe (tVar 8) (tVar 7)) (tAndV (tOp (rInV K) (tVar 11) (tVar 3)) (tOp (rInV K) (tOp (rIxU K) (tVar 3) (tVar 11)) (tLst (tCons (tC .non) (tCons (tVar 12) tNil)))))) σ H Q := by
  by_cases ht : un ≤ tm
  · have ht' : tm ≥ un := ht
    cases hlk : look codes nm with
    | none =>
      rw [show entB codes un nm c tm = false from by unfold entB; rw [hlk, Bool.and_false]] at q
      walk_at "go"
      exact q [] _ hC
    | some w =>
      have hw := hcd _ (look_some hlk)
      simp only at hw
      walk_at "go"
      refine s_inLF (hC.get (by walk_at "mem")) (cds_sca w hw) ?_ ?_
      · intro o ho
        simp only [List.mem_cons, List.not_mem_nil, or_false] at ho
        rcases ho with rfl | rfl
        · rfl
        · exact cds_sca _ hc
      · rw [show ([V.non, c].any fun o => eqPy w o) = entB codes un nm c tm from by
          unfold entB
          rw [hlk, decide_eq_true ht, Bool.true_and, List.any_cons, List.any_cons, List.any_nil, Bool.or_false, cds_ne w hw .non (by decide +kernel), cds_ne w hw c hc]
          simp [Bool.decide_or]]
        exact q [_] _ hC
  · have ht' : ¬ tm ≥ un := ht
    rw [show entB codes un nm c tm = false from by unfold entB; rw [decide_eq_false ht]; rfl] at q
    walk_at "go"
    exact q [] _ hC
theorem wro_ev {σ : L2.St} (hC : Ctx K B H L I) (hm : (cL, HO.dK (mK id codes)) ∈ L) (h3 : σ[3]? = some (some (.ref cL))) (h7 : σ[7]? = some (some (.int un))) (h8 : σ[8]? = some (some (.int tm))) (h11 : σ[11]? = some (some (.str nm))) (h12 : σ[12]? = some (some c)) (hc : c ∈ CDS) (hcd : ∀ p, p ∈ codes → p.2 ∈ CDS)
    (q : ∀ lp H1, Ctx K B H1 (lp ++ L) I → Q (.bl (wroB codes un nm c tm)) H1) :
    (tAndV (tOp rGe (tVar 8) (tVar 7)) (tAndV (tOp (rInV K) (tVar 11) (tVar 3)) (tOp (rNotInV K) (tOp (rIxU K) (tVar 3) (tVar 11)) (tLst (tCons (tC .non) (tCons (tVar 12) tNil)))))) σ H Q := by
  by_cases ht : un ≤ tm
  · have ht' : tm ≥ un := ht
    cases hlk : look codes nm with
    | none =>
      rw [show wroB codes un nm c tm = false from by unfold wroB; rw [hlk, Bool.and_false]] at q
      walk_at "go"
      exact q [] _ hC
    | some w =>
      have hw := hcd _ (look_some hlk)
      simp only at hw
      walk_at "go"
      refine s_ninLF (hC.get (by walk_at "mem")) (cds_sca w hw) ?_ ?_
      · intro o ho
        simp only [List.mem_cons, List.not_mem_nil, or_false] at ho
        rcases ho with rfl | rfl
        · rfl
        · exact cds_sca _ hc
      · rw [show (![V.non, c].any fun o => eqPy w o) = wroB codes un nm c tm from by
          unfold wroB
          rw [hlk, decide_eq_true ht, Bool.true_and, List.any_cons, List.any_cons, List.any_nil, Bool.or_false, cds_ne w hw .non (by decide +kernel), cds_ne w hw c hc]
          simp [Bool.decide_or]]
        exact q [_] _ hC
  · have ht' : ¬ tm ≥ un := ht
    rw [show wroB codes un nm c tm = false from by unfold wroB; rw [decide_eq_false ht]; rfl] at q
    walk_at "go"
    exact q [] _ hC
end
section
variable {K : PySem.W.Frag} {mg : Str → Option Value} {a : Adr} {vs : List V} {B H : Hp} {Q : VK} {E : XK} {L L' F : List (Addr × HO)} {I : List Im}
variable {s dd po dx cd ad cL aL : Addr} {i j l fl un tm : Int} {qr qs qh qn tb : Array Value} {codes : List (Str × V)} {aps lps : Aps} {here : Option Str} {nm x : Str} {c : V} {N Bk Ct : L2.St → Hp → Prop} {Rt : VK}
variable {v9 v10 v11 v12 v13 v14 v15 v16 v17 v18 v19 v20 v21 v22 : Option V}
theorem ent_not (h : entB codes un nm c tm = true) : wroB codes un nm c tm = false := by
  unfold entB at h
  unfold wroB
  rw [Bool.and_eq_true] at h
  cases hlk : look codes nm with
  | none => rw [Bool.and_false]
  | some w =>
    rw [hlk] at h
    show (decide (un ≤ tm) && !decide (w = .non ∨ w = c)) = false
    rw [show decide (w = .non ∨ w = c) = true from h.2]
    simp
theorem ent_in (h : entB codes un nm c tm = true) : (look codes nm).isSome = true := by
  unfold entB at h
  cases hlk : look codes nm with
  | none => rw [hlk, Bool.and_false] at h; cases h
  | some w => rfl
theorem waits {f : Int} (h5 : 5 ≤ f) : ∃ (k : Nat) (w : Int), mnI (f - 5) 6 = (k : Int) ∧ k ≤ 6 ∧ ([.int 1, .int 2, .int 4, .int 8, .int 16, .int 32, .int 64] : List V)[k]? = some (.int w) ∧ 30 * w = waitI f ∧ 0 ≤ w ∧ w ≤ 64 := by
  have hmn : mnI (f - 5) 6 = min (f - 5) 6 := by unfold mnI; split <;> omega
  obtain ⟨k, hk, hk6⟩ : ∃ k : Nat, min (f - 5) 6 = (k : Int) ∧ k ≤ 6 := ⟨(min (f - 5) 6).toNat, by omega, by omega⟩
  have hk7 : k = 0 ∨ k = 1 ∨ k = 2 ∨ k = 3 ∨ k = 4 ∨ k = 5 ∨ k = 6 := by omega
  refine ⟨k, 2 ^ k, hmn.trans hk, hk6, ?_, (waitI_at hk).symm, ?_, ?_⟩
  · rcases hk7 with rfl | rfl | rfl | rfl | rfl | rfl | rfl <;> rfl
  · rcases hk7 with rfl | rfl | rfl | rfl | rfl | rfl | rfl <;> decide
  · rcases hk7 with rfl | rfl | rfl | rfl | rfl | rfl | rfl <;> decide
theorem tail13_ok (T : Txt K mg a) {wr : Bool} {un2 : Int} (hu : (if wr = true ∧ 5 ≤ fl then tm + waitI fl else un) = un2) {L : List (Addr × HO)} (hC : Ctx K B H L I)
    (k : ∀ lp H1, Ctx K B H1 (lp ++ L) I → N [some (.ref s), some (.ref dd), some (.ref po), some (.ref cL), some (.ref aL), some (pV here), some (.int fl), some (.int un2), some (.int tm), v9, v10, v11, v12, v13, v14, v15, v16, v17, v18, v19, v20, some (.bl wr), v22] H1) :
    t_law_tail13 K a E ⟨N, Rt, Bk, Ct⟩ [some (.ref s), some (.ref dd), some (.ref po), some (.ref cL), some (.ref aL), some (pV here), some (.int fl), some (.int un), some (.int tm), v9, v10, v11, v12, v13, v14, v15, v16, v17, v18, v19, v20, some (.bl wr), v22] H := by
  subst hu
  unfold t_law_tail13
  cases wr with
  | false =>
    simp only [Bool.false_eq_true, false_and, if_false] at k
    walk_at "go"
    exact k [] _ hC
  | true =>
    by_cases h5 : 5 ≤ fl
    · have h5' : fl ≥ 5 := h5
      simp only [h5, true_and, if_true] at k
      walk_at "go"
      obtain ⟨n, w, hn, hn6, hw, hw2, w0, w1⟩ := waits h5
      rw [hn]
      refine s_ixL (hC.get (by walk_at "mem")) (atI_nat hw) ?_
      walk_at "go"
      rw [hw2]
      exact k [_] _ hC
    · have h5' : ¬ fl ≥ 5 := h5
      simp only [h5, true_and, if_false] at k
      walk_at "go"
      exact k [] _ hC
theorem if17_enter (T : Txt K mg a) (h : LInv codes aps lps here fl) (tq : TQ4 qr qs qh qn) (hc : c ∈ CDS) (hC : Ctx K B H (LWL a dd i j l cL aL lps qr qs qh qn tb po dx cd ad codes aps here fl un F) [.tab (lamq "law") tb])
    (k : ∀ σ H, WL K a B s dd po dx cd ad F σ H → N σ H) :
    t_law_if17 K a E ⟨t_law_tail27 K a E ⟨N, Rt, Bk, Ct⟩, Rt, Bk, Ct⟩ [some (.ref s), some (.ref dd), some (.ref po), some (.ref cL), some (.ref aL), some (pV here), some (.int fl), some (.int un), some (.int tm), v9, v10, some (.str nm), some c, v13, v14, v15, v16, v17, v18, v19, v20, v21, v22] H := by
  unfold t_law_if17 t_law_tail16
  refine s_seq (s_asg ?_)
  refine ent_ev (cL := cL) hC (by unfold LWL; walk_at "mem") rfl rfl rfl rfl rfl hc h.ok.cds (fun lp H1 hC => ?_)
  replace hC : Ctx K B H1 (LWL a dd i j l cL aL lps qr qs qh qn tb po dx cd ad codes aps here fl un F) [.tab (lamq "law") tb] := ⟨hC.lay.subl (List.sublist_append_right _ _), hC.im, hC.sb⟩
  refine s_name (by walk_at "set") ?_
  refine s_seq (s_asg ?_)
  refine wro_ev (cL := cL) hC (by unfold LWL; walk_at "mem") rfl rfl rfl rfl rfl hc h.ok.cds (fun lp H1 hC => ?_)
  replace hC : Ctx K B H1 (LWL a dd i j l cL aL lps qr qs qh qn tb po dx cd ad codes aps here fl un F) [.tab (lamq "law") tb] := ⟨hC.lay.subl (List.sublist_append_right _ _), hC.im, hC.sb⟩
  refine s_name (by walk_at "set") ?_
  unfold t_law_tail15
  unfold LWL PL at hC
  walk_at "go"
  refine c_enter (aps := aps) (here := here) (fl := fl) (un := un) (codes := codes) hC (by unfold PL; walk_at "perm3") h.ok hc h.fl0 (fun hb H1 hC => ?_) (fun hb H1 hC => ?_)
  · unfold PL at hC
    have hw := ent_not hb
    rw [hb, hw]
    unfold t_law_tail14
    walk_at "go"
    refine tail13_ok (here := some nm) (fl := 0) (un := un) (un2 := un) T (by simp) hC (fun lp2 H2 hC => ?_)
    exact tail27_ok (here := some nm) (fl := 0) T (h.come (ent_in hb)) tq (good := true) (fun Q q => s_eqNS q) (i := i) (j := j) (l := l) (dx := dx) (cd := cd) (ad := ad) (tb := tb) (F := F) ⟨by unfold LWL PL; walk_at "lay3", one_im hC (by walk_at "mem"), hC.sb⟩ k
  · unfold PL at hC
    rw [hb]
    unfold t_law_tail14
    have hf0 := h.fl0
    cases hw : wroB codes un nm c tm with
    | false =>
      simp only [entF, entU, hw, Bool.false_eq_true, if_false, false_and] at hC
      walk_at "go"
      rw [Int.add_zero]
      refine tail13_ok (here := here) (fl := fl) (un := un) (un2 := un) T (by simp) hC (fun lp2 H2 hC => ?_)
      exact tail27_ok (here := here) T h tq (good := false) (fun Q q => s_eqST rfl q) (i := i) (j := j) (l := l) (dx := dx) (cd := cd) (ad := ad) (tb := tb) (F := F) ⟨by unfold LWL PL; walk_at "lay3", one_im hC (by walk_at "mem"), hC.sb⟩ k
    | true =>
      simp only [entF, entU, hw, if_true, true_and] at hC
      walk_at "go"
      refine tail13_ok (here := here) (fl := fl + 1) (un := un) (un2 := if 5 ≤ fl + 1 then tm + waitI (fl + 1) else un) T (by simp) hC (fun lp2 H2 hC => ?_)
      exact tail27_ok (here := here) (fl := fl + 1) T (h.fld (by omega)) tq (good := false) (fun Q q => s_eqST rfl q) (i := i) (j := j) (l := l) (dx := dx) (cd := cd) (ad := ad) (tb := tb) (F := F) ⟨by unfold LWL PL; walk_at "lay3", one_im hC (by walk_at "mem"), hC.sb⟩ k
end
section
variable {K : PySem.W.Frag} {mg : Str → Option Value} {a : Adr} {vs : List V} {B H : Hp} {Q : VK} {E : XK} {L L' F : List (Addr × HO)} {I : List Im}
variable {s dd po dx cd ad cL aL : Addr} {i j l fl un tm : Int} {qr qs qh qn tb : Array Value} {codes : List (Str × V)} {aps lps : Aps} {here : Option Str} {nm x : Str} {c : V} {N Bk Ct : L2.St → Hp → Prop} {Rt : VK}
variable {v9 v10 v11 v12 v13 v14 v15 v16 v17 v18 v19 v20 v21 v22 : Option V}
abbrev fR : Addr × List Str → V := fun p => V.ref p.1
theorem mapL {σ : L2.St} {d : Addr} {td : TE} {g : TG} {tt : TT} {te : TE} {vs : List Nat} (G : Str × (Addr × List Str) → List Str) (htd : ∀ H Q, Q (.ref d) H → td σ H Q) (hC : Ctx K B H L I) (m : Pick (d, .dK (mK fR lps)) L L') (hz : lps.length ≤ 1000)
    (turn : ∀ (i : Nat) e H1 M od (Zy : VK) (Zn : Hp → Prop), lps[i]? = some e → Ctx K H1 H1 (M ++ L') (imFz d od (.dK (mK fR lps)) :: I) →
      (∀ H2 tp u J', Ctx K H1 H2 ((u, .lst ((G e).map V.str)) :: (M ++ L')) J' → (∀ j, j ∈ imFz d od (.dK (mK fR lps)) :: I → j ∈ J') → SqT K H2 tp [.str e.1, .ref u] → Zy (.ref tp) H2) →
      g (.str e.1) (wipe σ vs) H1 fun σ2 H2 => wipe σ2 vs = wipe σ vs ∧ tt σ2 H2 fun b H3 => if b = true then te σ2 H3 Zy else Zn H3)
    (k : ∀ H' D ps us, us.map (fun e => (e.1, e.2.2)) = lps.map (fun e => (e.1, G e)) → Ctx K B H' ((d, .dK (mK fR lps)) :: (D, .lst (ps.map V.ref)) :: (lcells us ++ L')) (imPs K ps (mK fR us) :: I) → Q (.ref D) H') :
    tLockE (tLc (iKeys td) g tt te vs) σ H Q := by
  have hC0 := hC
  refine s_lockE hC m trivial (fun od H1 s1 hC => ?_)
  refine s_lc (s_keys (htd _ _ (s_keysK (hC.frz List.mem_cons_self) ?_)))
  refine lc_w (walk_keysE (es := lps) (kk := fun q => Sum.inr q.1) (vf := fun q => fR q.2) rfl) hC (fun D i H2 => ∃ ps us, us.map (fun e => (e.1, e.2.2)) = (lps.take i).map (fun e => (e.1, G e)) ∧ Ctx K H1 H2 ((D, .lst (ps.map V.ref)) :: (lcells us ++ L')) (imPs K ps (mK fR us) :: imFz d od (.dK (mK fR lps)) :: I)) (fun D H2 hC => ⟨[], [], rfl, hC.add (i := imPs K [] []) .nil⟩) (fun D i H2 _ ⟨ps, us, _, hC⟩ => hC.frz (List.mem_cons_of_mem _ List.mem_cons_self)) ?_ ?_
  · rintro ix y D H2 H3 hi ⟨ps, us, hu, hC⟩ hy
    obtain ⟨rfl, e, he, rfl⟩ := ye hy
    have hP := hC.pr (P := fun H => Paired (fun (t : Addr) (q : Key × V) => SqT K H t [kV q.1, q.2]) ps (mK fR us)) List.mem_cons_self
    have hl : ps.length ≤ 1000 := by
      have q := hP.length
      unfold mK at q
      rw [List.length_map] at q
      have q2 := congrArg List.length hu
      rw [List.length_map, List.length_map, List.length_take] at q2
      omega
    have hC1 := hC.rebase
    refine turn ix e _ ((D, .lst (ps.map V.ref)) :: lcells us) od _ _ he ⟨hC1.lay, fun j hj => hC1.im j (List.mem_cons_of_mem _ hj), hC1.sb⟩ (fun H4 tp u J' hC2 hs ht => ?_)
    have hC3 : Ctx K H1 H4 ((D, .lst (ps.map V.ref)) :: (lcells (us ++ [(e.1, u, G e)]) ++ L')) (imPs K (ps ++ [tp]) (mK fR (us ++ [(e.1, u, G e)])) :: imFz d od (.dK (mK fR lps)) :: I) := ⟨by
        rw [show lcells (us ++ [(e.1, u, G e)]) = lcells us ++ [(u, HO.lst ((G e).map V.str))] from lcells_app, List.append_assoc]
        refine hC2.lay.perm ?_
        exact (List.Perm.swap _ _ _).trans (List.Perm.cons _ List.perm_middle.symm), fun j hj => by
        rcases List.mem_cons.mp hj with rfl | hj
        · show Paired (fun (t : Addr) (q : Key × V) => SqT K H4 t [kV q.1, q.2]) (ps ++ [tp]) (mK fR (us ++ [(e.1, u, G e)]))
          rw [show mK fR (us ++ [(e.1, u, G e)]) = mK fR us ++ [(.inr e.1, .ref u)] from List.map_append]
          exact Ph.Paired.snoc (y := ((.inr e.1, .ref u) : Key × V)) (pairedImp (fun _ _ z => hC2.sb.sqt z) hP) ht
        · exact hC2.im j (hs j hj), hC.sb.trans hC2.sb⟩
    refine s_app (acc := ps.map V.ref) hC3 (hC3.get List.mem_cons_self) (by rw [List.length_map]; omega) .here (fun H5 hC5 => ⟨ps ++ [tp], us ++ [(e.1, u, G e)], ?_, ?_⟩)
    · rw [take_snoc he, List.map_append, List.map_append, hu]; rfl
    · rw [List.map_append]; exact hC5
  · rintro D H2 ⟨ps, us, hu, hC⟩
    rw [List.take_length] at hu
    have f := hC.frz (d := d) (od := od) (u := .dK (mK fR lps)) (List.mem_cons_of_mem _ List.mem_cons_self)
    have hP := hC.pr (P := fun H => Paired (fun (t : Addr) (q : Key × V) => SqT K H t [kV q.1, q.2]) ps (mK fR us)) List.mem_cons_self
    refine s_unlE hC0 m s1 hC f (fun hC => ?_)
    exact k _ D ps us hu (hC.add (i := imPs K ps (mK fR us)) (pairedImp (fun _ _ z => sqt_unl f z) hP))
theorem setA_same {f : List Str → List Str} (h : LInv codes aps lps here fl) {us : Aps} (hu : us.map (fun e => (e.1, e.2.2)) = lps.map (fun e => (e.1, if some e.1 = here then f e.2.2 else e.2.2)))
    (hf : ∀ xs : List Str, xs.Nodup → (∀ x, x ∈ xs → x = "x" ∨ x = "y") → (f xs).Nodup ∧ ∀ x, x ∈ f xs → x = "x" ∨ x = "y") : LInv codes (setA aps here f) us here fl := by
  refine ⟨⟨by rw [setA_keys]; exact h.ok.keys, h.ok.nd, h.ok.len, h.ok.nms, fun e he => ?_, h.ok.here, h.ok.cds⟩, ?_, h.fl0⟩
  · unfold setA at he
    obtain ⟨e0, he0, rfl⟩ := List.mem_map.mp he
    have := h.ok.lst e0 he0
    split
    · exact hf _ this.1 this.2
    · exact this
  · rw [hu]
    have e1 : lps.map (fun e => (e.1, if some e.1 = here then f e.2.2 else e.2.2)) = (lps.map fun e => (e.1, e.2.2)).map (fun e => (e.1, if some e.1 = here then f e.2 else e.2)) := by rw [List.map_map]; rfl
    rw [e1, h.same, List.map_map]
    unfold setA
    rw [List.map_map]
    refine List.map_congr_left fun e _ => ?_
    show (e.1, if some e.1 = here then f e.2.2 else e.2.2) = ((if some e.1 = here then (e.1, e.2.1, f e.2.2) else e).1, (if some e.1 = here then (e.1, e.2.1, f e.2.2) else e).2.2)
    split <;> rfl
theorem give_ok (hx : x = "x" ∨ x = "y") : ∀ xs : List Str, xs.Nodup → (∀ x, x ∈ xs → x = "x" ∨ x = "y") → (giveL x xs).Nodup ∧ ∀ z, z ∈ giveL x xs → z = "x" ∨ z = "y" := by
  intro xs nd h
  unfold giveL
  by_cases c : x ∈ xs
  · rw [if_pos c]; exact ⟨nd, h⟩
  · rw [if_neg c]
    refine ⟨List.nodup_append.mpr ⟨nd, by simp, fun a ha b hb z => ?_⟩, fun z hz => ?_⟩
    · rw [List.mem_singleton] at hb
      exact c (hb ▸ z ▸ ha)
    · rcases List.mem_append.mp hz with hz | hz
      · exact h z hz
      · rw [List.mem_singleton.mp hz]; exact hx
theorem take_ok : ∀ xs : List Str, xs.Nodup → (∀ x, x ∈ xs → x = "x" ∨ x = "y") → (takeL x xs).Nodup ∧ ∀ z, z ∈ takeL x xs → z = "x" ∨ z = "y" :=
  fun xs nd h => ⟨nd.sublist List.filter_sublist, fun z hz => h z (List.mem_filter.mp hz).1⟩
end
section
variable {K : PySem.W.Frag} {mg : Str → Option Value} {a : Adr} {vs : List V} {B H : Hp} {Q : VK} {E : XK} {L L' F : List (Addr × HO)} {I : List Im}
variable {s dd po dx cd ad cL aL : Addr} {i j l fl un tm : Int} {qr qs qh qn tb : Array Value} {codes : List (Str × V)} {aps lps : Aps} {here : Option Str} {nm x : Str} {c : V} {N Bk Ct : L2.St → Hp → Prop} {Rt : VK}
variable {v9 v10 v11 v12 v13 v14 v15 v16 v17 v18 v19 v20 v21 v22 : Option V}
theorem s_ninLS {d : Addr} {ys : List Str} (m : H d = some (.lst (ys.map V.str))) (q : Q (.bl (!decide (x ∈ ys))) H) : rNotInV K (.str x) (.ref d) H Q :=
  .inl (.inl ⟨d, _, rfl, .inl (SqL.of m), rfl, by rw [List.all_map]; exact List.all_eq_true.mpr fun _ _ => rfl, by rw [if_pos rfl, inV_strs]; exact q⟩)
theorem tail18_ok2 (T : Txt K mg a) (h : LInv codes aps lps here fl) (hx : x = "x" ∨ x = "y") (hC : Ctx K B H ((aL, .dK (mK fR lps)) :: (lcells lps ++ F)) I)
    (k : ∀ H1 a2 us I1, us.map (fun e => (e.1, e.2.2)) = lps.map (fun e => (e.1, if some e.1 = here then giveL x e.2.2 else e.2.2)) → Ctx K B H1 ((a2, .dK (mK fR us)) :: (lcells us ++ F)) I1 → (∀ j, j ∈ I → j ∈ I1) → N [some (.ref s), some (.ref dd), some (.ref po), some (.ref cL), some (.ref a2), some (pV here), some (.int fl), some (.int un), some (.int tm), v9, v10, v11, v12, some (.str x), v14, v15, v16, v17, v18, v19, v20, v21, v22] H1) :
    t_law_tail18 K a E ⟨N, Rt, Bk, Ct⟩ [some (.ref s), some (.ref dd), some (.ref po), some (.ref cL), some (.ref aL), some (pV here), some (.int fl), some (.int un), some (.int tm), v9, v10, v11, v12, some (.str x), v14, v15, v16, v17, v18, v19, v20, v21, v22] H := by
  have hll := h.len
  unfold t_law_tail18
  refine s_asg (s_cb (s_cons ?_))
  refine mapL (lps := lps) (fun e => if some e.1 = here then giveL x e.2.2 else e.2.2) (fun H Q q => s_var rfl q) hC (by walk_at "pick") (by omega) (fun ix e H1 M od Zy Zn he hC hy => ?_) (fun H1 D ps us hu hC => ?_)
  · have hm := lget hC (fun c hc => by simp [hc]) (List.mem_of_getElem? he)
    have hem := List.mem_of_getElem? he
    have hlk : look lps e.1 = some e.2 := look_of_mem h.nd hem
    have hsz : (e.2.2.map V.str).length ≤ 2 := by
      have q : (e.1, e.2.2) ∈ aps.map fun e => (e.1, e.2.2) := by rw [← h.same]; exact List.mem_map.mpr ⟨e, hem, rfl⟩
      obtain ⟨e0, he0, q⟩ := List.mem_map.mp q
      injection q with _ q2
      have := two_len (h.ok.lst e0 he0).1 (h.ok.lst e0 he0).2
      rw [List.length_map, ← q2]; exact this
    rw [lcells_mid he] at hC
    simp only [wipe, List.set_cons_zero, List.set_cons_succ]
    have fin : ∀ {H2 : Hp} {u tp : Addr} {J : List Im} {L2 : List (Addr × HO)} {zs : List V}, Ctx K H1 H2 L2 J → (zs = (if some e.1 = here then giveL x e.2.2 else e.2.2).map V.str) → Lay H2 ((u, .lst zs) :: (M ++ (lcells (lps.take ix) ++ (e.2.1, HO.lst (e.2.2.map V.str)) :: (lcells (lps.drop (ix + 1)) ++ F)))) → (∀ j, j ∈ imFz aL od (.dK (mK fR lps)) :: I → j ∈ J) → Im.tup tp [.str e.1, .ref u] ∈ J → Zy (.ref tp) H2 := by
      intro H2 u tp J L2 zs hC hz hl hs ht
      refine hy _ tp u J ⟨?_, hC.im, hC.sb⟩ hs (hC.tup ht)
      rw [lcells_mid he, ← hz]
      exact hl
    cases here with
    | none =>
      simp only [pV]
      walk_at "go"
      refine ⟨rfl, ?_⟩
      walk_at "go"
      refine s_ixKF (hC.frz (by walk_at "mem")) hlk ?_
      walk_at "go"
      exact fin (zs := e.2.2.map V.str ++ []) hC (by simp) (by walk_at "lay3") (fun j hj => by walk_at "mem") (by walk_at "mem")
    | some z =>
      simp only [pV]
      walk_at "go"
      refine ⟨rfl, ?_⟩
      walk_at "go"
      refine s_ixKF (hC.frz (by walk_at "mem")) hlk ?_
      by_cases hz : e.1 = z
      · subst hz
        walk_at "go"
        refine s_ixKF (hC.frz (by walk_at "mem")) hlk ?_
        refine s_ninLS (hC.get (by walk_at "mem")) ?_
        by_cases hxe : x ∈ e.2.2
        · rw [show (!decide (x ∈ e.2.2)) = false from by simp [hxe]]
          walk_at "go"
          exact fin (zs := e.2.2.map V.str ++ []) hC (by simp [giveL, hxe]) (by walk_at "lay3") (fun j hj => by walk_at "mem") (by walk_at "mem")
        · rw [show (!decide (x ∈ e.2.2)) = true from by simp [hxe]]
          walk_at "go"
          exact fin (zs := e.2.2.map V.str ++ [.str x]) hC (by simp [giveL, hxe]) (by walk_at "lay3") (fun j hj => by walk_at "mem") (by walk_at "mem")
      · walk_at "all"
        exact fin (zs := e.2.2.map V.str ++ []) hC (by simp [hz]) (by walk_at "lay3") (fun j hj => by walk_at "mem") (by walk_at "mem")
  · have hP := hC.pr (P := fun H => Paired (fun (t : Addr) (q : Key × V) => SqT K H t [kV q.1, q.2]) ps (mK fR us)) List.mem_cons_self
    have hk : us.map (·.1) = lps.map (·.1) := by
      have := congrArg (List.map fun x : Str × List Str => x.1) hu
      rw [List.map_map, List.map_map] at this
      exact this
    walk_at "go"
    refine s_dictP (f := fR) (l := us) hC (hC.get (by walk_at "mem")) hP (by rw [hk]; exact h.nd) ?_
    clear hC; intro a2 H hC
    refine s_name (by walk_at "set") ?_
    walk_at "go"
    exact k _ a2 us _ hu ⟨by walk_at "lay3", hC.im, hC.sb⟩ (fun j hj => List.mem_cons_of_mem _ hj)
theorem if20_give (T : Txt K mg a) (h : LInv codes aps lps here fl) (tq : TQ4 qr qs qh qn) (hx : x = "x" ∨ x = "y") (hC : Ctx K B H (LWL a dd i j l cL aL lps qr qs qh qn tb po dx cd ad codes aps here fl un F) [.tab (lamq "law") tb])
    (k : ∀ σ H, WL K a B s dd po dx cd ad F σ H → N σ H) :
    t_law_if20 K a E ⟨t_law_tail27 K a E ⟨N, Rt, Bk, Ct⟩, Rt, Bk, Ct⟩ [some (.ref s), some (.ref dd), some (.ref po), some (.ref cL), some (.ref aL), some (pV here), some (.int fl), some (.int un), some (.int tm), v9, v10, v11, v12, some (.str x), v14, v15, v16, v17, v18, v19, v20, v21, v22] H := by
  unfold t_law_if20 t_law_tail19
  unfold LWL PL at hC
  have ev : ∀ {σ : L2.St} {Q : VK}, σ[5]? = some (some (pV here)) → Q (.bl here.isSome) H → tOp rNotN (tVar 5) (tC .non) σ H Q := by
    intro σ Q h5 q
    cases here with
    | none => exact s_op (s_var h5 (s_c (s_notN_non q)))
    | some z => exact s_op (s_var h5 (s_c (s_notN_str q)))
  refine s_seq (s_asg (ev rfl ?_))
  walk_at "go"
  refine c_give (aps := aps) (here := here) (fl := fl) (un := un) (codes := codes) hC (by unfold PL; walk_at "perm3") h.ok hx (fun hb H1 hC => ?_) (fun hb H1 hC => ?_)
  · unfold PL at hC
    rw [hb]
    walk_at "go"
    refine tail18_ok2 (lps := lps) (here := here) (F := (dd, .lst [.int i, .int j, .int l]) :: (cL, .dK (mK id codes)) :: (a.tb_People_remove, .tbl qr) :: (a.tb_People_set_code, .tbl qs) :: (a.tb_People_has_app, .tbl qh) :: (a.tb_check_name, .tbl qn) :: (a.tb_law, .tbl tb) :: PL a po dx cd ad codes (setA aps here (giveL x)) here fl un F) T h hx ⟨by unfold PL; walk_at "lay3", hC.im, hC.sb⟩ (fun H2 a2 us I1 hu hC2 hs => ?_)
    unfold PL at hC2
    have hC := hC2
    exact tail27_ok (here := here) T (setA_same h hu (give_ok hx)) tq (good := true) (fun Q q => s_eqNS q) (i := i) (j := j) (l := l) (dx := dx) (cd := cd) (ad := ad) (tb := tb) (F := F) ⟨by unfold LWL PL; walk_at "lay3", one_im hC (hs _ (by walk_at "mem")), hC.sb⟩ k
  · unfold PL at hC
    rw [hb]
    have hn : here = none := by
      cases here with
      | none => rfl
      | some z => cases hb
    walk_at "go"
    refine tail18_ok2 (lps := lps) (here := here) (F := (dd, .lst [.int i, .int j, .int l]) :: (cL, .dK (mK id codes)) :: (a.tb_People_remove, .tbl qr) :: (a.tb_People_set_code, .tbl qs) :: (a.tb_People_has_app, .tbl qh) :: (a.tb_check_name, .tbl qn) :: (a.tb_law, .tbl tb) :: PL a po dx cd ad codes aps here fl un F) T h hx ⟨by unfold PL; walk_at "lay3", hC.im, hC.sb⟩ (fun H2 a2 us I1 hu hC2 hs => ?_)
    unfold PL at hC2
    have hC := hC2
    have hu2 : us.map (fun e => (e.1, e.2.2)) = aps.map (fun e => (e.1, e.2.2)) := by
      rw [hu, hn, ← h.same]
      refine List.map_congr_left fun e _ => ?_
      simp
    exact tail27_ok (here := here) T ⟨h.ok, hu2, h.fl0⟩ tq (good := false) (fun Q q => s_eqST rfl q) (i := i) (j := j) (l := l) (dx := dx) (cd := cd) (ad := ad) (tb := tb) (F := F) ⟨by unfold LWL PL; walk_at "lay3", one_im hC (hs _ (by walk_at "mem")), hC.sb⟩ k
end
section
variable {K : PySem.W.Frag} {mg : Str → Option Value} {a : Adr} {vs : List V} {B H : Hp} {Q : VK} {E : XK} {L L' F : List (Addr × HO)} {I : List Im}
variable {s dd po dx cd ad cL aL : Addr} {i j l fl un tm : Int} {qr qs qh qn tb : Array Value} {codes : List (Str × V)} {aps lps : Aps} {here : Option Str} {nm x : Str} {c : V} {N Bk Ct : L2.St → Hp → Prop} {Rt : VK}
variable {v9 v10 v11 v12 v13 v14 v15 v16 v17 v18 v19 v20 v21 v22 : Option V}
theorem s_eqBS {b : Bool} (q : Q (.bl false) H) : rEqU K (.bl b) (.str "RightFault") H Q :=
  s_eqV (v := .bl b) (o := .str "RightFault") rfl (by decide +kernel) (by rw [show eqPy (.bl b) (.str "RightFault") = false from by simp [eqPy, dV, PyData.eqv]]; exact q)
theorem names_eq {D e0 : Addr} (h : LInv codes aps lps here fl) (m1 : H D = some (.lst ((lps.filter fun e => decide (x ∈ e.2.2)).map fun e => V.str e.1))) (m2 : H e0 = some (.lst [])) (k : Q (.bl (!hasB aps x)) H) : rEqU K (.ref D) (.ref e0) H Q := by
  refine s_eqSS (ns := (lps.filter fun e => decide (x ∈ e.2.2)).map (·.1)) (ms := []) (by rw [List.map_map]; exact m1) m2 ?_ (fun x hx => nomatch hx) ?_
  · intro y hy
    obtain ⟨e, he, rfl⟩ := List.mem_map.mp hy
    have : e.1 ∈ lps.map (·.1) := List.mem_map.mpr ⟨e, (List.mem_filter.mp he).1, rfl⟩
    rw [h.keys, ← h.ok.keys] at this
    obtain ⟨r, hr, z⟩ := List.mem_map.mp this
    rw [← z]
    exact pnm_str _ (h.ok.nms r hr)
  · have e : decide ((lps.filter fun e => decide (x ∈ e.2.2)).map (·.1) = []) = !hasB aps x := by
      rw [← h.has]
      cases hf : lps.filter fun e => decide (x ∈ e.2.2) with
      | nil =>
        have : (lps.any fun e => decide (x ∈ e.2.2)) = false := by
          rw [List.any_eq_false]
          intro e he z
          have : e ∈ lps.filter fun e => decide (x ∈ e.2.2) := List.mem_filter.mpr ⟨he, z⟩
          rw [hf] at this; cases this
        rw [this]; rfl
      | cons e r =>
        have : e ∈ lps.filter fun e => decide (x ∈ e.2.2) := by rw [hf]; exact List.mem_cons_self
        have := List.mem_filter.mp this
        rw [show (lps.any fun e => decide (x ∈ e.2.2)) = true from List.any_eq_true.mpr ⟨e, this.1, this.2⟩]; rfl
    rw [e]; exact k
theorem tail22_ok2 (T : Txt K mg a) {good : Bool} (h : LInv codes aps lps here fl) (hg : good = true → ∃ z, here = some z) (hC : Ctx K B H ((aL, .dK (mK fR lps)) :: (lcells lps ++ F)) I)
    (k : ∀ H1 a2 us I1, us.map (fun e => (e.1, e.2.2)) = lps.map (fun e => (e.1, if good = true ∧ some e.1 = here then takeL x e.2.2 else e.2.2)) → Ctx K B H1 ((a2, .dK (mK fR us)) :: (lcells us ++ F)) I1 → (∀ j, j ∈ I → j ∈ I1) → t_law_tail21 K a E ⟨N, Rt, Bk, Ct⟩ [some (.ref s), some (.ref dd), some (.ref po), some (.ref cL), some (.ref a2), some (pV here), some (.int fl), some (.int un), some (.int tm), v9, v10, v11, v12, some (.str x), v14, v15, some (.bl good), v17, v18, v19, v20, v21, v22] H1) :
    t_law_tail22 K a E ⟨N, Rt, Bk, Ct⟩ [some (.ref s), some (.ref dd), some (.ref po), some (.ref cL), some (.ref aL), some (pV here), some (.int fl), some (.int un), some (.int tm), v9, v10, v11, v12, some (.str x), v14, v15, some (.bl good), v17, v18, v19, v20, v21, v22] H := by
  have hll := h.len
  unfold t_law_tail22
  refine s_seq (s_asg (s_cb (s_cons ?_)))
  refine mapL (lps := lps) (fun e => if good = true ∧ some e.1 = here then takeL x e.2.2 else e.2.2) (fun H Q q => s_var rfl q) hC (by walk_at "pick") (by omega) (fun ix e H1 M od Zy Zn he hC hy => ?_) (fun H1 D ps us hu hC => ?_)
  · have hem := List.mem_of_getElem? he
    have hlk : look lps e.1 = some e.2 := look_of_mem h.nd hem
    have hsz : e.2.2.length ≤ 2 := by
      have q : (e.1, e.2.2) ∈ aps.map fun e => (e.1, e.2.2) := by rw [← h.same]; exact List.mem_map.mpr ⟨e, hem, rfl⟩
      obtain ⟨e0, he0, q⟩ := List.mem_map.mp q
      injection q with _ q2
      have := two_len (h.ok.lst e0 he0).1 (h.ok.lst e0 he0).2
      rw [← q2]; exact this
    have hcb : ∀ c, c ∈ lcells lps → c ∈ M ++ (lcells lps ++ F) := fun c hc => by simp [hc]
    simp only [wipe, List.set_cons_zero, List.set_cons_succ]
    walk_at "go"
    refine ⟨rfl, ?_⟩
    walk_at "go"
    refine s_ixKF (hC.frz (by walk_at "mem")) hlk ?_
    show kIl K _ (.ref e.2.1) _
    refine s_ilV (lget hC hcb hem) ?_
    refine lc_pick (es := e.2.2) (kf := V.str) (walk_lstE (xs := e.2.2.map V.str) (es := e.2.2) (kf := V.str) rfl) (fun r => !(good && decide (some e.1 = here)) || decide (r ≠ x)) (fun r => V.str r) (by omega) (fun H1 y hC => SqL.of (lget hC (fun c hc => List.mem_cons_of_mem _ (hcb c hc)) hem)) hC (fun i0 r H2 D vr Zy2 Zn2 hr hC hy2 hn2 => ?_) (fun H2 D hC => ?_)
    · simp only [wipe, List.set_cons_zero, List.set_cons_succ]
      walk_at "go"
      refine ⟨rfl, ?_⟩
      cases good with
      | false =>
        walk_at "go"
        exact hy2 _ _ (by simp) hC (fun j hj => hj)
      | true =>
        obtain ⟨z, rfl⟩ := hg rfl
        simp only [pV]
        by_cases hz : e.1 = z
        · by_cases hrx : r = x
          · subst hrx
            subst hz
            walk_at "go"
            exact hn2 _ _ (by simp) hC (fun j hj => hj)
          · subst hz
            walk_at "all"
            exact hy2 _ _ (by simp [hrx]) hC (fun j hj => hj)
        · walk_at "all"
          exact hy2 _ _ (by simp [hz]) hC (fun j hj => hj)
    · walk_at "go"
      refine hy _ _ D _ ⟨?_, hC.im, hC.sb⟩ (fun j hj => by walk_at "mem") (hC.tup (by walk_at "mem"))
      have hz : (List.filter (fun r => !(good && decide (some e.1 = here)) || decide (r ≠ x)) e.2.2) = (if good = true ∧ some e.1 = here then takeL x e.2.2 else e.2.2) := by
        by_cases hc : good = true ∧ some e.1 = here
        · rw [if_pos hc]
          unfold takeL
          obtain ⟨rfl, hc⟩ := hc
          simp [hc]
        · rw [if_neg hc]
          refine List.filter_eq_self.mpr fun r _ => ?_
          have : (good && decide (some e.1 = here)) = false := by
            cases good with
            | false => rfl
            | true => exact decide_eq_false fun q => hc ⟨rfl, q⟩
          rw [this]; rfl
      rw [← hz]
      exact hC.lay
  · have hP := hC.pr (P := fun H => Paired (fun (t : Addr) (q : Key × V) => SqT K H t [kV q.1, q.2]) ps (mK fR us)) List.mem_cons_self
    have hk : us.map (·.1) = lps.map (·.1) := by
      have := congrArg (List.map fun x : Str × List Str => x.1) hu
      rw [List.map_map, List.map_map] at this
      exact this
    walk_at "go"
    refine s_dictP (f := fR) (l := us) hC (hC.get (by walk_at "mem")) hP (by rw [hk]; exact h.nd) ?_
    clear hC; intro a2 H hC
    refine s_name (by walk_at "set") ?_
    walk_at "go"
    exact k _ a2 us _ hu ⟨by walk_at "lay3", hC.im, hC.sb⟩ (fun j hj => List.mem_cons_of_mem _ hj)
end
section
variable {K : PySem.W.Frag} {mg : Str → Option Value} {a : Adr} {vs : List V} {B H : Hp} {Q : VK} {E : XK} {L L' F : List (Addr × HO)} {I : List Im}
variable {s dd po dx cd ad cL aL : Addr} {i j l fl un tm : Int} {qr qs qh qn tb : Array Value} {codes : List (Str × V)} {aps lps : Aps} {here : Option Str} {nm x : Str} {c : V} {N Bk Ct : L2.St → Hp → Prop} {Rt : VK}
variable {v9 v10 v11 v12 v13 v14 v15 v16 v17 v18 v19 v20 v21 v22 : Option V}
theorem sees_here (h : seesB aps here x = true) : ∃ z, here = some z := by
  cases here with
  | none => cases h
  | some z => exact ⟨z, rfl⟩
theorem tail21_T (T : Txt K mg a) (h : LInv codes aps lps here fl) (hC : Ctx K B H ((aL, .dK (mK fR lps)) :: (lcells lps ++ F)) I)
    (k : ∀ lp H1, Ctx K B H1 (lp ++ ((aL, .dK (mK fR lps)) :: (lcells lps ++ F))) I → N [some (.ref s), some (.ref dd), some (.ref po), some (.ref cL), some (.ref aL), some (pV here), some (.int fl), some (.int un), some (.int tm), v9, v10, v11, v12, some (.str x), v14, v15, some (.bl true), some (.bl (!hasB aps x)), v18, v19, v20, v21, v22] H1) :
    t_law_tail21 K a E ⟨N, Rt, Bk, Ct⟩ [some (.ref s), some (.ref dd), some (.ref po), some (.ref cL), some (.ref aL), some (pV here), some (.int fl), some (.int un), some (.int tm), v9, v10, v11, v12, some (.str x), v14, v15, some (.bl true), some (.bl (!hasB aps x)), v18, v19, v20, v21, v22] H := by
  have hll := h.len
  unfold t_law_tail21
  walk_at "go"
  refine lockpick (α := Addr × List Str) (f := fR) (l := lps) (fun e => decide (x ∈ e.2.2)) (fun e => V.str e.1) (fun H Q q => s_var rfl q) hC (by walk_at "pick") (by omega) (fun i0 e H0 H1 D vr od Zy Zn he hC hy hn => ?_) (fun H1 D hC => ?_)
  · have hlk : look lps e.1 = some e.2 := look_of_mem h.nd (List.mem_of_getElem? he)
    simp only [wipe, List.set_cons_zero, List.set_cons_succ]
    walk_at "go"
    refine ⟨rfl, ?_⟩
    walk_at "go"
    refine s_ixKF (hC.frz (by walk_at "mem")) hlk ?_
    refine s_inLS (lget hC (fun c hc => by simp [hc]) (List.mem_of_getElem? he)) ?_
    cases hb : decide (x ∈ e.2.2)
    · walk_at "go"
      exact hn _ _ hb hC (fun j hj => hj)
    · walk_at "go"
      exact hy _ _ hb hC (fun j hj => hj)
  · walk_at "go"
    refine names_eq (x := x) h (hC.get (by walk_at "mem")) (hC.get (by walk_at "mem")) ?_
    refine s_neBs ?_
    walk_at "go"
    exact k [] _ ⟨by show Lay _ ((aL, .dK (mK fR lps)) :: (lcells lps ++ F)); walk_at "lay3", hC.im, hC.sb⟩
theorem else24_take (T : Txt K mg a) (h : LInv codes aps lps here fl) (tq : TQ4 qr qs qh qn) (hx : x = "x" ∨ x = "y") (hC : Ctx K B H (LWL a dd i j l cL aL lps qr qs qh qn tb po dx cd ad codes aps here fl un F) [.tab (lamq "law") tb])
    (k : ∀ σ H, WL K a B s dd po dx cd ad F σ H → N σ H) :
    t_law_else24 K a E ⟨t_law_tail27 K a E ⟨N, Rt, Bk, Ct⟩, Rt, Bk, Ct⟩ [some (.ref s), some (.ref dd), some (.ref po), some (.ref cL), some (.ref aL), some (pV here), some (.int fl), some (.int un), some (.int tm), v9, v10, v11, v12, some (.str x), v14, v15, v16, v17, v18, v19, v20, v21, v22] H := by
  unfold t_law_else24 t_law_tail23
  unfold LWL PL at hC
  refine s_seq (s_asg (sees_ev (aps := aps) (here := here) (x := x) h rfl rfl rfl (hC.get (by walk_at "mem")) (fun e he => lget hC (fun c hc => by simp [hc]) he) ?_))
  walk_at "go"
  refine c_take (aps := aps) (here := here) (fl := fl) (un := un) (codes := codes) hC (by unfold PL; walk_at "perm3") tq.h h.ok hx (fun hb qh' H1 hq hC => ?_) (fun hb H1 hC => ?_)
  · unfold PL at hC
    rw [hb]
    walk_at "go"
    refine tail22_ok2 (lps := lps) (here := here) (good := true) (F := (dd, .lst [.int i, .int j, .int l]) :: (cL, .dK (mK id codes)) :: (a.tb_People_remove, .tbl qr) :: (a.tb_People_set_code, .tbl qs) :: (a.tb_People_has_app, .tbl qh') :: (a.tb_check_name, .tbl qn) :: (a.tb_law, .tbl tb) :: PL a po dx cd ad codes (setA aps here (takeL x)) here fl un F) T h (fun _ => sees_here hb) ⟨by unfold PL; walk_at "lay3", hC.im, hC.sb⟩ (fun H2 a2 us I1 hu hC2 hs => ?_)
    have hu2 : us.map (fun e => (e.1, e.2.2)) = lps.map (fun e => (e.1, if some e.1 = here then takeL x e.2.2 else e.2.2)) := by
      rw [hu]
      refine List.map_congr_left fun e _ => ?_
      simp
    have h2 := setA_same h hu2 take_ok
    refine tail21_T (aps := setA aps here (takeL x)) (here := here) (fl := fl) T h2 hC2 (fun lp2 H3 hC3 => ?_)
    have hC : Ctx K B H3 _ I1 := ⟨hC3.lay.subl (List.sublist_append_right lp2 _), hC3.im, hC3.sb⟩
    unfold PL at hC
    exact tail27_ok (here := here) T h2 ⟨tq.r, tq.s, hq, tq.n⟩ (good := true) (fun Q q => s_eqBS q) (i := i) (j := j) (l := l) (dx := dx) (cd := cd) (ad := ad) (tb := tb) (F := F) ⟨by unfold LWL PL; walk_at "lay3", one_im hC (hs _ (by walk_at "mem")), hC.sb⟩ k
  · unfold PL at hC
    rw [hb]
    walk_at "go"
    refine tail22_ok2 (lps := lps) (here := here) (good := false) (F := (dd, .lst [.int i, .int j, .int l]) :: (cL, .dK (mK id codes)) :: (a.tb_People_remove, .tbl qr) :: (a.tb_People_set_code, .tbl qs) :: (a.tb_People_has_app, .tbl qh) :: (a.tb_check_name, .tbl qn) :: (a.tb_law, .tbl tb) :: PL a po dx cd ad codes aps here fl un F) T h (fun z => by cases z) ⟨by unfold PL; walk_at "lay3", hC.im, hC.sb⟩ (fun H2 a2 us I1 hu hC2 hs => ?_)
    have hu2 : us.map (fun e => (e.1, e.2.2)) = aps.map (fun e => (e.1, e.2.2)) := by
      rw [hu, ← h.same]
      refine List.map_congr_left fun e _ => ?_
      simp
    unfold PL at hC2
    have hC := hC2
    unfold t_law_tail21
    walk_at "go"
    exact tail27_ok (here := here) T ⟨h.ok, hu2, h.fl0⟩ tq (good := false) (fun Q q => s_eqST rfl q) (i := i) (j := j) (l := l) (dx := dx) (cd := cd) (ad := ad) (tb := tb) (F := F) ⟨by unfold LWL PL; walk_at "lay3", one_im hC (hs _ (by walk_at "mem")), hC.sb⟩ k
end
section
variable {K : PySem.W.Frag} {mg : Str → Option Value} {a : Adr} {vs : List V} {B H : Hp} {Q : VK} {E : XK} {L L' F : List (Addr × HO)} {I : List Im}
variable {s dd po dx cd ad cL aL : Addr} {i j l fl un tm : Int} {qr qs qh qn tb : Array Value} {codes : List (Str × V)} {aps lps : Aps} {here : Option Str} {nm x : Str} {c : V} {N Bk Ct : L2.St → Hp → Prop} {Rt : VK}
variable {v9 v10 v11 v12 v13 v14 v15 v16 v17 v18 v19 v20 v21 v22 : Option V}
theorem good_rem {σ : L2.St} {I : List Im} (hC : Ctx K B H L I) (hm : (cL, HO.dK (mK id codes)) ∈ L) (h3 : σ[3]? = some (some (.ref cL))) (h5 : σ[5]? = some (some (pV here))) (h11 : σ[11]? = some (some (.str nm))) (q : Q (.bl (remB codes here nm)) H) :
    (tAndV (tOp (rEqU K) (tVar 5) (tC (.str "ann"))) (tAndV (tOp (rNeU K) (tVar 11) (tC (.str "ann"))) (tOp (rInV K) (tVar 11) (tVar 3)))) σ H Q := by
  cases here with
  | none =>
    simp only [pV] at h5
    walk_at "go"
    exact q
  | some z =>
    simp only [pV] at h5
    by_cases hz : z = "ann"
    · subst hz
      by_cases hn : nm = "ann"
      · rw [show remB codes (some "ann") nm = false from by simp [remB, hn]] at q
        subst hn
        walk_at "go"
        exact q
      · cases hlk : look codes nm with
        | none =>
          rw [show remB codes (some "ann") nm = false from by simp [remB, hlk]] at q
          walk_at "all"
          exact q
        | some w =>
          rw [show remB codes (some "ann") nm = true from by simp [remB, hlk, hn]] at q
          walk_at "all"
          exact q
    · rw [show remB codes (some z) nm = false from by simp [remB, hz]] at q
      walk_at "all"
      exact q
theorem rem_any (h : LInv codes aps lps here fl) : (lps.any fun e => decide (e.1 ≠ nm) && decide (x ∈ e.2.2)) = hasB (delR aps nm) x := by
  have e1 : (lps.any fun e => decide (e.1 ≠ nm) && decide (x ∈ e.2.2)) = (lps.map fun e => (e.1, e.2.2)).any fun e => decide (e.1 ≠ nm) && decide (x ∈ e.2) := by rw [List.any_map]; rfl
  have e2 : hasB (delR aps nm) x = (aps.map fun e => (e.1, e.2.2)).any fun e => decide (e.1 ≠ nm) && decide (x ∈ e.2) := by
    unfold hasB delR
    rw [List.any_filter, List.any_map]; rfl
  rw [e1, e2, h.same]
theorem one_eq {D e0 : Addr} {p : Str × (Addr × List Str) → Bool} (hz : lps.length ≤ 4) (m1 : H D = some (.lst ((lps.filter p).map fun _ => V.int 1))) (m2 : H e0 = some (.lst [])) (k : Q (.bl (!lps.any p)) H) : rEqU K (.ref D) (.ref e0) H Q := by
  cases hf : lps.filter p with
  | nil =>
    rw [hf] at m1
    have : lps.any p = false := by
      rw [List.any_eq_false]
      intro e he z
      have : e ∈ lps.filter p := List.mem_filter.mpr ⟨he, z⟩
      rw [hf] at this; cases this
    rw [this] at k
    exact s_eq00 m1 m2 k
  | cons e r =>
    have hm : e ∈ lps.filter p := by rw [hf]; exact List.mem_cons_self
    have := List.mem_filter.mp hm
    rw [show lps.any p = true from List.any_eq_true.mpr ⟨e, this.1, this.2⟩] at k
    have hl : (lps.filter p).length ≤ 4 := Nat.le_trans (List.length_filter_le _ _) hz
    refine s_eqE (vs := (lps.filter p).map fun _ => V.int 1) (ds := (lps.filter p).map fun _ => PyData.int 1) m1 m2 ?_ ?_ ?_
    · have : ∀ l : Aps, TDs K H (l.map fun _ => V.int 1) (l.map fun _ => PyData.int 1) := by
        intro l
        induction l with
        | nil => exact .nil
        | cons e r ih => exact .cons (.int _) ih
      exact this _
    · rw [show ((lps.filter p).map fun _ => PyData.int 1) = ((lps.filter p).map fun _ => (1 : Int)).map PyData.int from by rw [List.map_map]; rfl]
      exact ints_sh _
    · rw [hf]; exact k
theorem tail7_ok (T : Txt K mg a) (h : LInv codes aps lps here fl) {ys : List Str} (hys : ys = match look aps nm with | none => [] | some e => e.2) (hC : Ctx K B H ((aL, .dK (mK fR lps)) :: (lcells lps ++ F)) I)
    (k : ∀ gL H1, Ctx K B H1 ((gL, .lst ((goneL aps nm).map V.str)) :: (aL, .dK (mK fR lps)) :: (lcells lps ++ F)) I → t_law_tail6 K a E ⟨N, Rt, Bk, Ct⟩ [some (.ref s), some (.ref dd), some (.ref po), some (.ref cL), some (.ref aL), some (pV here), some (.int fl), some (.int un), some (.int tm), v9, v10, some (.str nm), v12, v13, v14, v15, v16, v17, v18, some (.ref gL), v20, v21, v22] H1) :
    t_law_tail7 K a E ⟨N, Rt, Bk, Ct⟩ [some (.ref s), some (.ref dd), some (.ref po), some (.ref cL), some (.ref aL), some (pV here), some (.int fl), some (.int un), some (.int tm), v9, v10, some (.str nm), v12, v13, v14, v15, v16, v17, v18, v19, v20, v21, v22] H := by
  have hll := h.len
  have hgl : goneL aps nm = (srtT ys).filter fun x => !hasB (delR aps nm) x := by
    rw [hys]
    unfold goneL
    cases look aps nm with
    | none => rfl
    | some e => rfl
  have hyl : ys.length ≤ 2 := by
    rw [hys]
    cases hl : look aps nm with
    | none => simp
    | some e => exact two_len (h.ok.lst _ (look_some hl)).1 (h.ok.lst _ (look_some hl)).2
  unfold t_law_tail7
  have main : ∀ {H : Hp} {sq : Addr}, Ctx K B H ((sq, .lst ((srtT ys).map V.str)) :: (aL, .dK (mK fR lps)) :: (lcells lps ++ F)) I → kIl K (kLc (gName 14) (tTest (tOp (rEqU K) (tLockE (tLc (iKeys (tVar 4)) (gName 18) (tAnd (tTest (tOp (rNeU K) (tVar 18) (tVar 11))) (tTest (tOp (rInV K) (tVar 14) (tOp (rIxU K) (tVar 4) (tVar 18))))) (tC (.int 1)) [18])) (tLst tNil))) (tVar 14) [14] [some (.ref s), some (.ref dd), some (.ref po), some (.ref cL), some (.ref aL), some (pV here), some (.int fl), some (.int un), some (.int tm), v9, v10, some (.str nm), v12, v13, v14, v15, v16, v17, v18, v19, v20, v21, v22] fun x H1 => gName 19 x [some (.ref s), some (.ref dd), some (.ref po), some (.ref cL), some (.ref aL), some (pV here), some (.int fl), some (.int un), some (.int tm), v9, v10, some (.str nm), v12, v13, v14, v15, v16, v17, v18, v19, v20, v21, v22] H1 (t_law_tail6 K a E ⟨N, Rt, Bk, Ct⟩)) (.ref sq) H := by
    intro H sq hC
    refine s_ilV (hC.get List.mem_cons_self) ?_
    refine lc_pick (es := srtT ys) (kf := V.str) (walk_lstE (xs := (srtT ys).map V.str) (es := srtT ys) (kf := V.str) rfl) (fun x => !hasB (delR aps nm) x) (fun r => V.str r) (by rw [(srtT_perm _).length_eq]; omega) (fun H1 y hC => SqL.of (hC.get (List.mem_cons_of_mem _ List.mem_cons_self))) hC (fun i0 x H2 D vr Zy Zn hr hC hy hn => ?_) (fun H2 D hC => ?_)
    · simp only [wipe, List.set_cons_zero, List.set_cons_succ]
      walk_at "go"
      refine ⟨rfl, ?_⟩
      walk_at "go"
      refine lockpick (α := Addr × List Str) (f := fR) (l := lps) (fun e => decide (e.1 ≠ nm) && decide (x ∈ e.2.2)) (fun _ => V.int 1) (fun H Q q => s_var rfl q) hC (by walk_at "pick") (by omega) (fun i0 e H0 H1 D2 vr2 od Zy2 Zn2 he hC hy2 hn2 => ?_) (fun H1 D2 hC => ?_)
      · have hlk : look lps e.1 = some e.2 := look_of_mem h.nd (List.mem_of_getElem? he)
        simp only [wipe, List.set_cons_zero, List.set_cons_succ]
        walk_at "go"
        refine ⟨rfl, ?_⟩
        by_cases hz : e.1 = nm
        · walk_at "all"
          exact hn2 _ _ (by simp [hz]) hC (fun j hj => hj)
        · walk_at "all"
          refine s_ixKF (hC.frz (by walk_at "mem")) hlk ?_
          refine s_inLS (lget hC (fun c hc => by simp [hc]) (List.mem_of_getElem? he)) ?_
          cases hb : decide (x ∈ e.2.2)
          · walk_at "go"
            exact hn2 _ _ (by simp [hb]) hC (fun j hj => hj)
          · walk_at "go"
            exact hy2 _ _ (by rw [hb]; simp [hz]) hC (fun j hj => hj)
      · walk_at "go"
        refine one_eq (lps := lps) (p := fun e => decide (e.1 ≠ nm) && decide (x ∈ e.2.2)) hll (hC.get (by walk_at "mem")) (hC.get (by walk_at "mem")) ?_
        rw [rem_any h]
        cases hb : hasB (delR aps nm) x
        · walk_at "go"
          exact hy _ _ (by rw [hb]; rfl) ⟨by walk_at "lay3", hC.im, hC.sb⟩ (fun j hj => hj)
        · walk_at "go"
          exact hn _ _ (by rw [hb]; rfl) ⟨by walk_at "lay3", hC.im, hC.sb⟩ (fun j hj => hj)
    · refine s_name (by walk_at "set") ?_
      rw [← hgl] at hC
      exact k D _ ⟨by walk_at "lay3", hC.im, hC.sb⟩
  cases hl : look aps nm with
  | none =>
    rw [hl] at hys
    simp only at hys
    have hlz : look lps nm = none := h.nope (by
      cases e : look codes nm with
      | none => rfl
      | some w =>
        obtain ⟨e2, he2, hz2, hl2⟩ := h.ok.lk (show (look codes nm).isSome = true by rw [e]; rfl)
        rw [hl] at hl2; cases hl2)
    walk_at "go"
    subst hys
    refine s_srtL (xs := []) hC (show _ = some (.lst []) from hC.get (by walk_at "mem")) (by decide) (fun sq H1 hC => ?_)
    exact main ⟨by walk_at "lay3", hC.im, hC.sb⟩
  | some e =>
    rw [hl] at hys
    simp only at hys
    obtain ⟨e', he', hz', hlk', he2⟩ := h.lk (look_some hl) rfl
    have he3 : e'.2.2 = ys := by rw [hys]; exact he2
    walk_at "go"
    show rSortU K [.ref e'.2.1] _ _
    refine s_srtL (xs := ys) hC (by rw [← he3]; exact lget hC (fun c hc => by simp [hc]) he') (by omega) (fun sq H1 hC => ?_)
    exact main ⟨by walk_at "lay3", hC.im, hC.sb⟩
end
section
variable {K : PySem.W.Frag} {mg : Str → Option Value} {a : Adr} {vs : List V} {B H : Hp} {Q : VK} {E : XK} {L L' F : List (Addr × HO)} {I : List Im}
variable {s dd po dx cd ad cL aL : Addr} {i j l fl un tm : Int} {qr qs qh qn tb : Array Value} {codes : List (Str × V)} {aps lps : Aps} {here : Option Str} {nm x : Str} {c : V} {N Bk Ct : L2.St → Hp → Prop} {Rt : VK}
variable {v9 v10 v11 v12 v13 v14 v15 v16 v17 v18 v19 v20 v21 v22 : Option V}
theorem s_gunl {n : Nat} {t : TGs} {σ : L2.St} {d : Addr} {xs : List V} {A : L2.St → Hp → Prop} (m : H d = some (.lst xs)) (hl : xs.length = n) (q : t xs σ H A) : gUnl K n t (.ref d) σ H A := ⟨d, xs, rfl, SqL.of m, hl, q⟩
def keepL {α : Type} (nm : Str) (good : Bool) (l : List (Str × α)) : List (Str × α) := l.filter fun r => decide (r.1 ≠ nm) || !good
theorem keep_T {α : Type} {l : List (Str × α)} : keepL nm true l = delR l nm := by
  unfold keepL delR
  refine List.filter_congr fun r _ => ?_
  simp
theorem keep_F {α : Type} {l : List (Str × α)} : keepL nm false l = l := List.filter_eq_self.mpr fun r _ => by simp
theorem keep_fR {b : Bool} : mK fR (keepL nm b lps) = mK id (keepL nm b (lps.map fun e => (e.1, V.ref e.2.1))) := by
  unfold keepL mK
  rw [List.filter_map, List.map_map]; rfl
theorem mK_fR : mK fR lps = mK id (lps.map fun e => (e.1, V.ref e.2.1)) := by
  unfold mK
  rw [List.map_map]; rfl
theorem rows_dict {good : Bool} {d : Addr} {l : List (Str × V)} (nd : (l.map (·.1)).Nodup) (hz : l.length ≤ 90000) (hC : Ctx K B H L I) (m : Pick (d, .dK (mK id l)) L L')
    (q : ∀ p H1 D ps, Ctx K B H1 ((p, .dK (mK id (keepL nm good l))) :: (d, .dK (mK id l)) :: (D, .lst ps) :: L') I → Q (.ref p) H1) :
    (tCB (rDictU K) (tCons (tLockE (tLc (iKeys (tVar 20)) (gName 14) (tOr (tTest (tOp (rNeU K) (tVar 14) (tVar 11))) (tNot (tTruth K (tVar 16)))) (tTup (tCons (tVar 14) (tCons (tOp (rIxU K) (tVar 20) (tVar 14)) tNil))) [14])) tNil)) [some (.ref s), some (.ref dd), some (.ref po), some (.ref cL), some (.ref aL), some (pV here), some (.int fl), some (.int un), some (.int tm), v9, v10, some (.str nm), v12, v13, v14, v15, some (.bl good), v17, v18, v19, some (.ref d), v21, v22] H Q := by
  refine s_cb (s_cons ?_)
  refine pairsK (fun x => decide (x ≠ nm) || !good) (fun H Q q => s_var rfl q) hC m (by omega) (fun x v H1 D acc od Zy Zn hm hC hy hn => ?_) (fun H1 D ps hC => ?_)
  · have hlk : look l x = some v := look_of_mem nd hm
    simp only [wipe, List.set_cons_zero, List.set_cons_succ]
    walk_at "go"
    refine ⟨rfl, ?_⟩
    by_cases cx : x = nm
    · subst cx
      cases good with
      | false =>
        walk_at "all"
        exact hy _ _ _ (by simp) hC (fun j hj => by walk_at "mem") (hC.tup (by walk_at "mem"))
      | true =>
        walk_at "all"
        exact hn _ _ (by simp) hC (fun j hj => hj)
    · walk_at "all"
      exact hy _ _ _ (by simp [cx]) hC (fun j hj => by walk_at "mem") (hC.tup (by walk_at "mem"))
  · have hP := hC.pr (P := fun H => Paired (PrF K H) ps (mK id (l.filter fun q => decide (q.1 ≠ nm) || !good))) List.mem_cons_self
    walk_at "go"
    refine s_dictP hC (hC.get (by walk_at "mem")) hP (nd.sublist ((List.filter_sublist).map _)) ?_
    clear hC; intro p H hC
    exact q p _ D _ ⟨hC.lay, fun j hj => hC.im j (List.mem_cons_of_mem _ hj), hC.sb⟩
theorem tail4_ok (T : Txt K mg a) {good : Bool} (h : LInv codes aps lps here fl) (hC : Ctx K B H ((cL, .dK (mK id codes)) :: (aL, .dK (mK fR lps)) :: F) I)
    (k : ∀ H1 c2 a2, Ctx K B H1 ((c2, .dK (mK id (keepL nm good codes))) :: (a2, .dK (mK fR (keepL nm good lps))) :: F) I → N [some (.ref s), some (.ref dd), some (.ref po), some (.ref c2), some (.ref a2), some (pV here), some (.int fl), some (.int un), some (.int tm), v9, v10, some (.str nm), v12, v13, v14, v15, some (.bl good), v17, v18, v19, v20, v21, v22] H1) :
    t_law_tail4 K a E ⟨N, Rt, Bk, Ct⟩ [some (.ref s), some (.ref dd), some (.ref po), some (.ref cL), some (.ref aL), some (pV here), some (.int fl), some (.int un), some (.int tm), v9, v10, some (.str nm), v12, v13, v14, v15, some (.bl good), v17, v18, v19, v20, v21, v22] H := by
  have hll := h.len
  have hcl := h.ok.len
  unfold t_law_tail4
  walk_at "go"
  refine lc_w (walk_tupE (xs := [.ref cL, .ref aL]) (es := [cL, aL]) (kf := V.ref) rfl) hC (fun D i H1 => (i = 0 ∧ Ctx K B H1 ((D, .lst []) :: (cL, .dK (mK id codes)) :: (aL, .dK (mK fR lps)) :: F) (.tup tp [.ref cL, .ref aL] :: I)) ∨ (i = 1 ∧ ∃ c2, Ctx K B H1 ((D, .lst [.ref c2]) :: (c2, .dK (mK id (keepL nm good codes))) :: (cL, .dK (mK id codes)) :: (aL, .dK (mK fR lps)) :: F) (.tup tp [.ref cL, .ref aL] :: I)) ∨ (i = 2 ∧ ∃ c2 a2, Ctx K B H1 ((D, .lst [.ref c2, .ref a2]) :: (c2, .dK (mK id (keepL nm good codes))) :: (a2, .dK (mK fR (keepL nm good lps))) :: F) (.tup tp [.ref cL, .ref aL] :: I))) ?_ ?_ ?_ ?_
  · intro D H1 hC
    exact .inl ⟨rfl, ⟨hC.lay, fun j hj => hC.im j (List.mem_cons_of_mem _ hj), hC.sb⟩⟩
  · rintro D i H1 hi (⟨rfl, hC⟩ | ⟨rfl, c2, hC⟩ | ⟨rfl, c2, a2, hC⟩)
    · exact hC.tup (by walk_at "mem")
    · exact hC.tup (by walk_at "mem")
    · exact hC.tup (by walk_at "mem")
  · rintro i y D H1 H2 hi (⟨rfl, hC⟩ | ⟨rfl, c2, hC⟩ | ⟨rfl, c2, a2, hC⟩) hy
    · obtain ⟨rfl, e, he, rfl⟩ := ye hy
      cases he
      simp only [wipe, List.set_cons_zero, List.set_cons_succ]
      walk_at "go"
      refine ⟨rfl, ?_⟩
      walk_at "go"
      refine rows_dict (good := good) (l := codes) h.ok.nd (by omega) hC (by walk_at "pick") (fun p H1 D2 ps hC => ?_)
      refine s_app (acc := []) hC (hC.get (by walk_at "mem")) (by simp) (by walk_at "up") (fun H5 hC => .inr (.inl ⟨True.intro, p, ?_⟩))
      simp only [List.nil_append, List.cons_append] at hC
      exact ⟨by walk_at "lay3", hC.im, hC.sb⟩
    · obtain ⟨rfl, e, he, rfl⟩ := ye hy
      cases he
      simp only [wipe, List.set_cons_zero, List.set_cons_succ]
      walk_at "go"
      refine ⟨rfl, ?_⟩
      walk_at "go"
      rw [mK_fR] at hC
      refine rows_dict (good := good) (l := lps.map fun e => (e.1, V.ref e.2.1)) (by rw [List.map_map]; exact h.nd) (by rw [List.length_map]; omega) hC (by walk_at "pick") (fun p H1 D2 ps hC => ?_)
      rw [← mK_fR, ← keep_fR] at hC
      refine s_app (acc := [.ref c2]) hC (hC.get (by walk_at "mem")) (by simp) (by walk_at "up") (fun H5 hC => .inr (.inr ⟨True.intro, c2, p, ?_⟩))
      simp only [List.nil_append, List.cons_append] at hC
      exact ⟨by walk_at "lay3", hC.im, hC.sb⟩
    · (simp at hi)
  · rintro D H1 (⟨z, hC⟩ | ⟨z, c2, hC⟩ | ⟨z, c2, a2, hC⟩)
    · cases z
    · cases z
    · refine s_gunl (hC.get List.mem_cons_self) rfl ?_
      walk_at "go"
      exact k _ c2 a2 ⟨by walk_at "lay3", fun j hj => hC.im j (List.mem_cons_of_mem _ hj), hC.sb⟩
end
section
variable {K : PySem.W.Frag} {mg : Str → Option Value} {a : Adr} {vs : List V} {B H : Hp} {Q : VK} {E : XK} {L L' F : List (Addr × HO)} {I : List Im}
variable {s dd po dx cd ad cL aL : Addr} {i j l fl un tm : Int} {qr qs qh qn tb : Array Value} {codes : List (Str × V)} {aps lps : Aps} {here : Option Str} {nm x : Str} {c : V} {N Bk Ct : L2.St → Hp → Prop} {Rt : VK}
variable {v9 v10 v11 v12 v13 v14 v15 v16 v17 v18 v19 v20 v21 v22 : Option V}
theorem filt_map {α β : Type} {l : List (Str × α)} {f : Str × α → Str × β} (hf : ∀ e, (f e).1 = e.1) : (delR l nm).map f = delR (l.map f) nm := by
  unfold delR
  rw [List.filter_map]
  congr 1
  refine List.filter_congr fun e _ => ?_
  show decide (e.1 ≠ nm) = decide ((f e).1 ≠ nm)
  rw [hf]
theorem LInv.del (h : LInv codes aps lps here fl) (hn : here ≠ some nm) : LInv (delR codes nm) (delR aps nm) (delR lps nm) here fl := by
  refine ⟨⟨?_, h.ok.nd.sublist ((List.filter_sublist).map _), Nat.le_trans (List.length_filter_le _ _) h.ok.len, fun p hp => h.ok.nms p (List.mem_filter.mp hp).1, fun e he => h.ok.lst e (List.mem_filter.mp he).1, fun z hz => ?_, fun p hp => h.ok.cds p (List.mem_filter.mp hp).1⟩, ?_, h.fl0⟩
  · have e1 : ∀ {α : Type} (l : List (Str × α)), (delR l nm).map (·.1) = (l.map (·.1)).filter fun y => decide (y ≠ nm) := by
      intro α l
      unfold delR
      rw [List.filter_map]; rfl
    rw [e1, e1, h.ok.keys]
  · have hz2 := h.ok.here z hz
    have hne : z ≠ nm := fun q => hn (by rw [hz, q])
    rw [show look (delR codes nm) z = look codes z from by unfold delR; rw [look_del, if_neg hne]]
    exact hz2
  · rw [filt_map (f := fun e : Str × (Addr × List Str) => (e.1, e.2.2)) (fun _ => rfl), filt_map (f := fun e : Str × (Addr × List Str) => (e.1, e.2.2)) (fun _ => rfl), h.same]
theorem lcells_del {y : Lay H (lcells lps ++ F)} : Lay H (lcells (delR lps nm) ++ F) := y.subl (List.Sublist.append ((List.filter_sublist).map _) (List.Sublist.refl _))
theorem gone_ok (h : LInv codes aps lps here fl) : ∀ z, z ∈ goneL aps nm → PyData.strOk z = true := by
  intro z hz
  unfold goneL at hz
  cases hl : look aps nm with
  | none => rw [hl] at hz; cases hz
  | some e =>
    rw [hl] at hz
    have m := (srtT_perm _).mem_iff.mp (List.mem_filter.mp hz).1
    rcases (h.ok.lst _ (look_some hl)).2 z m with rfl | rfl <;> decide +kernel
theorem if8_rem (T : Txt K mg a) (h : LInv codes aps lps here fl) (tq : TQ4 qr qs qh qn) (hC : Ctx K B H (LWL a dd i j l cL aL lps qr qs qh qn tb po dx cd ad codes aps here fl un F) [.tab (lamq "law") tb])
    (k : ∀ σ H, WL K a B s dd po dx cd ad F σ H → N σ H) :
    t_law_if8 K a E ⟨t_law_tail27 K a E ⟨N, Rt, Bk, Ct⟩, Rt, Bk, Ct⟩ [some (.ref s), some (.ref dd), some (.ref po), some (.ref cL), some (.ref aL), some (pV here), some (.int fl), some (.int un), some (.int tm), v9, v10, some (.str nm), v12, v13, v14, v15, v16, v17, v18, v19, v20, v21, v22] H := by
  unfold t_law_if8
  refine s_seq (s_asg (good_rem (cL := cL) hC (by unfold LWL; walk_at "mem") rfl rfl rfl ?_))
  refine s_name (by walk_at "set") ?_
  unfold LWL PL at hC
  refine tail7_ok (aps := aps) (here := here) (fl := fl) T h rfl (F := (dd, .lst [.int i, .int j, .int l]) :: (cL, .dK (mK id codes)) :: (a.tb_People_remove, .tbl qr) :: (a.tb_People_set_code, .tbl qs) :: (a.tb_People_has_app, .tbl qh) :: (a.tb_check_name, .tbl qn) :: (a.tb_law, .tbl tb) :: PL a po dx cd ad codes aps here fl un F) ⟨by unfold PL; walk_at "lay3", hC.im, hC.sb⟩ (fun gL H1 hC => ?_)
  unfold PL at hC
  unfold t_law_tail6
  walk_at "go"
  refine c_remove (aps := aps) (here := here) (fl := fl) (un := un) (codes := codes) hC (by unfold PL; walk_at "perm3") tq.r tq.h h.ok (fun hb t qr' qh' H1 h1 h2 hC => ?_) (fun hb H1 hC => ?_)
  · unfold PL at hC
    rw [hb]
    have hne : here ≠ some nm := by
      intro z
      have h1 : here = some "ann" := by
        by_cases e : here = some ("ann" : Str)
        · exact e
        · rw [show remB codes here nm = false from by simp [remB, e]] at hb; cases hb
      rw [z] at h1
      rw [show remB codes here nm = false from by simp [remB, Option.some.inj h1]] at hb
      cases hb
    unfold t_law_tail5
    walk_at "go"
    refine s_neSameS (ns := goneL aps nm) (hC.get (by walk_at "mem")) (hC.get (by walk_at "mem")) (gone_ok h) ?_
    walk_at "go"
    refine tail4_ok (good := true) (F := (dd, .lst [.int i, .int j, .int l]) :: (a.tb_People_remove, .tbl qr') :: (a.tb_People_set_code, .tbl qs) :: (a.tb_People_has_app, .tbl qh') :: (a.tb_check_name, .tbl qn) :: (a.tb_law, .tbl tb) :: (lcells lps ++ PL a po dx cd ad (delR codes nm) (delR aps nm) here fl un F)) T h ⟨by unfold PL; walk_at "lay3", hC.im, hC.sb⟩ (fun H2 c2 a2 hC => ?_)
    rw [keep_T, keep_T] at hC
    unfold PL at hC
    refine tail27_ok (here := here) (told := .ref t) T (h.del hne) ⟨h1, tq.s, h2, tq.n⟩ (good := true) (fun Q q => ?_) (i := i) (j := j) (l := l) (dx := dx) (cd := cd) (ad := ad) (tb := tb) (F := F) ⟨?_, one_im hC (by walk_at "mem"), hC.sb⟩ k
    · refine s_eqD (TD.tup (hC.tup (xs := (goneL aps nm).map V.str) (by walk_at "mem")) (strs_tds (goneL aps nm))).dp (TD.str "RightFault").dp ((strs_sh (gone_ok h)).tuple.shaped (by decide)) (by decide +kernel) ?_
      rw [show PyData.eqv (.tuple ((goneL aps nm).map PyData.str)) (.str "RightFault") = false from by simp [PyData.eqv]]
      exact q
    · have y1 : Lay H2 (lcells lps ++ (dd, .lst [.int i, .int j, .int l]) :: (c2, .dK (mK id (delR codes nm))) :: (a2, .dK (mK fR (delR lps nm))) :: (a.tb_People_remove, .tbl qr') :: (a.tb_People_set_code, .tbl qs) :: (a.tb_People_has_app, .tbl qh') :: (a.tb_check_name, .tbl qn) :: (a.tb_law, .tbl tb) :: (po, .ins a.c_People dx [("owner", .str "ann"), ("codes", .ref cd), ("apps", .ref ad), ("here", pV here), ("failed", .int fl), ("locked_until", .int un)]) :: (cd, .dK (mK id (delR codes nm))) :: (ad, .dK (mK (fun p : Addr × List Str => V.ref p.1) (delR aps nm))) :: (acells (delR aps nm) ++ F)) := by walk_at "lay3"
      have y2 := lcells_del (nm := nm) (y := y1)
      have hC5 : Ctx K B H2 _ [.tab (lamq "law") tb] := ⟨y2, one_im hC (by walk_at "mem"), hC.sb⟩
      clear hC
      have hC := hC5
      unfold LWL PL
      walk_at "lay3"
  · unfold PL at hC
    rw [hb]
    unfold t_law_tail5
    walk_at "go"
    refine tail4_ok (good := false) (F := (dd, .lst [.int i, .int j, .int l]) :: (a.tb_People_remove, .tbl qr) :: (a.tb_People_set_code, .tbl qs) :: (a.tb_People_has_app, .tbl qh) :: (a.tb_check_name, .tbl qn) :: (a.tb_law, .tbl tb) :: (lcells lps ++ PL a po dx cd ad codes aps here fl un F)) T h ⟨by unfold PL; walk_at "lay3", hC.im, hC.sb⟩ (fun H2 c2 a2 hC => ?_)
    rw [keep_F, keep_F] at hC
    unfold PL at hC
    exact tail27_ok (here := here) T h tq (good := false) (fun Q q => s_eqST rfl q) (i := i) (j := j) (l := l) (dx := dx) (cd := cd) (ad := ad) (tb := tb) (F := F) ⟨by unfold LWL PL; walk_at "lay3", one_im hC (by walk_at "mem"), hC.sb⟩ k
end
section
variable {K : PySem.W.Frag} {mg : Str → Option Value} {a : Adr} {vs : List V} {B H : Hp} {Q : VK} {E : XK} {L L' F : List (Addr × HO)} {I : List Im}
variable {s dd po dx cd ad cL aL : Addr} {i j l fl un tm sort : Int} {qr qs qh qn tb : Array Value} {codes : List (Str × V)} {aps lps : Aps} {here : Option Str} {nm x : Str} {c : V} {N Bk Ct : L2.St → Hp → Prop} {Rt : VK}
variable {v9 v10 v11 v12 v13 v14 v15 v16 v17 v18 v19 v20 v21 v22 : Option V}
theorem tail28_ok (T : Txt K mg a) (h : LInv codes aps lps here fl) (tq : TQ4 qr qs qh qn) (hn : nm ∈ PNM) (hc : c ∈ CDS) (hc2 : sort ≠ 5 → c ≠ .str "77777") (hx : x = "x" ∨ x = "y") (hC : Ctx K B H (LWL a dd i j l cL aL lps qr qs qh qn tb po dx cd ad codes aps here fl un F) [.tab (lamq "law") tb])
    (k : ∀ σ H, WL K a B s dd po dx cd ad F σ H → N σ H) :
    t_law_tail28 K a E ⟨N, Rt, Bk, Ct⟩ [some (.ref s), some (.ref dd), some (.ref po), some (.ref cL), some (.ref aL), some (pV here), some (.int fl), some (.int un), some (.int tm), v9, some (.int sort), some (.str nm), some c, some (.str x), v14, v15, v16, v17, v18, v19, v20, v21, v22] H := by
  unfold t_law_tail28
  by_cases c0 : sort = 0
  · subst c0
    walk_at "go"
    exact if3_add T h tq hn hC k
  · by_cases c1 : sort = 1
    · subst c1
      have hC0 := hC
      unfold LWL PL at hC
      walk_at "all"
      · exact if8_rem (i := di) (j := dj) (l := dl) T h tq ⟨by unfold LWL PL; walk_at "lay3", hC.im, hC.sb⟩ k
      · exact if17_enter (i := di) (j := dj) (l := dl) T h tq hc ⟨by unfold LWL PL; walk_at "lay3", hC.im, hC.sb⟩ k
    · by_cases c2 : sort = 2
      · subst c2
        walk_at "go"
        exact if11_code T h tq hc (hc2 (by decide)) hC k
      · by_cases c3 : sort = 3
        · subst c3
          walk_at "all"
          exact if12_leave T h tq hC k
        · by_cases c6 : sort < 6
          · walk_at "all"
            exact if17_enter T h tq hc hC k
          · by_cases c8 : sort < 8
            · walk_at "all"
              exact if20_give T h tq hx hC k
            · walk_at "all"
              exact else24_take T h tq hx hC k
end
section
variable {K : PySem.W.Frag} {mg : Str → Option Value} {a : Adr} {vs : List V} {B H : Hp} {Q : VK} {E : XK} {L L' F : List (Addr × HO)} {I : List Im}
variable {s dd po dx cd ad cL aL : Addr} {i j l fl un tm sort : Int} {qr qs qh qn tb : Array Value} {codes : List (Str × V)} {aps lps : Aps} {here : Option Str} {nm x : Str} {c : V} {N Bk Ct : L2.St → Hp → Prop} {Rt : VK}
variable {v9 v10 v11 v12 v13 v14 v15 v16 v17 v18 v19 v20 v21 v22 : Option V}
theorem look_isC (h : LInv codes aps lps here fl) {w : V} (hl : look codes nm = some w) : w ∈ CDS := h.ok.cds _ (look_some hl)
theorem s_notNc (hc : c ∈ CDS) (q : Q (.bl (!decide (c = .non))) H) : rNotN c .non H Q := by
  simp only [CDS, List.mem_cons, List.not_mem_nil, or_false] at hc
  rcases hc with rfl | rfl | rfl | rfl | rfl | rfl
  · exact s_notN_non q
  all_goals exact s_notN_str q
/-- those with a code -/
def lockL (codes : List (Str × V)) : List Str := (srtT (codes.map (·.1))).filter fun z => !decide (look codes z = some .non)
theorem lock_mem (h : LInv codes aps lps here fl) {z : Str} (hz : z ∈ lockL codes) : z ∈ PNM := by
  have m := (srtT_perm _).mem_iff.mp (List.mem_filter.mp hz).1
  obtain ⟨p, hp, rfl⟩ := List.mem_map.mp m
  exact h.ok.nms p hp
theorem lock_len (h : LInv codes aps lps here fl) : (lockL codes).length ≤ 4 := by
  unfold lockL
  refine Nat.le_trans (List.length_filter_le _ _) ?_
  rw [(srtT_perm _).length_eq, List.length_map]
  exact h.ok.len
theorem s_ixXY {i : Int} (h0 : 0 ≤ i) (h1 : i < 2) (q : ∀ x : Str, x = "x" ∨ x = "y" → Q (.str x) H) : rIxU K (.str "xy") (.int i) H Q := by
  have : i = 0 ∨ i = 1 := by omega
  rcases this with rfl | rfl
  · exact s_ixSc (c := 120) (by decide) rfl (q "x" (.inl rfl))
  · exact s_ixSc (c := 121) (by decide) rfl (q "y" (.inr rfl))
theorem tail29_ok (T : Txt K mg a) {lk : Addr} (h : LInv codes aps lps here fl) (tq : TQ4 qr qs qh qn) (hn : nm ∈ PNM) (hc : c ∈ CDS ∧ c ≠ .str "77777") (hx : x = "x" ∨ x = "y") (hC : Ctx K B H ((lk, .lst ((lockL codes).map V.str)) :: LWL a dd i j l cL aL lps qr qs qh qn tb po dx cd ad codes aps here fl un F) [.tab (lamq "law") tb])
    (k : ∀ σ H, WL K a B s dd po dx cd ad F σ H → N σ H) :
    t_law_tail29 K a E ⟨N, Rt, Bk, Ct⟩ [some (.ref s), some (.ref dd), some (.ref po), some (.ref cL), some (.ref aL), some (pV here), some (.int fl), some (.int un), some (.int tm), v9, some (.int sort), some (.str nm), some c, some (.str x), v14, some (.ref lk), v16, v17, v18, v19, v20, v21, v22] H := by
  have hll := lock_len h
  have hll2 : ((lockL codes).map V.str).length ≤ 4 := by rw [List.length_map]; exact hll
  unfold t_law_tail29
  have hC0 : Ctx K B H (LWL a dd i j l cL aL lps qr qs qh qn tb po dx cd ad codes aps here fl un F) [.tab (lamq "law") tb] := ⟨by unfold LWL PL at hC ⊢; walk_at "lay3", hC.im, hC.sb⟩
  unfold LWL PL at hC
  by_cases c5 : sort = 5
  · subst c5
    walk_at "all"
    refine s_neSS (ns := lockL codes) (ms := []) (hC.get (by walk_at "mem")) (show _ = some (.lst []) from hC.get (by walk_at "mem")) (fun z hz => pnm_str z (lock_mem h hz)) (fun x hx => nomatch hx) ?_
    cases hlz : lockL codes with
    | nil =>
      rw [show (!decide (([] : List Str) = [])) = false from rfl]
      walk_at "go"
      exact tail28_ok (i := i) (j := j) (l := l) T h tq hn hc.1 (fun z => absurd rfl z) hx ⟨by unfold LWL PL; walk_at "lay3", hC.im, hC.sb⟩ k
    | cons z0 zr =>
      have hpos : 0 < ((lockL codes).map V.str).length := by rw [hlz]; simp
      rw [show (!decide (z0 :: zr = [])) = true from by simp]
      walk_at "all"
      · unfold t_law_if0
        walk_at "go"
        refine s_ixV (hC.get (by walk_at "mem")) hr0 hr1 (fun v hv => ?_)
        obtain ⟨z, hz, rfl⟩ := List.mem_map.mp hv
        walk_at "go"
        exact tail28_ok (i := di) (j := dj) (l := dl) T h tq (lock_mem h hz) (by decide +kernel) (fun z => absurd rfl z) hx ⟨by unfold LWL PL; walk_at "lay3", one_im hC (by walk_at "mem"), hC.sb⟩ k
      · exact tail28_ok (i := di) (j := dj) (l := dl) T h tq hn hc.1 (fun z => absurd rfl z) hx ⟨by unfold LWL PL; walk_at "lay3", one_im hC (by walk_at "mem"), hC.sb⟩ k
  · walk_at "all"
    exact tail28_ok T h tq hn hc.1 (fun _ => hc.2) hx hC0 k
theorem for32_ok (T : Txt K mg a) (h : LInv codes aps lps here fl) (tq : TQ4 qr qs qh qn) (hC : Ctx K B H (LWL a dd i j l cL aL lps qr qs qh qn tb po dx cd ad codes aps here fl un F) [.tab (lamq "law") tb])
    (k : ∀ σ H, WL K a B s dd po dx cd ad F σ H → N σ H) :
    t_law_for32 K a E ⟨N, Rt, Bk, Ct⟩ [some (.ref s), some (.ref dd), some (.ref po), some (.ref cL), some (.ref aL), some (pV here), some (.int fl), some (.int un), some (.int tm), v9, v10, v11, v12, v13, v14, v15, v16, v17, v18, v19, v20, v21, v22] H := by
  have hcl := h.ok.len
  unfold t_law_for32
  unfold LWL PL at hC
  walk_at "go"
  unfold t_law_tail31
  walk_at "go"
  refine s_ixV (hC.get (by walk_at "mem")) hr0 (by simp only [List.length_cons, List.length_nil]; omega) (fun w hw => ?_)
  obtain ⟨nm, rfl, hn⟩ : ∃ nm, w = .str nm ∧ nm ∈ PNM := by
    simp only [List.mem_cons, List.not_mem_nil, or_false] at hw
    rcases hw with rfl | rfl | rfl | rfl | rfl
    all_goals exact ⟨_, rfl, by decide +kernel⟩
  clear hw
  walk_at "go"
  refine s_ixV (hC.get (by walk_at "mem")) hr0 (by simp only [List.length_cons, List.length_nil]; omega) (fun c hw => ?_)
  have hc : c ∈ CDS ∧ c ≠ .str "77777" := by
    simp only [List.mem_cons, List.not_mem_nil, or_false] at hw
    rcases hw with rfl | rfl | rfl | rfl | rfl
    all_goals exact ⟨by decide +kernel, by decide +kernel⟩
  clear hw
  walk_at "go"
  refine s_ixXY hr0 hr1 (fun x hx => ?_)
  walk_at "go"
  unfold t_law_tail30
  walk_at "go"
  refine lc_pick (es := srtT (codes.map (·.1))) (kf := V.str) (walk_lstE (xs := (srtT (codes.map (·.1))).map V.str) (es := srtT (codes.map (·.1))) (kf := V.str) rfl) (fun z => !decide (look codes z = some .non)) (fun r => V.str r) (by rw [(srtT_perm _).length_eq, List.length_map]; omega) (fun H1 y hC => SqL.of (hC.get (by walk_at "mem"))) hC (fun i0 z H2 D vr Zy Zn hr hC hy hn => ?_) (fun H2 D hC => ?_)
  · have m := (srtT_perm _).mem_iff.mp (List.mem_of_getElem? hr)
    obtain ⟨p, hp, rfl⟩ := List.mem_map.mp m
    have hlk : look codes p.1 = some p.2 := look_of_mem h.ok.nd hp
    simp only [wipe, List.set_cons_zero, List.set_cons_succ]
    walk_at "go"
    refine ⟨rfl, ?_⟩
    walk_at "go"
    refine s_notNc (h.ok.cds p hp) ?_
    cases hb : decide (p.2 = .non)
    · walk_at "go"
      exact hy _ _ (by rw [hlk]; simpa using hb) hC (fun j hj => hj)
    · walk_at "go"
      exact hn _ _ (by rw [hlk]; simpa using hb) hC (fun j hj => hj)
  · refine s_name (by walk_at "set") ?_
    exact tail29_ok (i := di) (j := dj) (l := dl) T h tq hn hc hx ⟨by unfold LWL PL lockL; walk_at "lay3", one_im hC (by walk_at "mem"), hC.sb⟩ k
end
section
variable {K : PySem.W.Frag} {mg : Str → Option Value} {a : Adr} {vs : List V} {B H : Hp} {Q : VK} {E : XK} {L L' F F0 : List (Addr × HO)} {I : List Im}
variable {s dd po dx cd ad cL aL : Addr} {i j l fl un tm sort : Int} {qr qs qh qn tb qc qsh qk qv qp tbS tbl : Array Value} {codes : List (Str × V)} {aps lps : Aps} {here : Option Str} {nm x : Str} {c : V} {N Bk Ct : L2.St → Hp → Prop} {Rt : VK}
variable {v9 v10 v11 v12 v13 v14 v15 v16 v17 v18 v19 v20 v21 v22 : Option V}
theorem c_lset (hC : Ctx K B H L I) (pm : Perm3 L ((dd, .lst [.int i, .int j, .int l]) :: (a.tb_Settings_shown, .tbl qsh) :: (a.tb_law_settings, .tbl tbS) :: KT a qk qv qp qc F)) (h1 : TabOK (lamq "_law_settings") tbS H) (h2 : TriplesOk qsh.toList) (tk : TK qk qv qp qc)
    (k : ∀ H1 (i j l : Int) qsh tbS qk qv qp qc, TabOK (lamq "_law_settings") tbS H1 → TriplesOk qsh.toList → TK qk qv qp qc → Ctx K B H1 ((dd, .lst [.int i, .int j, .int l]) :: (a.tb_Settings_shown, .tbl qsh) :: (a.tb_law_settings, .tbl tbS) :: KT a qk qv qp qc F) I → Q (.bl true) H1) : sp_law_settings K a [.ref dd] H Q E :=
  ⟨rfl, dd, i, j, l, qsh, tbS, qk, qv, qp, qc, F, rfl, hC.lay.perm pm.lay, h1, h2, tk, fun H' i j l qsh tbS qk qv qp qc s y t1 t2 t3 => k H' i j l qsh tbS qk qv qp qc t1 t2 t3 (hC.moved s y)⟩
inductive S0 (s : Addr) : L2.St → Prop
  | mk {x1 x2 x3 x4 x5 x6 x7 x8 x9 x10 x11 x12 x13 x14 x15 x16 x17 x18 x19 x20 x21 x22 : Option V} : S0 s [some (.ref s), x1, x2, x3, x4, x5, x6, x7, x8, x9, x10, x11, x12, x13, x14, x15, x16, x17, x18, x19, x20, x21, x22]
inductive SDd (s d : Addr) : L2.St → Prop
  | mk {x2 x3 x4 x5 x6 x7 x8 x9 x10 x11 x12 x13 x14 x15 x16 x17 x18 x19 x20 x21 x22 : Option V} : SDd s d [some (.ref s), some (.ref d), x2, x3, x4, x5, x6, x7, x8, x9, x10, x11, x12, x13, x14, x15, x16, x17, x18, x19, x20, x21, x22]
abbrev tabs (a : Adr) (qr qs qh qc qsh qn qk qv qp tbS tbl : Array Value) (F : List (Addr × HO)) : List (Addr × HO) := (a.tb_People_remove, .tbl qr) :: (a.tb_People_set_code, .tbl qs) :: (a.tb_People_has_app, .tbl qh) :: (a.tb_Kind_check, .tbl qc) :: (a.tb_Settings_shown, .tbl qsh) :: (a.tb_check_name, .tbl qn) :: (a.tb_check_key, .tbl qk) :: (a.tb_check_value, .tbl qv) :: (a.tb_is_span, .tbl qp) :: (a.tb_law_settings, .tbl tbS) :: (a.tb_law, .tbl tbl) :: F
structure TQA (qr qs qh qc qsh qn qk qv qp : Array Value) : Prop where
  q4 : TQ4 qr qs qh qn
  tk : TK qk qv qp qc
  sh : TriplesOk qsh.toList
theorem lay_appR' {L F : List (Addr × HO)} (y : Lay H (L ++ F)) : Lay H F := y.subl (List.sublist_append_right L F)
theorem tab0 {H : Hp} {q : Str} : TabOK q #[] H := ⟨True.intro, fun pos cv hc => by
  have z : codeAmong pos [] = some cv := hc
  simp [codeAmong] at z⟩
theorem linv0 {d1 lp : Addr} : LInv [("ann", .non)] [("ann", d1, [])] [("ann", lp, [])] (some "ann") 0 :=
  ⟨⟨rfl, by simp, by simp, fun p hp => by rw [List.mem_singleton.mp hp]; exact List.mem_cons_self, fun e he => by rw [List.mem_singleton.mp he]; exact ⟨List.nodup_nil, fun x hx => nomatch hx⟩, fun z hz => by cases hz; decide +kernel, fun p hp => by rw [List.mem_singleton.mp hp]; exact List.mem_cons_self⟩, rfl, Int.le_refl _⟩
theorem loop_ok {A : L2.St → Hp → Prop} {d1 lp : Addr} (T : Txt K mg a) (q4 : TQ4 qr qs qh qn) (tk : TK qk qv qp qc) (hsh : TriplesOk qsh.toList)
    (hC : Ctx K B H ((lp, .lst []) :: (aL, .dK [(Sum.inr "ann", .ref lp)]) :: (cL, .dK [(Sum.inr "ann", .non)]) :: PL a po dx cd ad [("ann", .non)] [("ann", d1, [])] (some "ann") 0 0 ((dd, .lst [.int i, .int j, .int l]) :: tabs a qr qs qh qc qsh qn qk qv qp tbS tbl F0)) [.tab (lamq "_law_settings") tbS, .tab (lamq "law") tbl])
    (k : ∀ σ' qr qs qh qc qsh qn qk qv qp tbS tbl H', S0 s σ' → Lay H' (tabs a qr qs qh qc qsh qn qk qv qp tbS tbl F0) → TQA qr qs qh qc qsh qn qk qv qp → TabOK (lamq "_law_settings") tbS H' → TabOK (lamq "law") tbl H' → A σ' H') :
    t_law_tail33 K a E ⟨A, Rt, Bk, Ct⟩ [some (.ref s), some (.ref dd), some (.ref po), some (.ref cL), some (.ref aL), some (.str "ann"), some (.int 0), some (.int 0), some (.int 0), v9, v10, v11, v12, v13, v14, v15, v16, v17, v18, v19, v20, v21, v22] H := by
  unfold t_law_tail33
  unfold PL tabs at hC
  walk_at "go"
  have hC1 := hC.rebase
  have hts := hC1.im (.tab (lamq "_law_settings") tbS) (by walk_at "mem")
  refine for_rng (n := rr.toNat) (fun n σ H1 => WL K a H s dd po dx cd ad ((a.tb_Kind_check, .tbl qc) :: (a.tb_Settings_shown, .tbl qsh) :: (a.tb_check_key, .tbl qk) :: (a.tb_check_value, .tbl qv) :: (a.tb_is_span, .tbl qp) :: (a.tb_law_settings, .tbl tbS) :: F0) σ H1) ?_ ?_ ?_
  · refine wlin (here := some "ann") (codes := [("ann", .non)]) (aps := [("ann", d1, [])]) (lps := [("ann", lp, [])]) (i := di) (j := dj) (l := dl) (tb := tbl) linv0 q4 ⟨?_, one_im hC1 (by walk_at "mem"), hC1.sb⟩
    unfold LWL PL
    show Lay H ((dd, .lst [.int di, .int dj, .int dl]) :: (cL, .dK [(Sum.inr "ann", .non)]) :: (aL, .dK [(Sum.inr "ann", .ref lp)]) :: (a.tb_People_remove, .tbl qr) :: (a.tb_People_set_code, .tbl qs) :: (a.tb_People_has_app, .tbl qh) :: (a.tb_check_name, .tbl qn) :: (a.tb_law, .tbl tbl) :: (lp, .lst []) :: (po, .ins a.c_People dx [("owner", .str "ann"), ("codes", .ref cd), ("apps", .ref ad), ("here", pV (some "ann")), ("failed", .int 0), ("locked_until", .int 0)]) :: (cd, .dK (mK id [("ann", .non)])) :: (ad, .dK (mK (fun p : Addr × List Str => V.ref p.1) [("ann", d1, [])])) :: (acells [("ann", d1, [])] ++ _))
    walk_at "lay3"
  · rintro n σ H1 hn ⟨i, j, l, fl, un, tm, cL, aL, qr, qs, qh, qn, tb, codes, aps, lps, here, v9, v10, v11, v12, v13, v14, v15, v16, v17, v18, v19, v20, v21, v22, rfl, h, tq, hC⟩
    refine s_name (by walk_at "set") ?_
    exact for32_ok T h tq hC (fun σ H w => w)
  · rintro σ H1 ⟨i, j, l, fl, un, tm, cL, aL, qr, qs, qh, qn, tb, codes, aps, lps, here, v9, v10, v11, v12, v13, v14, v15, v16, v17, v18, v19, v20, v21, v22, rfl, h, tq, hC⟩
    refine k _ qr qs qh qc qsh qn qk qv qp tbS tb H1 S0.mk ?_ ⟨tq, tk, hsh⟩ (Im.mono (K := K) (i := .tab (lamq "_law_settings") tbS) hC.sb hts) (hC.im (.tab (lamq "law") tb) (by walk_at "mem"))
    unfold LWL PL at hC
    unfold tabs
    walk_at "lay3"
theorem for35_ok {H0 : Hp} {A : L2.St → Hp → Prop} {Rt : VK} {σ : L2.St} (T : Txt K mg a) (y : Lay H0 ((dd, .lst [.int i, .int j, .int l]) :: tabs a qr qs qh qc qsh qn qk qv qp tbS tbl F0)) (tq : TQA qr qs qh qc qsh qn qk qv qp) (r1 : TabOK (lamq "_law_settings") tbS H0) (r2 : TabOK (lamq "law") tbl H0) (hs : SDd s dd σ)
    (k : ∀ σ' qr qs qh qc qsh qn qk qv qp tbS tbl H', S0 s σ' → Lay H' (tabs a qr qs qh qc qsh qn qk qv qp tbS tbl F0) → TQA qr qs qh qc qsh qn qk qv qp → TabOK (lamq "_law_settings") tbS H' → TabOK (lamq "law") tbl H' → A σ' H') :
    t_law_for35 K a E ⟨A, Rt, Bk, Ct⟩ σ H0 := by
  have hC := (Ctx.start (K := K) y).add (i := .tab (lamq "law") tbl) r2
  cases hs with
  | mk =>
  unfold tabs at hC
  unfold t_law_for35
  walk_at "go"
  refine c_lset hC (by unfold KT; walk_at "perm3") r1 tq.sh tq.tk (fun H1 i j l qsh tbS qk qv qp qc h1 h2 tk hC => ?_)
  replace hC := hC.add (i := .tab (lamq "_law_settings") tbS) h1
  unfold KT at hC
  walk_at "go"
  unfold t_law_tail34
  walk_at "go"
  refine c_pinit hC (by walk_at "perm3") tq.q4.n (fun cd ad d1 q' H hq hC => ?_)
  unfold PL at hC
  walk_at "go"
  exact loop_ok (i := i) (j := j) (l := l) T ⟨tq.q4.r, tq.q4.s, tq.q4.h, hq⟩ tk h2 (d1 := d1) ⟨by unfold PL tabs; walk_at "lay3", fun j hj => hC.im j (by
    rcases List.mem_cons.mp hj with rfl | hj
    · walk_at "mem"
    · rcases List.mem_cons.mp hj with rfl | hj
      · walk_at "mem"
      · cases hj), hC.sb⟩ k
end
section
variable {K : PySem.W.Frag} {mg : Str → Option Value} {a : Adr} {vs : List V} {B H : Hp} {Q : VK} {E : XK} {L L' F F0 : List (Addr × HO)} {I : List Im}
theorem pure_law (T : Txt K mg a) (h : sp_law K a vs H Q E) : t_law K a E { nx := fun _ H' => Q .non H', rt := Q } (L2.start N_law vs) H := by
  obtain ⟨_, s, ns, rfl, hs, y0, k⟩ := h
  unfold t_law
  walk_at "start"
  walk_at "go"
  refine ⟨rfl, s, 1, ns, _, rfl, hs, y0, by decide, by decide, fun p ds H1 s1 y => ?_⟩
  have hC := Ctx.start (K := K) y
  walk_at "go"
  refine for_lst (xs := ds.map fun d => V.ref d.1) (fun t σ H => ∃ (es : List (Addr × Int × Int × Int)) (qr qs qh qc qsh qn qk qv qp tbS tbl : Array Value), S0 s σ ∧
      es.map (fun d => V.ref d.1) = (ds.map fun d => V.ref d.1).drop t ∧ Lay H ((p, .lst (ds.map fun d => V.ref d.1)) :: (DL es ++ tabs a qr qs qh qc qsh qn qk qv qp tbS tbl [])) ∧ TQA qr qs qh qc qsh qn qk qv qp ∧ TabOK (lamq "_law_settings") tbS H ∧ TabOK (lamq "law") tbl H)
    ⟨ds, #[], #[], #[], #[], #[], #[], #[], #[], #[], #[], #[], S0.mk, rfl, y, ⟨⟨True.intro, True.intro, True.intro, True.intro⟩, ⟨True.intro, True.intro, True.intro, True.intro⟩, True.intro⟩, tab0, tab0⟩ ?_ ?_ ?_
  · rintro t σ H ht ⟨es, qr, qs, qh, qc, qsh, qn, qk, qv, qp, tbS, tbl, hs, he, y, r, r1, r2⟩
    exact y.get List.mem_cons_self
  · rintro t x σ H hx ⟨es, qr, qs, qh, qc, qsh, qn, qk, qv, qp, tbS, tbl, hs, he, y, r, r1, r2⟩
    cases hs with
    | mk =>
    obtain ⟨hlt, hx⟩ := List.getElem?_eq_some_iff.mp hx
    rw [List.drop_eq_getElem_cons hlt, hx] at he
    cases es with
    | nil => cases he
    | cons e es =>
      rw [List.map_cons] at he
      obtain ⟨rfl, he2⟩ := List.cons.inj he
      obtain ⟨d, i, j, l⟩ := e
      walk_at "go"
      have y1 : Lay H ((d, .lst [.int i, .int j, .int l]) :: tabs a qr qs qh qc qsh qn qk qv qp tbS tbl ((p, .lst (ds.map fun d => V.ref d.1)) :: DL es)) := by
        refine y.perm ?_
        show (_ :: ((d, _) :: (DL es ++ [_, _, _, _, _, _, _, _, _, _, _]))).Perm _
        refine (List.Perm.swap _ _ _).trans (List.Perm.cons _ ?_)
        exact (List.perm_append_comm (l₁ := (p, HO.lst (ds.map fun d => V.ref d.1)) :: DL es) (l₂ := tabs a qr qs qh qc qsh qn qk qv qp tbS tbl []))
      exact for35_ok (E := E) T y1 r r1 r2 SDd.mk (fun σ' qr' qs' qh' qc' qsh' qn' qk' qv' qp' tbS' tbl' H' hs' y' r' r1' r2' => ⟨es, qr', qs', qh', qc', qsh', qn', qk', qv', qp', tbS', tbl', hs', he2, y'.perm (show (tabs a qr' qs' qh' qc' qsh' qn' qk' qv' qp' tbS' tbl' [] ++ ((p, HO.lst (ds.map fun d => V.ref d.1)) :: DL es)).Perm (((p, HO.lst (ds.map fun d => V.ref d.1)) :: DL es) ++ tabs a qr' qs' qh' qc' qsh' qn' qk' qv' qp' tbS' tbl' []) from List.perm_append_comm), r', r1', r2'⟩)
  · rintro σ H ⟨es, qr, qs, qh, qc, qsh, qn, qk, qv, qp, tbS, tbl, hs, he, y, r, r1, r2⟩
    cases hs with
    | mk =>
    have y := lay_appR' (L := _ :: DL es) y
    have hC := (Ctx.start (K := K) y).add (i := .tab (lamq "law") tbl) r2
    unfold tabs at hC
    clear y y0 hs s1 he
    unfold t_law_tail36
    walk_at "go"
    refine c_pinitF hC (by walk_at "perm3") r.q4.n (fun q' H hq hC => ?_)
    walk_at "go"
    refine c_pinit hC (by walk_at "perm3") hq (fun cd ad d1 q2 H hq2 hC => ?_)
    walk_at "go"
    refine c_need hC (by unfold PL; walk_at "perm3") rfl (fun H hC => ?_)
    walk_at "go"
    exact k _
end
end Wk
namespace Wk
open PySem PySem.Spec PyProof.Rows L2 Ph
open LamX (TTold told_gives lamS_by TabB)
section
variable {P : Program} {w : World} {K : PySem.W.Frag} {mg : Str → Option Value} {base : Heap} {a : Adr}
theorem ok_People__init (T : Txt K mg a) (G_check_name : FnOk P w K mg base (L2.CX P w) 8 a.f_check_name a.fd_check_name ["name"] (sp_check_name K a)) : FnOk P w K mg base (L2.CX P w) 9 a.f_People__init a.fd_People__init ["self", "owner"] (sp_People__init K a) := by
  refine FunD.ok T.fn_People__init sc_People__init (fun _ _ _ _ h => h.1) (fun cdv A outer s H vs Q E hr h => ⟨t_People__init K a E, ?_, pure_People__init T h⟩)
  have hu := hr.units
  have hr_check_name := hr.mono (show 8 ≤ 8 by decide)
  exact (pss_cons (ps_expr (pe_call G_check_name hr_check_name rfl T.mg_check_name T.fn_check_name.kp T.bi_check_name .nil passX (pa_cons (pv 1) pa_nil))) (pss_cons (ps_fld (pv 0) (pv 1) rfl) (pss_cons (ps_fld (pv 0) (pe_disp (pps_cons (pv 1) pe_non pps_nil) (by rfl) (by rfl) (fun z => by cases z) (by decide)) rfl) (pss_cons (ps_fld (pv 0) (pe_disp (pps_cons (pv 1) pe_dnewK pps_nil) (by rfl) (by rfl) (fun z => by cases z) (by decide)) rfl) (pss_cons (ps_fld (pv 0) (pv 1) rfl) (pss_cons (ps_fld (pv 0) pe_int rfl) (pss_one (ps_fld (pv 0) pe_int rfl))))))))
theorem ok_People_need_owner (T : Txt K mg a) : FnOk P w K mg base (L2.CX P w) 1 a.f_People_need_owner a.fd_People_need_owner ["self"] (sp_People_need_owner K a) := by
  refine FunD.ok T.fn_People_need_owner sc_People_need_owner (fun _ _ _ _ h => h.1) (fun cdv A outer s H vs Q E hr h => ⟨t_People_need_owner K a E, ?_, pure_People_need_owner T h⟩)
  have hu := hr.units
  exact (pss_one (ps_if (pt_cmpR (u_ne hu) (pe_fld (pv 0) rfl) (pe_fld (pv 0) rfl) (nomark _)) (pss_one (ps_raise rfl (takes_of rfl rfl rfl rfl) (pmk_own PySem.F.excBase_ValueError T.xc_RightFault T.mgc_RightFault T.kc_RightFault (raises_own T.bc_RightFault T.tc_RightFault) (by rfl)))) pss_nil))
theorem ok_People_add (T : Txt K mg a) (G_People_need_owner : FnOk P w K mg base (L2.CX P w) 1 a.f_People_need_owner a.fd_People_need_owner ["self"] (sp_People_need_owner K a)) (G_check_name : FnOk P w K mg base (L2.CX P w) 8 a.f_check_name a.fd_check_name ["name"] (sp_check_name K a)) : FnOk P w K mg base (L2.CX P w) 9 a.f_People_add a.fd_People_add ["self", "name"] (sp_People_add K a) := by
  refine FunD.ok T.fn_People_add sc_People_add (fun _ _ _ _ h => h.1) (fun cdv A outer s H vs Q E hr h => ⟨t_People_add K a E, ?_, pure_People_add T h⟩)
  have hu := hr.units
  have hr_People_need_owner := hr.mono (show 1 ≤ 8 by decide)
  have hr_check_name := hr.mono (show 8 ≤ 8 by decide)
  exact (pss_cons (ps_expr (pe_meth0 (pv 0) T.cl_People T.me_People_need_owner G_People_need_owner hr_People_need_owner T.bi_People_need_owner .nil passX)) (pss_cons (ps_expr (pe_call G_check_name hr_check_name rfl T.mg_check_name T.fn_check_name.kp T.bi_check_name .nil passX (pa_cons (pv 1) pa_nil))) (pss_cons (ps_if (PW.pt (pw_or (pt_cmpR (u_inV hu) (pv 1) (pe_fld (pv 0) rfl) (by rfl)) (pw_or1 (pt_cmpR u_ge (pe_callB u_len (by rfl) T.no_len (by decide +kernel) (pa_cons (pe_fld (pv 0) rfl) pa_nil)) (pe_gint rfl T.gl_MOST_PEOPLE) (nomark _))))) (pss_one (ps_raise rfl (takes_of rfl rfl rfl rfl) (pmk_own PySem.F.excBase_ValueError T.xc_RightFault T.mgc_RightFault T.kc_RightFault (raises_own T.bc_RightFault T.tc_RightFault) (by rfl)))) pss_nil) (pss_cons (ps_asg pe_non (pg_sub (pe_fld (pv 0) rfl) (pv 1) (u_set hu))) (pss_one (ps_asg pe_dnewK (pg_sub (pe_fld (pv 0) rfl) (pv 1) (u_set hu))))))))
theorem ok_People_remove (T : Txt K mg a) (G_People_has_app : FnOk P w K mg base (L2.CX P w) 8 a.f_People_has_app a.fd_People_has_app ["self", "app"] (sp_People_has_app K a)) (G_People_need_owner : FnOk P w K mg base (L2.CX P w) 1 a.f_People_need_owner a.fd_People_need_owner ["self"] (sp_People_need_owner K a)) (TB_People_remove : TabB base mg a.cc_People_remove a.tb_People_remove) : FnOk P w K mg base (L2.CX P w) 16 a.f_People_remove a.fd_People_remove ["self", "name"] (sp_People_remove K a) := by
  refine FunD.okC T.fn_People_remove sc_People_remove (fun _ _ _ _ h => h.1) (fun cdv A outer s H vs Q E hr hcc h => ⟨t_People_remove K a E, ?_, pure_People_remove T h⟩)
  have hu := hr.units
  have hr_People_need_owner := hr.mono (show 1 ≤ 15 by decide)
  have hcode : cdv = .ref a.cc_People_remove := hcc.symm.trans T.cd_People_remove
  subst hcode
  have HR7 := hr.mono (show 8 + 7 ≤ 15 by decide)
  exact (pss_cons (ps_expr (pe_meth0 (pv 0) T.cl_People T.me_People_need_owner G_People_need_owner hr_People_need_owner T.bi_People_need_owner .nil passX)) (pss_cons (ps_if (PW.pt (pw_or (pt_cmpR (u_eq hu) (pv 1) (pe_fld (pv 0) rfl) (nomark _)) (pw_or1 (pt_cmpR (u_notinV hu) (pv 1) (pe_fld (pv 0) rfl) (by rfl))))) (pss_one (ps_raise rfl (takes_of rfl rfl rfl rfl) (pmk_own PySem.F.excBase_ValueError T.xc_RightFault T.mgc_RightFault T.kc_RightFault (raises_own T.bc_RightFault T.tc_RightFault) (by rfl)))) pss_nil) (pss_cons (ps_set (i := 2) sc_People_remove.nd rfl (by first | exact Or.inl rfl | exact Or.inr rfl) (pe_dpop1 (pe_fld (pv 0) rfl) (pv 1) ⟨rfl, rfl, rfl, rfl⟩)) (pss_cons (ps_ddel (pe_fld (pv 0) rfl) (pv 1)) (pss_one (ps_ret (pe_tupX (own := [("app", 3)]) (g := (gName 3)) (tt := (tNot (tTruth K (tMeth a.c_People "has_app" (sp_People_has_app K a) [] E0 (tVar 0) (tCons (tVar 3) tNil))))) (GenP.mk HR7 rfl sc_People_remove.nd (tabG TB_People_remove) rfl (gensx_by (by decide +kernel)) (pi_list (pe_callB (u_sorted rfl) (by rfl) T.no_sorted (by decide +kernel) (pa_cons (pv 2) pa_nil))) (blkOk_by (N := N_People_remove) (sc := defScope s_People_remove) (by decide +kernel)) (fun _ _ _ _ _ _ _ hrg => (pg_name (i := 3) sc_People_remove.nd rfl (by first | exact Or.inl rfl | exact Or.inr rfl))) (fun _ _ _ _ _ _ _ hrg => (pts_one (pt_not (pt_tru (pe_meth (pv 0) T.cl_People T.me_People_has_app G_People_has_app (hrg.mono (by decide)) T.bi_People_has_app .nil passL (pa_cons (pv 3) pa_nil)))))) (fun _ _ _ _ _ _ _ hrg => (pv 3)) (fun _ => rfl)) rfl T.no_tuple)))))))
theorem ok_People_set_code (T : Txt K mg a) (TB_People_set_code : TabB base mg a.cc_People_set_code a.tb_People_set_code) : FnOk P w K mg base (L2.CX P w) 8 a.f_People_set_code a.fd_People_set_code ["self", "code"] (sp_People_set_code K a) := by
  refine FunD.okC T.fn_People_set_code sc_People_set_code (fun _ _ _ _ h => h.1) (fun cdv A outer s H vs Q E hr hcc h => ⟨t_People_set_code K a E, ?_, pure_People_set_code T h⟩)
  have hu := hr.units
  have hcode : cdv = .ref a.cc_People_set_code := hcc.symm.trans T.cd_People_set_code
  subst hcode
  have HR7 := hr.mono (show 0 + 7 ≤ 7 by decide)
  exact (pss_cons (ps_if (pt_cmpR u_is (pe_fld (pv 0) rfl) pe_non (nomark _)) (pss_one (ps_raise rfl (takes_of rfl rfl rfl rfl) (pmk_own PySem.F.excBase_ValueError T.xc_RightFault T.mgc_RightFault T.kc_RightFault (raises_own T.bc_RightFault T.tc_RightFault) (by rfl)))) pss_nil) (pss_cons (ps_if (PW.pt (pw_and (pt_cmpR u_notN (pv 1) pe_non (nomark _)) (pw_and1 (PW.pt (pw_or (pt_not (pt_chain u_le u_le pe_int (pe_callB u_len (by rfl) T.no_len (by decide +kernel) (pa_cons (pv 1) pa_nil)) pe_int)) (pw_or1 (pt_tru (pe_anyG hr rfl T.no_any (tabG TB_People_set_code) rfl (genS_by (by decide +kernel)) (pv 1) (elt_ninC rfl rfl) (fun _ => rfl))))))))) (pss_one (ps_raise rfl (takes_of rfl rfl rfl rfl) (pmk_own PySem.F.excBase_ValueError T.xc_RightFault T.mgc_RightFault T.kc_RightFault (raises_own T.bc_RightFault T.tc_RightFault) (by rfl)))) pss_nil) (pss_one (ps_asg (pv 1) (pg_sub (pe_fld (pv 0) rfl) (pe_fld (pv 0) rfl) (u_set hu))))))
theorem ok_People_leave (T : Txt K mg a) : FnOk P w K mg base (L2.CX P w) 1 a.f_People_leave a.fd_People_leave ["self"] (sp_People_leave K a) := by
  refine FunD.ok T.fn_People_leave sc_People_leave (fun _ _ _ _ h => h.1) (fun cdv A outer s H vs Q E hr h => ⟨t_People_leave K a E, ?_, pure_People_leave T h⟩)
  have hu := hr.units
  exact (pss_one (ps_fld (pv 0) pe_non rfl))
theorem ok_People_enter (T : Txt K mg a) : FnOk P w K mg base (L2.CX P w) 1 a.f_People_enter a.fd_People_enter ["self", "name", "code", "time"] (sp_People_enter K a) := by
  refine FunD.ok T.fn_People_enter sc_People_enter (fun _ _ _ _ h => h.1) (fun cdv A outer s H vs Q E hr h => ⟨t_People_enter K a E, ?_, pure_People_enter T h⟩)
  have hu := hr.units
  exact (pss_cons (ps_if (PW.pt (pw_or (pt_cmpR u_lt (pv 3) (pe_fld (pv 0) rfl) (nomark _)) (pw_or1 (pt_cmpR (u_notinV hu) (pv 1) (pe_fld (pv 0) rfl) (by rfl))))) (pss_one (ps_raise rfl (takes_of rfl rfl rfl rfl) (pmk_own PySem.F.excBase_ValueError T.xc_RightFault T.mgc_RightFault T.kc_RightFault (raises_own T.bc_RightFault T.tc_RightFault) (by rfl)))) pss_nil) (pss_cons (ps_if (PW.pt (pw_and (pt_cmpR u_notN (pe_ix (u_ix hu) (pe_fld (pv 0) rfl) (pv 1) (fun _ _ => rfl)) pe_non (nomark _)) (pw_and1 (pt_cmpR (u_ne hu) (pe_ix (u_ix hu) (pe_fld (pv 0) rfl) (pv 1) (fun _ _ => rfl)) (pv 2) (nomark _))))) (pss_cons (ps_fldaug (pv 0) pe_int (in_of u_iadd)) (pss_cons (ps_if (pt_cmpR u_ge (pe_fld (pv 0) rfl) pe_int (nomark _)) (pss_cons (ps_set (i := 4) sc_People_enter.nd rfl (by first | exact Or.inl rfl | exact Or.inr rfl) pe_int) (pss_cons (ps_for (passes_of rfl) rfl (pi_range1 rfl T.no_range (pa_cons (pe_callB (call_min2 rfl) (by rfl) T.no_min (by decide +kernel) (pa_cons (pe_op u_sub (pe_fld (pv 0) rfl) pe_int) (pa_cons pe_int pa_nil))) pa_nil)) (pg_name (i := 5) sc_People_enter.nd rfl (by first | exact Or.inl rfl | exact Or.inr rfl)) (pss_one (ps_aug (i := 4) sc_People_enter.nd rfl (by first | exact Or.inl rfl | exact Or.inr rfl) pe_int (ip_of u_imul)))) (pss_one (ps_fld (pv 0) (pe_op u_add (pv 3) (pv 4)) rfl)))) pss_nil) (pss_one (ps_raise rfl (takes_of rfl rfl rfl rfl) (pmk_own PySem.F.excBase_ValueError T.xc_RightFault T.mgc_RightFault T.kc_RightFault (raises_own T.bc_RightFault T.tc_RightFault) (by rfl)))))) pss_nil) (pss_cons (ps_fld (pv 0) pe_int rfl) (pss_one (ps_fld (pv 0) (pv 1) rfl)))))
theorem ok_People_give (T : Txt K mg a) : FnOk P w K mg base (L2.CX P w) 1 a.f_People_give a.fd_People_give ["self", "app"] (sp_People_give K a) := by
  refine FunD.ok T.fn_People_give sc_People_give (fun _ _ _ _ h => h.1) (fun cdv A outer s H vs Q E hr h => ⟨t_People_give K a E, ?_, pure_People_give T h⟩)
  have hu := hr.units
  exact (pss_cons (ps_if (pt_cmpR u_is (pe_fld (pv 0) rfl) pe_non (nomark _)) (pss_one (ps_raise rfl (takes_of rfl rfl rfl rfl) (pmk_own PySem.F.excBase_ValueError T.xc_RightFault T.mgc_RightFault T.kc_RightFault (raises_own T.bc_RightFault T.tc_RightFault) (by rfl)))) pss_nil) (pss_one (ps_asg pe_bl (pg_sub (pe_ix (u_ix hu) (pe_fld (pv 0) rfl) (pe_fld (pv 0) rfl) (fun _ _ => rfl)) (pv 1) (u_set hu)))))
theorem ok_People_take (T : Txt K mg a) (G_People_has_app : FnOk P w K mg base (L2.CX P w) 8 a.f_People_has_app a.fd_People_has_app ["self", "app"] (sp_People_has_app K a)) : FnOk P w K mg base (L2.CX P w) 9 a.f_People_take a.fd_People_take ["self", "app"] (sp_People_take K a) := by
  refine FunD.ok T.fn_People_take sc_People_take (fun _ _ _ _ h => h.1) (fun cdv A outer s H vs Q E hr h => ⟨t_People_take K a E, ?_, pure_People_take T h⟩)
  have hu := hr.units
  have hr_People_has_app := hr.mono (show 8 ≤ 8 by decide)
  exact (pss_cons (ps_if (PW.pt (pw_or (pt_cmpR u_is (pe_fld (pv 0) rfl) pe_non (nomark _)) (pw_or1 (pt_cmpR (u_notinV hu) (pv 1) (pe_ix (u_ix hu) (pe_fld (pv 0) rfl) (pe_fld (pv 0) rfl) (fun _ _ => rfl)) (by rfl))))) (pss_one (ps_raise rfl (takes_of rfl rfl rfl rfl) (pmk_own PySem.F.excBase_ValueError T.xc_RightFault T.mgc_RightFault T.kc_RightFault (raises_own T.bc_RightFault T.tc_RightFault) (by rfl)))) pss_nil) (pss_cons (ps_ddel (pe_ix (u_ix hu) (pe_fld (pv 0) rfl) (pe_fld (pv 0) rfl) (fun _ _ => rfl)) (pv 1)) (pss_one (ps_ret (pe_not (pe_meth (pv 0) T.cl_People T.me_People_has_app G_People_has_app hr_People_has_app T.bi_People_has_app .nil passX (pa_cons (pv 1) pa_nil)))))))
theorem ok_People_has_app (T : Txt K mg a) (TB_People_has_app : TabB base mg a.cc_People_has_app a.tb_People_has_app) : FnOk P w K mg base (L2.CX P w) 8 a.f_People_has_app a.fd_People_has_app ["self", "app"] (sp_People_has_app K a) := by
  refine FunD.okC T.fn_People_has_app sc_People_has_app (fun _ _ _ _ h => h.1) (fun cdv A outer s H vs Q E hr hcc h => ⟨t_People_has_app K a E, ?_, pure_People_has_app T h⟩)
  have hu := hr.units
  have hcode : cdv = .ref a.cc_People_has_app := hcc.symm.trans T.cd_People_has_app
  subst hcode
  have HR7 := hr.mono (show 0 + 7 ≤ 7 by decide)
  exact (pss_one (ps_ret (pe_lock (pe_anyX (own := [("name", 2)]) (g := (gName 2)) (tt := tYes) (GenP.mk HR7 rfl sc_People_has_app.nd (tabG TB_People_has_app) rfl (gensx_by (by decide +kernel)) (pi_keys (pe_fld (pv 0) rfl)) (blkOk_by (N := N_People_has_app) (sc := defScope s_People_has_app) (by decide +kernel)) (fun _ _ _ _ _ _ _ hrg => (pg_name (i := 2) sc_People_has_app.nd rfl (by first | exact Or.inl rfl | exact Or.inr rfl))) (fun _ _ _ _ _ _ _ hrg => pts_nil) (fun _ _ _ _ _ _ _ hrg => (pe_cmpR (u_inV hrg.units) (pv 1) (pe_ix (u_ix hrg.units) (pe_fld (pv 0) rfl) (pv 2) (fun _ _ => rfl)) (by rfl))) (fun _ => rfl)) rfl T.no_any))))
theorem ok_People_sees (T : Txt K mg a) : FnOk P w K mg base (L2.CX P w) 1 a.f_People_sees a.fd_People_sees ["self", "app"] (sp_People_sees K a) := by
  refine FunD.ok T.fn_People_sees sc_People_sees (fun _ _ _ _ h => h.1) (fun cdv A outer s H vs Q E hr h => ⟨t_People_sees K a E, ?_, pure_People_sees T h⟩)
  have hu := hr.units
  exact (pss_one (ps_ret (pe_and (pe_cmpR u_notN (pe_fld (pv 0) rfl) pe_non (nomark _)) (pe_one (pe_cmpR (u_inV hu) (pv 1) (pe_ix (u_ix hu) (pe_fld (pv 0) rfl) (pe_fld (pv 0) rfl) (fun _ _ => rfl)) (by rfl))))))
theorem ok_Kind__init (T : Txt K mg a) : FnOk P w K mg base (L2.CX P w) 1 a.f_Kind__init a.fd_Kind__init ["self", "default", "allowed"] (sp_Kind__init K a) := by
  refine FunD.ok T.fn_Kind__init sc_Kind__init (fun _ _ _ _ h => h.1) (fun cdv A outer s H vs Q E hr h => ⟨t_Kind__init K a E, ?_, pure_Kind__init T h⟩)
  have hu := hr.units
  exact (pss_cons (ps_fld (pv 0) (pv 1) rfl) (pss_one (ps_fld (pv 0) (pv 2) rfl)))
theorem ok_Kind_check (T : Txt K mg a) (G_check_value : FnOk P w K mg base (L2.CX P w) 8 a.f_check_value a.fd_check_value ["value", "depth"] (sp_check_value K a)) (G_is_span : FnOk P w K mg base (L2.CX P w) 8 a.f_is_span a.fd_is_span ["allowed"] (sp_is_span K a)) (TB_Kind_check : TabB base mg a.cc_Kind_check a.tb_Kind_check) : FnOk P w K mg base (L2.CX P w) 9 a.f_Kind_check a.fd_Kind_check ["self", "value"] (sp_Kind_check K a) := by
  refine FunD.okC T.fn_Kind_check sc_Kind_check (fun _ _ _ _ h => h.1) (fun cdv A outer s H vs Q E hr hcc h => ⟨t_Kind_check K a E, ?_, pure_Kind_check T h⟩)
  have hu := hr.units
  have hr_check_value := hr.mono (show 8 ≤ 8 by decide)
  have hr_is_span := hr.mono (show 8 ≤ 8 by decide)
  obtain ⟨ds_check_value_1, vd_check_value_1, bd_check_value_1⟩ := T.bi_check_value_1
  have hcode : cdv = .ref a.cc_Kind_check := hcc.symm.trans T.cd_Kind_check
  subst hcode
  have HR7 := hr.mono (show 0 + 7 ≤ 8 by decide)
  exact (pss_cons (ps_if (pt_cmpR u_is (pe_fld (pv 0) rfl) pe_non (nomark _)) (pss_one (ps_set (i := 2) sc_Kind_check.nd rfl (by first | exact Or.inl rfl | exact Or.inr rfl) (pe_and (pe_callB call_isi (by rfl) T.no_isinstance (by decide +kernel) (pa_cons (pv 1) (pa_cons (pe_bltn rfl T.no_str (by decide +kernel) rfl) pa_nil))) (pe_one (pe_cmpR u_le (pe_callB u_len (by rfl) T.no_len (by decide +kernel) (pa_cons (pv 1) pa_nil)) pe_int (nomark _)))))) (pss_one (ps_if (pt_tru (pe_call G_is_span hr_is_span rfl T.mg_is_span T.fn_is_span.kp T.bi_is_span .nil passX (pa_cons (pe_fld (pv 0) rfl) pa_nil))) (pss_cons (ps_set (i := 2) sc_Kind_check.nd rfl (by first | exact Or.inl rfl | exact Or.inr rfl) (pe_and (pe_callB call_isi (by rfl) T.no_isinstance (by decide +kernel) (pa_cons (pv 1) (pa_cons (pe_bltn rfl T.no_int (by decide +kernel) rfl) pa_nil))) (pe_one (pe_not (pe_callB call_isi (by rfl) T.no_isinstance (by decide +kernel) (pa_cons (pv 1) (pa_cons (pe_bltn rfl T.no_bool (by decide +kernel) rfl) pa_nil))))))) (pss_one (ps_set (i := 2) sc_Kind_check.nd rfl (by first | exact Or.inl rfl | exact Or.inr rfl) (pe_and (pv 2) (pe_one (pe_chain u_le u_le (pe_ix (u_ix hu) (pe_fld (pv 0) rfl) pe_int (fun _ _ => rfl)) (pv 1) (pe_ix (u_ix hu) (pe_fld (pv 0) rfl) pe_int (fun _ _ => rfl)))))))) (pss_one (ps_set (i := 2) sc_Kind_check.nd rfl (by first | exact Or.inl rfl | exact Or.inr rfl) (pe_anyX (own := [("one", 3)]) (g := (gName 3)) (tt := tYes) (GenP.mk HR7 rfl sc_Kind_check.nd (tabG TB_Kind_check) rfl (gensx_by (by decide +kernel)) (pi_tup (pe_fld (pv 0) rfl)) (blkOk_by (N := N_Kind_check) (sc := defScope s_Kind_check) (by decide +kernel)) (fun _ _ _ _ _ _ _ hrg => (pg_name (i := 3) sc_Kind_check.nd rfl (by first | exact Or.inl rfl | exact Or.inr rfl))) (fun _ _ _ _ _ _ _ hrg => pts_nil) (fun _ _ _ _ _ _ _ hrg => (pe_and (pe_cmpR (u_eq hrg.units) (pv 1) (pv 3) (nomark _)) (pe_one (pe_cmpR (u_eq hrg.units) (pe_callB call_isi (by rfl) T.no_isinstance (by decide +kernel) (pa_cons (pv 1) (pa_cons (pe_bltn rfl T.no_bool (by decide +kernel) rfl) pa_nil))) (pe_callB call_isi (by rfl) T.no_isinstance (by decide +kernel) (pa_cons (pv 3) (pa_cons (pe_bltn rfl T.no_bool (by decide +kernel) rfl) pa_nil))) (nomark _))))) (fun _ => rfl)) rfl T.no_any)))))) (pss_cons (ps_if (pt_not (pt_tru (pv 2))) (pss_one (ps_raise rfl (takes_of rfl rfl rfl rfl) (pmk_own PySem.F.excBase_ValueError T.xc_NameFault T.mgc_NameFault T.kc_NameFault (raises_own T.bc_NameFault T.tc_NameFault) (by rfl)))) pss_nil) (pss_one (ps_expr (pe_call G_check_value hr_check_value rfl T.mg_check_value T.fn_check_value.kp bd_check_value_1 vd_check_value_1 passX (pa_cons (pv 1) pa_nil))))))
theorem ok_Settings__init (T : Txt K mg a) : FnOk P w K mg base (L2.CX P w) 1 a.f_Settings__init a.fd_Settings__init ["self"] (sp_Settings__init K a) := by
  refine FunD.ok T.fn_Settings__init sc_Settings__init (fun _ _ _ _ h => h.1) (fun cdv A outer s H vs Q E hr h => ⟨t_Settings__init K a E, ?_, pure_Settings__init T h⟩)
  have hu := hr.units
  exact (pss_cons (ps_fld (pv 0) pe_dnewK rfl) (pss_cons (ps_fld (pv 0) pe_dnewK rfl) (pss_cons (ps_fld (pv 0) pe_dnewT rfl) (pss_one (ps_fld (pv 0) pe_dnewK rfl)))))
theorem ok_Settings_declare (T : Txt K mg a) (G_Kind__init : FnOk P w K mg base (L2.CX P w) 1 a.f_Kind__init a.fd_Kind__init ["self", "default", "allowed"] (sp_Kind__init K a)) (G_Kind_check : FnOk P w K mg base (L2.CX P w) 9 a.f_Kind_check a.fd_Kind_check ["self", "value"] (sp_Kind_check K a)) (G_check_key : FnOk P w K mg base (L2.CX P w) 8 a.f_check_key a.fd_check_key ["key"] (sp_check_key K a)) : FnOk P w K mg base (L2.CX P w) 10 a.f_Settings_declare a.fd_Settings_declare ["self", "name", "default", "allowed"] (sp_Settings_declare K a) := by
  refine FunD.ok T.fn_Settings_declare sc_Settings_declare (fun _ _ _ _ h => h.1) (fun cdv A outer s H vs Q E hr h => ⟨t_Settings_declare K a E, ?_, pure_Settings_declare T h⟩)
  have hu := hr.units
  have hm_Kind__init := hr.mono (show 2 ≤ 9 by decide)
  have hr_Kind_check := hr.mono (show 9 ≤ 9 by decide)
  have hr_check_key := hr.mono (show 8 ≤ 9 by decide)
  exact (pss_cons (ps_expr (pe_call G_check_key hr_check_key rfl T.mg_check_key T.fn_check_key.kp T.bi_check_key .nil passX (pa_cons (pv 1) pa_nil))) (pss_cons (ps_if (pt_cmpR (u_inV hu) (pv 1) (pe_fld (pv 0) rfl) (by rfl)) (pss_one (ps_raise rfl (takes_of rfl rfl rfl rfl) (pmk_own PySem.F.excBase_ValueError T.xc_NameFault T.mgc_NameFault T.kc_NameFault (raises_own T.bc_NameFault T.tc_NameFault) (by rfl)))) pss_nil) (pss_cons (ps_set (i := 4) sc_Settings_declare.nd rfl (by first | exact Or.inl rfl | exact Or.inr rfl) (pe_make T.mk_Kind G_Kind__init hm_Kind__init rfl T.mgc_Kind T.bi_Kind__init .nil passX (pa_cons (pv 2) (pa_cons (pv 3) pa_nil)))) (pss_cons (ps_expr (pe_meth (pv 4) T.cl_Kind T.me_Kind_check G_Kind_check hr_Kind_check T.bi_Kind_check .nil passX (pa_cons (pv 2) pa_nil))) (pss_one (ps_asg (pv 4) (pg_sub (pe_fld (pv 0) rfl) (pv 1) (u_set hu))))))))
theorem ok_Settings_kind_of (T : Txt K mg a) : FnOk P w K mg base (L2.CX P w) 1 a.f_Settings_kind_of a.fd_Settings_kind_of ["self", "name"] (sp_Settings_kind_of K a) := by
  refine FunD.ok T.fn_Settings_kind_of sc_Settings_kind_of (fun _ _ _ _ h => h.1) (fun cdv A outer s H vs Q E hr h => ⟨t_Settings_kind_of K a E, ?_, pure_Settings_kind_of T h⟩)
  have hu := hr.units
  exact (pss_cons (ps_if (pt_cmpR (u_notinV hu) (pv 1) (pe_fld (pv 0) rfl) (by rfl)) (pss_one (ps_raise rfl (takes_of rfl rfl rfl rfl) (pmk_own PySem.F.excBase_ValueError T.xc_NameFault T.mgc_NameFault T.kc_NameFault (raises_own T.bc_NameFault T.tc_NameFault) (by rfl)))) pss_nil) (pss_one (ps_ret (pe_ix (u_ix hu) (pe_fld (pv 0) rfl) (pv 1) (fun _ _ => rfl)))))
theorem ok_Settings_set_value (T : Txt K mg a) (G_Kind_check : FnOk P w K mg base (L2.CX P w) 9 a.f_Kind_check a.fd_Kind_check ["self", "value"] (sp_Kind_check K a)) (G_Settings_kind_of : FnOk P w K mg base (L2.CX P w) 1 a.f_Settings_kind_of a.fd_Settings_kind_of ["self", "name"] (sp_Settings_kind_of K a)) : FnOk P w K mg base (L2.CX P w) 10 a.f_Settings_set_value a.fd_Settings_set_value ["self", "name", "value", "person"] (sp_Settings_set_value K a) := by
  refine FunD.ok T.fn_Settings_set_value sc_Settings_set_value (fun _ _ _ _ h => h.1) (fun cdv A outer s H vs Q E hr h => ⟨t_Settings_set_value K a E, ?_, pure_Settings_set_value T h⟩)
  have hu := hr.units
  have hr_Kind_check := hr.mono (show 9 ≤ 9 by decide)
  have hr_Settings_kind_of := hr.mono (show 1 ≤ 9 by decide)
  exact (pss_cons (ps_expr (pe_meth (pe_meth (pv 0) T.cl_Settings T.me_Settings_kind_of G_Settings_kind_of hr_Settings_kind_of T.bi_Settings_kind_of .nil passX (pa_cons (pv 1) pa_nil)) T.cl_Kind T.me_Kind_check G_Kind_check hr_Kind_check T.bi_Kind_check .nil passX (pa_cons (pv 2) pa_nil))) (pss_cons (ps_if (pt_cmpR (u_inV hu) (pv 1) (pe_fld (pv 0) rfl) (by rfl)) (pss_one (ps_raise rfl (takes_of rfl rfl rfl rfl) (pmk_own PySem.F.excBase_ValueError T.xc_NameFault T.mgc_NameFault T.kc_NameFault (raises_own T.bc_NameFault T.tc_NameFault) (by rfl)))) pss_nil) (pss_one (ps_if (pt_cmpR u_is (pv 3) pe_non (nomark _)) (pss_one (ps_asg (pv 2) (pg_sub (pe_fld (pv 0) rfl) (pv 1) (u_set hu)))) (pss_one (ps_asg (pv 2) (pg_sub (pe_fld (pv 0) rfl) (pe_tup (pa_cons (pv 3) (pa_cons (pv 1) pa_nil))) (u_set hu))))))))
theorem ok_Settings_clear (T : Txt K mg a) (G_Settings_kind_of : FnOk P w K mg base (L2.CX P w) 1 a.f_Settings_kind_of a.fd_Settings_kind_of ["self", "name"] (sp_Settings_kind_of K a)) : FnOk P w K mg base (L2.CX P w) 2 a.f_Settings_clear a.fd_Settings_clear ["self", "name", "person"] (sp_Settings_clear K a) := by
  refine FunD.ok T.fn_Settings_clear sc_Settings_clear (fun _ _ _ _ h => h.1) (fun cdv A outer s H vs Q E hr h => ⟨t_Settings_clear K a E, ?_, pure_Settings_clear T h⟩)
  have hu := hr.units
  have hr_Settings_kind_of := hr.mono (show 1 ≤ 1 by decide)
  exact (pss_cons (ps_expr (pe_meth (pv 0) T.cl_Settings T.me_Settings_kind_of G_Settings_kind_of hr_Settings_kind_of T.bi_Settings_kind_of .nil passX (pa_cons (pv 1) pa_nil))) (pss_one (ps_if (pt_cmpR u_is (pv 2) pe_non (nomark _)) (pss_one (ps_expr (pe_dpop2 (pe_fld (pv 0) rfl) (pv 1) pe_non ⟨rfl, rfl, rfl, rfl⟩))) (pss_one (ps_expr (pe_bm PySem.F.plainAttrs_dict PySem.F.slot_dict_pop PySem.F.type_dict_pop (DX.mt_popT (Nat.lt_of_le_of_lt (Nat.add_le_add_left (show 1 ≤ 64 by decide) _) hu)) (pe_fld (pv 0) rfl) (pa_cons (pe_tup (pa_cons (pv 2) (pa_cons (pv 1) pa_nil))) (pa_cons pe_non pa_nil))))))))
theorem ok_Settings_rule (T : Txt K mg a) (G_Kind_check : FnOk P w K mg base (L2.CX P w) 9 a.f_Kind_check a.fd_Kind_check ["self", "value"] (sp_Kind_check K a)) (G_Settings_kind_of : FnOk P w K mg base (L2.CX P w) 1 a.f_Settings_kind_of a.fd_Settings_kind_of ["self", "name"] (sp_Settings_kind_of K a)) : FnOk P w K mg base (L2.CX P w) 10 a.f_Settings_rule a.fd_Settings_rule ["self", "name", "value"] (sp_Settings_rule K a) := by
  refine FunD.ok T.fn_Settings_rule sc_Settings_rule (fun _ _ _ _ h => h.1) (fun cdv A outer s H vs Q E hr h => ⟨t_Settings_rule K a E, ?_, pure_Settings_rule T h⟩)
  have hu := hr.units
  have hr_Kind_check := hr.mono (show 9 ≤ 9 by decide)
  have hr_Settings_kind_of := hr.mono (show 1 ≤ 9 by decide)
  exact (pss_cons (ps_set (i := 3) sc_Settings_rule.nd rfl (by first | exact Or.inl rfl | exact Or.inr rfl) (pe_meth (pv 0) T.cl_Settings T.me_Settings_kind_of G_Settings_kind_of hr_Settings_kind_of T.bi_Settings_kind_of .nil passX (pa_cons (pv 1) pa_nil))) (pss_one (ps_if (pt_cmpR u_is (pv 2) pe_non (nomark _)) (pss_one (ps_expr (pe_dpop2 (pe_fld (pv 0) rfl) (pv 1) pe_non ⟨rfl, rfl, rfl, rfl⟩))) (pss_cons (ps_expr (pe_meth (pv 3) T.cl_Kind T.me_Kind_check G_Kind_check hr_Kind_check T.bi_Kind_check .nil passX (pa_cons (pv 2) pa_nil))) (pss_one (ps_asg (pv 2) (pg_sub (pe_fld (pv 0) rfl) (pv 1) (u_set hu))))))))
theorem ok_Settings_value (T : Txt K mg a) (G_Settings_kind_of : FnOk P w K mg base (L2.CX P w) 1 a.f_Settings_kind_of a.fd_Settings_kind_of ["self", "name"] (sp_Settings_kind_of K a)) : FnOk P w K mg base (L2.CX P w) 2 a.f_Settings_value a.fd_Settings_value ["self", "name", "person"] (sp_Settings_value K a) := by
  refine FunD.ok T.fn_Settings_value sc_Settings_value (fun _ _ _ _ h => h.1) (fun cdv A outer s H vs Q E hr h => ⟨t_Settings_value K a E, ?_, pure_Settings_value T h⟩)
  have hu := hr.units
  have hr_Settings_kind_of := hr.mono (show 1 ≤ 1 by decide)
  exact (pss_cons (ps_set (i := 3) sc_Settings_value.nd rfl (by first | exact Or.inl rfl | exact Or.inr rfl) (pe_meth (pv 0) T.cl_Settings T.me_Settings_kind_of G_Settings_kind_of hr_Settings_kind_of T.bi_Settings_kind_of .nil passX (pa_cons (pv 1) pa_nil))) (pss_cons (ps_if (pt_cmpR (u_inV hu) (pv 1) (pe_fld (pv 0) rfl) (by rfl)) (pss_one (ps_ret (pe_ix (u_ix hu) (pe_fld (pv 0) rfl) (pv 1) (fun _ _ => rfl)))) pss_nil) (pss_cons (ps_if (PW.pt (pw_and (pt_cmpR u_notN (pv 2) pe_non (nomark _)) (pw_and1 (pt_cmpR (u_inV hu) (pe_tup (pa_cons (pv 2) (pa_cons (pv 1) pa_nil))) (pe_fld (pv 0) rfl) (by rfl))))) (pss_one (ps_ret (pe_ix (u_ix hu) (pe_fld (pv 0) rfl) (pe_tup (pa_cons (pv 2) (pa_cons (pv 1) pa_nil))) (fun _ _ => rfl)))) pss_nil) (pss_one (ps_ret (pe_get2 hu (pe_fld (pv 0) rfl) (pv 1) (pe_fld (pv 3) rfl) ⟨rfl, rfl, rfl, rfl⟩))))))
theorem ok_Settings_shown (T : Txt K mg a) (G_Settings_value : FnOk P w K mg base (L2.CX P w) 2 a.f_Settings_value a.fd_Settings_value ["self", "name", "person"] (sp_Settings_value K a)) (TB_Settings_shown : TabB base mg a.cc_Settings_shown a.tb_Settings_shown) : FnOk P w K mg base (L2.CX P w) 10 a.f_Settings_shown a.fd_Settings_shown ["self"] (sp_Settings_shown K a) := by
  refine FunD.okC T.fn_Settings_shown sc_Settings_shown (fun _ _ _ _ h => h.1) (fun cdv A outer s H vs Q E hr hcc h => ⟨t_Settings_shown K a E, ?_, pure_Settings_shown T h⟩)
  have hu := hr.units
  obtain ⟨ds_Settings_value_2, vd_Settings_value_2, bd_Settings_value_2⟩ := T.bi_Settings_value_2
  have hcode : cdv = .ref a.cc_Settings_shown := hcc.symm.trans T.cd_Settings_shown
  subst hcode
  have HR7 := hr.mono (show 2 + 7 ≤ 9 by decide)
  exact (pss_one (ps_ret (pe_tupX (own := [("name", 1)]) (g := (gName 1)) (tt := tYes) (GenP.mk HR7 rfl sc_Settings_shown.nd (tabG TB_Settings_shown) rfl (gensx_by (by decide +kernel)) (pi_list (pe_callB (u_sorted rfl) (by rfl) T.no_sorted (by decide +kernel) (pa_cons (pe_fld (pv 0) rfl) pa_nil))) (blkOk_by (N := N_Settings_shown) (sc := defScope s_Settings_shown) (by decide +kernel)) (fun _ _ _ _ _ _ _ hrg => (pg_name (i := 1) sc_Settings_shown.nd rfl (by first | exact Or.inl rfl | exact Or.inr rfl))) (fun _ _ _ _ _ _ _ hrg => pts_nil) (fun _ _ _ _ _ _ _ hrg => (pe_tup (pa_cons (pv 1) (pa_cons (pe_meth (pv 0) T.cl_Settings T.me_Settings_value G_Settings_value (hrg.mono (by decide)) bd_Settings_value_2 vd_Settings_value_2 passL (pa_cons (pv 1) pa_nil)) pa_nil)))) (fun _ => rfl)) rfl T.no_tuple)))
theorem ok_check_name (T : Txt K mg a) (TB_check_name : TabB base mg a.cc_check_name a.tb_check_name) : FnOk P w K mg base (L2.CX P w) 8 a.f_check_name a.fd_check_name ["name"] (sp_check_name K a) := by
  refine FunD.okC T.fn_check_name sc_check_name (fun _ _ _ _ h => h.1) (fun cdv A outer s H vs Q E hr hcc h => ⟨t_check_name K a E, ?_, pure_check_name T h⟩)
  have hu := hr.units
  have hcode : cdv = .ref a.cc_check_name := hcc.symm.trans T.cd_check_name
  subst hcode
  have HR7 := hr.mono (show 0 + 7 ≤ 7 by decide)
  exact (pss_one (ps_if (PW.pt (pw_or (pt_not (pt_chain u_lt u_le pe_int (pe_callB u_len (by rfl) T.no_len (by decide +kernel) (pa_cons (pv 0) pa_nil)) pe_int)) (pw_or (pt_tru (pe_anyG hr rfl T.no_any (tabG TB_check_name) rfl (genS_by (by decide +kernel)) (pv 0) (elt_ninG rfl rfl rfl T.gl_NAME_LETTERS) (fun _ => rfl))) (pw_or (pt_cmpR (u_eq hu) (pe_ix (u_ix hu) (pv 0) pe_int (fun _ _ => rfl)) pe_str (nomark _)) (pw_or1 (pt_cmpR (u_eq hu) (pe_ix (u_ix hu) (pv 0) (pe_un un_neg pe_int) (fun _ _ => rfl)) pe_str (nomark _))))))) (pss_one (ps_raise rfl (takes_of rfl rfl rfl rfl) (pmk_own PySem.F.excBase_ValueError T.xc_NameFault T.mgc_NameFault T.kc_NameFault (raises_own T.bc_NameFault T.tc_NameFault) (by rfl)))) pss_nil))
theorem ok_check_key (T : Txt K mg a) (TB_check_key : TabB base mg a.cc_check_key a.tb_check_key) : FnOk P w K mg base (L2.CX P w) 8 a.f_check_key a.fd_check_key ["key"] (sp_check_key K a) := by
  refine FunD.okC T.fn_check_key sc_check_key (fun _ _ _ _ h => h.1) (fun cdv A outer s H vs Q E hr hcc h => ⟨t_check_key K a E, ?_, pure_check_key T h⟩)
  have hu := hr.units
  have hcode : cdv = .ref a.cc_check_key := hcc.symm.trans T.cd_check_key
  subst hcode
  have HR7 := hr.mono (show 0 + 7 ≤ 7 by decide)
  exact (pss_one (ps_if (PW.pt (pw_or (pt_not (pt_chain u_lt u_le pe_int (pe_callB u_len (by rfl) T.no_len (by decide +kernel) (pa_cons (pv 0) pa_nil)) pe_int)) (pw_or1 (pt_tru (pe_anyG hr rfl T.no_any (tabG TB_check_key) rfl (genS_by (by decide +kernel)) (pv 0) (elt_ninG rfl rfl rfl T.gl_KEY_LETTERS) (fun _ => rfl)))))) (pss_one (ps_raise rfl (takes_of rfl rfl rfl rfl) (pmk_own PySem.F.excBase_ValueError T.xc_NameFault T.mgc_NameFault T.kc_NameFault (raises_own T.bc_NameFault T.tc_NameFault) (by rfl)))) pss_nil))
theorem ok_check_value (T : Txt K mg a) (TB_check_value : TabB base mg a.cc_check_value a.tb_check_value) : FnOk P w K mg base (L2.CX P w) 8 a.f_check_value a.fd_check_value ["value", "depth"] (sp_check_value K a) := by
  refine FunD.okC T.fn_check_value sc_check_value (fun _ _ _ _ h => h.1) (fun cdv A outer s H vs Q E hr hcc h => ⟨t_check_value K a E, ?_, pure_check_value T h⟩)
  have hu := hr.units
  have hcode : cdv = .ref a.cc_check_value := hcc.symm.trans T.cd_check_value
  subst hcode
  have HR7 := hr.mono (show 0 + 7 ≤ 7 by decide)
  exact (pss_one (ps_if (pt_tru (pe_callB call_isi (by rfl) T.no_isinstance (by decide +kernel) (pa_cons (pv 0) (pa_cons (pe_bltn rfl T.no_tuple (by decide +kernel) rfl) pa_nil)))) pss_never (pss_one (ps_if (pt_tru (pe_callB call_isi (by rfl) T.no_isinstance (by decide +kernel) (pa_cons (pv 0) (pa_cons (pe_bltn rfl T.no_str (by decide +kernel) rfl) pa_nil)))) (pss_one (ps_if (PW.pt (pw_or (pt_cmpR u_gt (pe_callB u_len (by rfl) T.no_len (by decide +kernel) (pa_cons (pv 0) pa_nil)) (pe_gint rfl T.gl_MOST_TEXT) (nomark _)) (pw_or1 (pt_tru (pe_anyG hr rfl T.no_any (tabG TB_check_value) rfl (genS_by (by decide +kernel)) (pv 0) (elt_ninG rfl rfl rfl T.gl_LETTERS) (fun _ => rfl)))))) (pss_one (ps_raise rfl (takes_of rfl rfl rfl rfl) (pmk_own PySem.F.excBase_ValueError T.xc_NameFault T.mgc_NameFault T.kc_NameFault (raises_own T.bc_NameFault T.tc_NameFault) (by rfl)))) pss_nil)) (pss_one (ps_if (PW.pt (pw_and (pt_cmpR u_notN (pv 0) pe_non (nomark _)) (pw_and1 (PW.pt (pw_or (pt_not (pt_tru (pe_callB call_isi (by rfl) T.no_isinstance (by decide +kernel) (pa_cons (pv 0) (pa_cons (pe_bltn rfl T.no_int (by decide +kernel) rfl) pa_nil))))) (pw_or1 (pt_cmpR u_gt (pe_callB u_abs (by rfl) T.no_abs (by decide +kernel) (pa_cons (pv 0) pa_nil)) (pe_gint rfl T.gl_MOST_NUMBER) (nomark _)))))))) (pss_one (ps_raise rfl (takes_of rfl rfl rfl rfl) (pmk_own PySem.F.excBase_ValueError T.xc_NameFault T.mgc_NameFault T.kc_NameFault (raises_own T.bc_NameFault T.tc_NameFault) (by rfl)))) pss_nil))))))
theorem ok_is_span (T : Txt K mg a) (TB_is_span : TabB base mg a.cc_is_span a.tb_is_span) : FnOk P w K mg base (L2.CX P w) 8 a.f_is_span a.fd_is_span ["allowed"] (sp_is_span K a) := by
  refine FunD.okC T.fn_is_span sc_is_span (fun _ _ _ _ h => h.1) (fun cdv A outer s H vs Q E hr hcc h => ⟨t_is_span K a E, ?_, pure_is_span T h⟩)
  have hu := hr.units
  have hcode : cdv = .ref a.cc_is_span := hcc.symm.trans T.cd_is_span
  subst hcode
  have HR7 := hr.mono (show 0 + 7 ≤ 7 by decide)
  exact (pss_cons (ps_set (i := 2) sc_is_span.nd rfl (by first | exact Or.inl rfl | exact Or.inr rfl) (pe_and (pe_cmpR (u_eq hu) (pe_callB u_len (by rfl) T.no_len (by decide +kernel) (pa_cons (pv 0) pa_nil)) pe_int (nomark _)) (pe_one (pe_allX (own := [("one", 1)]) (g := (gName 1)) (tt := tYes) (GenP.mk HR7 rfl sc_is_span.nd (tabG TB_is_span) rfl (gensx_by (by decide +kernel)) (pi_tup (pv 0)) (blkOk_by (N := N_is_span) (sc := defScope s_is_span) (by decide +kernel)) (fun _ _ _ _ _ _ _ hrg => (pg_name (i := 1) sc_is_span.nd rfl (by first | exact Or.inl rfl | exact Or.inr rfl))) (fun _ _ _ _ _ _ _ hrg => pts_nil) (fun _ _ _ _ _ _ _ hrg => (pe_and (pe_callB call_isi (by rfl) T.no_isinstance (by decide +kernel) (pa_cons (pv 1) (pa_cons (pe_bltn rfl T.no_int (by decide +kernel) rfl) pa_nil))) (pe_one (pe_not (pe_callB call_isi (by rfl) T.no_isinstance (by decide +kernel) (pa_cons (pv 1) (pa_cons (pe_bltn rfl T.no_bool (by decide +kernel) rfl) pa_nil))))))) (fun _ => rfl)) rfl T.no_all)))) (pss_one (ps_ret (pe_and (pv 2) (pe_one (pe_cmpR u_lt (pe_ix (u_ix hu) (pv 0) pe_int (fun _ _ => rfl)) (pe_ix (u_ix hu) (pv 0) pe_int (fun _ _ => rfl)) (nomark _)))))))
theorem ok_law_dice (T : Txt K mg a) : FnOk P w K mg base (L2.CX P w) 1 a.f_law_dice a.fd_law_dice ["cell"] (sp_law_dice K a) := by
  refine FunD.ok T.fn_law_dice sc_law_dice (fun _ _ _ _ h => h.1) (fun cdv A outer s H vs Q E hr h => ⟨t_law_dice K a E, ?_, pure_law_dice T h⟩)
  have hu := hr.units
  exact (pss_cons (ps_if (pt_chain u_lt u_lt (pe_op u_sub pe_int pe_int) (pv 0) pe_int) (pss_one (ps_ret (pe_lst (pa_cons (pe_callB u_abs (by rfl) T.no_abs (by decide +kernel) (pa_cons (pv 0) pa_nil)) (pa_cons pe_int (pa_cons pe_int pa_nil)))))) pss_nil) (pss_one (ps_ret (pe_lst (pa_cons (pv 0) (pa_cons (pe_op u_add pe_int (pe_op u_mod (pe_callTy call_int1 (by rfl) T.no_int (by decide +kernel) (pa_cons (pv 0) pa_nil)) pe_int)) (pa_cons (pe_callTy call_int1 (by rfl) T.no_int (by decide +kernel) (pa_cons (pe_cmpR u_ge (pv 0) (pe_op u_pow pe_int pe_int) (nomark _)) pa_nil)) pa_nil)))))))
theorem ok_law_roll (T : Txt K mg a) : FnOk P w K mg base (L2.CX P w) 1 a.f_law_roll a.fd_law_roll ["dice", "many"] (sp_law_roll K a) := by
  refine FunD.ok T.fn_law_roll sc_law_roll (fun _ _ _ _ h => h.1) (fun cdv A outer s H vs Q E hr h => ⟨t_law_roll K a E, ?_, pure_law_roll T h⟩)
  have hu := hr.units
  exact (pss_cons (ps_if (PW.pt (pw_or (pt_cmpR (u_eq hu) (pe_ix (u_ix hu) (pv 0) pe_int (fun _ _ => rfl)) pe_int (nomark _)) (pw_or1 (PW.pt (pw_and (pt_cmpR (u_eq hu) (pe_ix (u_ix hu) (pv 0) pe_int (fun _ _ => rfl)) pe_int (nomark _)) (pw_and1 (pt_cmpR u_gt (pe_ix (u_ix hu) (pv 0) pe_int (fun _ _ => rfl)) pe_int (nomark _)))))))) (pss_cons (ps_set (i := 2) sc_law_roll.nd rfl (by first | exact Or.inl rfl | exact Or.inr rfl) (pe_op u_mod (pe_callTy call_int1 (by rfl) T.no_int (by decide +kernel) (pa_cons (pe_ix (u_ix hu) (pv 0) pe_int (fun _ _ => rfl)) pa_nil)) (pv 1))) (pss_cons (ps_asg (pe_op u_div (pe_ix (u_ix hu) (pv 0) pe_int (fun _ _ => rfl)) (pv 1)) (pg_sub (pv 0) pe_int (u_set hu))) (pss_one (ps_ret (pv 2))))) pss_nil) (pss_cons (ps_asg pe_int (pg_sub (pv 0) pe_int (u_set hu))) (pss_cons (ps_if (pt_cmpR u_gt (pv 1) pe_int (nomark _)) pss_never pss_nil) (pss_cons (ps_asg (pe_op u_mod (pe_callTy call_int1 (by rfl) T.no_int (by decide +kernel) (pa_cons (pe_op u_add (pe_op u_add (pe_op u_mul (pe_ix (u_ix hu) (pv 0) pe_int (fun _ _ => rfl)) pe_int) (pe_op u_mul (pe_ix (u_ix hu) (pv 0) pe_int (fun _ _ => rfl)) pe_int)) pe_int) pa_nil)) pe_int) (pg_sub (pv 0) pe_int (u_set hu))) (pss_cons (ps_asg (pe_op u_add (pe_ix (u_ix hu) (pv 0) pe_int (fun _ _ => rfl)) pe_int) (pg_sub (pv 0) pe_int (u_set hu))) (pss_one (ps_ret (pe_op u_mod (pe_callTy call_int1 (by rfl) T.no_int (by decide +kernel) (pa_cons (pe_op u_div (pe_ix (u_ix hu) (pv 0) pe_int (fun _ _ => rfl)) pe_int) pa_nil)) (pv 1)))))))))
theorem ok_law_rounds (T : Txt K mg a) (G_law_dice : FnOk P w K mg base (L2.CX P w) 1 a.f_law_dice a.fd_law_dice ["cell"] (sp_law_dice K a)) : FnOk P w K mg base (L2.CX P w) 2 a.f_law_rounds a.fd_law_rounds ["script", "most"] (sp_law_rounds K a) := by
  refine FunD.ok T.fn_law_rounds sc_law_rounds (fun _ _ _ _ h => h.1) (fun cdv A outer s H vs Q E hr h => ⟨t_law_rounds K a E, ?_, pure_law_rounds T h⟩)
  have hu := hr.units
  have hr_law_dice := hr.mono (show 1 ≤ 1 by decide)
  exact (pss_cons (ps_set (i := 2) sc_law_rounds.nd rfl (by first | exact Or.inl rfl | exact Or.inr rfl) (pe_slice u_sl (pv 0) po_none (po_some (pv 1)))) (pss_cons (ps_if (pt_cmpR (u_eq hu) (pv 2) (pe_lst pa_nil) (nomark _)) (pss_one (ps_set (i := 2) sc_law_rounds.nd rfl (by first | exact Or.inl rfl | exact Or.inr rfl) (pe_lst (pa_cons pe_int pa_nil)))) pss_nil) (pss_one (ps_ret (pe_lc (own := [("cell", 3)]) (g := (gName 3)) (tt := tYes) rfl sc_law_rounds.nd (pi_list (pv 2)) (blkOk_by (N := N_law_rounds) (sc := defScope s_law_rounds) (by decide +kernel)) (fun _ _ _ _ _ => (pg_name (i := 3) sc_law_rounds.nd rfl (by first | exact Or.inl rfl | exact Or.inr rfl))) (fun _ _ _ _ _ => pts_nil) (fun _ _ _ _ _ => (pe_call G_law_dice hr_law_dice rfl T.mg_law_dice T.fn_law_dice.kp T.bi_law_dice .nil passL (pa_cons (pv 3) pa_nil))))))))
theorem ok_law_allowed (T : Txt K mg a) : FnOk P w K mg base (L2.CX P w) 1 a.f_law_allowed a.fd_law_allowed ["allowed", "value"] (sp_law_allowed K a) := by
  refine FunD.ok T.fn_law_allowed sc_law_allowed (fun _ _ _ _ h => h.1) (fun cdv A outer s H vs Q E hr h => ⟨t_law_allowed K a E, ?_, pure_law_allowed T h⟩)
  have hu := hr.units
  exact (pss_cons (ps_if (pt_cmpR u_is (pv 0) pe_non (nomark _)) (pss_one (ps_ret (pe_and (pe_callB call_isi (by rfl) T.no_isinstance (by decide +kernel) (pa_cons (pv 1) (pa_cons (pe_bltn rfl T.no_str (by decide +kernel) rfl) pa_nil))) (pe_one (pe_cmpR u_lt (pe_callB u_len (by rfl) T.no_len (by decide +kernel) (pa_cons (pv 1) pa_nil)) pe_int (nomark _)))))) pss_nil) (pss_cons (ps_if (pt_cmpR (u_eq hu) (pv 0) (pe_tup (pa_cons pe_int (pa_cons pe_int pa_nil))) (nomark _)) (pss_one (ps_ret (pe_and (pe_callB call_isi (by rfl) T.no_isinstance (by decide +kernel) (pa_cons (pv 1) (pa_cons (pe_bltn rfl T.no_int (by decide +kernel) rfl) pa_nil))) (pe_and (pe_not (pe_callB call_isi (by rfl) T.no_isinstance (by decide +kernel) (pa_cons (pv 1) (pa_cons (pe_bltn rfl T.no_bool (by decide +kernel) rfl) pa_nil)))) (pe_one (pe_chain u_le u_le pe_int (pv 1) pe_int)))))) pss_nil) (pss_one (ps_ret (pe_and (pe_cmpR (u_inV hu) (pv 1) (pv 0) (by rfl)) (pe_one (pe_cmpR (u_eq hu) (pe_callB call_isi (by rfl) T.no_isinstance (by decide +kernel) (pa_cons (pv 1) (pa_cons (pe_bltn rfl T.no_bool (by decide +kernel) rfl) pa_nil))) (pe_callB call_isi (by rfl) T.no_isinstance (by decide +kernel) (pa_cons (pe_ix (u_ix hu) (pv 0) pe_int (fun _ _ => rfl)) (pa_cons (pe_bltn rfl T.no_bool (by decide +kernel) rfl) pa_nil))) (nomark _))))))))
theorem ok_law_settings (T : Txt K mg a) (G_Kind__init : FnOk P w K mg base (L2.CX P w) 1 a.f_Kind__init a.fd_Kind__init ["self", "default", "allowed"] (sp_Kind__init K a)) (G_Kind_check : FnOk P w K mg base (L2.CX P w) 9 a.f_Kind_check a.fd_Kind_check ["self", "value"] (sp_Kind_check K a)) (G_Settings__init : FnOk P w K mg base (L2.CX P w) 1 a.f_Settings__init a.fd_Settings__init ["self"] (sp_Settings__init K a)) (G_Settings_clear : FnOk P w K mg base (L2.CX P w) 2 a.f_Settings_clear a.fd_Settings_clear ["self", "name", "person"] (sp_Settings_clear K a)) (G_Settings_declare : FnOk P w K mg base (L2.CX P w) 10 a.f_Settings_declare a.fd_Settings_declare ["self", "name", "default", "allowed"] (sp_Settings_declare K a)) (G_Settings_rule : FnOk P w K mg base (L2.CX P w) 10 a.f_Settings_rule a.fd_Settings_rule ["self", "name", "value"] (sp_Settings_rule K a)) (G_Settings_set_value : FnOk P w K mg base (L2.CX P w) 10 a.f_Settings_set_value a.fd_Settings_set_value ["self", "name", "value", "person"] (sp_Settings_set_value K a)) (G_Settings_shown : FnOk P w K mg base (L2.CX P w) 10 a.f_Settings_shown a.fd_Settings_shown ["self"] (sp_Settings_shown K a)) (G_Settings_value : FnOk P w K mg base (L2.CX P w) 2 a.f_Settings_value a.fd_Settings_value ["self", "name", "person"] (sp_Settings_value K a)) (G_is_span : FnOk P w K mg base (L2.CX P w) 8 a.f_is_span a.fd_is_span ["allowed"] (sp_is_span K a)) (G_law_allowed : FnOk P w K mg base (L2.CX P w) 1 a.f_law_allowed a.fd_law_allowed ["allowed", "value"] (sp_law_allowed K a)) (G_law_roll : FnOk P w K mg base (L2.CX P w) 1 a.f_law_roll a.fd_law_roll ["dice", "many"] (sp_law_roll K a)) (TB_law_settings : TabB base mg a.cc_law_settings a.tb_law_settings) : FnOk P w K mg base (L2.CX P w) 13 a.f_law_settings a.fd_law_settings ["dice"] (sp_law_settings K a) := by
  refine FunD.okC T.fn_law_settings sc_law_settings (fun _ _ _ _ h => h.1) (fun cdv A outer s H vs Q E hr hcc h => ⟨t_law_settings K a E, ?_, pure_law_settings T h⟩)
  have hu := hr.units
  have hm_Kind__init := hr.mono (show 2 ≤ 12 by decide)
  have hr_Kind_check := hr.mono (show 9 ≤ 12 by decide)
  have hm_Settings__init := hr.mono (show 2 ≤ 12 by decide)
  have hr_Settings_declare := hr.mono (show 10 ≤ 12 by decide)
  have hr_Settings_shown := hr.mono (show 10 ≤ 12 by decide)
  have hr_Settings_value := hr.mono (show 2 ≤ 12 by decide)
  have hr_is_span := hr.mono (show 8 ≤ 12 by decide)
  have hr_law_allowed := hr.mono (show 1 ≤ 12 by decide)
  have hr_law_roll := hr.mono (show 1 ≤ 12 by decide)
  obtain ⟨ds_Settings_value_2, vd_Settings_value_2, bd_Settings_value_2⟩ := T.bi_Settings_value_2
  have hcode : cdv = .ref a.cc_law_settings := hcc.symm.trans T.cd_law_settings
  subst hcode
  have hr_lam := hr.mono (show 10 + 2 ≤ 12 by decide)
  obtain ⟨oc1, od1, dV1, kV1, doc1, pm1, an1, cd1, ct1, osl1, efd, lkT, hcdT, _, _⟩ := T.fn_law_told.ex
  have biT := T.bi_law_told
  rw [efd] at lkT biT
  exact (pss_cons (ps_asg (pe_tup (pa_cons (pe_make0 T.mk_Settings G_Settings__init hm_Settings__init rfl T.mgc_Settings T.bi_Settings__init .nil passX) (pa_cons (pe_disp (pps_cons pe_str (pe_tup (pa_cons pe_int (pa_cons (pe_tup (pa_cons pe_int (pa_cons pe_int pa_nil))) pa_nil))) (pps_cons pe_str (pe_tup (pa_cons pe_bl (pa_cons (pe_tup (pa_cons pe_bl (pa_cons pe_bl pa_nil))) pa_nil))) (pps_cons pe_str (pe_tup (pa_cons pe_str (pa_cons pe_non pa_nil))) (pps_cons pe_str (pe_tup (pa_cons pe_str (pa_cons (pe_tup (pa_cons pe_str (pa_cons pe_str pa_nil))) pa_nil))) pps_nil)))) (by rfl) (by rfl) (fun z => by cases z) (by decide)) (pa_cons pe_dnewK (pa_cons pe_dnewT (pa_cons pe_dnewK pa_nil)))))) (pg_tup rfl (pgs_cons (pg_name (i := 1) sc_law_settings.nd rfl (by first | exact Or.inl rfl | exact Or.inr rfl)) (pgs_cons (pg_name (i := 2) sc_law_settings.nd rfl (by first | exact Or.inl rfl | exact Or.inr rfl)) (pgs_cons (pg_name (i := 3) sc_law_settings.nd rfl (by first | exact Or.inl rfl | exact Or.inr rfl)) (pgs_cons (pg_name (i := 4) sc_law_settings.nd rfl (by first | exact Or.inl rfl | exact Or.inr rfl)) (pgs_cons (pg_name (i := 5) sc_law_settings.nd rfl (by first | exact Or.inl rfl | exact Or.inr rfl)) pgs_nil))))))) (pss_cons (ps_lock (ps_for (passes_of rfl) rfl (pi_keys (pv 2)) (pg_name (i := 6) sc_law_settings.nd rfl (by first | exact Or.inl rfl | exact Or.inr rfl)) (pss_one (ps_expr (pe_meth (pv 1) T.cl_Settings T.me_Settings_declare G_Settings_declare hr_Settings_declare T.bi_Settings_declare .nil passX (pa_cons (pv 6) (pa_cons (pe_ix (u_ix hu) (pe_ix (u_ix hu) (pv 2) (pv 6) (fun _ _ => rfl)) pe_int (fun _ _ => rfl)) (pa_cons (pe_ix (u_ix hu) (pe_ix (u_ix hu) (pv 2) (pv 6) (fun _ _ => rfl)) pe_int (fun _ _ => rfl)) pa_nil)))))))) (pss_cons (ps_for (passes_of rfl) rfl (pi_range1 rfl T.no_range (pa_cons (pe_call G_law_roll hr_law_roll rfl T.mg_law_roll T.fn_law_roll.kp T.bi_law_roll .nil passX (pa_cons (pv 0) (pa_cons pe_int pa_nil))) pa_nil)) (pg_name (i := 7) sc_law_settings.nd rfl (by first | exact Or.inl rfl | exact Or.inr rfl)) (pss_cons (ps_asg (pe_tup (pa_cons (pe_ix (u_ix hu) (pe_lst (pa_cons pe_str (pa_cons pe_str (pa_cons pe_str (pa_cons pe_str (pa_cons pe_str pa_nil)))))) (pe_call G_law_roll hr_law_roll rfl T.mg_law_roll T.fn_law_roll.kp T.bi_law_roll .nil passX (pa_cons (pv 0) (pa_cons pe_int pa_nil))) (fun _ _ => rfl)) (pa_cons (pe_call G_law_roll hr_law_roll rfl T.mg_law_roll T.fn_law_roll.kp T.bi_law_roll .nil passX (pa_cons (pv 0) (pa_cons pe_int pa_nil))) pa_nil))) (pg_tup rfl (pgs_cons (pg_name (i := 6) sc_law_settings.nd rfl (by first | exact Or.inl rfl | exact Or.inr rfl)) (pgs_cons (pg_name (i := 8) sc_law_settings.nd rfl (by first | exact Or.inl rfl | exact Or.inr rfl)) pgs_nil)))) (pss_cons (ps_set (i := 9) sc_law_settings.nd rfl (by first | exact Or.inl rfl | exact Or.inr rfl) (pe_ix (u_ix hu) (pe_lst (pa_cons pe_int (pa_cons pe_int (pa_cons pe_bl (pa_cons pe_int (pa_cons pe_int (pa_cons pe_str (pa_cons pe_str (pa_cons (pe_op u_mulW pe_str (pe_call G_law_roll hr_law_roll rfl T.mg_law_roll T.fn_law_roll.kp T.bi_law_roll .nil passX (pa_cons (pv 0) (pa_cons pe_int pa_nil)))) (pa_cons pe_non pa_nil)))))))))) (pe_call G_law_roll hr_law_roll rfl T.mg_law_roll T.fn_law_roll.kp T.bi_law_roll .nil passX (pa_cons (pv 0) (pa_cons pe_int pa_nil))) (fun _ _ => rfl))) (pss_cons (ps_set (i := 10) sc_law_settings.nd rfl (by first | exact Or.inl rfl | exact Or.inr rfl) (pe_ix (u_ix hu) (pe_lst (pa_cons pe_non (pa_cons pe_str (pa_cons pe_str pa_nil)))) (pe_call G_law_roll hr_law_roll rfl T.mg_law_roll T.fn_law_roll.kp T.bi_law_roll .nil passX (pa_cons (pv 0) (pa_cons pe_int pa_nil))) (fun _ _ => rfl))) (pss_cons (ps_set (i := 11) sc_law_settings.nd rfl (by first | exact Or.inl rfl | exact Or.inr rfl) (pe_and (pe_cmpR (u_inV hu) (pv 6) (pv 2) (by rfl)) (pe_one (pe_call G_law_allowed hr_law_allowed rfl T.mg_law_allowed T.fn_law_allowed.kp T.bi_law_allowed .nil passX (pa_cons (pe_ix (u_ix hu) (pe_ix (u_ix hu) (pv 2) (pv 6) (fun _ _ => rfl)) pe_int (fun _ _ => rfl)) (pa_cons (pv 9) pa_nil)))))) (pss_cons (ps_if (pt_cmpR u_lt (pv 8) pe_int (nomark _)) (pss_cons (ps_set (i := 11) sc_law_settings.nd rfl (by first | exact Or.inl rfl | exact Or.inr rfl) (pe_and (pv 11) (pe_one (pe_cmpR (u_notinV hu) (pv 6) (pv 5) (by rfl))))) (pss_cons (ps_if (pt_cmpR (u_eq hu) (pe_cmpR (u_eq hu) (pe_lamP2 (t := fun E => (tMeth a.c_Settings "set_value" (sp_Settings_set_value K a) [] E (tVar 1) (tCons (tVar 6) (tCons (tVar 9) (tCons (tVar 10) tNil))))) rfl T.mg_law_told T.fn_law_told.kp lkT hcdT biT sc_law_told rfl (by first | exact Or.inl rfl | exact Or.inr (Or.inl rfl)) (told_gives2 rfl T.mgc_NameFault (by decide) rfl T.mgc_RightFault (by decide) (fun _ => rfl)) TB_law_settings rfl hr_lam (lamS_by (sc := defScope s_law_settings) (by decide +kernel)) rfl (by intros; rfl) (fun A outer s H E f c' hrl => (pe_meth (pv 1) T.cl_Settings T.me_Settings_set_value G_Settings_set_value (hrl.mono (by decide)) T.bi_Settings_set_value .nil passLam (pa_cons (pv 6) (pa_cons (pv 9) (pa_cons (pv 10) pa_nil)))))) pe_str (nomark _)) (pv 11) (nomark _)) (pss_one (ps_ret pe_bl)) pss_nil) (pss_one (ps_if (PW.pt (pw_and (pt_tru (pv 11)) (pw_and1 (pt_cmpR u_is (pv 10) pe_non (nomark _))))) (pss_one (ps_asg (pv 9) (pg_sub (pv 3) (pv 6) (u_set hu)))) (pss_one (ps_if (pt_tru (pv 11)) (pss_one (ps_asg (pv 9) (pg_sub (pv 4) (pe_tup (pa_cons (pv 10) (pa_cons (pv 6) pa_nil))) (u_set hu)))) pss_nil)))))) (pss_one (ps_if (pt_cmpR (u_eq hu) (pv 8) pe_int (nomark _)) (pss_cons (ps_if (pt_cmpR (u_eq hu) (pe_cmpR (u_eq hu) (pe_lamP2 (t := fun E => (tMeth a.c_Settings "clear" (sp_Settings_clear K a) [] E (tVar 1) (tCons (tVar 6) (tCons (tVar 10) tNil)))) rfl T.mg_law_told T.fn_law_told.kp lkT hcdT biT sc_law_told rfl (by first | exact Or.inl rfl | exact Or.inr (Or.inl rfl)) (told_gives2 rfl T.mgc_NameFault (by decide) rfl T.mgc_RightFault (by decide) (fun _ => rfl)) TB_law_settings rfl hr_lam (lamS_by (sc := defScope s_law_settings) (by decide +kernel)) rfl (by intros; rfl) (fun A outer s H E f c' hrl => (pe_meth (pv 1) T.cl_Settings T.me_Settings_clear G_Settings_clear (hrl.mono (by decide)) T.bi_Settings_clear .nil passLam (pa_cons (pv 6) (pa_cons (pv 10) pa_nil))))) pe_str (nomark _)) (pe_cmpR (u_inV hu) (pv 6) (pv 2) (by rfl)) (nomark _)) (pss_one (ps_ret pe_bl)) pss_nil) (pss_cons (ps_set (i := 3) sc_law_settings.nd rfl (by first | exact Or.inl rfl | exact Or.inr rfl) (pe_callTy (u_dict rfl) (by rfl) T.no_dict (by decide +kernel) (pa_cons (pe_lock (pe_lc (own := [("one", 12)]) (g := (gName 12)) (tt := (tOr (tTest (tOp rNotN (tVar 10) (tC .non))) (tTest (tOp (rNeU K) (tVar 12) (tVar 6))))) rfl sc_law_settings.nd (pi_keys (pv 3)) (blkOk_by (N := N_law_settings) (sc := defScope s_law_settings) (by decide +kernel)) (fun _ _ _ _ _ => (pg_name (i := 12) sc_law_settings.nd rfl (by first | exact Or.inl rfl | exact Or.inr rfl))) (fun _ _ _ _ _ => (pts_one (PW.pt (pw_or (pt_cmpR u_notN (pv 10) pe_non (nomark _)) (pw_or1 (pt_cmpR (u_ne hu) (pv 12) (pv 6) (nomark _))))))) (fun _ _ _ _ _ => (pe_tup (pa_cons (pv 12) (pa_cons (pe_ix (u_ix hu) (pv 3) (pv 12) (fun _ _ => rfl)) pa_nil)))))) pa_nil))) (pss_one (ps_set (i := 4) sc_law_settings.nd rfl (by first | exact Or.inl rfl | exact Or.inr rfl) (pe_callTy (u_dictV rfl hu) (by rfl) T.no_dict (by decide +kernel) (pa_cons (pe_lock (pe_lc (own := [("one", 12)]) (g := (gName 12)) (tt := (tTest (tOp (rNeU K) (tVar 12) (tTup (tCons (tVar 10) (tCons (tVar 6) tNil)))))) rfl sc_law_settings.nd (pi_keys (pv 4)) (blkOk_by (N := N_law_settings) (sc := defScope s_law_settings) (by decide +kernel)) (fun _ _ _ _ _ => (pg_name (i := 12) sc_law_settings.nd rfl (by first | exact Or.inl rfl | exact Or.inr rfl))) (fun _ _ _ _ _ => (pts_one (pt_cmpR (u_ne hu) (pv 12) (pe_tup (pa_cons (pv 10) (pa_cons (pv 6) pa_nil))) (nomark _)))) (fun _ _ _ _ _ => (pe_tup (pa_cons (pv 12) (pa_cons (pe_ix (u_ix hu) (pv 4) (pv 12) (fun _ _ => rfl)) pa_nil)))))) pa_nil)))))) (pss_cons (ps_set (i := 11) sc_law_settings.nd rfl (by first | exact Or.inl rfl | exact Or.inr rfl) (pe_and (pe_cmpR (u_inV hu) (pv 6) (pv 2) (by rfl)) (pe_one (pe_or (pe_cmpR u_is (pv 9) pe_non (nomark _)) (pe_one (pv 11)))))) (pss_cons (ps_if (pt_cmpR (u_eq hu) (pe_cmpR (u_eq hu) (pe_lamP2 (t := fun E => (tMeth a.c_Settings "rule" (sp_Settings_rule K a) [] E (tVar 1) (tCons (tVar 6) (tCons (tVar 9) tNil)))) rfl T.mg_law_told T.fn_law_told.kp lkT hcdT biT sc_law_told rfl (by first | exact Or.inl rfl | exact Or.inr (Or.inl rfl)) (told_gives2 rfl T.mgc_NameFault (by decide) rfl T.mgc_RightFault (by decide) (fun _ => rfl)) TB_law_settings rfl hr_lam (lamS_by (sc := defScope s_law_settings) (by decide +kernel)) rfl (by intros; rfl) (fun A outer s H E f c' hrl => (pe_meth (pv 1) T.cl_Settings T.me_Settings_rule G_Settings_rule (hrl.mono (by decide)) T.bi_Settings_rule .nil passLam (pa_cons (pv 6) (pa_cons (pv 9) pa_nil))))) pe_str (nomark _)) (pv 11) (nomark _)) (pss_one (ps_ret pe_bl)) pss_nil) (pss_one (ps_if (pt_tru (pv 11)) (pss_one (ps_set (i := 5) sc_law_settings.nd rfl (by first | exact Or.inl rfl | exact Or.inr rfl) (pe_callTy (u_dict rfl) (by rfl) T.no_dict (by decide +kernel) (pa_cons (pe_op u_add (pe_lock (pe_lc (own := [("one", 12)]) (g := (gName 12)) (tt := (tTest (tOp (rNeU K) (tVar 12) (tVar 6)))) rfl sc_law_settings.nd (pi_keys (pv 5)) (blkOk_by (N := N_law_settings) (sc := defScope s_law_settings) (by decide +kernel)) (fun _ _ _ _ _ => (pg_name (i := 12) sc_law_settings.nd rfl (by first | exact Or.inl rfl | exact Or.inr rfl))) (fun _ _ _ _ _ => (pts_one (pt_cmpR (u_ne hu) (pv 12) (pv 6) (nomark _)))) (fun _ _ _ _ _ => (pe_tup (pa_cons (pv 12) (pa_cons (pe_ix (u_ix hu) (pv 5) (pv 12) (fun _ _ => rfl)) pa_nil)))))) (pe_op u_mul (pe_lst (pa_cons (pe_tup (pa_cons (pv 6) (pa_cons (pv 9) pa_nil))) pa_nil)) (pe_callTy call_int1 (by rfl) T.no_int (by decide +kernel) (pa_cons (pe_cmpR u_notN (pv 9) pe_non (nomark _)) pa_nil)))) pa_nil)))) pss_nil))))))) (pss_cons (ps_lock (ps_for (passes_of rfl) rfl (pi_keys (pv 2)) (pg_name (i := 12) sc_law_settings.nd rfl (by first | exact Or.inl rfl | exact Or.inr rfl)) (pss_one (ps_for (passes_of rfl) rfl (pi_list (pe_lst (pa_cons pe_non (pa_cons pe_str (pa_cons pe_str pa_nil))))) (pg_name (i := 13) sc_law_settings.nd rfl (by first | exact Or.inl rfl | exact Or.inr rfl)) (pss_cons (ps_set (i := 14) sc_law_settings.nd rfl (by first | exact Or.inl rfl | exact Or.inr rfl) (pe_get2M hu (pv 5) (pv 12) (pe_get2M hu (pv 4) (pe_tup (pa_cons (pv 13) (pa_cons (pv 12) pa_nil))) (pe_get2M hu (pv 3) (pv 12) (pe_ix (u_ix hu) (pe_ix (u_ix hu) (pv 2) (pv 12) (fun _ _ => rfl)) pe_int (fun _ _ => rfl)) ⟨rfl, rfl, rfl, rfl⟩) ⟨rfl, rfl, rfl, rfl⟩) ⟨rfl, rfl, rfl, rfl⟩)) (pss_cons (ps_set (i := 15) sc_law_settings.nd rfl (by first | exact Or.inl rfl | exact Or.inr rfl) (pe_meth (pv 1) T.cl_Settings T.me_Settings_value G_Settings_value hr_Settings_value T.bi_Settings_value .nil passX (pa_cons (pv 12) (pa_cons (pv 13) pa_nil)))) (pss_one (ps_if (PW.pt (pw_or (pt_cmpR (u_ne hu) (pv 15) (pv 14) (nomark _)) (pw_or1 (pt_cmpR (u_ne hu) (pe_callB call_isi (by rfl) T.no_isinstance (by decide +kernel) (pa_cons (pv 15) (pa_cons (pe_bltn rfl T.no_bool (by decide +kernel) rfl) pa_nil))) (pe_callB call_isi (by rfl) T.no_isinstance (by decide +kernel) (pa_cons (pv 14) (pa_cons (pe_bltn rfl T.no_bool (by decide +kernel) rfl) pa_nil))) (nomark _))))) (pss_one (ps_ret pe_bl)) pss_nil)))))))) (pss_one (ps_if (PW.pt (pw_or (pt_cmpR (u_ne hu) (pe_lc (own := [("row", 16)]) (g := (gName 16)) (tt := tYes) rfl sc_law_settings.nd (pi_tup (pe_meth0 (pv 1) T.cl_Settings T.me_Settings_shown G_Settings_shown hr_Settings_shown T.bi_Settings_shown .nil passX)) (blkOk_by (N := N_law_settings) (sc := defScope s_law_settings) (by decide +kernel)) (fun _ _ _ _ _ => (pg_name (i := 16) sc_law_settings.nd rfl (by first | exact Or.inl rfl | exact Or.inr rfl))) (fun _ _ _ _ _ => pts_nil) (fun _ _ _ _ _ => (pe_ix (u_ix hu) (pv 16) pe_int (fun _ _ => rfl)))) (pe_callB (u_sorted rfl) (by rfl) T.no_sorted (by decide +kernel) (pa_cons (pv 2) pa_nil)) (nomark _)) (pw_or1 (pt_cmpR (u_ne hu) (pe_lamP2 (t := fun E => (tMeth a.c_Settings "value" (sp_Settings_value K a) [.non] E (tVar 1) (tCons (tC (.str "none")) tNil))) rfl T.mg_law_told T.fn_law_told.kp lkT hcdT biT sc_law_told rfl (by first | exact Or.inl rfl | exact Or.inr (Or.inl rfl)) (told_gives2 rfl T.mgc_NameFault (by decide) rfl T.mgc_RightFault (by decide) (fun _ => rfl)) TB_law_settings rfl hr_lam (lamS_by (sc := defScope s_law_settings) (by decide +kernel)) rfl (by intros; rfl) (fun A outer s H E f c' hrl => (pe_meth (pv 1) T.cl_Settings T.me_Settings_value G_Settings_value (hrl.mono (by decide)) bd_Settings_value_2 vd_Settings_value_2 passLam (pa_cons pe_str pa_nil)))) pe_str (nomark _))))) (pss_one (ps_ret pe_bl)) pss_nil))))))))) (pss_cons (ps_set (i := 17) sc_law_settings.nd rfl (by first | exact Or.inl rfl | exact Or.inr rfl) (pe_lst (pa_cons (pe_lamP2 (t := fun E => (tMeth a.c_Settings "declare" (sp_Settings_declare K a) [] E (tVar 1) (tCons (tC (.str "volume")) (tCons (tC (.int 1)) (tCons (tTup (tCons (tC (.int 0)) (tCons (tC (.int 9)) tNil))) tNil))))) rfl T.mg_law_told T.fn_law_told.kp lkT hcdT biT sc_law_told rfl (by first | exact Or.inl rfl | exact Or.inr (Or.inl rfl)) (told_gives2 rfl T.mgc_NameFault (by decide) rfl T.mgc_RightFault (by decide) (fun _ => rfl)) TB_law_settings rfl hr_lam (lamS_by (sc := defScope s_law_settings) (by decide +kernel)) rfl (by intros; rfl) (fun A outer s H E f c' hrl => (pe_meth (pv 1) T.cl_Settings T.me_Settings_declare G_Settings_declare (hrl.mono (by decide)) T.bi_Settings_declare .nil passLam (pa_cons pe_str (pa_cons pe_int (pa_cons (pe_tup (pa_cons pe_int (pa_cons pe_int pa_nil))) pa_nil)))))) (pa_cons (pe_lamP2 (t := fun E => (tMeth a.c_Settings "declare" (sp_Settings_declare K a) [] E (tVar 1) (tCons (tC (.str "new")) (tCons (tC (.int 10)) (tCons (tTup (tCons (tC (.int 0)) (tCons (tC (.int 9)) tNil))) tNil))))) rfl T.mg_law_told T.fn_law_told.kp lkT hcdT biT sc_law_told rfl (by first | exact Or.inl rfl | exact Or.inr (Or.inl rfl)) (told_gives2 rfl T.mgc_NameFault (by decide) rfl T.mgc_RightFault (by decide) (fun _ => rfl)) TB_law_settings rfl hr_lam (lamS_by (sc := defScope s_law_settings) (by decide +kernel)) rfl (by intros; rfl) (fun A outer s H E f c' hrl => (pe_meth (pv 1) T.cl_Settings T.me_Settings_declare G_Settings_declare (hrl.mono (by decide)) T.bi_Settings_declare .nil passLam (pa_cons pe_str (pa_cons pe_int (pa_cons (pe_tup (pa_cons pe_int (pa_cons pe_int pa_nil))) pa_nil)))))) pa_nil)))) (pss_one (ps_ret (pe_and (pe_cmpR (u_eq hu) (pv 17) (pe_op u_mul (pe_lst (pa_cons pe_str pa_nil)) pe_int) (nomark _)) (pe_and (pe_call G_is_span hr_is_span rfl T.mg_is_span T.fn_is_span.kp T.bi_is_span .nil passX (pa_cons (pe_tup (pa_cons pe_int (pa_cons pe_int pa_nil))) pa_nil)) (pe_and (pe_not (pe_call G_is_span hr_is_span rfl T.mg_is_span T.fn_is_span.kp T.bi_is_span .nil passX (pa_cons (pe_tup (pa_cons pe_int (pa_cons pe_int pa_nil))) pa_nil))) (pe_and (pe_not (pe_call G_is_span hr_is_span rfl T.mg_is_span T.fn_is_span.kp T.bi_is_span .nil passX (pa_cons (pe_tup (pa_cons pe_bl (pa_cons pe_bl pa_nil))) pa_nil))) (pe_one (pe_cmpR u_is (pe_meth (pe_make T.mk_Kind G_Kind__init hm_Kind__init rfl T.mgc_Kind T.bi_Kind__init .nil passX (pa_cons pe_str (pa_cons (pe_tup (pa_cons pe_str (pa_cons pe_str pa_nil))) pa_nil))) T.cl_Kind T.me_Kind_check G_Kind_check hr_Kind_check T.bi_Kind_check .nil passX (pa_cons pe_str pa_nil)) pe_non (nomark _)))))))))))))
theorem ok_law (T : Txt K mg a) (G_People__init : FnOk P w K mg base (L2.CX P w) 9 a.f_People__init a.fd_People__init ["self", "owner"] (sp_People__init K a)) (G_People_add : FnOk P w K mg base (L2.CX P w) 9 a.f_People_add a.fd_People_add ["self", "name"] (sp_People_add K a)) (G_People_enter : FnOk P w K mg base (L2.CX P w) 1 a.f_People_enter a.fd_People_enter ["self", "name", "code", "time"] (sp_People_enter K a)) (G_People_give : FnOk P w K mg base (L2.CX P w) 1 a.f_People_give a.fd_People_give ["self", "app"] (sp_People_give K a)) (G_People_has_app : FnOk P w K mg base (L2.CX P w) 8 a.f_People_has_app a.fd_People_has_app ["self", "app"] (sp_People_has_app K a)) (G_People_leave : FnOk P w K mg base (L2.CX P w) 1 a.f_People_leave a.fd_People_leave ["self"] (sp_People_leave K a)) (G_People_need_owner : FnOk P w K mg base (L2.CX P w) 1 a.f_People_need_owner a.fd_People_need_owner ["self"] (sp_People_need_owner K a)) (G_People_remove : FnOk P w K mg base (L2.CX P w) 16 a.f_People_remove a.fd_People_remove ["self", "name"] (sp_People_remove K a)) (G_People_sees : FnOk P w K mg base (L2.CX P w) 1 a.f_People_sees a.fd_People_sees ["self", "app"] (sp_People_sees K a)) (G_People_set_code : FnOk P w K mg base (L2.CX P w) 8 a.f_People_set_code a.fd_People_set_code ["self", "code"] (sp_People_set_code K a)) (G_People_take : FnOk P w K mg base (L2.CX P w) 9 a.f_People_take a.fd_People_take ["self", "app"] (sp_People_take K a)) (G_law_roll : FnOk P w K mg base (L2.CX P w) 1 a.f_law_roll a.fd_law_roll ["dice", "many"] (sp_law_roll K a)) (G_law_rounds : FnOk P w K mg base (L2.CX P w) 2 a.f_law_rounds a.fd_law_rounds ["script", "most"] (sp_law_rounds K a)) (G_law_settings : FnOk P w K mg base (L2.CX P w) 13 a.f_law_settings a.fd_law_settings ["dice"] (sp_law_settings K a)) (TB_law : TabB base mg a.cc_law a.tb_law) : FnOk P w K mg base (L2.CX P w) 19 a.f_law a.fd_law ["script"] (sp_law K a) := by
  refine FunD.okC T.fn_law sc_law (fun _ _ _ _ h => h.1) (fun cdv A outer s H vs Q E hr hcc h => ⟨t_law K a E, ?_, pure_law T h⟩)
  have hu := hr.units
  have hm_People__init := hr.mono (show 10 ≤ 18 by decide)
  have hr_People_has_app := hr.mono (show 8 ≤ 18 by decide)
  have hr_People_leave := hr.mono (show 1 ≤ 18 by decide)
  have hr_People_need_owner := hr.mono (show 1 ≤ 18 by decide)
  have hr_People_sees := hr.mono (show 1 ≤ 18 by decide)
  have hr_law_roll := hr.mono (show 1 ≤ 18 by decide)
  have hr_law_rounds := hr.mono (show 2 ≤ 18 by decide)
  have hr_law_settings := hr.mono (show 13 ≤ 18 by decide)
  have hcode : cdv = .ref a.cc_law := hcc.symm.trans T.cd_law
  subst hcode
  have hr_lam := hr.mono (show 16 + 2 ≤ 18 by decide)
  obtain ⟨oc1, od1, dV1, kV1, doc1, pm1, an1, cd1, ct1, osl1, efd, lkT, hcdT, _, _⟩ := T.fn_law_told.ex
  have biT := T.bi_law_told
  rw [efd] at lkT biT
  exact (pss_cons (ps_for (passes_of rfl) rfl (pi_list (pe_call G_law_rounds hr_law_rounds rfl T.mg_law_rounds T.fn_law_rounds.kp T.bi_law_rounds .nil passX (pa_cons (pv 0) (pa_cons pe_int pa_nil)))) (pg_name (i := 1) sc_law.nd rfl (by first | exact Or.inl rfl | exact Or.inr rfl)) (pss_cons (ps_if (pt_not (pt_tru (pe_call G_law_settings hr_law_settings rfl T.mg_law_settings T.fn_law_settings.kp T.bi_law_settings .nil passX (pa_cons (pv 1) pa_nil)))) (pss_one (ps_ret pe_bl)) pss_nil) (pss_cons (ps_asg (pe_tup (pa_cons (pe_make T.mk_People G_People__init hm_People__init rfl T.mgc_People T.bi_People__init .nil passX (pa_cons pe_str pa_nil)) (pa_cons (pe_disp (pps_cons pe_str pe_non pps_nil) (by rfl) (by rfl) (fun z => by cases z) (by decide)) (pa_cons (pe_disp (pps_cons pe_str (pe_lst pa_nil) pps_nil) (by rfl) (by rfl) (fun z => by cases z) (by decide)) (pa_cons pe_str (pa_cons pe_int (pa_cons pe_int (pa_cons pe_int pa_nil)))))))) (pg_tup rfl (pgs_cons (pg_name (i := 2) sc_law.nd rfl (by first | exact Or.inl rfl | exact Or.inr rfl)) (pgs_cons (pg_name (i := 3) sc_law.nd rfl (by first | exact Or.inl rfl | exact Or.inr rfl)) (pgs_cons (pg_name (i := 4) sc_law.nd rfl (by first | exact Or.inl rfl | exact Or.inr rfl)) (pgs_cons (pg_name (i := 5) sc_law.nd rfl (by first | exact Or.inl rfl | exact Or.inr rfl)) (pgs_cons (pg_name (i := 6) sc_law.nd rfl (by first | exact Or.inl rfl | exact Or.inr rfl)) (pgs_cons (pg_name (i := 7) sc_law.nd rfl (by first | exact Or.inl rfl | exact Or.inr rfl)) (pgs_cons (pg_name (i := 8) sc_law.nd rfl (by first | exact Or.inl rfl | exact Or.inr rfl)) pgs_nil))))))))) (pss_one (ps_for (passes_of rfl) rfl (pi_range1 rfl T.no_range (pa_cons (pe_call G_law_roll hr_law_roll rfl T.mg_law_roll T.fn_law_roll.kp T.bi_law_roll .nil passX (pa_cons (pv 1) (pa_cons pe_int pa_nil))) pa_nil)) (pg_name (i := 9) sc_law.nd rfl (by first | exact Or.inl rfl | exact Or.inr rfl)) (pss_cons (ps_asg (pe_tup (pa_cons (pe_op u_add (pv 8) (pe_call G_law_roll hr_law_roll rfl T.mg_law_roll T.fn_law_roll.kp T.bi_law_roll .nil passX (pa_cons (pv 1) (pa_cons pe_int pa_nil)))) (pa_cons (pe_call G_law_roll hr_law_roll rfl T.mg_law_roll T.fn_law_roll.kp T.bi_law_roll .nil passX (pa_cons (pv 1) (pa_cons pe_int pa_nil))) pa_nil))) (pg_tup rfl (pgs_cons (pg_name (i := 8) sc_law.nd rfl (by first | exact Or.inl rfl | exact Or.inr rfl)) (pgs_cons (pg_name (i := 10) sc_law.nd rfl (by first | exact Or.inl rfl | exact Or.inr rfl)) pgs_nil)))) (pss_cons (ps_asg (pe_tup (pa_cons (pe_ix (u_ix hu) (pe_lst (pa_cons pe_str (pa_cons pe_str (pa_cons pe_str (pa_cons pe_str (pa_cons pe_str pa_nil)))))) (pe_call G_law_roll hr_law_roll rfl T.mg_law_roll T.fn_law_roll.kp T.bi_law_roll .nil passX (pa_cons (pv 1) (pa_cons pe_int pa_nil))) (fun _ _ => rfl)) (pa_cons (pe_ix (u_ix hu) (pe_lst (pa_cons pe_non (pa_cons pe_str (pa_cons pe_str (pa_cons pe_str (pa_cons pe_str pa_nil)))))) (pe_call G_law_roll hr_law_roll rfl T.mg_law_roll T.fn_law_roll.kp T.bi_law_roll .nil passX (pa_cons (pv 1) (pa_cons pe_int pa_nil))) (fun _ _ => rfl)) (pa_cons (pe_ix (u_ix hu) pe_str (pe_call G_law_roll hr_law_roll rfl T.mg_law_roll T.fn_law_roll.kp T.bi_law_roll .nil passX (pa_cons (pv 1) (pa_cons pe_int pa_nil))) (fun _ _ => rfl)) pa_nil)))) (pg_tup rfl (pgs_cons (pg_name (i := 11) sc_law.nd rfl (by first | exact Or.inl rfl | exact Or.inr rfl)) (pgs_cons (pg_name (i := 12) sc_law.nd rfl (by first | exact Or.inl rfl | exact Or.inr rfl)) (pgs_cons (pg_name (i := 13) sc_law.nd rfl (by first | exact Or.inl rfl | exact Or.inr rfl)) pgs_nil))))) (pss_cons (ps_setLc (i := 15) (own := [("one", 14)]) (g := (gName 14)) (tt := (tTest (tOp rNotN (tOp (rIxU K) (tVar 3) (tVar 14)) (tC .non)))) rfl sc_law.nd rfl rfl (sw_true rfl rfl rfl (by decide +kernel)) (pi_list (pe_callB (u_sorted rfl) (by rfl) T.no_sorted (by decide +kernel) (pa_cons (pv 3) pa_nil))) (blkOk_by (N := N_law) (sc := defScope s_law) (by decide +kernel)) (fun _ _ _ _ _ => (pg_name (i := 14) sc_law.nd rfl (by first | exact Or.inl rfl | exact Or.inr rfl))) (fun _ _ _ _ _ => (pts_one (pt_cmpR u_notN (pe_ix (u_ix hu) (pv 3) (pv 14) (fun _ _ => rfl)) pe_non (nomark _)))) (fun _ _ _ _ _ => (pv 14))) (pss_cons (ps_if (PW.pt (pw_and (pt_cmpR (u_eq hu) (pv 10) pe_int (nomark _)) (pw_and (pt_cmpR (u_ne hu) (pv 15) (pe_lst pa_nil) (nomark _)) (pw_and1 (pt_cmpR u_gt (pe_call G_law_roll hr_law_roll rfl T.mg_law_roll T.fn_law_roll.kp T.bi_law_roll .nil passX (pa_cons (pv 1) (pa_cons pe_int pa_nil))) pe_int (nomark _)))))) (pss_one (ps_asg (pe_tup (pa_cons (pe_ix (u_ix hu) (pv 15) (pe_call G_law_roll hr_law_roll rfl T.mg_law_roll T.fn_law_roll.kp T.bi_law_roll .nil passX (pa_cons (pv 1) (pa_cons (pe_callB u_len (by rfl) T.no_len (by decide +kernel) (pa_cons (pv 15) pa_nil)) pa_nil))) (fun _ _ => rfl)) (pa_cons pe_str pa_nil))) (pg_tup rfl (pgs_cons (pg_name (i := 11) sc_law.nd rfl (by first | exact Or.inl rfl | exact Or.inr rfl)) (pgs_cons (pg_name (i := 12) sc_law.nd rfl (by first | exact Or.inl rfl | exact Or.inr rfl)) pgs_nil))))) pss_nil) (pss_cons (ps_if (pt_cmpR (u_eq hu) (pv 10) pe_int (nomark _)) (pss_cons (ps_set (i := 16) sc_law.nd rfl (by first | exact Or.inl rfl | exact Or.inr rfl) (pe_and (pe_cmpR (u_eq hu) (pv 5) pe_str (nomark _)) (pe_and (pe_cmpR (u_notinV hu) (pv 11) (pv 3) (by rfl)) (pe_one (pe_cmpR u_lt (pe_callB u_len (by rfl) T.no_len (by decide +kernel) (pa_cons (pv 3) pa_nil)) pe_int (nomark _)))))) (pss_cons (ps_set (i := 17) sc_law.nd rfl (by first | exact Or.inl rfl | exact Or.inr rfl) (pe_lamP2 (t := fun E => (tMeth a.c_People "add" (sp_People_add K a) [] E (tVar 2) (tCons (tVar 11) tNil))) rfl T.mg_law_told T.fn_law_told.kp lkT hcdT biT sc_law_told rfl (by first | exact Or.inl rfl | exact Or.inr (Or.inl rfl)) (told_gives2 rfl T.mgc_NameFault (by decide) rfl T.mgc_RightFault (by decide) (fun _ => rfl)) TB_law rfl hr_lam (lamS_by (sc := defScope s_law) (by decide +kernel)) rfl (by intros; rfl) (fun A outer s H E f c' hrl => (pe_meth (pv 2) T.cl_People T.me_People_add G_People_add (hrl.mono (by decide)) T.bi_People_add .nil passLam (pa_cons (pv 11) pa_nil))))) (pss_one (ps_asg (pe_ifExp (pt_tru (pv 16)) (pe_tup (pa_cons (pe_callTy (u_dict rfl) (by rfl) T.no_dict (by decide +kernel) (pa_cons (pe_op u_add (LiI.pe_listItems rfl (pv 3) (by rfl) T.no_list (by decide +kernel)) (pe_lst (pa_cons (pe_tup (pa_cons (pv 11) (pa_cons pe_non pa_nil))) pa_nil))) pa_nil)) (pa_cons (pe_callTy (u_dict rfl) (by rfl) T.no_dict (by decide +kernel) (pa_cons (pe_op u_add (LiI.pe_listItems rfl (pv 4) (by rfl) T.no_list (by decide +kernel)) (pe_lst (pa_cons (pe_tup (pa_cons (pv 11) (pa_cons (pe_lst pa_nil) pa_nil))) pa_nil))) pa_nil)) pa_nil))) (pe_tup (pa_cons (pv 3) (pa_cons (pv 4) pa_nil)))) (pg_tup rfl (pgs_cons (pg_name (i := 3) sc_law.nd rfl (by first | exact Or.inl rfl | exact Or.inr rfl)) (pgs_cons (pg_name (i := 4) sc_law.nd rfl (by first | exact Or.inl rfl | exact Or.inr rfl)) pgs_nil))))))) (pss_one (ps_if (PW.pt (pw_and (pt_cmpR (u_eq hu) (pv 10) pe_int (nomark _)) (pw_and1 (pt_cmpR (u_eq hu) (pe_call G_law_roll hr_law_roll rfl T.mg_law_roll T.fn_law_roll.kp T.bi_law_roll .nil passX (pa_cons (pv 1) (pa_cons pe_int pa_nil))) pe_int (nomark _))))) (pss_cons (ps_set (i := 16) sc_law.nd rfl (by first | exact Or.inl rfl | exact Or.inr rfl) (pe_and (pe_cmpR (u_eq hu) (pv 5) pe_str (nomark _)) (pe_and (pe_cmpR (u_ne hu) (pv 11) pe_str (nomark _)) (pe_one (pe_cmpR (u_inV hu) (pv 11) (pv 3) (by rfl)))))) (pss_cons (ps_setLc (i := 19) (own := [("one", 14)]) (g := (gName 14)) (tt := (tTest (tOp (rEqU K) (tLockE (tLc (iKeys (tVar 4)) (gName 18) (tAnd (tTest (tOp (rNeU K) (tVar 18) (tVar 11))) (tTest (tOp (rInV K) (tVar 14) (tOp (rIxU K) (tVar 4) (tVar 18))))) (tC (.int 1)) [18])) (tLst tNil)))) rfl sc_law.nd rfl rfl (sw_true rfl rfl rfl (by decide +kernel)) (pi_list (pe_callB (u_sorted rfl) (by rfl) T.no_sorted (by decide +kernel) (pa_cons (pe_get2 hu (pv 4) (pv 11) (pe_lst pa_nil) ⟨rfl, rfl, rfl, rfl⟩) pa_nil))) (blkOk_by (N := N_law) (sc := defScope s_law) (by decide +kernel)) (fun _ _ _ _ _ => (pg_name (i := 14) sc_law.nd rfl (by first | exact Or.inl rfl | exact Or.inr rfl))) (fun _ _ _ _ _ => (pts_one (pt_cmpR (u_eq hu) (pe_lock (pe_lc (own := [("other", 18)]) (g := (gName 18)) (tt := (tAnd (tTest (tOp (rNeU K) (tVar 18) (tVar 11))) (tTest (tOp (rInV K) (tVar 14) (tOp (rIxU K) (tVar 4) (tVar 18)))))) rfl sc_law.nd (pi_keys (pv 4)) (blkOk_in (N := N_law) (dsc := defScope s_law) rfl rfl (by decide +kernel)) (fun _ _ _ _ _ => (pg_name (i := 18) sc_law.nd rfl (by first | exact Or.inl rfl | exact Or.inr rfl))) (fun _ _ _ _ _ => (pts_one (PW.pt (pw_and (pt_cmpR (u_ne hu) (pv 18) (pv 11) (nomark _)) (pw_and1 (pt_cmpR (u_inV hu) (pv 14) (pe_ix (u_ix hu) (pv 4) (pv 18) (fun _ _ => rfl)) (by rfl))))))) (fun _ _ _ _ _ => pe_int))) (pe_lst pa_nil) (nomark _)))) (fun _ _ _ _ _ => (pv 14))) (pss_cons (ps_set (i := 17) sc_law.nd rfl (by first | exact Or.inl rfl | exact Or.inr rfl) (pe_lamP2 (t := fun E => (tMeth a.c_People "remove" (sp_People_remove K a) [] E (tVar 2) (tCons (tVar 11) tNil))) rfl T.mg_law_told T.fn_law_told.kp lkT hcdT biT sc_law_told rfl (by first | exact Or.inl rfl | exact Or.inr (Or.inl rfl)) (told_gives2 rfl T.mgc_NameFault (by decide) rfl T.mgc_RightFault (by decide) (fun _ => rfl)) TB_law rfl hr_lam (lamS_by (sc := defScope s_law) (by decide +kernel)) rfl (by intros; rfl) (fun A outer s H E f c' hrl => (pe_meth (pv 2) T.cl_People T.me_People_remove G_People_remove (hrl.mono (by decide)) T.bi_People_remove .nil passLam (pa_cons (pv 11) pa_nil))))) (pss_cons (ps_if (PW.pt (pw_and (pt_tru (pv 16)) (pw_and1 (pt_cmpR (u_ne hu) (pe_callTy call_list_of (by rfl) T.no_list (by decide +kernel) (pa_cons (pv 17) pa_nil)) (pv 19) (nomark _))))) (pss_one (ps_ret pe_bl)) pss_nil) (pss_one (ps_asg (pe_lc (own := [("rows", 20)]) (g := (gName 20)) (tt := tYes) rfl sc_law.nd (pi_tup (pe_tup (pa_cons (pv 3) (pa_cons (pv 4) pa_nil)))) (blkOk_by (N := N_law) (sc := defScope s_law) (by decide +kernel)) (fun _ _ _ _ _ => (pg_name (i := 20) sc_law.nd rfl (by first | exact Or.inl rfl | exact Or.inr rfl))) (fun _ _ _ _ _ => pts_nil) (fun _ _ _ _ _ => (pe_callTy (u_dict rfl) (by rfl) T.no_dict (by decide +kernel) (pa_cons (pe_lock (pe_lc (own := [("one", 14)]) (g := (gName 14)) (tt := (tOr (tTest (tOp (rNeU K) (tVar 14) (tVar 11))) (tNot (tTruth K (tVar 16))))) rfl sc_law.nd (pi_keys (pv 20)) (blkOk_in (N := N_law) (dsc := defScope s_law) rfl rfl (by decide +kernel)) (fun _ _ _ _ _ => (pg_name (i := 14) sc_law.nd rfl (by first | exact Or.inl rfl | exact Or.inr rfl))) (fun _ _ _ _ _ => (pts_one (PW.pt (pw_or (pt_cmpR (u_ne hu) (pv 14) (pv 11) (nomark _)) (pw_or1 (pt_not (pt_tru (pv 16)))))))) (fun _ _ _ _ _ => (pe_tup (pa_cons (pv 14) (pa_cons (pe_ix (u_ix hu) (pv 20) (pv 14) (fun _ _ => rfl)) pa_nil)))))) pa_nil)))) (pg_unl rfl (pgs_cons (pg_name (i := 3) sc_law.nd rfl (by first | exact Or.inl rfl | exact Or.inr rfl)) (pgs_cons (pg_name (i := 4) sc_law.nd rfl (by first | exact Or.inl rfl | exact Or.inr rfl)) pgs_nil))))))))) (pss_one (ps_if (pt_cmpR (u_eq hu) (pv 10) pe_int (nomark _)) (pss_cons (ps_set (i := 16) sc_law.nd rfl (by first | exact Or.inl rfl | exact Or.inr rfl) (pe_and (pe_cmpR u_notN (pv 5) pe_non (nomark _)) (pe_one (pe_cmpR (u_inV hu) (pv 12) (pe_lst (pa_cons pe_non (pa_cons pe_str (pa_cons pe_str pa_nil)))) (by rfl))))) (pss_cons (ps_set (i := 17) sc_law.nd rfl (by first | exact Or.inl rfl | exact Or.inr rfl) (pe_lamP2 (t := fun E => (tMeth a.c_People "set_code" (sp_People_set_code K a) [] E (tVar 2) (tCons (tVar 12) tNil))) rfl T.mg_law_told T.fn_law_told.kp lkT hcdT biT sc_law_told rfl (by first | exact Or.inl rfl | exact Or.inr (Or.inl rfl)) (told_gives2 rfl T.mgc_NameFault (by decide) rfl T.mgc_RightFault (by decide) (fun _ => rfl)) TB_law rfl hr_lam (lamS_by (sc := defScope s_law) (by decide +kernel)) rfl (by intros; rfl) (fun A outer s H E f c' hrl => (pe_meth (pv 2) T.cl_People T.me_People_set_code G_People_set_code (hrl.mono (by decide)) T.bi_People_set_code .nil passLam (pa_cons (pv 12) pa_nil))))) (pss_one (ps_set (i := 3) sc_law.nd rfl (by first | exact Or.inl rfl | exact Or.inr rfl) (pe_ifExp (pt_tru (pv 16)) (pe_callTy (u_dict rfl) (by rfl) T.no_dict (by decide +kernel) (pa_cons (pe_op u_add (LiI.pe_listItems rfl (pv 3) (by rfl) T.no_list (by decide +kernel)) (pe_lst (pa_cons (pe_tup (pa_cons (pv 5) (pa_cons (pv 12) pa_nil))) pa_nil))) pa_nil)) (pv 3)))))) (pss_one (ps_if (pt_cmpR (u_eq hu) (pv 10) pe_int (nomark _)) (pss_one (ps_asg (pe_tup (pa_cons pe_bl (pa_cons (pe_meth0 (pv 2) T.cl_People T.me_People_leave G_People_leave hr_People_leave T.bi_People_leave .nil passX) (pa_cons pe_non pa_nil)))) (pg_tup rfl (pgs_cons (pg_name (i := 16) sc_law.nd rfl (by first | exact Or.inl rfl | exact Or.inr rfl)) (pgs_cons (pg_name (i := 17) sc_law.nd rfl (by first | exact Or.inl rfl | exact Or.inr rfl)) (pgs_cons (pg_name (i := 5) sc_law.nd rfl (by first | exact Or.inl rfl | exact Or.inr rfl)) pgs_nil)))))) (pss_one (ps_if (pt_cmpR u_lt (pv 10) pe_int (nomark _)) (pss_cons (ps_set (i := 16) sc_law.nd rfl (by first | exact Or.inl rfl | exact Or.inr rfl) (pe_and (pe_cmpR u_ge (pv 8) (pv 7) (nomark _)) (pe_and (pe_cmpR (u_inV hu) (pv 11) (pv 3) (by rfl)) (pe_one (pe_cmpR (u_inV hu) (pe_ix (u_ix hu) (pv 3) (pv 11) (fun _ _ => rfl)) (pe_lst (pa_cons pe_non (pa_cons (pv 12) pa_nil))) (by rfl)))))) (pss_cons (ps_set (i := 21) sc_law.nd rfl (by first | exact Or.inl rfl | exact Or.inr rfl) (pe_and (pe_cmpR u_ge (pv 8) (pv 7) (nomark _)) (pe_and (pe_cmpR (u_inV hu) (pv 11) (pv 3) (by rfl)) (pe_one (pe_cmpR (u_notinV hu) (pe_ix (u_ix hu) (pv 3) (pv 11) (fun _ _ => rfl)) (pe_lst (pa_cons pe_non (pa_cons (pv 12) pa_nil))) (by rfl)))))) (pss_cons (ps_set (i := 17) sc_law.nd rfl (by first | exact Or.inl rfl | exact Or.inr rfl) (pe_lamP2 (t := fun E => (tMeth a.c_People "enter" (sp_People_enter K a) [] E (tVar 2) (tCons (tVar 11) (tCons (tVar 12) (tCons (tVar 8) tNil))))) rfl T.mg_law_told T.fn_law_told.kp lkT hcdT biT sc_law_told rfl (by first | exact Or.inl rfl | exact Or.inr (Or.inl rfl)) (told_gives2 rfl T.mgc_NameFault (by decide) rfl T.mgc_RightFault (by decide) (fun _ => rfl)) TB_law rfl hr_lam (lamS_by (sc := defScope s_law) (by decide +kernel)) rfl (by intros; rfl) (fun A outer s H E f c' hrl => (pe_meth (pv 2) T.cl_People T.me_People_enter G_People_enter (hrl.mono (by decide)) T.bi_People_enter .nil passLam (pa_cons (pv 11) (pa_cons (pv 12) (pa_cons (pv 8) pa_nil))))))) (pss_cons (ps_asg (pe_ifExp (pt_tru (pv 16)) (pe_tup (pa_cons pe_int (pa_cons (pv 11) pa_nil))) (pe_tup (pa_cons (pe_op u_add (pv 6) (pe_callTy call_int1 (by rfl) T.no_int (by decide +kernel) (pa_cons (pv 21) pa_nil))) (pa_cons (pv 5) pa_nil)))) (pg_tup rfl (pgs_cons (pg_name (i := 6) sc_law.nd rfl (by first | exact Or.inl rfl | exact Or.inr rfl)) (pgs_cons (pg_name (i := 5) sc_law.nd rfl (by first | exact Or.inl rfl | exact Or.inr rfl)) pgs_nil)))) (pss_one (ps_set (i := 7) sc_law.nd rfl (by first | exact Or.inl rfl | exact Or.inr rfl) (pe_ifExp (PW.pt (pw_and (pt_tru (pv 21)) (pw_and1 (pt_cmpR u_ge (pv 6) pe_int (nomark _))))) (pe_op u_add (pv 8) (pe_op u_mul pe_int (pe_ix (u_ix hu) (pe_lst (pa_cons pe_int (pa_cons pe_int (pa_cons pe_int (pa_cons pe_int (pa_cons pe_int (pa_cons pe_int (pa_cons pe_int pa_nil)))))))) (pe_callB (call_min2 rfl) (by rfl) T.no_min (by decide +kernel) (pa_cons (pe_op u_sub (pv 6) pe_int) (pa_cons pe_int pa_nil))) (fun _ _ => rfl)))) (pv 7)))))))) (pss_one (ps_if (pt_cmpR u_lt (pv 10) pe_int (nomark _)) (pss_cons (ps_set (i := 16) sc_law.nd rfl (by first | exact Or.inl rfl | exact Or.inr rfl) (pe_cmpR u_notN (pv 5) pe_non (nomark _))) (pss_cons (ps_set (i := 17) sc_law.nd rfl (by first | exact Or.inl rfl | exact Or.inr rfl) (pe_lamP2 (t := fun E => (tMeth a.c_People "give" (sp_People_give K a) [] E (tVar 2) (tCons (tVar 13) tNil))) rfl T.mg_law_told T.fn_law_told.kp lkT hcdT biT sc_law_told rfl (by first | exact Or.inl rfl | exact Or.inr (Or.inl rfl)) (told_gives2 rfl T.mgc_NameFault (by decide) rfl T.mgc_RightFault (by decide) (fun _ => rfl)) TB_law rfl hr_lam (lamS_by (sc := defScope s_law) (by decide +kernel)) rfl (by intros; rfl) (fun A outer s H E f c' hrl => (pe_meth (pv 2) T.cl_People T.me_People_give G_People_give (hrl.mono (by decide)) T.bi_People_give .nil passLam (pa_cons (pv 13) pa_nil))))) (pss_one (ps_set (i := 4) sc_law.nd rfl (by first | exact Or.inl rfl | exact Or.inr rfl) (pe_callTy (u_dict rfl) (by rfl) T.no_dict (by decide +kernel) (pa_cons (pe_lock (pe_lc (own := [("one", 14)]) (g := (gName 14)) (tt := tYes) rfl sc_law.nd (pi_keys (pv 4)) (blkOk_by (N := N_law) (sc := defScope s_law) (by decide +kernel)) (fun _ _ _ _ _ => (pg_name (i := 14) sc_law.nd rfl (by first | exact Or.inl rfl | exact Or.inr rfl))) (fun _ _ _ _ _ => pts_nil) (fun _ _ _ _ _ => (pe_tup (pa_cons (pv 14) (pa_cons (pe_op u_add (pe_ix (u_ix hu) (pv 4) (pv 14) (fun _ _ => rfl)) (pe_op u_mul (pe_lst (pa_cons (pv 13) pa_nil)) (pe_callTy call_int1 (by rfl) T.no_int (by decide +kernel) (pa_cons (pe_and (pe_cmpR (u_eq hu) (pv 14) (pv 5) (nomark _)) (pe_one (pe_cmpR (u_notinV hu) (pv 13) (pe_ix (u_ix hu) (pv 4) (pv 14) (fun _ _ => rfl)) (by rfl)))) pa_nil)))) pa_nil)))))) pa_nil)))))) (pss_cons (ps_set (i := 16) sc_law.nd rfl (by first | exact Or.inl rfl | exact Or.inr rfl) (pe_and (pe_cmpR u_notN (pv 5) pe_non (nomark _)) (pe_one (pe_cmpR (u_inV hu) (pv 13) (pe_ix (u_ix hu) (pv 4) (pv 5) (fun _ _ => rfl)) (by rfl))))) (pss_cons (ps_set (i := 17) sc_law.nd rfl (by first | exact Or.inl rfl | exact Or.inr rfl) (pe_lamP2 (t := fun E => (tMeth a.c_People "take" (sp_People_take K a) [] E (tVar 2) (tCons (tVar 13) tNil))) rfl T.mg_law_told T.fn_law_told.kp lkT hcdT biT sc_law_told rfl (by first | exact Or.inl rfl | exact Or.inr (Or.inl rfl)) (told_gives2 rfl T.mgc_NameFault (by decide) rfl T.mgc_RightFault (by decide) (fun _ => rfl)) TB_law rfl hr_lam (lamS_by (sc := defScope s_law) (by decide +kernel)) rfl (by intros; rfl) (fun A outer s H E f c' hrl => (pe_meth (pv 2) T.cl_People T.me_People_take G_People_take (hrl.mono (by decide)) T.bi_People_take .nil passLam (pa_cons (pv 13) pa_nil))))) (pss_cons (ps_set (i := 4) sc_law.nd rfl (by first | exact Or.inl rfl | exact Or.inr rfl) (pe_callTy (u_dict rfl) (by rfl) T.no_dict (by decide +kernel) (pa_cons (pe_lock (pe_lc (own := [("one", 14)]) (g := (gName 14)) (tt := tYes) rfl sc_law.nd (pi_keys (pv 4)) (blkOk_by (N := N_law) (sc := defScope s_law) (by decide +kernel)) (fun _ _ _ _ _ => (pg_name (i := 14) sc_law.nd rfl (by first | exact Or.inl rfl | exact Or.inr rfl))) (fun _ _ _ _ _ => pts_nil) (fun _ _ _ _ _ => (pe_tup (pa_cons (pv 14) (pa_cons (pe_lc (own := [("row", 22)]) (g := (gName 22)) (tt := (tOr (tNot (tTruth K (tVar 16))) (tOr (tTest (tOp (rNeU K) (tVar 14) (tVar 5))) (tTest (tOp (rNeU K) (tVar 22) (tVar 13)))))) rfl sc_law.nd (pi_list (pe_ix (u_ix hu) (pv 4) (pv 14) (fun _ _ => rfl))) (blkOk_in (N := N_law) (dsc := defScope s_law) rfl rfl (by decide +kernel)) (fun _ _ _ _ _ => (pg_name (i := 22) sc_law.nd rfl (by first | exact Or.inl rfl | exact Or.inr rfl))) (fun _ _ _ _ _ => (pts_one (PW.pt (pw_or (pt_not (pt_tru (pv 16))) (pw_or (pt_cmpR (u_ne hu) (pv 14) (pv 5) (nomark _)) (pw_or1 (pt_cmpR (u_ne hu) (pv 22) (pv 13) (nomark _)))))))) (fun _ _ _ _ _ => (pv 22))) pa_nil)))))) pa_nil))) (pss_one (ps_if (PW.pt (pw_and (pt_tru (pv 16)) (pw_and1 (pt_cmpR (u_ne hu) (pv 17) (pe_cmpR (u_eq hu) (pe_lock (pe_lc (own := [("one", 14)]) (g := (gName 14)) (tt := (tTest (tOp (rInV K) (tVar 13) (tOp (rIxU K) (tVar 4) (tVar 14))))) rfl sc_law.nd (pi_keys (pv 4)) (blkOk_by (N := N_law) (sc := defScope s_law) (by decide +kernel)) (fun _ _ _ _ _ => (pg_name (i := 14) sc_law.nd rfl (by first | exact Or.inl rfl | exact Or.inr rfl))) (fun _ _ _ _ _ => (pts_one (pt_cmpR (u_inV hu) (pv 13) (pe_ix (u_ix hu) (pv 4) (pv 14) (fun _ _ => rfl)) (by rfl)))) (fun _ _ _ _ _ => (pv 14)))) (pe_lst pa_nil) (nomark _)) (nomark _))))) (pss_one (ps_ret pe_bl)) pss_nil)))))))))))))))) (pss_cons (ps_if (PW.pt (pw_or (pt_cmpR (u_eq hu) (pe_cmpR (u_eq hu) (pv 17) pe_str (nomark _)) (pv 16) (nomark _)) (pw_or (pt_cmpR (u_ne hu) (pe_fld (pv 2) rfl) (pv 5) (nomark _)) (pw_or (pt_cmpR (u_neW hu) (pe_fld (pv 2) rfl) (pv 3) (nomark _)) (pw_or (pt_cmpR (u_ne hu) (pe_fld (pv 2) rfl) (pv 6) (nomark _)) (pw_or1 (pt_cmpR (u_ne hu) (pe_fld (pv 2) rfl) (pv 7) (nomark _)))))))) (pss_one (ps_ret pe_bl)) pss_nil) (pss_one (ps_for (passes_of rfl) rfl (pi_list (pe_lst (pa_cons pe_str (pa_cons pe_str pa_nil)))) (pg_name (i := 14) sc_law.nd rfl (by first | exact Or.inl rfl | exact Or.inr rfl)) (pss_one (ps_if (PW.pt (pw_or (pt_cmpR (u_ne hu) (pe_meth (pv 2) T.cl_People T.me_People_has_app G_People_has_app hr_People_has_app T.bi_People_has_app .nil passX (pa_cons (pv 14) pa_nil)) (pe_cmpR (u_ne hu) (pe_lock (pe_lc (own := [("name", 11)]) (g := (gName 11)) (tt := (tTest (tOp (rInV K) (tVar 14) (tOp (rIxU K) (tVar 4) (tVar 11))))) rfl sc_law.nd (pi_keys (pv 4)) (blkOk_by (N := N_law) (sc := defScope s_law) (by decide +kernel)) (fun _ _ _ _ _ => (pg_name (i := 11) sc_law.nd rfl (by first | exact Or.inl rfl | exact Or.inr rfl))) (fun _ _ _ _ _ => (pts_one (pt_cmpR (u_inV hu) (pv 14) (pe_ix (u_ix hu) (pv 4) (pv 11) (fun _ _ => rfl)) (by rfl)))) (fun _ _ _ _ _ => (pv 11)))) (pe_lst pa_nil) (nomark _)) (nomark _)) (pw_or1 (pt_cmpR (u_ne hu) (pe_meth (pv 2) T.cl_People T.me_People_sees G_People_sees hr_People_sees T.bi_People_sees .nil passX (pa_cons (pv 14) pa_nil)) (pe_and (pe_cmpR u_notN (pv 5) pe_non (nomark _)) (pe_one (pe_cmpR (u_inV hu) (pv 14) (pe_ix (u_ix hu) (pv 4) (pv 5) (fun _ _ => rfl)) (by rfl)))) (nomark _))))) (pss_one (ps_ret pe_bl)) pss_nil))))))))))))))) (pss_one (ps_ret (pe_and (pe_cmpR (u_eq hu) (pe_lamP2 (t := fun E => (tMake a.c_People (sp_People__init K a) [] E (tCons (tC (.str "A")) tNil))) rfl T.mg_law_told T.fn_law_told.kp lkT hcdT biT sc_law_told rfl (by first | exact Or.inl rfl | exact Or.inr (Or.inl rfl)) (told_gives2 rfl T.mgc_NameFault (by decide) rfl T.mgc_RightFault (by decide) (fun _ => rfl)) TB_law rfl hr_lam (lamS_by (sc := defScope s_law) (by decide +kernel)) rfl (by intros; rfl) (fun A outer s H E f c' hrl => (pe_make T.mk_People G_People__init (hrl.mono (by decide)) rfl T.mgc_People T.bi_People__init .nil passLam (pa_cons pe_str pa_nil)))) pe_str (nomark _)) (pe_one (pe_cmpR u_is (pe_meth0 (pe_make T.mk_People G_People__init hm_People__init rfl T.mgc_People T.bi_People__init .nil passX (pa_cons pe_str pa_nil)) T.cl_People T.me_People_need_owner G_People_need_owner hr_People_need_owner T.bi_People_need_owner .nil passX) pe_non (nomark _)))))))
end
end Wk
namespace Wk
open PySem PySem.Spec PyProof.Rows L2 Ph
open LamX (TabB)
section
variable {P : Program} {w : World} {K : PySem.W.Frag} {mg : Str → Option Value} {base : Heap} {a : Adr}
theorem ok_all (T : Txt K mg a) (TB_check_name : TabB base mg a.cc_check_name a.tb_check_name) (TB_People_has_app : TabB base mg a.cc_People_has_app a.tb_People_has_app) (TB_People_remove : TabB base mg a.cc_People_remove a.tb_People_remove) (TB_People_set_code : TabB base mg a.cc_People_set_code a.tb_People_set_code) (TB_check_value : TabB base mg a.cc_check_value a.tb_check_value) (TB_is_span : TabB base mg a.cc_is_span a.tb_is_span) (TB_Kind_check : TabB base mg a.cc_Kind_check a.tb_Kind_check) (TB_check_key : TabB base mg a.cc_check_key a.tb_check_key) (TB_Settings_shown : TabB base mg a.cc_Settings_shown a.tb_Settings_shown) (TB_law_settings : TabB base mg a.cc_law_settings a.tb_law_settings) (TB_law : TabB base mg a.cc_law a.tb_law) : FnOk P w K mg base (L2.CX P w) 19 a.f_law a.fd_law ["script"] (sp_law K a) := by
  have G_check_name : FnOk P w K mg base (L2.CX P w) 8 a.f_check_name a.fd_check_name ["name"] (sp_check_name K a) := ok_check_name T TB_check_name
  have G_People__init : FnOk P w K mg base (L2.CX P w) 9 a.f_People__init a.fd_People__init ["self", "owner"] (sp_People__init K a) := ok_People__init T G_check_name
  have G_People_need_owner : FnOk P w K mg base (L2.CX P w) 1 a.f_People_need_owner a.fd_People_need_owner ["self"] (sp_People_need_owner K a) := ok_People_need_owner T 
  have G_People_add : FnOk P w K mg base (L2.CX P w) 9 a.f_People_add a.fd_People_add ["self", "name"] (sp_People_add K a) := ok_People_add T G_People_need_owner G_check_name
  have G_People_enter : FnOk P w K mg base (L2.CX P w) 1 a.f_People_enter a.fd_People_enter ["self", "name", "code", "time"] (sp_People_enter K a) := ok_People_enter T 
  have G_People_give : FnOk P w K mg base (L2.CX P w) 1 a.f_People_give a.fd_People_give ["self", "app"] (sp_People_give K a) := ok_People_give T 
  have G_People_has_app : FnOk P w K mg base (L2.CX P w) 8 a.f_People_has_app a.fd_People_has_app ["self", "app"] (sp_People_has_app K a) := ok_People_has_app T TB_People_has_app
  have G_People_leave : FnOk P w K mg base (L2.CX P w) 1 a.f_People_leave a.fd_People_leave ["self"] (sp_People_leave K a) := ok_People_leave T 
  have G_People_remove : FnOk P w K mg base (L2.CX P w) 16 a.f_People_remove a.fd_People_remove ["self", "name"] (sp_People_remove K a) := ok_People_remove T G_People_has_app G_People_need_owner TB_People_remove
  have G_People_sees : FnOk P w K mg base (L2.CX P w) 1 a.f_People_sees a.fd_People_sees ["self", "app"] (sp_People_sees K a) := ok_People_sees T 
  have G_People_set_code : FnOk P w K mg base (L2.CX P w) 8 a.f_People_set_code a.fd_People_set_code ["self", "code"] (sp_People_set_code K a) := ok_People_set_code T TB_People_set_code
  have G_People_take : FnOk P w K mg base (L2.CX P w) 9 a.f_People_take a.fd_People_take ["self", "app"] (sp_People_take K a) := ok_People_take T G_People_has_app
  have G_law_roll : FnOk P w K mg base (L2.CX P w) 1 a.f_law_roll a.fd_law_roll ["dice", "many"] (sp_law_roll K a) := ok_law_roll T 
  have G_law_dice : FnOk P w K mg base (L2.CX P w) 1 a.f_law_dice a.fd_law_dice ["cell"] (sp_law_dice K a) := ok_law_dice T 
  have G_law_rounds : FnOk P w K mg base (L2.CX P w) 2 a.f_law_rounds a.fd_law_rounds ["script", "most"] (sp_law_rounds K a) := ok_law_rounds T G_law_dice
  have G_Kind__init : FnOk P w K mg base (L2.CX P w) 1 a.f_Kind__init a.fd_Kind__init ["self", "default", "allowed"] (sp_Kind__init K a) := ok_Kind__init T 
  have G_check_value : FnOk P w K mg base (L2.CX P w) 8 a.f_check_value a.fd_check_value ["value", "depth"] (sp_check_value K a) := ok_check_value T TB_check_value
  have G_is_span : FnOk P w K mg base (L2.CX P w) 8 a.f_is_span a.fd_is_span ["allowed"] (sp_is_span K a) := ok_is_span T TB_is_span
  have G_Kind_check : FnOk P w K mg base (L2.CX P w) 9 a.f_Kind_check a.fd_Kind_check ["self", "value"] (sp_Kind_check K a) := ok_Kind_check T G_check_value G_is_span TB_Kind_check
  have G_Settings__init : FnOk P w K mg base (L2.CX P w) 1 a.f_Settings__init a.fd_Settings__init ["self"] (sp_Settings__init K a) := ok_Settings__init T 
  have G_Settings_kind_of : FnOk P w K mg base (L2.CX P w) 1 a.f_Settings_kind_of a.fd_Settings_kind_of ["self", "name"] (sp_Settings_kind_of K a) := ok_Settings_kind_of T 
  have G_Settings_clear : FnOk P w K mg base (L2.CX P w) 2 a.f_Settings_clear a.fd_Settings_clear ["self", "name", "person"] (sp_Settings_clear K a) := ok_Settings_clear T G_Settings_kind_of
  have G_check_key : FnOk P w K mg base (L2.CX P w) 8 a.f_check_key a.fd_check_key ["key"] (sp_check_key K a) := ok_check_key T TB_check_key
  have G_Settings_declare : FnOk P w K mg base (L2.CX P w) 10 a.f_Settings_declare a.fd_Settings_declare ["self", "name", "default", "allowed"] (sp_Settings_declare K a) := ok_Settings_declare T G_Kind__init G_Kind_check G_check_key
  have G_Settings_rule : FnOk P w K mg base (L2.CX P w) 10 a.f_Settings_rule a.fd_Settings_rule ["self", "name", "value"] (sp_Settings_rule K a) := ok_Settings_rule T G_Kind_check G_Settings_kind_of
  have G_Settings_set_value : FnOk P w K mg base (L2.CX P w) 10 a.f_Settings_set_value a.fd_Settings_set_value ["self", "name", "value", "person"] (sp_Settings_set_value K a) := ok_Settings_set_value T G_Kind_check G_Settings_kind_of
  have G_Settings_value : FnOk P w K mg base (L2.CX P w) 2 a.f_Settings_value a.fd_Settings_value ["self", "name", "person"] (sp_Settings_value K a) := ok_Settings_value T G_Settings_kind_of
  have G_Settings_shown : FnOk P w K mg base (L2.CX P w) 10 a.f_Settings_shown a.fd_Settings_shown ["self"] (sp_Settings_shown K a) := ok_Settings_shown T G_Settings_value TB_Settings_shown
  have G_law_allowed : FnOk P w K mg base (L2.CX P w) 1 a.f_law_allowed a.fd_law_allowed ["allowed", "value"] (sp_law_allowed K a) := ok_law_allowed T 
  have G_law_settings : FnOk P w K mg base (L2.CX P w) 13 a.f_law_settings a.fd_law_settings ["dice"] (sp_law_settings K a) := ok_law_settings T G_Kind__init G_Kind_check G_Settings__init G_Settings_clear G_Settings_declare G_Settings_rule G_Settings_set_value G_Settings_shown G_Settings_value G_is_span G_law_allowed G_law_roll TB_law_settings
  exact ok_law T G_People__init G_People_add G_People_enter G_People_give G_People_has_app G_People_leave G_People_need_owner G_People_remove G_People_sees G_People_set_code G_People_take G_law_roll G_law_rounds G_law_settings TB_law
theorem cd_of {x qual : Str} {params : Arguments} {body : List Stmt} {scope : Scope} {dvs : List V} {kws : List (Str × V)} {p : Str × Option Str} {fd : FuncData} (F : FunD K x qual params body scope dvs kws (He.fAd K p) fd) : fd.code = .ref (He.cT K p).1 := by
  obtain ⟨oc, od, dV, kV, doc, pm, an, cdv, ct, osl, rfl, lk, hcd, _, _⟩ := F.ex
  obtain ⟨c, rfl⟩ := He.codeIn_ref hcd
  show Value.ref c = .ref (He.codeOf K p)
  rw [He.codeOf_eq lk rfl]
theorem bnd_full {fd : FuncData} {ps : List Str} {dvs : List V} (h : ∃ ds, Vals (dvs.drop dvs.length) ds ∧ Binds K fd ps ds) : Binds K fd ps [] := by
  obtain ⟨ds, v, b⟩ := h
  rw [List.drop_length] at v
  cases v
  exact b
end
def faD_0 : List He.Fa := [.cls "People", .noat "People" "owner", .noat "People" "codes", .noat "People" "apps", .noat "People" "here", .noat "People" "failed", .noat "People" "locked_until", .glo "People", .mkr "People", .cls "Kind", .noat "Kind" "default", .noat "Kind" "allowed", .glo "Kind", .mkr "Kind", .cls "Settings", .noat "Settings" "kinds", .noat "Settings" "rows", .noat "Settings" "own", .noat "Settings" "rules", .glo "Settings", .mkr "Settings", .meth "People" "need_owner", .meth "People" "add", .meth "People" "remove", .meth "People" "set_code", .meth "People" "leave", .meth "People" "enter", .meth "People" "give", .meth "People" "take", .meth "People" "has_app"]
def faD_1 : List He.Fa := [.meth "People" "sees", .meth "Kind" "check", .meth "Settings" "declare", .meth "Settings" "kind_of", .meth "Settings" "set_value", .meth "Settings" "clear", .meth "Settings" "rule", .meth "Settings" "value", .meth "Settings" "shown", .glo "check_name", .glo "check_key", .glo "check_value", .glo "is_span", .glo "_law_dice", .glo "_law_roll", .glo "_law_rounds", .glo "_law_told", .glo "_law_allowed", .glo "_law_settings", .glo "law", .free "abs", .free "all", .free "any", .free "bool", .free "dict", .free "int", .free "isinstance", .free "len", .free "list", .free "min"]
def faD_2 : List He.Fa := [.free "range", .free "sorted", .free "str", .free "tuple", .str "KEY_LETTERS" "abcdefghijklmnopqrstuvwxyzABCDEFGHIJKLMNOPQRSTUVWXYZ0123456789._-/", .str "LETTERS" "\n !\"#$&'()*+,-./0123456789:;<=>?@ABCDEFGHIJKLMNOPQRSTUVWXYZ[\\]^_`abcdefghijklmnopqrstuvwxyz{|}~", .int "MOST_NUMBER" 1000000000000, .int "MOST_PEOPLE" 4, .int "MOST_TEXT" 200, .str "NAME_LETTERS" "abcdefghijklmnopqrstuvwxyz0123456789.", .exm "RightFault" "NameFault" false, .glo "NameFault", .exc "NameFault", .exm "NameFault" "NameFault" true, .glo "RightFault", .exc "RightFault", .exm "RightFault" "RightFault" true]
def faD : List He.Fa := faD_0 ++ faD_1 ++ faD_2
def dD_People__init : He.DefD := ⟨("People", some "__init__"), "__init__", "People.__init__", defArgs s_People__init, defBody s_People__init, defScope s_People__init, [], []⟩
def dD_People_need_owner : He.DefD := ⟨("People", some "need_owner"), "need_owner", "People.need_owner", defArgs s_People_need_owner, defBody s_People_need_owner, defScope s_People_need_owner, [], []⟩
def dD_People_add : He.DefD := ⟨("People", some "add"), "add", "People.add", defArgs s_People_add, defBody s_People_add, defScope s_People_add, [], []⟩
def dD_People_remove : He.DefD := ⟨("People", some "remove"), "remove", "People.remove", defArgs s_People_remove, defBody s_People_remove, defScope s_People_remove, [], []⟩
def dD_People_set_code : He.DefD := ⟨("People", some "set_code"), "set_code", "People.set_code", defArgs s_People_set_code, defBody s_People_set_code, defScope s_People_set_code, [], []⟩
def dD_People_leave : He.DefD := ⟨("People", some "leave"), "leave", "People.leave", defArgs s_People_leave, defBody s_People_leave, defScope s_People_leave, [], []⟩
def dD_People_enter : He.DefD := ⟨("People", some "enter"), "enter", "People.enter", defArgs s_People_enter, defBody s_People_enter, defScope s_People_enter, [], []⟩
def dD_People_give : He.DefD := ⟨("People", some "give"), "give", "People.give", defArgs s_People_give, defBody s_People_give, defScope s_People_give, [], []⟩
def dD_People_take : He.DefD := ⟨("People", some "take"), "take", "People.take", defArgs s_People_take, defBody s_People_take, defScope s_People_take, [], []⟩
def dD_People_has_app : He.DefD := ⟨("People", some "has_app"), "has_app", "People.has_app", defArgs s_People_has_app, defBody s_People_has_app, defScope s_People_has_app, [], []⟩
def dD_People_sees : He.DefD := ⟨("People", some "sees"), "sees", "People.sees", defArgs s_People_sees, defBody s_People_sees, defScope s_People_sees, [], []⟩
def dD_Kind__init : He.DefD := ⟨("Kind", some "__init__"), "__init__", "Kind.__init__", defArgs s_Kind__init, defBody s_Kind__init, defScope s_Kind__init, [], []⟩
def dD_Kind_check : He.DefD := ⟨("Kind", some "check"), "check", "Kind.check", defArgs s_Kind_check, defBody s_Kind_check, defScope s_Kind_check, [], []⟩
def dD_Settings__init : He.DefD := ⟨("Settings", some "__init__"), "__init__", "Settings.__init__", defArgs s_Settings__init, defBody s_Settings__init, defScope s_Settings__init, [], []⟩
def dD_Settings_declare : He.DefD := ⟨("Settings", some "declare"), "declare", "Settings.declare", defArgs s_Settings_declare, defBody s_Settings_declare, defScope s_Settings_declare, [.non], []⟩
def dD_Settings_kind_of : He.DefD := ⟨("Settings", some "kind_of"), "kind_of", "Settings.kind_of", defArgs s_Settings_kind_of, defBody s_Settings_kind_of, defScope s_Settings_kind_of, [], []⟩
def dD_Settings_set_value : He.DefD := ⟨("Settings", some "set_value"), "set_value", "Settings.set_value", defArgs s_Settings_set_value, defBody s_Settings_set_value, defScope s_Settings_set_value, [.non], []⟩
def dD_Settings_clear : He.DefD := ⟨("Settings", some "clear"), "clear", "Settings.clear", defArgs s_Settings_clear, defBody s_Settings_clear, defScope s_Settings_clear, [.non], []⟩
def dD_Settings_rule : He.DefD := ⟨("Settings", some "rule"), "rule", "Settings.rule", defArgs s_Settings_rule, defBody s_Settings_rule, defScope s_Settings_rule, [], []⟩
def dD_Settings_value : He.DefD := ⟨("Settings", some "value"), "value", "Settings.value", defArgs s_Settings_value, defBody s_Settings_value, defScope s_Settings_value, [.non], []⟩
def dD_Settings_shown : He.DefD := ⟨("Settings", some "shown"), "shown", "Settings.shown", defArgs s_Settings_shown, defBody s_Settings_shown, defScope s_Settings_shown, [], []⟩
def dD_check_name : He.DefD := ⟨("check_name", none), "check_name", "check_name", defArgs s_check_name, defBody s_check_name, defScope s_check_name, [], []⟩
def dD_check_key : He.DefD := ⟨("check_key", none), "check_key", "check_key", defArgs s_check_key, defBody s_check_key, defScope s_check_key, [], []⟩
def dD_check_value : He.DefD := ⟨("check_value", none), "check_value", "check_value", defArgs s_check_value, defBody s_check_value, defScope s_check_value, [(.int 0)], []⟩
def dD_is_span : He.DefD := ⟨("is_span", none), "is_span", "is_span", defArgs s_is_span, defBody s_is_span, defScope s_is_span, [], []⟩
def dD_law_dice : He.DefD := ⟨("_law_dice", none), "_law_dice", "_law_dice", defArgs s_law_dice, defBody s_law_dice, defScope s_law_dice, [], []⟩
def dD_law_roll : He.DefD := ⟨("_law_roll", none), "_law_roll", "_law_roll", defArgs s_law_roll, defBody s_law_roll, defScope s_law_roll, [], []⟩
def dD_law_rounds : He.DefD := ⟨("_law_rounds", none), "_law_rounds", "_law_rounds", defArgs s_law_rounds, defBody s_law_rounds, defScope s_law_rounds, [], []⟩
def dD_law_told : He.DefD := ⟨("_law_told", none), "_law_told", "_law_told", defArgs s_law_told, defBody s_law_told, defScope s_law_told, [], []⟩
def dD_law_allowed : He.DefD := ⟨("_law_allowed", none), "_law_allowed", "_law_allowed", defArgs s_law_allowed, defBody s_law_allowed, defScope s_law_allowed, [], []⟩
def dD_law_settings : He.DefD := ⟨("_law_settings", none), "_law_settings", "_law_settings", defArgs s_law_settings, defBody s_law_settings, defScope s_law_settings, [], []⟩
def dD_law : He.DefD := ⟨("law", none), "law", "law", defArgs s_law, defBody s_law, defScope s_law, [], []⟩
def fnD_0 : List He.DefD := [dD_People__init, dD_People_need_owner, dD_People_add, dD_People_remove, dD_People_set_code, dD_People_leave, dD_People_enter, dD_People_give, dD_People_take, dD_People_has_app, dD_People_sees, dD_Kind__init, dD_Kind_check, dD_Settings__init, dD_Settings_declare, dD_Settings_kind_of, dD_Settings_set_value, dD_Settings_clear, dD_Settings_rule, dD_Settings_value, dD_Settings_shown, dD_check_name, dD_check_key, dD_check_value, dD_is_span, dD_law_dice, dD_law_roll, dD_law_rounds, dD_law_told, dD_law_allowed]
def fnD_1 : List He.DefD := [dD_law_settings, dD_law]
def fnD : List He.DefD := fnD_0 ++ fnD_1
def tfD : List He.Defn := [("People", some "remove"), ("People", some "set_code"), ("People", some "has_app"), ("Kind", some "check"), ("Settings", some "shown"), ("check_name", none), ("check_key", none), ("check_value", none), ("is_span", none), ("_law_settings", none), ("law", none)]
def tupE (K : PySem.W.Frag) (a : Addr) : Bool := match K.lookup a with
  | some ⟨.type n, _, .seq its _, _⟩ => n == "tuple" && its.isEmpty
  | _ => false
theorem tupE_ok {K : PySem.W.Frag} {a : Addr} (h : tupE K a = true) : ∃ (o : Obj) (n : Nat), K.lookup a = some o ∧ o.cls = .type "tuple" ∧ o.data = .seq #[] n := by
  unfold tupE at h
  split at h
  · rename_i n d its k sl e
    simp only [Bool.and_eq_true, beq_iff_eq, Array.isEmpty_iff] at h
    exact ⟨_, k, e, by rw [h.1], by rw [h.2]⟩
  · cases h
def exD (K : PySem.W.Frag) : Bool := decide ((tfD.map fun p => (He.cT K p).2).Nodup)
theorem fin {l : PySem.W.OpenLaw} {w : World} {K : PySem.W.Frag} {h : Heap} {mg : Str → Option Value} {fa : Addr} (X : K.In h) (G : h.Ns mainGlobals mg) (hfa : mg "law" = some (.ref fa)) (c : He.SaysX faD fnD [] tfD exD w h K) :
    LamX.LawAtS l w K (L2.CX l.prog w) 19 63 "script" mg fa h := by
  have d := c.t.d
  have more : exD K = true := c.more
  unfold exD at more
  have moreN := more
  obtain ⟨fd_People__init, F_People__init⟩ := d.def_ 0 (d := dD_People__init) rfl
  have F_People__init : FunD K "__init__" "People.__init__" (defArgs s_People__init) (defBody s_People__init) (defScope s_People__init) [] [] (He.fAd K ("People", some "__init__")) fd_People__init := F_People__init
  obtain ⟨fd_People_need_owner, F_People_need_owner⟩ := d.def_ 1 (d := dD_People_need_owner) rfl
  have F_People_need_owner : FunD K "need_owner" "People.need_owner" (defArgs s_People_need_owner) (defBody s_People_need_owner) (defScope s_People_need_owner) [] [] (He.fAd K ("People", some "need_owner")) fd_People_need_owner := F_People_need_owner
  obtain ⟨fd_People_add, F_People_add⟩ := d.def_ 2 (d := dD_People_add) rfl
  have F_People_add : FunD K "add" "People.add" (defArgs s_People_add) (defBody s_People_add) (defScope s_People_add) [] [] (He.fAd K ("People", some "add")) fd_People_add := F_People_add
  obtain ⟨fd_People_remove, F_People_remove⟩ := d.def_ 3 (d := dD_People_remove) rfl
  have F_People_remove : FunD K "remove" "People.remove" (defArgs s_People_remove) (defBody s_People_remove) (defScope s_People_remove) [] [] (He.fAd K ("People", some "remove")) fd_People_remove := F_People_remove
  obtain ⟨fd_People_set_code, F_People_set_code⟩ := d.def_ 4 (d := dD_People_set_code) rfl
  have F_People_set_code : FunD K "set_code" "People.set_code" (defArgs s_People_set_code) (defBody s_People_set_code) (defScope s_People_set_code) [] [] (He.fAd K ("People", some "set_code")) fd_People_set_code := F_People_set_code
  obtain ⟨fd_People_leave, F_People_leave⟩ := d.def_ 5 (d := dD_People_leave) rfl
  have F_People_leave : FunD K "leave" "People.leave" (defArgs s_People_leave) (defBody s_People_leave) (defScope s_People_leave) [] [] (He.fAd K ("People", some "leave")) fd_People_leave := F_People_leave
  obtain ⟨fd_People_enter, F_People_enter⟩ := d.def_ 6 (d := dD_People_enter) rfl
  have F_People_enter : FunD K "enter" "People.enter" (defArgs s_People_enter) (defBody s_People_enter) (defScope s_People_enter) [] [] (He.fAd K ("People", some "enter")) fd_People_enter := F_People_enter
  obtain ⟨fd_People_give, F_People_give⟩ := d.def_ 7 (d := dD_People_give) rfl
  have F_People_give : FunD K "give" "People.give" (defArgs s_People_give) (defBody s_People_give) (defScope s_People_give) [] [] (He.fAd K ("People", some "give")) fd_People_give := F_People_give
  obtain ⟨fd_People_take, F_People_take⟩ := d.def_ 8 (d := dD_People_take) rfl
  have F_People_take : FunD K "take" "People.take" (defArgs s_People_take) (defBody s_People_take) (defScope s_People_take) [] [] (He.fAd K ("People", some "take")) fd_People_take := F_People_take
  obtain ⟨fd_People_has_app, F_People_has_app⟩ := d.def_ 9 (d := dD_People_has_app) rfl
  have F_People_has_app : FunD K "has_app" "People.has_app" (defArgs s_People_has_app) (defBody s_People_has_app) (defScope s_People_has_app) [] [] (He.fAd K ("People", some "has_app")) fd_People_has_app := F_People_has_app
  obtain ⟨fd_People_sees, F_People_sees⟩ := d.def_ 10 (d := dD_People_sees) rfl
  have F_People_sees : FunD K "sees" "People.sees" (defArgs s_People_sees) (defBody s_People_sees) (defScope s_People_sees) [] [] (He.fAd K ("People", some "sees")) fd_People_sees := F_People_sees
  obtain ⟨fd_Kind__init, F_Kind__init⟩ := d.def_ 11 (d := dD_Kind__init) rfl
  have F_Kind__init : FunD K "__init__" "Kind.__init__" (defArgs s_Kind__init) (defBody s_Kind__init) (defScope s_Kind__init) [] [] (He.fAd K ("Kind", some "__init__")) fd_Kind__init := F_Kind__init
  obtain ⟨fd_Kind_check, F_Kind_check⟩ := d.def_ 12 (d := dD_Kind_check) rfl
  have F_Kind_check : FunD K "check" "Kind.check" (defArgs s_Kind_check) (defBody s_Kind_check) (defScope s_Kind_check) [] [] (He.fAd K ("Kind", some "check")) fd_Kind_check := F_Kind_check
  obtain ⟨fd_Settings__init, F_Settings__init⟩ := d.def_ 13 (d := dD_Settings__init) rfl
  have F_Settings__init : FunD K "__init__" "Settings.__init__" (defArgs s_Settings__init) (defBody s_Settings__init) (defScope s_Settings__init) [] [] (He.fAd K ("Settings", some "__init__")) fd_Settings__init := F_Settings__init
  obtain ⟨fd_Settings_declare, F_Settings_declare⟩ := d.def_ 14 (d := dD_Settings_declare) rfl
  have F_Settings_declare : FunD K "declare" "Settings.declare" (defArgs s_Settings_declare) (defBody s_Settings_declare) (defScope s_Settings_declare) [.non] [] (He.fAd K ("Settings", some "declare")) fd_Settings_declare := F_Settings_declare
  obtain ⟨fd_Settings_kind_of, F_Settings_kind_of⟩ := d.def_ 15 (d := dD_Settings_kind_of) rfl
  have F_Settings_kind_of : FunD K "kind_of" "Settings.kind_of" (defArgs s_Settings_kind_of) (defBody s_Settings_kind_of) (defScope s_Settings_kind_of) [] [] (He.fAd K ("Settings", some "kind_of")) fd_Settings_kind_of := F_Settings_kind_of
  obtain ⟨fd_Settings_set_value, F_Settings_set_value⟩ := d.def_ 16 (d := dD_Settings_set_value) rfl
  have F_Settings_set_value : FunD K "set_value" "Settings.set_value" (defArgs s_Settings_set_value) (defBody s_Settings_set_value) (defScope s_Settings_set_value) [.non] [] (He.fAd K ("Settings", some "set_value")) fd_Settings_set_value := F_Settings_set_value
  obtain ⟨fd_Settings_clear, F_Settings_clear⟩ := d.def_ 17 (d := dD_Settings_clear) rfl
  have F_Settings_clear : FunD K "clear" "Settings.clear" (defArgs s_Settings_clear) (defBody s_Settings_clear) (defScope s_Settings_clear) [.non] [] (He.fAd K ("Settings", some "clear")) fd_Settings_clear := F_Settings_clear
  obtain ⟨fd_Settings_rule, F_Settings_rule⟩ := d.def_ 18 (d := dD_Settings_rule) rfl
  have F_Settings_rule : FunD K "rule" "Settings.rule" (defArgs s_Settings_rule) (defBody s_Settings_rule) (defScope s_Settings_rule) [] [] (He.fAd K ("Settings", some "rule")) fd_Settings_rule := F_Settings_rule
  obtain ⟨fd_Settings_value, F_Settings_value⟩ := d.def_ 19 (d := dD_Settings_value) rfl
  have F_Settings_value : FunD K "value" "Settings.value" (defArgs s_Settings_value) (defBody s_Settings_value) (defScope s_Settings_value) [.non] [] (He.fAd K ("Settings", some "value")) fd_Settings_value := F_Settings_value
  obtain ⟨fd_Settings_shown, F_Settings_shown⟩ := d.def_ 20 (d := dD_Settings_shown) rfl
  have F_Settings_shown : FunD K "shown" "Settings.shown" (defArgs s_Settings_shown) (defBody s_Settings_shown) (defScope s_Settings_shown) [] [] (He.fAd K ("Settings", some "shown")) fd_Settings_shown := F_Settings_shown
  obtain ⟨fd_check_name, F_check_name⟩ := d.def_ 21 (d := dD_check_name) rfl
  have F_check_name : FunD K "check_name" "check_name" (defArgs s_check_name) (defBody s_check_name) (defScope s_check_name) [] [] (He.fAd K ("check_name", none)) fd_check_name := F_check_name
  obtain ⟨fd_check_key, F_check_key⟩ := d.def_ 22 (d := dD_check_key) rfl
  have F_check_key : FunD K "check_key" "check_key" (defArgs s_check_key) (defBody s_check_key) (defScope s_check_key) [] [] (He.fAd K ("check_key", none)) fd_check_key := F_check_key
  obtain ⟨fd_check_value, F_check_value⟩ := d.def_ 23 (d := dD_check_value) rfl
  have F_check_value : FunD K "check_value" "check_value" (defArgs s_check_value) (defBody s_check_value) (defScope s_check_value) [(.int 0)] [] (He.fAd K ("check_value", none)) fd_check_value := F_check_value
  obtain ⟨fd_is_span, F_is_span⟩ := d.def_ 24 (d := dD_is_span) rfl
  have F_is_span : FunD K "is_span" "is_span" (defArgs s_is_span) (defBody s_is_span) (defScope s_is_span) [] [] (He.fAd K ("is_span", none)) fd_is_span := F_is_span
  obtain ⟨fd_law_dice, F_law_dice⟩ := d.def_ 25 (d := dD_law_dice) rfl
  have F_law_dice : FunD K "_law_dice" "_law_dice" (defArgs s_law_dice) (defBody s_law_dice) (defScope s_law_dice) [] [] (He.fAd K ("_law_dice", none)) fd_law_dice := F_law_dice
  obtain ⟨fd_law_roll, F_law_roll⟩ := d.def_ 26 (d := dD_law_roll) rfl
  have F_law_roll : FunD K "_law_roll" "_law_roll" (defArgs s_law_roll) (defBody s_law_roll) (defScope s_law_roll) [] [] (He.fAd K ("_law_roll", none)) fd_law_roll := F_law_roll
  obtain ⟨fd_law_rounds, F_law_rounds⟩ := d.def_ 27 (d := dD_law_rounds) rfl
  have F_law_rounds : FunD K "_law_rounds" "_law_rounds" (defArgs s_law_rounds) (defBody s_law_rounds) (defScope s_law_rounds) [] [] (He.fAd K ("_law_rounds", none)) fd_law_rounds := F_law_rounds
  obtain ⟨fd_law_told, F_law_told⟩ := d.def_ 28 (d := dD_law_told) rfl
  have F_law_told : FunD K "_law_told" "_law_told" (defArgs s_law_told) (defBody s_law_told) (defScope s_law_told) [] [] (He.fAd K ("_law_told", none)) fd_law_told := F_law_told
  obtain ⟨fd_law_allowed, F_law_allowed⟩ := d.def_ 29 (d := dD_law_allowed) rfl
  have F_law_allowed : FunD K "_law_allowed" "_law_allowed" (defArgs s_law_allowed) (defBody s_law_allowed) (defScope s_law_allowed) [] [] (He.fAd K ("_law_allowed", none)) fd_law_allowed := F_law_allowed
  obtain ⟨fd_law_settings, F_law_settings⟩ := d.def_ 30 (d := dD_law_settings) rfl
  have F_law_settings : FunD K "_law_settings" "_law_settings" (defArgs s_law_settings) (defBody s_law_settings) (defScope s_law_settings) [] [] (He.fAd K ("_law_settings", none)) fd_law_settings := F_law_settings
  obtain ⟨fd_law, F_law⟩ := d.def_ 31 (d := dD_law) rfl
  have F_law : FunD K "law" "law" (defArgs s_law) (defBody s_law) (defScope s_law) [] [] (He.fAd K ("law", none)) fd_law := F_law
  have e := hfa.symm.trans (He.glo_ok X G (d.fact 49 (f := .glo "law") rfl))
  cases e
  let A : Adr := ⟨He.ga K "People", He.ga K "Kind", He.ga K "Settings", He.ga K "NameFault", He.ga K "RightFault", He.fAd K ("People", some "__init__"), fd_People__init, He.fAd K ("People", some "need_owner"), fd_People_need_owner, He.fAd K ("People", some "add"), fd_People_add, He.fAd K ("People", some "remove"), fd_People_remove, He.fAd K ("People", some "set_code"), fd_People_set_code, He.fAd K ("People", some "leave"), fd_People_leave, He.fAd K ("People", some "enter"), fd_People_enter, He.fAd K ("People", some "give"), fd_People_give, He.fAd K ("People", some "take"), fd_People_take, He.fAd K ("People", some "has_app"), fd_People_has_app, He.fAd K ("People", some "sees"), fd_People_sees, He.fAd K ("Kind", some "__init__"), fd_Kind__init, He.fAd K ("Kind", some "check"), fd_Kind_check, He.fAd K ("Settings", some "__init__"), fd_Settings__init, He.fAd K ("Settings", some "declare"), fd_Settings_declare, He.fAd K ("Settings", some "kind_of"), fd_Settings_kind_of, He.fAd K ("Settings", some "set_value"), fd_Settings_set_value, He.fAd K ("Settings", some "clear"), fd_Settings_clear, He.fAd K ("Settings", some "rule"), fd_Settings_rule, He.fAd K ("Settings", some "value"), fd_Settings_value, He.fAd K ("Settings", some "shown"), fd_Settings_shown, He.fAd K ("check_name", none), fd_check_name, He.fAd K ("check_key", none), fd_check_key, He.fAd K ("check_value", none), fd_check_value, He.fAd K ("is_span", none), fd_is_span, He.fAd K ("_law_dice", none), fd_law_dice, He.fAd K ("_law_roll", none), fd_law_roll, He.fAd K ("_law_rounds", none), fd_law_rounds, He.fAd K ("_law_told", none), fd_law_told, He.fAd K ("_law_allowed", none), fd_law_allowed, He.fAd K ("_law_settings", none), fd_law_settings, He.fAd K ("law", none), fd_law, (He.cT K ("People", some "remove")).1, (He.cT K ("People", some "remove")).2, (He.cT K ("People", some "set_code")).1, (He.cT K ("People", some "set_code")).2, (He.cT K ("People", some "has_app")).1, (He.cT K ("People", some "has_app")).2, (He.cT K ("Kind", some "check")).1, (He.cT K ("Kind", some "check")).2, (He.cT K ("Settings", some "shown")).1, (He.cT K ("Settings", some "shown")).2, (He.cT K ("check_name", none)).1, (He.cT K ("check_name", none)).2, (He.cT K ("check_key", none)).1, (He.cT K ("check_key", none)).2, (He.cT K ("check_value", none)).1, (He.cT K ("check_value", none)).2, (He.cT K ("is_span", none)).1, (He.cT K ("is_span", none)).2, (He.cT K ("_law_settings", none)).1, (He.cT K ("_law_settings", none)).2, (He.cT K ("law", none)).1, (He.cT K ("law", none)).2⟩
  have T : Txt K mg A :=
    { cl_People := He.cls_ok (d.fact 0 (f := .cls "People") rfl),
      na_People_owner := He.noat_ok (d.fact 1 (f := .noat "People" "owner") rfl),
      na_People_codes := He.noat_ok (d.fact 2 (f := .noat "People" "codes") rfl),
      na_People_apps := He.noat_ok (d.fact 3 (f := .noat "People" "apps") rfl),
      na_People_here := He.noat_ok (d.fact 4 (f := .noat "People" "here") rfl),
      na_People_failed := He.noat_ok (d.fact 5 (f := .noat "People" "failed") rfl),
      na_People_locked_until := He.noat_ok (d.fact 6 (f := .noat "People" "locked_until") rfl),
      mgc_People := He.glo_ok X G (d.fact 7 (f := .glo "People") rfl),
      mk_People := He.mkr_ok (d.fact 8 (f := .mkr "People") rfl),
      cl_Kind := He.cls_ok (d.fact 9 (f := .cls "Kind") rfl),
      na_Kind_default := He.noat_ok (d.fact 10 (f := .noat "Kind" "default") rfl),
      na_Kind_allowed := He.noat_ok (d.fact 11 (f := .noat "Kind" "allowed") rfl),
      mgc_Kind := He.glo_ok X G (d.fact 12 (f := .glo "Kind") rfl),
      mk_Kind := He.mkr_ok (d.fact 13 (f := .mkr "Kind") rfl),
      cl_Settings := He.cls_ok (d.fact 14 (f := .cls "Settings") rfl),
      na_Settings_kinds := He.noat_ok (d.fact 15 (f := .noat "Settings" "kinds") rfl),
      na_Settings_rows := He.noat_ok (d.fact 16 (f := .noat "Settings" "rows") rfl),
      na_Settings_own := He.noat_ok (d.fact 17 (f := .noat "Settings" "own") rfl),
      na_Settings_rules := He.noat_ok (d.fact 18 (f := .noat "Settings" "rules") rfl),
      mgc_Settings := He.glo_ok X G (d.fact 19 (f := .glo "Settings") rfl),
      mk_Settings := He.mkr_ok (d.fact 20 (f := .mkr "Settings") rfl),
      fn_People__init := F_People__init,
      bi_People__init := FunD.bindsN F_People__init fun _ _ _ _ _ _ us hl => match us, hl with | [_, _], _ => rfl,
      me_People_need_owner := He.meth_ok (d.fact 21 (f := .meth "People" "need_owner") rfl),
      fn_People_need_owner := F_People_need_owner,
      bi_People_need_owner := FunD.bindsN F_People_need_owner fun _ _ _ _ _ _ us hl => match us, hl with | [_], _ => rfl,
      me_People_add := He.meth_ok (d.fact 22 (f := .meth "People" "add") rfl),
      fn_People_add := F_People_add,
      bi_People_add := FunD.bindsN F_People_add fun _ _ _ _ _ _ us hl => match us, hl with | [_, _], _ => rfl,
      me_People_remove := He.meth_ok (d.fact 23 (f := .meth "People" "remove") rfl),
      fn_People_remove := F_People_remove,
      bi_People_remove := FunD.bindsN F_People_remove fun _ _ _ _ _ _ us hl => match us, hl with | [_, _], _ => rfl,
      me_People_set_code := He.meth_ok (d.fact 24 (f := .meth "People" "set_code") rfl),
      fn_People_set_code := F_People_set_code,
      bi_People_set_code := FunD.bindsN F_People_set_code fun _ _ _ _ _ _ us hl => match us, hl with | [_, _], _ => rfl,
      me_People_leave := He.meth_ok (d.fact 25 (f := .meth "People" "leave") rfl),
      fn_People_leave := F_People_leave,
      bi_People_leave := FunD.bindsN F_People_leave fun _ _ _ _ _ _ us hl => match us, hl with | [_], _ => rfl,
      me_People_enter := He.meth_ok (d.fact 26 (f := .meth "People" "enter") rfl),
      fn_People_enter := F_People_enter,
      bi_People_enter := FunD.bindsN F_People_enter fun _ _ _ _ _ _ us hl => match us, hl with | [_, _, _, _], _ => rfl,
      me_People_give := He.meth_ok (d.fact 27 (f := .meth "People" "give") rfl),
      fn_People_give := F_People_give,
      bi_People_give := FunD.bindsN F_People_give fun _ _ _ _ _ _ us hl => match us, hl with | [_, _], _ => rfl,
      me_People_take := He.meth_ok (d.fact 28 (f := .meth "People" "take") rfl),
      fn_People_take := F_People_take,
      bi_People_take := FunD.bindsN F_People_take fun _ _ _ _ _ _ us hl => match us, hl with | [_, _], _ => rfl,
      me_People_has_app := He.meth_ok (d.fact 29 (f := .meth "People" "has_app") rfl),
      fn_People_has_app := F_People_has_app,
      bi_People_has_app := FunD.bindsN F_People_has_app fun _ _ _ _ _ _ us hl => match us, hl with | [_, _], _ => rfl,
      me_People_sees := He.meth_ok (d.fact 30 (f := .meth "People" "sees") rfl),
      fn_People_sees := F_People_sees,
      bi_People_sees := FunD.bindsN F_People_sees fun _ _ _ _ _ _ us hl => match us, hl with | [_, _], _ => rfl,
      fn_Kind__init := F_Kind__init,
      bi_Kind__init := FunD.bindsN F_Kind__init fun _ _ _ _ _ _ us hl => match us, hl with | [_, _, _], _ => rfl,
      me_Kind_check := He.meth_ok (d.fact 31 (f := .meth "Kind" "check") rfl),
      fn_Kind_check := F_Kind_check,
      bi_Kind_check := FunD.bindsN F_Kind_check fun _ _ _ _ _ _ us hl => match us, hl with | [_, _], _ => rfl,
      fn_Settings__init := F_Settings__init,
      bi_Settings__init := FunD.bindsN F_Settings__init fun _ _ _ _ _ _ us hl => match us, hl with | [_], _ => rfl,
      me_Settings_declare := He.meth_ok (d.fact 32 (f := .meth "Settings" "declare") rfl),
      fn_Settings_declare := F_Settings_declare,
      bi_Settings_declare := bnd_full (dvs := [.non]) (FunD.binds1 (ps := ["self", "name", "default", "allowed"]) F_Settings_declare 4 1 (by simp) (by rfl) fun _ _ _ _ _ _ _ us its l1 l2 => match us, l1, its, l2 with | [_, _, _, _], _, [_], _ => ⟨_, rfl, rfl⟩),
      me_Settings_kind_of := He.meth_ok (d.fact 33 (f := .meth "Settings" "kind_of") rfl),
      fn_Settings_kind_of := F_Settings_kind_of,
      bi_Settings_kind_of := FunD.bindsN F_Settings_kind_of fun _ _ _ _ _ _ us hl => match us, hl with | [_, _], _ => rfl,
      me_Settings_set_value := He.meth_ok (d.fact 34 (f := .meth "Settings" "set_value") rfl),
      fn_Settings_set_value := F_Settings_set_value,
      bi_Settings_set_value := bnd_full (dvs := [.non]) (FunD.binds1 (ps := ["self", "name", "value", "person"]) F_Settings_set_value 4 1 (by simp) (by rfl) fun _ _ _ _ _ _ _ us its l1 l2 => match us, l1, its, l2 with | [_, _, _, _], _, [_], _ => ⟨_, rfl, rfl⟩),
      me_Settings_clear := He.meth_ok (d.fact 35 (f := .meth "Settings" "clear") rfl),
      fn_Settings_clear := F_Settings_clear,
      bi_Settings_clear := bnd_full (dvs := [.non]) (FunD.binds1 (ps := ["self", "name", "person"]) F_Settings_clear 3 1 (by simp) (by rfl) fun _ _ _ _ _ _ _ us its l1 l2 => match us, l1, its, l2 with | [_, _, _], _, [_], _ => ⟨_, rfl, rfl⟩),
      me_Settings_rule := He.meth_ok (d.fact 36 (f := .meth "Settings" "rule") rfl),
      fn_Settings_rule := F_Settings_rule,
      bi_Settings_rule := FunD.bindsN F_Settings_rule fun _ _ _ _ _ _ us hl => match us, hl with | [_, _, _], _ => rfl,
      me_Settings_value := He.meth_ok (d.fact 37 (f := .meth "Settings" "value") rfl),
      fn_Settings_value := F_Settings_value,
      bi_Settings_value := bnd_full (dvs := [.non]) (FunD.binds1 (ps := ["self", "name", "person"]) F_Settings_value 3 1 (by simp) (by rfl) fun _ _ _ _ _ _ _ us its l1 l2 => match us, l1, its, l2 with | [_, _, _], _, [_], _ => ⟨_, rfl, rfl⟩),
      bi_Settings_value_2 := FunD.binds1 (ps := ["self", "name", "person"]) F_Settings_value 2 0 (by simp) (by rfl) fun _ _ _ _ _ _ _ us its l1 l2 => match us, l1, its, l2 with | [_, _], _, [_], _ => ⟨_, rfl, rfl⟩,
      me_Settings_shown := He.meth_ok (d.fact 38 (f := .meth "Settings" "shown") rfl),
      fn_Settings_shown := F_Settings_shown,
      bi_Settings_shown := FunD.bindsN F_Settings_shown fun _ _ _ _ _ _ us hl => match us, hl with | [_], _ => rfl,
      mg_check_name := He.glo_ok X G (d.fact 39 (f := .glo "check_name") rfl),
      fn_check_name := F_check_name,
      bi_check_name := FunD.bindsN F_check_name fun _ _ _ _ _ _ us hl => match us, hl with | [_], _ => rfl,
      mg_check_key := He.glo_ok X G (d.fact 40 (f := .glo "check_key") rfl),
      fn_check_key := F_check_key,
      bi_check_key := FunD.bindsN F_check_key fun _ _ _ _ _ _ us hl => match us, hl with | [_], _ => rfl,
      mg_check_value := He.glo_ok X G (d.fact 41 (f := .glo "check_value") rfl),
      fn_check_value := F_check_value,
      bi_check_value := bnd_full (dvs := [(.int 0)]) (FunD.binds1 (ps := ["value", "depth"]) F_check_value 2 1 (by simp) (by rfl) fun _ _ _ _ _ _ _ us its l1 l2 => match us, l1, its, l2 with | [_, _], _, [_], _ => ⟨_, rfl, rfl⟩),
      bi_check_value_1 := FunD.binds1 (ps := ["value", "depth"]) F_check_value 1 0 (by simp) (by rfl) fun _ _ _ _ _ _ _ us its l1 l2 => match us, l1, its, l2 with | [_], _, [_], _ => ⟨_, rfl, rfl⟩,
      mg_is_span := He.glo_ok X G (d.fact 42 (f := .glo "is_span") rfl),
      fn_is_span := F_is_span,
      bi_is_span := FunD.bindsN F_is_span fun _ _ _ _ _ _ us hl => match us, hl with | [_], _ => rfl,
      mg_law_dice := He.glo_ok X G (d.fact 43 (f := .glo "_law_dice") rfl),
      fn_law_dice := F_law_dice,
      bi_law_dice := FunD.bindsN F_law_dice fun _ _ _ _ _ _ us hl => match us, hl with | [_], _ => rfl,
      mg_law_roll := He.glo_ok X G (d.fact 44 (f := .glo "_law_roll") rfl),
      fn_law_roll := F_law_roll,
      bi_law_roll := FunD.bindsN F_law_roll fun _ _ _ _ _ _ us hl => match us, hl with | [_, _], _ => rfl,
      mg_law_rounds := He.glo_ok X G (d.fact 45 (f := .glo "_law_rounds") rfl),
      fn_law_rounds := F_law_rounds,
      bi_law_rounds := FunD.bindsN F_law_rounds fun _ _ _ _ _ _ us hl => match us, hl with | [_, _], _ => rfl,
      mg_law_told := He.glo_ok X G (d.fact 46 (f := .glo "_law_told") rfl),
      fn_law_told := F_law_told,
      bi_law_told := FunD.bindsN F_law_told fun _ _ _ _ _ _ us hl => match us, hl with | [_], _ => rfl,
      mg_law_allowed := He.glo_ok X G (d.fact 47 (f := .glo "_law_allowed") rfl),
      fn_law_allowed := F_law_allowed,
      bi_law_allowed := FunD.bindsN F_law_allowed fun _ _ _ _ _ _ us hl => match us, hl with | [_, _], _ => rfl,
      mg_law_settings := He.glo_ok X G (d.fact 48 (f := .glo "_law_settings") rfl),
      fn_law_settings := F_law_settings,
      bi_law_settings := FunD.bindsN F_law_settings fun _ _ _ _ _ _ us hl => match us, hl with | [_], _ => rfl,
      mg_law := He.glo_ok X G (d.fact 49 (f := .glo "law") rfl),
      fn_law := F_law,
      bi_law := FunD.bindsN F_law fun _ _ _ _ _ _ us hl => match us, hl with | [_], _ => rfl,
      no_abs := He.free_ok X G (d.fact 50 (f := .free "abs") rfl),
      no_all := He.free_ok X G (d.fact 51 (f := .free "all") rfl),
      no_any := He.free_ok X G (d.fact 52 (f := .free "any") rfl),
      no_bool := He.free_ok X G (d.fact 53 (f := .free "bool") rfl),
      no_dict := He.free_ok X G (d.fact 54 (f := .free "dict") rfl),
      no_int := He.free_ok X G (d.fact 55 (f := .free "int") rfl),
      no_isinstance := He.free_ok X G (d.fact 56 (f := .free "isinstance") rfl),
      no_len := He.free_ok X G (d.fact 57 (f := .free "len") rfl),
      no_list := He.free_ok X G (d.fact 58 (f := .free "list") rfl),
      no_min := He.free_ok X G (d.fact 59 (f := .free "min") rfl),
      no_range := He.free_ok X G (d.fact 60 (f := .free "range") rfl),
      no_sorted := He.free_ok X G (d.fact 61 (f := .free "sorted") rfl),
      no_str := He.free_ok X G (d.fact 62 (f := .free "str") rfl),
      no_tuple := He.free_ok X G (d.fact 63 (f := .free "tuple") rfl),
      gl_KEY_LETTERS := He.str_ok X G (d.fact 64 (f := .str "KEY_LETTERS" "abcdefghijklmnopqrstuvwxyzABCDEFGHIJKLMNOPQRSTUVWXYZ0123456789._-/") rfl),
      gl_LETTERS := He.str_ok X G (d.fact 65 (f := .str "LETTERS" "\n !\"#$&'()*+,-./0123456789:;<=>?@ABCDEFGHIJKLMNOPQRSTUVWXYZ[\\]^_`abcdefghijklmnopqrstuvwxyz{|}~") rfl),
      gl_MOST_NUMBER := He.int_ok X G (d.fact 66 (f := .int "MOST_NUMBER" 1000000000000) rfl),
      gl_MOST_PEOPLE := He.int_ok X G (d.fact 67 (f := .int "MOST_PEOPLE" 4) rfl),
      gl_MOST_TEXT := He.int_ok X G (d.fact 68 (f := .int "MOST_TEXT" 200) rfl),
      gl_NAME_LETTERS := He.str_ok X G (d.fact 69 (f := .str "NAME_LETTERS" "abcdefghijklmnopqrstuvwxyz0123456789.") rfl),
      en_RightFault_NameFault := He.exm_ok (d.fact 70 (f := .exm "RightFault" "NameFault" false) rfl),
      mgc_NameFault := He.glo_ok X G (d.fact 71 (f := .glo "NameFault") rfl),
      xc_NameFault := (He.exc_ok (d.fact 72 (f := .exc "NameFault") rfl)).1,
      kc_NameFault := (He.exc_ok (d.fact 72 (f := .exc "NameFault") rfl)).2.1,
      bc_NameFault := (He.exc_ok (d.fact 72 (f := .exc "NameFault") rfl)).2.2.1,
      tc_NameFault := (He.exc_ok (d.fact 72 (f := .exc "NameFault") rfl)).2.2.2,
      ec_NameFault := He.exm_ok (d.fact 73 (f := .exm "NameFault" "NameFault" true) rfl),
      mgc_RightFault := He.glo_ok X G (d.fact 74 (f := .glo "RightFault") rfl),
      xc_RightFault := (He.exc_ok (d.fact 75 (f := .exc "RightFault") rfl)).1,
      kc_RightFault := (He.exc_ok (d.fact 75 (f := .exc "RightFault") rfl)).2.1,
      bc_RightFault := (He.exc_ok (d.fact 75 (f := .exc "RightFault") rfl)).2.2.1,
      tc_RightFault := (He.exc_ok (d.fact 75 (f := .exc "RightFault") rfl)).2.2.2,
      ec_RightFault := He.exm_ok (d.fact 76 (f := .exm "RightFault" "RightFault" true) rfl),
      cd_People_remove := cd_of F_People_remove,
      cd_People_set_code := cd_of F_People_set_code,
      cd_People_has_app := cd_of F_People_has_app,
      cd_Kind_check := cd_of F_Kind_check,
      cd_Settings_shown := cd_of F_Settings_shown,
      cd_check_name := cd_of F_check_name,
      cd_check_key := cd_of F_check_key,
      cd_check_value := cd_of F_check_value,
      cd_is_span := cd_of F_is_span,
      cd_law_settings := cd_of F_law_settings,
      cd_law := cd_of F_law }
  have nd : (tfD.map fun p => (He.cT K p).2).Nodup := of_decide_eq_true moreN
  have lay : ∀ H : Hp, (∀ p ∈ tfD.map (He.cT K), H p.2 = some (.tbl #[])) → Lay H (tfD.map fun z => ((He.cT K z).2, HO.tbl #[])) := fun H hT => ⟨by rw [List.map_map]; exact nd, fun p hp => by
    obtain ⟨z, hz, rfl⟩ := List.mem_map.mp hp
    exact ⟨hT _ (List.mem_map.mpr ⟨z, hz, rfl⟩), rfl⟩⟩
  refine ⟨fd_law, tfD.map (He.cT K), sp_law K A, fun p hp => ?_, fun p hp => ?_, fun p hp => ?_, (fun s u => FunD.bindsA (ps := ["script"]) F_law (fun _ _ _ _ _ _ us hl => match us, hl with | [_], _ => rfl) s [u] rfl), fun H s ns hl hz hT hS => ⟨rfl, s, ns, rfl, hS, lay H hT, fun _ => rfl⟩, fun base _ _ hTB => ok_all T (hTB (He.cT K ("check_name", none)) (List.mem_map.mpr ⟨("check_name", none), (by unfold tfD; exact List.mem_cons_of_mem _ (List.mem_cons_of_mem _ (List.mem_cons_of_mem _ (List.mem_cons_of_mem _ (List.mem_cons_of_mem _ (List.mem_cons_self)))))), rfl⟩)) (hTB (He.cT K ("People", some "has_app")) (List.mem_map.mpr ⟨("People", some "has_app"), (by unfold tfD; exact List.mem_cons_of_mem _ (List.mem_cons_of_mem _ (List.mem_cons_self))), rfl⟩)) (hTB (He.cT K ("People", some "remove")) (List.mem_map.mpr ⟨("People", some "remove"), (by unfold tfD; exact List.mem_cons_self), rfl⟩)) (hTB (He.cT K ("People", some "set_code")) (List.mem_map.mpr ⟨("People", some "set_code"), (by unfold tfD; exact List.mem_cons_of_mem _ (List.mem_cons_self)), rfl⟩)) (hTB (He.cT K ("check_value", none)) (List.mem_map.mpr ⟨("check_value", none), (by unfold tfD; exact List.mem_cons_of_mem _ (List.mem_cons_of_mem _ (List.mem_cons_of_mem _ (List.mem_cons_of_mem _ (List.mem_cons_of_mem _ (List.mem_cons_of_mem _ (List.mem_cons_of_mem _ (List.mem_cons_self)))))))), rfl⟩)) (hTB (He.cT K ("is_span", none)) (List.mem_map.mpr ⟨("is_span", none), (by unfold tfD; exact List.mem_cons_of_mem _ (List.mem_cons_of_mem _ (List.mem_cons_of_mem _ (List.mem_cons_of_mem _ (List.mem_cons_of_mem _ (List.mem_cons_of_mem _ (List.mem_cons_of_mem _ (List.mem_cons_of_mem _ (List.mem_cons_self))))))))), rfl⟩)) (hTB (He.cT K ("Kind", some "check")) (List.mem_map.mpr ⟨("Kind", some "check"), (by unfold tfD; exact List.mem_cons_of_mem _ (List.mem_cons_of_mem _ (List.mem_cons_of_mem _ (List.mem_cons_self)))), rfl⟩)) (hTB (He.cT K ("check_key", none)) (List.mem_map.mpr ⟨("check_key", none), (by unfold tfD; exact List.mem_cons_of_mem _ (List.mem_cons_of_mem _ (List.mem_cons_of_mem _ (List.mem_cons_of_mem _ (List.mem_cons_of_mem _ (List.mem_cons_of_mem _ (List.mem_cons_self))))))), rfl⟩)) (hTB (He.cT K ("Settings", some "shown")) (List.mem_map.mpr ⟨("Settings", some "shown"), (by unfold tfD; exact List.mem_cons_of_mem _ (List.mem_cons_of_mem _ (List.mem_cons_of_mem _ (List.mem_cons_of_mem _ (List.mem_cons_self))))), rfl⟩)) (hTB (He.cT K ("_law_settings", none)) (List.mem_map.mpr ⟨("_law_settings", none), (by unfold tfD; exact List.mem_cons_of_mem _ (List.mem_cons_of_mem _ (List.mem_cons_of_mem _ (List.mem_cons_of_mem _ (List.mem_cons_of_mem _ (List.mem_cons_of_mem _ (List.mem_cons_of_mem _ (List.mem_cons_of_mem _ (List.mem_cons_of_mem _ (List.mem_cons_self)))))))))), rfl⟩)) (hTB (He.cT K ("law", none)) (List.mem_map.mpr ⟨("law", none), (by unfold tfD; exact List.mem_cons_of_mem _ (List.mem_cons_of_mem _ (List.mem_cons_of_mem _ (List.mem_cons_of_mem _ (List.mem_cons_of_mem _ (List.mem_cons_of_mem _ (List.mem_cons_of_mem _ (List.mem_cons_of_mem _ (List.mem_cons_of_mem _ (List.mem_cons_of_mem _ (List.mem_cons_self))))))))))), rfl⟩))⟩
  · obtain ⟨z, hz, rfl⟩ := List.mem_map.mp hp
    exact c.empty z hz
  · obtain ⟨z, hz, rfl⟩ := List.mem_map.mp hp
    exact c.out z hz
  · obtain ⟨z, hz, rfl⟩ := List.mem_map.mp hp
    exact PySem.W.codeHd_of_K X (c.hd z hz)
end Wk
namespace Wk
open PySem PySem.Spec PyProof.Rows L2
abbrev R : PySem.W.OpenRow := PySem.W.OpenLaw.row PySem.Challenge.rw_phonestack_k11_settings_and_people
abbrev hk : PySem.W.Hook := He.hookX 6 faD fnD [] tfD exD
def obD (s : PySem.W.SharedT) : He.AlX := He.obsX 6 faD fnD [] tfD exD (HandSHeadRun.getT s)
theorem ob_eq (s : PySem.W.SharedT) : obD s = hk.obs s.abs := He.obsX_eq (HandSHeadRun.getT_eq s)
def loose_0 : List PySem.Str := ["PhoneError", "NameFault", "RightFault", "NAME_LETTERS", "KEY_LETTERS", "check_name", "check_key", "MOST_PEOPLE", "People", "LETTERS", "MOST_TEXT", "MOST_NUMBER", "MOST_DEEP", "check_value", "Kind", "is_span", "Settings", "_law_dice", "_law_roll", "_law_rounds", "_law_told", "_law_allowed", "_law_settings"]
def loose : List PySem.Str := loose_0
theorem run (w : World) : HandSHeadRun.RunEq R (PySem.W.view R.prog [29]) hk obD 20000 loose w := by
  intro os
  kernel_rfl
end Wk
open PySem PySem.W PySem.Calls PyProof.Rows
theorem PySem.Challenge.cw_phonestack_k11_settings_and_people_holds : PySem.Challenge.rw_phonestack_k11_settings_and_people.Holds := by
  w_on; o_law
  refine HandSHeadRun.head_any (r := OpenLaw.row PySem.Challenge.rw_phonestack_k11_settings_and_people) (q := view (OpenLaw.row PySem.Challenge.rw_phonestack_k11_settings_and_people).prog [29]) (H := Wk.hk) (ob := Wk.obD) (M := 20000) (loose := Wk.loose) (d := HandSHeadRun.topDef (OpenLaw.row PySem.Challenge.rw_phonestack_k11_settings_and_people).prog 29) (kwd := []) Wk.ob_eq
    (by kernel_rfl) (fun s => by kernel_rfl) Wk.run (by kernel_rfl) (by kernel_rfl) (by kernel_rfl) (by rfl) (by first | assumption | decide +kernel) (by decide +kernel) ⟨rfl, rfl, rfl, rfl, rfl, by decide +kernel⟩ ?hw ?hc
  case hw => w_witness2
  case hc =>
    refine LamX.walk_ofTsE (l := PySem.Challenge.rw_phonestack_k11_settings_and_people) (n := 63) (k := 19) (x := "script") (CX := fun w => L2.CX (PySem.Challenge.rw_phonestack_k11_settings_and_people).prog w) rfl (by decide) (by kernel_rfl) ⟨rfl, by decide, by decide⟩ ?F (fun _ _ _ _ _ z => by
      obtain ⟨_, _, _, _, _, _, _, _, _, _, _, _, z⟩ := z
      exact z)
    intro w mg fa h Y G hmg0
    obtain ⟨K, KX, c⟩ := Y
    have hmg : mg ("law" : PySem.Str) = some (.ref fa) := by
      have e : (HandSHeadRun.topDef (OpenLaw.row PySem.Challenge.rw_phonestack_k11_settings_and_people).prog 29).name = ("law" : PySem.Str) := by kernel_rfl
      rw [← e]
      exact hmg0
    exact ⟨K, KX, Wk.fin KX G hmg c⟩
