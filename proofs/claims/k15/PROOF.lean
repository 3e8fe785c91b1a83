import PyProof.Rows.All
import Wide.All
import OpenK.AllK
import Wide.FinOn
import HandS.ForMost
import HandS.Style
import HandS.Lambda
import HandS.EndTab
import HandS.WordsExc
import HandS.CallSlots
import HandS.Flow
import HandS.Defaults
import HandS.AnyAll
import HandS.IsInst
import HandS.GenList
import PyProof.GenArm
import PyProof.TupleOfGen
import HandS.NoneIn
import HandS.Walk
import HandS.TupLe
import PyProof.MinMaxWalk
import HandS.More
import HandS.SortInts
import HandS.SortRule
import HandS.Strs
import HandS.DictComp
import HandS.ListItems
import PyProof.NeKinds
import PySem.Challenge.RW_phonestack_k15_who_is_heard
import KE.KStateDown
import Lean
import HandS.Head0
import HandS.Head1
import HandS.Head2
import HandS.HeadEnd
import HandS.HeadHook1
import HandS.HeadHook2
import HandS.HeadHook3
import HandS.HeadHook4
import HandS.HeadWalk
set_option Elab.async false
set_option autoImplicit false
set_option linter.all false
set_option maxRecDepth 100000
set_option maxHeartbeats 4000000
namespace Ph
open PySem PySem.Spec PyProof.Rows L2
/-! ### texts -/
theorem char_toNat_inj {a b : Char} (h : a.toNat = b.toNat) : a = b := by
  apply Char.ext
  apply UInt32.toNat_inj.mp
  exact h
theorem map_toNat_inj : forall {a b : List Char}, a.map Char.toNat = b.map Char.toNat -> a = b
  | [], [], _ => rfl
  | [], _ :: _, h => by simp at h
  | _ :: _, [], h => by simp at h
  | x :: r, y :: t, h => by
    simp only [List.map_cons, List.cons.injEq] at h
    rw [char_toNat_inj h.1, map_toNat_inj h.2]
theorem ofString_inj {a b : String} : (PySem.Str.ofString a = PySem.Str.ofString b) = (a = b) := by
  apply propext
  constructor
  · intro h
    rw [PySem.Str.ofString_eq_toList, PySem.Str.ofString_eq_toList] at h
    injection h with h
    have h2 : a.toList.map Char.toNat = b.toList.map Char.toNat := by
      have := congrArg Array.toList h
      simpa using this
    exact String.toList_inj.mp (map_toNat_inj h2)
  · intro h
    rw [h]
theorem ofString_beq {a b : String} : (PySem.Str.ofString a == PySem.Str.ofString b) = (a == b) := by
  rw [Bool.eq_iff_iff]
  simp [ofString_inj]
/-! ### mutable objects -/
def mutO : HO -> Bool
  | .lst _ => true
  | .dK _ => true
  | .dT _ => true
  | .set _ _ => true
  | .ins _ _ _ => true
  | .tbl _ => true
  | _ => false
/-- all that is not a list, a dict, a set, an instance stays -/
def Stb (H H' : Hp) : Prop := forall a o, H a = some o -> mutO o = false -> H' a = some o
theorem Stb.refl (H : Hp) : Stb H H := fun _ _ h _ => h
theorem Stb.trans {H H1 H2 : Hp} (a : Stb H H1) (b : Stb H1 H2) : Stb H H2 := fun x o h m => b x o (a x o h m) m
theorem Stb.new {H : Hp} {p : Addr} {o : HO} (n : H p = none) : Stb H (upd H p o) := fun a u e _ => by
  rw [upd_ne (ne_of_none e n)]
  exact e
theorem Stb.put {H : Hp} {p : Addr} {o u : HO} (e : H p = some u) (m : mutO u = true) : Stb H (upd H p o) := fun a w ea ma => by
  rw [upd_ne ?_]
  · exact ea
  · intro q
    rw [q, e] at ea
    cases ea
    rw [m] at ma
    cases ma
theorem Stb.sqt {K : PySem.W.Frag} {H H' : Hp} {a : Addr} {xs : List V} (s : Stb H H') (h : SqT K H a xs) : SqT K H' a xs := by
  rcases h with (h | ⟨o, h⟩) | h
  · exact .inl (.inl (s _ _ h rfl))
  · exact .inl (.inr ⟨o, s _ _ h rfl⟩)
  · exact .inr h
structure Lay (H : Hp) (L : List (Addr × HO)) : Prop where
  nd : (L.map (fun p => p.1)).Nodup
  at_ : forall p, p ∈ L -> H p.1 = some p.2 ∧ mutO p.2 = true
theorem Lay.nil {H : Hp} : Lay H [] := ⟨List.nodup_nil, fun p h => by cases h⟩
theorem Lay.get {H : Hp} {L : List (Addr × HO)} {a : Addr} {o : HO} (h : Lay H L) (m : (a, o) ∈ L) : H a = some o := (h.at_ _ m).1
theorem Lay.mu {H : Hp} {L : List (Addr × HO)} {a : Addr} {o : HO} (h : Lay H L) (m : (a, o) ∈ L) : mutO o = true := (h.at_ _ m).2
theorem Lay.keep {H : Hp} {L : List (Addr × HO)} {p : Addr} {o : HO} (h : Lay H L) (n : H p = none) : Lay (upd H p o) L :=
  ⟨h.nd, fun q hq => ⟨by rw [upd_ne (ne_of_none (h.at_ q hq).1 n)]; exact (h.at_ q hq).1, (h.at_ q hq).2⟩⟩
theorem Lay.new {H : Hp} {L : List (Addr × HO)} {p : Addr} {o : HO} (h : Lay H L) (n : H p = none) (m : mutO o = true) : Lay (upd H p o) ((p, o) :: L) := by
  refine ⟨?_, fun q hq => ?_⟩
  · rw [List.map_cons, List.nodup_cons]
    refine ⟨fun z => ?_, h.nd⟩
    obtain ⟨q, hq, e⟩ := List.mem_map.mp z
    have z2 := (h.at_ q hq).1
    rw [e, n] at z2
    cases z2
  · rcases List.mem_cons.mp hq with e | hq
    · subst e
      exact ⟨upd_same, m⟩
    · exact (h.keep n).at_ q hq
/-- x stands in L at a place; the rest is L' -/
inductive Pick (x : Addr × HO) : List (Addr × HO) -> List (Addr × HO) -> Prop
  | here {L : List (Addr × HO)} : Pick x (x :: L) L
  | there {y : Addr × HO} {L L' : List (Addr × HO)} : Pick x L L' -> Pick x (y :: L) (y :: L')
theorem Pick.perm {x : Addr × HO} : forall {L L'}, Pick x L L' -> L.Perm (x :: L')
  | _, _, .here => List.Perm.refl _
  | _, _, .there h => (List.Perm.cons _ h.perm).trans (List.Perm.swap _ _ _)
theorem Lay.perm {H : Hp} {L L' : List (Addr × HO)} (h : Lay H L) (p : L.Perm L') : Lay H L' :=
  ⟨(p.map _).nodup_iff.mp h.nd, fun q hq => h.at_ q (p.mem_iff.mpr hq)⟩
theorem Lay.pick {H : Hp} {x : Addr × HO} {L L' : List (Addr × HO)} (p : Pick x L L') (h : Lay H L) : Lay H (x :: L') := h.perm p.perm
theorem Lay.tail {H : Hp} {x : Addr × HO} {L : List (Addr × HO)} (h : Lay H (x :: L)) : Lay H L :=
  ⟨(List.nodup_cons.mp h.nd).2, fun q hq => h.at_ q (List.mem_cons_of_mem _ hq)⟩
/-- the object at a becomes o' -/
inductive Up (a : Addr) (o' : HO) : List (Addr × HO) -> List (Addr × HO) -> Prop
  | here {o : HO} {L : List (Addr × HO)} : Up a o' ((a, o) :: L) ((a, o') :: L)
  | there {y : Addr × HO} {L L' : List (Addr × HO)} : Up a o' L L' -> Up a o' (y :: L) (y :: L')
theorem Up.keys {a : Addr} {o' : HO} : forall {L L'}, Up a o' L L' -> L'.map (fun p => p.1) = L.map (fun p => p.1)
  | _, _, .here => rfl
  | _, _, .there h => by rw [List.map_cons, List.map_cons, h.keys]
theorem Up.old {a : Addr} {o' : HO} : forall {L L'}, Up a o' L L' -> exists o, (a, o) ∈ L
  | _, _, .here => ⟨_, List.mem_cons_self⟩
  | _, _, .there h => let ⟨o, z⟩ := h.old; ⟨o, List.mem_cons_of_mem _ z⟩
theorem Up.mem {a : Addr} {o' : HO} : forall {L L'}, Up a o' L L' -> (L.map (fun p => p.1)).Nodup -> forall q, q ∈ L' -> q = (a, o') ∨ (q ∈ L ∧ q.1 ≠ a)
  | _, _, .here, nd, q, hq => by
    rcases List.mem_cons.mp hq with e | hq
    · exact .inl e
    · refine .inr ⟨List.mem_cons_of_mem _ hq, fun z => ?_⟩
      exact (List.nodup_cons.mp nd).1 (List.mem_map.mpr ⟨q, hq, z⟩)
  | _, _, .there h, nd, q, hq => by
    rcases List.mem_cons.mp hq with e | hq
    · subst e
      refine .inr ⟨List.mem_cons_self, fun z => ?_⟩
      obtain ⟨o, ho⟩ := h.old
      exact (List.nodup_cons.mp nd).1 (List.mem_map.mpr ⟨(a, o), ho, z.symm⟩)
    · rcases h.mem (List.nodup_cons.mp nd).2 q hq with e | ⟨e, n⟩
      · exact .inl e
      · exact .inr ⟨List.mem_cons_of_mem _ e, n⟩
theorem Lay.put {H : Hp} {L L' : List (Addr × HO)} {a : Addr} {o' : HO} (h : Lay H L) (u : Up a o' L L') (m : mutO o' = true) : Lay (upd H a o') L' := by
  refine ⟨by rw [u.keys]; exact h.nd, fun q hq => ?_⟩
  rcases u.mem h.nd q hq with e | ⟨e, n⟩
  · subst e
    exact ⟨upd_same, m⟩
  · exact ⟨by rw [upd_ne n]; exact (h.at_ q e).1, (h.at_ q e).2⟩
theorem Lay.ne {H : Hp} {L : List (Addr × HO)} {a b : Addr} {o u : HO} (h : Lay H ((a, o) :: L)) (m : (b, u) ∈ L) : b ≠ a := fun z =>
  (List.nodup_cons.mp h.nd).1 (List.mem_map.mpr ⟨(b, u), m, z⟩)
/-! ### data made of scalars and tuples -/
mutual
inductive TD (K : PySem.W.Frag) (H : Hp) : V -> PyData -> Prop
  | non : TD K H .non .none
  | bl (b : Bool) : TD K H (.bl b) (.bool b)
  | int (i : Int) : TD K H (.int i) (.int i)
  | str (x : Str) : TD K H (.str x) (.str x)
  | tup {a : Addr} {xs : List V} {ds : List PyData} : SqT K H a xs -> TDs K H xs ds -> TD K H (.ref a) (.tuple ds)
inductive TDs (K : PySem.W.Frag) (H : Hp) : List V -> List PyData -> Prop
  | nil : TDs K H [] []
  | cons {v : V} {vs : List V} {d : PyData} {ds : List PyData} : TD K H v d -> TDs K H vs ds -> TDs K H (v :: vs) (d :: ds)
end
mutual
theorem TD.mono {K : PySem.W.Frag} {H H' : Hp} (s : Stb H H') : forall {v : V} {d : PyData}, TD K H v d -> TD K H' v d
  | _, _, .non => .non
  | _, _, .bl b => .bl b
  | _, _, .int i => .int i
  | _, _, .str x => .str x
  | _, _, .tup h t => .tup (s.sqt h) (TDs.mono s t)
theorem TDs.mono {K : PySem.W.Frag} {H H' : Hp} (s : Stb H H') : forall {vs : List V} {ds : List PyData}, TDs K H vs ds -> TDs K H' vs ds
  | _, _, .nil => .nil
  | _, _, .cons h t => .cons (TD.mono s h) (TDs.mono s t)
end
mutual
theorem TD.dp {K : PySem.W.Frag} {H : Hp} : forall {v : V} {d : PyData}, TD K H v d -> Dp K H v d
  | _, _, .non => .non
  | _, _, .bl b => .bl b
  | _, _, .int i => .int i
  | _, _, .str x => .str x
  | _, _, .tup h t => .tup h (TDs.dp t)
theorem TDs.dp {K : PySem.W.Frag} {H : Hp} : forall {vs : List V} {ds : List PyData}, TDs K H vs ds -> DpAll K H vs ds
  | _, _, .nil => .nil
  | _, _, .cons h t => .cons (TD.dp h) (TDs.dp t)
end
theorem TDs.snoc {K : PySem.W.Frag} {H : Hp} {v : V} {d : PyData} : forall {vs : List V} {ds : List PyData}, TDs K H vs ds -> TD K H v d -> TDs K H (vs ++ [v]) (ds ++ [d])
  | _, _, .nil, h => .cons h .nil
  | _, _, .cons h t, q => .cons h (TDs.snoc t q)
theorem TDs.append {K : PySem.W.Frag} {H : Hp} {us : List V} {es : List PyData} : forall {vs : List V} {ds : List PyData}, TDs K H vs ds -> TDs K H us es -> TDs K H (vs ++ us) (ds ++ es)
  | _, _, .nil, h => h
  | _, _, .cons h t, q => .cons h (TDs.append t q)
theorem TDs.length {K : PySem.W.Frag} {H : Hp} : forall {vs : List V} {ds : List PyData}, TDs K H vs ds -> vs.length = ds.length
  | _, _, .nil => rfl
  | _, _, .cons _ t => by rw [List.length_cons, List.length_cons, TDs.length t]
/-! ### what is known of things that don't change -/
/-- each code object that the table's triples tell bears the name q -/
def TabOK (q : Str) (ps : Array Value) (H : Hp) : Prop := TriplesOk ps.toList ∧ forall (pos : Pos) (cv : Value), codeAmong pos ps.toList = some cv -> exists c, cv = .ref c ∧ H c = some (LamX.CodeO c q)
theorem TabOK.mono {q : Str} {ps : Array Value} {H H' : Hp} (s : Stb H H') (h : TabOK q ps H) : TabOK q ps H' := ⟨h.1, fun pos cv e => by
  obtain ⟨c, e1, e2⟩ := h.2 pos cv e
  exact ⟨c, e1, s _ _ e2 rfl⟩⟩
inductive Im where
  | tab (q : Str) (ps : Array Value)
  | tri (ps : Array Value)
  | tup (a : Addr) (xs : List V)
  | dat (v : V) (d : PyData)
  | dats (vs : List V) (ds : List PyData)
  | pr (P : Hp → Prop) (m : ∀ H H', Stb H H' → P H → P H')
def Im.ok (K : PySem.W.Frag) (H : Hp) : Im -> Prop
  | .tab q ps => TabOK q ps H
  | .tri ps => TriplesOk ps.toList
  | .tup a xs => SqT K H a xs
  | .dat v d => TD K H v d
  | .dats vs ds => TDs K H vs ds
  | .pr P _ => P H
theorem Im.mono {K : PySem.W.Frag} {H H' : Hp} (s : Stb H H') : forall {i : Im}, i.ok K H -> i.ok K H'
  | .tab _ _, h => TabOK.mono s h
  | .tri _, h => h
  | .tup _ _, h => s.sqt h
  | .dat _ _, h => TD.mono s h
  | .dats _ _, h => TDs.mono s h
  | .pr _ m, h => m _ _ s h
/-- B: where the def was entered -/
structure Ctx (K : PySem.W.Frag) (B H : Hp) (L : List (Addr × HO)) (I : List Im) : Prop where
  lay : Lay H L
  im : forall i, i ∈ I -> i.ok K H
  sb : Stb B H
section
variable {K : PySem.W.Frag} {B H H' : Hp} {L L' : List (Addr × HO)} {I : List Im} {a : Addr} {o : HO} {xs : List V}
theorem Ctx.tup (h : Ctx K B H L I) (m : Im.tup a xs ∈ I) : SqT K H a xs := h.im _ m
theorem Ctx.dat {v : V} {d : PyData} (h : Ctx K B H L I) (m : Im.dat v d ∈ I) : TD K H v d := h.im _ m
theorem Ctx.dats {vs : List V} {ds : List PyData} (h : Ctx K B H L I) (m : Im.dats vs ds ∈ I) : TDs K H vs ds := h.im _ m
theorem Ctx.pr {P : Hp → Prop} {w : ∀ H H', Stb H H' → P H → P H'} (h : Ctx K B H L I) (m : Im.pr P w ∈ I) : P H := h.im _ m
theorem Ctx.tab {q : Str} {ps : Array Value} (h : Ctx K B H L I) (m : Im.tab q ps ∈ I) : TabOK q ps H := h.im _ m
theorem Ctx.tri {ps : Array Value} (h : Ctx K B H L I) (m : Im.tri ps ∈ I) : TriplesOk ps.toList := h.im _ m
theorem Ctx.get (h : Ctx K B H L I) (m : (a, o) ∈ L) : H a = some o := h.lay.get m
theorem Ctx.add {i : Im} (h : Ctx K B H L I) (m : i.ok K H) : Ctx K B H L (i :: I) :=
  ⟨h.lay, fun j hj => (List.mem_cons.mp hj).elim (fun e => by rw [e]; exact m) (h.im j), h.sb⟩
theorem Ctx.moved (h : Ctx K B H L I) (s : Stb H H') (l : Lay H' L') : Ctx K B H' L' I := ⟨l, fun i hi => Im.mono s (h.im i hi), h.sb.trans s⟩
theorem Ctx.newM (h : Ctx K B H L I) (n : H a = none) (m : mutO o = true) : Ctx K B (upd H a o) ((a, o) :: L) I := h.moved (Stb.new n) (h.lay.new n m)
theorem Ctx.newT (h : Ctx K B H L I) (n : H a = none) : Ctx K B (upd H a (.tup xs)) L (.tup a xs :: I) := by
  have h1 := h.moved (Stb.new (o := .tup xs) n) (h.lay.keep n)
  exact h1.add (SqT.of upd_same)
theorem Ctx.put {o' : HO} (h : Ctx K B H L I) (u : Up a o' L L') (m : mutO o' = true) : Ctx K B (upd H a o') L' I := by
  obtain ⟨o, ho⟩ := u.old
  exact h.moved (Stb.put (h.lay.get ho) (h.lay.mu ho)) (h.lay.put u m)
theorem Ctx.start (l : Lay H L) : Ctx K H H L [] := ⟨l, fun i hi => (by cases hi), Stb.refl H⟩
theorem Ctx.but {H1 : Hp} {P : Addr} {o o' : HO} (h : Ctx K B H L I) (m : (P, o) ∈ L) (u : Up P o' L L') (mo : mutO o' = true) (e : forall b u, b ≠ P -> H b = some u -> H1 b = some u) (e' : H1 P = some o') : Ctx K B H1 L' I := by
  have y := h.lay
  have sb : Stb H H1 := fun b w hb mw => e b w (fun z => by
    have q := (y.at_ _ m)
    rw [z, q.1] at hb
    cases hb
    rw [q.2] at mw
    cases mw) hb
  refine h.moved sb ⟨by rw [u.keys]; exact y.nd, fun p hp => ?_⟩
  rcases u.mem y.nd p hp with q | ⟨q, n⟩
  · rw [q]
    exact ⟨e', mo⟩
  · exact ⟨e _ _ n (y.at_ p q).1, (y.at_ p q).2⟩
theorem Ctx.rebase (h : Ctx K B H L I) : Ctx K H H L I := ⟨h.lay, h.im, Stb.refl _⟩
theorem Ctx.pick {x : Addr × HO} (p : Pick x L L') (h : Ctx K B H L I) : Ctx K B H (x :: L') I := ⟨h.lay.pick p, h.im, h.sb⟩
theorem Ctx.drop {x : Addr × HO} (h : Ctx K B H (x :: L) I) : Ctx K B H L I := ⟨h.lay.tail, h.im, h.sb⟩
theorem Ctx.perm (h : Ctx K B H L I) (p : L.Perm L') : Ctx K B H L' I := ⟨h.lay.perm p, h.im, h.sb⟩
end
end Ph
namespace Ph
open PySem PySem.Spec PyProof.Rows L2
def rAddU (K : PySem.W.Frag) : R2 := fun x y H Q => match x, y with
  | .int i, .int j => Q (.int (i + j)) H
  | .int i, .bl k => Q (.int (i + b2i k)) H
  | .str i, .str j => i.length + j.length ≤ sizeLine ∧ Q (.str (i ++ j)) H
  | .ref l, .ref b => (∃ xs zs, H l = some (.lst xs) ∧ H b = some (.lst zs) ∧ xs.length + zs.length ≤ sizeLine ∧ ∀ p, H p = none → Q (.ref p) (upd H p (.lst (xs ++ zs)))) ∨ rCatT K (.ref l) (.ref b) H Q
  | _, _ => False
def rSubU : R2 := fun x y H Q => match x, y with
  | .int i, .int j => Q (.int (i - j)) H
  | _, _ => False
theorem fits_of {n : Nat} (h : n ≤ sizeLine) : Builtin.Str.tooLong n = false := by
  cases e : Builtin.Str.tooLong n with
  | false => rfl
  | true =>
    have : ¬ n ≤ sizeLine := by simpa [Builtin.Str.tooLong, sizeLine] using e
    exact absurd h this
/-- x written n times -/
def repS (x : Str) (n : Nat) : Str := ⟨(List.replicate n x.cps).foldl (· ++ ·) #[]⟩
def rMulU : R2 := fun x y H Q => match x, y with
  | .int i, .int j => CMul i j ∧ Q (.int (i * j)) H
  | .ref l, .int k => rRep (.ref l) (.int k) H Q
  | .str x, .int k => 2 ≤ k ∧ k ≤ 1000 ∧ 1 ≤ x.length ∧ x.length ≤ 1000 ∧ Q (.str (repS x k.toNat)) H
  | _, _ => False
def rDivU : R2 := fun x y H Q => match x, y with
  | .int i, .int j => CDiv i j ∧ Q (.int (i / j)) H
  | _, _ => False
def rModU : R2 := fun x y H Q => match x, y with
  | .int i, .int j => 0 < j ∧ Q (.int (i % j)) H
  | _, _ => False
def rPowU : R2 := fun x y H Q => match x, y with
  | .int i, .int j => CPow i j ∧ Q (.int (i ^ j.toNat)) H
  | _, _ => False
def rLtU (f : Int → Int → Bool) (g : Str → Str → Bool) : R2 := fun x y H Q => match x, y with
  | .int i, .int j => Q (.bl (f i j)) H
  | .str i, .str j => Q (.bl (g i j)) H
  | _, _ => False
abbrev rLt : R2 := rLtU (fun i j => decide (i < j)) (fun i j => decide (i.cps.toList < j.cps.toList))
def rCmpI (f : Int → Int → Bool) : R2 := fun x y H Q => match x, y with
  | .int i, .int j => Q (.bl (f i j)) H
  | _, _ => False
abbrev rLe : R2 := rCmpI fun i j => decide (i ≤ j)
abbrev rGt : R2 := rCmpI fun i j => decide (j < i)
abbrev rGe : R2 := rCmpI fun i j => decide (j ≤ i)
def rIsN : R2 := fun x y H Q => y = .non ∧ Q (.bl (decide (x = .non))) H
def rNotN : R2 := fun x y H Q => y = .non ∧ Q (.bl (!decide (x = .non))) H
def rEqU (K : PySem.W.Frag) : R2 := fun x y H Q => rEq x y H Q ∨ rEqD K x y H Q
def rNeU (K : PySem.W.Frag) : R2 := fun x y H Q => rNe x y H Q ∨ rNeD K x y H Q
def rIxD : R2 := fun x y H Q => ∃ a v, x = .ref a ∧ DGet H a y (some v) ∧ Q v H
def rIxU (K : PySem.W.Frag) : R2 := fun x y H Q => rIxL K x y H Q ∨ rIxT K x y H Q ∨ rIxS x y H Q ∨ rIxD x y H Q
def rInD : R2 := fun y x H Q => ∃ a o, x = .ref a ∧ DGet H a y o ∧ Q (.bl o.isSome) H
def rNotInD : R2 := fun y x H Q => ∃ a o, x = .ref a ∧ DGet H a y o ∧ Q (.bl (!o.isSome)) H
def rInS : R2 := fun x y H Q => ∃ i j, x = .str i ∧ y = .str j ∧ Q (.bl (!(Builtin.Str.occurrences j i 0 j.length 1).isEmpty)) H
def rNotInS : R2 := fun x y H Q => ∃ i j, x = .str i ∧ y = .str j ∧ Q (.bl (!(!(Builtin.Str.occurrences j i 0 j.length 1).isEmpty))) H
def rInU (K : PySem.W.Frag) : R2 := fun x y H Q => rIn K false x y H Q ∨ rInD x y H Q ∨ rInS x y H Q
def rNotInU (K : PySem.W.Frag) : R2 := fun x y H Q => rIn K true x y H Q ∨ rNotInD x y H Q ∨ rNotInS x y H Q
def rSetD : V → V → V → Hp → (Hp → Prop) → Prop := fun o i v H Q => ∃ a H', o = .ref a ∧ DPut H a i v H' ∧ Q H'
def rSetU : V → V → V → Hp → (Hp → Prop) → Prop := fun o i v H Q => rSetL o i v H Q ∨ rSetD o i v H Q
def rIAddU : R2 := fun x y H Q => match x, y with
  | .int i, .int j => Q (.int (i + j)) H
  | .str i, .str j => i.length + j.length ≤ sizeLine ∧ Q (.str (i ++ j)) H
  | .ref l, .ref b => rExt2 (.ref l) (.ref b) H Q
  | _, _ => False
def tTruth (K : PySem.W.Frag) (ta : TE) : TT := fun σ H Q => ta σ H fun x H' => ∃ k, TruV K x H' k ∧ Q k H'
section
variable {X : Cx}
theorem u_add : OpR X (binaryOp .Add) (rAddU X.K) := by
  intro pins s σ H x y v u Q I rx ry h
  cases x with
  | int i =>
    cases y with
    | int j => exact op_add pins s σ H _ _ v u Q I rx ry ⟨i, j, rfl, rfl, h⟩
    | bl k => exact op_add_ib pins s σ H _ _ v u Q I rx ry ⟨i, k, rfl, rfl, h⟩
    | _ => exact (show False from h).elim
  | str i =>
    cases y with
    | str j => exact op_add_str pins s σ H _ _ v u Q I rx ry ⟨i, j, rfl, rfl, h.1, h.2⟩
    | _ => exact (show False from h).elim
  | ref l =>
    cases y with
    | ref b =>
      rcases h with ⟨xs, zs, h1, h2, h3, h4⟩ | h
      · exact op_cat pins s σ H _ _ v u Q I rx ry ⟨l, b, xs, zs, rfl, rfl, h1, h2, h3, h4⟩
      · exact op_catT pins s σ H _ _ v u Q I rx ry h
    | _ => exact (show False from h).elim
  | _ => exact (show False from (by cases y <;> exact h)).elim
theorem u_sub : OpR X (binaryOp .Sub) rSubU := by
  intro pins s σ H x y v u Q I rx ry h
  cases x with
  | int i =>
    cases y with
    | int j => exact op_sub pins s σ H _ _ v u Q I rx ry ⟨i, j, rfl, rfl, h⟩
    | _ => exact (show False from h).elim
  | _ => exact (show False from (by cases y <;> exact h)).elim
theorem foldl_cps : ∀ (n : Nat) (a c : Array Nat), ((List.replicate n a).foldl (· ++ ·) c).toList = c.toList ++ (List.replicate n a.toList).flatten
  | 0, a, c => by simp
  | n + 1, a, c => by
    rw [List.replicate_succ, List.foldl_cons, foldl_cps n a (c ++ a), List.replicate_succ, List.flatten_cons, Array.toList_append, List.append_assoc]
theorem repS_list (x : Str) (n : Nat) : (repS x n).cps.toList = (List.replicate n x.cps.toList).flatten := by
  have h := foldl_cps n x.cps #[]
  simpa [repS] using h
theorem repS_length (x : Str) (n : Nat) : (repS x n).length = n * x.length := by
  show (repS x n).cps.size = n * x.cps.size
  rw [← Array.length_toList, repS_list]
  simp [List.length_flatten]
theorem u_mul : OpR X (binaryOp .Mult) rMulU := by
  intro pins s σ H x y v u Q I rx ry h
  cases x with
  | int i =>
    cases y with
    | int j => exact op_mul pins s σ H _ _ v u Q I rx ry ⟨i, j, rfl, rfl, h.1, h.2⟩
    | _ => exact (show False from h).elim
  | ref l =>
    cases y with
    | int j => exact op_rep pins s σ H _ _ v u Q I rx ry h
    | _ => exact (show False from h).elim
  | str i =>
    cases y with
    | int k =>
      obtain ⟨h2, h3, h4, h5, q⟩ := h
      obtain ⟨t, rfl⟩ := rx
      obtain ⟨t2, rfl⟩ := ry
      have hz : i.length * k.toNat ≤ sizeLine := by
        rw [sizeLine_eq]
        have a1 : i.length * k.toNat ≤ 1000 * 1000 := Nat.mul_le_mul h5 (by omega)
        omega
      have l1 : (repS i k.toNat).length ≤ sizeLine := by
        rw [repS_length, Nat.mul_comm]
        exact hz
      refine PySem.P.mul_str ?_ (fun _ _ => ?_) (fun _ _ => fits_of hz) ?_
      · rw [decide_eq_false (by omega), decide_eq_false (by omega)]
        rfl
      · have hd : (1000 : Int) ≤ (2 ^ 63 - 1) / k := (Int.le_ediv_iff_mul_le (by omega)).mpr (by omega)
        omega
      · rw [if_neg (by omega), if_neg (by
          rw [beq_eq_false_iff_ne.mpr (by omega), beq_eq_false_iff_ne.mpr (by omega)]
          exact Bool.false_ne_true)]
        exact ⟨l1, ⟨.str _, H, I.tok _, ⟨_, rfl⟩, q⟩⟩
    | _ => exact (show False from h).elim
  | _ => exact (show False from (by cases y <;> exact h)).elim
theorem u_div : OpR X (binaryOp .FloorDiv) rDivU := by
  intro pins s σ H x y v u Q I rx ry h
  cases x with
  | int i =>
    cases y with
    | int j => exact op_fdiv pins s σ H _ _ v u Q I rx ry ⟨i, j, rfl, rfl, h.1, h.2⟩
    | _ => exact (show False from h).elim
  | _ => exact (show False from (by cases y <;> exact h)).elim
theorem u_mod : OpR X (binaryOp .Mod) rModU := by
  intro pins s σ H x y v u Q I rx ry h
  cases x with
  | int i =>
    cases y with
    | int j => exact op_mod pins s σ H _ _ v u Q I rx ry ⟨i, j, rfl, rfl, h.1, h.2⟩
    | _ => exact (show False from h).elim
  | _ => exact (show False from (by cases y <;> exact h)).elim
theorem u_pow : OpR X (binaryOp .Pow) rPowU := by
  intro pins s σ H x y v u Q I rx ry h
  cases x with
  | int i =>
    cases y with
    | int j => exact op_pow pins s σ H _ _ v u Q I rx ry ⟨i, j, rfl, rfl, h.1, h.2⟩
    | _ => exact (show False from h).elim
  | _ => exact (show False from (by cases y <;> exact h)).elim
theorem u_lt : OpR X (compareOp .Lt) rLt := by
  intro pins s σ H x y v u Q I rx ry h
  cases x with
  | int i =>
    cases y with
    | int j => exact op_lt pins s σ H _ _ v u Q I rx ry ⟨i, j, rfl, rfl, h⟩
    | _ => exact (show False from h).elim
  | str i =>
    cases y with
    | str j => exact op_lt_str pins s σ H _ _ v u Q I rx ry ⟨i, j, rfl, rfl, h⟩
    | _ => exact (show False from h).elim
  | _ => exact (show False from (by cases y <;> exact h)).elim
theorem u_le : OpR X (compareOp .LtE) rLe := by
  intro pins s σ H x y v u Q I rx ry h
  cases x with
  | int i =>
    cases y with
    | int j => exact op_le pins s σ H _ _ v u Q I rx ry ⟨i, j, rfl, rfl, h⟩
    | _ => exact (show False from h).elim
  | _ => exact (show False from (by cases y <;> exact h)).elim
theorem u_gt : OpR X (compareOp .Gt) rGt := by
  intro pins s σ H x y v u Q I rx ry h
  cases x with
  | int i =>
    cases y with
    | int j => exact op_gt pins s σ H _ _ v u Q I rx ry ⟨i, j, rfl, rfl, h⟩
    | _ => exact (show False from h).elim
  | _ => exact (show False from (by cases y <;> exact h)).elim
theorem u_ge : OpR X (compareOp .GtE) rGe := by
  intro pins s σ H x y v u Q I rx ry h
  cases x with
  | int i =>
    cases y with
    | int j => exact op_ge pins s σ H _ _ v u Q I rx ry ⟨i, j, rfl, rfl, h⟩
    | _ => exact (show False from h).elim
  | _ => exact (show False from (by cases y <;> exact h)).elim
theorem u_isN : OpR X (compareOp .Is) rIsN := op_isN
theorem u_notN : OpR X (compareOp .IsNot) rNotN := op_notN
theorem u_eq (hu : X.A.units + 64 < cLine) : OpR X (compareOp .Eq) (rEqU X.K) := op_eq.or (op_eqD hu)
theorem u_ne (hu : X.A.units + 64 < cLine) : OpR X (compareOp .NotEq) (rNeU X.K) := op_ne.or (op_neD hu)
theorem ix_dict (hu : X.A.units + 64 < cLine) : IxR X rIxD := by
  intro value slice pins s σ H x y v u Q I rx ry h hs
  obtain ⟨a, z, rfl, g, q⟩ := h
  cases rx
  have hu1 : X.A.units + 1 < cLine := by omega
  exact tail_any (dict_typeIs I g) PySem.F.slot_dict_getitem.lookup (d_getItem hu1 I g ry fun w' s3 I3 rw' => ⟨z, H, I3, rw', q⟩) hs
theorem u_ix (hu : X.A.units + 64 < cLine) : IxR X (rIxU X.K) := ix_list.or (ix_tup.or (ix_str.or (ix_dict hu)))
theorem op_inD (hu : X.A.units + 64 < cLine) : OpR X (compareOp .In) rInD := by
  intro pins s σ H x y v u Q I rx ry h
  obtain ⟨a, o, rfl, g, q⟩ := h
  cases ry
  have hu1 : X.A.units + 1 < cLine := by omega
  exact d_in hu1 I g rx fun s3 I3 => ⟨.bl o.isSome, H, I3, rfl, q⟩
theorem op_notinD (hu : X.A.units + 64 < cLine) : OpR X (compareOp .NotIn) rNotInD := by
  intro pins s σ H x y v u Q I rx ry h
  obtain ⟨a, o, rfl, g, q⟩ := h
  cases ry
  have hu1 : X.A.units + 1 < cLine := by omega
  exact d_notIn hu1 I g rx fun s3 I3 => ⟨.bl (!o.isSome), H, I3, rfl, q⟩
theorem u_in (hu : X.A.units + 64 < cLine) : OpR X (compareOp .In) (rInU X.K) := op_in_seq.or ((op_inD hu).or op_in_str)
theorem u_notin (hu : X.A.units + 64 < cLine) : OpR X (compareOp .NotIn) (rNotInU X.K) := op_notIn_seq.or ((op_notinD hu).or op_notin_str)
theorem set_dict (hu : X.A.units + 64 < cLine) : PSet X rSetD := by
  intro pins s σ H o i v ov iv u Q I ro ri rv h
  obtain ⟨a, H', rfl, g, q⟩ := h
  cases ro
  have hu1 : X.A.units + 1 < cLine := by omega
  exact d_setItem hu1 I g ri rv fun s4 I4 => ⟨H', I4, q⟩
theorem u_set (hu : X.A.units + 64 < cLine) : PSet X rSetU := by
  intro pins s σ H o i v ov iv u Q I ro ri rv h
  rcases h with h | h
  · exact set_list pins s σ H o i v ov iv u Q I ro ri rv h
  · exact set_dict hu pins s σ H o i v ov iv u Q I ro ri rv h
theorem u_iadd : OpR X (inplaceOp .Add) rIAddU := by
  intro pins s σ H x y v u Q I rx ry h
  cases x with
  | int i =>
    cases y with
    | int j => exact iop_add pins s σ H _ _ v u Q I rx ry ⟨i, j, rfl, rfl, h⟩
    | _ => exact (show False from h).elim
  | str i =>
    cases y with
    | str j => exact iop_add_str pins s σ H _ _ v u Q I rx ry ⟨i, j, rfl, rfl, h.1, h.2⟩
    | _ => exact (show False from h).elim
  | ref l =>
    cases y with
    | ref b => exact iop_ext pins s σ H _ _ v u Q I rx ry h
    | _ => exact (show False from h).elim
  | _ => exact (show False from (by cases y <;> exact h)).elim
theorem u_isub : OpR X (inplaceOp .Sub) rSubU := by
  intro pins s σ H x y v u Q I rx ry h
  cases x with
  | int i =>
    cases y with
    | int j => exact iop_sub pins s σ H _ _ v u Q I rx ry ⟨i, j, rfl, rfl, h⟩
    | _ => exact (show False from h).elim
  | _ => exact (show False from (by cases y <;> exact h)).elim
theorem in_of {op : Operator} {r : R2} (h : OpR X (inplaceOp op) r) : InOp X op r := fun pins s σ H x y u v Q I rx ry q => h pins s σ H x y u v Q I rx ry q
theorem ip_of {op : Operator} {r : R2} (h : OpR X (inplaceOp op) r) : PIp X op r := fun pins s σ H x y u v Q I rx ry q => h pins s σ H x y u v Q I rx ry q
theorem pt_tru {a : Expr} {ta : TE} (ha : PE X a ta) (he : ∀ whole, isTrue a X.env whole = (do let v ← whole; standAt a.pos; holding [v] (truthy v)) := by intro _; rfl) : PT X a (tTruth X.K ta) := pt_truth ha he
/-- what leaves a def -/
theorem passX {P : Program} {w : World} {K : PySem.W.Frag} {mg : Str → Option Value} {base : Heap} {N : List Str} {q : Str} {sc : Scope} {f : Addr} {cd : Value} {A : Around} {outer : List Env} {s : Shared} {H : Hp} {E : XK} :
    Passes (L2.CX P w) (cxOf (L2.CX P w) P w K mg base N q sc f cd A outer s H E) E := passes_call (takes_of rfl rfl rfl rfl) fun _ _ _ _ h => h
theorem pe_gint {x : Str} {i : Int} {pos : Pos} (hg : Gl X x) (hm : ∃ t, X.mg x = some (.int i t)) (hd : (x == ("__debug__" : Str)) = false := by decide) : PE X (.Name x pos) (tC (.int i)) := by
  obtain ⟨t, h⟩ := hm
  exact pe_glob hg h ⟨t, rfl⟩ hd
theorem pe_gstr {x z : Str} {pos : Pos} (hg : Gl X x) (hm : ∃ t, X.mg x = some (.str z t)) (hd : (x == ("__debug__" : Str)) = false := by decide) : PE X (.Name x pos) (tC (.str z)) := by
  obtain ⟨t, h⟩ := hm
  exact pe_glob hg h ⟨t, rfl⟩ hd
end
end Ph
namespace Ph
open PySem PySem.Spec PyProof.Rows L2
/-! ### more rules by values -/
def rSlU (K : PySem.W.Frag) : V → Option Int → Option Int → Hp → VK → Prop := fun x lo hi H Q => rSlL K x lo hi H Q ∨ rSlS x lo hi H Q ∨ rSlT K x lo hi H Q
theorem u_sl {X : Cx} : SlR X (rSlU X.K) := sl_list.or (sl_str.or sl_tup)
def rLenU (K : PySem.W.Frag) : List V → Hp → VK → Prop := fun xs H Q => (∃ x n, xs = [x] ∧ LenV K x H n ∧ Q (.int n) H) ∨ ∃ a kvs, xs = [V.ref a] ∧ H a = some (.dK kvs) ∧ Q (.int kvs.length) H
theorem u_len {X : Cx} : CallR X (.builtin "len") (rLenU X.K) := call_len.or call_lenD
def rAbs : List V → Hp → VK → Prop := fun xs H Q => ∃ i, xs = [.int i] ∧ Q (.int (if i < 0 then -i else i)) H
def rMax2 : List V → Hp → VK → Prop := fun xs H Q => ∃ i j, xs = [.int i, .int j] ∧ Q (.int (if j > i then j else i)) H
def rMin2 : List V → Hp → VK → Prop := fun xs H Q => ∃ i j, xs = [.int i, .int j] ∧ Q (.int (if j < i then j else i)) H
def rInt1 : List V → Hp → VK → Prop := fun xs H Q => (∃ i, xs = [.int i] ∧ Q (.int i) H) ∨ ∃ k, xs = [.bl k] ∧ Q (.int (if k then 1 else 0)) H
def rNeg : V → Hp → VK → Prop := rU fun i => .int (-i)
def tRaiseE (C : Addr) (E : XK) : TS := fun _ _ H => E (.ref C) none H
abbrev lamq (q : Str) : Str := q ++ ".<locals>." ++ "<lambda>"
/-! ### by places -/
inductive SetAt (v : V) : Nat → L2.St → L2.St → Prop
  | here {x : Option V} {σ : L2.St} : SetAt v 0 (x :: σ) (some v :: σ)
  | there {i : Nat} {x : Option V} {σ σ' : L2.St} : SetAt v i σ σ' → SetAt v (i + 1) (x :: σ) (x :: σ')
theorem SetAt.ok {v : V} : ∀ {i σ σ'}, SetAt v i σ σ' → σ.set i (some v) = σ'
  | _, _, _, .here => rfl
  | _, _, _, .there h => by rw [List.set_cons_succ, h.ok]
inductive LSet (v : V) : Nat → List V → List V → Prop
  | here {x : V} {r : List V} : LSet v 0 (x :: r) (v :: r)
  | there {i : Nat} {x : V} {r r' : List V} : LSet v i r r' → LSet v (i + 1) (x :: r) (x :: r')
theorem LSet.ok {v : V} : ∀ {i r r'}, LSet v i r r' → r.set i v = r'
  | _, _, _, .here => rfl
  | _, _, _, .there h => by rw [List.set_cons_succ, h.ok]
inductive Lk (f : Str) : List (Str × V) → V → Prop
  | here {v : V} {fs : List (Str × V)} : Lk f ((f, v) :: fs) v
  | there {g : Str} {x : V} {fs : List (Str × V)} {v : V} : f ≠ g → Lk f fs v → Lk f ((g, x) :: fs) v
theorem Lk.ok {f : Str} : ∀ {fs v}, Lk f fs v → fs.lookup f = some v
  | _, _, .here => by simp [List.lookup]
  | _, _, .there n h => by
    rw [List.lookup_cons, show (f == _) = false from beq_eq_false_iff_ne.mpr n]
    exact h.ok
inductive NoLk (f : Str) : List (Str × V) → Prop
  | nil : NoLk f []
  | there {g : Str} {x : V} {fs : List (Str × V)} : f ≠ g → NoLk f fs → NoLk f ((g, x) :: fs)
theorem NoLk.ok {f : Str} : ∀ {fs}, NoLk f fs → fs.lookup f = none
  | _, .nil => rfl
  | _, .there n h => by
    rw [List.lookup_cons, show (f == _) = false from beq_eq_false_iff_ne.mpr n]
    exact h.ok
inductive Put (f : Str) (v : V) : List (Str × V) → List (Str × V) → Prop
  | nil : Put f v [] [(f, v)]
  | here {x : V} {fs : List (Str × V)} : Put f v ((f, x) :: fs) ((f, v) :: fs)
  | there {g : Str} {x : V} {fs fs' : List (Str × V)} : g ≠ f → Put f v fs fs' → Put f v ((g, x) :: fs) ((g, x) :: fs')
theorem Put.ok {f : Str} {v : V} : ∀ {fs fs'}, Put f v fs fs' → putF f v fs = fs'
  | _, _, .nil => rfl
  | _, _, .here => if_pos rfl
  | _, _, .there (g := g) (x := x) (fs := fs) n h => by
    have e : putF f v ((g, x) :: fs) = if g = f then (g, v) :: fs else (g, x) :: putF f v fs := rfl
    rw [e, if_neg n, h.ok]
/-- a dict's entry -/
inductive Dk (k : Key) : List (Key × V) → V → Prop
  | here {v : V} {r : List (Key × V)} : Dk k ((k, v) :: r) v
  | there {g : Key} {x : V} {r : List (Key × V)} {v : V} : g ≠ k → Dk k r v → Dk k ((g, x) :: r) v
theorem Dk.ok {k : Key} : ∀ {r v}, Dk k r v → valV r k = some v
  | _, _, .here => valV_pos rfl
  | _, _, .there n h => by rw [valV_neg n]; exact h.ok
inductive DNo (k : Key) : List (Key × V) → Prop
  | nil : DNo k []
  | there {g : Key} {x : V} {r : List (Key × V)} : g ≠ k → DNo k r → DNo k ((g, x) :: r)
theorem DNo.ok {k : Key} : ∀ {r}, DNo k r → valV r k = none
  | _, .nil => rfl
  | _, .there n h => by rw [valV_neg n]; exact h.ok
/-- put where it is there -/
inductive DPt (k : Key) (v : V) : List (Key × V) → List (Key × V) → Prop
  | here {x : V} {r : List (Key × V)} : DNo k r → DPt k v ((k, x) :: r) ((k, v) :: r)
  | there {g : Key} {x : V} {r r' : List (Key × V)} : g ≠ k → DPt k v r r' → DPt k v ((g, x) :: r) ((g, x) :: r')
theorem DNo.map {k : Key} {v : V} : ∀ {r}, DNo k r → (r.map fun kv => if kv.1 = k then (kv.1, v) else kv) = r
  | _, .nil => rfl
  | _, .there n h => by rw [List.map_cons, h.map, if_neg n]
theorem DPt.map {k : Key} {v : V} : ∀ {r r'}, DPt k v r r' → (r.map fun kv => if kv.1 = k then (kv.1, v) else kv) = r'
  | _, _, .here h => by rw [List.map_cons, h.map, if_pos rfl]
  | _, _, .there n h => by rw [List.map_cons, h.map, if_neg n]
theorem DPt.any {k : Key} {v : V} : ∀ {r r'}, DPt k v r r' → (r.any fun kv => decide (kv.1 = k)) = true
  | _, _, .here _ => by simp
  | _, _, .there _ h => by rw [List.any_cons, h.any, Bool.or_true]
theorem DPt.ok {k : Key} {v : V} {r r' : List (Key × V)} (h : DPt k v r r') : putK r k v = r' := by
  unfold putK
  rw [if_pos h.any, h.map]
theorem DPt.length {k : Key} {v : V} : ∀ {r r'}, DPt k v r r' → r'.length = r.length
  | _, _, .here _ => rfl
  | _, _, .there _ h => by rw [List.length_cons, List.length_cons, h.length]
/-! ### what waits for a value -/
section
variable (K : PySem.W.Frag)
def kTup (Q : VK) : List V → Hp → Prop := fun xs H1 => xs.length ≤ sizeLine ∧ ∀ p, H1 p = none → Q (.ref p) (upd H1 p (.tup xs))
def kLst (Q : VK) : List V → Hp → Prop := fun xs H1 => xs.length ≤ sizeLine ∧ ∀ p, H1 p = none → Q (.ref p) (upd H1 p (.lst xs))
def kFld (f : Str) (Q : VK) : VK := fun x H1 => ∃ a C dx fs v, x = .ref a ∧ H1 a = some (.ins C dx fs) ∧ Cls K C ∧ NoAttr K C f ∧ fs.lookup f = some v ∧ Q v H1
def kSetF (f : Str) (A : L2.St → Hp → Prop) (σ : L2.St) (y : V) : VK := fun x H2 => ∃ a C dx fs, x = .ref a ∧ H2 a = some (.ins C dx fs) ∧ Cls K C ∧ NoAttr K C f ∧ fs.length < 1000 ∧ A σ (upd H2 a (.ins C dx (putF f y fs)))
def kAugG (f : Str) (a C : Addr) (A : L2.St → Hp → Prop) (σ : L2.St) : VK := fun z H3 => ∃ dx' fs', H3 a = some (.ins C dx' fs') ∧ fs'.length < 1000 ∧ A σ (upd H3 a (.ins C dx' (putF f z fs')))
def kAugF (f : Str) (tv : TE) (rd : R2) (A : L2.St → Hp → Prop) (σ : L2.St) : VK := fun x H1 => ∃ a C dx fs v, x = .ref a ∧ H1 a = some (.ins C dx fs) ∧ Cls K C ∧ NoAttr K C f ∧ fs.lookup f = some v ∧
    tv σ H1 fun y H2 => rd v y H2 (kAugG f a C A σ)
def kTest (Qb : Bool → Hp → Prop) : VK := fun x H1 => ∃ k, x = .bl k ∧ Qb k H1
def kTru (Qb : Bool → Hp → Prop) : VK := fun x H1 => ∃ k, TruV K x H1 k ∧ Qb k H1
def kAndV (σ : L2.St) (tb : TE) (Q : VK) : VK := fun x H1 => ∃ c, x = .bl c ∧ if c = true then tb σ H1 Q else Q (.bl false) H1
def kOrV (σ : L2.St) (tb : TE) (Q : VK) : VK := fun x H1 => ∃ c, x = .bl c ∧ if c = true then Q (.bl true) H1 else tb σ H1 Q
def kNotV (Q : VK) : VK := fun x H1 => ∃ c, x = .bl c ∧ Q (.bl (!c)) H1
def kChain (r' : R2) (σ : L2.St) (tc : TE) (y : V) (Q : VK) : VK := fun z H3 => ∃ k, z = .bl k ∧ (if k = true then tc σ H3 fun w' H4 => r' y w' H4 Q else Q (.bl false) H3)
def kMeth (C : Addr) (m : Str) (σ : L2.St) (tr : TA) (Z : V → List V → Hp → Prop) : VK := fun x H1 => ∃ a dx fs, x = .ref a ∧ H1 a = some (.ins C dx fs) ∧ fs.lookup m = none ∧ tr σ H1 fun vs H2 => Z x vs H2
def kInit (Q : VK) (x : Addr) : VK := fun v H2 => v = .non ∧ Q (.ref x) H2
def kMake (C : Addr) (sp : Sp) (dvs : List V) (E : XK) (Q : VK) : List V → Hp → Prop := fun vs H1 => ∀ x dx, H1 x = none → H1 dx = none → dx ≠ x → sp (.ref x :: (vs ++ dvs)) (upd (upd H1 dx (.own x)) x (.ins C dx [])) (kInit Q x) E
def kBm (T : String) (r : V → List V → Hp → VK → Prop) (σ : L2.St) (tr : TA) (Q : VK) : VK := fun x H1 => tyV K T x H1 ∧ tr σ H1 fun xs H2 => r x xs H2 Q
def kPar2 (i j : Nat) (σ : L2.St) (A : L2.St → Hp → Prop) : List V → Hp → Prop := fun vs H1 => ∃ v w, vs = [v, w] ∧ gName i v σ H1 fun σ1 H2 => gName j w σ1 H2 A
def kPar3 (i j l : Nat) (σ : L2.St) (A : L2.St → Hp → Prop) : List V → Hp → Prop := fun vs H1 => ∃ u v w, vs = [u, v, w] ∧ gName i u σ H1 fun σ1 H2 => gName j v σ1 H2 fun σ2 H3 => gName l w σ2 H3 A
def kCall (sp : Sp) (dvs : List V) (E : XK) (Q : VK) : List V → Hp → Prop := fun vs H1 => sp (vs ++ dvs) H1 Q E
end
/-! ### statements -/
section
variable {K : PySem.W.Frag} {A : L2.St → Hp → Prop} {Bt : VK} {Cb Dc : L2.St → Hp → Prop} {σ σ' : L2.St} {B H : Hp} {Q : VK} {R : L2.St → Hp → Prop} {L L' : List (Addr × HO)} {I : List Im}
theorem s_nx (h : A σ H) : Ends.nx ⟨A, Bt, Cb, Dc⟩ σ H := h
theorem s_rt {v : V} (h : Bt v H) : Ends.rt ⟨A, Bt, Cb, Dc⟩ v H := h
theorem s_bk (h : Cb σ H) : Ends.bk ⟨A, Bt, Cb, Dc⟩ σ H := h
theorem s_ct (h : Dc σ H) : Ends.ct ⟨A, Bt, Cb, Dc⟩ σ H := h
theorem s_seq {t u : TS} (h : t ⟨u ⟨A, Bt, Cb, Dc⟩, Bt, Cb, Dc⟩ σ H) : tSeq t u ⟨A, Bt, Cb, Dc⟩ σ H := h
theorem s_next (h : A σ H) : tNext ⟨A, Bt, Cb, Dc⟩ σ H := h
theorem s_break (h : Cb σ H) : tBreak ⟨A, Bt, Cb, Dc⟩ σ H := h
theorem s_cont (h : Dc σ H) : tCont ⟨A, Bt, Cb, Dc⟩ σ H := h
theorem s_asg {te : TE} {g : TG} (h : te σ H fun x H1 => g x σ H1 A) : tAsg te g ⟨A, Bt, Cb, Dc⟩ σ H := h
theorem s_asg2 {te : TE} {g g2 : TG} (h : te σ H fun x H1 => g x σ H1 fun σ1 H2 => g2 x σ1 H2 A) : tAsg2 te g g2 ⟨A, Bt, Cb, Dc⟩ σ H := h
theorem s_name {i : Nat} {v : V} (h : SetAt v i σ σ') (q : R σ' H) : gName i v σ H R := by
  show R (σ.set i (some v)) H
  rw [h.ok]
  exact q
theorem s_ret {te : TE} (h : te σ H Bt) : tRet te ⟨A, Bt, Cb, Dc⟩ σ H := h
theorem s_retN (h : Bt .non H) : tRetN ⟨A, Bt, Cb, Dc⟩ σ H := h
theorem s_drop {te : TE} (h : te σ H fun _ H1 => A σ H1) : tDrop te ⟨A, Bt, Cb, Dc⟩ σ H := h
theorem s_if {c : TT} {t u : TS} (h : c σ H fun b H1 => if b = true then t ⟨A, Bt, Cb, Dc⟩ σ H1 else u ⟨A, Bt, Cb, Dc⟩ σ H1) : tIfS c t u ⟨A, Bt, Cb, Dc⟩ σ H := h
theorem s_aug {i : Nat} {te : TE} {ti : TIp} {x : V} (e : σ[i]? = some (some x)) (h : te σ H fun y H1 => ti x y H1 fun z H2 => gName i z σ H2 A) : tAug i te ti ⟨A, Bt, Cb, Dc⟩ σ H := ⟨x, e, h⟩
theorem s_par {i j : Nat} {ta : TA} (h : ta σ H (kPar2 i j σ A)) : tPar i j ta ⟨A, Bt, Cb, Dc⟩ σ H := h
theorem s_par3 {i j l : Nat} {ta : TA} (h : ta σ H (kPar3 i j l σ A)) : tPar3 i j l ta ⟨A, Bt, Cb, Dc⟩ σ H := h
theorem s_par2V {i j : Nat} {v w : V} (h : gName i v σ H fun σ1 H2 => gName j w σ1 H2 A) : kPar2 i j σ A [v, w] H := ⟨v, w, rfl, h⟩
theorem s_par3V {i j l : Nat} {u v w : V} (h : gName i u σ H fun σ1 H2 => gName j v σ1 H2 fun σ2 H3 => gName l w σ2 H3 A) : kPar3 i j l σ A [u, v, w] H := ⟨u, v, w, rfl, h⟩
theorem s_raise {C : Addr} {E : XK} (h : E (.ref C) none H) : tRaiseE C E ⟨A, Bt, Cb, Dc⟩ σ H := h
/-! ### expressions -/
variable {ta tb te : TE} {tr : TA} {v x y : V}
theorem s_var {i : Nat} (e : σ[i]? = some (some v)) (h : Q v H) : tVar i σ H Q := ⟨v, e, h⟩
theorem s_c (h : Q v H) : tC v σ H Q := h
theorem s_op {r : R2} (h : ta σ H fun x H1 => tb σ H1 fun y H2 => r x y H2 Q) : tOp r ta tb σ H Q := h
theorem s_un {r : V → Hp → VK → Prop} (h : ta σ H fun x H1 => r x H1 Q) : tUn r ta σ H Q := h
theorem s_cons {Qa : List V → Hp → Prop} (h : te σ H fun x H1 => tr σ H1 fun xs H2 => Qa (x :: xs) H2) : tCons te tr σ H Qa := h
theorem s_nil {Qa : List V → Hp → Prop} (h : Qa [] H) : tNil σ H Qa := h
theorem s_tup (h : tr σ H (kTup Q)) : tTup tr σ H Q := h
theorem s_lst (h : tr σ H (kLst Q)) : tLst tr σ H Q := h
theorem s_tupN {xs : List V} (hC : Ctx K B H L I) (hz : xs.length ≤ 1000) (k : ∀ p H1, Ctx K B H1 L (.tup p xs :: I) → Q (.ref p) H1) : kTup Q xs H :=
  ⟨Nat.le_trans hz (by decide), fun p hp => k p _ (hC.newT hp)⟩
theorem s_lstN {xs : List V} (hC : Ctx K B H L I) (hz : xs.length ≤ 1000) (k : ∀ p H1, Ctx K B H1 ((p, .lst xs) :: L) I → Q (.ref p) H1) : kLst Q xs H :=
  ⟨Nat.le_trans hz (by decide), fun p hp => k p _ (hC.newM hp rfl)⟩
theorem s_dnewK (hC : Ctx K B H L I) (k : ∀ p H1, Ctx K B H1 ((p, .dK []) :: L) I → Q (.ref p) H1) : tDNewK σ H Q := fun p hp => k p _ (hC.newM hp rfl)
theorem s_dnewT (hC : Ctx K B H L I) (k : ∀ p H1, Ctx K B H1 ((p, .dT []) :: L) I → Q (.ref p) H1) : tDNewT σ H Q := fun p hp => k p _ (hC.newM hp rfl)
theorem s_fld {f : Str} (h : ta σ H (kFld K f Q)) : tFld K ta f σ H Q := h
theorem s_fldV {f : Str} {a C dx : Addr} {fs : List (Str × V)} (m : H a = some (.ins C dx fs)) (c : Cls K C) (n : NoAttr K C f) (l : Lk f fs v) (q : Q v H) : kFld K f Q (.ref a) H := ⟨a, C, dx, fs, v, rfl, m, c, n, l.ok, q⟩
theorem s_setF {f : Str} {tv : TE} (h : tv σ H fun y H1 => ta σ H1 (kSetF K f A σ y)) : sFld K ta tv f ⟨A, Bt, Cb, Dc⟩ σ H := h
theorem s_setV {f : Str} {a C dx : Addr} {fs fs' : List (Str × V)} (hC : Ctx K B H L I) (m : H a = some (.ins C dx fs)) (c : Cls K C) (n : NoAttr K C f) (z : fs.length < 1000) (p : Put f y fs fs') (u : Up a (.ins C dx fs') L L')
    (k : ∀ H1, Ctx K B H1 L' I → A σ H1) : kSetF K f A σ y (.ref a) H :=
  ⟨a, C, dx, fs, rfl, m, c, n, z, by rw [p.ok]; exact k _ (hC.put u rfl)⟩
theorem s_augF {f : Str} {tv : TE} {rd : R2} (h : ta σ H (kAugF K f tv rd A σ)) : sFldAug K ta tv rd f ⟨A, Bt, Cb, Dc⟩ σ H := h
theorem s_augV {f : Str} {a C dx : Addr} {fs : List (Str × V)} {tv : TE} {rd : R2} (m : H a = some (.ins C dx fs)) (c : Cls K C) (n : NoAttr K C f) (l : Lk f fs v) (q : tv σ H fun y H2 => rd v y H2 (kAugG f a C A σ)) : kAugF K f tv rd A σ (.ref a) H := ⟨a, C, dx, fs, v, rfl, m, c, n, l.ok, q⟩
theorem s_augW {f : Str} {a C dx : Addr} {fs fs' : List (Str × V)} (hC : Ctx K B H L I) (m : H a = some (.ins C dx fs)) (z : fs.length < 1000) (p : Put f y fs fs') (u : Up a (.ins C dx fs') L L')
    (k : ∀ H1, Ctx K B H1 L' I → A σ H1) : kAugG f a C A σ y H := ⟨dx, fs, m, z, by rw [p.ok]; exact k _ (hC.put u rfl)⟩
theorem s_addI {i j : Int} (h : Q (.int (i + j)) H) : rAddU K (.int i) (.int j) H Q := h
theorem s_addS {i j : Str} (z : i.length + j.length ≤ sizeLine) (h : Q (.str (i ++ j)) H) : rAddU K (.str i) (.str j) H Q := ⟨z, h⟩
theorem s_addL {l b : Addr} {xs zs : List V} (hC : Ctx K B H L I) (h1 : H l = some (.lst xs)) (h2 : H b = some (.lst zs)) (z : xs.length + zs.length ≤ 100000) (k : ∀ p H1, Ctx K B H1 ((p, .lst (xs ++ zs)) :: L) I → Q (.ref p) H1) :
    rAddU K (.ref l) (.ref b) H Q := .inl ⟨xs, zs, h1, h2, Nat.le_trans z (by decide), fun p hp => k p _ (hC.newM hp rfl)⟩
theorem s_subI {i j : Int} (h : Q (.int (i - j)) H) : rSubU (.int i) (.int j) H Q := h
theorem s_mulI {i j : Int} (c : CMul i j) (h : Q (.int (i * j)) H) : rMulU (.int i) (.int j) H Q := ⟨c, h⟩
theorem s_divI {i j : Int} (c : CDiv i j) (h : Q (.int (i / j)) H) : rDivU (.int i) (.int j) H Q := ⟨c, h⟩
theorem s_modI {i j : Int} (c : 0 < j) (h : Q (.int (i % j)) H) : rModU (.int i) (.int j) H Q := ⟨c, h⟩
theorem s_powI {i j : Int} (c : CPow i j) (h : Q (.int (i ^ j.toNat)) H) : rPowU (.int i) (.int j) H Q := ⟨c, h⟩
theorem s_negI {i : Int} (h : Q (.int (-i)) H) : rNeg (.int i) H Q := ⟨i, rfl, h⟩
theorem s_iaddI {i j : Int} (h : Q (.int (i + j)) H) : rIAddU (.int i) (.int j) H Q := h
theorem s_ltI {i j : Int} (h : Q (.bl (decide (i < j))) H) : rLt (.int i) (.int j) H Q := h
theorem s_leI {i j : Int} (h : Q (.bl (decide (i ≤ j))) H) : rLe (.int i) (.int j) H Q := h
theorem s_gtI {i j : Int} (h : Q (.bl (decide (j < i))) H) : rGt (.int i) (.int j) H Q := h
theorem s_geI {i j : Int} (h : Q (.bl (decide (j ≤ i))) H) : rGe (.int i) (.int j) H Q := h
theorem s_isN_non (h : Q (.bl true) H) : rIsN .non .non H Q := ⟨rfl, h⟩
theorem s_isN_ref {a : Addr} (h : Q (.bl false) H) : rIsN (.ref a) .non H Q := ⟨rfl, h⟩
theorem s_isN_int {i : Int} (h : Q (.bl false) H) : rIsN (.int i) .non H Q := ⟨rfl, h⟩
theorem s_isN_str {i : Str} (h : Q (.bl false) H) : rIsN (.str i) .non H Q := ⟨rfl, h⟩
theorem s_isN_bl {i : Bool} (h : Q (.bl false) H) : rIsN (.bl i) .non H Q := ⟨rfl, h⟩
theorem s_notN_non (h : Q (.bl false) H) : rNotN .non .non H Q := ⟨rfl, h⟩
theorem s_notN_ref {a : Addr} (h : Q (.bl true) H) : rNotN (.ref a) .non H Q := ⟨rfl, h⟩
theorem s_notN_int {i : Int} (h : Q (.bl true) H) : rNotN (.int i) .non H Q := ⟨rfl, h⟩
theorem s_notN_str {i : Str} (h : Q (.bl true) H) : rNotN (.str i) .non H Q := ⟨rfl, h⟩
theorem s_notN_bl {i : Bool} (h : Q (.bl true) H) : rNotN (.bl i) .non H Q := ⟨rfl, h⟩
theorem s_eqI {i j : Int} (h : Q (.bl (decide (i = j))) H) : rEqU K (.int i) (.int j) H Q := .inl ⟨rfl, by rw [show decide (V.int i = V.int j) = decide (i = j) from by simp]; exact h⟩
theorem s_neI {i j : Int} (h : Q (.bl (!decide (i = j))) H) : rNeU K (.int i) (.int j) H Q := .inl ⟨rfl, by rw [show decide (V.int i = V.int j) = decide (i = j) from by simp]; exact h⟩
theorem s_eqS {i j : Str} (h : Q (.bl (decide (i = j))) H) : rEqU K (.str i) (.str j) H Q := .inl ⟨rfl, by rw [show decide (V.str i = V.str j) = decide (i = j) from by simp]; exact h⟩
theorem s_neS {i j : Str} (h : Q (.bl (!decide (i = j))) H) : rNeU K (.str i) (.str j) H Q := .inl ⟨rfl, by rw [show decide (V.str i = V.str j) = decide (i = j) from by simp]; exact h⟩
theorem s_eqB {i j : Bool} (h : Q (.bl (i == j)) H) : rEqU K (.bl i) (.bl j) H Q := .inl ⟨rfl, by rw [show decide (V.bl i = V.bl j) = (i == j) from by cases i <;> cases j <;> rfl]; exact h⟩
theorem s_neB {i j : Bool} (h : Q (.bl (i != j)) H) : rNeU K (.bl i) (.bl j) H Q := .inl ⟨rfl, by rw [show (!decide (V.bl i = V.bl j)) = (i != j) from by cases i <;> cases j <;> rfl]; exact h⟩
theorem s_eqNS {j : Str} (h : Q (.bl false) H) : rEqU K .non (.str j) H Q := .inl ⟨rfl, h⟩
theorem s_neNS {j : Str} (h : Q (.bl true) H) : rNeU K .non (.str j) H Q := .inl ⟨rfl, h⟩
theorem s_eqD {d e : PyData} (h1 : Dp K H x d) (h2 : Dp K H y e) (s1 : SeqAt.shaped d = true) (s2 : SeqAt.shaped e = true) (h : Q (.bl (PyData.eqv d e)) H) : rEqU K x y H Q := .inr ⟨d, e, h1, h2, s1, s2, h⟩
theorem s_neD {d e : PyData} (h1 : Dp K H x d) (h2 : Dp K H y e) (s1 : SeqAt.shaped d = true) (s2 : SeqAt.shaped e = true) (h : Q (.bl (!PyData.eqv d e)) H) : rNeU K x y H Q := .inr ⟨d, e, h1, h2, s1, s2, h⟩
/-- an item of a tuple, of a list, at a place -/
theorem s_ixT {a : Addr} {xs : List V} {j : Nat} (h : SqT K H a xs) (e : xs[j]? = some v) (q : Q v H) : rIxU K (.ref a) (.int (j : Nat)) H Q := .inr (.inl ⟨a, xs, j, v, rfl, rfl, h, atI_nat e, q⟩)
theorem s_ixL {a : Addr} {xs : List V} {i : Int} (h : H a = some (.lst xs)) (e : atI xs i = some v) (q : Q v H) : rIxU K (.ref a) (.int i) H Q := .inl ⟨a, xs, i, v, rfl, rfl, SqL.of h, e, q⟩
theorem s_ixD {a : Addr} {r : List (Key × V)} {k : Str} (h : H a = some (.dK r)) (e : Dk (Sum.inr k) r v) (q : Q v H) : rIxU K (.ref a) (.str k) H Q :=
  .inr (.inr (.inr ⟨a, v, rfl, by rw [← e.ok]; exact DGet.k (k := Sum.inr k) h, q⟩))
theorem s_subG {to ti : TE} {t : TSet} (h : to σ H fun o H1 => ti σ H1 fun i H2 => t o i v H2 fun H3 => R σ H3) : gSub to ti t v σ H R := h
theorem s_putD {a : Addr} {r r' : List (Key × V)} {k : Str} {Z : Hp → Prop} (hC : Ctx K B H L I) (h : H a = some (.dK r)) (z : r.length < 1000) (e : DPt (Sum.inr k) v r r') (u : Up a (.dK r') L L') (q : ∀ H1, Ctx K B H1 L' I → Z H1) : rSetU (.ref a) (.str k) v H Z :=
  .inr ⟨a, upd H a (.dK (putK r (Sum.inr k) v)), rfl, DPut.k (k := Sum.inr k) h (Nat.lt_of_lt_of_le z (by decide)), by rw [e.ok]; exact q _ (hC.put u rfl)⟩
theorem s_putL {a : Addr} {xs xs' : List V} {i : Int} {j : Nat} {Z : Hp → Prop} (hC : Ctx K B H L I) (h : H a = some (.lst xs)) (e : ixN xs.length i = some j) (w : LSet v j xs xs') (u : Up a (.lst xs') L L') (q : ∀ H1, Ctx K B H1 L' I → Z H1) : rSetU (.ref a) (.int i) v H Z :=
  .inl ⟨a, xs, i, j, rfl, rfl, h, e, by rw [w.ok]; exact q _ (hC.put u rfl)⟩
theorem s_gtup {n : Nat} {t : TGs} {a : Addr} {xs : List V} (h : SqT K H a xs) (z : xs.length = n) (q : t xs σ H R) : gTup K n t (.ref a) σ H R := ⟨a, xs, rfl, h, z, q⟩
theorem s_gcons {t : TG} {u : TGs} {r : List V} (q : t v σ H fun σ1 H1 => u r σ1 H1 R) : gCons t u (v :: r) σ H R := ⟨v, r, rfl, q⟩
theorem s_gnil (q : R σ H) : gNil [] σ H R := ⟨rfl, q⟩
/-! ### tests -/
variable {t u : TT} {Qb : Bool → Hp → Prop} {b : Bool}
theorem s_test (h : te σ H (kTest Qb)) : tTest te σ H Qb := h
theorem s_bl (h : Qb b H) : kTest Qb (.bl b) H := ⟨b, rfl, h⟩
theorem s_and (h : t σ H fun c H1 => if c = true then u σ H1 Qb else Qb false H1) : tAnd t u σ H Qb := h
theorem s_or (h : t σ H fun c H1 => if c = true then Qb true H1 else u σ H1 Qb) : tOr t u σ H Qb := h
theorem s_not (h : t σ H fun c H1 => Qb (!c) H1) : tNot t σ H Qb := h
theorem s_tru (h : ta σ H (kTru K Qb)) : tTruth K ta σ H Qb := h
theorem s_truB (h : Qb b H) : kTru K Qb (.bl b) H := ⟨b, rfl, h⟩
theorem s_truN (h : Qb false H) : kTru K Qb .non H := ⟨false, rfl, h⟩
theorem s_andB (h : if b = true then tb σ H Q else Q (.bl false) H) : kAndV σ tb Q (.bl b) H := ⟨b, rfl, h⟩
theorem s_orB (h : if b = true then Q (.bl true) H else tb σ H Q) : kOrV σ tb Q (.bl b) H := ⟨b, rfl, h⟩
theorem s_notB (h : Q (.bl (!b)) H) : kNotV Q (.bl b) H := ⟨b, rfl, h⟩
theorem s_andV (h : ta σ H (kAndV σ tb Q)) : tAndV ta tb σ H Q := h
theorem s_orV (h : ta σ H (kOrV σ tb Q)) : tOrV ta tb σ H Q := h
theorem s_notV (h : ta σ H (kNotV Q)) : tNotV ta σ H Q := h
theorem s_ifE (h : t σ H fun c H1 => if c = true then ta σ H1 Q else tb σ H1 Q) : tIf t ta tb σ H Q := h
theorem s_chain {r r' : R2} {tc : TE} (h : ta σ H fun x H1 => tb σ H1 fun y H2 => r x y H2 (kChain r' σ tc y Q)) : tChain r r' ta tb tc σ H Q := h
theorem s_chainB {r' : R2} {tc : TE} (h : if b = true then tc σ H fun w' H4 => r' y w' H4 Q else Q (.bl false) H) : kChain r' σ tc y Q (.bl b) H := ⟨b, rfl, h⟩
theorem s_iteD {p : Prop} [Decidable p] {X Y : Prop} (h1 : p → X) (h2 : ¬ p → Y) : if decide p = true then X else Y := by
  by_cases h : p
  · rw [if_pos (decide_eq_true h)]
    exact h1 h
  · rw [if_neg (by rw [decide_eq_false h]; exact Bool.false_ne_true)]
    exact h2 h
theorem s_iteND {p : Prop} [Decidable p] {X Y : Prop} (h1 : ¬ p → X) (h2 : p → Y) : if (!decide p) = true then X else Y := by
  by_cases h : p
  · rw [decide_eq_true h]
    exact iteF (h2 h)
  · rw [decide_eq_false h]
    exact iteT (h1 h)
theorem s_iteB {X Y : Prop} (h1 : b = true → X) (h2 : b = false → Y) : if b = true then X else Y := by
  cases b with
  | true => exact iteT (h1 rfl)
  | false => exact iteF (h2 rfl)
theorem s_iteNB {X Y : Prop} (h1 : b = false → X) (h2 : b = true → Y) : if (!b) = true then X else Y := by
  cases b with
  | true => exact iteF (h2 rfl)
  | false => exact iteT (h1 rfl)
theorem s_iteNT {X Y : Prop} (h : Y) : if (!true) = true then X else Y := iteF h
theorem s_iteNF {X Y : Prop} (h : X) : if (!false) = true then X else Y := iteT h
theorem s_iteDT {p : Prop} [Decidable p] {X Y : Prop} (hp : p) (h : X) : if decide p = true then X else Y := by
  rw [decide_eq_true hp]
  exact iteT h
theorem s_iteDF {p : Prop} [Decidable p] {X Y : Prop} (hp : ¬ p) (h : Y) : if decide p = true then X else Y := by
  rw [decide_eq_false hp]
  exact iteF h
/-! ### calls -/
theorem s_cb {r : List V → Hp → VK → Prop} (h : tr σ H fun vs H1 => r vs H1 Q) : tCB r tr σ H Q := h
theorem s_abs {i : Int} (h : Q (.int (if i < 0 then -i else i)) H) : rAbs [.int i] H Q := ⟨i, rfl, h⟩
theorem s_max2 {i j : Int} (h : Q (.int (if j > i then j else i)) H) : rMax2 [.int i, .int j] H Q := ⟨i, j, rfl, h⟩
theorem s_min2 {i j : Int} (h : Q (.int (if j < i then j else i)) H) : rMin2 [.int i, .int j] H Q := ⟨i, j, rfl, h⟩
theorem s_int1 {i : Int} (h : Q (.int i) H) : rInt1 [.int i] H Q := .inl ⟨i, rfl, h⟩
theorem s_int1b (h : Q (.int (if b then 1 else 0)) H) : rInt1 [.bl b] H Q := .inr ⟨b, rfl, h⟩
theorem s_lenL {l : Addr} {xs : List V} (m : H l = some (.lst xs)) (h : Q (.int xs.length) H) : rLenU K [.ref l] H Q := .inl ⟨_, _, rfl, .inl ⟨xs, SqL.of m, rfl⟩, h⟩
theorem s_lenT {l : Addr} {xs : List V} (m : SqT K H l xs) (h : Q (.int xs.length) H) : rLenU K [.ref l] H Q := .inl ⟨_, _, rfl, .inr ⟨xs, m, rfl⟩, h⟩
theorem s_lenS {z : Str} (m : z.length ≤ sizeLine) (h : Q (.int z.length) H) : rLenU K [.str z] H Q := .inl ⟨_, _, rfl, ⟨m, rfl⟩, h⟩
theorem s_lenD {l : Addr} {r : List (Key × V)} (m : H l = some (.dK r)) (h : Q (.int r.length) H) : rLenU K [.ref l] H Q := .inr ⟨_, _, rfl, m, h⟩
theorem s_call {sp : Sp} {dvs : List V} {E : XK} (h : tr σ H (kCall sp dvs E Q)) : tCall sp dvs E tr σ H Q := h
theorem s_meth {C : Addr} {m : Str} {sp : Sp} {dvs : List V} {E : XK} (h : ta σ H (kMeth C m σ tr fun x vs H2 => kCall sp dvs E Q (x :: vs) H2)) : tMeth C m sp dvs E ta tr σ H Q := h
theorem s_methV {a C dx : Addr} {fs : List (Str × V)} {m : Str} {Z : V → List V → Hp → Prop} (e : H a = some (.ins C dx fs)) (n : NoLk m fs) (h : tr σ H fun vs H2 => Z (.ref a) vs H2) : kMeth C m σ tr Z (.ref a) H := ⟨a, dx, fs, rfl, e, n.ok, h⟩
theorem s_callV {sp : Sp} {vs : List V} {E : XK} (h : sp vs H Q E) : kCall sp [] E Q vs H := by
  unfold kCall
  rw [List.append_nil]
  exact h
theorem s_make {C : Addr} {sp : Sp} {dvs : List V} {E : XK} (h : tr σ H (kMake C sp dvs E Q)) : tMake C sp dvs E tr σ H Q := h
theorem s_makeV {C : Addr} {sp : Sp} {vs : List V} {E : XK} (hC : Ctx K B H L I) (k : ∀ x dx H1, Ctx K B H1 ((x, .ins C dx []) :: L) I → sp (.ref x :: vs) H1 (kInit Q x) E) : kMake C sp [] E Q vs H := fun x dx hx hd ne => by
  rw [List.append_nil]
  refine k x dx _ ?_
  have h1 : Ctx K B (upd H dx (.own x)) L I := hC.moved (Stb.new hd) (hC.lay.keep hd)
  exact h1.newM (by rw [upd_ne (fun z => ne z.symm)]; exact hx) rfl
theorem s_bm {T : String} {r : V → List V → Hp → VK → Prop} {to : TE} (h : to σ H (kBm K T r σ tr Q)) : tBM K T r to tr σ H Q := h
theorem s_tyL {l : Addr} {xs : List V} {r : V → List V → Hp → VK → Prop} (m : H l = some (.lst xs)) (h : tr σ H fun xs H2 => r (.ref l) xs H2 Q) : kBm K "list" r σ tr Q (.ref l) H := ⟨.inl ⟨rfl, _, SqL.of m⟩, h⟩
theorem s_append {l : Addr} {xs : List V} (hC : Ctx K B H L I) (m : H l = some (.lst xs)) (z : xs.length < 100000) (u : Up l (.lst (xs ++ [y])) L L') (k : ∀ H1, Ctx K B H1 L' I → Q .non H1) : rAppend (.ref l) [y] H Q :=
  ⟨l, xs, y, rfl, rfl, m, Nat.lt_of_lt_of_le z (by decide), k _ (hC.put u rfl)⟩
end
end Ph
namespace Ph
open PySem PySem.Spec PyProof.Rows L2
/-- no dict within, texts sound, n deep at most -/
def Sh (n : Nat) (d : PyData) : Prop := d.canLay0 = true ∧ d.depth ≤ n
def ShL (n : Nat) (ds : List PyData) : Prop := ∀ d, d ∈ ds → Sh n d
theorem Sh.shaped {n : Nat} {d : PyData} (h : Sh n d) (z : n ≤ 64) : SeqAt.shaped d = true := by
  unfold SeqAt.shaped
  rw [h.1, Bool.true_and]
  exact decide_eq_true (Nat.le_trans h.2 z)
theorem Sh.mono {n m : Nat} {d : PyData} (h : Sh n d) (z : n ≤ m) : Sh m d := ⟨h.1, Nat.le_trans h.2 z⟩
theorem Sh.int {n : Nat} (i : Int) : Sh n (.int i) := ⟨by simp [PyData.canLay0], by simp [PyData.depth]⟩
theorem Sh.bl {n : Nat} (i : Bool) : Sh n (.bool i) := ⟨by simp [PyData.canLay0], by simp [PyData.depth]⟩
theorem Sh.non {n : Nat} : Sh n .none := ⟨by simp [PyData.canLay0], by simp [PyData.depth]⟩
theorem Sh.str {n : Nat} {x : Str} (h : PyData.strOk x = true) : Sh n (.str x) := ⟨by simp [PyData.canLay0, h], by simp [PyData.depth]⟩
theorem canAll {ds : List PyData} (h : ∀ d, d ∈ ds → d.canLay0 = true) : PyData.canLayAll0 ds = true := by
  induction ds with
  | nil => simp [PyData.canLayAll0]
  | cons d r ih =>
    rw [PyData.canLayAll0, h d List.mem_cons_self, ih (fun e he => h e (List.mem_cons_of_mem _ he))]
    rfl
theorem depAll {n : Nat} {ds : List PyData} (h : ∀ d, d ∈ ds → d.depth ≤ n) : PyData.depthAll ds ≤ n := by
  induction ds with
  | nil => simp [PyData.depthAll]
  | cons d r ih =>
    have h1 := h d List.mem_cons_self
    have h2 := ih (fun e he => h e (List.mem_cons_of_mem _ he))
    rw [PyData.depthAll]
    omega
theorem ShL.list {n : Nat} {ds : List PyData} (h : ShL n ds) : Sh (n + 1) (.list ds) := by
  refine ⟨by rw [PyData.canLay0]; exact canAll fun d hd => (h d hd).1, ?_⟩
  have := depAll fun d hd => (h d hd).2
  rw [PyData.depth]
  omega
theorem ShL.tuple {n : Nat} {ds : List PyData} (h : ShL n ds) : Sh (n + 1) (.tuple ds) := by
  refine ⟨by rw [PyData.canLay0]; exact canAll fun d hd => (h d hd).1, ?_⟩
  have := depAll fun d hd => (h d hd).2
  rw [PyData.depth]
  omega
theorem ShL.nil {n : Nat} : ShL n [] := fun d h => by cases h
theorem ShL.cons {n : Nat} {d : PyData} {ds : List PyData} (h : Sh n d) (t : ShL n ds) : ShL n (d :: ds) := fun e he => (List.mem_cons.mp he).elim (fun q => by rw [q]; exact h) (t e)
theorem ShL.append {n : Nat} {ds es : List PyData} (h : ShL n ds) (t : ShL n es) : ShL n (ds ++ es) := fun e he => (List.mem_append.mp he).elim (h e) (t e)
/-- L has what T tells, in another order -/
inductive Perm2 (F : List (Addr × HO)) : List (Addr × HO) → List (Addr × HO) → Prop
  | nil : Perm2 F F F
  | cons {x : Addr × HO} {L L' T : List (Addr × HO)} : Pick x L L' → Perm2 F L' T → Perm2 F L (x :: T)
theorem Perm2.lay {F : List (Addr × HO)} : ∀ {L T : List (Addr × HO)}, Perm2 F L T → L.Perm T
  | _, _, .nil => List.Perm.refl _
  | _, _, .cons p h => p.perm.trans (List.Perm.cons _ h.lay)
theorem Lay.perm2 {H : Hp} {F L T : List (Addr × HO)} (h : Lay H L) (p : Perm2 F L T) : Lay H T := h.perm p.lay
theorem TD.tupR {K : PySem.W.Frag} {H : Hp} {a : Addr} {xs : List V} {ds : List PyData} (t : TDs K H xs ds) (h : SqT K H a xs) : TD K H (.ref a) (.tuple ds) := .tup h t
theorem eqv_self {n : Nat} {d : PyData} (h : Sh n d) : PyData.eqv d d = true := SeqAt.eqv_refl d h.1
end Ph
namespace Ph
open PySem PySem.Spec PyProof.Rows L2
section
variable {K : PySem.W.Frag} {B H : Hp} {L L' F : List (Addr × HO)} {I : List Im} {Q : VK} {σ : L2.St} {A Cb Dc : L2.St → Hp → Prop} {Bt : VK}
/-! slices -/
def kPart (Qo : Option Int → Hp → Prop) : VK := fun x H1 => ∃ i, x = .int i ∧ Qo (some i) H1
theorem s_sl {r : V → Option Int → Option Int → Hp → VK → Prop} {te : TE} {tl th : TO} (h : te σ H fun x H1 => tl σ H1 fun l H2 => th σ H2 fun u H3 => r x l u H3 Q) : tSl r te tl th σ H Q := h
theorem s_noPart {Qo : Option Int → Hp → Prop} (h : Qo none H) : tNoPart σ H Qo := h
theorem s_partE {t : TE} {Qo : Option Int → Hp → Prop} (h : t σ H (kPart Qo)) : tPart t σ H Qo := h
theorem s_partV {i : Int} {Qo : Option Int → Hp → Prop} (h : Qo (some i) H) : kPart Qo (.int i) H := ⟨i, rfl, h⟩
theorem s_slL {a : Addr} {xs : List V} {lo hi : Option Int} (hC : Ctx K B H L I) (h : SqL K H a xs) (k : ∀ p H1, Ctx K B H1 ((p, .lst (cutV xs lo hi)) :: L) I → Q (.ref p) H1) : rSlU K (.ref a) lo hi H Q :=
  .inl ⟨a, xs, rfl, h, fun p hp => k p _ (hC.newM hp rfl)⟩
/-! for -/
def kIl (K : PySem.W.Frag) (R : It → Hp → Prop) : VK := fun x H1 => ∃ a, x = .ref a ∧ (∃ xs, SqL K H1 a xs) ∧ R (Itl K a) H1
def kRng (R : It → Hp → Prop) : List V → Hp → Prop := fun vs H1 => ∃ j : Int, vs = [.int j] ∧ -(2 ^ 62) ≤ j ∧ j < 2 ^ 62 ∧ R (Itr 0 j.toNat) H1
def kFor (g : TG) (tb : TS) (D : Ends) (σ : L2.St) : It → Hp → Prop := fun J H1 => ∃ W : Nat → Nat → L2.St → Hp → Prop, (∃ m, W 0 m σ H1) ∧ ∀ i m σ H, W i m σ H →
  (J.stop i H ∧ D.nx σ H) ∨ (J.go i H ∧ ∃ N : L2.St → Hp → Prop, (∀ σ' H', N σ' H' → ∃ m', m' < m ∧ W (i + 1) m' σ' H') ∧ ∀ x H', J.yld i H x H' → g x σ H' fun σ2 H2 => tb { D with nx := N, ct := N, bk := D.nx } σ2 H2)
theorem s_for {wi : TI} {g : TG} {tb : TS} (h : wi σ H (kFor g tb ⟨A, Bt, Cb, Dc⟩ σ)) : tFor wi g tb ⟨A, Bt, Cb, Dc⟩ σ H := h
theorem s_il {tl : TE} {R : It → Hp → Prop} (h : tl σ H (kIl K R)) : iList K tl σ H R := h
theorem s_ilV {a : Addr} {xs : List V} {R : It → Hp → Prop} (m : H a = some (.lst xs)) (h : R (Itl K a) H) : kIl K R (.ref a) H := ⟨a, rfl, ⟨xs, SqL.of m⟩, h⟩
theorem s_rng {ta : TA} {R : It → Hp → Prop} (h : ta σ H (kRng R)) : iRng1 ta σ H R := h
theorem s_rngV {j : Int} {R : It → Hp → Prop} (h1 : -(2 ^ 62) ≤ j) (h2 : j < 2 ^ 62) (h : R (Itr 0 j.toNat) H) : kRng R [.int j] H := ⟨j, rfl, h1, h2, h⟩
theorem for_rng {n : Nat} {g : TG} {tb : TS} (Pv : Nat → L2.St → Hp → Prop) (h0 : Pv 0 σ H)
    (hs : ∀ i σ H, i < n → Pv i σ H → g (.int i) σ H fun σ2 H2 => tb ⟨Pv (i + 1), Bt, A, Pv (i + 1)⟩ σ2 H2) (hd : ∀ σ H, Pv n σ H → A σ H) : kFor g tb ⟨A, Bt, Cb, Dc⟩ σ (Itr 0 n) H :=
  for_range (lo := 0) (n := n) (g := g) (tb := tb) (D := ⟨A, Bt, Cb, Dc⟩) Pv h0 (fun i σ H hi p => by
    rw [Int.zero_add]
    exact hs i σ H hi p) hd
theorem for_lst {a : Addr} {xs : List V} {g : TG} {tb : TS} (Pv : Nat → L2.St → Hp → Prop) (h0 : Pv 0 σ H) (hl : ∀ i σ H, i ≤ xs.length → Pv i σ H → H a = some (.lst xs))
    (hs : ∀ i x σ H, xs[i]? = some x → Pv i σ H → g x σ H fun σ2 H2 => tb ⟨Pv (i + 1), Bt, A, Pv (i + 1)⟩ σ2 H2) (hd : ∀ σ H, Pv xs.length σ H → A σ H) : kFor g tb ⟨A, Bt, Cb, Dc⟩ σ (Itl K a) H :=
  for_list (K := K) (xs := xs) (g := g) (tb := tb) (D := ⟨A, Bt, Cb, Dc⟩) Pv h0 (fun i σ H hi p => SqL.of (hl i σ H hi p)) hs hd
/-! comprehensions -/
def kLc (g : TG) (tt : TT) (te : TE) (vs : List Nat) (σ : L2.St) (Q : VK) : It → Hp → Prop := fun J H1 => ∀ D, H1 D = none → ∃ W : Nat → Nat → Hp → Prop, (∃ m, W 0 m (upd H1 D (.lst []))) ∧ ∀ i m H, W i m H →
  (J.stop i H ∧ Q (.ref D) H) ∨ (J.go i H ∧ ∃ Nx : Hp → Prop, (∀ H', Nx H' → ∃ m', m' < m ∧ W (i + 1) m' H') ∧ ∀ x H', J.yld i H x H' → g x (wipe σ vs) H' fun σ2 H2 => wipe σ2 vs = wipe σ vs ∧ tt σ2 H2 fun b H3 =>
    if b = true then te σ2 H3 fun y H4 => ∃ acc, H4 D = some (.lst acc) ∧ acc.length < sizeLine ∧ Nx (upd H4 D (.lst (acc ++ [y]))) else Nx H3)
theorem s_lc {wi : TI} {g : TG} {tt : TT} {te : TE} {vs : List Nat} (h : wi σ H (kLc g tt te vs σ Q)) : tLc wi g tt te vs σ H Q := h
def kApp (D : Addr) (Pn : Hp → Prop) : VK := fun y H4 => ∃ acc, H4 D = some (.lst acc) ∧ acc.length < sizeLine ∧ Pn (upd H4 D (.lst (acc ++ [y])))
theorem s_app {D : Addr} {Pn : Hp → Prop} {acc : List V} {y : V} (hC : Ctx K B H L I) (m : H D = some (.lst acc)) (z : acc.length < 100000) (u : Up D (.lst (acc ++ [y])) L L') (k : ∀ H1, Ctx K B H1 L' I → Pn H1) : kApp D Pn y H :=
  ⟨acc, m, Nat.lt_of_lt_of_le z (by rw [sizeLine_eq]; omega), k _ (hC.put u rfl)⟩
theorem lc_lst {a : Addr} {xs : List V} {g : TG} {te : TE} {vs : List Nat} (hC : Ctx K B H L I) (Pv : Addr → Nat → Hp → Prop) (h0 : ∀ D H1, Ctx K B H1 ((D, .lst []) :: L) I → Pv D 0 H1) (hl : ∀ i D H, i ≤ xs.length → Pv D i H → H a = some (.lst xs))
    (hs : ∀ i x D H, xs[i]? = some x → Pv D i H → g x (wipe σ vs) H fun σ2 H2 => wipe σ2 vs = wipe σ vs ∧ te σ2 H2 (kApp D (Pv D (i + 1))))
    (hd : ∀ D H, Pv D xs.length H → Q (.ref D) H) : kLc g tYes te vs σ Q (Itl K a) H := fun D hD =>
  lc_list (K := K) (xs := xs) (g := g) (tt := tYes) (te := te) (vs := vs) (σ := σ) (H1 := H) (D := D) (Qd := fun H => Q (.ref D) H) (fun i H => Pv D i H) (h0 D _ (hC.newM hD rfl)) (fun i H hi p => SqL.of (hl i D H hi p))
    (fun i x H hx p => by
      have e : (fun σ2 H2 => wipe σ2 vs = wipe σ vs ∧ tYes σ2 H2 fun b H3 => if b = true then te σ2 H3 fun y H4 => ∃ acc, H4 D = some (.lst acc) ∧ acc.length < sizeLine ∧ Pv D (i + 1) (upd H4 D (.lst (acc ++ [y]))) else Pv D (i + 1) H3)
          = fun σ2 H2 => wipe σ2 vs = wipe σ vs ∧ te σ2 H2 (kApp D (Pv D (i + 1))) := by
        funext σ2 H2
        unfold tYes
        simp only [if_true]
        rfl
      rw [e]
      exact hs i x D H hx p) (fun H p => hd D H p)
/-! dict displays -/
def kDisp (p : Addr) (Q : VK) : List (V × V) → Hp → Prop := fun ps H2 => H2 p = some (.dK []) ∧ ∃ kvs : List (Key × V), ps = kvs.map (fun kv => (kV kv.1, kv.2)) ∧ kvs.length ≤ 15 ∧ Q (.ref p) (upd H2 p (.dK (mergeK [] kvs)))
theorem s_disp {trs : List (TE × TE)} (hC : Ctx K B H L I) (k : ∀ p H1, Ctx K B H1 ((p, .dK []) :: L) I → tPairs trs σ H1 (kDisp p Q)) : tDisp trs σ H Q := fun p hp => k p _ (hC.newM hp rfl)
theorem s_pair {tk tv : TE} {r : List (TE × TE)} {Qp : List (V × V) → Hp → Prop} (h : tk σ H fun x H1 => tv σ H1 fun y H2 => tPairs r σ H2 fun ps H3 => Qp ((x, y) :: ps) H3) : tPairs ((tk, tv) :: r) σ H Qp := h
theorem s_pnil {Qp : List (V × V) → Hp → Prop} (h : Qp [] H) : tPairs [] σ H Qp := h
/-- pairs of values as entries -/
inductive ToK : List (V × V) → List (Key × V) → Prop
  | nil : ToK [] []
  | str {s : Str} {v : V} {r : List (V × V)} {q : List (Key × V)} : ToK r q → ToK ((.str s, v) :: r) ((Sum.inr s, v) :: q)
  | int {s : Int} {v : V} {r : List (V × V)} {q : List (Key × V)} : ToK r q → ToK ((.int s, v) :: r) ((Sum.inl s, v) :: q)
theorem ToK.ok : ∀ {r q}, ToK r q → r = q.map (fun kv => (kV kv.1, kv.2))
  | _, _, .nil => rfl
  | _, _, .str h => by rw [List.map_cons, ← h.ok]; rfl
  | _, _, .int h => by rw [List.map_cons, ← h.ok]; rfl
/-- keys all different -/
inductive RDis : List (Key × V) → List (Key × V) → Prop
  | nil {acc : List (Key × V)} : RDis acc []
  | cons {acc r : List (Key × V)} {k : Key} {v : V} : DNo k acc → RDis ((k, v) :: acc) r → RDis acc ((k, v) :: r)
theorem DNo.any {k : Key} : ∀ {r : List (Key × V)}, DNo k r → ∀ x, x ∈ r → ¬ x.1 = k
  | _, .nil, x, h => by cases h
  | _, .there n t, x, h => by
    rcases List.mem_cons.mp h with e | h
    · rw [e]; exact n
    · exact t.any x h
theorem RDis.ok : ∀ {acc r : List (Key × V)}, RDis acc r → mergeK acc.reverse r = acc.reverse ++ r
  | acc, _, .nil => by rw [List.append_nil]; rfl
  | acc, (k, v) :: r, .cons n t => by
    have e : putK acc.reverse k v = acc.reverse ++ [(k, v)] := by
      unfold putK
      rw [if_neg]
      intro h
      obtain ⟨x, hx, hk⟩ := List.any_eq_true.mp h
      exact n.any x (List.mem_reverse.mp hx) (of_decide_eq_true hk)
    have ih := t.ok
    rw [List.reverse_cons] at ih
    show mergeK (putK acc.reverse k v) r = _
    rw [e, ih, List.append_assoc]
    rfl
theorem s_dispV {p : Addr} {ps : List (V × V)} {kvs : List (Key × V)} (hC : Ctx K B H L I) (m : H p = some (.dK [])) (h : ToK ps kvs) (n : RDis [] kvs) (z : kvs.length ≤ 15) (u : Up p (.dK kvs) L L') (k : ∀ H1, Ctx K B H1 L' I → Q (.ref p) H1) : kDisp p Q ps H :=
  ⟨m, kvs, h.ok, z, by
    have e := n.ok
    rw [List.reverse_nil, List.nil_append] at e
    rw [e]
    exact k _ (hC.put u rfl)⟩
/-! lambdas handed to the teller -/
def kTold (K : PySem.W.Frag) (C : Addr) (ret : Str) (Q : VK) : XK := fun cls _ H' => ∃ b, PySem.W.exmOne K cls (.ref C) = some b ∧ (b = true → Q (.str ret) H') ∧ (b = false → False)
theorem s_toldE {C D : Addr} {ret : Str} {d : Option Addr} (e : PySem.W.exmOne K (.ref D) (.ref C) = some true) (h : Q (.str ret) H) : kTold K C ret Q (.ref D) d H := ⟨true, e, fun _ => h, fun q => by cases q⟩
/-! a list of ints, an index not known -/
inductive AllI : List V → List Int → Prop
  | nil : AllI [] []
  | cons {i : Int} {r : List V} {q : List Int} : AllI r q → AllI (.int i :: r) (i :: q)
theorem AllI.get : ∀ {r : List V} {q : List Int} {j : Nat}, AllI r q → j < r.length → ∃ i : Int, r[j]? = some (.int i) ∧ i ∈ q
  | _, _, 0, .cons h, _ => ⟨_, rfl, List.mem_cons_self⟩
  | _, _, j + 1, .cons h, z => by
    obtain ⟨i, e, m⟩ := h.get (j := j) (by rw [List.length_cons] at z; omega)
    exact ⟨i, by rw [List.getElem?_cons_succ]; exact e, List.mem_cons_of_mem _ m⟩
theorem s_ixAny {l : Addr} {vs : List V} {zs : List Int} {r : Int} (m : H l = some (.lst vs)) (h : AllI vs zs) (h0 : 0 ≤ r) (h1 : r < vs.length) (q : ∀ z : Int, z ∈ zs → Q (.int z) H) : rIxU K (.ref l) (.int r) H Q := by
  obtain ⟨i, e, w⟩ := h.get (j := r.toNat) (by omega)
  have e2 := atI_nat e
  rw [Int.toNat_of_nonneg h0] at e2
  exact s_ixL m e2 (q i w)
/-! more of values -/
theorem s_eqIT {i j : Int} (p : i = j) (h : Q (.bl true) H) : rEqU K (.int i) (.int j) H Q := s_eqI (by rw [decide_eq_true p]; exact h)
theorem s_eqIF {i j : Int} (p : ¬ i = j) (h : Q (.bl false) H) : rEqU K (.int i) (.int j) H Q := s_eqI (by rw [decide_eq_false p]; exact h)
theorem s_int1T (h : Q (.int 1) H) : rInt1 [.bl true] H Q := .inr ⟨true, rfl, h⟩
theorem s_int1F (h : Q (.int 0) H) : rInt1 [.bl false] H Q := .inr ⟨false, rfl, h⟩
theorem s_eqSN {j : Str} (h : Q (.bl false) H) : rEqU K (.str j) .non H Q := .inl ⟨rfl, h⟩
theorem s_eqST {i j : Str} (p : i = j) (h : Q (.bl true) H) : rEqU K (.str i) (.str j) H Q := s_eqS (by rw [decide_eq_true p]; exact h)
theorem s_neIF {i : Int} (h : Q (.bl false) H) : rNeU K (.int i) (.int i) H Q := s_neI (by rw [decide_eq_true rfl]; exact h)
theorem s_neBs {b : Bool} (h : Q (.bl false) H) : rNeU K (.bl b) (.bl b) H Q := s_neB (by rw [show (b != b) = false from by cases b <;> rfl]; exact h)
theorem s_neTF (h : Q (.bl true) H) : rNeU K (.bl true) (.bl false) H Q := s_neB h
theorem s_neFT (h : Q (.bl true) H) : rNeU K (.bl false) (.bl true) H Q := s_neB h
theorem s_eqBs {b : Bool} (h : Q (.bl true) H) : rEqU K (.bl b) (.bl b) H Q := s_eqB (by rw [show (b == b) = true from by cases b <;> rfl]; exact h)
theorem s_eqTF (h : Q (.bl false) H) : rEqU K (.bl true) (.bl false) H Q := s_eqB h
theorem s_eqFT (h : Q (.bl false) H) : rEqU K (.bl false) (.bl true) H Q := s_eqB h
/-! a block of the layout that another hand keeps -/
inductive Pull (O : List (Addr × HO)) : List (Addr × HO) → List (Addr × HO) → Prop
  | here {F : List (Addr × HO)} : Pull O (F ++ O) F
  | there {x : Addr × HO} {L F : List (Addr × HO)} : Pull O L F → Pull O (x :: L) (x :: F)
theorem Pull.perm {O : List (Addr × HO)} : ∀ {L F}, Pull O L F → L.Perm (O ++ F)
  | _, _, .here => List.perm_append_comm
  | _, _, .there p => (List.Perm.cons _ p.perm).trans List.perm_middle.symm
/-- some of the layout, in another order -/
inductive Sel : List (Addr × HO) → List (Addr × HO) → Prop
  | refl {L : List (Addr × HO)} : Sel L L
  | cons {x : Addr × HO} {L L' T : List (Addr × HO)} : Pick x L L' → Sel L' T → Sel L (x :: T)
  | skip {x : Addr × HO} {L T : List (Addr × HO)} : Sel L T → Sel (x :: L) T
theorem Sel.perm : ∀ {L T}, Sel L T → ∃ J, L.Perm (T ++ J)
  | L, _, .refl => ⟨[], by rw [List.append_nil]⟩
  | _, _, .cons p s => by
    obtain ⟨J, h⟩ := s.perm
    exact ⟨J, p.perm.trans (List.Perm.cons _ h)⟩
  | _, _, .skip s => by
    obtain ⟨J, h⟩ := s.perm
    exact ⟨_ :: J, (List.Perm.cons _ h).trans List.perm_middle.symm⟩
theorem Sel.lay {T : List (Addr × HO)} (s : Sel L T) (y : Lay H L) : Lay H T := by
  obtain ⟨J, h⟩ := s.perm
  have y := y.perm h
  exact ⟨(List.nodup_append.mp (by rw [← List.map_append]; exact y.nd)).1, fun p hp => y.at_ p (List.mem_append_left _ hp)⟩
end
end Ph
namespace Ph
open PySem PySem.Spec PyProof.Rows L2 LamX
/-- at f stands the lambda of these words -/
def LamC (f c : Addr) (q : Str) (ps : Arguments) (body : Expr) (sc : Scope) (cl : List (Str × Addr)) : HO := .ext fun h => ∃ pm ctv : Value, h.get? f = some (PySem.W.kla_obj "<lambda>" q ps body sc cl pm c ctv)
abbrev LamO (f c : Addr) (q : Str) (ps : Arguments) (body : Expr) (sc : Scope) : HO := LamC f c q ps body sc []
/-- all but the object at P stays -/
def ExtP (P : Addr) (H H' : Hp) : Prop := ∀ b o, b ≠ P → H b = some o → H' b = some o
theorem ExtP.refl (P : Addr) (H : Hp) : ExtP P H H := fun _ _ _ h => h
theorem ExtP.trans {P : Addr} {H H1 H2 : Hp} (a : ExtP P H H1) (b : ExtP P H1 H2) : ExtP P H H2 := fun c o n h => b c o n (a c o n h)
theorem ExtP.of {P : Addr} {H H' : Hp} (e : ∀ b o, H b = some o → H' b = some o) : ExtP P H H' := fun b o _ h => e b o h
structure LamD where
  ps : Arguments
  body : Expr
  sc : Scope
/-- only globals -/
def noOwn (sc : Scope) : Bool := decide (sc.kind = .function) && !sc.isCoroutine && !sc.isGenerator && sc.names.all fun y => !decide (y.2 = .local) && !decide (y.2 = .cell) && !decide (y.2 = .free)
structure NoOwn (sc : Scope) : Prop where
  kind : sc.kind = .function
  co : sc.isCoroutine = false
  gen : sc.isGenerator = false
  own : ∀ y, y ∈ sc.names → y.2 ≠ .local ∧ y.2 ≠ .cell ∧ y.2 ≠ .free
theorem noOwn_by {sc : Scope} (h : noOwn sc = true) : NoOwn sc := by
  unfold noOwn at h
  simp only [Bool.and_eq_true, Bool.not_eq_true', decide_eq_true_eq, decide_eq_false_iff_not, List.all_eq_true] at h
  obtain ⟨⟨⟨a, b⟩, c⟩, d⟩ := h
  exact ⟨a, b, c, fun y hy => ⟨(d y hy).1.1, (d y hy).1.2, (d y hy).2⟩⟩
theorem clo_nil {cells : List (Str × Addr)} : ∀ {names : List (Str × NameKind)}, (∀ y, y ∈ names → y.2 ≠ .free) → cloFrom cells names [] = []
  | [], _ => rfl
  | (n, k) :: r, h => by
    unfold cloFrom
    have e : (k == NameKind.free) = false := by
      have := h (n, k) List.mem_cons_self
      simpa using this
    rw [if_neg (by rw [e]; decide)]
    exact clo_nil fun y hy => h y (List.mem_cons_of_mem _ hy)
section
variable {X : Cx} {pins : List (Addr × Obj)} {σ : L2.St} {H : Hp} {s : Shared}
theorem inv_lamC {q : Str} {ps : Arguments} {body : Expr} {sc : Scope} {cl : List (Str × Addr)} {c : Addr} {pm ctv : Value} {t' : Nat} (I : Inv X pins σ H s) :
    Inv X pins σ (upd H s.heap.objs.size (LamC s.heap.objs.size c q ps body sc cl)) { s with heap := s.heap.push (PySem.W.kla_obj "<lambda>" q ps body sc cl pm c ctv), toks := t' } := by
  refine I.laid (a := s.heap.objs.size) (fun b u e => Heap.get?_push_of_some _ e) (Nat.le_refl _) ?_
  have e : (s.heap.push (PySem.W.kla_obj "<lambda>" q ps body sc cl pm c ctv)).get? s.heap.objs.size = some (PySem.W.kla_obj "<lambda>" q ps body sc cl pm c ctv) := Heap.get?_push_size _ rfl
  exact ⟨⟨pm, ctv, e⟩, ⟨_, e⟩, fun h1 h2 ⟨p, t, z⟩ st => ⟨p, t, st _ z⟩⟩
theorem lamC_make {c P : Addr} {ps : Arguments} {body : Expr} {sc : Scope} {pos : Pos} {E Q : Value → Shared → Prop} (I : Inv X pins σ H s) (TB : LamX.TabB X.base X.mg c P) (hcode : X.env.code = .ref c)
    (hT : TabS H P (X.env.qual ++ "<lambda>")) (hdef : defaultsOf ps X.env = ([], [])) (hfree : ∀ y ∈ sc.names, y.2 = .free → ∃ c, X.env.cells.lookup y.1 = some c)
    (h : ∀ (f c' : Addr) (H1 : Hp) (s' : Shared), Inv X pins σ H1 s' → ExtP P H H1 → TabS H1 P (X.env.qual ++ "<lambda>") → H1 f = some (LamC f c' (X.env.qual ++ "<lambda>") ps body sc (cloFrom X.env.cells sc.names [])) → H1 c' = some (CodeO c' (X.env.qual ++ "<lambda>")) → Q (.ref f) s') :
    wpAny (model X.prog X.w) X.A (eval (.Lambda ps body sc pos) X.env) Q E s := by
  obtain ⟨tb, hP, ht, ha⟩ := hT
  refine PySem.W.kla_eval hdef ?_
  have bP : s.heap.BuiltinsAt X.mg P := TB.bm.keeps I.bk
  have hP' : s.heap.get? P = some { cls := .none, data := .fields tb } := I.hok P _ hP
  cases hc : codeAmong pos tb.toList with
  | none =>
    refine PySem.W.kla_makeFunction (mg := X.mg) (c := c) (P := P) (ps := tb) (closure_ok hfree) I.ok.glob (I.mod.glob.keeps I.bk) hcode (TB.code.keeps I.bk) hP' ht hc TB.gP bP fun c' ctv h' tk hx hge hlt hrec htb => ?_
    obtain ⟨c2, oc, vs, t, e2, hoc, hd, hv⟩ := hrec
    cases e2
    have nC : H c' = none := I.hok.fresh hge
    have I1 := inv_table (t' := tk) (more := #[rawInt pos.line, rawInt pos.col, .ref c']) (h' := h') I hP (fun b o hb e => hx b o hb e) htb hge ⟨oc, vs, t, hoc, hd, hv⟩
    have hE : ExtP P H (upd (upd H P (.tbl (tb ++ #[rawInt pos.line, rawInt pos.col, .ref c']))) c' (CodeO c' (X.env.qual ++ "<lambda>"))) := fun b o n e => by
      rw [upd_ne (ne_of_none e nC), upd_ne n]
      exact e
    have eL : (tb ++ #[rawInt pos.line, rawInt pos.col, .ref c']).toList = tb.toList ++ [rawInt pos.line, rawInt pos.col, .ref c'] := by simp
    have nPo : ∀ {b : Addr} {q : Str}, H b = some (CodeO b q) → b ≠ P := fun e z => by
      rw [z, hP] at e
      cases e
    have T1 : TabS (upd (upd H P (.tbl (tb ++ #[rawInt pos.line, rawInt pos.col, .ref c']))) c' (CodeO c' (X.env.qual ++ "<lambda>"))) P (X.env.qual ++ "<lambda>") := by
      refine ⟨_, by rw [upd_ne (ne_of_none hP nC), upd_same], by rw [eL]; exact PySem.TriplesOk_snoc _ _ _ _ ht, fun p' cv hcv => ?_⟩
      rw [eL] at hcv
      rcases among_app _ ht hcv with z | z
      · obtain ⟨c0, e1, e2⟩ := ha p' cv z
        exact ⟨c0, e1, hE _ _ (nPo e2) e2⟩
      · exact ⟨c', z, upd_same⟩
    have nF := I1.hok.fresh (Nat.le_refl _)
    have I2 := inv_lamC (cl := cloFrom X.env.cells sc.names []) (q := X.env.qual ++ "<lambda>") (ps := ps) (body := body) (sc := sc) (c := c') (pm := (X.mg "__name__").getD .none) (ctv := ctv) (t' := tk) I1
    have grow : ∀ b o, upd (upd H P (.tbl (tb ++ #[rawInt pos.line, rawInt pos.col, .ref c']))) c' (CodeO c' (X.env.qual ++ "<lambda>")) b = some o → upd (upd (upd H P (.tbl (tb ++ #[rawInt pos.line, rawInt pos.col, .ref c']))) c' (CodeO c' (X.env.qual ++ "<lambda>"))) h'.objs.size (LamC h'.objs.size c' (X.env.qual ++ "<lambda>") ps body sc (cloFrom X.env.cells sc.names [])) b = some o := fun b o e => (upd_ne (ne_of_none e nF)).trans e
    exact h h'.objs.size c' _ _ I2 (hE.trans (ExtP.of grow)) (T1.ext grow) upd_same (grow _ _ upd_same)
  | some cv =>
    obtain ⟨c', e, hco⟩ := ha pos cv hc
    subst e
    refine PySem.W.kla_makeFunctionHit (mg := X.mg) (c := c) (P := P) (ps := tb) (closure_ok hfree) I.ok.glob (I.mod.glob.keeps I.bk) hcode (TB.code.keeps I.bk) hP' ht hc bP fun ctv h' tk hx hsz => ?_
    have I1 : Inv X pins σ H { s with heap := h', toks := tk } := I.kept hx
    have nF : H h'.objs.size = none := I1.hok.fresh (Nat.le_refl _)
    have I2 := inv_lamC (cl := cloFrom X.env.cells sc.names []) (q := X.env.qual ++ "<lambda>") (ps := ps) (body := body) (sc := sc) (c := c') (pm := (X.mg "__name__").getD .none) (ctv := ctv) (t' := tk) I1
    have grow : ∀ b o, H b = some o → upd H h'.objs.size (LamC h'.objs.size c' (X.env.qual ++ "<lambda>") ps body sc (cloFrom X.env.cells sc.names [])) b = some o := fun b o e => (upd_ne (ne_of_none e nF)).trans e
    exact h h'.objs.size c' _ _ I2 (ExtP.of grow) (TabS.ext ⟨tb, hP, ht, ha⟩ grow) upd_same (grow _ _ hco)
end
/-- the lambda as a value -/
def tLamV (P : Addr) (q : Str) (d : LamD) : TE := fun _ H Q => TabS H P q ∧ ∀ (f c : Addr) (H1 : Hp), ExtP P H H1 → TabS H1 P q → H1 f = some (LamO f c q d.ps d.body d.sc) → H1 c = some (CodeO c q) → Q (.ref f) H1
theorem pe_lamV {X : Cx} {c P : Addr} {d : LamD} {pos : Pos} (TB : LamX.TabB X.base X.mg c P) (hcode : X.env.code = .ref c)
    (hdef : defaultsOf d.ps X.env = ([], [])) (hno : noOwn d.sc = true) : PE X (.Lambda d.ps d.body d.sc pos) (tLamV P (X.env.qual ++ "<lambda>") d) := by
  refine ⟨fun pins s σ H Q I h => ?_⟩
  obtain ⟨hT, h⟩ := h
  have hno := noOwn_by hno
  have ecl : cloFrom X.env.cells d.sc.names [] = [] := clo_nil fun y hy => (hno.own y hy).2.2
  exact lamC_make I TB hcode hT hdef (fun y hy e => absurd e (hno.own y hy).2.2) fun f c' H1 s' I1 e t1 h1 h2 => ⟨.ref f, H1, I1, rfl, h f c' H1 e t1 (by rw [ecl] at h1; exact h1) h2⟩
/-- where the lambda's body runs -/
def lamCx0 (X : Cx) (q : Str) (A : Around) (outer : List Env) (s : Shared) (H : Hp) (E : XK) (sc : Scope) (f c : Addr) : Cx where
  prog := X.prog
  w := X.w
  K := X.K
  mg := X.mg
  base := X.base
  A := A.deeper (PySem.W.envX q sc s.heap.objs.size f (.ref c) [])
  N := X.N
  s_0 := s
  H_0 := H
  env := PySem.W.envX q sc s.heap.objs.size f (.ref c) []
  outer := outer
  stack := PySem.W.envX q sc s.heap.objs.size f (.ref c) [] :: outer
  ex := []
  fn := fun _ => false
  calm := true
  pn := []
  xe := fun e s' => wpAny (model X.prog X.w) (A.deeper (PySem.W.envX q sc s.heap.objs.size f (.ref c) [])) (leaving (PySem.W.envX q sc s.heap.objs.size f (.ref c) []) e) (fun _ s'' => L2.CX X.prog X.w outer H s E e s'') (fun e' s'' => L2.CX X.prog X.w outer H s E e' s'') s'
theorem lam_start0 {X : Cx} {q : Str} {HZ : Hp} {s1 : Shared} {A : Around} {outer : List Env} {E : XK} {sc : Scope} {f c : Addr} {h₁ : Heap} {tk : Nat} (L : NoOwn sc) (e0 : Env0 X.prog X.w X.K X.mg X.base A outer s1 HZ) (hd : A.handled = none)
    (hns : h₁.Ns s1.heap.objs.size fun y => ([] : List (Str × Value)).reverse.lookup y) (kp : ∀ b o, s1.heap.get? b = some o → h₁.get? b = some o) :
    Inv (lamCx0 X q A outer s1 HZ E sc f c) [] (List.replicate X.N.length none) HZ { s1 with heap := h₁, toks := tk } := by
  have noA : ∀ b : Addr, b ∉ (lamCx0 X q A outer s1 HZ E sc f c).ex := fun b z => absurd (show b ∈ ([] : List Addr) from z) (by simp)
  refine ⟨⟨e0.mod, L.kind, rfl, rfl, Nat.le_refl _, fun y z c e1 e2 => ?_, fun y hy => ?_, fun y c z _ => ?_, fun _ => hd, Around.frames_deeper e0.frames, .inr ⟨rfl, rfl⟩, fun b z => absurd z (noA b), e0.bs, e0.bsz, fun b _ _ => noA b,
      fun b z => absurd z (noA b), e0.funs, e0.frf⟩,
    rfl, e0.bare, Un.kept kp, ⟨_, hns, fun i y v e1 e2 e3 => ?_⟩, fun y c e => ?_, e0.hok.fresh (Nat.le_refl _), fun y c e => ?_, fun q hq => absurd (show q ∈ ([] : List (Addr × Obj)) ++ [] from hq) (by simp), e0.hok.kept kp, List.length_replicate⟩
  · cases (show List.lookup y ([] : List (Str × Addr)) = some c from e1)
  · have hy : sc.names.lookup y = some .cell ∨ sc.names.lookup y = some .free := hy
    rcases hy with hy | hy
    · exact absurd rfl (L.own _ (PySem.mem_of_lookup hy)).2.1
    · exact absurd rfl (L.own _ (PySem.mem_of_lookup hy)).2.2
  · cases (show false = true from z)
  · have e3 : Vis sc y := e3
    rcases e3 with k | k | k
    · exact absurd rfl (L.own _ (PySem.mem_of_lookup k)).1
    · exact absurd rfl (L.own _ (PySem.mem_of_lookup k)).2.1
    · exact absurd rfl (L.own _ (PySem.mem_of_lookup k)).2.2
  · cases (show List.lookup y ([] : List (Str × Addr)) = some c from e)
  · cases (show List.lookup y ([] : List (Str × Addr)) = some c from e)
theorem pe_act0 {X : Cx} {H : Hp} {s : Shared} {CXg : CXT} {Eg : XK} {Ng : List Str} {q qg : Str} {sg : Scope} {g f c' : Addr} {cdg : Value} {ps : Arguments} {body : Expr} {sc : Scope} {k i : Nat} {a : Str} {pn : List (Addr × Obj)} {xe : Value → Shared → Prop} {W : WX} {E : XK} {tb : TE} {p1 p2 : Pos}
    (L : NoOwn sc) (hbind : ∀ pm ctv : Value, bindArgs (PySem.W.kla_fn "<lambda>" q ps body sc [] pm (.ref c') ctv) ⟨[], []⟩ = pure [])
    (tk : Takes ((cxOf CXg X.prog X.w X.K X.mg X.base Ng qg sg g cdg X.A X.stack s H Eg).tr pn xe) W) (hW : ∀ cls d σ' H', E cls d H' → W cls d σ' H') (hr : Room (k + 1) (X.A.deeper (envOfC qg sg s.heap.objs.size g cdg)))
    (hbody : ∀ (A : Around) (outer : List Env) (s : Shared) (H : Hp), Room k (A.deeper (PySem.W.envX q sc s.heap.objs.size f (.ref c') [])) → PE (lamCx0 X q A outer s H E sc f c') body tb)
    (hN : Ng[i]? = some a) (hv : Vis sg a) (hd : (a == ("__debug__" : Str)) = false := by decide) (hcd : (a == ("__classdict__" : Str)) = false := by decide) :
    PE ((cxOf CXg X.prog X.w X.K X.mg X.base Ng qg sg g cdg X.A X.stack s H Eg).tr pn xe) (.Call (.Name a p1) [] [] p2)
      (fun σZ HZ Q => σZ[i]? = some (some (.ref f)) ∧ HZ c' = some (CodeO c' q) ∧ HZ f = some (LamO f c' q ps body sc) ∧ tb (List.replicate X.N.length none) HZ Q) := by
  refine ⟨fun pinsZ sZ σZ HZ Q IZ h => ?_⟩
  obtain ⟨hs, hc, hf, ht⟩ := h
  refine wpAny_Call_Name_kw (thn ((pe_var (pos := p1) (i := i) hN hv hd hcd).run pinsZ sZ σZ HZ (fun v H1 => v = .ref f ∧ H1 = HZ) IZ ⟨.ref f, hs, rfl, rfl⟩) fun u s1 ⟨v, H1, I1, r1, q1⟩ => ?_)
  obtain ⟨ev, eH⟩ := q1
  subst ev
  rw [eH] at I1
  obtain rfl : u = Value.ref f := r1
  obtain ⟨⟨pm, ctv, of1⟩, _, _⟩ := I1.hok f _ hf
  refine PySem.W.callWith_F0 ⟨_, _, _, _, of1⟩ ?_
  obtain ⟨⟨oc, vs, t, hoc, hdc, hvc⟩, _, _⟩ := I1.hok c' _ hc
  have rc : codeAny (model X.prog X.w) (X.A.deeper (envOfC qg sg s.heap.objs.size g cdg)) (.call (.ref f) ⟨[], []⟩) (CR (L2.CX X.prog X.w) (envOfC qg sg s.heap.objs.size g cdg :: X.stack) X.prog X.w HZ s1 Q E) s1 := by
    refine PySem.W.kla_callFunE hr.depth of1 rfl L.co L.gen rfl ⟨c', oc, vs, t, rfl, hoc, hdc, hvc⟩ ?_
    rw [hbind]
    refine wpAny_pure (wpAny_newFunctionEnv (fun y hy => (L.own y hy).2.1) (fun y hy => absurd hy (by simp)) (fun h₁ hns hsb => ⟨I1.nolimit.fresh _ hsb, ?_⟩) L.kind)
    show codeAny _ _ (.expr body (PySem.W.envX q sc s1.heap.objs.size f (.ref c') [])) _ _
    have kp : ∀ b o, s1.heap.get? b = some o → h₁.get? b = some o := fun b o e => hsb.extBut b o (Nat.ne_of_lt (Heap.lt_size e)) (Heap.get?_push_of_some _ e)
    have J : Inv (lamCx0 X q (X.A.deeper (envOfC qg sg s.heap.objs.size g cdg)) (envOfC qg sg s.heap.objs.size g cdg :: X.stack) s1 HZ E sc f c') [] (List.replicate X.N.length none) HZ { s1 with heap := h₁, toks := s1.toks + ([] : List (Str × Value)).length } :=
      lam_start0 L I1.env0 hr.hd hns kp
    refine PySem.W.kla_codeExpr (wpAny_mono ((hbody _ _ s1 HZ (hr.deeper _)).run [] _ _ HZ Q J ht) (fun v s' hq => ?_) fun e s' hq => hq)
    obtain ⟨w', H', J', rv, q⟩ := hq
    exact ⟨w', H', J'.os, J'.bare, J'.base, J'.hok, rv, q⟩
  have hx : Passes (L2.CX X.prog X.w) ((cxOf CXg X.prog X.w X.K X.mg X.base Ng qg sg g cdg X.A X.stack s H Eg).tr pn xe) E := passes_call tk hW
  refine wpAny_call (codeAny_mono rc fun r s' hq => ?_)
  cases r with
  | error e => exact hx pinsZ σZ HZ s1 e s' I1 hq
  | ok fl =>
    cases fl with
    | ret u => exact I1.after hq
    | next => exact False.elim hq
    | brk => exact False.elim hq
    | cont => exact False.elim hq
/-- the i-th slot holds one of the lambdas of fam: it is told -/
def tToldV (K : PySem.W.Frag) (CS : Addr) (ret q : Str) (n i : Nat) (fam : List LamD) (t : Nat → XK → TE) : TE := fun σ H Q => ∃ (f c : Addr) (k : Nat) (d : LamD), σ[i]? = some (some (.ref f)) ∧ fam[k]? = some d ∧
  H f = some (LamO f c q d.ps d.body d.sc) ∧ H c = some (CodeO c q) ∧ t k (kTold K CS ret Q) (List.replicate n none) H Q
theorem pe_toldV {X : Cx} {x a y q ret : Str} {g CS : Addr} {k i : Nat} {pg : Arguments} {bg : List Stmt} {sg : Scope} {dV kV doc pm cdv ct oc : Value} {an od : Option Addr} {osl : Array (Option Value)} {Ng : List Str}
    {fam : List LamD} {t : Nat → XK → TE} {p py pos : Pos} (hg : Gl X x) (hm : X.mg x = some (.ref g)) (hk : PySem.W.keepIn X.K (.ref g) = true)
    (lk : X.K.lookup g = some ⟨oc, od, .func (PySem.W.fnOf x x pg bg sg dV kV doc pm an cdv ct), osl⟩) (hcg : PySem.W.codeIn X.K cdv x = true) (hb : L2.Binds X.K (PySem.W.fnOf x x pg bg sg dV kV doc pm an cdv ct) [a] []) (Sg : FnScope Ng [a] sg) (hNg : Ng[0]? = some a) (hva : Vis sg a)
    (hG : GivesTo X Ng x sg g cdv bg a q (TTold X.K CS ret)) (hi : X.N[i]? = some y) (hv : Vis X.env.scope y) (hr : Room (k + 2) X.A)
    (hno : ∀ (j : Nat) (d : LamD), fam[j]? = some d → noOwn d.sc = true) (hbind : ∀ (j : Nat) (d : LamD), fam[j]? = some d → ∀ (c' : Addr) (pm ctv : Value), bindArgs (PySem.W.kla_fn "<lambda>" q d.ps d.body d.sc [] pm (.ref c') ctv) ⟨[], []⟩ = pure [])
    (hbody : ∀ (j : Nat) (d : LamD), fam[j]? = some d → ∀ (A : Around) (outer : List Env) (s : Shared) (H : Hp) (E : XK) (f c' : Addr), Room k (A.deeper (PySem.W.envX q d.sc s.heap.objs.size f (.ref c') [])) → PE (lamCx0 X q A outer s H E d.sc f c') d.body (t j E))
    (hdb : (x == ("__debug__" : Str)) = false := by decide) (hd : (a == ("__debug__" : Str)) = false := by decide) (hcd : (a == ("__classdict__" : Str)) = false := by decide) (hyd : (y == ("__debug__" : Str)) = false := by decide) (hyc : (y == ("__classdict__" : Str)) = false := by decide) :
    PE X (.Call (.Name x p) [.Name y py] [] pos) (tToldV X.K CS ret q X.N.length i fam t) := by
  refine ⟨fun pins s σ H Q I h => ?_⟩
  obtain ⟨f, c', j, d, hs, hj, hf, hc, ht⟩ := h
  refine wpAny_Call_Name_kw (ld_glob I hg hm ?_ hdb)
  refine PySem.W.callWith_K (h₀ := X.base) I.ok.mod.kin hk ?_ (by rfl) (by rfl)
  show wpAny _ _ (spliced ((false, eval (.Name y py) X.env) :: backTo pos (starEach [] X.env))) _ _ s
  refine Calls.spliced_cons (thn ((pe_var (pos := py) (i := i) hi hv hyd hyc).run pins s σ H (fun v H1 => v = .ref f ∧ H1 = H) I ⟨.ref f, hs, rfl, rfl⟩) fun u s' ⟨v, H1, I1, r1, q1⟩ => ?_)
  obtain ⟨ev, eH⟩ := q1
  subst ev
  rw [eH] at I1
  obtain rfl : u = Value.ref f := r1
  refine Calls.spliced_nil ⟨I1.kIn, ?_⟩
  have rc : codeAny (model X.prog X.w) X.A (.call (.ref g) ⟨[.ref f], []⟩) (CR C8.CX0 X.stack X.prog X.w H s' Q C8.E0) s' := by
    refine run_ofS (N := Ng) (ps := [a]) (us := [.ref f]) (vs := [.ref f]) lk hcg Sg hr I1.env0 (hb s' [.ref f] I1.kIn rfl) (.cons rfl .nil) rfl fun hr' => ?_
    obtain ⟨t', ht', hq'⟩ := hG f c' s' H Q (fun E H' Q' => H' f = some (LamO f c' q d.ps d.body d.sc) ∧ t j E (List.replicate X.N.length none) H' Q')
      (fun W pn xe E p1 p2 tk hW => pe_act0 (i := 0) (noOwn_by (hno j d hj)) (hbind j d hj c') tk hW hr' (fun A outer s H hr2 => hbody j d hj A outer s H E f c' hr2) hNg hva hd hcd) hc ⟨hf, ht⟩
    exact ⟨t', ht'.nox, hq'⟩
  refine wpAny_call (codeAny_mono rc fun r s2 hq => ?_)
  cases r with
  | error e => exact (show False from hq).elim
  | ok fl =>
    cases fl with
    | ret u => exact I1.after hq
    | next => exact False.elim hq
    | brk => exact False.elim hq
    | cont => exact False.elim hq
/-- a lambda handed to the teller at once -/
def tLamP (P : Addr) (q : Str) (TT : (XK → Hp → VK → Prop) → Hp → VK → Prop) (t : XK → TE) : TE := fun σ H Q => TabS H P q ∧ ∀ H1, ExtP P H H1 → TabS H1 P q → TT (fun E H' Q' => t E σ H' Q') H1 Q
theorem pe_actC {X : Cx} {pins : List (Addr × Obj)} {σ : L2.St} {H : Hp} {s : Shared} {CXg : CXT} {Eg : XK} {Ng : List Str} {qg : Str} {sg : Scope} {g f c' : Addr} {cdg : Value} {ps : Arguments} {body : Expr} {sc : Scope} {k i : Nat} {a : Str} {pn : List (Addr × Obj)} {xe : Value → Shared → Prop} {W : WX} {E : XK} {tb : TE} {p1 p2 : Pos}
    (I : Inv X pins σ H s) (L : LamS X.env.scope sc)
    (hbind : ∀ pm ctv : Value, bindArgs (PySem.W.kla_fn "<lambda>" (X.env.qual ++ "<lambda>") ps body sc (cloFrom X.env.cells sc.names []) pm (.ref c') ctv) ⟨[], []⟩ = pure [])
    (tk : Takes ((cxOf CXg X.prog X.w X.K X.mg X.base Ng qg sg g cdg X.A X.stack s H Eg).tr pn xe) W) (hW : ∀ cls d σ' H', E cls d H' → W cls d σ' H') (hr : Room (k + 1) (X.A.deeper (envOfC qg sg s.heap.objs.size g cdg)))
    (hbody : ∀ (A : Around) (outer : List Env) (s : Shared) (H : Hp), Room k (A.deeper (lamEnv X sc s.heap.objs.size f c')) → PE (lamCx X A outer s H E sc f c') body tb)
    (hN : Ng[i]? = some a) (hv : Vis sg a) (hd : (a == ("__debug__" : Str)) = false := by decide) (hcd : (a == ("__classdict__" : Str)) = false := by decide) :
    PE ((cxOf CXg X.prog X.w X.K X.mg X.base Ng qg sg g cdg X.A X.stack s H Eg).tr pn xe) (.Call (.Name a p1) [] [] p2)
      (fun σZ HZ Q => σZ[i]? = some (some (.ref f)) ∧ HZ c' = some (CodeO c' (X.env.qual ++ "<lambda>")) ∧ HZ f = some (LamC f c' (X.env.qual ++ "<lambda>") ps body sc (cloFrom X.env.cells sc.names [])) ∧ tb σ HZ Q) := by
  refine ⟨fun pinsZ sZ σZ HZ Q IZ h => ?_⟩
  obtain ⟨hs, hc, hf, ht⟩ := h
  refine wpAny_Call_Name_kw (thn ((pe_var (pos := p1) (i := i) hN hv hd hcd).run pinsZ sZ σZ HZ (fun v H1 => v = .ref f ∧ H1 = HZ) IZ ⟨.ref f, hs, rfl, rfl⟩) fun u s1 ⟨v, H1, I1, r1, q1⟩ => ?_)
  obtain ⟨ev, eH⟩ := q1
  subst ev
  rw [eH] at I1
  obtain rfl : u = Value.ref f := r1
  obtain ⟨⟨pm, ctv, of1⟩, _, _⟩ := I1.hok f _ hf
  refine PySem.W.callWith_F0 ⟨_, _, _, _, of1⟩ ?_
  obtain ⟨⟨oc, vs, t, hoc, hdc, hvc⟩, _, _⟩ := I1.hok c' _ hc
  have rc : codeAny (model X.prog X.w) (X.A.deeper (envOfC qg sg s.heap.objs.size g cdg)) (.call (.ref f) ⟨[], []⟩) (CR (L2.CX X.prog X.w) (envOfC qg sg s.heap.objs.size g cdg :: X.stack) X.prog X.w HZ s1 Q E) s1 := by
    refine PySem.W.kla_callFunE hr.depth of1 rfl L.co L.gen rfl ⟨c', oc, vs, t, rfl, hoc, hdc, hvc⟩ ?_
    rw [hbind]
    refine wpAny_pure (wpAny_newFunctionEnv (fun y hy => (L.own y hy).2) (fun y hy => absurd hy (by simp)) (fun h₁ hns hsb => ⟨I1.nolimit.fresh _ hsb, ?_⟩) L.kind)
    show codeAny _ _ (.expr body (lamEnv X sc s1.heap.objs.size f c')) _ _
    have J : Inv (lamCx X (X.A.deeper (envOfC qg sg s.heap.objs.size g cdg)) (envOfC qg sg s.heap.objs.size g cdg :: X.stack) s1 HZ E sc f c') [] σ HZ { s1 with heap := h₁, toks := s1.toks + ([] : List (Str × Value)).length } :=
      lam_start2 I L I1.env0 hr.hd I1.base hns (fun b o e => hsb.extBut b o (Nat.ne_of_lt (Heap.lt_size e)) (Heap.get?_push_of_some _ e))
    refine PySem.W.kla_codeExpr (wpAny_mono ((hbody _ _ s1 HZ (hr.deeper _)).run [] _ _ HZ Q J ht) (fun v s' hq => ?_) fun e s' hq => hq)
    obtain ⟨w', H', J', rv, q⟩ := hq
    exact ⟨w', H', J'.os, J'.bare, J'.base, J'.hok, rv, q⟩
  have hx : Passes (L2.CX X.prog X.w) ((cxOf CXg X.prog X.w X.K X.mg X.base Ng qg sg g cdg X.A X.stack s H Eg).tr pn xe) E := passes_call tk hW
  refine wpAny_call (codeAny_mono rc fun r s' hq => ?_)
  cases r with
  | error e => exact hx pinsZ σZ HZ s1 e s' I1 hq
  | ok fl =>
    cases fl with
    | ret u => exact I1.after hq
    | next => exact False.elim hq
    | brk => exact False.elim hq
    | cont => exact False.elim hq
/-- x(lambda: body), x the teller -/
theorem pe_lamP {X : Cx} {x a ret : Str} {g c P CS : Addr} {k : Nat} {pg : Arguments} {bg : List Stmt} {sg : Scope} {dV kV doc pm cdv ct oc : Value} {an od : Option Addr} {osl : Array (Option Value)} {Ng : List Str}
    {ps : Arguments} {body : Expr} {sc : Scope} {t : XK → TE} {p lpos pos : Pos} (hg : Gl X x) (hm : X.mg x = some (.ref g)) (hk : PySem.W.keepIn X.K (.ref g) = true)
    (lk : X.K.lookup g = some ⟨oc, od, .func (PySem.W.fnOf x x pg bg sg dV kV doc pm an cdv ct), osl⟩) (hcg : PySem.W.codeIn X.K cdv x = true) (hb : L2.Binds X.K (PySem.W.fnOf x x pg bg sg dV kV doc pm an cdv ct) [a] []) (Sg : FnScope Ng [a] sg) (hNg : Ng[0]? = some a) (hva : Vis sg a)
    (hG : GivesTo X Ng x sg g cdv bg a (X.env.qual ++ "<lambda>") (TTold X.K CS ret))
    (TB : LamX.TabB X.base X.mg c P) (hcode : X.env.code = .ref c) (hr : Room (k + 2) X.A) (L : LamS X.env.scope sc) (hdef : defaultsOf ps X.env = ([], []))
    (hbind : ∀ (q : Str) (cl : List (Str × Addr)) (pm cv ctv : Value), bindArgs (PySem.W.kla_fn "<lambda>" q ps body sc cl pm cv ctv) ⟨[], []⟩ = pure [])
    (hbody : ∀ (A : Around) (outer : List Env) (s : Shared) (H : Hp) (E : XK) (f c' : Addr), Room k (A.deeper (lamEnv X sc s.heap.objs.size f c')) → PE (lamCx X A outer s H E sc f c') body (t E))
    (hdb : (x == ("__debug__" : Str)) = false := by decide) (hd : (a == ("__debug__" : Str)) = false := by decide) (hcd : (a == ("__classdict__" : Str)) = false := by decide) :
    PE X (.Call (.Name x p) [.Lambda ps body sc lpos] [] pos) (tLamP P (X.env.qual ++ "<lambda>") (TTold X.K CS ret) t) := by
  refine ⟨fun pins s σ H Q I h => ?_⟩
  obtain ⟨hT, h⟩ := h
  refine wpAny_Call_Name_kw (ld_glob I hg hm ?_ hdb)
  refine PySem.W.callWith_K (h₀ := X.base) I.ok.mod.kin hk ?_ (by rfl) (by rfl)
  show wpAny _ _ (spliced ((false, eval (.Lambda ps body sc lpos) X.env) :: backTo pos (starEach [] X.env))) _ _ s
  refine Calls.spliced_cons (lamC_make I TB hcode hT hdef (L.has I.ok) fun f c' H1 s' I1 eP T1 hf hco => ?_)
  refine Calls.spliced_nil ⟨I1.kIn, ?_⟩
  have rc : codeAny (model X.prog X.w) X.A (.call (.ref g) ⟨[.ref f], []⟩) (CR C8.CX0 X.stack X.prog X.w H1 s' Q C8.E0) s' := by
    refine run_ofS (N := Ng) (ps := [a]) (us := [.ref f]) (vs := [.ref f]) lk hcg Sg hr I1.env0 (hb s' [.ref f] I1.kIn rfl) (.cons rfl .nil) rfl fun hr' => ?_
    obtain ⟨t', ht', hq'⟩ := hG f c' s' H1 Q (fun E H' Q' => H' f = some (LamC f c' (X.env.qual ++ "<lambda>") ps body sc (cloFrom X.env.cells sc.names [])) ∧ t E σ H' Q')
      (fun W pn xe E p1 p2 tk hW => pe_actC (i := 0) I1 L (hbind _ _ · _ ·) tk hW hr' (fun A outer s H hr2 => hbody A outer s H E f c' hr2) hNg hva hd hcd) hco ⟨hf, h H1 eP T1⟩
    exact ⟨t', ht'.nox, hq'⟩
  refine wpAny_call (codeAny_mono rc fun r s2 hq => ?_)
  cases r with
  | error e => exact (show False from hq).elim
  | ok fl =>
    cases fl with
    | ret u => exact I1.after hq
    | next => exact False.elim hq
    | brk => exact False.elim hq
    | cont => exact False.elim hq
/-! ### the steps -/
theorem TabOK.tabS {q : Str} {tb : Array Value} {H : Hp} {P : Addr} (h : TabOK q tb H) (e : H P = some (.tbl tb)) : TabS H P q := ⟨tb, e, h.1, h.2⟩
section
variable {K : PySem.W.Frag} {B H : Hp} {L L' : List (Addr × HO)} {I : List Im} {Q : VK} {σ : L2.St} {P C : Addr} {q ret : Str} {tb : Array Value}
theorem s_lam {t : XK → TE} (hC : Ctx K B H L I) (m : Pick (P, .tbl tb) L L') (f : Im.tab q tb ∈ I) (k : ∀ tb' H1, Ctx K B H1 ((P, .tbl tb') :: L') (.tab q tb' :: I) → t (kTold K C ret Q) σ H1 Q) : tLamP P q (TTold K C ret) t σ H Q := by
  have hC := hC.pick m
  have e0 := hC.get List.mem_cons_self
  refine ⟨(hC.tab f).tabS e0, fun H1 e t1 => ?_⟩
  obtain ⟨tb', h1, h2, h3⟩ := t1
  exact k tb' H1 ((hC.but List.mem_cons_self .here rfl e h1).add (i := .tab q tb') ⟨h2, h3⟩)
theorem s_lamV {d : LamD} (hC : Ctx K B H L I) (m : Pick (P, .tbl tb) L L') (f : Im.tab q tb ∈ I)
    (k : ∀ f c tb' H1, Ctx K B H1 ((P, .tbl tb') :: L') (.pr (fun H => H f = some (LamO f c q d.ps d.body d.sc)) (fun _ _ s h => s _ _ h rfl) :: .pr (fun H => H c = some (CodeO c q)) (fun _ _ s h => s _ _ h rfl) :: .tab q tb' :: I) → Q (.ref f) H1) : tLamV P q d σ H Q := by
  have hC := hC.pick m
  have e0 := hC.get List.mem_cons_self
  refine ⟨(hC.tab f).tabS e0, fun f c H1 e t1 hf hc => ?_⟩
  obtain ⟨tb', h1, h2, h3⟩ := t1
  exact k f c tb' H1 ((((hC.but List.mem_cons_self .here rfl e h1).add (i := .tab q tb') ⟨h2, h3⟩).add (i := .pr (fun H => H c = some (CodeO c q)) (fun _ _ s h => s _ _ h rfl)) hc).add (i := .pr (fun H => H f = some (LamO f c q d.ps d.body d.sc)) (fun _ _ s h => s _ _ h rfl)) hf)
end
/-! ### words by place; defs whose code is named -/
def lamOf : Expr → LamD
  | .Lambda ps body sc _ => ⟨ps, body, sc⟩
  | e => ⟨defArgs (.Pass ⟨0, 0, 0, 0⟩), e, defScope (.Pass ⟨0, 0, 0, 0⟩)⟩
def eltOf (e : Expr) (i : Nat) : Expr := match e with
  | .List es _ => es.getD i e
  | _ => e
def asgOf : Stmt → Expr
  | .Assign _ e _ => e
  | _ => .Name "" ⟨0, 0, 0, 0⟩
theorem _root_.L2.FunD.okC {P : Program} {w : World} {K : PySem.W.Frag} {mg : Str → Option Value} {base : Heap} {x qual : Str} {params : Arguments} {body : List Stmt} {scope : Scope} {dvs : List V} {kws : List (Str × V)} {f : Addr} {fd : FuncData}
    {CX : CXT} {N ps : List Str} {k : Nat} {sp : Sp} (F : FunD K x qual params body scope dvs kws f fd) (S : FnScope N ps scope) (len : ∀ vs H Q E, sp vs H Q E → vs.length = ps.length)
    (hbody : ∀ (cdv : Value) (A : Around) (outer : List Env) (s : Shared) (H : Hp) (vs : List V) (Q : VK) (E : XK), Room k (A.deeper (envOfC qual scope s.heap.objs.size f cdv)) → fd.code = cdv → sp vs H Q E →
      ∃ t, PSs (cxOf CX P w K mg base N qual scope f cdv A outer s H E) body t ∧ t { nx := fun _ H' => Q .non H', rt := Q } (L2.start N vs) H) : FnOk P w K mg base CX (k + 1) f fd ps sp := by
  obtain ⟨oc, od, dV, kV, doc, pm, an, cdv, ct, osl, rfl, lk, hcd, _, _⟩ := F.ex
  exact fn_of lk hcd S len fun A outer s H vs Q E hr hsp => hbody cdv A outer s H vs Q E hr rfl hsp
end Ph
namespace Ph
open PySem PySem.Spec PyProof.Rows L2 GxR
/-- the element: a test of the sign, the globals known -/
def EltG (X : Cx) (sc : Scope) (x : Str) (elt : Expr) (pb : Nat → Bool) : Prop :=
  ∀ (ce : Env) (A' : Around) (E' : Value → Shared → Prop) (c : Nat) (t : Tok) (z : Shared) (m : Str → Option Value), A'.handled = none → ce.scope = sc → ce.globals = mainGlobals → z.heap.Ns mainGlobals X.mg → z.heap.Ns ce.locals m → m x = some (.str ⟨#[c]⟩ t) →
    wpAny (model X.prog X.w) A' (eval elt ce) (fun y z' => y = .bool (pb c) ∧ Keeps z z') E' z
section
variable {X : Cx} {pins : List (Addr × Obj)} {σ : L2.St} {H : Hp} {s : Shared}
theorem gen_strG {c P : Addr} {elt iter : Expr} {x : Str} {px gpos : Pos} {sc : Scope} {pb : Nat → Bool} {te : TE} {k : Nat} {Qz : Value → Shared → Prop} {R : Str → Hp → Prop}
    (hr : Room k X.A) (TB : GxR.TabB X.base X.mg c P) (hcode : X.env.code = .ref c) (S : GenS X.env sc x) (hi : PE X iter te) (hel : EltG X sc x elt pb)
    (hs : ∀ v, genFold iter X.env v = pure v) (I : Inv X pins σ H s) (h : te σ H fun v Ha => ∃ a : Str, v = .str a ∧ TabG Ha P ∧ R a Ha)
    (hQ : ∀ a Ha g z, R a Ha → Ready X pins σ Ha P a pb g z → Qz (.ref g) z) :
    wpAny (model X.prog X.w) X.A (eval (.GeneratorExp elt [⟨.Name x px, iter, [], 0⟩] sc gpos) X.env) Qz X.xe s := by
  refine wpAny_GeneratorExp_walksQ hr.hd S.co (closure_ok S.free) S.cell S.dot S.loc S.kind (by have := hr.dp; omega) ?_ hs
  refine thn (hi.run pins s σ H _ I h) fun xv sa ⟨v, Ha, Ia, ra, qa⟩ => ?_
  obtain ⟨a, rfl, ⟨tb, hP, ht⟩, qa⟩ := qa
  obtain ⟨t, rfl⟩ := _root_.id ra
  refine wpAny_pyIter_str fun oi St W hst => ?_
  have hPs : sa.heap.get? P = some { cls := .none, data := .fields tb } := Ia.hok P _ hP
  have hPlt : P < sa.heap.objs.size := Heap.lt_size hPs
  have hP2 : (sa.heap.push oi).get? P = some { cls := .none, data := .fields tb } := Heap.get?_push_of_some _ hPs
  have cd : PySem.W.CodeHd (sa.heap.push oi) c P := TB.code.keeps fun b u e => Heap.get?_push_of_some _ (Ia.bk b u e)
  have lim2 : (sa.heap.push oi).NoLimit := Ia.nolimit.push oi
  have cont : ∀ (code : Value) (hb3 : Heap) (tk : Nat) (tb2 : Array Value), Heap.ExtBut P (sa.heap.push oi) hb3 → (sa.heap.push oi).objs.size ≤ hb3.objs.size → hb3.get? P = some { cls := .none, data := .fields tb2 } → (∃ more, tb2 = tb ++ more) → TriplesOk tb2.toList →
      wpAny (model X.prog X.w) X.A (builtinsFor X.env.globals X.env.builtins) (fun bi sd =>
        ∃ Ia fp wr n₀ Pf St₀ pz F, Value.ref sa.heap.objs.size = .ref Ia ∧ (∀ A' : Around, A'.handled = none → Walks X.prog X.w A' Ia fp wr n₀ Pf St₀) ∧ St₀ 0 sd.heap ∧ (∀ b ∈ fp, b < sd.heap.objs.size) ∧ sd.heap.NoLimit ∧ cStatics ∉ wr ∧
          (∀ href : Heap, (∀ b o, sd.heap.get? b = some o → href.get? b = some o) →
            QuietGen X.prog X.w (genEnv sc (cloFrom X.env.cells sc.names []) sd.heap.objs.size code bi X.env) x [] elt (List.range sd.heap.objs.size) wr Pf pz F href) ∧
          (∀ a hb5 tk gs, gs.bare = true → sd.heap.objs.size < a → hb5.objs.size = a + 1 → (∀ b o, sd.heap.get? b = some o → hb5.get? b = some o) →
            WalksS X.prog X.w X.A.in4 a (a :: sd.heap.objs.size :: List.range sd.heap.objs.size) (sd.heap.objs.size :: wr) (GenOnlyQ sd.gens.size) (passing pz n₀ 0).length
              (fun j y => ∃ i, (passing pz n₀ 0)[j]? = some i ∧ F i y) (GenAt X.prog X.w X.A.in4 a sd.gens.size sd.heap.objs.size (List.range sd.heap.objs.size) wr pz n₀ F) →
            GenAt X.prog X.w X.A.in4 a sd.gens.size sd.heap.objs.size (List.range sd.heap.objs.size) wr pz n₀ F 0 { sd with gens := sd.gens.push gs, toks := tk, heap := hb5 } →
            Qz (.ref a) { sd with gens := sd.gens.push gs, toks := tk, heap := hb5 })) X.xe { sa with heap := hb3, toks := tk } := by
    intro code hb3 tk tb2 hx hsz hP3 hmore ht3
    obtain ⟨bm, ob, e1, e2, e3, e4, e5, e6, e7, e8⟩ := TB.bm
    have hcP : cStatics ≠ P := fun e => by
      obtain ⟨_, hns, _⟩ := Ia.nolimit
      obtain ⟨ow, es, ep, ho, hd, _⟩ := hns
      rw [e, hPs] at ho
      cases ho
      cases hd
    have hcl : cStatics < sa.heap.objs.size := let ⟨_, hns, _⟩ := Ia.nolimit; hns.lt
    have sz2 : (sa.heap.push oi).objs.size = sa.heap.objs.size + 1 := Heap.size_push ..
    have keep3 : ∀ b u, b ≠ P → sa.heap.get? b = some u → hb3.get? b = some u := fun b u hb e => hx b u hb (Heap.get?_push_of_some _ e)
    have nsA : sa.heap.Ns mainGlobals X.mg := Ia.mod.glob.keeps Ia.bk
    have ns3 : hb3.Ns mainGlobals X.mg := (nsA.push oi).extBut hx TB.gP
    refine wpAny_builtinsFor (m := X.mg) (by rw [Ia.ok.glob]; exact ns3) e1 e2 (keep3 _ _ e4 (Ia.bk _ _ e5)) e6 e7 e8 ?_
    refine ⟨sa.heap.objs.size, [sa.heap.objs.size], [sa.heap.objs.size], a.cps.size, SignAt a, St, (fun _ => true), (fun i y => ∃ cc, a.cps[i]? = some cc ∧ y = .bool (pb cc)), rfl, W, ?_, ?_, lim2.extBut hx hcP, ?_, ?_, ?_⟩
    · refine (W X.A hr.hd).frame _ _ _ hst fun b hb u e => hx b u (fun z => ?_) e
      rcases List.mem_cons.mp hb with zz | zz
      · exact Nat.ne_of_lt hPlt (z.symm.trans zz)
      · cases zz
    · intro b hb
      rcases List.mem_cons.mp hb with z | z
      · rw [z]
        show sa.heap.objs.size < hb3.objs.size
        omega
      · cases z
    · intro z
      rcases List.mem_cons.mp z with z | z
      · exact Nat.ne_of_lt hcl z
      · cases z
    · intro href hhref
      refine ⟨fun A' E' i v sx m₂ hA hPv hn hm hk => ?_, fun A' E' i v sx m₂ hA hPv hp hn hm hk => ?_⟩
      · simp only [List.forIn_nil]
        exact wpAny_pure ⟨rfl, keeps_refl _⟩
      · obtain ⟨cc, u, hcc, rfl⟩ := hPv
        have nsx : sx.heap.Ns mainGlobals X.mg := by
          have hlt : mainGlobals < sa.heap.objs.size := nsA.lt
          obtain ⟨og, es, ep, hg, rr⟩ := ns3
          refine ⟨og, es, ep, hk mainGlobals (List.mem_range.mpr (Heap.lt_size hg)) (fun z => ?_) og (hhref _ _ hg), rr⟩
          rcases List.mem_cons.mp z with z | z
          · exact Nat.ne_of_lt hlt z
          · cases z
        exact wpAny_mono (hel _ A' E' cc u sx m₂ hA rfl Ia.ok.glob nsx hn hm) (fun y sy r => ⟨⟨cc, hcc, r.1⟩, r.2⟩) fun _ _ e => e
    · intro g hb5 tk5 gs hgb hag hsz5 hk5 W5 hat
      simp only [GxR.passing_true, List.length_range] at W5
      refine hQ a Ha g _ qa ⟨_, _, _, _, _, W5.in4_1, hat, ?_, fun sw hm => ?_⟩
      · intro j y sj Qj Ej hy hQj
        obtain ⟨i, hij, cc, hcc, rfl⟩ := hy
        obtain ⟨hj, ej⟩ := List.getElem?_eq_some_iff.mp hij
        rw [List.getElem_range] at ej
        subst ej
        have e9 : a.cps.toList[j]? = some cc := by rw [Array.getElem?_toList]; exact hcc
        have hQ2 : Qj (trF pb a.cps.toList j) sj := hQj
        rw [trF_some e9] at hQ2
        exact wpAny_truthy_bool hQ2
      · obtain ⟨more, em⟩ := hmore
        have nwr : ∀ b u, sa.heap.get? b = some u → b ∉ hb3.objs.size :: [sa.heap.objs.size] := fun b u e hb => by
          have hl := Heap.lt_size e
          rcases List.mem_cons.mp hb with z | z
          · rw [z] at hl
            have h9 : (hb3.objs.size : Nat) < sa.heap.objs.size := hl
            omega
          · rcases List.mem_cons.mp z with z | z
            · rw [z] at hl
              exact Nat.lt_irrefl _ hl
            · cases z
        have J := inv_tab (more := more) (h' := sw.heap) (g' := sw.gens) (d' := sw.drawn) (t' := sw.toks) Ia hP (fun b u hb e => hm.heap b u (nwr b u e) (hk5 b u (keep3 b u hb e)))
          (by rw [← em]; exact hm.heap P _ (nwr P _ hPs) (hk5 P _ hP3)) (AllBare.movedS (Ia.bare.push hgb) hm)
        rw [sh_eta sa sw hm.os] at J
        refine ⟨upd Ha P (.tbl (tb ++ more)), ⟨⟨tb ++ more, upd_same, by rw [← em]; exact ht3⟩, fun b hb => upd_ne hb⟩, J⟩
  refine ⟨lim2, ?_⟩
  cases hf : codeAmong gpos tb.toList with
  | none =>
    refine wpAny_genexprCodeX hcode (cd.code hP2 ht) (cd.tab hP2) hf fun c' h' tk hx hge hlt hco' _ htab' _ => ?_
    obtain ⟨_, _, _, _, _, _, _, _, _, _, _, _, _, _, _, _, _, _, _, htr, _⟩ := hco'
    exact cont _ h' tk _ hx (Nat.le_trans hge (Nat.le_of_lt hlt)) htab'.2 ⟨_, rfl⟩ htr
  | some cv =>
    refine wpAny_genexprCode_hit hcode (cd.code hP2 ht) hf ?_
    exact cont cv (sa.heap.push oi) sa.toks tb (Heap.ExtBut.refl _ _) (Nat.le_refl _) hP2 ⟨#[], by simp⟩ ht
theorem pe_anyG {c P : Addr} {elt iter : Expr} {x : Str} {px p pos gpos : Pos} {sc : Scope} {pb : Nat → Bool} {te : TE} {k : Nat}
    (hr : Room k X.A) (hg : Gl X "any") (hm : X.mg "any" = none) (TB : GxR.TabB X.base X.mg c P) (hcode : X.env.code = .ref c) (S : GenS X.env sc x) (hi : PE X iter te) (hel : EltG X sc x elt pb)
    (hs : ∀ v, genFold iter X.env v = pure v)
    (he : starEach [.GeneratorExp elt [⟨.Name x px, iter, [], 0⟩] sc gpos] X.env = (false, eval (.GeneratorExp elt [⟨.Name x px, iter, [], 0⟩] sc gpos) X.env) :: starEach [] X.env := by rfl) :
    PE X (.Call (.Name "any" p) [.GeneratorExp elt [⟨.Name x px, iter, [], 0⟩] sc gpos] [] pos) (tAnyS P pb te) := by
  refine ⟨fun pins s σ H Q I h => ?_⟩
  refine wpAny_Call_Name_kw (ld_blt I hg hm boot_any (PyProof.Rows.callWith_builtin1 ?_ he (by rfl)))
  rw [he]
  show wpAny _ _ (spliced ((false, eval (.GeneratorExp elt [⟨.Name x px, iter, [], 0⟩] sc gpos) X.env) :: backTo pos (starEach [] X.env))) _ _ s
  refine Calls.spliced_cons (gen_strG (R := fun a Ha => ∀ Hb, Tabbed P Ha Hb → Q (.bl (a.cps.toList.any pb)) Hb) hr TB hcode S hi hel hs I h fun a Ha g z hR hG => ?_)
  obtain ⟨fp, wr, G, F, St, W, hst, htr, hI⟩ := hG
  refine Calls.spliced_nil (call_any_walkS (W.self 0 _ _ _ hst ⟨g, fp, wr, G, _, F, St, _, rfl, W, hst, htr, fun sw hmv => ?_⟩))
  obtain ⟨Hb, hT, J⟩ := hI sw hmv
  refine ⟨.bl _, Hb, J, rfl, ?_⟩
  rw [any_signs a pb]
  exact hR Hb hT
end
/-- x not in G, G a text of the module -/
theorem elt_ninG {X : Cx} {sc : Scope} {x g z : Str} {p1 p2 p3 : Pos} (hk : sc.kind = .function) (hl : sc.names.lookup x = some .local) (hg : sc.names.lookup g = some .globalImplicit) (hm : ∃ t, X.mg g = some (.str z t))
    (hd : (x == ("__debug__" : Str)) = false := by decide) (hd2 : (g == ("__debug__" : Str)) = false := by decide) : EltG X sc x (.Compare (.Name x p1) [.NotIn] [.Name g p2] p3) (fun c => !decide (c ∈ z.cps.toList)) := by
  intro ce A' E' c t zz m hA hsc hglo hns hn hx
  obtain ⟨tz, hm⟩ := hm
  refine wpAny_Compare1 ?_
  refine wpAny_Name (wpAny_loadName_local (by rw [hsc]; exact hk) (show ce.scope.names.lookup x = some .local by rw [hsc]; exact hl) hn hx ?_) hd
  refine Calls.Name_function_global (by rw [hsc]; exact hk) (show ce.scope.names.lookup g = some .globalImplicit by rw [hsc]; exact hg) (Calls.loadGlobal_global (by rw [hglo]; exact hns) hm ?_) hd2
  refine PySem.P.notIn_str ⟨?_, keeps_refl _⟩
  show Value.bool _ = Value.bool _
  rw [PySem.StrLaws.found_one]
/-! ### the steps -/
section
variable {K : PySem.W.Frag} {B H : Hp} {L L' : List (Addr × HO)} {I : List Im} {Q : VK} {σ : L2.St} {P : Addr} {tb : Array Value} {pb : Nat → Bool}
def kAny (P : Addr) (pb : Nat → Bool) (Q : VK) : VK := fun v Ha => ∃ a : Str, v = .str a ∧ TabG Ha P ∧ ∀ Hb, Tabbed P Ha Hb → Q (.bl (a.cps.toList.any pb)) Hb
theorem s_anyS {te : TE} (h : te σ H (kAny P pb Q)) : tAnyS P pb te σ H Q := h
theorem s_anyV {x : Str} (hC : Ctx K B H L I) (m : Pick (P, .tbl tb) L L') (f : Im.tri tb ∈ I) (k : ∀ tb' H1, Ctx K B H1 ((P, .tbl tb') :: L') (.tri tb' :: I) → Q (.bl (x.cps.toList.any pb)) H1) : kAny P pb Q (.str x) H := by
  have hC := hC.pick m
  refine ⟨x, rfl, ⟨tb, hC.get List.mem_cons_self, hC.tri f⟩, fun Hb hT => ?_⟩
  obtain ⟨⟨tb', h1, h2⟩, h3⟩ := hT
  exact k tb' Hb ((hC.but List.mem_cons_self .here rfl (fun b u n e => by rw [h3 b n]; exact e) h1).add (i := .tri tb') h2)
end
theorem tabG {base : Heap} {mg : Str → Option Value} {c P : Addr} (h : LamX.TabB base mg c P) : GxR.TabB base mg c P := ⟨h.code, h.bm, h.gP⟩
def genSB (sc : Scope) (x : Str) : Bool := decide (sc.kind = .function) && !sc.isCoroutine && sc.names.all (fun y => !decide (y.2 = .cell) && !decide (y.2 = .free)) && decide (sc.names.lookup (".0" : Str) = some NameKind.local) && decide (sc.names.lookup x = some .local)
theorem genS_by {env : Env} {sc : Scope} {x : Str} (h : genSB sc x = true) : GenS env sc x := by
  unfold genSB at h
  simp only [Bool.and_eq_true, Bool.not_eq_true', decide_eq_true_eq, decide_eq_false_iff_not, List.all_eq_true] at h
  obtain ⟨⟨⟨⟨h1, h2⟩, h3⟩, h4⟩, h5⟩ := h
  exact ⟨h1, h2, fun y hy => (h3 y hy).1, h4, h5, fun y hy e => absurd e (h3 y hy).2⟩
end Ph
namespace Ph
open PySem PySem.Spec PyProof.Rows L2
def gFld (K : PySem.W.Frag) (to : TE) (f : Str) : TG := fun v σ H Q => to σ H (kSetF K f Q σ v)
theorem pg_fld {X : Cx} {o : Expr} {ta : TE} {f : Str} {pos : Pos} (ha : PE X o ta) : PG X (.Attribute o f pos) (gFld X.K ta f) := by
  refine ⟨fun pins s σ H v u Q I r h => ?_⟩
  rw [assign_Attribute]
  refine wpAny_bind (wpAny_holding (thn (ha.run pins s σ H _ I h) fun ov s1 ⟨x, H1, I1, r1, q1⟩ => ?_))
  obtain ⟨a, C, dx, fs, rfl, ea, c, n, l, q2⟩ := q1
  obtain rfl : ov = Value.ref a := r1
  exact wpAny_bind (wpAny_standAt (wpAny_bind (wpAny_holding (setattr_ok I1 ea c n l r fun s3 I3 => wpAny_release ⟨σ, _, I3, q2⟩))))
section
variable {K : PySem.W.Frag} {B H : Hp} {L L' F : List (Addr × HO)} {I : List Im} {Q : VK} {σ : L2.St} {A Cb Dc : L2.St → Hp → Prop} {Bt : VK} {R : L2.St → Hp → Prop} {v : V}
theorem s_gfld {to : TE} {f : Str} (h : to σ H (kSetF K f R σ v)) : gFld K to f v σ H R := h
/-! pop -/
def kBm0 (K : PySem.W.Frag) (T : String) (r : V → List V → Hp → VK → Prop) (Q : VK) : VK := fun x H1 => tyV K T x H1 ∧ r x [] H1 Q
theorem s_bm0 {T : String} {r : V → List V → Hp → VK → Prop} {to : TE} (h : to σ H (kBm0 K T r Q)) : tBM0 K T r to σ H Q := h
theorem s_popL {l : Addr} {xs : List V} {y : V} (hC : Ctx K B H L I) (m : H l = some (.lst (xs ++ [y]))) (u : Up l (.lst xs) L L') (k : ∀ H1, Ctx K B H1 L' I → Q y H1) : kBm0 K "list" rPop Q (.ref l) H := by
  refine ⟨.inl ⟨rfl, _, SqL.of m⟩, l, xs ++ [y], y, rfl, rfl, m, by simp, ?_⟩
  rw [List.dropLast_concat]
  exact k _ (hC.put u rfl)
/-! split -/
abbrev rSplit1 : V → List V → Hp → VK → Prop := fun x xs H Q => ∃ a b, x = .str a ∧ xs = [.str b] ∧ (b.length == 0) = false ∧ a.length + 2 ≤ sizeLine ∧ rNewStrs (Txt.split a b) H Q
def kM1 (r : V → List V → Hp → VK → Prop) (te : TE) (σ : L2.St) (Q : VK) : VK := fun x H1 => (∃ a, x = .str a) ∧ te σ H1 fun y H2 => r x [y] H2 Q
theorem s_m1 {r : V → List V → Hp → VK → Prop} {to te : TE} (h : to σ H (kM1 r te σ Q)) : tM1 r to te σ H Q := h
theorem s_m1V {r : V → List V → Hp → VK → Prop} {te : TE} {a : Str} (h : te σ H fun y H2 => r (.str a) [y] H2 Q) : kM1 r te σ Q (.str a) H := ⟨⟨a, rfl⟩, h⟩
theorem s_split {a b : Str} (hC : Ctx K B H L I) (hb : (b.length == 0) = false) (hz : a.length ≤ 100000) (k : ∀ p H1, Ctx K B H1 ((p, .lst ((Txt.split a b).map V.str)) :: L) I → Q (.ref p) H1) : rSplit1 (.str a) [.str b] H Q :=
  ⟨a, b, rfl, rfl, hb, by rw [sizeLine_eq]; omega, fun p hp => k p _ (hC.newM hp rfl)⟩
/-! isinstance(x, str) -/
theorem s_isStrS {x : Str} (h : Q (.bl true) H) : rIsi K [.str x, .ty "str"] H Q := ⟨_, _, _, _, true, rfl, .ty _, .base (.str x), by rfl, h⟩
theorem s_isStrI {i : Int} (h : Q (.bl false) H) : rIsi K [.int i, .ty "str"] H Q := ⟨_, _, _, _, false, rfl, .ty _, .base (.int i), by rfl, h⟩
/-! cuts -/
theorem s_slS {z : Str} {lo hi : Option Int} (hz : z.length ≤ 100000) (h : Q (.str (cutS z lo hi)) H) : rSlU K (.str z) lo hi H Q := .inr (.inl ⟨z, rfl, Nat.le_trans hz (by decide), h⟩)
theorem s_slT1 {a : Addr} {x : V} {r : List V} (hC : Ctx K B H L I) (h : SqT K H a (x :: r)) (z : (x :: r).length ≤ 1000) (k : ∀ p H1, Ctx K B H1 L (.tup p r :: I) → Q (.ref p) H1) : rSlU K (.ref a) (some 1) none H Q := by
  have e1 : HT.sIx (x :: r).length 0 (some 1) = 1 := by
    unfold HT.sIx
    simp
  have e2 : HT.sIx (x :: r).length (x :: r).length none = (x :: r).length := by rfl
  have e : cutV (x :: r) (some 1) none = r := by
    unfold cutV
    rw [e1, e2, List.drop_succ_cons, List.drop_zero, List.length_cons, Nat.add_sub_cancel, List.take_length]
  refine .inr (.inr ⟨a, x :: r, rfl, h, fun z => ?_, fun p hp => ?_⟩)
  · rw [e1] at z
    exact absurd z.1 (by decide)
  · rw [e]
    exact k p _ (hC.newT hp)
theorem s_mulS {x : Str} {k : Int} (h1 : 2 ≤ k) (h2 : k ≤ 1000) (h3 : 1 ≤ x.length) (h4 : x.length ≤ 1000) (h : Q (.str (repS x k.toNat)) H) : rMulU (.str x) (.int k) H Q := ⟨h1, h2, h3, h4, h⟩
theorem s_ixS {z : Str} {i : Int} {c : Nat} (e : rIxS (.str z) (.int i) H Q) : rIxU K (.str z) (.int i) H Q := .inr (.inr (.inl e))
/-! an item of a list, the place not known -/
theorem atI_at {xs : List V} {r : Int} (h0 : 0 ≤ r) (h1 : r < xs.length) : ∃ v, atI xs r = some v ∧ v ∈ xs := by
  have hr : r.toNat < xs.length := by omega
  have e := atI_nat (xs := xs) (j := r.toNat) (v := xs[r.toNat]) (List.getElem?_eq_getElem hr)
  rw [Int.toNat_of_nonneg h0] at e
  exact ⟨_, e, List.getElem_mem hr⟩
theorem s_ixOne {l : Addr} {xs : List V} {r : Int} (m : H l = some (.lst xs)) (h0 : 0 ≤ r) (h1 : r < xs.length) (q : ∀ v, v ∈ xs → Q v H) : rIxU K (.ref l) (.int r) H Q := by
  obtain ⟨v, e, w⟩ := atI_at h0 h1
  exact s_ixL m e (q v w)
/-! while -/
theorem s_while {c : TT} {tb : TS} (Pv : L2.St → Hp → Prop) (μ : L2.St → Hp → Nat) (h0 : Pv σ H)
    (hs : ∀ σ H, Pv σ H → c σ H fun b H1 => if b = true then tb ⟨fun σ' H' => Pv σ' H' ∧ μ σ' H' < μ σ H, Bt, A, fun σ' H' => Pv σ' H' ∧ μ σ' H' < μ σ H⟩ σ H1 else A σ H1)
    (mono : ∀ σ H Q Q', (∀ b H1, Q b H1 → Q' b H1) → c σ H Q → c σ H Q') : tWhile c tb ⟨A, Bt, Cb, Dc⟩ σ H := while_by (D := ⟨A, Bt, Cb, Dc⟩) Pv μ h0 hs mono
/-! the teller at a lambda of a list -/
theorem s_toldV {CS : Addr} {ret q : Str} {n i : Nat} {fam : List LamD} {t : Nat → XK → TE} (f c : Addr) (k : Nat) (d : LamD) (hs : σ[i]? = some (some (.ref f))) (hj : fam[k]? = some d)
    (hf : H f = some (LamO f c q d.ps d.body d.sc)) (hc : H c = some (LamX.CodeO c q)) (h : t k (kTold K CS ret Q) (List.replicate n none) H Q) : tToldV K CS ret q n i fam t σ H Q := ⟨f, c, k, d, hs, hj, hf, hc, h⟩
end
theorem passLam {X : Cx} {A : Around} {outer : List Env} {s : Shared} {H : Hp} {E : XK} {scope : Scope} {f c' : Addr} : Passes (L2.CX X.prog X.w) (LamX.lamCx X A outer s H E scope f c') E := passes_call (takes_of rfl rfl rfl rfl) fun _ _ _ _ h => h
theorem passLam0 {X : Cx} {q : Str} {A : Around} {outer : List Env} {s : Shared} {H : Hp} {E : XK} {sc : Scope} {f c : Addr} : Passes (L2.CX X.prog X.w) (lamCx0 X q A outer s H E sc f c) E := passes_call (takes_of rfl rfl rfl rfl) fun _ _ _ _ h => h
section
variable {K : PySem.W.Frag} {H : Hp} {Q : VK}
theorem app_le10 {x y : Str} (hx : x.length ≤ 50000) (hy : y.length ≤ 50000) : (x ++ y).length ≤ 100000 := by
  rw [Str.length_append]
  omega
theorem app_le5 {x y : Str} (hx : x.length ≤ 20000) (hy : y.length ≤ 20000) : (x ++ y).length ≤ 50000 := by
  rw [Str.length_append]
  omega
theorem app_le2 {x y : Str} (hx : x.length ≤ 10000) (hy : y.length ≤ 10000) : (x ++ y).length ≤ 20000 := by
  rw [Str.length_append]
  omega
theorem app_le1 {x y : Str} (hx : x.length ≤ 5000) (hy : y.length ≤ 5000) : (x ++ y).length ≤ 10000 := by
  rw [Str.length_append]
  omega
theorem app_le05 {x y : Str} (hx : x.length ≤ 2500) (hy : y.length ≤ 2500) : (x ++ y).length ≤ 5000 := by
  rw [Str.length_append]
  omega
theorem s_addSS {i j : Str} (z1 : i.length ≤ 100000) (z2 : j.length ≤ 100000) (h : Q (.str (i ++ j)) H) : rAddU K (.str i) (.str j) H Q := ⟨Nat.le_trans (Nat.add_le_add z1 z2) (by decide), h⟩
theorem s_lenSS {z : Str} (m : z.length ≤ 100000) (h : Q (.int z.length) H) : rLenU K [.str z] H Q := s_lenS (Nat.le_trans m (by decide)) h
end
/-! lists: the last ones, all but the last -/
theorem TDs.drop {K : PySem.W.Frag} {H : Hp} : ∀ {vs : List V} {ds : List PyData} (n : Nat), TDs K H vs ds → TDs K H (vs.drop n) (ds.drop n)
  | _, _, 0, h => by rw [List.drop_zero, List.drop_zero]; exact h
  | _, _, _ + 1, .nil => .nil
  | _, _, n + 1, .cons _ t => by rw [List.drop_succ_cons, List.drop_succ_cons]; exact TDs.drop n t
theorem TDs.unsnoc {K : PySem.W.Frag} {H : Hp} {d : PyData} : ∀ {vs : List V} {ds : List PyData}, TDs K H vs (ds ++ [d]) → ∃ us v, vs = us ++ [v] ∧ TDs K H us ds ∧ TD K H v d
  | _, [], .cons h .nil => ⟨[], _, rfl, .nil, h⟩
  | _, e :: ds, .cons h t => by
    obtain ⟨us, v, rfl, q1, q2⟩ := TDs.unsnoc (ds := ds) t
    exact ⟨_ :: us, v, rfl, .cons h q1, q2⟩
theorem cutV_last {xs : List V} {k : Nat} (hk : 0 < k) : cutV xs (some (-(k : Int))) none = xs.drop (xs.length - k) := by
  have e1 : HT.sIx xs.length 0 (some (-(k : Int))) = xs.length - k := by
    show (if (-(k : Int)) < 0 then ((-(k : Int)) + (xs.length : Int)).toNat else min (-(k : Int)).toNat xs.length) = _
    rw [if_pos (by omega)]
    omega
  have e2 : HT.sIx xs.length xs.length none = xs.length := rfl
  unfold cutV
  rw [e1, e2]
  exact List.take_of_length_le (by rw [List.length_drop]; omega)
theorem cutV_init {xs : List V} {y : V} : cutV (xs ++ [y]) none (some (-1)) = xs := by
  have e1 : HT.sIx (xs ++ [y]).length 0 none = 0 := rfl
  have e2 : HT.sIx (xs ++ [y]).length (xs ++ [y]).length (some (-1)) = xs.length := by
    show (if ((-1 : Int)) < 0 then ((-1 : Int) + ((xs ++ [y]).length : Int)).toNat else min (-1 : Int).toNat (xs ++ [y]).length) = _
    rw [if_pos (by decide), List.length_append, List.length_singleton]
    omega
  unfold cutV
  rw [e1, e2, List.drop_zero, Nat.sub_zero, List.take_left]
/-! == of data -/
section
variable {K : PySem.W.Frag} {H : Hp} {Q : VK}
theorem eqv_nil {ds : List PyData} : PyData.eqv (.list ds) (.list []) = ds.isEmpty := by
  cases ds <;> simp [PyData.eqv, PyData.eqvAll]
theorem s_eqE {l m : Addr} {vs : List V} {ds : List PyData} (hl : H l = some (.lst vs)) (hm : H m = some (.lst [])) (h : TDs K H vs ds) (sh : ShL 50 ds) (k : Q (.bl ds.isEmpty) H) : rEqU K (.ref l) (.ref m) H Q :=
  s_eqD (Dp.lst (SqL.of hl) h.dp) (Dp.lst (SqL.of hm) .nil) (sh.list.shaped (by decide)) (by decide) (by rw [eqv_nil]; exact k)
theorem s_neE {l m : Addr} {vs : List V} {ds : List PyData} (hl : H l = some (.lst vs)) (hm : H m = some (.lst [])) (h : TDs K H vs ds) (sh : ShL 50 ds) (k : Q (.bl (!ds.isEmpty)) H) : rNeU K (.ref l) (.ref m) H Q :=
  s_neD (Dp.lst (SqL.of hl) h.dp) (Dp.lst (SqL.of hm) .nil) (sh.list.shaped (by decide)) (by decide) (by rw [eqv_nil]; exact k)
theorem s_neSame {x y : V} {d : PyData} (h1 : TD K H x d) (h2 : TD K H y d) (s : Sh 50 d) (k : Q (.bl false) H) : rNeU K x y H Q :=
  s_neD h1.dp h2.dp (s.shaped (by decide)) (s.shaped (by decide)) (by rw [eqv_self s]; exact k)
theorem s_eqSame {x y : V} {d : PyData} (h1 : TD K H x d) (h2 : TD K H y d) (s : Sh 50 d) (k : Q (.bl true) H) : rEqU K x y H Q :=
  s_eqD h1.dp h2.dp (s.shaped (by decide)) (s.shaped (by decide)) (by rw [eqv_self s]; exact k)
theorem s_neSameL {l m : Addr} {us vs : List V} {ds : List PyData} (hl : H l = some (.lst us)) (hm : H m = some (.lst vs)) (h1 : TDs K H us ds) (h2 : TDs K H vs ds) (s : ShL 50 ds) (k : Q (.bl false) H) : rNeU K (.ref l) (.ref m) H Q :=
  s_neD (Dp.lst (SqL.of hl) h1.dp) (Dp.lst (SqL.of hm) h2.dp) (s.list.shaped (by decide)) (s.list.shaped (by decide)) (by rw [eqv_self s.list]; exact k)
theorem ShL.mono {n m : Nat} {ds : List PyData} (h : ShL n ds) (z : n ≤ m) : ShL m ds := fun d hd => (h d hd).mono z
end
def mnI (i j : Int) : Int := if j < i then j else i
def mxI (i j : Int) : Int := if j > i then j else i
section
variable {H : Hp} {Q : VK} {i j : Int}
theorem s_max2N (h : Q (.int (mxI i j)) H) : rMax2 [.int i, .int j] H Q := s_max2 h
theorem s_min2N (h : Q (.int (mnI i j)) H) : rMin2 [.int i, .int j] H Q := s_min2 h
theorem mnI_le : mnI i j ≤ i ∧ mnI i j ≤ j ∧ (mnI i j = i ∨ mnI i j = j) := by
  unfold mnI
  split <;> omega
theorem mxI_ge : i ≤ mxI i j ∧ j ≤ mxI i j ∧ (mxI i j = i ∨ mxI i j = j) := by
  unfold mxI
  split <;> omega
end
section
variable {H : Hp} {σ : L2.St} {A Cb Dc : L2.St → Hp → Prop} {Bt : VK}
def kBody (W : Nat → L2.St → Hp → Prop) (m : Nat) (tb : TS) (A : L2.St → Hp → Prop) (Bt : VK) (σ : L2.St) (H : Hp) : Prop := ∃ N : L2.St → Hp → Prop, (∀ σ' H', N σ' H' → ∃ m', m' < m ∧ W m' σ' H') ∧ tb ⟨N, Bt, A, N⟩ σ H
theorem s_body {W : Nat → L2.St → Hp → Prop} {m : Nat} {tb : TS} (h : tb ⟨fun σ' H' => ∃ m', m' < m ∧ W m' σ' H', Bt, A, fun σ' H' => ∃ m', m' < m ∧ W m' σ' H'⟩ σ H) : kBody W m tb A Bt σ H := ⟨_, fun _ _ h => h, h⟩
theorem s_whileN {c : TT} {tb : TS} (W : Nat → L2.St → Hp → Prop) (m : Nat) (h0 : W m σ H) (hs : ∀ m σ H, W m σ H → c σ H fun b H1 => if b = true then kBody W m tb A Bt σ H1 else A σ H1) : tWhile c tb ⟨A, Bt, Cb, Dc⟩ σ H :=
  ⟨W, ⟨m, h0⟩, hs⟩
end
theorem s_iteNDT {p : Prop} [Decidable p] {X Y : Prop} (hp : ¬ p) (h : X) : if (!decide p) = true then X else Y := by
  rw [decide_eq_false hp]
  exact iteT h
theorem s_iteNDF {p : Prop} [Decidable p] {X Y : Prop} (hp : p) (h : Y) : if (!decide p) = true then X else Y := by
  rw [decide_eq_true hp]
  exact iteF h
theorem atI_last {us : List V} {v : V} : atI (us ++ [v]) (((us ++ [v]).length : Int) - 1) = some v := by
  have e : (((us ++ [v]).length : Int) - 1) = (us.length : Int) := by
    rw [List.length_append, List.length_singleton]
    omega
  rw [e]
  exact atI_nat (by simp)
theorem s_ixLast {K : PySem.W.Frag} {H : Hp} {Q : VK} {a : Addr} {us : List V} {v : V} (m : H a = some (.lst (us ++ [v]))) (q : Q v H) : rIxU K (.ref a) (.int (((us ++ [v]).length : Int) - 1)) H Q := s_ixL m atI_last q
theorem atI_head {us : List V} {v : V} : atI (v :: us) (0 : Int) = some v := atI_nat (j := 0) rfl
theorem s_ixHead {K : PySem.W.Frag} {H : Hp} {Q : VK} {a : Addr} {us : List V} {v : V} (m : H a = some (.lst (v :: us))) (q : Q v H) : rIxU K (.ref a) (.int 0) H Q := s_ixL m atI_head q
section
variable {K : PySem.W.Frag} {B H : Hp} {Q : VK} {σ : L2.St} {L : List (Addr × HO)} {I : List Im}
theorem s_neSs {i : Str} (h : Q (.bl false) H) : rNeU K (.str i) (.str i) H Q := s_neS (by rw [decide_eq_true rfl]; exact h)
theorem s_callD {sp : Sp} {vs dvs : List V} {E : XK} (h : sp (vs ++ dvs) H Q E) : kCall sp dvs E Q vs H := h
/-- a comprehension with a test over a list -/
theorem lc_lstT {a : Addr} {xs : List V} {g : TG} {tt : TT} {te : TE} {vs : List Nat} (hC : Ctx K B H L I) (Pv : Addr → Nat → Hp → Prop) (h0 : ∀ D H1, Ctx K B H1 ((D, .lst []) :: L) I → Pv D 0 H1) (hl : ∀ i D H, i ≤ xs.length → Pv D i H → H a = some (.lst xs))
    (hs : ∀ i x D H, xs[i]? = some x → Pv D i H → g x (wipe σ vs) H fun σ2 H2 => wipe σ2 vs = wipe σ vs ∧ tt σ2 H2 fun b H3 => if b = true then te σ2 H3 (kApp D (Pv D (i + 1))) else Pv D (i + 1) H3)
    (hd : ∀ D H, Pv D xs.length H → Q (.ref D) H) : kLc g tt te vs σ Q (Itl K a) H := fun D hD =>
  lc_list (K := K) (xs := xs) (g := g) (tt := tt) (te := te) (vs := vs) (σ := σ) (H1 := H) (D := D) (Qd := fun H => Q (.ref D) H) (fun i H => Pv D i H) (h0 D _ (hC.newM hD rfl)) (fun i H hi p => SqL.of (hl i D H hi p))
    (fun i x H hx p => hs i x D H hx p) (fun H p => hd D H p)
end
/-- some of what is known -/
inductive Subs (I : List Im) : List Im → Prop
  | nil : Subs I []
  | cons {x : Im} {r : List Im} : x ∈ I → Subs I r → Subs I (x :: r)
theorem Subs.sub {I : List Im} : ∀ {J : List Im}, Subs I J → ∀ j, j ∈ J → j ∈ I
  | _, .nil, j, h => by cases h
  | _, .cons m s, j, h => (List.mem_cons.mp h).elim (fun e => by rw [e]; exact m) (s.sub j)
theorem Ctx.sub {K : PySem.W.Frag} {B H : Hp} {L L' : List (Addr × HO)} {I J : List Im} (h : Ctx K B H L I) (y : Lay H L') (s : Subs I J) : Ctx K B H L' J := ⟨y, fun j hj => h.im j (s.sub j hj), h.sb⟩
theorem te_eq {t t' : TE} (e : t = t') {σ : L2.St} {H : Hp} {Q : VK} (h : t' σ H Q) : t σ H Q := by
  rw [e]
  exact h
end Ph
namespace Ph
open PySem PySem.Spec PyProof.Rows L2 GenW
/-- the context of a generator expression's frame -/
abbrev gxOf (X : Cx) (A : Around) (s : Shared) (H : Hp) (ce : Env) (fp : List Addr) (pn : List (Addr × Obj)) : Cx :=
  { X with A := A, s_0 := s, H_0 := H, env := ce, outer := X.stack, stack := ce :: X.stack, ex := fp, fn := fun _ => false, pn := pn, xe := fun _ _ => False }
abbrev gxEnv (X : Cx) (scope : Scope) (C : Addr) (code : Value) : Env := genEnv scope (cloFrom X.env.cells scope.names []) C code builtinsNs X.env
section
variable {X : Cx} {pins : List (Addr × Obj)} {σ : L2.St} {H : Hp} {s s2 : Shared}
theorem gx_start {scope : Scope} {own : List (Str × Nat)} {fp : List Addr} {A : Around} {code : Value} {m0 : Str → Option Value}
    (I : Inv X pins σ H s) (ok : BlkOk X.N X.env.scope scope own) (hnc : ∀ y ∈ scope.names, y.2 ≠ .cell) (hN : X.N.Nodup) (hfp : ∀ b ∈ fp, FpOk X pins H b ∧ b < s.heap.objs.size)
    (hA : A.handled = none) (hfr : A.frames = some (gxEnv X scope s.heap.objs.size code :: X.stack)) (hns : s2.heap.Ns s.heap.objs.size m0) (hk : ∀ b o, s.heap.get? b = some o → s2.heap.get? b = some o) (hos : s2.os = s.os) (hb : AllBare s2.gens) :
    Inv (gxOf X A s H (gxEnv X scope s.heap.objs.size code) fp []) [] (wipe σ (own.map (·.2))) H s2 := by
  have hfree : ∀ y ∈ scope.names, y.2 = .free → ∃ c, X.env.cells.lookup y.1 = some c := fun y hy e => by
    rcases ok.free y hy e with k | k
    · exact I.ok.has _ (.inl k)
    · exact I.ok.has _ (.inr k)
  generalize hcenv : gxEnv X scope s.heap.objs.size code = cenv
  have hL : cenv.locals = s.heap.objs.size := by rw [← hcenv]; rfl
  have hcl : cenv.cells = cloFrom X.env.cells scope.names [] := by rw [← hcenv]; rfl
  have hsc : cenv.scope = scope := by rw [← hcenv]; rfl
  have hfrm : cenv.frame = some s.heap.objs.size := by rw [← hcenv]; rfl
  have cm : ∀ {y c}, (y, c) ∈ cloFrom X.env.cells scope.names [] → X.env.cells.lookup y = some c ∧ c < s.heap.objs.size := fun {y c} hm => by
    rcases cloFrom_mem hm with hm | ⟨h1, rfl⟩
    · cases hm
    · obtain ⟨c, hc⟩ := hfree _ h1 rfl
      rw [hc]
      obtain ⟨w, z⟩ := I.cell _ _ hc
      exact ⟨rfl, z.lt⟩
  have mem : ∀ {y c}, cenv.cells.lookup y = some c → X.env.cells.lookup y = some c ∧ c < s.heap.objs.size := fun {y c} e => by
    rw [hcl] at e
    exact cm (PySem.mem_of_lookup e)
  have look : ∀ {y}, scope.names.lookup y = some .free → ∃ c, cenv.cells.lookup y = some c ∧ X.env.cells.lookup y = some c := fun {y} hl => by
    have hy : (y, NameKind.free) ∈ scope.names := PySem.mem_of_lookup hl
    obtain ⟨c', e'⟩ := mem_lookup (cloFrom_has (cells := X.env.cells) (acc := []) hy)
    rw [← hcl] at e'
    exact ⟨c', e', (mem e').1⟩
  have okB : (gxOf X A s H cenv fp []).Ok := by
    refine ⟨I.ok.mod, by show cenv.scope.kind = _; rw [hsc]; exact ok.kind, by show cenv.globals = _; rw [← hcenv]; exact I.ok.glob, by show cenv.builtins = _; rw [← hcenv]; rfl, by show s.heap.objs.size ≤ cenv.locals; rw [hL]; exact Nat.le_refl _,
      fun y z c e1 e2 => I.ok.inj y z c (mem e1).1 (mem e2).1, fun y hy => ?_, fun y c z e => (by cases z), fun _ => hA, by rw [← hcenv]; exact hfr, .inr ⟨rfl, by show cenv.frame = some cenv.locals; rw [hfrm, hL]⟩, fun b hb => ⟨?_, fun y c e z => ?_⟩, I.bs, Nat.le_trans I.ok.bsz I.sz, fun b o e hb => ?_, fun b hb z => ?_, I.stack, I.stkFree⟩
    · show ∃ c, cenv.cells.lookup y = some c
      have hy : cenv.scope.names.lookup y = some .cell ∨ cenv.scope.names.lookup y = some .free := hy
      rw [hsc] at hy
      rcases hy with hy | hy
      · exact absurd rfl (hnc _ (PySem.mem_of_lookup hy))
      · obtain ⟨c, h1, _⟩ := look hy
        exact ⟨c, h1⟩
    · show b ≠ cenv.locals
      rw [hL]; exact Nat.ne_of_lt (hfp b hb).2
    · have e : cenv.cells.lookup y = some c := e
      exact (hfp b hb).1.2.2.2.2.1 y c (mem e).1 z
    · rcases (hfp b hb).1.2.2.2.1 with z | z
      · exact I.ok.noex b o e z
      · exact absurd (Nat.lt_of_lt_of_le (Heap.lt_size e) (Nat.le_trans I.ok.bsz z)) (Nat.lt_irrefl _)
    · rcases List.mem_cons.mp (I.stkSub b z) with z | z
      · exact (hfp b hb).1.2.1 z
      · exact (hfp b hb).1.2.2.1 z
  refine ⟨okB, hos, hb, Un.kept hk, ⟨m0, by show s2.heap.Ns cenv.locals m0; rw [hL]; exact hns, fun i y av e1 e2 e3 => ?_⟩, fun y c e => ?_, ?_, fun y c e => ?_, fun p hp => ?_, I.hok.kept hk, by rw [wipe_length]; exact I.len⟩
  · obtain ⟨e2, hne⟩ := wipe_some e2
    have e3 : Vis cenv.scope y := e3
    rw [hsc] at e3
    have hfr : scope.names.lookup y = some .free := by
      rcases e3 with e3 | e3 | e3
      · rcases ok.own _ (PySem.mem_of_lookup e3) (.inl rfl) with e' | e'
        · obtain ⟨p, hp, hpy⟩ := List.mem_map.mp e'
          have e3 := ok.ix p hp
          have : p.1 = y := hpy
          rw [this] at e3
          exact absurd (List.mem_map.mpr ⟨p, hp, nodup_ix hN e3 e1⟩) hne
        · exact absurd (List.mem_of_getElem? e1) e'
      · exact absurd rfl (hnc _ (PySem.mem_of_lookup e3))
      · exact e3
    obtain ⟨m, hn, hl⟩ := I.loc
    have hvis : Vis X.env.scope y := (ok.free _ (PySem.mem_of_lookup hfr) rfl).elim (fun k => .inr (.inl k)) (fun k => .inr (.inr k))
    obtain ⟨w, r, q⟩ := hl i y av e1 e2 hvis
    refine ⟨w, r, .inr ⟨.inr (by show cenv.scope.names.lookup y = _; rw [hsc]; exact hfr), ?_⟩⟩
    obtain ⟨c, h1, h2⟩ := look hfr
    rcases q with ⟨k, _⟩ | ⟨_, c', e', z⟩
    · have k : X.env.scope.names.lookup y = some .local := k
      rcases ok.free _ (PySem.mem_of_lookup hfr) rfl with k' | k' <;> rw [show X.env.scope.names.lookup y = _ from k'] at k <;> cases k
    · rw [h2] at e'; cases e'
      exact ⟨c, h1, z.keeps hk⟩
  · have e : cenv.cells.lookup y = some c := e
    obtain ⟨w, z⟩ := I.cell y c (mem e).1
    exact ⟨w, z.keeps hk⟩
  · show H cenv.locals = none
    rw [hL]; exact I.hok.fresh (Nat.le_refl _)
  · have e : cenv.cells.lookup y = some c := e
    exact I.freeC y c (mem e).1
  · exact absurd (show p ∈ ([] : List (Addr × Obj)) ++ [] from hp) (by simp)
theorem gx_pinned {X : Cx} {A : Around} {s s1 : Shared} {H H' : Hp} {ce : Env} {fp : List Addr} {pn pins : List (Addr × Obj)} {σ : L2.St} (I : Inv (gxOf X A s H ce fp []) [] σ H' s1)
    (h : ∀ p ∈ pn ++ pins, s1.heap.get? p.1 = some p.2 ∧ H' p.1 = none ∧ p.1 ≠ ce.locals ∧ p.1 ∉ frs X.stack ∧ ∀ v, p.2.data ≠ .cell v) : Inv (gxOf X A s H ce fp pn) pins σ H' s1 :=
  ⟨⟨I.ok.mod, I.ok.kind, I.ok.glob, I.ok.blt, I.ok.above, I.ok.inj, I.ok.has, I.ok.cab, I.ok.hd, I.ok.frames, I.ok.stk, I.ok.exf, I.ok.bs, I.ok.bsz, I.ok.noex, I.ok.exfs, I.ok.funs, I.ok.frf⟩, I.os, I.bare, I.base, I.loc, I.cell, I.free, I.freeC, h, I.hok, I.len⟩
end
/-! ### the consumer's own object -/
/-- what is out stands in the consumer's object -/
abbrev OwnR := List V → Obj → Prop
structure SleptR (S : Addr) (RS : OwnR) (Cy : V → Prop) (y : V) (s s' : Shared) : Prop where
  go : Cy y
  os : s'.os = s.os
  bare : AllBare s'.gens
  keep : ∀ b o, b ≠ S → s.heap.get? b = some o → s'.heap.get? b = some o
  own : ∀ ys o, RS ys o → s.heap.get? S = some o → ∃ o', s'.heap.get? S = some o' ∧ RS (ys ++ [y]) o'
def GIR (X : Cx) (S : Addr) (RS : OwnR) (ip : List (Addr × Obj)) (ys : List V) (σ : L2.St) (H : Hp) (s : Shared) : Prop :=
  ∃ o, RS ys o ∧ Inv X ((S, o) :: ip) σ H s
theorem GIR.woken {X : Cx} {S : Addr} {RS : OwnR} {Cy : V → Prop} {ip : List (Addr × Obj)} {ys : List V} {y : V} {σ : L2.St} {H : Hp} {s s' : Shared} (hRS : ∀ ys o, RS ys o → ∀ v, o.data ≠ .cell v) (hpn : ∀ p ∈ X.pn, p.1 ≠ S) (hip : ∀ p ∈ ip, p.1 ≠ S) (hA : Apart X S)
    (h : GIR X S RS ip ys σ H s) (z : SleptR S RS Cy y s s') : GIR X S RS ip (ys ++ [y]) σ H s' := by
  obtain ⟨ob, r, I⟩ := h
  obtain ⟨eS, hS0, hSL, hSf, _⟩ := I.pin (S, ob) (List.mem_append_right _ List.mem_cons_self)
  have I0 : Inv X ip σ H s := I.pins_of fun p hp => I.pin p (List.mem_append_right _ (List.mem_cons_of_mem _ hp))
  have nt : ∀ b u, H b = some u → b ≠ S := fun b u q hb => by rw [hb, hS0] at q; cases q
  obtain ⟨_, z1, z2, z3, z4⟩ := z
  obtain ⟨ob', eS', r'⟩ := z4 ys ob r eS
  obtain ⟨hh, g, d, t, o⟩ := s'
  have ho : o = s.os := z1
  subst ho
  have nc : ∀ b, b ∉ [S] → b ≠ S := fun b hb e => hb (by rw [e]; exact List.mem_singleton.mpr rfl)
  have J : Inv X ip σ H { s with heap := hh, gens := g, drawn := d, toks := t } := by
    refine I0.step (g' := g) (t' := t) (d' := d) (ch := [S]) (fun b hb => ?_)
      (fun b ob _ _ hc q _ => z3 b ob (nc b hc) q) (fun b ob _ _ hc q _ => ⟨ob.slots, z3 b ob (nc b hc) q⟩) (fun _ _ _ _ n => n) (fun b ob hc q => ⟨ob, z3 b ob (nc b hc) q⟩)
      (fun _ _ q => q) (fun _ _ _ q => q) (fun b ps q => ⟨#[], by rw [q]; simp⟩) (fun m hm => ?_) (fun b u q => ?_) z2
    · rw [List.mem_singleton.mp hb]
      refine ⟨.inr hA.1, hA.2.1, hA.2.2, fun p hp => ?_⟩
      rcases List.mem_append.mp hp with hp | hp
      · exact hpn p hp
      · exact hip p hp
    · obtain ⟨ob, es, ep, ho, r⟩ := hm
      exact ⟨ob, es, ep, z3 _ ob (Ne.symm hSL) ho, r⟩
    · refine (I0.hok b u q).stay (fun c v hc y => z3 c v ?_ y) (fun _ y => y) fun _ _ y => y
      rcases hc with y | y
      · rw [y]; exact nt b u q
      · exact nt c _ y
  refine ⟨ob', r', J.pins_of fun p hp => ?_⟩
  rcases List.mem_cons.mp hp with hp | hp
  · rw [hp]
    exact ⟨eS', hS0, hSL, hSf, hRS _ _ r'⟩
  · exact J.pin p (List.mem_append_right _ hp)
/-! ### the turns -/
/-- what a turn of the generator does: Pf what is out is known of by the consumer as it goes on, Pd at the end -/
def GW (J : It) (g : TG) (tt : TT) (te : TE) (vs : List Nat) (σ : L2.St) (Cy : V → Prop) (Py : List V → V → Hp → Prop) (Pd : List V → Hp → Prop) (W : Nat → Nat → List V → Hp → Prop) : Prop :=
  ∀ i m ys H, W i m ys H → (J.stop i H ∧ Pd ys H) ∨ (J.go i H ∧ ∃ Nx : List V → Hp → Prop, (∀ ys' H', Nx ys' H' → ∃ m', m' < m ∧ W (i + 1) m' ys' H') ∧ ∀ x H', J.yld i H x H' → g x (wipe σ vs) H' fun σ2 H2 => wipe σ2 vs = wipe σ vs ∧ tt σ2 H2 fun b H3 =>
    if b = true then te σ2 H3 fun y H4 => ys.length < sizeLine ∧ Py ys y H4 ∧ (Cy y → Nx (ys ++ [y]) H4) else Nx ys H3)
abbrev gexp (elt tg iter : Expr) (ifs : List Expr) (scope : Scope) (pos : Pos) : Expr := .GeneratorExp elt [⟨tg, iter, ifs, 0⟩] scope pos
abbrev gexN (elt tg iter : Expr) (ifs : List Expr) (rest : List Comprehension) (scope : Scope) (pos : Pos) : Expr := .GeneratorExp elt (⟨tg, iter, ifs, 0⟩ :: rest) scope pos
theorem over_gen {A : Around} {elt tg iter : Expr} {ifs : List Expr} {rest : List Comprehension} {scope : Scope} {pos : Pos} {it : Value} {ce : Env} : A.over (.compLoop (gexN elt tg iter ifs rest scope pos) 0 it .none ce) [] = A.deeper ce := by
  first
    | rfl
    | (obtain ⟨hd, d, fr, gs, u⟩ := A; simp [Around.over, Around.deeper, marksOver, frameCount, unitsOf, envsOf, guardsOf, pushEnvs, pushGuards, Code.envs, Code.env?, Code.isFrame, Code.guards, Code.isGuard, Code.weight, Code.frames, Code.isCreation, Code.isCaller, Code.cUnits])
section
variable {X : Cx} {S : Addr} {RS : OwnR} {s3 : Shared} {H3 : Hp} {ce : Env} {fp : List Addr} {pn : List (Addr × Obj)} {Aw : Around} {elt tg iter : Expr} {ifs : List Expr} {scope : Scope} {pos : Pos} {it : Addr} {tn : Nat → Heap → Prop} {J : It} {g : TG} {tt : TT} {te : TE} {vs : List Nat} {σ : L2.St}
  {Cy : V → Prop} {Py : List V → V → Hp → Prop} {Pd : List V → Hp → Prop} {W : Nat → Nat → List V → Hp → Prop} {R : GenEnd} {YP : Protocol}
theorem seg_gx (hc : X.calm = true) (hco : ce.scope.isCoroutine = false) (T : Turn X.prog X.w X.K tg J fp it tn) (pg : PG (gxOf X (Aw.deeper ce) s3 H3 ce fp pn) tg g) (pt : PTs (gxOf X (Aw.deeper ce) s3 H3 ce fp pn) ifs tt) (pe : PE (gxOf X (Aw.deeper ce) s3 H3 ce fp pn) elt te)
    (hturn : GW J g tt te vs σ Cy Py Pd W) (hRS : ∀ ys o, RS ys o → ∀ v, o.data ≠ .cell v) (hpn : ∀ p ∈ pn, p.1 ≠ S ∧ ∀ b ∈ fp, p.1 ≠ b) (hS : ∀ b ∈ fp, b ≠ S) (hA : Apart (gxOf X (Aw.deeper ce) s3 H3 ce fp pn) S)
    (hR : ∀ n s₀ ys ip σ' H' s', n + ys.length = sizeLine → GIR (gxOf X (Aw.deeper ce) s3 H3 ce fp pn) S RS ip ys σ' H' s' → Pd ys H' → R n s₀ (.ok .next) s')
    (hY : ∀ n s₀ ys y v ip σ' H' s' kap, n + 1 + ys.length = sizeLine → RelV y v → GIR (gxOf X (Aw.deeper ce) s3 H3 ce fp pn) S RS ip ys σ' H' s' → Py ys y H' → (∀ s'', SleptR S RS Cy y s' s'' → kap (.send .none) s'') → YP n s₀ v s' kap) :
    ∀ (m i n : Nat) (ys : List V) (s₀ s : Shared) (H : Hp), n + ys.length = sizeLine → W i m ys H → tn i s.heap → (∀ b ∈ fp, H b = none) → GIR (gxOf X (Aw.deeper ce) s3 H3 ce fp pn) S RS [] ys (wipe σ vs) H s →
      Seg (model X.prog X.w) Aw R YP n s₀ (.compLoop (gexp elt tg iter ifs scope pos) 0 (.ref it) .none ce) ((model X.prog X.w).den (.compLoop (gexp elt tg iter ifs scope pos) 0 (.ref it) .none ce)) [] s := by
  intro m
  induction m using Nat.strongRecOn with
  | ind m ih =>
    intro i n ys s₀ s H hn w5 st5 n5 hG
    obtain ⟨ob, rs, I5⟩ := hG
    have stat : ∀ {σ' : L2.St} {H' : Hp} {s' : Shared} {o' : Obj}, Inv (gxOf X (Aw.deeper ce) s3 H3 ce fp pn) [(S, o')] σ' H' s' → (∀ b ∈ fp, H' b = none) → ∀ b ∈ fp, FpOk (gxOf X (Aw.deeper ce) s3 H3 ce fp pn) [(S, o')] H' b := fun {σ' H' s' o'} I' hn b hb =>
      ⟨hn b hb, (I'.ok.exf b hb).1, I'.ok.exfs b hb, .inl hb, fun x c e => (I'.ok.exf b hb).2 x c e, fun p hp => by
        rcases List.mem_append.mp hp with z | z
        · exact (hpn p z).2 b hb
        · rw [List.mem_singleton.mp z]
          exact Ne.symm (hS b hb)⟩
    show Seg _ Aw _ _ _ s₀ _ ((compTurn (gexp elt tg iter ifs scope pos) 0 (.ref it) .none ce).onRaise (leaving ce)) [] s
    rw [compTurn_gen, Sem.onRaise_eq_wrap]
    refine seg_bind_wrap (wpAny_standAt ?_)
    rcases hturn i m ys H w5 with ⟨stop, qq⟩ | ⟨go, Nx, hNx, step⟩
    · refine seg_bind_wrap ?_
      rw [over_gen]
      have td := T.done (gxOf X (Aw.deeper ce) s3 H3 ce fp pn) rfl rfl rfl hc i _ s _ H (fun _ _ => False) I5 (stat I5 n5) st5 stop
      refine thnF td fun r s6 ⟨hr, I6⟩ => ?_
      subst hr
      exact seg_end (.ok .next) (hR n s₀ ys [] _ H s6 hn ⟨ob, rs, I6⟩ qq)
    · refine seg_bind_wrap ?_
      rw [over_gen]
      have ti := T.item (gxOf X (Aw.deeper ce) s3 H3 ce fp pn) rfl rfl rfl hc i _ s _ H (fun _ _ => False) I5 (stat I5 n5) st5 go
      refine thnF ti fun r s6 ⟨u, hr, h6⟩ => ?_
      subst hr
      refine seg_bind_wrap ?_
      rw [over_gen]
      refine thnF h6 fun _ s7 ⟨x, H7, I7, r7, y7, st7, n7⟩ => ?_
      have I7' := I7.pinned (stat I7 n7) (T.obj _ _ st7)
      refine seg_bind_wrap ?_
      rw [over_gen]
      refine thnF (pg.run _ s7 _ H7 x u _ I7' r7 (step x H7 y7)) fun _ s8 ⟨σ8, H8, I8, hw8, q8⟩ => ?_
      refine seg_bind_wrap ?_
      rw [over_gen]
      refine thnF (pt.run _ s8 σ8 H8 _ I8 q8) fun b s9 ⟨H9, I9, q9⟩ => ?_
      have fin : ∀ {s₀ s' : Shared} {H' : Hp} {o' : Obj} {ys' : List V} {n' : Nat}, n' + ys'.length = sizeLine → RS ys' o' → Inv (gxOf X (Aw.deeper ce) s3 H3 ce fp pn) ([(S, o')] ++ pinsAt fp s7.heap) σ8 H' s' → Nx ys' H' →
          Seg (model X.prog X.w) Aw R YP n' s₀ (.compLoop (gexp elt tg iter ifs scope pos) 0 (.ref it) .none ce) ((model X.prog X.w).den (.compLoop (gexp elt tg iter ifs scope pos) 0 (.ref it) .none ce)) [] s' := fun {s₀ s' H' o' ys' n'} hn' rs' I' nx => by
        obtain ⟨m', hm, w'⟩ := hNx ys' H' nx
        have pin' : ∀ b ∈ fp, ∀ o, s7.heap.get? b = some o → s'.heap.get? b = some o ∧ H' b = none := fun b hb o e =>
          let z := I'.pin (b, o) (List.mem_append_right _ (List.mem_append_right _ (mem_pinsAt hb e)))
          ⟨z.1, z.2.1⟩
        have hl : (wipe σ vs).length = σ8.length := by rw [← hw8, wipe_length]
        refine ih m' hm (i + 1) n' ys' s₀ s' H' hn' w' (T.keep _ _ _ st7 fun b hb o e => (pin' b hb o e).1) (fun b hb => ?_) ⟨o', rs', (I'.unpinned (pins := [(S, o')])).weak hl (fun j v e => ?_)⟩
        · obtain ⟨o, e, _⟩ := T.obj _ _ st7 b hb
          exact (pin' b hb o e).2
        · rw [← hw8] at e
          exact (wipe_some e).1
      cases b with
      | false =>
        simp only [Bool.false_eq_true, if_false] at q9 ⊢
        exact seg_again rfl (fin hn rs I9 q9)
      | true =>
        simp only [if_true] at q9 ⊢
        have hy : ∀ v, yieldOut ce v = yieldValue v := fun v => by simp only [yieldOut, hco, Bool.false_eq_true, if_false]
        simp only [hy]
        rw [Sem.bind_eq_wrap', Sem.bind_eq_wrap', Sem.wrap_wrap, Sem.wrap_wrap]
        refine seg_wrap ?_
        rw [over_gen]
        refine thnF (pe.run _ s9 σ8 H9 _ I9 q9) fun z s10 ⟨yv, H10, I10, r10, hlt, py, nx⟩ => ?_
        obtain ⟨n, rfl⟩ : ∃ k, n = k + 1 := ⟨n - 1, by omega⟩
        have G10 : GIR (gxOf X (Aw.deeper ce) s3 H3 ce fp pn) S RS (pinsAt fp s7.heap) ys σ8 H10 s10 := ⟨ob, rs, I10⟩
        refine seg_at (seg_yield rfl rfl rfl (hY n s₀ ys yv z _ σ8 H10 s10 _ hn r10 G10 py fun s'' zz => ?_))
        obtain ⟨o', rs', I''⟩ := G10.woken hRS (fun p hp => (hpn p hp).1) (fun p hp => hS _ (of_pinsAt hp).1) hA zz
        refine seg_again rfl (fin (by rw [List.length_append, List.length_singleton]; omega) rs' I'' (nx zz.go))
end
end Ph
namespace Ph
open PySem PySem.Spec PyProof.Rows L2 GenW
/-- the end, as the frame that made it sees it -/
def REG (X : Cx) (pins : List (Addr × Obj)) (σ : L2.St) (S a : Addr) (gi : Nat) (RS : OwnR) (Pd : List V → Hp → Prop) : GenEnd := fun n s₀ r s1 =>
  r = .ok .next ∧ ∃ ys H' o, n + ys.length = sizeLine ∧ Inv X pins σ H' s1 ∧ s1.heap.get? S = some o ∧ RS ys o ∧ H' S = none ∧ s1.heap.IsGen a gi ∧ Pd ys H'
/-- an item is handed out -/
def YEG (X : Cx) (pins : List (Addr × Obj)) (σ : L2.St) (S a : Addr) (gi : Nat) (RS : OwnR) (Cy : V → Prop) (Py : List V → V → Hp → Prop) : Protocol := fun n s₀ v s1 kap =>
  ∃ ys y H' o, n + 1 + ys.length = sizeLine ∧ RelV y v ∧ Inv X pins σ H' s1 ∧ s1.heap.get? S = some o ∧ RS ys o ∧ H' S = none ∧ s1.heap.IsGen a gi ∧ Py ys y H' ∧ ∀ s', SleptR S RS Cy y s1 s' → kap (.send .none) s'
/-- a generator that has not begun -/
def MadeX (X : Cx) (k : Nat) (pins : List (Addr × Obj)) (σ : L2.St) (Cy : V → Prop) (Py : List V → V → Hp → Prop) (Pd : List V → Hp → Prop) (u : Value) (s' : Shared) : Prop :=
  ∃ (a : Addr) (gi : Nat) (c : Code) (go : Obj) (H' : Hp), u = .ref a ∧ Inv X pins σ H' s' ∧ s'.heap.get? a = some go ∧ (∀ h : Heap, h.get? a = some go → h.IsGen a gi) ∧ (∀ v, go.data ≠ .cell v) ∧ s'.gens[gi]? = some (.fresh c) ∧ H' a = none ∧
    ∀ (A : Around) (S : Addr) (RS : OwnR) (s2 : Shared) (o : Obj), Room k A → A.frames = some X.stack → ((S = a ∧ ∀ ys o, RS ys o → o = go) ∨ s'.heap.objs.size ≤ S) → (∀ ys o, RS ys o → ∀ v, o.data ≠ .cell v) → (∀ b o, s'.heap.get? b = some o → s2.heap.get? b = some o) →
      s2.heap.get? S = some o → RS [] o → s2.os = s'.os → AllBare s2.gens →
      Seg (model X.prog X.w) A (REG X pins σ S a gi RS Pd) (YEG X pins σ S a gi RS Cy Py) sizeLine s2 c ((model X.prog X.w).den c) [] s2
/-- the names of a generator expression's block -/
structure GenSX (sc : Scope) : Prop where
  co : sc.isCoroutine = false
  cell : ∀ y ∈ sc.names, y.2 ≠ .cell
  dot : sc.names.lookup (".0" : Str) = some NameKind.local
def tGenX (P : Addr) (wi : TI) (g : TG) (tt : TT) (te : TE) (vs : List Nat) (Cy : V → Prop) (Py : List V → V → Hp → Prop) (Pd : List V → Hp → Prop) (σ : L2.St) (H : Hp) : Prop :=
  wi σ H fun J H1 => GxR.TabG H1 P ∧ ∀ H2, GxR.Tabbed P H1 H2 → ∃ W : Nat → Nat → List V → Hp → Prop, (∃ m, W 0 m [] H2) ∧ GW J g tt te vs σ Cy Py Pd W
theorem eval_GeneratorExpN (elt target iter : Expr) (ifs : List Expr) (rest : List Comprehension) (scope : Scope) (pos : Pos) (env : Env) (hco : scope.isCoroutine = false) :
    eval (.GeneratorExp elt (⟨target, iter, ifs, 0⟩ :: rest) scope pos) env = (do
      let x ← eval iter env
      standAt iter.pos
      let x ← genFold iter env x
      let it ← holding [x] (pyIter x)
      enterFrame
      let cl ← closureFor scope env
      let code ← genexprCode env pos (env.qual ++ "<genexpr>") scope
      let bi ← builtinsFor env.globals env.builtins
      let cenv ← newFunctionEnv scope env.globals cl [(".0", it)] (env.qual ++ "<genexpr>.") none code none bi
      newGenerator (.compStart (.GeneratorExp elt (⟨target, iter, ifs, 0⟩ :: rest) scope pos) 0 it .none cenv) "<genexpr>" (env.qual ++ "<genexpr>")) := by
  rw [arm_eval_GeneratorExp]
  simp only [hco, Bool.false_eq_true, if_false]
  cases iter <;> rfl
theorem wpAny_GeneratorExp_makeN {M : Model} {A : Around} {E : Value → Shared → Prop} {s : Shared} {env : Env} {elt target iter : Expr} {ifs : List Expr} {rest : List Comprehension} {scope : Scope} {cl : List (Str × Addr)} {pos : Pos} {Q : Value → Shared → Prop}
    (hco : scope.isCoroutine = false) (hclos : closureFor scope env = pure cl) (hcell : ∀ y ∈ scope.names, y.2 ≠ .cell) (h0 : scope.names.lookup (".0" : Str) = some NameKind.local) (hkind : scope.kind = .function)
    (hroom : A.depth < recursionLimit)
    (h : wpAny M A (eval iter env) (fun xv s₁ => wpAny M A (pyIter xv) (fun it s₂ => s₂.heap.NoLimit ∧
      wpAny M A (genexprCode env pos (env.qual ++ "<genexpr>") scope) (fun code s₃ => wpAny M A (builtinsFor env.globals env.builtins) (fun bi s₄ =>
        ∀ h', h'.Ns s₄.heap.objs.size (fun y => if y = ".0" then some it else none) → Heap.SameBut s₄.heap.objs.size (s₄.heap.push { cls := .type "frame", data := .dict #[] }) h' →
          Q (.ref h'.objs.size) { s₄ with
            gens := s₄.gens.push (.fresh (.compStart (.GeneratorExp elt (⟨target, iter, ifs, 0⟩ :: rest) scope pos) 0 it .none (genEnv scope cl s₄.heap.objs.size code bi env))),
            toks := s₄.toks + 1 + 1 + 1,
            heap := h'.push { cls := .type "generator", data := .fields #[.int s₄.gens.size 0, .str "<genexpr>" (s₄.toks + 1), .str (env.qual ++ "<genexpr>") (s₄.toks + 1 + 1)] } }) E s₃) E s₂) E s₁) E s)
    (hs : ∀ x, genFold iter env x = pure x) :
    wpAny M A (eval (.GeneratorExp elt (⟨target, iter, ifs, 0⟩ :: rest) scope pos) env) Q E s := by
  rw [eval_GeneratorExpN _ _ _ _ _ _ _ _ hco, hclos]
  refine wpAny_bind (wpAny_mono h (fun xv s₁ h₁ => ?_) fun _ _ e => e)
  refine wpAny_bind (wpAny_standAt ?_)
  refine wpAny_bind (wpAny_of_eq (hs xv) ?_)
  refine wpAny_bind (wpAny_holding (wpAny_mono h₁ (fun it s₂ h₂ => ?_) fun _ _ e => e))
  refine wpAny_bind (wpAny_enterFrame h₂.1 hroom ?_)
  refine wpAny_bind (wpAny_pure ?_)
  refine wpAny_bind (wpAny_mono h₂.2 (fun code s₃ h₃ => ?_) fun _ _ e => e)
  refine wpAny_bind (wpAny_mono h₃ (fun bi s₄ h₄ => ?_) fun _ _ e => e)
  have hbinds : ∀ y ∈ ([((".0" : Str), it)] : List (Str × Value)), scope.names.lookup y.1 = some NameKind.local := by
    intro y hy
    rcases List.mem_cons.mp hy with rfl | hy
    · exact h0
    · cases hy
  refine wpAny_bind (wpAny_newFunctionEnv hcell hbinds (fun h' hn' hs' => ?_) hkind)
  have e : (fun y : Str => ([((".0" : Str), it)] : List (Str × Value)).reverse.lookup y) = fun y : Str => if y = (".0" : Str) then some it else none := by
    funext y
    by_cases hy : y = ".0"
    · subst hy; simp
    · have : (y == (".0" : Str)) = false := by simpa using hy
      simp [List.lookup, this, hy]
  rw [e] at hn'
  simp only [newGenerator, newFields]
  refine wpAny_bind (wpAny_newGen (wpAny_bind (wpAny_mkText (wpAny_bind (wpAny_mkText (wpAny_newObj_type ?_ (by size_fits)))))))
  exact h₄ h' hn' hs'
/-- the loop of a generator's block, from its first turn: Gj what is known of its iterator -/
def LoopX (X : Cx) (k : Nat) (σ : L2.St) (elt tg iter : Expr) (ifs : List Expr) (rest : List Comprehension) (scope : Scope) (gpos : Pos) (vs : List Nat) (Gj : It → Hp → Prop) (Cy : V → Prop) (Py : List V → V → Hp → Prop) (Pd : List V → Hp → Prop) : Prop :=
  ∀ (Aw : Around) (S : Addr) (RS : OwnR) (s3 : Shared) (H3 : Hp) (C : Addr) (code : Value) (fp : List Addr) (pn : List (Addr × Obj)) (it : Addr) (tn : Nat → Heap → Prop) (J : It) (R : GenEnd) (YP : Protocol), Room k (Aw.deeper (gxEnv X scope C code)) → Turn X.prog X.w X.K tg J fp it tn →
    (∀ ys o, RS ys o → ∀ v, o.data ≠ .cell v) → (∀ p ∈ pn, p.1 ≠ S ∧ ∀ b ∈ fp, p.1 ≠ b) → (∀ b ∈ fp, b ≠ S) → Apart (gxOf X (Aw.deeper (gxEnv X scope C code)) s3 H3 (gxEnv X scope C code) fp pn) S →
    (∀ n s₀ ys ip σ' H' s', n + ys.length = sizeLine → GIR (gxOf X (Aw.deeper (gxEnv X scope C code)) s3 H3 (gxEnv X scope C code) fp pn) S RS ip ys σ' H' s' → Pd ys H' → R n s₀ (.ok .next) s') →
    (∀ n s₀ ys y v ip σ' H' s' kap, n + 1 + ys.length = sizeLine → RelV y v → GIR (gxOf X (Aw.deeper (gxEnv X scope C code)) s3 H3 (gxEnv X scope C code) fp pn) S RS ip ys σ' H' s' → Py ys y H' → (∀ s'', SleptR S RS Cy y s' s'' → kap (.send .none) s'') → YP n s₀ v s' kap) →
    ∀ (s₀ s : Shared) (H : Hp), Gj J H → tn 0 s.heap → (∀ b ∈ fp, H b = none) → GIR (gxOf X (Aw.deeper (gxEnv X scope C code)) s3 H3 (gxEnv X scope C code) fp pn) S RS [] [] (wipe σ vs) H s →
      Seg (model X.prog X.w) Aw R YP sizeLine s₀ (.compLoop (gexN elt tg iter ifs rest scope gpos) 0 (.ref it) .none (gxEnv X scope C code)) ((model X.prog X.w).den (.compLoop (gexN elt tg iter ifs rest scope gpos) 0 (.ref it) .none (gxEnv X scope C code))) [] s
section
variable {X : Cx} {pins : List (Addr × Obj)} {σ : L2.St} {H : Hp} {s : Shared}
theorem gen_madeN {c P : Addr} {elt tg iter : Expr} {ifs : List Expr} {rest : List Comprehension} {scope : Scope} {own : List (Str × Nat)} {gpos : Pos} {wi : TI} {Gj : It → Hp → Prop} {k : Nat} {Cy : V → Prop} {Py : List V → V → Hp → Prop} {Pd : List V → Hp → Prop} {Qz : Value → Shared → Prop}
    (hr : Room k X.A) (hN : X.N.Nodup) (TB : GxR.TabB X.base X.mg c P) (hcode : X.env.code = .ref c) (S : GenSX scope) (hi : PI X tg iter wi) (ok : BlkOk X.N X.env.scope scope own)
    (hl : LoopX X k σ elt tg iter ifs rest scope gpos (own.map (·.2)) Gj Cy Py Pd)
    (hs : ∀ v, genFold iter X.env v = pure v) (I : Inv X pins σ H s) (h : wi σ H fun J H1 => GxR.TabG H1 P ∧ ∀ H2, GxR.Tabbed P H1 H2 → Gj J H2)
    (hQ : ∀ u z, MadeX X (k + 1) pins σ Cy Py Pd u z → Qz u z) :
    wpAny (model X.prog X.w) X.A (eval (gexN elt tg iter ifs rest scope gpos) X.env) Qz X.xe s := by
  have hfree : ∀ y ∈ scope.names, y.2 = .free → ∃ c, X.env.cells.lookup y.1 = some c := fun y hy e => by
    rcases ok.free y hy e with k | k
    · exact I.ok.has _ (.inl k)
    · exact I.ok.has _ (.inr k)
  refine wpAny_GeneratorExp_makeN S.co (closure_ok hfree) S.cell S.dot ok.kind (by have := hr.dp; omega) ?_ hs
  refine thn (hi.run pins s σ H _ I h) fun xv s1 hx => thn hx fun itv s2 h2 => ?_
  obtain ⟨it, fp, tn, J, H2, rfl, I2, T, st2, f2, ⟨tb, hP, ht0⟩, q⟩ := h2
  have hPs : s2.heap.get? P = some { cls := .none, data := .fields tb } := I2.hok P _ hP
  have hPlt : P < s2.heap.objs.size := Heap.lt_size hPs
  have cd : PySem.W.CodeHd s2.heap c P := TB.code.keeps fun b u e => I2.bk b u e
  have lim2 : s2.heap.NoLimit := I2.nolimit
  have cont : ∀ (code : Value) (h3 : Heap) (tk : Nat) (tb2 : Array Value), Heap.ExtBut P s2.heap h3 → s2.heap.objs.size ≤ h3.objs.size → h3.get? P = some { cls := .none, data := .fields tb2 } → (∃ more, tb2 = tb ++ more) → TriplesOk tb2.toList →
      wpAny (model X.prog X.w) X.A (builtinsFor X.env.globals X.env.builtins) (fun bi s₄ =>
        ∀ h', h'.Ns s₄.heap.objs.size (fun y => if y = ".0" then some (.ref it) else none) → Heap.SameBut s₄.heap.objs.size (s₄.heap.push { cls := .type "frame", data := .dict #[] }) h' →
          Qz (.ref h'.objs.size) { s₄ with
            gens := s₄.gens.push (.fresh (.compStart (gexN elt tg iter ifs rest scope gpos) 0 (.ref it) .none (genEnv scope (cloFrom X.env.cells scope.names []) s₄.heap.objs.size code bi X.env))),
            toks := s₄.toks + 1 + 1 + 1,
            heap := h'.push { cls := .type "generator", data := .fields #[.int s₄.gens.size 0, .str "<genexpr>" (s₄.toks + 1), .str (X.env.qual ++ "<genexpr>") (s₄.toks + 1 + 1)] } }) X.xe { s2 with heap := h3, toks := tk } := by
    intro code h3 tk tb2 hx hsz hP3 hmore ht3
    obtain ⟨more, em⟩ := hmore
    obtain ⟨bm, ob, e1, e2, e3, e4, e5, e6, e7, e8⟩ := TB.bm
    have ns3 : h3.Ns mainGlobals X.mg := (I2.mod.glob.keeps I2.bk).extBut hx TB.gP
    refine wpAny_builtinsFor (m := X.mg) (by rw [I2.ok.glob]; exact ns3) e1 e2 (hx _ _ e4 (I2.bk _ _ e5)) e6 e7 e8 ?_
    have I3 : Inv X pins σ (upd H2 P (.tbl (tb ++ more))) { s2 with heap := h3, toks := tk } :=
      GxR.inv_tab (more := more) (h' := h3) (g' := s2.gens) (d' := s2.drawn) (t' := tk) I2 hP (fun b u hb e => hx b u hb e) (by rw [← em]; exact hP3) I2.bare
    have hT : GxR.Tabbed P H2 (upd H2 P (.tbl (tb ++ more))) := ⟨⟨tb ++ more, upd_same, by rw [← em]; exact ht3⟩, fun b hb => upd_ne hb⟩
    have w0 := q _ hT
    have hfpP : ∀ b ∈ fp, b ≠ P := fun b hb z => by
      have := (f2 b hb).1
      rw [z, hP] at this; cases this
    have st3 : tn 0 h3 := T.keep _ _ _ st2 fun b hb o e => hx b o (hfpP b hb) e
    have f3 : ∀ b ∈ fp, FpOk X pins (upd H2 P (.tbl (tb ++ more))) b ∧ b < h3.objs.size := fun b hb => by
      obtain ⟨o, e, _⟩ := T.obj _ _ st2 b hb
      exact ⟨⟨by rw [upd_ne (hfpP b hb)]; exact (f2 b hb).1, (f2 b hb).2⟩, Nat.lt_of_lt_of_le (Heap.lt_size e) hsz⟩
    generalize hs3 : ({ s2 with heap := h3, toks := tk } : Shared) = s3 at I3
    generalize hH3 : upd H2 P (.tbl (tb ++ more)) = H3 at I3 w0 f3
    have eh : s3.heap = h3 := by rw [← hs3]
    rw [← eh] at st3 f3
    intro h' hn' hs'
    have keep' : ∀ b o, s3.heap.get? b = some o → h'.get? b = some o := fun b o e => hs'.extBut b o (Nat.ne_of_lt (Heap.lt_size e)) (Heap.get?_push_of_some _ e)
    have sz' : h'.objs.size = s3.heap.objs.size + 1 := by rw [hs'.1, Heap.size_push]
    have main : ∀ (go : Obj) (tk2 : Nat), (∀ h : Heap, h.get? h'.objs.size = some go → h.IsGen h'.objs.size s3.gens.size) → (∀ v, go.data ≠ .cell v) → (h'.push go).get? h'.objs.size = some go →
        Qz (.ref h'.objs.size) { s3 with gens := s3.gens.push (.fresh (.compStart (gexN elt tg iter ifs rest scope gpos) 0 (.ref it) .none (gxEnv X scope s3.heap.objs.size code))), toks := tk2, heap := h'.push go } := by
      intro go tk2 hgen hcell hpushed
      have keep5 : ∀ b o, s3.heap.get? b = some o → (h'.push go).get? b = some o := fun b o e => Heap.get?_push_of_some _ (keep' b o e)
      have I5 : Inv X pins σ H3 { s3 with gens := s3.gens.push (.fresh (.compStart (gexN elt tg iter ifs rest scope gpos) 0 (.ref it) .none (gxEnv X scope s3.heap.objs.size code))), toks := tk2, heap := h'.push go } :=
        I3.call' (ch := []) rfl (Un.kept keep5) (I3.hok.kept keep5) (AllBare.push I3.bare rfl) fun b z => by simp at z
      have young : ∀ b, s3.heap.objs.size < b → H3 b = none ∧ b ≠ s3.heap.objs.size ∧ b ∉ frs X.stack := fun b hb => ⟨I3.hok.fresh (Nat.le_of_lt hb), Nat.ne_of_gt hb, fun z => by
        rcases List.mem_cons.mp (I3.stkSub b z) with z | z
        · rw [z] at hb
          exact absurd (Nat.lt_trans hb I3.lt) (Nat.lt_irrefl _)
        · exact I3.nofs (Nat.le_of_lt hb) z⟩
      have hza : s3.heap.objs.size < h'.objs.size := by rw [sz']; exact Nat.lt_succ_self _
      refine hQ _ _ ⟨h'.objs.size, s3.gens.size, _, go, H3, rfl, I5, hpushed, hgen, hcell, Array.getElem?_push_size .., (young _ hza).1, ?_⟩
      intro A Sx RS sw o hrA hfrA hSx hRS hkw hSo hRS0 hosw hbw
      have hkw3 : ∀ b o, s3.heap.get? b = some o → sw.heap.get? b = some o := fun b o e => hkw b o (keep5 b o e)
      have hSy : s3.heap.objs.size < Sx := by
        rcases hSx with ⟨z, _⟩ | z
        · rw [z]; exact hza
        · have z : (h'.push go).objs.size ≤ Sx := z
          rw [Heap.size_push] at z
          omega
      have I6 := gx_start (s := s3) (s2 := sw) (A := A.deeper (gxEnv X scope s3.heap.objs.size code)) (code := code) (m0 := fun y => if y = ".0" then some (.ref it) else none) I3 ok S.cell hN f3 hrA.hd (by show (A.frames.map _) = _; rw [hfrA]; rfl)
        ((hn'.push go).keeps hkw) hkw3 hosw hbw
      have hcell' : ∀ v, o.data ≠ .cell v := hRS _ _ hRS0
      have hea : sw.heap.get? h'.objs.size = some go := hkw _ go hpushed
      -- what is pinned beside the consumer's object
      obtain ⟨pn, hpn1, hpn2, hgp⟩ : ∃ pn : List (Addr × Obj), (∀ p ∈ pn, p = (h'.objs.size, go)) ∧ (∀ p ∈ pn, p.1 ≠ Sx) ∧
          (∀ {ip : List (Addr × Obj)} {ys : List V} {s' : Shared} {σ' : L2.St} {H' : Hp}, GIR (gxOf X (A.deeper (gxEnv X scope s3.heap.objs.size code)) s3 H3 (gxEnv X scope s3.heap.objs.size code) fp pn) Sx RS ip ys σ' H' s' → s'.heap.IsGen h'.objs.size s3.gens.size) := by
        rcases hSx with ⟨z, hz⟩ | z
        · refine ⟨[], fun p hp => absurd hp (by simp), fun p hp => absurd hp (by simp), fun {ip ys s' σ' H'} hI => ?_⟩
          obtain ⟨o', r', J'⟩ := hI
          have e := (J'.pin (Sx, o') (List.mem_append_right _ List.mem_cons_self)).1
          rw [hz _ _ r', z] at e
          exact hgen _ e
        · refine ⟨[(h'.objs.size, go)], fun p hp => List.mem_singleton.mp hp, fun p hp => ?_, fun {ip ys s' σ' H'} hI => ?_⟩
          · rw [List.mem_singleton.mp hp]
            have z : (h'.push go).objs.size ≤ Sx := z
            rw [Heap.size_push] at z
            exact Nat.ne_of_lt z
          · obtain ⟨o', r', J'⟩ := hI
            exact hgen _ (J'.pin (h'.objs.size, go) (List.mem_append_left _ (List.mem_singleton.mpr rfl))).1
      have hG : GIR (gxOf X (A.deeper (gxEnv X scope s3.heap.objs.size code)) s3 H3 (gxEnv X scope s3.heap.objs.size code) fp pn) Sx RS [] [] (wipe σ (own.map (·.2))) H3 sw := by
        refine ⟨o, hRS0, gx_pinned I6 fun p hp => ?_⟩
        rcases List.mem_append.mp hp with z | z
        · rw [hpn1 p z]
          obtain ⟨y1, y2, y3⟩ := young _ hza
          exact ⟨hea, y1, y2, y3, hcell⟩
        · rw [List.mem_singleton.mp z]
          obtain ⟨y1, y2, y3⟩ := young _ hSy
          exact ⟨hSo, y1, y2, y3, hcell'⟩
      have hAp : Apart (gxOf X (A.deeper (gxEnv X scope s3.heap.objs.size code)) s3 H3 (gxEnv X scope s3.heap.objs.size code) fp pn) Sx :=
        ⟨Nat.le_of_lt hSy, (young _ hSy).2.1, fun x cc e z => by
          obtain ⟨v, ob, ho, _⟩ := I6.cell x cc e
          have hl : ∃ v, s3.heap.IsCell cc v := by
            have e : (cloFrom X.env.cells scope.names []).lookup x = some cc := e
            rcases cloFrom_mem (PySem.mem_of_lookup e) with hm | ⟨h1, h2⟩
            · cases hm
            · obtain ⟨c2, hc2⟩ := hfree _ h1 rfl
              have hc2 : X.env.cells.lookup x = some c2 := hc2
              rw [hc2] at h2
              have h2 : cc = c2 := h2
              rw [h2]
              exact I3.cell _ _ hc2
          obtain ⟨v2, z2⟩ := hl
          have := z2.lt
          rw [z] at this
          exact absurd (Nat.lt_trans this hSy) (Nat.lt_irrefl _)⟩
      have back : ∀ {ip : List (Addr × Obj)} {ys : List V} {s' : Shared} {σ' : L2.St} {H' : Hp}, GIR (gxOf X (A.deeper (gxEnv X scope s3.heap.objs.size code)) s3 H3 (gxEnv X scope s3.heap.objs.size code) fp pn) Sx RS ip ys σ' H' s' →
          ∃ o, Inv X pins σ H' s' ∧ s'.heap.get? Sx = some o ∧ RS ys o ∧ H' Sx = none := fun {ip ys s' σ' H'} hI => by
        obtain ⟨o', r', J'⟩ := hI
        obtain ⟨p1, p2, _⟩ := J'.pin (Sx, o') (List.mem_append_right _ List.mem_cons_self)
        exact ⟨o', I3.call' (ch := fp) J'.os J'.base J'.hok J'.bare fun b hb => ⟨(f3 b hb).1.2.2.2.1, (f3 b hb).1.2.1, (f3 b hb).1.2.2.2.2.1, (f3 b hb).1.2.2.2.2.2⟩, p1, r', p2⟩
      have hfa : ∀ b ∈ fp, b ≠ h'.objs.size := fun b hb => Nat.ne_of_lt (Nat.lt_trans (f3 b hb).2 hza)
      have rd : Room k (A.deeper (gxEnv X scope s3.heap.objs.size code)) := hrA.deeper _
      have loop : ∀ s₀, Seg (model X.prog X.w) A (REG X pins σ Sx h'.objs.size s3.gens.size RS Pd) (YEG X pins σ Sx h'.objs.size s3.gens.size RS Cy Py) sizeLine s₀ (.compLoop (gexN elt tg iter ifs rest scope gpos) 0 (.ref it) .none (gxEnv X scope s3.heap.objs.size code)) ((model X.prog X.w).den (.compLoop (gexN elt tg iter ifs rest scope gpos) 0 (.ref it) .none (gxEnv X scope s3.heap.objs.size code))) [] sw := fun s₀ =>
        hl A Sx RS s3 H3 s3.heap.objs.size code fp pn it tn J _ _ rd T hRS (fun p hp => ⟨hpn2 p hp, fun b hb => by rw [hpn1 p hp]; exact Ne.symm (hfa b hb)⟩)
          (fun b hb => Nat.ne_of_lt (Nat.lt_trans (f3 b hb).2 hSy)) hAp
          (fun n s₀ ys ip σ' H' s' hn hI hd => by
            obtain ⟨o', j1, j2, j3, j4⟩ := back hI
            exact ⟨rfl, ys, H', o', hn, j1, j2, j3, j4, hgp hI, hd⟩)
          (fun n s₀ ys y v ip σ' H' s' kap hn rv hI hp hk => by
            obtain ⟨o', j1, j2, j3, j4⟩ := back hI
            exact ⟨ys, y, H', o', hn, rv, j1, j2, j3, j4, hgp hI, hp, hk⟩)
          s₀ sw H3 w0 (T.keep _ _ _ st3 fun b _ o e => hkw3 b o e) (fun b hb => (f3 b hb).1.1) hG
      show Seg _ A _ _ _ sw _ ((compStart (gexN elt tg iter ifs rest scope gpos) 0 (.ref it) .none (gxEnv X scope s3.heap.objs.size code)).onRaise (leaving (gxEnv X scope s3.heap.objs.size code))) [] sw
      unfold compStart
      rw [Sem.onRaise_eq_wrap]
      show Seg _ A _ _ _ sw _ ((ask >>= _).wrap _ _ _ _) [] sw
      refine seg_bind_wrap (wpAny_askSetting ?_)
      have stw : tn 0 sw.heap := T.keep _ _ _ st3 fun b _ o e => hkw3 b o e
      split
      · exact seg_again rfl (loop sw)
      · first
          | exact seg_bind_wrap (wpAny_rule (seg_bind_wrap (wpAny_standAt (seg_bind_wrap (T.self _ 0 sw _ _ stw (seg_again rfl (loop sw)))))))
          | (refine seg_bind_wrap (wpAny_rule ?_); show Seg _ A _ _ _ sw _ ((standAt iter.pos >>= _).wrap _ _ _ _) [] sw; exact seg_bind_wrap (wpAny_standAt (seg_bind_wrap (T.self _ 0 sw _ _ stw (seg_again rfl (loop sw))))))
    exact main _ _ (fun h e => ⟨_, _, _, e, rfl, rfl, rfl⟩) (fun v z => by cases z) (Heap.get?_push_size _ rfl)
  refine ⟨lim2, ?_⟩
  cases hf : codeAmong gpos tb.toList with
  | none =>
    refine wpAny_genexprCodeX hcode (cd.code hPs ht0) (cd.tab hPs) hf fun c' h' tk hx hge hlt hco' _ htab' _ => ?_
    obtain ⟨_, _, _, _, _, _, _, _, _, _, _, _, _, _, _, _, _, _, _, htr, _⟩ := hco'
    exact cont _ h' tk _ hx (Nat.le_trans hge (Nat.le_of_lt hlt)) htab'.2 ⟨_, rfl⟩ htr
  | some cv =>
    refine wpAny_genexprCode_hit hcode (cd.code hPs ht0) hf ?_
    exact cont cv s2.heap s2.toks tb (Heap.ExtBut.refl _ _) (Nat.le_refl _) hPs ⟨#[], by simp⟩ ht0
theorem loop1 {elt tg iter : Expr} {ifs : List Expr} {scope : Scope} {gpos : Pos} {g : TG} {tt : TT} {te : TE} {vs : List Nat} {k : Nat} {Cy : V → Prop} {Py : List V → V → Hp → Prop} {Pd : List V → Hp → Prop} (hc : X.calm = true) (hco : scope.isCoroutine = false)
    (hg : ∀ (A : Around) (s : Shared) (H : Hp) (C : Addr) (code : Value) (fp : List Addr) (pn : List (Addr × Obj)), Room k A → PG (gxOf X A s H (gxEnv X scope C code) fp pn) tg g)
    (ht : ∀ (A : Around) (s : Shared) (H : Hp) (C : Addr) (code : Value) (fp : List Addr) (pn : List (Addr × Obj)), Room k A → PTs (gxOf X A s H (gxEnv X scope C code) fp pn) ifs tt)
    (he : ∀ (A : Around) (s : Shared) (H : Hp) (C : Addr) (code : Value) (fp : List Addr) (pn : List (Addr × Obj)), Room k A → PE (gxOf X A s H (gxEnv X scope C code) fp pn) elt te) :
    LoopX X k σ elt tg iter ifs [] scope gpos vs (fun J H2 => ∃ W : Nat → Nat → List V → Hp → Prop, (∃ m, W 0 m [] H2) ∧ GW J g tt te vs σ Cy Py Pd W) Cy Py Pd := by
  intro Aw S RS s3 H3 C code fp pn it tn J R YP rd T hRS hpn hS hA hR hY s₀ s H ⟨W, ⟨m0, w0⟩, hW⟩ st hn hG
  exact seg_gx (X := X) (S := S) (RS := RS) (s3 := s3) (H3 := H3) (fp := fp) (pn := pn) hc hco T (hg _ s3 H3 _ code fp pn rd) (ht _ s3 H3 _ code fp pn rd) (he _ s3 H3 _ code fp pn rd) hW hRS hpn hS hA hR hY m0 0 sizeLine [] s₀ s H rfl w0 st hn hG
theorem gen_made {c P : Addr} {elt tg iter : Expr} {ifs : List Expr} {scope : Scope} {own : List (Str × Nat)} {gpos : Pos} {wi : TI} {g : TG} {tt : TT} {te : TE} {k : Nat} {Cy : V → Prop} {Py : List V → V → Hp → Prop} {Pd : List V → Hp → Prop} {Qz : Value → Shared → Prop}
    (hr : Room k X.A) (hc : X.calm = true) (hN : X.N.Nodup) (TB : GxR.TabB X.base X.mg c P) (hcode : X.env.code = .ref c) (S : GenSX scope) (hi : PI X tg iter wi) (ok : BlkOk X.N X.env.scope scope own)
    (hg : ∀ (A : Around) (s : Shared) (H : Hp) (C : Addr) (code : Value) (fp : List Addr) (pn : List (Addr × Obj)), Room k A → PG (gxOf X A s H (gxEnv X scope C code) fp pn) tg g)
    (ht : ∀ (A : Around) (s : Shared) (H : Hp) (C : Addr) (code : Value) (fp : List Addr) (pn : List (Addr × Obj)), Room k A → PTs (gxOf X A s H (gxEnv X scope C code) fp pn) ifs tt)
    (he : ∀ (A : Around) (s : Shared) (H : Hp) (C : Addr) (code : Value) (fp : List Addr) (pn : List (Addr × Obj)), Room k A → PE (gxOf X A s H (gxEnv X scope C code) fp pn) elt te)
    (hs : ∀ v, genFold iter X.env v = pure v) (I : Inv X pins σ H s) (h : tGenX P wi g tt te (own.map (·.2)) Cy Py Pd σ H)
    (hQ : ∀ u z, MadeX X (k + 1) pins σ Cy Py Pd u z → Qz u z) :
    wpAny (model X.prog X.w) X.A (eval (gexp elt tg iter ifs scope gpos) X.env) Qz X.xe s :=
  gen_madeN hr hN TB hcode S hi ok (loop1 hc S.co hg ht he) hs I h hQ
end
end Ph
namespace Ph
open PySem PySem.Spec PyProof.Rows L2 GenW
section
variable {X : Cx} {pins : List (Addr × Obj)} {σ : L2.St} {S a : Addr} {gi : Nat} {RS : OwnR} {Cy : V → Prop} {Py : List V → V → Hp → Prop} {Pd : List V → Hp → Prop} {A : Around} {E : Value → Shared → Prop}
theorem Inv.gens' {H : Hp} {s : Shared} {h' : Heap} {G : Array GenState} {tk : Nat} (I : Inv X pins σ H s) (hk : ∀ b o, s.heap.get? b = some o → h'.get? b = some o) (hG : AllBare G) : Inv X pins σ H { s with gens := G, heap := h', toks := tk } :=
  I.call' (ch := []) rfl (Un.kept hk) (I.hok.kept hk) hG fun b z => by simp at z
abbrev GoesX (X : Cx) (A : Around) (pins : List (Addr × Obj)) (σ : L2.St) (S a : Addr) (gi : Nat) (RS : OwnR) (Cy : V → Prop) (Py : List V → V → Hp → Prop) (Pd : List V → Hp → Prop) (gs : GenState) (n : Nat) (s : Shared) : Prop :=
  gs.Goes (model X.prog X.w) A (REG X pins σ S a gi RS Pd) (YEG X pins σ S a gi RS Cy Py) n (.send .none) (s.setGen gi .running)
theorem next_X {n : Nat} {s : Shared} {gs : GenState} {Q : Option Value → Shared → Prop} (hh : A.handled = none) (hd : A.depth < recursionLimit) (hl : s.heap.NoLimit) (hg : s.heap.IsGen a gi) (hgs : s.gens[gi]? = some gs)
    (hgo : GoesX X A.in1 pins σ S a gi RS Cy Py Pd gs n s)
    (hY : ∀ ys y v H' o s1 gs', n + ys.length = sizeLine ∨ n = 0 → RelV y v → Inv X pins σ H' s1 → s1.heap.get? S = some o → RS ys o → H' S = none → s1.heap.IsGen a gi → s1.gens[gi]? = some gs' → Py ys y H' →
      (∀ s2, SleptR S RS Cy y s1 s2 → ∃ m, n = m + 1 ∧ GoesX X A.in1 pins σ S a gi RS Cy Py Pd gs' m s2) → Q (some v) s1)
    (hP : ∀ ys H' o s1, ys.length ≤ sizeLine → Inv X pins σ H' s1 → s1.heap.get? S = some o → RS ys o → H' S = none → Pd ys H' → Q none s1) :
    wpAny (model X.prog X.w) A (pyNext (.ref a)) Q E s := by
  have hgl : gi < s.gens.size := (Array.getElem?_eq_some_iff.mp hgs).1
  refine wpAny_gsz (n := gi + 1) hgl (wpAny_pyNext_genexpQ (P := fun n _ s1 => ∃ (ys : List V) (H' : Hp) (o : Obj), n + ys.length = sizeLine ∧ Inv X pins σ H' s1 ∧ s1.heap.get? S = some o ∧ RS ys o ∧ H' S = none ∧ s1.heap.IsGen a gi ∧ Pd ys H') hh hl hd hg hgs hgo (fun v s1 gs' hb hv => ?_) fun s1 hp h' hk => ?_)
  · intro hsz
    obtain ⟨ys, y, H', o, hn, rv, I1, eS, rs, hS0, hg1, py, hk⟩ := hv
    have hsz1 : gi < s1.gens.size := by
      have q : (s1.setGen gi gs').gens.size = s1.gens.size := setGen_size _ _ _
      have hsz' : gi + 1 ≤ (s1.setGen gi gs').gens.size := hsz
      omega
    have I2 : Inv X pins σ H' (s1.setGen gi gs') := Inv.gens' (tk := s1.toks) I1 (fun _ _ e => e) (allBare_setGen I1.bare hb)
    refine hY ys y v H' o (s1.setGen gi gs') gs' (by omega) rv I2 eS rs hS0 hg1 (setGen_at hsz1) py fun s2 z => ?_
    have z' : SleptR S RS Cy y s1 (s2.setGen gi .running) := ⟨z.go, z.os, allBare_setGen z.bare rfl, z.keep, z.own⟩
    have q := hk _ z'
    cases n with
    | zero => exact False.elim q
    | succ m => exact ⟨m, rfl, q⟩
  · intro hsz
    obtain ⟨ys, H', o, hn, I1, eS, rs, hS0, hg1, pd⟩ := hp
    exact hP ys H' o _ (by omega) (Inv.gens' (s := s1) (h' := h') (G := (s1.setGen gi .finished).gens) (tk := s1.toks) I1 hk (allBare_setGen I1.bare rfl)) (hk _ _ eS) rs hS0 pd
/-! ### any, all -/
theorem any_loopX {R : Result → Shared → Prop} {go : Obj} {b0 : Bool} {nm : String} (hnm : (b0 = true ∧ nm = "any.loop") ∨ (b0 = false ∧ nm = "all.loop")) (hh : A.handled = none) (hd : A.depth < recursionLimit)
    (hR : ∀ b H' s', Inv X pins σ H' s' → ((b = b0 ∧ ∃ ys, Py ys (.bl b) H') ∨ (b = !b0 ∧ ∃ ys, Pd ys H')) → R (.ok (.ret (.bool b))) s')
    (hPy : ∀ ys y H', Py ys y H' → ∃ b, y = .bl b) :
    ∀ (m : Nat) (s : Shared), s.heap.IsGen a gi → s.heap.get? a = some go → s.heap.NoLimit →
      (∃ gs, s.gens[gi]? = some gs ∧ GoesX X A.in1.in1 pins σ a a gi (fun _ o => o = go) (fun y => y = .bl (!b0)) Py Pd gs m s) →
      codeAny (model X.prog X.w) A (.builtin nm ⟨[.ref a], []⟩) R s := by
  intro m
  induction m with
  | zero =>
    intro s hg ha hl ⟨gs, hgs, hgo⟩
    have key : ∀ (Q : Option Value → Shared → Prop) (E : Value → Shared → Prop), (∀ v s1, (∃ b ys H', v = .bool b ∧ Inv X pins σ H' s1 ∧ Py ys (.bl b) H' ∧ b = b0) → Q (some v) s1) → (∀ s1, (∃ ys H', Inv X pins σ H' s1 ∧ Pd ys H') → Q none s1) → wpAny (model X.prog X.w) A.in1 (pyNext (.ref a)) Q E s := fun Q E h1 h2 => by
      refine next_X (A := A.in1) hh hd hl hg hgs hgo (fun ys y v H' o s1 gs' _ rv I1 eS rs _ _ _ py hk => ?_) fun ys H' o s1 _ I1 _ _ _ pd => h2 s1 ⟨ys, H', I1, pd⟩
      obtain ⟨b, rfl⟩ := hPy ys y H' py
      have rv' : v = .bool b := rv
      by_cases hb : b = b0
      · exact h1 v s1 ⟨b, ys, H', rv', I1, py, hb⟩
      · obtain ⟨m, hm, _⟩ := hk s1 ⟨by cases b <;> cases b0 <;> simp_all, rfl, I1.bare, fun _ _ _ e => e, fun ys o r e => ⟨o, e, r⟩⟩
        cases hm
    rcases hnm with ⟨rfl, rfl⟩ | ⟨rfl, rfl⟩
    · refine codeAny_builtin F.entry_any_loop ?_
      rw [Around.under_plainId F.plain_any_loop _]
      show wpAny _ A.in1 (pyNext (.ref a) >>= _) _ _ s
      refine wpAny_bind (key _ _ (fun v s1 ⟨b, ys, H', e, I1, py, hb⟩ => ?_) fun s1 ⟨ys, H', I1, pd⟩ => ?_)
      · subst e; subst hb
        refine wpAny_bind (wpAny_holding (wpAny_truthy_bool ?_))
        refine wpAny_bind (wpAny_letGo ?_)
        simp only [if_true]
        exact wpAny_bind (wpAny_rule (wpAny_pure (hR true H' s1 I1 (.inl ⟨rfl, ys, py⟩))))
      · exact wpAny_bind (wpAny_rule (wpAny_pure (hR false H' s1 I1 (.inr ⟨rfl, ys, pd⟩))))
    · refine codeAny_builtin F.entry_all_loop ?_
      rw [Around.under_plainId F.plain_all_loop _]
      show wpAny _ A.in1 (pyNext (.ref a) >>= _) _ _ s
      refine wpAny_bind (key _ _ (fun v s1 ⟨b, ys, H', e, I1, py, hb⟩ => ?_) fun s1 ⟨ys, H', I1, pd⟩ => ?_)
      · subst e; subst hb
        refine wpAny_bind (wpAny_holding (wpAny_truthy_bool ?_))
        refine wpAny_bind (wpAny_letGo ?_)
        simp only [Bool.false_eq_true, if_false]
        exact wpAny_bind (wpAny_rule (wpAny_pure (hR false H' s1 I1 (.inl ⟨rfl, ys, py⟩))))
      · exact wpAny_bind (wpAny_rule (wpAny_pure (hR true H' s1 I1 (.inr ⟨rfl, ys, pd⟩))))
  | succ m ih =>
    intro s hg ha hl ⟨gs, hgs, hgo⟩
    have key : ∀ (Q : Option Value → Shared → Prop) (E : Value → Shared → Prop), (∀ v s1, (∃ b ys H', v = .bool b ∧ Inv X pins σ H' s1 ∧ Py ys (.bl b) H' ∧ (b = b0 ∨ (b = (!b0) ∧ codeAny (model X.prog X.w) A (.builtin nm ⟨[.ref a], []⟩) R s1))) → Q (some v) s1) → (∀ s1, (∃ ys H', Inv X pins σ H' s1 ∧ Pd ys H') → Q none s1) → wpAny (model X.prog X.w) A.in1 (pyNext (.ref a)) Q E s := fun Q E h1 h2 => by
      refine next_X (A := A.in1) hh hd hl hg hgs hgo (fun ys y v H' o s1 gs' _ rv I1 eS rs _ hg1 hgs1 py hk => ?_) fun ys H' o s1 _ I1 _ _ _ pd => h2 s1 ⟨ys, H', I1, pd⟩
      obtain ⟨b, rfl⟩ := hPy ys y H' py
      have rv' : v = .bool b := rv
      by_cases hb : b = b0
      · exact h1 v s1 ⟨b, ys, H', rv', I1, py, .inl hb⟩
      · have hb' : b = (!b0) := by cases b <;> cases b0 <;> simp_all
        obtain ⟨m', hm, hgo'⟩ := hk s1 ⟨by rw [hb'], rfl, I1.bare, fun _ _ _ e => e, fun ys o r e => ⟨o, e, r⟩⟩
        cases hm
        exact h1 v s1 ⟨b, ys, H', rv', I1, py, .inr ⟨hb', ih s1 hg1 (by rw [eS, rs]) I1.nolimit ⟨gs', hgs1, hgo'⟩⟩⟩
    rcases hnm with ⟨rfl, rfl⟩ | ⟨rfl, rfl⟩
    · refine codeAny_builtin F.entry_any_loop ?_
      rw [Around.under_plainId F.plain_any_loop _]
      show wpAny _ A.in1 (pyNext (.ref a) >>= _) _ _ s
      refine wpAny_bind (key _ _ (fun v s1 ⟨b, ys, H', e, I1, py, hb⟩ => ?_) fun s1 ⟨ys, H', I1, pd⟩ => ?_)
      · subst e
        refine wpAny_bind (wpAny_holding (wpAny_truthy_bool ?_))
        refine wpAny_bind (wpAny_letGo ?_)
        rcases hb with hb | ⟨hb, again⟩
        · subst hb
          simp only [if_true]
          exact wpAny_bind (wpAny_rule (wpAny_pure (hR true H' s1 I1 (.inl ⟨rfl, ys, py⟩))))
        · subst hb
          simp only [Bool.not_true, Bool.false_eq_true, if_false]
          exact wpAny_pure ⟨plainId_quiet F.plain_any_loop _, again⟩
      · exact wpAny_bind (wpAny_rule (wpAny_pure (hR false H' s1 I1 (.inr ⟨rfl, ys, pd⟩))))
    · refine codeAny_builtin F.entry_all_loop ?_
      rw [Around.under_plainId F.plain_all_loop _]
      show wpAny _ A.in1 (pyNext (.ref a) >>= _) _ _ s
      refine wpAny_bind (key _ _ (fun v s1 ⟨b, ys, H', e, I1, py, hb⟩ => ?_) fun s1 ⟨ys, H', I1, pd⟩ => ?_)
      · subst e
        refine wpAny_bind (wpAny_holding (wpAny_truthy_bool ?_))
        refine wpAny_bind (wpAny_letGo ?_)
        rcases hb with hb | ⟨hb, again⟩
        · subst hb
          simp only [Bool.false_eq_true, if_false]
          exact wpAny_bind (wpAny_rule (wpAny_pure (hR false H' s1 I1 (.inl ⟨rfl, ys, py⟩))))
        · subst hb
          simp only [Bool.not_false, if_true]
          exact wpAny_pure ⟨plainId_quiet F.plain_all_loop _, again⟩
      · exact wpAny_bind (wpAny_rule (wpAny_pure (hR true H' s1 I1 (.inr ⟨rfl, ys, pd⟩))))
theorem call_anyX {k : Nat} {u : Value} {z : Shared} {Q : Value → Shared → Prop} (hr : Room (k + 3) A) (hfr : A.frames = some X.stack) (hPy : ∀ ys y H', Py ys y H' → ∃ b, y = .bl b) (M : MadeX X k pins σ (fun y => y = .bl false) Py Pd u z)
    (hQ : ∀ b H' s', Inv X pins σ H' s' → ((b = true ∧ ∃ ys, Py ys (.bl true) H') ∨ (b = false ∧ ∃ ys, Pd ys H')) → Q (.bool b) s') : wpAny (model X.prog X.w) A (call (.builtin "any") [u]) Q E z := by
  obtain ⟨a, gi, c, go, H0, rfl, I0, ha, hgen, hcell, hgs, hn, wake⟩ := M
  refine call_function_tree F.kind_any F.plain_any F.entry_any (F.args_any1 _) ?_
  unfold Builtin.«any»
  refine wpAny_bind (m := oneArg "any" _) (wpAny_pure ?_)
  refine wpAny_bind (wpAny_pyIter_gen (hgen _ ha) ?_)
  refine wpAny_pure ⟨plainId_quiet F.plain_any_loop _, any_loopX (X := X) (A := A) (pins := pins) (σ := σ) (gi := gi) (go := go) (b0 := true) (Py := Py) (Pd := Pd) (.inl ⟨rfl, rfl⟩) hr.hd (by have := hr.dp; omega) (fun b H' s' I' h => hQ b H' s' I' ?_) hPy sizeLine z (hgen _ ha) ha I0.nolimit ⟨_, hgs, ?_⟩⟩
  · rcases h with ⟨h1, ys, h2⟩ | ⟨h1, h2⟩
    · subst h1; exact .inl ⟨rfl, ys, h2⟩
    · exact .inr ⟨h1, h2⟩
  · refine ⟨rfl, wake A.in1.in1 a (fun _ o => o = go) (z.setGen gi .running) go ((hr.mono (by omega : k + 2 ≤ k + 3)).in1.in1) hfr (.inl ⟨rfl, fun _ _ h => h⟩) (fun _ o h => by rw [h]; exact hcell) (fun _ _ e => e) ha rfl rfl (allBare_setGen I0.bare rfl)⟩
theorem call_allX {k : Nat} {u : Value} {z : Shared} {Q : Value → Shared → Prop} (hr : Room (k + 3) A) (hfr : A.frames = some X.stack) (hPy : ∀ ys y H', Py ys y H' → ∃ b, y = .bl b) (M : MadeX X k pins σ (fun y => y = .bl true) Py Pd u z)
    (hQ : ∀ b H' s', Inv X pins σ H' s' → ((b = false ∧ ∃ ys, Py ys (.bl false) H') ∨ (b = true ∧ ∃ ys, Pd ys H')) → Q (.bool b) s') : wpAny (model X.prog X.w) A (call (.builtin "all") [u]) Q E z := by
  obtain ⟨a, gi, c, go, H0, rfl, I0, ha, hgen, hcell, hgs, hn, wake⟩ := M
  refine call_function_tree F.kind_all F.plain_all F.entry_all (F.args_all1 _) ?_
  unfold Builtin.«all»
  refine wpAny_bind (m := oneArg "all" _) (wpAny_pure ?_)
  refine wpAny_bind (wpAny_pyIter_gen (hgen _ ha) ?_)
  refine wpAny_pure ⟨plainId_quiet F.plain_all_loop _, any_loopX (X := X) (A := A) (pins := pins) (σ := σ) (gi := gi) (go := go) (b0 := false) (Py := Py) (Pd := Pd) (.inr ⟨rfl, rfl⟩) hr.hd (by have := hr.dp; omega) (fun b H' s' I' h => hQ b H' s' I' ?_) hPy sizeLine z (hgen _ ha) ha I0.nolimit ⟨_, hgs, ?_⟩⟩
  · rcases h with ⟨h1, ys, h2⟩ | ⟨h1, h2⟩
    · subst h1; exact .inl ⟨rfl, ys, h2⟩
    · exact .inr ⟨h1, h2⟩
  · refine ⟨rfl, wake A.in1.in1 a (fun _ o => o = go) (z.setGen gi .running) go ((hr.mono (by omega : k + 2 ≤ k + 3)).in1.in1) hfr (.inl ⟨rfl, fun _ _ h => h⟩) (fun _ o h => by rw [h]; exact hcell) (fun _ _ e => e) ha rfl rfl (allBare_setGen I0.bare rfl)⟩
/-! ### drained into a list -/
def RSL : OwnR := fun ys o => ∃ (acc : Array Value) (c : Nat), o = lstObj acc c ∧ Vals ys acc.toList
theorem drainX {R : Result → Shared → Prop} {S : Addr} {res : Value} (hh : A.handled = none) (hd : A.depth < recursionLimit) (hSa : S ≠ a)
    (hend : ∀ s' acc c H' ys, s'.heap.get? S = some (lstObj acc c) → Vals ys acc.toList → ys.length ≤ sizeLine → Inv X pins σ H' s' → H' S = none → Pd ys H' → R (.ok (.ret res)) s') :
    ∀ (m : Nat) (s : Shared), s.heap.IsGen a gi → s.heap.NoLimit →
      (∃ gs, s.gens[gi]? = some gs ∧ GoesX X A.in1.in1 pins σ S a gi RSL (fun _ => True) Py Pd gs m s) →
      codeAny (model X.prog X.w) A (.builtin "list.extend.loop" ⟨[.ref S, .ref a, res], []⟩) R s := by
  intro m
  induction m with
  | zero =>
    intro s hg hl ⟨gs, hgs, hgo⟩
    refine codeAny_builtin F.entry_extend_loop ?_
    rw [Around.under_plainId F.plain_extend_loop _]
    show wpAny _ A.in1 (pyNext (.ref a) >>= _) _ _ s
    refine wpAny_bind (next_X (A := A.in1) hh hd hl hg hgs hgo (fun ys y v H' o s1 gs' _ rv I1 eS rs _ _ _ py hk => ?_) fun ys H' o s1 hle I1 eS rs hS0 pd => ?_)
    · obtain ⟨acc, c, rfl, r⟩ := rs
      have I2 := I1
      obtain ⟨m, hm, _⟩ := hk { s1 with heap := s1.heap.update S (Obj.mapSeq (·.push v)) } ⟨trivial, rfl, I1.bare, fun b o hb e => (Heap.get?_update_other _ _ (Ne.symm hb)).trans e, fun ys o r e => by
        obtain ⟨acc', c', rfl, r'⟩ := r
        exact ⟨_, Heap.get?_update_self _ e rfl, acc'.push v, _, rfl, by rw [Array.toList_push]; exact r'.append (.cons rv .nil)⟩⟩
      cases hm
    · obtain ⟨acc, c, rfl, r⟩ := rs
      exact wpAny_pure (hend s1 acc c H' ys eS r hle I1 hS0 pd)
  | succ m ih =>
    intro s hg hl ⟨gs, hgs, hgo⟩
    refine codeAny_builtin F.entry_extend_loop ?_
    rw [Around.under_plainId F.plain_extend_loop _]
    show wpAny _ A.in1 (pyNext (.ref a) >>= _) _ _ s
    refine wpAny_bind (next_X (A := A.in1) hh hd hl hg hgs hgo (fun ys y v H' o s1 gs' hn rv I1 eS rs hS0 hg1 hgs1 py hk => ?_) fun ys H' o s1 hle I1 eS rs hS0 pd => ?_)
    · obtain ⟨acc, c, rfl, r⟩ := rs
      have hsz : acc.size < sizeLine := by
        have e1 := r.length
        have e2 : acc.toList.length = acc.size := by simp
        omega
      obtain ⟨m', hm, hgo'⟩ := hk { s1 with heap := s1.heap.update S (Obj.mapSeq (·.push v)) } ⟨trivial, rfl, I1.bare, fun b o hb e => (Heap.get?_update_other _ _ (Ne.symm hb)).trans e, fun ys o r e => by
        obtain ⟨acc', c', rfl, r'⟩ := r
        exact ⟨_, Heap.get?_update_self _ e rfl, acc'.push v, _, rfl, by rw [Array.toList_push]; exact r'.append (.cons rv .nil)⟩⟩
      cases hm
      show wpAny _ A.in1 (updateSeq S (·.push v) >>= _) _ _ _
      refine wpAny_bind ?_
      have keep3 : ∀ b o, b ≠ S → s1.heap.get? b = some o → (s1.heap.update S (Obj.mapSeq (·.push v))).get? b = some o := fun b o hbS e => (Heap.get?_update_other _ _ (Ne.symm hbS)).trans e
      refine wpAny_updateSeq eS rfl (wpAny_pure ⟨plainId_quiet F.plain_extend_loop _, ih _ ?_ ?_ ⟨gs', hgs1, hgo'⟩⟩) (Nat.le_of_lt hsz) (by show (acc.push v).size ≤ sizeLine + 1; rw [Array.size_push]; omega)
      · obtain ⟨o, nm, qn, ho, r⟩ := hg1
        exact ⟨o, nm, qn, keep3 a o (Ne.symm hSa) ho, r⟩
      · have hcS : cStatics ≠ S := fun z => by
          obtain ⟨mc, ⟨ow, es, ep, ho, hdd, _⟩, _⟩ := I1.nolimit
          rw [z, eS] at ho
          cases ho
          cases hdd
        obtain ⟨mc, hns, hnn⟩ := I1.nolimit
        exact ⟨mc, hns.at' fun o e => keep3 _ o hcS e, hnn⟩
    · obtain ⟨acc, c, rfl, r⟩ := rs
      exact wpAny_pure (hend s1 acc c H' ys eS r hle I1 hS0 pd)
/-- the generator's items, in order -/
theorem collectX {k : Nat} {u : Value} {z : Shared} {Q : List Value → Shared → Prop} (hr : Room (k + 4) A) (hfr : A.frames = some X.stack) (M : MadeX X k pins σ (fun _ => True) Py Pd u z)
    (hQ : ∀ us H' ys s', Inv X pins σ H' s' → Vals ys us → ys.length ≤ sizeLine → Pd ys H' → Q us s') : wpAny (model X.prog X.w) A (collect u) Q E z := by
  obtain ⟨a, gi, c, go, H0, rfl, I0, ha, hgen, hcell, hgs, hn, wake⟩ := M
  have hlt : a < z.heap.objs.size := Heap.lt_size ha
  have hSa : z.heap.objs.size ≠ a := Nat.ne_of_gt hlt
  unfold collect
  refine wpAny_bind (wpAny_runValue (codeAny_builtin F.entry_proto_collect ?_))
  rw [Around.under_plainId F.plain_proto_collect _]
  show wpAny _ A.in1 (newList [] >>= fun l => again (.builtin "list.__iadd__" ⟨[l, .ref a], []⟩)) _ _ z
  refine wpAny_bind (wpAny_newObj_type ?_)
  refine wpAny_pure ⟨plainId_quiet F.plain_list_iadd _, codeAny_builtin F.entry_list_iadd ?_⟩
  rw [Around.under_plainId F.plain_list_iadd _]
  have k1 : ∀ b o, z.heap.get? b = some o → (z.heap.push { cls := .type "list", data := .seq ([] : List Value).toArray }).get? b = some o := fun b o e => Heap.get?_push_of_some _ e
  have hg1 := hgen _ (k1 _ _ ha)
  show wpAny _ A.in1 (Builtin.List.listExtendWith (.ref z.heap.objs.size) (.ref a) (.ref z.heap.objs.size)) _ _ _
  unfold Builtin.List.listExtendWith
  refine wpAny_bind (wpAny_typeOf (Heap.IsGen.typeIs (s := { z with heap := _ }) hg1) ?_)
  have h1 : Builtin.List.listSameRef (.ref z.heap.objs.size) (.ref a) = false := by simp [Builtin.List.listSameRef, hSa]
  have h2 : (Value.type "generator" == Value.type "list") = false := by decide
  have h3 : (Value.type "generator" == Value.type "tuple") = false := by decide
  simp only [h1, h2, h3, Bool.or_false, Bool.false_eq_true, if_false]
  refine wpAny_bind (wpAny_pyIter_gen (s := { z with heap := _ }) hg1 ?_)
  refine wpAny_bind (wpAny_holding ?_)
  unfold Builtin.List.listLengthHint
  refine wpAny_bind (wpAny_specialOf (Heap.IsGen.typeIs (s := { z with heap := _ }) hg1) F.gen_no_len ?_)
  show wpAny _ A.in1 (specialOf (Value.ref a) (Str.ofString "__length_hint__") >>= _) _ _ _
  refine wpAny_bind (wpAny_specialOf (Heap.IsGen.typeIs (s := { z with heap := _ }) hg1) F.gen_no_hint ?_)
  refine wpAny_pure ?_
  show wpAny _ A.in1 (rule "list.extend.makes-room" >>= fun _ => Builtin.List.listTouch (.ref z.heap.objs.size) >>= fun _ =>
    again (.builtin "list.extend.loop" ⟨[.ref z.heap.objs.size, .ref a, .ref z.heap.objs.size], []⟩)) _ _ _
  refine wpAny_bind (wpAny_rule ?_)
  have hS₁ : (z.heap.push { cls := .type "list", data := .seq ([] : List Value).toArray }).get? z.heap.objs.size = some { cls := .type "list", data := .seq ([] : List Value).toArray } := Heap.get?_push_size _ rfl
  refine wpAny_bind ?_
  show wpAny _ A.in1 (updateSeq z.heap.objs.size (·.push .none) >>= fun _ => updateSeq z.heap.objs.size (·.pop)) _ _ _
  refine wpAny_bind (wpAny_updateSeq hS₁ rfl ?_)
  have hS₂ := Heap.get?_update_self (Obj.mapSeq (·.push Value.none)) hS₁ rfl
  refine wpAny_updateSeq hS₂ rfl ?_
  have hS₃ := Heap.get?_update_self (Obj.mapSeq (·.pop)) hS₂ rfl
  have oth : ∀ b o, z.heap.get? b = some o →
      (((z.heap.push { cls := .type "list", data := .seq ([] : List Value).toArray }).update z.heap.objs.size (Obj.mapSeq (·.push Value.none))).update z.heap.objs.size (Obj.mapSeq (·.pop))).get? b = some o :=
    fun b o e => by
      have hb : b ≠ z.heap.objs.size := Nat.ne_of_lt (Heap.lt_size e)
      exact (Heap.get?_update_other _ _ (Ne.symm hb)).trans ((Heap.get?_update_other _ _ (Ne.symm hb)).trans (k1 b o e))
  refine wpAny_pure ⟨plainId_quiet F.plain_extend_loop _, drainX (X := X) (A := A) (pins := pins) (σ := σ) (gi := gi) (a := a) (Py := Py) (Pd := Pd) (S := z.heap.objs.size) hr.hd (by have := hr.dp; omega) hSa (fun s' acc cc H' ys hS' hv hle I' hS0 pd => ?_) sizeLine _ (hgen _ (oth _ _ ha)) (I0.nolimit.keeps oth) ⟨_, hgs, rfl, ?_⟩⟩
  · show wpAny _ A (load z.heap.objs.size >>= _) _ _ s'
    refine wpAny_bind (wpAny_load hS' ?_)
    exact wpAny_pure (hQ acc.toList H' ys s' I' hv hle pd)
  · exact wake A.in1.in1 z.heap.objs.size RSL _ _ ((hr.mono (by omega : k + 2 ≤ k + 4)).in1.in1) hfr (.inr (Nat.le_refl _)) (fun ys o h v => by obtain ⟨acc, c, rfl, _⟩ := h; intro q; cases q) oth hS₃ ⟨#[], _, rfl, .nil⟩ rfl (allBare_setGen I0.bare rfl)
end
end Ph
namespace Ph
open PySem PySem.Spec PyProof.Rows L2 GenW
section
variable {X : Cx} {pins : List (Addr × Obj)} {σ : L2.St}
theorem call_tupX {A : Around} {E : Value → Shared → Prop} {k : Nat} {u : Value} {z : Shared} {Py : List V → V → Hp → Prop} {Pd : List V → Hp → Prop} {Q : Value → Shared → Prop} (hr : Room (k + 6) A) (hfr : A.frames = some X.stack) (M : MadeX X k pins σ (fun _ => True) Py Pd u z)
    (hQ : ∀ l H' ys s', H' l = none → Inv X pins σ (upd H' l (.tup ys)) s' → ys.length ≤ sizeLine → Pd ys H' → Q (.ref l) s') : wpAny (model X.prog X.w) A (call (.type "tuple") [u]) Q E z := by
  have M' := M
  obtain ⟨a, gi, c, go, H0, rfl, I0, ha, hgen, hcell, hgs, hn, wake⟩ := M'
  have code : codeAny (model X.prog X.w) A.in1 (.call (.builtin "tuple.__new__") ⟨[.type "tuple", .ref a], []⟩) (wants (fun obj s₁ => s₁.TypeIs obj "tuple" ∧ Q obj s₁) E) z := by
    refine codeAny_of_tree ?_
    show wpAny _ A.in1.in1 (do checkBuiltinCall "tuple.__new__" ⟨[.type "tuple", .ref a], []⟩; again (.builtin "tuple.__new__" ⟨[.type "tuple", .ref a], []⟩)) _ _ z
    refine wpAny_bind (wpAny_of_eq (F.newCall_tuple_1 _) (wpAny_pure ⟨plainId_quiet F.plain_tuple_new _, codeAny_builtin F.entry_tuple_new ?_⟩))
    rw [Around.under_plainId F.plain_tuple_new _]
    have hsub := sub_tuple_self
    have hinit := init_tuple_lookup
    have hmh := madeHere_tuple
    have hTI : z.TypeIs (.ref a) "generator" := Heap.IsGen.typeIs (hgen _ ha)
    wp_walk using wpAny_typeOf hTI, collectX (X := X) (pins := pins) (σ := σ) (k := k) (Py := Py) (Pd := Pd) (show Room (k + 4) A.in1.in1 from hr.in1.in1) hfr M
    intro us H' ys s' I' hv hle pd
    show wpAny _ _ (Builtin.Tuple.tupleExact us.toArray >>= fun v => ret v) _ _ _
    unfold Builtin.Tuple.tupleExact
    refine wpAny_bind (wpAny_newObj_type ?_ (by show us.toArray.size ≤ sizeLine; rw [List.size_toArray, ← hv.length]; exact hle))
    refine wpAny_pure ?_
    refine ⟨⟨_, Heap.get?_push_size _ rfl, rfl⟩, hQ s'.heap.objs.size H' ys _ (I'.hok.fresh (Nat.le_refl _)) (I'.laid (t' := s'.toks) (fun b o e => Heap.get?_push_of_some _ e) (Nat.le_refl _) (show ObjOk X.prog X.w _ _ _ (.tup ys) from ⟨hle, us, hv, IsTup.new _ _⟩)) hle pd⟩
  refine callType_codes (Q₁ := fun obj s₁ => s₁.TypeIs obj "tuple" ∧ Q obj s₁) F.called_tuple (F.typeCall_tuple_1 _) F.entry_object_init code fun obj s₁ h₁ => ?_
  exact ⟨h₁.1, F.args_object_init_2 obj _, object_init_meets F.called_tuple.init.lookup F.called_tuple.made (by decide) X.prog X.w A.in1 _ s₁ ⟨h₁.1, rfl, h₁.2⟩⟩
end
/-- any (b0 = true), all (b0 = false) -/
def tAnyX (b0 : Bool) (P : Addr) (wi : TI) (g : TG) (tt : TT) (te : TE) (vs : List Nat) : TE := fun σ H Q =>
  tGenX P wi g tt te vs (fun y => y = .bl (!b0)) (fun _ y H' => ∃ b, y = .bl b ∧ (b = b0 → Q (.bl b0) H')) (fun _ H' => Q (.bl (!b0)) H') σ H
def tTupX (P : Addr) (wi : TI) (g : TG) (tt : TT) (te : TE) (vs : List Nat) : TE := fun σ H Q =>
  tGenX P wi g tt te vs (fun _ => True) (fun _ _ _ => True) (fun ys H' => ∀ l, H' l = none → Q (.ref l) (upd H' l (.tup ys))) σ H
section
variable {X : Cx} {c P : Addr} {elt tg iter : Expr} {ifs : List Expr} {scope : Scope} {own : List (Str × Nat)} {p pos gpos : Pos} {wi : TI} {g : TG} {tt : TT} {te : TE} {k : Nat}
/-- the parts of a generator expression within X -/
structure GenP (X : Cx) (k : Nat) (c P : Addr) (elt tg iter : Expr) (ifs : List Expr) (scope : Scope) (own : List (Str × Nat)) (wi : TI) (g : TG) (tt : TT) (te : TE) : Prop where
  hr : Room (k + 7) X.A
  hc : X.calm = true
  hN : X.N.Nodup
  TB : GxR.TabB X.base X.mg c P
  hcode : X.env.code = .ref c
  S : GenSX scope
  hi : PI X tg iter wi
  ok : BlkOk X.N X.env.scope scope own
  hg : ∀ (A : Around) (s : Shared) (H : Hp) (C : Addr) (code : Value) (fp : List Addr) (pn : List (Addr × Obj)), Room k A → PG (gxOf X A s H (gxEnv X scope C code) fp pn) tg g
  ht : ∀ (A : Around) (s : Shared) (H : Hp) (C : Addr) (code : Value) (fp : List Addr) (pn : List (Addr × Obj)), Room k A → PTs (gxOf X A s H (gxEnv X scope C code) fp pn) ifs tt
  he : ∀ (A : Around) (s : Shared) (H : Hp) (C : Addr) (code : Value) (fp : List Addr) (pn : List (Addr × Obj)), Room k A → PE (gxOf X A s H (gxEnv X scope C code) fp pn) elt te
  hs : ∀ v, genFold iter X.env v = pure v
theorem Inv.frames {pins : List (Addr × Obj)} {σ : L2.St} {H : Hp} {s : Shared} (I : Inv X pins σ H s) : X.A.frames = some X.stack := I.ok.frames
theorem pe_anyX (G : GenP X k c P elt tg iter ifs scope own wi g tt te) (hg : Gl X "any") (hm : X.mg "any" = none)
    (he : starEach [gexp elt tg iter ifs scope gpos] X.env = (false, eval (gexp elt tg iter ifs scope gpos) X.env) :: starEach [] X.env := by rfl) :
    PE X (.Call (.Name "any" p) [gexp elt tg iter ifs scope gpos] [] pos) (tAnyX true P wi g tt te (own.map (·.2))) := by
  refine ⟨fun pins s σ H Q I h => ?_⟩
  refine wpAny_Call_Name_kw (ld_blt I hg hm boot_any (PyProof.Rows.callWith_builtin1 ?_ he (by rfl)))
  rw [he]
  show wpAny _ _ (spliced ((false, eval (gexp elt tg iter ifs scope gpos) X.env) :: backTo pos (starEach [] X.env))) _ _ s
  refine Calls.spliced_cons (gen_made (k := k) (G.hr.mono (by omega)) G.hc G.hN G.TB G.hcode G.S G.hi G.ok G.hg G.ht G.he G.hs I h fun u z M => ?_)
  refine Calls.spliced_nil (call_anyX (X := X) (A := X.A) (k := k + 1) (G.hr.mono (by omega)) I.ok.frames (fun ys y H' h => h.imp fun _ z => z.1) M fun b H' s' I' h => ?_)
  rcases h with ⟨rfl, ys, b, e, h2⟩ | ⟨rfl, ys, h2⟩
  · cases e
    exact ⟨.bl true, H', I', rfl, h2 rfl⟩
  · exact ⟨.bl false, H', I', rfl, h2⟩
theorem pe_allX (G : GenP X k c P elt tg iter ifs scope own wi g tt te) (hg : Gl X "all") (hm : X.mg "all" = none)
    (he : starEach [gexp elt tg iter ifs scope gpos] X.env = (false, eval (gexp elt tg iter ifs scope gpos) X.env) :: starEach [] X.env := by rfl) :
    PE X (.Call (.Name "all" p) [gexp elt tg iter ifs scope gpos] [] pos) (tAnyX false P wi g tt te (own.map (·.2))) := by
  refine ⟨fun pins s σ H Q I h => ?_⟩
  refine wpAny_Call_Name_kw (ld_blt I hg hm (show bootBuiltins "all" = some (.builtin "all") from by kernel_rfl) (PyProof.Rows.callWith_builtin1 ?_ he (by rfl)))
  rw [he]
  show wpAny _ _ (spliced ((false, eval (gexp elt tg iter ifs scope gpos) X.env) :: backTo pos (starEach [] X.env))) _ _ s
  refine Calls.spliced_cons (gen_made (k := k) (G.hr.mono (by omega)) G.hc G.hN G.TB G.hcode G.S G.hi G.ok G.hg G.ht G.he G.hs I h fun u z M => ?_)
  refine Calls.spliced_nil (call_allX (X := X) (A := X.A) (k := k + 1) (G.hr.mono (by omega)) I.ok.frames (fun ys y H' h => h.imp fun _ z => z.1) M fun b H' s' I' h => ?_)
  rcases h with ⟨rfl, ys, b, e, h2⟩ | ⟨rfl, ys, h2⟩
  · cases e
    exact ⟨.bl false, H', I', rfl, h2 rfl⟩
  · exact ⟨.bl true, H', I', rfl, h2⟩
theorem pe_tupX (G : GenP X k c P elt tg iter ifs scope own wi g tt te) (hg : Gl X "tuple") (hm : X.mg "tuple" = none)
    (he : starEach [gexp elt tg iter ifs scope gpos] X.env = (false, eval (gexp elt tg iter ifs scope gpos) X.env) :: starEach [] X.env := by rfl) :
    PE X (.Call (.Name "tuple" p) [gexp elt tg iter ifs scope gpos] [] pos) (tTupX P wi g tt te (own.map (·.2))) := by
  refine ⟨fun pins s σ H Q I h => ?_⟩
  refine wpAny_Call_Name_kw (ld_blt I hg hm (show bootBuiltins "tuple" = some (.type "tuple") from by kernel_rfl) (PyProof.Rows.callWith_type1 ?_ he rfl))
  rw [he]
  show wpAny _ _ (spliced ((false, eval (gexp elt tg iter ifs scope gpos) X.env) :: backTo pos (starEach [] X.env))) _ _ s
  refine Calls.spliced_cons (gen_made (k := k) (G.hr.mono (by omega)) G.hc G.hN G.TB G.hcode G.S G.hi G.ok G.hg G.ht G.he G.hs I h fun u z M => ?_)
  exact Calls.spliced_nil (call_tupX (X := X) (A := X.A) (k := k + 1) G.hr I.ok.frames M fun l H' ys s' hl I' hle h => ⟨.ref l, _, I', rfl, h l hl⟩)
end
end Ph
namespace Ph
open PySem PySem.Spec PyProof.Rows L2 GenW
theorem wipe_keep {σ : L2.St} {j : Nat} : ∀ {vs : List Nat}, j ∉ vs → (wipe σ vs)[j]? = σ[j]?
  | [], _ => rfl
  | v :: vs, h => by
    unfold wipe
    rw [List.getElem?_set_ne (fun e => h (by rw [e]; exact List.mem_cons_self))]
    exact wipe_keep fun m => h (List.mem_cons_of_mem _ m)
abbrev gex2 (elt t0 i0 t1 i1 : Expr) (ifs0 ifs1 : List Expr) (scope : Scope) (pos : Pos) : Expr := gexN elt t0 i0 ifs0 [⟨t1, i1, ifs1, 0⟩] scope pos
theorem genTurn2_out (elt t0 i0 t1 i1 : Expr) (ifs0 ifs1 : List Expr) (scope : Scope) (pos : Pos) (it acc : Value) (env : Env) :
    compTurn (gex2 elt t0 i0 t1 i1 ifs0 ifs1 scope pos) 0 it acc env = (do
      standAt i0.pos
      match ← pyNext it with
      | none => pure (.done .next)
      | some v =>
        letOwnedTupleGo t0 it v
        assign t0 env v
        let mut ok := true
        for c in ifs0 do
          if ok then ok ← isTrue c env (eval c env)
        if ok then
          let x ← eval i1 env
          standAt i1.pos
          let x ← foldedSetIterable i1 env x
          let _ ← runOwn (.compStart (gex2 elt t0 i0 t1 i1 ifs0 ifs1 scope pos) 1 (← holding [x] (pyIter x)) acc env) env
        again (.compLoop (gex2 elt t0 i0 t1 i1 ifs0 ifs1 scope pos) 0 it acc env)) := by rfl
theorem genTurn2_in (elt t0 i0 t1 i1 : Expr) (ifs0 ifs1 : List Expr) (scope : Scope) (pos : Pos) (it acc : Value) (env : Env) :
    compTurn (gex2 elt t0 i0 t1 i1 ifs0 ifs1 scope pos) 1 it acc env = (do
      standAt i1.pos
      match ← pyNext it with
      | none => pure (.done .next)
      | some v =>
        letOwnedTupleGo t1 it v
        assign t1 env v
        let mut ok := true
        for c in ifs1 do
          if ok then ok ← isTrue c env (eval c env)
        if ok then
          (do let v ← eval elt env; standAt elt.pos; let _ ← yieldOut env v)
        again (.compLoop (gex2 elt t0 i0 t1 i1 ifs0 ifs1 scope pos) 1 it acc env)) := by rfl
section
variable {Y : Cx} {S : Addr} {RS : OwnR} {ip : List (Addr × Obj)} {fp : List Addr} {Aw : Around} {elt t0 i0 t1 i1 : Expr} {ifs0 ifs1 : List Expr} {scope : Scope} {pos : Pos} {it : Addr} {tn : Nat → Heap → Prop} {J : It} {g : TG} {tt : TT} {te : TE} {vs : List Nat} {σ : L2.St}
  {Cy : V → Prop} {Py : List V → V → Hp → Prop} {Pd : List V → Hp → Prop} {W : Nat → Nat → List V → Hp → Prop} {R : GenEnd} {YP : Protocol}
/-- the loop of the second for, over the first one's frame -/
theorem seg_g1 {k1 : Result → Sem PySem.Fin} {c0 : Code} {p0 : Pos} (hY0 : Y.xe = fun _ _ => False) (hov : Aw.over (.compLoop (gex2 elt t0 i0 t1 i1 ifs0 ifs1 scope pos) 1 (.ref it) .none Y.env) [.ret k1 none false [] c0 p0 []] = Y.A) (hc : Y.calm = true) (hco : Y.env.scope.isCoroutine = false) (T : Turn Y.prog Y.w Y.K t1 J fp it tn) (pg : PG Y t1 g) (pt : PTs Y ifs1 tt) (pe : PE Y elt te)
    (hturn : GW J g tt te vs σ Cy Py Pd W) (hRS : ∀ ys o, RS ys o → ∀ v, o.data ≠ .cell v) (hpn : ∀ p ∈ Y.pn ++ ip, p.1 ≠ S) (hA : Apart Y S)
    (hfp : ∀ b ∈ fp, b ≠ S ∧ b ≠ Y.env.locals ∧ b ∉ Y.fs ∧ (b ∈ Y.ex ∨ Y.s_0.heap.objs.size ≤ b) ∧ (∀ x c, Y.env.cells.lookup x = some c → c ≠ b) ∧ ∀ p ∈ Y.pn ++ ip, p.1 ≠ b)
    (hR : ∀ n s₀ ys H' s', n + ys.length = sizeLine → GIR Y S RS ip ys (wipe σ vs) H' s' → Pd ys H' → Seg (model Y.prog Y.w) Aw R YP n s₀ c0 (k1 (.ok .next)) [] s')
    (hY : ∀ n s₀ ys y v ip σ' H' s' kap, n + 1 + ys.length = sizeLine → RelV y v → GIR Y S RS ip ys σ' H' s' → Py ys y H' → (∀ s'', SleptR S RS Cy y s' s'' → kap (.send .none) s'') → YP n s₀ v s' kap) :
    ∀ (m i n : Nat) (ys : List V) (s₀ s : Shared) (H : Hp), n + ys.length = sizeLine → W i m ys H → tn i s.heap → (∀ b ∈ fp, H b = none) → GIR Y S RS ip ys (wipe σ vs) H s →
      Seg (model Y.prog Y.w) Aw R YP n s₀ (.compLoop (gex2 elt t0 i0 t1 i1 ifs0 ifs1 scope pos) 1 (.ref it) .none Y.env) ((model Y.prog Y.w).den (.compLoop (gex2 elt t0 i0 t1 i1 ifs0 ifs1 scope pos) 1 (.ref it) .none Y.env)) [.ret k1 none false [] c0 p0 []] s := by
  intro m
  induction m using Nat.strongRecOn with
  | ind m ih =>
    intro i n ys s₀ s H hn w5 st5 n5 hG
    obtain ⟨ob, rs, I5⟩ := hG
    have stat : ∀ {σ' : L2.St} {H' : Hp} {s' : Shared} {o' : Obj}, Inv Y ((S, o') :: ip) σ' H' s' → (∀ b ∈ fp, H' b = none) → ∀ b ∈ fp, FpOk Y ((S, o') :: ip) H' b := fun {σ' H' s' o'} I' hn b hb => by
      obtain ⟨q1, q2, q3, q4, q5, q6⟩ := hfp b hb
      refine ⟨hn b hb, q2, q3, q4, q5, fun p hp => ?_⟩
      rcases List.mem_append.mp hp with z | z
      · exact q6 p (List.mem_append_left _ z)
      · rcases List.mem_cons.mp z with z | z
        · rw [z]; exact Ne.symm q1
        · exact q6 p (List.mem_append_right _ z)
    show Seg _ Aw _ _ _ s₀ _ ((compTurn (gex2 elt t0 i0 t1 i1 ifs0 ifs1 scope pos) 1 (.ref it) .none Y.env).onRaise (fun x => do noteFrame x Y.env; theTreesLotGoes x)) [.ret k1 none false [] c0 p0 []] s
    rw [genTurn2_in, Sem.onRaise_eq_wrap]
    refine seg_bind_wrap (wpAny_standAt ?_)
    rcases hturn i m ys H w5 with ⟨stop, qq⟩ | ⟨go, Nx, hNx, step⟩
    · refine seg_bind_wrap ?_
      rw [hov]
      have td := T.done Y rfl rfl rfl hc i _ s _ H (fun _ _ => False) I5 (stat I5 n5) st5 stop
      refine thnF td fun r s6 ⟨hr, I6⟩ => ?_
      subst hr
      exact seg_leaf (.ok .next) (hR n s₀ ys H s6 hn ⟨ob, rs, I6⟩ qq)
    · refine seg_bind_wrap ?_
      rw [hov]
      have ti := T.item Y rfl rfl rfl hc i _ s _ H (fun _ _ => False) I5 (stat I5 n5) st5 go
      refine thnF ti fun r s6 ⟨u, hr, h6⟩ => ?_
      subst hr
      refine seg_bind_wrap ?_
      rw [hov]
      refine thnF h6 fun _ s7 ⟨x, H7, I7, r7, y7, st7, n7⟩ => ?_
      have I7' := I7.pinned (stat I7 n7) (T.obj _ _ st7)
      have run1 := pg.run _ s7 _ H7 x u _ I7' r7 (step x H7 y7)
      rw [hY0] at run1
      refine seg_bind_wrap ?_
      rw [hov]
      refine thnF run1 fun _ s8 ⟨σ8, H8, I8, hw8, q8⟩ => ?_
      have run2 := pt.run _ s8 σ8 H8 _ I8 q8
      rw [hY0] at run2
      refine seg_bind_wrap ?_
      rw [hov]
      refine thnF run2 fun b s9 ⟨H9, I9, q9⟩ => ?_
      have fin : ∀ {s₀ s' : Shared} {H' : Hp} {o' : Obj} {ys' : List V} {n' : Nat}, n' + ys'.length = sizeLine → RS ys' o' → Inv Y (((S, o') :: ip) ++ pinsAt fp s7.heap) σ8 H' s' → Nx ys' H' →
          Seg (model Y.prog Y.w) Aw R YP n' s₀ (.compLoop (gex2 elt t0 i0 t1 i1 ifs0 ifs1 scope pos) 1 (.ref it) .none Y.env) ((model Y.prog Y.w).den (.compLoop (gex2 elt t0 i0 t1 i1 ifs0 ifs1 scope pos) 1 (.ref it) .none Y.env)) [.ret k1 none false [] c0 p0 []] s' := fun {s₀ s' H' o' ys' n'} hn' rs' I' nx => by
        obtain ⟨m', hm, w'⟩ := hNx ys' H' nx
        have pin' : ∀ b ∈ fp, ∀ o, s7.heap.get? b = some o → s'.heap.get? b = some o ∧ H' b = none := fun b hb o e =>
          let z := I'.pin (b, o) (List.mem_append_right _ (List.mem_append_right _ (mem_pinsAt hb e)))
          ⟨z.1, z.2.1⟩
        have hl : (wipe σ vs).length = σ8.length := by rw [← hw8, wipe_length]
        refine ih m' hm (i + 1) n' ys' s₀ s' H' hn' w' (T.keep _ _ _ st7 fun b hb o e => (pin' b hb o e).1) (fun b hb => ?_) ⟨o', rs', (I'.unpinned (pins := (S, o') :: ip)).weak hl (fun j v e => ?_)⟩
        · obtain ⟨o, e, _⟩ := T.obj _ _ st7 b hb
          exact (pin' b hb o e).2
        · rw [← hw8] at e
          exact (wipe_some e).1
      cases b with
      | false =>
        simp only [Bool.false_eq_true, if_false] at q9 ⊢
        exact seg_again rfl (fin hn rs I9 q9)
      | true =>
        simp only [if_true] at q9 ⊢
        have hy : ∀ v, yieldOut Y.env v = yieldValue v := fun v => by simp only [yieldOut, hco, Bool.false_eq_true, if_false]
        simp only [hy]
        rw [Sem.bind_eq_wrap', Sem.bind_eq_wrap', Sem.wrap_wrap, Sem.wrap_wrap]
        have run3 := pe.run _ s9 σ8 H9 _ I9 q9
        rw [hY0] at run3
        refine seg_wrap ?_
        rw [hov]
        refine thnF run3 fun z s10 ⟨yv, H10, I10, r10, hlt, py, nx⟩ => ?_
        obtain ⟨n, rfl⟩ : ∃ k, n = k + 1 := ⟨n - 1, by omega⟩
        have G10 : GIR Y S RS (ip ++ pinsAt fp s7.heap) ys σ8 H10 s10 := ⟨ob, rs, I10⟩
        refine seg_at (seg_yield rfl rfl rfl (hY n s₀ ys yv z _ σ8 H10 s10 _ hn r10 G10 py fun s'' zz => ?_))
        obtain ⟨o', rs', I''⟩ := G10.woken hRS (fun p hp => hpn p (List.mem_append_left _ hp)) (fun p hp => (List.mem_append.mp hp).elim (fun z => hpn p (List.mem_append_right _ z)) fun z => (hfp _ (of_pinsAt z).1).1) hA zz
        refine seg_again rfl (fin (by rw [List.length_append, List.length_singleton]; omega) rs' I'' (nx zz.go))
end
/-- what a turn of the first for does -/
def GW2 (J : It) (g0 : TG) (tt0 : TT) (wi1 : TI) (g1 : TG) (tt1 : TT) (te : TE) (vs vs1 : List Nat) (σ : L2.St) (Cy : V → Prop) (Py : List V → V → Hp → Prop) (Pd : List V → Hp → Prop) (W : Nat → Nat → List V → Hp → Prop) : Prop :=
  ∀ i m ys H, W i m ys H → (J.stop i H ∧ Pd ys H) ∨ (J.go i H ∧ ∃ Nx : List V → Hp → Prop, (∀ ys' H', Nx ys' H' → ∃ m', m' < m ∧ W (i + 1) m' ys' H') ∧ ∀ x H', J.yld i H x H' → g0 x (wipe σ vs) H' fun σ2 H2 => wipe σ2 vs = wipe σ vs ∧ tt0 σ2 H2 fun b H3 =>
    if b = true then wi1 σ2 H3 fun J1 H4 => ∃ W1 : Nat → Nat → List V → Hp → Prop, (∃ m, W1 0 m ys H4) ∧ GW J1 g1 tt1 te vs1 σ2 Cy Py Nx W1 else Nx ys H3)
section
variable {X : Cx} {σ : L2.St} {elt t0 i0 t1 i1 : Expr} {ifs0 ifs1 : List Expr} {scope : Scope} {gpos : Pos} {g0 g1 : TG} {tt0 tt1 : TT} {wi1 : TI} {te : TE} {vs vs1 : List Nat} {k : Nat} {Cy : V → Prop} {Py : List V → V → Hp → Prop} {Pd : List V → Hp → Prop}
theorem loop2 (hc : X.calm = true) (hco : scope.isCoroutine = false) (hsub : ∀ j, j ∈ vs1 → j ∈ vs)
    (hg0 : ∀ (A : Around) (s : Shared) (H : Hp) (C : Addr) (code : Value) (fp : List Addr) (pn : List (Addr × Obj)), Room k A → PG (gxOf X A s H (gxEnv X scope C code) fp pn) t0 g0)
    (ht0 : ∀ (A : Around) (s : Shared) (H : Hp) (C : Addr) (code : Value) (fp : List Addr) (pn : List (Addr × Obj)), Room k A → PTs (gxOf X A s H (gxEnv X scope C code) fp pn) ifs0 tt0)
    (hi1 : ∀ (A : Around) (s : Shared) (H : Hp) (C : Addr) (code : Value) (fp : List Addr) (pn : List (Addr × Obj)), Room k A → PI (gxOf X A s H (gxEnv X scope C code) fp pn) t1 i1 wi1)
    (hg1 : ∀ (A : Around) (s : Shared) (H : Hp) (C : Addr) (code : Value) (fp : List Addr) (pn : List (Addr × Obj)), Room k A → PG (gxOf X A s H (gxEnv X scope C code) fp pn) t1 g1)
    (ht1 : ∀ (A : Around) (s : Shared) (H : Hp) (C : Addr) (code : Value) (fp : List Addr) (pn : List (Addr × Obj)), Room k A → PTs (gxOf X A s H (gxEnv X scope C code) fp pn) ifs1 tt1)
    (he : ∀ (A : Around) (s : Shared) (H : Hp) (C : Addr) (code : Value) (fp : List Addr) (pn : List (Addr × Obj)), Room k A → PE (gxOf X A s H (gxEnv X scope C code) fp pn) elt te)
    (hs1 : ∀ (env : Env) x, foldedSetIterable i1 env x = pure x) :
    LoopX X k σ elt t0 i0 ifs0 [⟨t1, i1, ifs1, 0⟩] scope gpos vs (fun J H2 => ∃ W : Nat → Nat → List V → Hp → Prop, (∃ m, W 0 m [] H2) ∧ GW2 J g0 tt0 wi1 g1 tt1 te vs vs1 σ Cy Py Pd W) Cy Py Pd := by
  intro Aw S RS s3 H3 C code fp pn it tn J R YP rd T hRS hpn hS hA hR hY s₀ s H ⟨W, ⟨m0, w0⟩, hturn⟩ st hn hG
  have pg0 := hg0 _ s3 H3 C code fp pn rd
  have pt0 := ht0 _ s3 H3 C code fp pn rd
  have pi1 := hi1 _ s3 H3 C code fp pn rd
  have pg1 := hg1 _ s3 H3 C code fp pn rd
  have pt1 := ht1 _ s3 H3 C code fp pn rd
  have pe1 := he _ s3 H3 C code fp pn rd
  have hce : (gxEnv X scope C code).scope.isCoroutine = false := hco
  generalize gxEnv X scope C code = ce at *
  have stat : ∀ {σ' : L2.St} {H' : Hp} {s' : Shared} {o' : Obj}, Inv (gxOf X (Aw.deeper ce) s3 H3 ce fp pn) [(S, o')] σ' H' s' → (∀ b ∈ fp, H' b = none) → ∀ b ∈ fp, FpOk (gxOf X (Aw.deeper ce) s3 H3 ce fp pn) [(S, o')] H' b := fun {σ' H' s' o'} I' hn b hb =>
    ⟨hn b hb, (I'.ok.exf b hb).1, I'.ok.exfs b hb, .inl hb, fun x c e => (I'.ok.exf b hb).2 x c e, fun p hp => by
      rcases List.mem_append.mp hp with z | z
      · exact (hpn p z).2 b hb
      · rw [List.mem_singleton.mp z]
        exact Ne.symm (hS b hb)⟩
  have main : ∀ (m i n : Nat) (ys : List V) (s₀ s : Shared) (H : Hp), n + ys.length = sizeLine → W i m ys H → tn i s.heap → (∀ b ∈ fp, H b = none) → GIR (gxOf X (Aw.deeper ce) s3 H3 ce fp pn) S RS [] ys (wipe σ vs) H s →
      Seg (model X.prog X.w) Aw R YP n s₀ (.compLoop (gex2 elt t0 i0 t1 i1 ifs0 ifs1 scope gpos) 0 (.ref it) .none ce) ((model X.prog X.w).den (.compLoop (gex2 elt t0 i0 t1 i1 ifs0 ifs1 scope gpos) 0 (.ref it) .none ce)) [] s := by
    intro m
    induction m using Nat.strongRecOn with
    | ind m ih =>
      intro i n ys s₀ s H hn w5 st5 n5 hG
      obtain ⟨ob, rs, I5⟩ := hG
      show Seg _ Aw _ _ _ s₀ _ ((compTurn (gex2 elt t0 i0 t1 i1 ifs0 ifs1 scope gpos) 0 (.ref it) .none ce).onRaise (leaving ce)) [] s
      rw [genTurn2_out, Sem.onRaise_eq_wrap]
      refine seg_bind_wrap (wpAny_standAt ?_)
      rcases hturn i m ys H w5 with ⟨stop, qq⟩ | ⟨go, Nx, hNx, step⟩
      · refine seg_bind_wrap ?_
        rw [over_gen]
        have td := T.done (gxOf X (Aw.deeper ce) s3 H3 ce fp pn) rfl rfl rfl hc i _ s _ H (fun _ _ => False) I5 (stat I5 n5) st5 stop
        refine thnF td fun r s6 ⟨hr, I6⟩ => ?_
        subst hr
        exact seg_end (.ok .next) (hR n s₀ ys [] _ H s6 hn ⟨ob, rs, I6⟩ qq)
      · refine seg_bind_wrap ?_
        rw [over_gen]
        have ti := T.item (gxOf X (Aw.deeper ce) s3 H3 ce fp pn) rfl rfl rfl hc i _ s _ H (fun _ _ => False) I5 (stat I5 n5) st5 go
        refine thnF ti fun r s6 ⟨u, hr, h6⟩ => ?_
        subst hr
        refine seg_bind_wrap ?_
        rw [over_gen]
        refine thnF h6 fun _ s7 ⟨x, H7, I7, r7, y7, st7, n7⟩ => ?_
        have I7' := I7.pinned (stat I7 n7) (T.obj _ _ st7)
        refine seg_bind_wrap ?_
        rw [over_gen]
        refine thnF (pg0.run _ s7 _ H7 x u _ I7' r7 (step x H7 y7)) fun _ s8 ⟨σ8, H8, I8, hw8, q8⟩ => ?_
        refine seg_bind_wrap ?_
        rw [over_gen]
        refine thnF (pt0.run _ s8 σ8 H8 _ I8 q8) fun b s9 ⟨H9, I9, q9⟩ => ?_
        have hl : (wipe σ vs).length = σ8.length := by rw [← hw8, wipe_length]
        have fin : ∀ {s₀ s' : Shared} {H' : Hp} {o' : Obj} {ys' : List V} {n' : Nat} {σ' : L2.St}, n' + ys'.length = sizeLine → RS ys' o' → Inv (gxOf X (Aw.deeper ce) s3 H3 ce fp pn) ([(S, o')] ++ pinsAt fp s7.heap) σ' H' s' → σ'.length = σ8.length → (∀ j v, σ8[j]? = some (some v) → j ∉ vs → σ'[j]? = some (some v)) → Nx ys' H' →
            Seg (model X.prog X.w) Aw R YP n' s₀ (.compLoop (gex2 elt t0 i0 t1 i1 ifs0 ifs1 scope gpos) 0 (.ref it) .none ce) ((model X.prog X.w).den (.compLoop (gex2 elt t0 i0 t1 i1 ifs0 ifs1 scope gpos) 0 (.ref it) .none ce)) [] s' := fun {s₀ s' H' o' ys' n' σ'} hn' rs' I' hl' hk' nx => by
          obtain ⟨m', hm, w'⟩ := hNx ys' H' nx
          have pin' : ∀ b ∈ fp, ∀ o, s7.heap.get? b = some o → s'.heap.get? b = some o ∧ H' b = none := fun b hb o e =>
            let z := I'.pin (b, o) (List.mem_append_right _ (List.mem_append_right _ (mem_pinsAt hb e)))
            ⟨z.1, z.2.1⟩
          refine ih m' hm (i + 1) n' ys' s₀ s' H' hn' w' (T.keep _ _ _ st7 fun b hb o e => (pin' b hb o e).1) (fun b hb => ?_) ⟨o', rs', (I'.unpinned (pins := [(S, o')])).weak (hl.trans hl'.symm) (fun j v e => ?_)⟩
          · obtain ⟨o, e, _⟩ := T.obj _ _ st7 b hb
            exact (pin' b hb o e).2
          · rw [← hw8] at e
            obtain ⟨e1, e2⟩ := wipe_some e
            exact hk' j v e1 e2
        cases b with
        | false =>
          simp only [Bool.false_eq_true, if_false] at q9 ⊢
          exact seg_again rfl (fin hn rs I9 rfl (fun _ _ e _ => e) q9)
        | true =>
          simp only [if_true] at q9 ⊢
          refine seg_bind_wrap ?_
          rw [over_gen]
          refine thnF (pi1.run _ s9 σ8 H9 _ I9 q9) fun xv s10 hx => ?_
          refine seg_bind_wrap (wpAny_standAt ?_)
          refine seg_bind_wrap (wpAny_of_eq (hs1 _ xv) ?_)
          refine seg_bind_wrap (wpAny_holding ?_)
          rw [over_gen]
          refine thnF hx fun itv s11 h11 => ?_
          obtain ⟨it1, fp1, tn1, J1, H11, rfl, I11, T1, st11, f11, W1, ⟨m1, w1⟩, hW1⟩ := h11
          rw [Sem.bind_eq_wrap', Sem.wrap_wrap]
          refine seg_call fun p => ?_
          have hov : ∀ (kk : Result → Sem PySem.Fin), Aw.over (.compLoop (gex2 elt t0 i0 t1 i1 ifs0 ifs1 scope gpos) 1 (.ref it1) .none ce) [.ret kk none false [] (.compLoop (gex2 elt t0 i0 t1 i1 ifs0 ifs1 scope gpos) 0 (.ref it) .none ce) p []] = Aw.deeper ce := fun kk => (over_loop rfl rfl).trans over_gen
          have loop : ∀ (kk : Result → Sem PySem.Fin), kk (.ok .next) = .pure (.again (.compLoop (gex2 elt t0 i0 t1 i1 ifs0 ifs1 scope gpos) 0 (.ref it) .none ce)) → ∀ s₀, Seg (model X.prog X.w) Aw R YP n s₀ (.compLoop (gex2 elt t0 i0 t1 i1 ifs0 ifs1 scope gpos) 1 (.ref it1) .none ce) ((model X.prog X.w).den (.compLoop (gex2 elt t0 i0 t1 i1 ifs0 ifs1 scope gpos) 1 (.ref it1) .none ce)) [.ret kk none false [] (.compLoop (gex2 elt t0 i0 t1 i1 ifs0 ifs1 scope gpos) 0 (.ref it) .none ce) p []] s11 := fun kk hkk s₀ => seg_g1 (k1 := kk) (Y := gxOf X (Aw.deeper ce) s3 H3 ce fp pn) (S := S) (RS := RS) (ip := pinsAt fp s7.heap) (fp := fp1) (Aw := Aw) (vs := vs1) (σ := σ8) (pos := gpos) (R := R) (YP := YP) rfl (hov _) hc hce T1 pg1 pt1 pe1 hW1 hRS
            (fun p hp => (List.mem_append.mp hp).elim (fun z => (hpn p z).1) fun z => hS _ (of_pinsAt z).1) hA
            (fun b hb => by
              obtain ⟨_, q2, q3, q4, q5, q6⟩ := f11 b hb
              exact ⟨fun e => q6 (S, ob) (List.mem_append_right _ List.mem_cons_self) e.symm, q2, q3, q4, q5, fun p hp => q6 p ((List.mem_append.mp hp).elim (fun z => List.mem_append_left _ z) fun z => List.mem_append_right _ (List.mem_cons_of_mem _ z))⟩)
            (fun n' s₀' ys' H' s' hn' hG' nx => by
              obtain ⟨o', rs', J'⟩ := hG'
              rw [hkk]
              exact seg_again rfl (fin hn' rs' J' (wipe_length _ _) (fun j v e hj => by rw [wipe_keep fun z => hj (hsub j z)]; exact e) nx))
            hY m1 0 n ys s₀ s11 H11 hn w1 st11 (fun b hb => (f11 b hb).1) ⟨ob, rs, I11.weak (wipe_length _ _) (fun j v e => (wipe_some e).1)⟩
          show Seg _ Aw _ _ _ s₀ _ ((compStart (gex2 elt t0 i0 t1 i1 ifs0 ifs1 scope gpos) 1 (.ref it1) .none ce).onRaise (fun x => do noteFrame x ce; standAt theWindowsPlace)) _ s11
          unfold compStart
          rw [Sem.onRaise_eq_wrap]
          show Seg _ Aw _ _ _ s₀ _ ((ask >>= _).wrap _ _ _ _) _ s11
          refine seg_bind_wrap (wpAny_askSetting ?_)
          split
          · exact seg_again rfl (loop _ rfl s₀)
          · first
              | exact seg_bind_wrap (wpAny_rule (seg_bind_wrap (wpAny_standAt (seg_bind_wrap (T1.self _ 0 s11 _ _ st11 (seg_again rfl (loop _ rfl s₀)))))))
              | (refine seg_bind_wrap (wpAny_rule ?_); show Seg _ Aw _ _ _ s₀ _ ((standAt i1.pos >>= _).wrap _ _ _ _) _ s11; exact seg_bind_wrap (wpAny_standAt (seg_bind_wrap (T1.self _ 0 s11 _ _ st11 (seg_again rfl (loop _ rfl s₀))))))
  exact main m0 0 sizeLine [] s₀ s H rfl w0 st hn hG
end
/-- any (b0 = true), all (b0 = false) of two fors -/
def tAnyX2 (b0 : Bool) (P : Addr) (wi : TI) (g0 : TG) (tt0 : TT) (wi1 : TI) (g1 : TG) (tt1 : TT) (te : TE) (vs vs1 : List Nat) : TE := fun σ H Q =>
  wi σ H fun J H1 => GxR.TabG H1 P ∧ ∀ H2, GxR.Tabbed P H1 H2 → ∃ W : Nat → Nat → List V → Hp → Prop, (∃ m, W 0 m [] H2) ∧
    GW2 J g0 tt0 wi1 g1 tt1 te vs vs1 σ (fun y => y = .bl (!b0)) (fun _ y H' => ∃ b, y = .bl b ∧ (b = b0 → Q (.bl b0) H')) (fun _ H' => Q (.bl (!b0)) H') W
section
variable {X : Cx} {c P : Addr} {elt t0 i0 t1 i1 : Expr} {ifs0 ifs1 : List Expr} {scope : Scope} {own own1 : List (Str × Nat)} {p pos gpos : Pos} {wi wi1 : TI} {g0 g1 : TG} {tt0 tt1 : TT} {te : TE} {k : Nat}
structure GenP2 (X : Cx) (k : Nat) (c P : Addr) (elt t0 i0 t1 i1 : Expr) (ifs0 ifs1 : List Expr) (scope : Scope) (own own1 : List (Str × Nat)) (wi : TI) (g0 : TG) (tt0 : TT) (wi1 : TI) (g1 : TG) (tt1 : TT) (te : TE) : Prop where
  hr : Room (k + 7) X.A
  hc : X.calm = true
  hN : X.N.Nodup
  TB : GxR.TabB X.base X.mg c P
  hcode : X.env.code = .ref c
  S : GenSX scope
  hi : PI X t0 i0 wi
  ok : BlkOk X.N X.env.scope scope own
  sub : ∀ j, j ∈ own1.map (·.2) → j ∈ own.map (·.2)
  hg0 : ∀ (A : Around) (s : Shared) (H : Hp) (C : Addr) (code : Value) (fp : List Addr) (pn : List (Addr × Obj)), Room k A → PG (gxOf X A s H (gxEnv X scope C code) fp pn) t0 g0
  ht0 : ∀ (A : Around) (s : Shared) (H : Hp) (C : Addr) (code : Value) (fp : List Addr) (pn : List (Addr × Obj)), Room k A → PTs (gxOf X A s H (gxEnv X scope C code) fp pn) ifs0 tt0
  hi1 : ∀ (A : Around) (s : Shared) (H : Hp) (C : Addr) (code : Value) (fp : List Addr) (pn : List (Addr × Obj)), Room k A → PI (gxOf X A s H (gxEnv X scope C code) fp pn) t1 i1 wi1
  hg1 : ∀ (A : Around) (s : Shared) (H : Hp) (C : Addr) (code : Value) (fp : List Addr) (pn : List (Addr × Obj)), Room k A → PG (gxOf X A s H (gxEnv X scope C code) fp pn) t1 g1
  ht1 : ∀ (A : Around) (s : Shared) (H : Hp) (C : Addr) (code : Value) (fp : List Addr) (pn : List (Addr × Obj)), Room k A → PTs (gxOf X A s H (gxEnv X scope C code) fp pn) ifs1 tt1
  he : ∀ (A : Around) (s : Shared) (H : Hp) (C : Addr) (code : Value) (fp : List Addr) (pn : List (Addr × Obj)), Room k A → PE (gxOf X A s H (gxEnv X scope C code) fp pn) elt te
  hs : ∀ v, genFold i0 X.env v = pure v
  hs1 : ∀ (env : Env) x, foldedSetIterable i1 env x = pure x
theorem pe_anyX2 (G : GenP2 X k c P elt t0 i0 t1 i1 ifs0 ifs1 scope own own1 wi g0 tt0 wi1 g1 tt1 te) (hg : Gl X "any") (hm : X.mg "any" = none)
    (he : starEach [gex2 elt t0 i0 t1 i1 ifs0 ifs1 scope gpos] X.env = (false, eval (gex2 elt t0 i0 t1 i1 ifs0 ifs1 scope gpos) X.env) :: starEach [] X.env := by rfl) :
    PE X (.Call (.Name "any" p) [gex2 elt t0 i0 t1 i1 ifs0 ifs1 scope gpos] [] pos) (tAnyX2 true P wi g0 tt0 wi1 g1 tt1 te (own.map (·.2)) (own1.map (·.2))) := by
  refine ⟨fun pins s σ H Q I h => ?_⟩
  refine wpAny_Call_Name_kw (ld_blt I hg hm boot_any (PyProof.Rows.callWith_builtin1 ?_ he (by rfl)))
  rw [he]
  show wpAny _ _ (spliced ((false, eval (gex2 elt t0 i0 t1 i1 ifs0 ifs1 scope gpos) X.env) :: backTo pos (starEach [] X.env))) _ _ s
  refine Calls.spliced_cons (gen_madeN (k := k) (G.hr.mono (by omega)) G.hN G.TB G.hcode G.S G.hi G.ok (loop2 (X := X) (σ := σ) G.hc G.S.co G.sub G.hg0 G.ht0 G.hi1 G.hg1 G.ht1 G.he G.hs1) G.hs I h fun u z M => ?_)
  refine Calls.spliced_nil (call_anyX (X := X) (A := X.A) (k := k + 1) (G.hr.mono (by omega)) I.ok.frames (fun ys y H' h => h.imp fun _ z => z.1) M fun b H' s' I' h => ?_)
  rcases h with ⟨rfl, ys, b, e, h2⟩ | ⟨rfl, ys, h2⟩
  · cases e
    exact ⟨.bl true, H', I', rfl, h2 rfl⟩
  · exact ⟨.bl false, H', I', rfl, h2⟩
end
end Ph
namespace Ph
open PySem PySem.Spec PyProof.Rows L2 LamX
theorem lc_coreS {X : Cx} {pins : List (Addr × Obj)} {s : Shared} {σ : L2.St} {H : Hp} {Q : VK} {elt tg iter : Expr} {ifs : List Expr} {scope : Scope} {own : List (Str × Nat)} {pos pos' : Pos} {wi : TI} {g : TG} {ttS : L2.St → TT} {te : TE} {use : Option (Value → Sem Unit)} {Qf : Value → Shared → Prop}
    (hc : X.calm = true) (hN : X.N.Nodup) (I : Inv X pins σ H s) (hi : PI X tg iter wi) (ok : BlkOk X.N X.env.scope scope own)
    (hg : ∀ (s : Shared) (H : Hp) (C : Addr) (cl : List (Str × Addr)) (fp : List Addr), PG (X.blk s H scope (compEnvC scope cl C X.env) fp) tg g) (ht : ∀ (s : Shared) (H : Hp) (C : Addr) (cl : List (Str × Addr)) (fp : List Addr) (pinsX : List (Addr × Obj)) (σX : L2.St), Inv X pinsX σX H s → (∀ b ∈ fp, FpOk X pinsX H b) → PTs (X.blk s H scope (compEnvC scope cl C X.env) fp) ifs (ttS σX))
    (he : ∀ (s : Shared) (H : Hp) (C : Addr) (cl : List (Str × Addr)) (fp : List Addr), PE (X.blk s H scope (compEnvC scope cl C X.env) fp) elt te) (hs : ∀ x, foldedSetIterable iter X.env x = pure x)
    (h : tLc wi g (ttS σ) te (own.map (·.2)) σ H Q)
    (hRR : ∀ D C s' m H', Inv X pins σ H' s' → Q (.ref D) H' → s'.heap.Ns C m → FpOk X pins H' C → compPost (model X.prog X.w) X.A X.xe use Qf (.ref D) C (.ok .next) s') :
    wpAny (model X.prog X.w) X.A (comprehension (.ListComp elt [⟨tg, iter, ifs, 0⟩] scope pos) scope X.env pos' (newList []) false (eval iter X.env) use) Qf X.xe s := by
  have hfree : ∀ y ∈ scope.names, y.2 = .free → ∃ c, X.env.cells.lookup y.1 = some c := fun y hy e => by
    rcases ok.free y hy e with k | k
    · exact I.ok.has _ (.inl k)
    · exact I.ok.has _ (.inr k)
  refine wpAny_comprehension_free (use := use) rfl hs (closure_ok hfree) ok.kind (fun y hy e => by rw [ok.uniq y hy, e])
    (thn (hi.run pins s σ H _ I h) fun xv s1 hx => thn hx fun itv s2 h2 => ?_)
  obtain ⟨it, fp, tn, J, H2, e, I2, T, st2, f2, q⟩ := h2
  subst e
  refine wpAny_newObj_type (newEnv_comp ?_) (by show 0 ≤ sizeLine; decide)
  generalize hD : s2.heap.objs.size = D
  have hDn : H2 D = none := I2.hok.fresh (Nat.le_of_eq hD)
  obtain ⟨W, ⟨m0, w0⟩, turn⟩ := q D hDn
  -- the new list
  generalize hs3 : ({ s2 with heap := s2.heap.push { cls := .type "list", data := .seq ([] : List Value).toArray } } : Shared) = s3
  have I3 : Inv X pins σ (upd H2 D (.lst [])) s3 := by
    rw [← hs3]
    refine I2.laid (t' := s2.toks) (fun b o e => Heap.get?_push_of_some _ e) (Nat.le_of_eq hD) ⟨Nat.zero_le _, [], 0, .nil, ?_⟩
    rw [← hD]
    exact Heap.get?_push_size _ rfl
  have h3 : s3.heap = s2.heap.push { cls := .type "list", data := .seq ([] : List Value).toArray } := by rw [← hs3]
  have sz : ∀ b ∈ fp, b < s2.heap.objs.size := fun b hb => by
    obtain ⟨o, e, _⟩ := T.obj _ _ st2 b hb
    exact Heap.lt_size e
  have f3 : ∀ b ∈ fp, FpOk X pins (upd H2 D (.lst [])) b ∧ b < s3.heap.objs.size := fun b hb => by
    have hlt := sz b hb
    refine ⟨⟨?_, (f2 b hb).2⟩, by rw [h3, Heap.size_push]; exact Nat.lt_succ_of_lt hlt⟩
    rw [upd_ne (by rw [← hD]; exact Nat.ne_of_lt hlt)]
    exact (f2 b hb).1
  have st3 : tn 0 s3.heap := T.keep _ _ _ st2 fun b _ o e => by rw [h3]; exact Heap.get?_push_of_some _ e
  have I4 := block_start I3 ok hN f3
  have pg := hg s3 (upd H2 D (.lst [])) s3.heap.objs.size (cellsFrom (s3.heap.objs.size + 1) scope.names (cloFrom X.env.cells scope.names [])) fp
  have pt := ht s3 (upd H2 D (.lst [])) s3.heap.objs.size (cellsFrom (s3.heap.objs.size + 1) scope.names (cloFrom X.env.cells scope.names [])) fp pins σ I3 fun b hb => (f3 b hb).1
  have pe := he s3 (upd H2 D (.lst [])) s3.heap.objs.size (cellsFrom (s3.heap.objs.size + 1) scope.names (cloFrom X.env.cells scope.names [])) fp
  show codeAny _ _ (.compStart (.ListComp elt [⟨tg, iter, ifs, 0⟩] scope pos) 0 (.ref it) (.ref D) (compEnvC scope (cellsFrom (s3.heap.objs.size + 1) scope.names (cloFrom X.env.cells scope.names [])) s3.heap.objs.size X.env)) (compPost (model X.prog X.w) X.A X.xe use Qf (.ref D) s3.heap.objs.size) { s3 with heap := pushCells (s3.heap.push { cls := .type "dict", data := .dict #[] }) scope.names }
  have nfp : ∀ b ∈ fp, (upd H2 D (.lst [])) b = none := fun b hb => (f3 b hb).1.1
  generalize hce : compEnvC scope (cellsFrom (s3.heap.objs.size + 1) scope.names (cloFrom X.env.cells scope.names [])) s3.heap.objs.size X.env = ce at I4 pg pt pe ⊢
  have cL : ce.locals = s3.heap.objs.size := by subst hce; rfl
  generalize hH3 : upd H2 D (.lst []) = H3 at I3 I4 pg pt pe w0 nfp f3
  generalize hs4 : ({ s3 with heap := pushCells (s3.heap.push { cls := .type "dict", data := .dict #[] }) scope.names } : Shared) = s4 at I4 ⊢
  have st4 : tn 0 s4.heap := T.keep _ _ _ st3 fun b _ o e => by rw [← hs4]; exact pushCells_keeps _ _ _ _ (Heap.get?_push_of_some _ e)
  have stat : ∀ {σ' : L2.St} {H' : Hp} {s' : Shared}, Inv (X.blk s3 H3 scope ce fp) [] σ' H' s' → (∀ b ∈ fp, H' b = none) → ∀ b ∈ fp, FpOk (X.blk s3 H3 scope ce fp) [] H' b := fun {σ' H' s'} I' hn b hb =>
    ⟨hn b hb, (I'.ok.exf b hb).1, I'.ok.exfs b hb, .inl hb, fun x c e => (I'.ok.exf b hb).2 x c e, fun p hp => absurd (show p ∈ ([] : List (Addr × Obj)) ++ [] from hp) (by simp)⟩
  have loop : codeAny (model X.prog X.w) X.A (.compLoop (.ListComp elt [⟨tg, iter, ifs, 0⟩] scope pos) 0 (.ref it) (.ref D) ce) (compPost (model X.prog X.w) X.A X.xe use Qf (.ref D) s3.heap.objs.size) s4 := by
    refine compLoop_any (fun n s' => ∃ i H', Inv (X.blk s3 H3 scope ce fp) [] (wipe σ (own.map (·.2))) H' s' ∧ tn i s'.heap ∧ (∀ b ∈ fp, H' b = none) ∧ W i n H') ?_ m0 ⟨0, H3, I4, st4, nfp, w0⟩
    rintro n s5 ⟨i, H5, I5, st5, n5, w5⟩
    rcases turn i n H5 w5 with ⟨stop, qq⟩ | ⟨go, Nx, hNx, step⟩
    · have td := T.done (X.blk s3 H3 scope ce fp) rfl rfl rfl hc i [] s5 _ H5 (fun _ _ => False) I5 (stat I5 n5) st5 stop
      refine thnF td fun r s6 ⟨hr, I6⟩ => ?_
      subst hr
      -- back in the def's context
      have I7 : Inv X pins σ H5 s6 := I3.call' (ch := fp) I6.os I6.base I6.hok I6.bare fun b hb => ⟨(f3 b hb).1.2.2.2.1, (f3 b hb).1.2.1, (f3 b hb).1.2.2.2.2.1, (f3 b hb).1.2.2.2.2.2⟩
      have nC : H5 s3.heap.objs.size = none := by
        have z : H5 ce.locals = none := I6.free
        rw [cL] at z
        exact z
      obtain ⟨m, hn, _⟩ := I6.loc
      have hn : s6.heap.Ns ce.locals m := hn
      rw [cL] at hn
      exact hRR D s3.heap.objs.size s6 m H5 I7 qq hn (I3.fpOk (Nat.le_refl _) nC)
    · have ti := T.item (X.blk s3 H3 scope ce fp) rfl rfl rfl hc i [] s5 _ H5 (fun _ _ => False) I5 (stat I5 n5) st5 go
      refine thnF ti fun r s6 ⟨u, hr, h6⟩ => ?_
      subst hr
      refine thnF h6 fun _ s7 ⟨x, H7, I7, r7, y7, st7, n7⟩ => ?_
      have I7' := I7.pinned (stat I7 n7) (T.obj _ _ st7)
      refine thnF (pg.run _ s7 _ H7 x u _ I7' r7 (step x H7 y7)) fun _ s8 ⟨σ8, H8, I8, hw8, q8⟩ => ?_
      refine thnF (pt.run _ s8 σ8 H8 _ I8 q8) fun b s9 ⟨H9, I9, q9⟩ => ?_
      -- the turn's end
      have fin : ∀ {s' : Shared} {H' : Hp}, Inv (X.blk s3 H3 scope ce fp) ([] ++ pinsAt fp s7.heap) σ8 H' s' → Nx H' → ∃ m, m < n ∧ ∃ i H', Inv (X.blk s3 H3 scope ce fp) [] (wipe σ (own.map (·.2))) H' s' ∧ tn i s'.heap ∧ (∀ b ∈ fp, H' b = none) ∧ W i m H' := fun {s' H'} I' nx => by
        obtain ⟨m', hm, w'⟩ := hNx H' nx
        have pin' : ∀ b ∈ fp, ∀ o, s7.heap.get? b = some o → s'.heap.get? b = some o ∧ H' b = none := fun b hb o e =>
          let z := I'.pin (b, o) (List.mem_append_right _ (List.mem_append_right _ (mem_pinsAt hb e)))
          ⟨z.1, z.2.1⟩
        have hl : (wipe σ (own.map (·.2))).length = σ8.length := by rw [← hw8, wipe_length]
        refine ⟨m', hm, i + 1, H', (I'.unpinned (pins := [])).weak hl (fun j v e => ?_), T.keep _ _ _ st7 fun b hb o e => (pin' b hb o e).1, fun b hb => ?_, w'⟩
        · rw [← hw8] at e
          exact (wipe_some e).1
        · obtain ⟨o, e, _⟩ := T.obj _ _ st7 b hb
          exact (pin' b hb o e).2
      cases b with
      | false =>
        simp only [Bool.false_eq_true, if_false] at q9 ⊢
        exact fin I9 q9
      | true =>
        simp only [if_true] at q9 ⊢
        refine thnF (pe.run _ s9 σ8 H9 _ I9 q9) fun z s10 ⟨yv, H10, I10, r10, acc, hD10, hz10, nx⟩ => ?_
        exact app_ok (X := X.blk s3 H3 scope ce fp) I10 hD10 hz10 r10 fun s11 I11 => fin I11 nx
  exact codeAny_compStart_list loop (T.self X.A 0 _ _ _ st4 loop)
def tLcS (wi : TI) (g : TG) (ttS : L2.St → TT) (te : TE) (vs : List Nat) : TE := fun σ H Q => tLc wi g (ttS σ) te vs σ H Q
theorem pe_lcS {X : Cx} {elt tg iter : Expr} {ifs : List Expr} {scope : Scope} {own : List (Str × Nat)} {pos : Pos} {wi : TI} {g : TG} {ttS : L2.St → TT} {te : TE} (hc : X.calm = true) (hN : X.N.Nodup) (hi : PI X tg iter wi) (ok : BlkOk X.N X.env.scope scope own)
    (hg : ∀ (s : Shared) (H : Hp) (C : Addr) (cl : List (Str × Addr)) (fp : List Addr), PG (X.blk s H scope (compEnvC scope cl C X.env) fp) tg g)
    (ht : ∀ (s : Shared) (H : Hp) (C : Addr) (cl : List (Str × Addr)) (fp : List Addr) (pinsX : List (Addr × Obj)) (σX : L2.St), Inv X pinsX σX H s → (∀ b ∈ fp, FpOk X pinsX H b) → PTs (X.blk s H scope (compEnvC scope cl C X.env) fp) ifs (ttS σX))
    (he : ∀ (s : Shared) (H : Hp) (C : Addr) (cl : List (Str × Addr)) (fp : List Addr), PE (X.blk s H scope (compEnvC scope cl C X.env) fp) elt te) (hs : ∀ x, foldedSetIterable iter X.env x = pure x := by intro _; rfl) :
    PE X (.ListComp elt [⟨tg, iter, ifs, 0⟩] scope pos) (tLcS wi g ttS te (own.map (·.2))) := by
  refine ⟨fun pins s σ H Q I h => ?_⟩
  rw [eval_ListComp]
  refine lc_coreS hc hN I hi ok hg ht he hs h fun D C s' m H' I' q hn f => ⟨m, hn, fun h'' sb => ?_⟩
  obtain ⟨f0, f1, f2, f3, f4, f5⟩ := f
  exact ⟨.ref D, H', I'.turned (t' := s'.toks) (fun b o hb e => (sb.2 b hb).trans e) f0 f1 f3 f4 f5, rfl, q⟩
/-- the lambda as a value; cs: the def's cells -/
def tLamC (P : Addr) (q : Str) (cs : List (Str × Addr)) (d : LamD) : TE := fun _ H Q => TabS H P q ∧ ∀ (f c : Addr) (H1 : Hp), ExtP P H H1 → TabS H1 P q → H1 f = some (LamC f c q d.ps d.body d.sc (cloFrom cs d.sc.names [])) → H1 c = some (CodeO c q) → Q (.ref f) H1
theorem pe_lamC {X : Cx} {c P : Addr} {d : LamD} {pos : Pos} (TB : LamX.TabB X.base X.mg c P) (hcode : X.env.code = .ref c)
    (hdef : defaultsOf d.ps X.env = ([], [])) (L : LamS X.env.scope d.sc) : PE X (.Lambda d.ps d.body d.sc pos) (tLamC P (X.env.qual ++ "<lambda>") X.env.cells d) := by
  refine ⟨fun pins s σ H Q I h => ?_⟩
  obtain ⟨hT, h⟩ := h
  exact lamC_make I TB hcode hT hdef (L.has I.ok) fun f c' H1 s' I1 e t1 h1 h2 => ⟨.ref f, H1, I1, rfl, h f c' H1 e t1 h1 h2⟩
/-- the i-th slot holds one of the lambdas of fam: it is told; σX: the def's names at the block's entry -/
def tToldC (K : PySem.W.Frag) (CS : Addr) (ret q : Str) (cs : List (Str × Addr)) (i : Nat) (fam : List LamD) (t : Nat → XK → TE) (σX : L2.St) : TE := fun σ H Q => ∃ (f c : Addr) (k : Nat) (d : LamD), σ[i]? = some (some (.ref f)) ∧ fam[k]? = some d ∧
  H f = some (LamC f c q d.ps d.body d.sc (cloFrom cs d.sc.names [])) ∧ H c = some (CodeO c q) ∧ t k (kTold K CS ret Q) σX H Q
theorem pe_toldC {X : Cx} {sB : Shared} {HB : Hp} {scope : Scope} {ceB : Env} {fp : List Addr} {pinsX : List (Addr × Obj)} {σX : L2.St} {x a y ret : Str} {g CS : Addr} {k i : Nat} {pg : Arguments} {bg : List Stmt} {sg : Scope} {dV kV doc pm cdv ct oc : Value} {an od : Option Addr} {osl : Array (Option Value)} {Ng : List Str}
    {fam : List LamD} {t : Nat → XK → TE} {p py pos : Pos} (IX : Inv X pinsX σX HB sB) (fX : ∀ b ∈ fp, FpOk X pinsX HB b) (hg : Gl (X.blk sB HB scope ceB fp) x) (hm : X.mg x = some (.ref g)) (hk : PySem.W.keepIn X.K (.ref g) = true)
    (lk : X.K.lookup g = some ⟨oc, od, .func (PySem.W.fnOf x x pg bg sg dV kV doc pm an cdv ct), osl⟩) (hcg : PySem.W.codeIn X.K cdv x = true) (hb : L2.Binds X.K (PySem.W.fnOf x x pg bg sg dV kV doc pm an cdv ct) [a] []) (Sg : FnScope Ng [a] sg) (hNg : Ng[0]? = some a) (hva : Vis sg a)
    (hG : GivesTo X Ng x sg g cdv bg a (X.env.qual ++ "<lambda>") (TTold X.K CS ret)) (hi : X.N[i]? = some y) (hv : Vis ceB.scope y) (hr : Room (k + 2) X.A)
    (hno : ∀ (j : Nat) (d : LamD), fam[j]? = some d → LamS X.env.scope d.sc) (hbind : ∀ (j : Nat) (d : LamD), fam[j]? = some d → ∀ (cl : List (Str × Addr)) (c' : Addr) (pm ctv : Value), bindArgs (PySem.W.kla_fn "<lambda>" (X.env.qual ++ "<lambda>") d.ps d.body d.sc cl pm (.ref c') ctv) ⟨[], []⟩ = pure [])
    (hbody : ∀ (j : Nat) (d : LamD), fam[j]? = some d → ∀ (A : Around) (outer : List Env) (s : Shared) (H : Hp) (E : XK) (f c' : Addr), Room k (A.deeper (lamEnv X d.sc s.heap.objs.size f c')) → PE (lamCx X A outer s H E d.sc f c') d.body (t j E))
    (hdb : (x == ("__debug__" : Str)) = false := by decide) (hd : (a == ("__debug__" : Str)) = false := by decide) (hcd : (a == ("__classdict__" : Str)) = false := by decide) (hyd : (y == ("__debug__" : Str)) = false := by decide) (hyc : (y == ("__classdict__" : Str)) = false := by decide) :
    PE (X.blk sB HB scope ceB fp) (.Call (.Name x p) [.Name y py] [] pos) (tToldC X.K CS ret (X.env.qual ++ "<lambda>") X.env.cells i fam t σX) := by
  refine ⟨fun pins s σ H Q I h => ?_⟩
  obtain ⟨f, c', j, d, hs, hj, hf, hc, ht⟩ := h
  refine wpAny_Call_Name_kw (ld_glob I hg hm ?_ hdb)
  refine PySem.W.callWith_K (h₀ := X.base) I.ok.mod.kin hk ?_ (by rfl) (by rfl)
  show wpAny _ _ (spliced ((false, eval (.Name y py) ceB) :: backTo pos (starEach [] ceB))) _ _ s
  refine Calls.spliced_cons (thn ((pe_var (X := X.blk sB HB scope ceB fp) (pos := py) (i := i) hi hv hyd hyc).run pins s σ H (fun v H1 => v = .ref f ∧ H1 = H) I ⟨.ref f, hs, rfl, rfl⟩) fun u s' ⟨v, H1, I1, r1, q1⟩ => ?_)
  obtain ⟨ev, eH⟩ := q1
  subst ev
  rw [eH] at I1
  obtain rfl : u = Value.ref f := r1
  have J1 : Inv X pinsX σX H s' := IX.call' (ch := fp) I1.os I1.base I1.hok I1.bare fun b hb => ⟨(fX b hb).2.2.2.1, (fX b hb).2.1, (fX b hb).2.2.2.2.1, (fX b hb).2.2.2.2.2⟩
  refine Calls.spliced_nil ⟨I1.kIn, ?_⟩
  have rc : codeAny (model X.prog X.w) X.A (.call (.ref g) ⟨[.ref f], []⟩) (CR C8.CX0 X.stack X.prog X.w H s' Q C8.E0) s' := by
    refine run_ofS (N := Ng) (ps := [a]) (us := [.ref f]) (vs := [.ref f]) lk hcg Sg hr J1.env0 (hb s' [.ref f] J1.kIn rfl) (.cons rfl .nil) rfl fun hr' => ?_
    obtain ⟨t', ht', hq'⟩ := hG f c' s' H Q (fun E H' Q' => H' f = some (LamC f c' (X.env.qual ++ "<lambda>") d.ps d.body d.sc (cloFrom X.env.cells d.sc.names [])) ∧ t j E σX H' Q')
      (fun W pn xe E p1 p2 tk hW => pe_actC (i := 0) J1 (hno j d hj) (hbind j d hj _ c') tk hW hr' (fun A outer s H hr2 => hbody j d hj A outer s H E f c' hr2) hNg hva hd hcd) hc ⟨hf, ht⟩
    exact ⟨t', ht'.nox, hq'⟩
  refine wpAny_call (codeAny_mono rc fun r s2 hq => ?_)
  cases r with
  | error e => exact (show False from hq).elim
  | ok fl =>
    cases fl with
    | ret u => exact I1.after hq
    | next => exact False.elim hq
    | brk => exact False.elim hq
    | cont => exact False.elim hq
end Ph
namespace Ph
open PySem PySem.Spec PyProof.Rows L2
/-- what stands at a key that may be None -/
def DGetN (H : Hp) (a : Addr) (y : V) (r : Option V) : Prop := DGet H a y r ∨ (y = .non ∧ r = none ∧ ∃ kvs, Rd H a (.dK kvs))
def tGet1 (td ty : TE) : TE := fun σ H Q => td σ H fun x H1 => ∃ a, x = .ref a ∧ IsD H1 a ∧ ty σ H1 fun y H2 => ∃ o, DGetN H2 a y o ∧ Q (o.getD .non) H2
def tGet2 (td ty tx : TE) : TE := fun σ H Q => td σ H fun x H1 => ∃ a, x = .ref a ∧ IsD H1 a ∧ ty σ H1 fun y H2 => tx σ H2 fun z H3 => ∃ o, DGetN H3 a y o ∧ Q (o.getD z) H3
section
variable {X : Cx} {pins : List (Addr × Obj)} {σ : L2.St} {H : Hp} {s : Shared} {a : Addr} {y d : V} {u r : Value} {o : Option V} {A : Around} {E : Value → Shared → Prop}
theorem d_get1N {Q : Value → Shared → Prop} (hu : A.units + 1 < cLine) (I : Inv X pins σ H s) (g : DGetN H a y o) (ry : RelV y u) (h : ∀ w' s', Inv X pins σ H s' → RelV (o.getD .non) w' → Q w' s') :
    wpAny (model X.prog X.w) A (call (.builtin "dict.get") [.ref a, u]) Q E s := by
  rcases g with g | ⟨rfl, rfl, kvs, e⟩
  · exact d_get1 hu I g ry h
  · obtain rfl : u = Value.none := ry
    obtain ⟨_, hd, vs, _, dd⟩ := dk_rd I.hok e
    obtain ⟨f, hm, hf⟩ := none_map dd
    refine call_meetsIn PySem.F.slot_dict_get dd.typeIs PySem.F.entry_dict_get (PySem.F.args_dict_get_2 _ _) (meets_dict_get (noneKind X.prog X.w) a (k := none) rfl hd) ⟨_, hm, h _ _ (I.tok _) ?_⟩
    rw [hf]
    rfl
theorem d_get2N {Q : Value → Shared → Prop} (hu : A.units + 1 < cLine) (I : Inv X pins σ H s) (g : DGetN H a y o) (ry : RelV y u) (rd : RelV d r) (h : ∀ w' s', Inv X pins σ H s' → RelV (o.getD d) w' → Q w' s') :
    wpAny (model X.prog X.w) A (call (.builtin "dict.get") [.ref a, u, r]) Q E s := by
  rcases g with g | ⟨rfl, rfl, kvs, e⟩
  · exact d_get2 hu I g ry rd h
  · obtain rfl : u = Value.none := ry
    obtain ⟨_, hd, vs, _, dd⟩ := dk_rd I.hok e
    obtain ⟨f, hm, hf⟩ := none_map dd
    refine call_meetsIn PySem.F.slot_dict_get dd.typeIs PySem.F.entry_dict_get (PySem.F.args_dict_get_3 _ _ _) (meets_dict_get_default (noneKind X.prog X.w) a (k := none) rfl hd r) ⟨_, hm, h _ _ (I.tok _) ?_⟩
    rw [hf]
    exact rd
end
section
variable {X : Cx} {o e f : Expr} {apos cpos : Pos} {td ty tx : TE}
theorem pe_get1 (hu : X.A.units + 64 < cLine) (ho : PE X o td) (he : PE X e ty) (m : M1 X o "get" apos e cpos) : PE X (.Call (.Attribute o "get" apos) [e] [] cpos) (tGet1 td ty) := by
  refine ⟨fun pins s σ H Q I h => ?_⟩
  refine wpAny_Call_method m.base m.few m.line PySem.F.plainAttrs_dict PySem.F.slot_dict_get PySem.F.type_dict_get (thn (ho.run pins s σ H _ I h) fun u s1 ⟨x, H1, I1, rx, a, ex, d, q1⟩ => ?_)
  subst ex
  obtain rfl : u = Value.ref a := rx
  obtain ⟨t1, t2, _⟩ := isD_at I1 d
  refine ⟨t1, t2, ?_⟩
  rw [m.trees]
  refine Calls.callWith_builtin rfl (Calls.evalArgs_plain (Calls.spliced_cons (thn (he.run pins s1 σ H1 _ I1 q1) fun iv s2 ⟨y, H2, I2, ry, ov, g, q2⟩ => Calls.spliced_nil ?_)))
  exact d_get1N (by omega) I2 g ry fun w' s3 I3 rw' => ⟨_, H2, I3, rw', q2⟩
theorem pe_get2 (hu : X.A.units + 64 < cLine) (ho : PE X o td) (he : PE X e ty) (hf : PE X f tx) (m : M2 X o "get" apos e f cpos) : PE X (.Call (.Attribute o "get" apos) [e, f] [] cpos) (tGet2 td ty tx) := by
  refine ⟨fun pins s σ H Q I h => ?_⟩
  refine wpAny_Call_method m.base m.few m.line PySem.F.plainAttrs_dict PySem.F.slot_dict_get PySem.F.type_dict_get (thn (ho.run pins s σ H _ I h) fun u s1 ⟨x, H1, I1, rx, a, ex, d, q1⟩ => ?_)
  subst ex
  obtain rfl : u = Value.ref a := rx
  obtain ⟨t1, t2, _⟩ := isD_at I1 d
  refine ⟨t1, t2, ?_⟩
  rw [m.trees]
  refine Calls.callWith_builtin rfl (Calls.evalArgs_plain (Calls.spliced_cons (thn (he.run pins s1 σ H1 _ I1 q1) fun iv s2 ⟨y, H2, I2, ry, q2⟩ =>
    Calls.spliced_cons (thn (hf.run pins s2 σ H2 _ I2 q2) fun fv s3 ⟨z, H3, I3, rz, ov, g, q3⟩ => Calls.spliced_nil ?_))))
  exact d_get2N (by omega) I3 g ry rz fun w' s4 I4 rw' => ⟨_, H3, I4, rw', q3⟩
end
def rInV (K : PySem.W.Frag) : R2 := fun x y H Q => rInU K x y H Q ∨ ∃ a kvs, x = .non ∧ y = .ref a ∧ Rd H a (.dK kvs) ∧ Q (.bl false) H
def rNotInV (K : PySem.W.Frag) : R2 := fun x y H Q => rNotInU K x y H Q ∨ ∃ a kvs, x = .non ∧ y = .ref a ∧ Rd H a (.dK kvs) ∧ Q (.bl true) H
section
variable {X : Cx}
theorem op_inNon : OpR X (compareOp .In) (fun x y H Q => ∃ a kvs, x = .non ∧ y = .ref a ∧ Rd H a (.dK kvs) ∧ Q (.bl false) H) := by
  intro pins s σ H x y v u Q I rx ry h
  obtain ⟨a, kvs, rfl, rfl, e, q⟩ := h
  cases ry
  obtain rfl : v = Value.none := rx
  exact d_inNone I e fun s3 I3 => ⟨.bl false, H, I3, rfl, q⟩
theorem op_notinNon : OpR X (compareOp .NotIn) (fun x y H Q => ∃ a kvs, x = .non ∧ y = .ref a ∧ Rd H a (.dK kvs) ∧ Q (.bl true) H) := by
  intro pins s σ H x y v u Q I rx ry h
  obtain ⟨a, kvs, rfl, rfl, e, q⟩ := h
  cases ry
  obtain rfl : v = Value.none := rx
  exact d_notInNone I e fun s3 I3 => ⟨.bl true, H, I3, rfl, q⟩
theorem u_inV (hu : X.A.units + 64 < cLine) : OpR X (compareOp .In) (rInV X.K) := (u_in hu).or op_inNon
theorem u_notinV (hu : X.A.units + 64 < cLine) : OpR X (compareOp .NotIn) (rNotInV X.K) := (u_notin hu).or op_notinNon
end
/-! ### a list or a tuple walked; more calls -/
def iSeq (K : PySem.W.Frag) (tl : TE) : TI := fun σ H R => tl σ H fun x H1 => ∃ a, x = .ref a ∧ (((∃ xs, SqL K H1 a xs) ∧ R (Itl K a) H1) ∨ ((∃ xs, SqT K H1 a xs) ∧ R (Itt K a) H1))
theorem pi_seq {X : Cx} {tg l : Expr} {tl : TE} (hl : PE X l tl) : PI X tg l (iSeq X.K tl) := by
  refine ⟨fun pins s σ H R I h => ?_⟩
  refine thn (hl.run pins s σ H _ I h) fun v s1 ⟨x, H1, I1, r1, q1⟩ => ?_
  obtain ⟨a, rfl, q1⟩ := q1
  cases r1
  have fr : ∀ {o : Obj}, ∀ b ∈ [s1.heap.objs.size], FpOk X pins H1 b := fun {o} b hb => by
    rw [List.mem_singleton.mp hb]
    exact I1.fpOk (Nat.le_refl _) (I1.hok.fresh (Nat.le_refl _))
  rcases q1 with ⟨⟨xs, hq⟩, q⟩ | ⟨⟨xs, hq⟩, q⟩
  · obtain ⟨its, rv, p, hz⟩ := I1.list hq
    refine wpAny_pyIter_list p.isList ?_
    exact ⟨s1.heap.objs.size, [s1.heap.objs.size], _, _, H1, rfl, I1.kept (t' := s1.toks) fun b o e => Heap.get?_push_of_some _ e, turn_list a _, ⟨_, Heap.get?_push_size _ rfl, rfl, rfl⟩, fr (o := ⟨.none, none, .plain, #[]⟩), q⟩
  · obtain ⟨its, rv, p, hz⟩ := I1.tuple hq
    refine wpAny_pyIter_tuple (show s1.heap.IsTuple a its.toArray from p) ?_
    exact ⟨s1.heap.objs.size, [s1.heap.objs.size], _, _, H1, rfl, I1.kept (t' := s1.toks) fun b o e => Heap.get?_push_of_some _ e, turn_tuple a _, ⟨_, Heap.get?_push_size _ rfl, rfl, rfl⟩, fr (o := ⟨.none, none, .plain, #[]⟩), q⟩
def rStrI : List V → Hp → VK → Prop := fun xs H Q => ∃ i, xs = [.int i] ∧ i.natAbs.log2 < 1920 ∧ Q (.str (toString i)) H
def rListOf (K : PySem.W.Frag) : List V → Hp → VK → Prop := fun xs H Q => ∃ p ys, xs = [.ref p] ∧ (SqL K H p ys ∨ SqT K H p ys) ∧ ∀ l, H l = none → Q (.ref l) (upd H l (.lst ys))
def rTupOf (K : PySem.W.Frag) : List V → Hp → VK → Prop := fun xs H Q => ∃ p ys, xs = [.ref p] ∧ ((SqL K H p ys ∧ ∀ l, H l = none → Q (.ref l) (upd H l (.tup ys))) ∨ (SqT K H p ys ∧ Q (.ref p) H))
def genSXB (sc : Scope) : Bool := !sc.isCoroutine && sc.names.all (fun y => !decide (y.2 = .cell)) && decide (sc.names.lookup (".0" : Str) = some NameKind.local)
theorem gensx_by {sc : Scope} (h : genSXB sc = true) : GenSX sc := by
  unfold genSXB at h
  simp only [Bool.and_eq_true, Bool.not_eq_true', decide_eq_true_eq, decide_eq_false_iff_not, List.all_eq_true] at h
  obtain ⟨⟨h1, h2⟩, h3⟩ := h
  exact ⟨h1, h2, h3⟩
/-! ### steps -/
section
variable {K : PySem.W.Frag} {B H : Hp} {L L' : List (Addr × HO)} {I : List Im} {Q : VK} {σ : L2.St} {P : Addr} {tb : Array Value} {q : Str} {cs : List (Str × Addr)}
theorem s_lamC {d : LamD} (hC : Ctx K B H L I) (m : Pick (P, .tbl tb) L L') (f : Im.tab q tb ∈ I)
    (k : ∀ f c tb' H1, Ctx K B H1 ((P, .tbl tb') :: L') (.pr (fun H => H f = some (LamC f c q d.ps d.body d.sc (cloFrom cs d.sc.names []))) (fun _ _ s h => s _ _ h rfl) :: .pr (fun H => H c = some (LamX.CodeO c q)) (fun _ _ s h => s _ _ h rfl) :: .tab q tb' :: I) → Q (.ref f) H1) : tLamC P q cs d σ H Q := by
  have hC := hC.pick m
  have e0 := hC.get List.mem_cons_self
  refine ⟨(hC.tab f).tabS e0, fun f c H1 e t1 hf hc => ?_⟩
  obtain ⟨tb', h1, h2, h3⟩ := t1
  exact k f c tb' H1 ((((hC.but List.mem_cons_self .here rfl e h1).add (i := .tab q tb') ⟨h2, h3⟩).add (i := .pr (fun H => H c = some (LamX.CodeO c q)) (fun _ _ s h => s _ _ h rfl)) hc).add (i := .pr (fun H => H f = some (LamC f c q d.ps d.body d.sc (cloFrom cs d.sc.names []))) (fun _ _ s h => s _ _ h rfl)) hf)
theorem s_toldC {CS : Addr} {ret : Str} {i : Nat} {fam : List LamD} {t : Nat → XK → TE} {σX : L2.St} (f c : Addr) (k : Nat) (d : LamD) (hs : σ[i]? = some (some (.ref f))) (hj : fam[k]? = some d)
    (hf : H f = some (LamC f c q d.ps d.body d.sc (cloFrom cs d.sc.names []))) (hc : H c = some (LamX.CodeO c q)) (h : t k (kTold K CS ret Q) σX H Q) : tToldC K CS ret q cs i fam t σX σ H Q := ⟨f, c, k, d, hs, hj, hf, hc, h⟩
/-- get, the dict and its rows known -/
theorem s_get1 {td ty : TE} (h : td σ H fun x H1 => ∃ a, x = .ref a ∧ IsD H1 a ∧ ty σ H1 fun y H2 => ∃ o, DGetN H2 a y o ∧ Q (o.getD .non) H2) : tGet1 td ty σ H Q := h
theorem s_get2 {td ty tx : TE} (h : td σ H fun x H1 => ∃ a, x = .ref a ∧ IsD H1 a ∧ ty σ H1 fun y H2 => tx σ H2 fun z H3 => ∃ o, DGetN H3 a y o ∧ Q (o.getD z) H3) : tGet2 td ty tx σ H Q := h
end
end Ph
namespace Ph
open PySem PySem.Spec PyProof.Rows L2
section
variable {κ α β : Type} [DecidableEq κ]
def look (l : List (κ × α)) (k : κ) : Option α := (l.find? fun p => decide (p.1 = k)).map (·.2)
def putR (l : List (κ × α)) (k : κ) (v : α) : List (κ × α) := if (l.any fun p => decide (p.1 = k)) = true then l.map (fun p => if p.1 = k then (p.1, v) else p) else l ++ [(k, v)]
theorem look_nil {k : κ} : look ([] : List (κ × α)) k = none := rfl
theorem look_cons {p : κ × α} {r : List (κ × α)} {k : κ} : look (p :: r) k = if p.1 = k then some p.2 else look r k := by
  unfold look
  rw [List.find?_cons]
  by_cases h : p.1 = k <;> simp [h]
theorem look_any (k : κ) : ∀ l : List (κ × α), (l.any fun p => decide (p.1 = k)) = (look l k).isSome
  | [] => rfl
  | p :: r => by
    rw [List.any_cons, look_cons, look_any k r]
    by_cases h : p.1 = k <;> simp [h]
theorem look_app {k : κ} : ∀ {l m : List (κ × α)}, look (l ++ m) k = (look l k).or (look m k)
  | [], m => by simp [look_nil]
  | p :: r, m => by
    rw [List.cons_append, look_cons, look_cons, look_app]
    by_cases h : p.1 = k <;> simp [h]
theorem look_map_put {k j : κ} {v : α} : ∀ {l : List (κ × α)}, look (l.map fun p => if p.1 = k then (p.1, v) else p) j = if j = k then (look l j).map (fun _ => v) else look l j
  | [] => by simp [look_nil]
  | p :: r => by
    rw [List.map_cons, look_cons, look_map_put, look_cons]
    by_cases h : p.1 = k
    · by_cases h2 : j = k
      · subst h2; simp [h]
      · have h3 : ¬ p.1 = j := fun e => h2 (e.symm.trans h)
        have h4 : ¬ k = j := fun e => h2 e.symm
        simp [h, h2, h4]
    · by_cases h2 : j = k
      · subst h2; simp [h]
      · simp [h, h2]
theorem look_put {l : List (κ × α)} {k j : κ} {v : α} : look (putR l k v) j = if j = k then some v else look l j := by
  unfold putR
  rw [look_any]
  by_cases hs : (look l k).isSome = true
  · rw [if_pos hs, look_map_put]
    by_cases h : j = k
    · subst h
      rw [if_pos rfl, if_pos rfl]
      cases e : look l j with
      | none => rw [e] at hs; cases hs
      | some x => rfl
    · rw [if_neg h, if_neg h]
  · rw [if_neg hs, look_app, look_cons, look_nil]
    by_cases h : j = k
    · subst h
      have : look l j = none := by
        cases e : look l j with
        | none => rfl
        | some x => rw [e] at hs; exact absurd rfl hs
      rw [this]; simp
    · have h2 : ¬ k = j := fun e => h e.symm
      rw [if_neg h, if_neg h2]; simp
theorem putR_len {l : List (κ × α)} {k : κ} {v : α} : (putR l k v).length ≤ l.length + 1 := by
  unfold putR
  split
  · rw [List.length_map]; exact Nat.le_succ _
  · rw [List.length_append]; exact Nat.le_refl _
end
/-- rows with keys that are texts -/
def mK {α : Type} (f : α → V) (l : List (Str × α)) : List (Key × V) := l.map fun p => (.inr p.1, f p.2)
/-- rows with keys (text, int) -/
def mT {α : Type} (f : α → V) (l : List ((Str × Int) × α)) : List (List Key × V) := l.map fun p => ([.inr p.1.1, .inl p.1.2], f p.2)
section
variable {α : Type} {f : α → V}
theorem mK_len {l : List (Str × α)} : (mK f l).length = l.length := by unfold mK; rw [List.length_map]
theorem mT_len {l : List ((Str × Int) × α)} : (mT f l).length = l.length := by unfold mT; rw [List.length_map]
theorem valV_mK {k : Str} : ∀ {l : List (Str × α)}, valV (mK f l) (.inr k) = (look l k).map f
  | [] => rfl
  | p :: r => by
    show valV ((Sum.inr p.1, f p.2) :: mK f r) (.inr k) = _
    rw [look_cons]
    by_cases h : p.1 = k
    · rw [valV_pos (by simp [h]), if_pos h]; rfl
    · rw [valV_neg (by simpa using h), if_neg h, valV_mK]
theorem keyT_inj {a b : Str × Int} : ([Sum.inr a.1, Sum.inl a.2] : List Key) = [.inr b.1, .inl b.2] ↔ a = b := by
  obtain ⟨a1, a2⟩ := a
  obtain ⟨b1, b2⟩ := b
  constructor
  · intro h
    injection h with h1 h2
    injection h2 with h2 _
    injection h1 with h1
    injection h2 with h2
    exact Prod.ext h1 h2
  · intro h; cases h; rfl
theorem valV_mT {k : Str × Int} : ∀ {l : List ((Str × Int) × α)}, valV (mT f l) [.inr k.1, .inl k.2] = (look l k).map f
  | [] => rfl
  | p :: r => by
    show valV (([Sum.inr p.1.1, Sum.inl p.1.2], f p.2) :: mT f r) [.inr k.1, .inl k.2] = _
    rw [look_cons]
    by_cases h : p.1 = k
    · rw [valV_pos (keyT_inj.mpr h), if_pos h]; rfl
    · rw [valV_neg (fun e => h (keyT_inj.mp e)), if_neg h, valV_mT]
theorem putK_mK {l : List (Str × α)} {k : Str} {v : α} : putK (mK f l) (.inr k) (f v) = mK f (putR l k v) := by
  unfold putK putR
  rw [valV_any, valV_mK, look_any, Option.isSome_map]
  split
  · unfold mK
    rw [List.map_map, List.map_map]
    refine List.map_congr_left fun p _ => ?_
    by_cases h : p.1 = k <;> simp [h]
  · unfold mK
    rw [List.map_append]; rfl
theorem putK_mT {l : List ((Str × Int) × α)} {k : Str × Int} {v : α} : putK (mT f l) [.inr k.1, .inl k.2] (f v) = mT f (putR l k v) := by
  unfold putK putR
  rw [valV_any, valV_mT, look_any, Option.isSome_map]
  split
  · unfold mT
    rw [List.map_map, List.map_map]
    refine List.map_congr_left fun p _ => ?_
    by_cases h : p.1 = k
    · have e := keyT_inj.mpr h
      simp only [Function.comp, e, h, if_true]
    · have e : ¬ ([Sum.inr p.1.1, Sum.inl p.1.2] : List Key) = [.inr k.1, .inl k.2] := fun e => h (keyT_inj.mp e)
      simp only [Function.comp, e, h, if_false]
  · unfold mT
    rw [List.map_append]; rfl
end
/-! ### steps: reads and puts -/
section
variable {K : PySem.W.Frag} {B H : Hp} {L L' : List (Addr × HO)} {I : List Im} {Q : VK} {σ : L2.St} {d b : Addr} {α : Type} {f : α → V}
def kGet1 (ty : TE) (σ : L2.St) (Q : VK) : VK := fun x H1 => ∃ a, x = .ref a ∧ IsD H1 a ∧ ty σ H1 fun y H2 => ∃ o, DGetN H2 a y o ∧ Q (o.getD .non) H2
def kGetK1 (a : Addr) (Q : VK) : VK := fun y H2 => ∃ o, DGetN H2 a y o ∧ Q (o.getD .non) H2
def kGet2 (ty tx : TE) (σ : L2.St) (Q : VK) : VK := fun x H1 => ∃ a, x = .ref a ∧ IsD H1 a ∧ ty σ H1 fun y H2 => tx σ H2 fun z H3 => ∃ o, DGetN H3 a y o ∧ Q (o.getD z) H3
def kGetY2 (a : Addr) (tx : TE) (σ : L2.St) (Q : VK) : VK := fun y H2 => tx σ H2 fun z H3 => ∃ o, DGetN H3 a y o ∧ Q (o.getD z) H3
def kGetZ2 (a : Addr) (y : V) (Q : VK) : VK := fun z H3 => ∃ o, DGetN H3 a y o ∧ Q (o.getD z) H3
theorem s_g1 {td ty : TE} (h : td σ H (kGet1 ty σ Q)) : tGet1 td ty σ H Q := h
theorem s_g2 {td ty tx : TE} (h : td σ H (kGet2 ty tx σ Q)) : tGet2 td ty tx σ H Q := h
theorem s_g1K {ty : TE} {l : List (Key × V)} (m : H d = some (.dK l)) (h : ty σ H (kGetK1 d Q)) : kGet1 ty σ Q (.ref d) H := ⟨d, rfl, .inl ⟨l, .inl m⟩, h⟩
theorem s_g1T {ty : TE} {l : List (List Key × V)} (m : H d = some (.dT l)) (h : ty σ H (kGetK1 d Q)) : kGet1 ty σ Q (.ref d) H := ⟨d, rfl, .inr ⟨l, .inl m⟩, h⟩
theorem s_g2K {ty tx : TE} {l : List (Key × V)} (m : H d = some (.dK l)) (h : ty σ H (kGetY2 d tx σ Q)) : kGet2 ty tx σ Q (.ref d) H := ⟨d, rfl, .inl ⟨l, .inl m⟩, h⟩
theorem s_g2T {ty tx : TE} {l : List (List Key × V)} (m : H d = some (.dT l)) (h : ty σ H (kGetY2 d tx σ Q)) : kGet2 ty tx σ Q (.ref d) H := ⟨d, rfl, .inr ⟨l, .inl m⟩, h⟩
theorem s_g2y {tx : TE} {y : V} (h : tx σ H (kGetZ2 d y Q)) : kGetY2 d tx σ Q y H := h
theorem s_g1Kv {l : List (Str × α)} {x : Str} (m : H d = some (.dK (mK f l))) (q : Q (((look l x).map f).getD .non) H) : kGetK1 d Q (.str x) H := ⟨_, .inl (.inl ⟨_, .inr x, .inl m, rfl, rfl⟩), by rw [valV_mK]; exact q⟩
theorem s_g1Kn {l : List (Key × V)} (m : H d = some (.dK l)) (q : Q .non H) : kGetK1 d Q .non H := ⟨none, .inr ⟨rfl, rfl, l, .inl m⟩, q⟩
theorem s_g2Kv {l : List (Str × α)} {x : Str} {z : V} (m : H d = some (.dK (mK f l))) (q : Q (((look l x).map f).getD z) H) : kGetZ2 d (.str x) Q z H := ⟨_, .inl (.inl ⟨_, .inr x, .inl m, rfl, rfl⟩), by rw [valV_mK]; exact q⟩
theorem s_g2Kn {l : List (Key × V)} {z : V} (m : H d = some (.dK l)) (q : Q z H) : kGetZ2 d .non Q z H := ⟨none, .inr ⟨rfl, rfl, l, .inl m⟩, q⟩
theorem s_g2Tv {l : List ((Str × Int) × α)} {x : Str} {i : Int} {z : V} (m : H d = some (.dT (mT f l))) (mb : H b = some (.tup [.str x, .int i])) (q : Q (((look l (x, i)).map f).getD z) H) : kGetZ2 d (.ref b) Q z H :=
  ⟨_, .inl (.inr ⟨_, [.inr x, .inl i], b, .inl m, rfl, mb, rfl⟩), by rw [valV_mT (k := (x, i))]; exact q⟩
theorem s_g1Ke {l : List (Str × α)} {x : Str} {v : α} (m : H d = some (.dK (mK f l))) (e : look l x = some v) (q : Q (f v) H) : kGetK1 d Q (.str x) H := s_g1Kv m (by rw [e]; exact q)
theorem s_g1Kz {l : List (Str × α)} {x : Str} (m : H d = some (.dK (mK f l))) (e : look l x = none) (q : Q .non H) : kGetK1 d Q (.str x) H := s_g1Kv m (by rw [e]; exact q)
theorem s_g2Ke {l : List (Str × α)} {x : Str} {v : α} {z : V} (m : H d = some (.dK (mK f l))) (e : look l x = some v) (q : Q (f v) H) : kGetZ2 d (.str x) Q z H := s_g2Kv m (by rw [e]; exact q)
theorem s_g2Kz {l : List (Str × α)} {x : Str} {z : V} (m : H d = some (.dK (mK f l))) (e : look l x = none) (q : Q z H) : kGetZ2 d (.str x) Q z H := s_g2Kv m (by rw [e]; exact q)
theorem s_g2TI {l : List ((Str × Int) × Int)} {x : Str} {i z : Int} (m : H d = some (.dT (mT V.int l))) (mb : H b = some (.tup [.str x, .int i])) (q : Q (.int ((look l (x, i)).getD z)) H) : kGetZ2 d (.ref b) Q (.int z) H :=
  s_g2Tv m mb (by cases e : look l (x, i) with
    | none => rw [e] at q; exact q
    | some v => rw [e] at q; exact q)
theorem s_ninKe {l : List (Str × α)} {x : Str} {v : α} (m : H d = some (.dK (mK f l))) (e : look l x = some v) (q : Q (.bl false) H) : rNotInV K (.str x) (.ref d) H Q :=
  .inl (.inr (.inl ⟨d, _, rfl, .inl ⟨_, .inr x, .inl m, rfl, rfl⟩, by rw [valV_mK, Option.isSome_map, e]; exact q⟩))
theorem s_ninKz {l : List (Str × α)} {x : Str} (m : H d = some (.dK (mK f l))) (e : look l x = none) (q : Q (.bl true) H) : rNotInV K (.str x) (.ref d) H Q :=
  .inl (.inr (.inl ⟨d, _, rfl, .inl ⟨_, .inr x, .inl m, rfl, rfl⟩, by rw [valV_mK, Option.isSome_map, e]; exact q⟩))
/-- a tuple made, tracked -/
theorem s_tupP {xs : List V} (hC : Ctx K B H L I) (hz : xs.length ≤ 1000) (k : ∀ p H1, Ctx K B H1 L (.pr (fun H => H p = some (.tup xs)) (fun _ _ s h => s _ _ h rfl) :: .tup p xs :: I) → Q (.ref p) H1) : kTup Q xs H :=
  ⟨Nat.le_trans hz (by decide), fun p hp => k p _ ((hC.newT hp).add (i := .pr (fun H => H p = some (.tup xs)) (fun _ _ s h => s _ _ h rfl)) upd_same)⟩
/-- d[x] -/
theorem s_ixKv {l : List (Str × α)} {x : Str} {v : α} (m : H d = some (.dK (mK f l))) (e : look l x = some v) (q : Q (f v) H) : rIxU K (.ref d) (.str x) H Q :=
  .inr (.inr (.inr ⟨d, f v, rfl, .inl ⟨_, .inr x, .inl m, rfl, by rw [valV_mK, e]; rfl⟩, q⟩))
theorem s_ixTv {l : List ((Str × Int) × α)} {x : Str} {i : Int} {v : α} (m : H d = some (.dT (mT f l))) (mb : H b = some (.tup [.str x, .int i])) (e : look l (x, i) = some v) (q : Q (f v) H) : rIxU K (.ref d) (.ref b) H Q :=
  .inr (.inr (.inr ⟨d, f v, rfl, .inr ⟨_, [.inr x, .inl i], b, .inl m, rfl, mb, by rw [valV_mT (k := (x, i)), e]; rfl⟩, q⟩))
/-- x in d, x not in d -/
theorem s_inKv {l : List (Str × α)} {x : Str} (m : H d = some (.dK (mK f l))) (q : Q (.bl (look l x).isSome) H) : rInV K (.str x) (.ref d) H Q :=
  .inl (.inr (.inl ⟨d, _, rfl, .inl ⟨_, .inr x, .inl m, rfl, rfl⟩, by rw [valV_mK, Option.isSome_map]; exact q⟩))
theorem s_ninKv {l : List (Str × α)} {x : Str} (m : H d = some (.dK (mK f l))) (q : Q (.bl (!(look l x).isSome)) H) : rNotInV K (.str x) (.ref d) H Q :=
  .inl (.inr (.inl ⟨d, _, rfl, .inl ⟨_, .inr x, .inl m, rfl, rfl⟩, by rw [valV_mK, Option.isSome_map]; exact q⟩))
theorem s_inKn {l : List (Key × V)} (m : H d = some (.dK l)) (q : Q (.bl false) H) : rInV K .non (.ref d) H Q := .inr ⟨d, l, rfl, rfl, .inl m, q⟩
theorem s_ninKn {l : List (Key × V)} (m : H d = some (.dK l)) (q : Q (.bl true) H) : rNotInV K .non (.ref d) H Q := .inr ⟨d, l, rfl, rfl, .inl m, q⟩
/-- d[x] = v -/
theorem s_putKv {R : Hp → Prop} {l : List (Str × α)} {x : Str} {v : α} (hC : Ctx K B H L I) (m : H d = some (.dK (mK f l))) (z : l.length < 100000) (u : Up d (.dK (mK f (putR l x v))) L L') (q : ∀ H1, Ctx K B H1 L' I → R H1) : rSetU (.ref d) (.str x) (f v) H R :=
  .inr ⟨d, _, rfl, DPut.k (k := Sum.inr x) m (by rw [mK_len]; exact Nat.lt_of_lt_of_le z (by decide)), by rw [putK_mK]; exact q _ (hC.put u rfl)⟩
theorem s_putTv {R : Hp → Prop} {l : List ((Str × Int) × α)} {x : Str} {i : Int} {v : α} (hC : Ctx K B H L I) (m : H d = some (.dT (mT f l))) (mb : H b = some (.tup [.str x, .int i])) (z : l.length < 100000) (u : Up d (.dT (mT f (putR l (x, i) v))) L L') (q : ∀ H1, Ctx K B H1 L' I → R H1) : rSetU (.ref d) (.ref b) (f v) H R :=
  .inr ⟨d, _, rfl, DPut.t (k := [Sum.inr x, Sum.inl i]) m mb (by rw [mT_len]; exact Nat.lt_of_lt_of_le z (by decide)), by rw [putK_mT (k := (x, i))]; exact q _ (hC.put u rfl)⟩
end
theorem TDs_at {K : PySem.W.Frag} {H : Hp} {d : PyData} : ∀ {vs : List V} {ds : List PyData} {i : Nat}, TDs K H vs ds → ds[i]? = some d → ∃ v, vs[i]? = some v ∧ TD K H v d
  | _, _, 0, .cons a b, h => by
    have e : _ = d := Option.some.inj h
    exact ⟨_, rfl, e ▸ a⟩
  | _, _, i + 1, .cons a b, h => by
    obtain ⟨v, e, q⟩ := TDs_at (i := i) b (by simpa using h)
    exact ⟨v, by simpa using e, q⟩
  | _, _, _, .nil, h => by simp at h
theorem TDs_set {K : PySem.W.Frag} {H : Hp} {v : V} {d : PyData} : ∀ {vs : List V} {ds : List PyData} {i : Nat}, TDs K H vs ds → TD K H v d → TDs K H (vs.set i v) (ds.set i d)
  | _, _, 0, .cons a b, q => .cons q b
  | _, _, i + 1, .cons a b, q => .cons a (TDs_set (i := i) b q)
  | _, _, _, .nil, q => .nil
end Ph
namespace Ph
open PySem PySem.Spec PyProof.Rows L2
section
variable {K : PySem.W.Frag} {B H : Hp} {L L' F : List (Addr × HO)} {I : List Im} {Q : VK} {σ : L2.St} {A Cb Dc : L2.St → Hp → Prop} {Bt : VK}
variable {J : It} {n : Nat} {G : Hp → Prop} {Y : Nat → Hp → V → Hp → Prop}
theorem s_yes {Qb : Bool → Hp → Prop} (h : Qb true H) : tYes σ H Qb := h
/-! the walked thing -/
def kIt (K : PySem.W.Frag) (R : It → Hp → Prop) : VK := fun x H1 => ∃ a, x = .ref a ∧ (∃ xs, SqT K H1 a xs) ∧ R (Itt K a) H1
theorem s_it {tl : TE} {R : It → Hp → Prop} (h : tl σ H (kIt K R)) : iTup K tl σ H R := h
theorem s_itV {a : Addr} {xs : List V} {R : It → Hp → Prop} (m : SqT K H a xs) (h : R (Itt K a) H) : kIt K R (.ref a) H := ⟨a, rfl, ⟨xs, m⟩, h⟩
def kSeq (K : PySem.W.Frag) (R : It → Hp → Prop) : VK := fun x H1 => ∃ a, x = .ref a ∧ (((∃ xs, SqL K H1 a xs) ∧ R (Itl K a) H1) ∨ ((∃ xs, SqT K H1 a xs) ∧ R (Itt K a) H1))
theorem s_seqI {tl : TE} {R : It → Hp → Prop} (h : tl σ H (kSeq K R)) : iSeq K tl σ H R := h
theorem s_seqL {a : Addr} {xs : List V} {R : It → Hp → Prop} (m : H a = some (.lst xs)) (h : R (Itl K a) H) : kSeq K R (.ref a) H := ⟨a, rfl, .inl ⟨⟨xs, SqL.of m⟩, h⟩⟩
theorem s_seqT {a : Addr} {xs : List V} {R : It → Hp → Prop} (m : SqT K H a xs) (h : R (Itt K a) H) : kSeq K R (.ref a) H := ⟨a, rfl, .inr ⟨⟨xs, m⟩, h⟩⟩
def kKeys (R : It → Hp → Prop) : VK := fun x H1 => ∃ d o, x = .ref d ∧ ((∃ kvs, H1 d = some (.frz o (.dK kvs)) ∧ R (Itk d o kvs) H1) ∨ ∃ kvs, H1 d = some (.frz o (.dT kvs)) ∧ R (Itkt d o kvs) H1)
theorem s_keys {td : TE} {R : It → Hp → Prop} (h : td σ H (kKeys R)) : iKeys td σ H R := h
theorem s_keysK {d : Addr} {o : Obj} {kvs : List (Key × V)} {R : It → Hp → Prop} (m : H d = some (.frz o (.dK kvs))) (h : R (Itk d o kvs) H) : kKeys R (.ref d) H := ⟨d, o, rfl, .inl ⟨kvs, m, h⟩⟩
theorem s_keysT {d : Addr} {o : Obj} {kvs : List (List Key × V)} {R : It → Hp → Prop} (m : H d = some (.frz o (.dT kvs))) (h : R (Itkt d o kvs) H) : kKeys R (.ref d) H := ⟨d, o, rfl, .inr ⟨kvs, m, h⟩⟩
/-! for -/
theorem for_w (w : Walk J n G Y) {g : TG} {tb : TS} (Pv : Nat → L2.St → Hp → Prop) (h0 : Pv 0 σ H) (hG : ∀ i σ H, i ≤ n → Pv i σ H → G H)
    (hs : ∀ i x σ H H', i < n → Pv i σ H → Y i H x H' → g x σ H' fun σ2 H2 => tb ⟨Pv (i + 1), Bt, A, Pv (i + 1)⟩ σ2 H2) (hd : ∀ σ H, Pv n σ H → A σ H) : kFor g tb ⟨A, Bt, Cb, Dc⟩ σ J H :=
  for_it w (g := g) (tb := tb) (D := ⟨A, Bt, Cb, Dc⟩) Pv h0 hG hs hd
/-! comprehensions -/
theorem lc_w (w : Walk J n G Y) {g : TG} {tt : TT} {te : TE} {vs : List Nat} (hC : Ctx K B H L I) (Pv : Addr → Nat → Hp → Prop) (h0 : ∀ D H1, Ctx K B H1 ((D, .lst []) :: L) I → Pv D 0 H1) (hG : ∀ D i H, i ≤ n → Pv D i H → G H)
    (hs : ∀ i x D H H', i < n → Pv D i H → Y i H x H' → g x (wipe σ vs) H' fun σ2 H2 => wipe σ2 vs = wipe σ vs ∧ tt σ2 H2 fun b H3 => if b = true then te σ2 H3 (kApp D (Pv D (i + 1))) else Pv D (i + 1) H3)
    (hd : ∀ D H, Pv D n H → Q (.ref D) H) : kLc g tt te vs σ Q J H := fun D hD =>
  lc_it w (g := g) (tt := tt) (te := te) (vs := vs) (σ := σ) (H1 := H) (D := D) (Qd := fun H => Q (.ref D) H) (fun i H => Pv D i H) (h0 D _ (hC.newM hD rfl)) (fun i H hi p => hG D i H hi p)
    (fun i x H H' hi p y => hs i x D H H' hi p y) (fun H p => hd D H p)
/-! any, all -/
section
variable {b0 : Bool} {g g0 g1 : TG} {tt tt0 tt1 : TT} {te : TE} {vs vs1 : List Nat} {P : Addr} {wi wi1 : TI} {tb : Array Value}
abbrev cyA (b0 : Bool) : V → Prop := fun y => y = .bl (!b0)
abbrev pyA (b0 : Bool) (Q : VK) : List V → V → Hp → Prop := fun _ y H' => ∃ b, y = .bl b ∧ (b = b0 → Q (.bl b0) H')
def kAnyW (b0 : Bool) (g : TG) (tt : TT) (te : TE) (vs : List Nat) (σ : L2.St) (Q : VK) : It → Hp → Prop := fun J H2 => ∃ W : Nat → Nat → List V → Hp → Prop, (∃ m, W 0 m [] H2) ∧ GW J g tt te vs σ (cyA b0) (pyA b0 Q) (fun _ H' => Q (.bl (!b0)) H') W
def kAnyG (P : Addr) (b0 : Bool) (g : TG) (tt : TT) (te : TE) (vs : List Nat) (σ : L2.St) (Q : VK) : It → Hp → Prop := fun J H1 => GxR.TabG H1 P ∧ ∀ H2, GxR.Tabbed P H1 H2 → kAnyW b0 g tt te vs σ Q J H2
theorem s_anyX (h : wi σ H (kAnyG P b0 g tt te vs σ Q)) : tAnyX b0 P wi g tt te vs σ H Q := h
theorem tabbed_ctx {R : Hp → Prop} (hC : Ctx K B H L I) (m : Pick (P, .tbl tb) L L') (f : Im.tri tb ∈ I) (k : ∀ tb' H1, Ctx K B H1 ((P, .tbl tb') :: L') (.tri tb' :: I) → R H1) : GxR.TabG H P ∧ ∀ H2, GxR.Tabbed P H H2 → R H2 := by
  have hC := hC.pick m
  refine ⟨⟨tb, hC.get List.mem_cons_self, hC.tri f⟩, fun Hb hT => ?_⟩
  obtain ⟨⟨tb', h1, h2⟩, h3⟩ := hT
  exact k tb' Hb ((hC.but List.mem_cons_self .here rfl (fun b u n e => by rw [h3 b n]; exact e) h1).add (i := .tri tb') h2)
theorem s_anyGV (hC : Ctx K B H L I) (m : Pick (P, .tbl tb) L L') (f : Im.tri tb ∈ I) (k : ∀ tb' H1, Ctx K B H1 ((P, .tbl tb') :: L') (.tri tb' :: I) → kAnyW b0 g tt te vs σ Q J H1) : kAnyG P b0 g tt te vs σ Q J H := tabbed_ctx hC m f k
/-- one value of the generator: either it ends here, or on -/
def kAnyE (b0 : Bool) (ys : List V) (c : Nat) (Pn : Hp → Prop) (Q : VK) : VK := fun y H4 => ys.length < sizeLine ∧ pyA b0 Q ys y H4 ∧ (cyA b0 y → (ys ++ [y]).length ≤ c ∧ Pn H4)
theorem s_anyE {ys : List V} {c : Nat} {b : Bool} {Pn : Hp → Prop} (z : ys.length < c) (z2 : c ≤ 1000000) (h : if b = b0 then Q (.bl b0) H else Pn H) : kAnyE b0 ys c Pn Q (.bl b) H := by
  refine ⟨by rw [sizeLine_eq]; omega, ⟨b, rfl, fun e => ?_⟩, fun e => ⟨by rw [List.length_append]; exact z, ?_⟩⟩
  · rw [if_pos e] at h
    exact h
  · have e2 : b = !b0 := V.bl.inj e
    rw [if_neg (by rw [e2]; cases b0 <;> simp)] at h
    exact h
theorem any_w (w : Walk J n G Y) (hn : n ≤ 100000) (Pv : Nat → Hp → Prop) (h0 : Pv 0 H) (hG : ∀ i H, i ≤ n → Pv i H → G H)
    (hs : ∀ i x H H' (ys : List V), i < n → ys.length < i + 1 → i + 1 ≤ 1000000 → Pv i H → Y i H x H' → g x (wipe σ vs) H' fun σ2 H2 => wipe σ2 vs = wipe σ vs ∧ tt σ2 H2 fun b H3 => if b = true then te σ2 H3 (kAnyE b0 ys (i + 1) (Pv (i + 1)) Q) else ys.length ≤ i + 1 ∧ Pv (i + 1) H3)
    (hd : ∀ H, Pv n H → Q (.bl (!b0)) H) : kAnyW b0 g tt te vs σ Q J H := by
  refine ⟨fun i m ys H => m = n - i ∧ i ≤ n ∧ ys.length ≤ i ∧ Pv i H, ⟨n, by simp, Nat.zero_le _, Nat.le_refl _, h0⟩, ?_⟩
  rintro i m ys H ⟨rfl, hi, hy, p⟩
  by_cases hlt : i < n
  · refine .inr ⟨w.goes i H hlt (hG i H hi p), fun ys H => ys.length ≤ i + 1 ∧ Pv (i + 1) H, fun ys' H' p' => ⟨n - (i + 1), by omega, rfl, hlt, p'.1, p'.2⟩, fun x H' y => ?_⟩
    exact hs i x H H' ys hlt (by omega) (by omega) p (w.yields i H x H' hlt (hG i H hi p) y)
  · have e : i = n := by omega
    subst e
    exact .inl ⟨w.stops H (hG _ H hi p), hd H p⟩
/-! two fors -/
def kAnyW2 (b0 : Bool) (g0 : TG) (tt0 : TT) (wi1 : TI) (g1 : TG) (tt1 : TT) (te : TE) (vs vs1 : List Nat) (σ : L2.St) (Q : VK) : It → Hp → Prop := fun J H2 => ∃ W : Nat → Nat → List V → Hp → Prop, (∃ m, W 0 m [] H2) ∧ GW2 J g0 tt0 wi1 g1 tt1 te vs vs1 σ (cyA b0) (pyA b0 Q) (fun _ H' => Q (.bl (!b0)) H') W
def kAnyG2 (P : Addr) (b0 : Bool) (g0 : TG) (tt0 : TT) (wi1 : TI) (g1 : TG) (tt1 : TT) (te : TE) (vs vs1 : List Nat) (σ : L2.St) (Q : VK) : It → Hp → Prop := fun J H1 => GxR.TabG H1 P ∧ ∀ H2, GxR.Tabbed P H1 H2 → kAnyW2 b0 g0 tt0 wi1 g1 tt1 te vs vs1 σ Q J H2
theorem s_anyX2 (h : wi σ H (kAnyG2 P b0 g0 tt0 wi1 g1 tt1 te vs vs1 σ Q)) : tAnyX2 b0 P wi g0 tt0 wi1 g1 tt1 te vs vs1 σ H Q := h
theorem s_anyGV2 (hC : Ctx K B H L I) (m : Pick (P, .tbl tb) L L') (f : Im.tri tb ∈ I) (k : ∀ tb' H1, Ctx K B H1 ((P, .tbl tb') :: L') (.tri tb' :: I) → kAnyW2 b0 g0 tt0 wi1 g1 tt1 te vs vs1 σ Q J H1) : kAnyG2 P b0 g0 tt0 wi1 g1 tt1 te vs vs1 σ Q J H := tabbed_ctx hC m f k
/-- the inner for: at most 1000 turns -/
def kAnyIn (b0 : Bool) (g1 : TG) (tt1 : TT) (te : TE) (vs1 : List Nat) (σ : L2.St) (Q : VK) (ys : List V) (c : Nat) (Pn : Hp → Prop) : It → Hp → Prop := fun J1 H4 => ∃ W1 : Nat → Nat → List V → Hp → Prop, (∃ m, W1 0 m ys H4) ∧ GW J1 g1 tt1 te vs1 σ (cyA b0) (pyA b0 Q) (fun ys H => ys.length ≤ c ∧ Pn H) W1
theorem any_w2 (w : Walk J n G Y) (hn : n ≤ 100) (Pv : Nat → Hp → Prop) (h0 : Pv 0 H) (hG : ∀ i H, i ≤ n → Pv i H → G H)
    (hs : ∀ i x H H' (ys : List V), i < n → ys.length ≤ 1000 * i → i ≤ 100 → Pv i H → Y i H x H' → g0 x (wipe σ vs) H' fun σ2 H2 => wipe σ2 vs = wipe σ vs ∧ tt0 σ2 H2 fun b H3 =>
      if b = true then wi1 σ2 H3 (kAnyIn b0 g1 tt1 te vs1 σ2 Q ys (1000 * (i + 1)) (Pv (i + 1))) else ys.length ≤ 1000 * (i + 1) ∧ Pv (i + 1) H3)
    (hd : ∀ H, Pv n H → Q (.bl (!b0)) H) : kAnyW2 b0 g0 tt0 wi1 g1 tt1 te vs vs1 σ Q J H := by
  refine ⟨fun i m ys H => m = n - i ∧ i ≤ n ∧ ys.length ≤ 1000 * i ∧ Pv i H, ⟨n, by simp, Nat.zero_le _, Nat.le_refl _, h0⟩, ?_⟩
  rintro i m ys H ⟨rfl, hi, hy, p⟩
  by_cases hlt : i < n
  · refine .inr ⟨w.goes i H hlt (hG i H hi p), fun ys H => ys.length ≤ 1000 * (i + 1) ∧ Pv (i + 1) H, fun ys' H' p' => ⟨n - (i + 1), by omega, rfl, hlt, p'.1, p'.2⟩, fun x H' y => ?_⟩
    exact hs i x H H' ys hlt hy (by omega) p (w.yields i H x H' hlt (hG i H hi p) y)
  · have e : i = n := by omega
    subst e
    exact .inl ⟨w.stops H (hG _ H hi p), hd H p⟩
theorem any_in {ys : List V} {c : Nat} {Pn : Hp → Prop} (w : Walk J n G Y) (hn : n ≤ 1000) (hy : ys.length + 1000 ≤ c) (hc : c ≤ 1000000) (Pv : Nat → Hp → Prop) (h0 : Pv 0 H) (hG : ∀ i H, i ≤ n → Pv i H → G H)
    (hs : ∀ i x H H' (ys : List V) (c' : Nat), i < n → ys.length < c' → c' ≤ 1000000 → Pv i H → Y i H x H' → g1 x (wipe σ vs1) H' fun σ2 H2 => wipe σ2 vs1 = wipe σ vs1 ∧ tt1 σ2 H2 fun b H3 => if b = true then te σ2 H3 (kAnyE b0 ys c' (Pv (i + 1)) Q) else ys.length ≤ c' ∧ Pv (i + 1) H3)
    (hd : ∀ H, Pv n H → Pn H) : kAnyIn b0 g1 tt1 te vs1 σ Q ys c Pn J H := by
  refine ⟨fun i m zs H => m = n - i ∧ i ≤ n ∧ zs.length ≤ ys.length + i ∧ Pv i H, ⟨n, by simp, Nat.zero_le _, Nat.le_refl _, h0⟩, ?_⟩
  rintro i m zs H ⟨rfl, hi, hz, p⟩
  by_cases hlt : i < n
  · refine .inr ⟨w.goes i H hlt (hG i H hi p), fun zs H => zs.length ≤ ys.length + i + 1 ∧ Pv (i + 1) H, fun ys' H' p' => ⟨n - (i + 1), by omega, rfl, hlt, p'.1, p'.2⟩, fun x H' y => ?_⟩
    exact hs i x H H' zs (ys.length + i + 1) hlt (by omega) (by omega) p (w.yields i H x H' hlt (hG i H hi p) y)
  · have e : i = n := by omega
    subst e
    exact .inl ⟨w.stops H (hG _ H hi p), by omega, hd H p⟩
end
/-! locks -/
def kUnl (d : Addr) (od : Obj) (u : HO) (Q : VK) : VK := fun v H' => H' d = some (.frz od u) ∧ Q v (upd H' d u)
theorem s_lock {t : TE} {d : Addr} {u : HO} (hC : Ctx K B H L I) (m : Pick (d, u) L L') (mu : Mut (some u))
    (k : ∀ od H1, Stb H H1 → Ctx K H1 H1 L' (.pr (fun H => H d = some (.frz od u)) (fun _ _ s h => s _ _ h rfl) :: I) → t σ H1 (kUnl d od u Q)) : tLockE t σ H Q := by
  have hC := hC.pick m
  have e := hC.lay.at_ _ List.mem_cons_self
  refine ⟨d, u, hC.get List.mem_cons_self, mu, fun od => ?_⟩
  have s : Stb H (upd H d (.frz od u)) := Stb.put e.1 e.2
  refine k od _ s ?_
  refine ⟨⟨(List.nodup_cons.mp hC.lay.nd).2, fun p hp => ?_⟩, fun i hi => ?_, Stb.refl _⟩
  · have q := hC.lay.at_ p (List.mem_cons_of_mem _ hp)
    have ne : p.1 ≠ d := hC.lay.ne (u := p.2) hp
    exact ⟨by rw [upd_ne ne]; exact q.1, q.2⟩
  · rcases List.mem_cons.mp hi with rfl | hi
    · exact upd_same
    · exact Im.mono s (hC.im i hi)
/-- the lock goes: hC0 from before it -/
theorem unlock {d : Addr} {od : Obj} {u : HO} {H1 H2 : Hp} {L2' : List (Addr × HO)} {J : List Im} (hC0 : Ctx K B H L I) (m : Pick (d, u) L L') (e1 : Stb H H1) (hC : Ctx K H1 H2 L2' J) (f : H2 d = some (.frz od u)) :
    Ctx K B (upd H2 d u) ((d, u) :: L2') I := by
  have h0 := hC0.pick m
  have e := h0.lay.at_ _ List.mem_cons_self
  have s : Stb H (upd H2 d u) := fun b w hb mw => by
    have ne : b ≠ d := fun z => by
      rw [z, e.1] at hb
      cases hb
      rw [e.2] at mw
      cases mw
    rw [upd_ne ne]
    exact hC.sb b w (e1 b w hb mw) mw
  refine h0.moved s ⟨?_, fun p hp => ?_⟩
  · rw [List.map_cons, List.nodup_cons]
    refine ⟨fun z => ?_, hC.lay.nd⟩
    obtain ⟨q, hq, eq⟩ := List.mem_map.mp z
    have z2 := hC.lay.at_ q hq
    rw [eq, f] at z2
    have z3 := Option.some.inj z2.1
    have z4 := z2.2
    rw [← z3] at z4
    cases z4
  · rcases List.mem_cons.mp hp with rfl | hp
    · exact ⟨upd_same, e.2⟩
    · have q := hC.lay.at_ p hp
      have ne : p.1 ≠ d := fun z => by
        rw [z, f] at q
        have z3 := Option.some.inj q.1
        have z4 := q.2
        rw [← z3] at z4
        cases z4
      exact ⟨by rw [upd_ne ne]; exact q.1, q.2⟩
theorem s_unl {d : Addr} {od : Obj} {u : HO} {v : V} {H1 H2 : Hp} {L2' : List (Addr × HO)} {J : List Im} (hC0 : Ctx K B H L I) (m : Pick (d, u) L L') (e1 : Stb H H1) (hC : Ctx K H1 H2 L2' J) (f : H2 d = some (.frz od u)) (k : ∀ H3, Ctx K B H3 ((d, u) :: L2') I → Q v H3) : kUnl d od u Q v H2 := ⟨f, k _ (unlock hC0 m e1 hC f)⟩
end
/-- a dict's rows of plain data: both lists by the same keys -/
theorem look_TDs {K : PySem.W.Frag} {H : Hp} {κ α : Type} [DecidableEq κ] {d : α → PyData} {k : κ} : ∀ {vc : List (κ × V)} {cl : List (κ × α)}, vc.map (·.1) = cl.map (·.1) → TDs K H (vc.map (·.2)) (cl.map fun p => d p.2) →
    (look cl k = none ∧ look vc k = none) ∨ ∃ r v, look cl k = some r ∧ look vc k = some v ∧ TD K H v (d r)
  | [], [], _, _ => .inl ⟨rfl, rfl⟩
  | [], _ :: _, h, _ => by simp at h
  | _ :: _, [], h, _ => by simp at h
  | p :: r, q :: s, h1, h2 => by
    simp only [List.map_cons, List.cons.injEq] at h1 h2
    cases h2 with
    | cons a b =>
      rw [look_cons, look_cons]
      by_cases e : q.1 = k
      · rw [if_pos e, if_pos (h1.1.trans e)]
        exact .inr ⟨_, _, rfl, rfl, a⟩
      · rw [if_neg e, if_neg (fun z => e (h1.1.symm.trans z))]
        exact look_TDs h1.2 b
theorem any_keys {κ α : Type} [DecidableEq κ] {k : κ} (l : List (κ × α)) : (l.any fun p => decide (p.1 = k)) = ((l.map (·.1)).any fun x => decide (x = k)) := by
  rw [List.any_map]; rfl
theorem put_keys {κ α β : Type} [DecidableEq κ] {k : κ} {v : α} {w : β} {l : List (κ × α)} {m : List (κ × β)} (h : l.map (·.1) = m.map (·.1)) : (putR l k v).map (·.1) = (putR m k w).map (·.1) := by
  have e : ∀ {γ : Type} (u : γ) (l : List (κ × γ)), (l.map fun p => if p.1 = k then (p.1, u) else p).map (·.1) = l.map (·.1) := fun u l => by
    rw [List.map_map]
    refine List.map_congr_left fun p _ => ?_
    by_cases h : p.1 = k <;> simp [h]
  unfold putR
  rw [any_keys l, any_keys m, h]
  split
  · rw [e, e, h]
  · rw [List.map_append, List.map_append, h]; rfl
theorem mapput_TDs {K : PySem.W.Frag} {H : Hp} {κ α : Type} [DecidableEq κ] {d : α → PyData} {k : κ} {v : V} {x : α} (q : TD K H v (d x)) : ∀ {vc : List (κ × V)} {cl : List (κ × α)}, vc.map (·.1) = cl.map (·.1) → TDs K H (vc.map (·.2)) (cl.map fun p => d p.2) →
    TDs K H ((vc.map fun p => if p.1 = k then (p.1, v) else p).map (·.2)) ((cl.map fun p => if p.1 = k then (p.1, x) else p).map fun p => d p.2)
  | [], [], _, _ => .nil
  | [], _ :: _, h, _ => by simp at h
  | _ :: _, [], h, _ => by simp at h
  | p :: r, c :: s, h1, h2 => by
    simp only [List.map_cons, List.cons.injEq] at h1 h2
    cases h2 with
    | cons a b =>
      have ih := mapput_TDs (k := k) q h1.2 b
      simp only [List.map_cons]
      by_cases e : c.1 = k
      · rw [if_pos e, if_pos (h1.1.trans e)]
        exact .cons q ih
      · rw [if_neg e, if_neg (fun z => e (h1.1.symm.trans z))]
        exact .cons a ih
theorem put_TDs {K : PySem.W.Frag} {H : Hp} {κ α : Type} [DecidableEq κ] {d : α → PyData} {k : κ} {v : V} {x : α} {vc : List (κ × V)} {cl : List (κ × α)} (h1 : vc.map (·.1) = cl.map (·.1)) (h2 : TDs K H (vc.map (·.2)) (cl.map fun p => d p.2)) (q : TD K H v (d x)) :
    TDs K H ((putR vc k v).map (·.2)) ((putR cl k x).map fun p => d p.2) := by
  unfold putR
  rw [any_keys vc, any_keys cl, h1]
  split
  · exact mapput_TDs q h1 h2
  · rw [List.map_append, List.map_append]
    exact TDs.snoc h2 q
section
variable {K : PySem.W.Frag} {B H : Hp} {L L' : List (Addr × HO)} {I : List Im} {Q : VK} {d : Addr}
/-- tuple(..), list(..) -/
theorem s_tupOfL {p : Addr} {ys : List V} (hC : Ctx K B H L I) (m : H p = some (.lst ys)) (k : ∀ l H1, Ctx K B H1 L (.tup l ys :: I) → Q (.ref l) H1) : rTupOf K [.ref p] H Q := ⟨p, ys, rfl, .inl ⟨SqL.of m, fun l hl => k l _ (hC.newT hl)⟩⟩
theorem s_tupOfT {p : Addr} {ys : List V} (m : SqT K H p ys) (k : Q (.ref p) H) : rTupOf K [.ref p] H Q := ⟨p, ys, rfl, .inr ⟨m, k⟩⟩
theorem s_listOfL {p : Addr} {ys : List V} (hC : Ctx K B H L I) (m : H p = some (.lst ys)) (k : ∀ l H1, Ctx K B H1 ((l, .lst ys) :: L) I → Q (.ref l) H1) : rListOf K [.ref p] H Q := ⟨p, ys, rfl, .inl (SqL.of m), fun l hl => k l _ (hC.newM hl rfl)⟩
theorem s_listOfT {p : Addr} {ys : List V} (hC : Ctx K B H L I) (m : SqT K H p ys) (k : ∀ l H1, Ctx K B H1 ((l, .lst ys) :: L) I → Q (.ref l) H1) : rListOf K [.ref p] H Q := ⟨p, ys, rfl, .inr m, fun l hl => k l _ (hC.newM hl rfl)⟩
theorem s_putKi {R : Hp → Prop} {l : List (Str × V)} {x : Str} {v : V} (hC : Ctx K B H L I) (m : H d = some (.dK (mK id l))) (z : l.length < 100000) (u : Up d (.dK (mK id (putR l x v))) L L') (q : ∀ H1, Ctx K B H1 L' I → R H1) : rSetU (.ref d) (.str x) v H R := s_putKv (f := id) hC m z u q
end
theorem ints_dats (K : PySem.W.Frag) (H : Hp) : ∀ ns : List Int, TDs K H (ns.map V.int) (ns.map PyData.int)
  | [] => .nil
  | n :: r => .cons (.int n) (ints_dats K H r)
theorem ints_sh {n : Nat} : ∀ ns : List Int, ShL n (ns.map PyData.int)
  | [] => ShL.nil
  | i :: r => ShL.cons (Sh.int i) (ints_sh r)
theorem take_get {α : Type} {r : List α} {i : Nat} {p : α} (h : r[i]? = some p) : r.take (i + 1) = r.take i ++ [p] := by
  rw [List.take_succ, h]; rfl
end Ph
namespace Ph
open PySem PySem.Spec PyProof.Rows L2
def nS (i : Int) : Str := Str.ofString (toString i)
theorem nS_len {i : Int} (h0 : 0 ≤ i) (h1 : i < 1000) : (nS i).length ≤ 3 := by
  obtain ⟨n, rfl⟩ := Int.eq_ofNat_of_zero_le h0
  have h : ∀ n : Fin 1000, (nS (n.val : Int)).length ≤ 3 := by decide +kernel
  exact h ⟨n, by omega⟩
section
variable {K : PySem.W.Frag} {B H : Hp} {L L' : List (Addr × HO)} {I : List Im} {Q : VK} {σ : L2.St} {d b : Addr}
theorem s_strI {i : Int} (h0 : 0 ≤ i) (h1 : i < 1000) (h : Q (.str (nS i)) H) : rStrI [.int i] H Q :=
  ⟨i, rfl, Nat.lt_of_le_of_lt (Nat.log2_le_self _) (by omega), h⟩
theorem s_neNN (h : Q (.bl false) H) : rNeU K .non .non H Q := .inl ⟨rfl, by rw [show (!decide (V.non = V.non)) = false from by simp]; exact h⟩
theorem s_eqNN (h : Q (.bl true) H) : rEqU K .non .non H Q := .inl ⟨rfl, by rw [show (decide (V.non = V.non)) = true from by simp]; exact h⟩
theorem s_neNI {i : Int} (h : Q (.bl true) H) : rNeU K .non (.int i) H Q := .inl ⟨rfl, by rw [show (!decide (V.non = V.int i)) = true from by simp]; exact h⟩
theorem s_rep1 {l : Addr} {xs : List V} (hC : Ctx K B H L I) (m : H l = some (.lst xs)) (z : xs.length ≤ 1000) (k : ∀ p H1, Ctx K B H1 ((p, .lst xs) :: L) I → Q (.ref p) H1) : rMulU (.ref l) (.int 1) H Q :=
  ⟨l, 1, xs, rfl, rfl, m, by decide, by decide, by rw [sizeLine_eq]; show xs.length * 1 ≤ _; omega, fun p hp => by
    have e : (List.replicate (1 : Int).toNat xs).flatten = xs := by simp
    rw [e]
    exact k p _ (hC.newM hp rfl)⟩
theorem s_rep0 {l : Addr} {xs : List V} (hC : Ctx K B H L I) (m : H l = some (.lst xs)) (k : ∀ p H1, Ctx K B H1 ((p, .lst []) :: L) I → Q (.ref p) H1) : rMulU (.ref l) (.int 0) H Q :=
  ⟨l, 0, xs, rfl, rfl, m, by decide, by decide, by rw [sizeLine_eq]; show xs.length * 0 ≤ _; omega, fun p hp => by
    have e : (List.replicate (0 : Int).toNat xs).flatten = [] := by simp
    rw [e]
    exact k p _ (hC.newM hp rfl)⟩
theorem s_ixTF {α : Type} {f : α → V} {o : Obj} {l : List ((Str × Int) × α)} {x : Str} {i : Int} {v : α} (m : H d = some (.frz o (.dT (mT f l)))) (mb : H b = some (.tup [.str x, .int i])) (e : look l (x, i) = some v) (q : Q (f v) H) : rIxU K (.ref d) (.ref b) H Q :=
  .inr (.inr (.inr ⟨d, f v, rfl, .inr ⟨_, [.inr x, .inl i], b, .inr ⟨o, m⟩, rfl, mb, by rw [valV_mT (k := (x, i)), e]; rfl⟩, q⟩))
theorem s_ixStr {l : Addr} {xs : List V} {i : Int} (hm : H l = some (.lst xs)) (h0 : 0 ≤ i) (h1 : i < xs.length) (q : ∀ v, v ∈ xs → Q v H) : rIxU K (.ref l) (.int i) H Q := s_ixOne hm h0 h1 q
theorem s_inKe {α : Type} {f : α → V} {l : List (Str × α)} {x : Str} {v : α} (m : H d = some (.dK (mK f l))) (e : look l x = some v) (q : Q (.bl true) H) : rInV K (.str x) (.ref d) H Q := s_inKv m (by rw [e]; exact q)
theorem s_inKz {α : Type} {f : α → V} {l : List (Str × α)} {x : Str} (m : H d = some (.dK (mK f l))) (e : look l x = none) (q : Q (.bl false) H) : rInV K (.str x) (.ref d) H Q := s_inKv m (by rw [e]; exact q)
theorem s_ne00 {l m : Addr} (hl : H l = some (.lst [])) (hm : H m = some (.lst [])) (k : Q (.bl false) H) : rNeU K (.ref l) (.ref m) H Q := s_neE hl hm .nil .nil k
theorem s_eq00 {l m : Addr} (hl : H l = some (.lst [])) (hm : H m = some (.lst [])) (k : Q (.bl true) H) : rEqU K (.ref l) (.ref m) H Q := s_eqE hl hm .nil .nil k
theorem _root_.Ph.Lay.subl (y : Lay H L) (s : L'.Sublist L) : Lay H L' := ⟨(s.map _).nodup y.nd, fun p hp => y.at_ p (s.subset hp)⟩
theorem s_neSameD {x y : V} {d : PyData} {n : Nat} (h1 : Dp K H x d) (h2 : Dp K H y d) (s : Sh n d) (z : n ≤ 50) (k : Q (.bl false) H) : rNeU K x y H Q :=
  s_neD h1 h2 (s.shaped (by omega)) (s.shaped (by omega)) (by rw [eqv_self s]; exact k)
theorem s_eqSameD {x y : V} {d : PyData} {n : Nat} (h1 : Dp K H x d) (h2 : Dp K H y d) (s : Sh n d) (z : n ≤ 50) (k : Q (.bl true) H) : rEqU K x y H Q :=
  s_eqD h1 h2 (s.shaped (by omega)) (s.shaped (by omega)) (by rw [eqv_self s]; exact k)
theorem s_ltT {i j : Int} (p : i < j) (h : Q (.bl true) H) : rLt (.int i) (.int j) H Q := s_ltI (by rw [decide_eq_true p]; exact h)
theorem s_ltF {i j : Int} (p : ¬ i < j) (h : Q (.bl false) H) : rLt (.int i) (.int j) H Q := s_ltI (by rw [decide_eq_false p]; exact h)
theorem s_leT {i j : Int} (p : i ≤ j) (h : Q (.bl true) H) : rLe (.int i) (.int j) H Q := s_leI (by rw [decide_eq_true p]; exact h)
theorem s_leF {i j : Int} (p : ¬ i ≤ j) (h : Q (.bl false) H) : rLe (.int i) (.int j) H Q := s_leI (by rw [decide_eq_false p]; exact h)
theorem s_gtT {i j : Int} (p : j < i) (h : Q (.bl true) H) : rGt (.int i) (.int j) H Q := s_gtI (by rw [decide_eq_true p]; exact h)
theorem s_gtF {i j : Int} (p : ¬ j < i) (h : Q (.bl false) H) : rGt (.int i) (.int j) H Q := s_gtI (by rw [decide_eq_false p]; exact h)
theorem s_geT {i j : Int} (p : j ≤ i) (h : Q (.bl true) H) : rGe (.int i) (.int j) H Q := s_geI (by rw [decide_eq_true p]; exact h)
theorem s_geF {i j : Int} (p : ¬ j ≤ i) (h : Q (.bl false) H) : rGe (.int i) (.int j) H Q := s_geI (by rw [decide_eq_false p]; exact h)
theorem s_ixSet {l : Addr} {xs : List V} {n : Nat} {v : V} (m : H l = some (.lst (xs.set n v))) (h : n < xs.length) (q : Q v H) : rIxU K (.ref l) (.int (n : Nat)) H Q := s_ixL m (atI_nat (by rw [List.getElem?_set]; simp [h])) q
theorem cut3 (a b c d : V) : cutV [a, b, c, d] none (some 3) = [a, b, c] := rfl
theorem s_g1Kei {l : List (Str × V)} {x : Str} {v : V} (m : H d = some (.dK (mK id l))) (e : look l x = some v) (q : Q v H) : kGetK1 d Q (.str x) H := s_g1Ke m e q
theorem s_g2Kei {l : List (Str × V)} {x : Str} {v z : V} (m : H d = some (.dK (mK id l))) (e : look l x = some v) (q : Q v H) : kGetZ2 d (.str x) Q z H := s_g2Ke m e q
theorem s_ixKvi {l : List (Str × V)} {x : Str} {v : V} (m : H d = some (.dK (mK id l))) (e : look l x = some v) (q : Q v H) : rIxU K (.ref d) (.str x) H Q := s_ixKv m e q
theorem s_ixPut {α : Type} {f : α → V} {l : List (Str × α)} {x : Str} {v : α} (m : H d = some (.dK (mK f (putR l x v)))) (q : Q (f v) H) : rIxU K (.ref d) (.str x) H Q := s_ixKv m (by rw [look_put, if_pos rfl]) q
theorem s_ixPuti {l : List (Str × V)} {x : Str} {v : V} (m : H d = some (.dK (mK id (putR l x v)))) (q : Q v H) : rIxU K (.ref d) (.str x) H Q := s_ixPut m q
theorem s_dnewKm {α : Type} (f : α → V) (hC : Ctx K B H L I) (k : ∀ p H1, Ctx K B H1 ((p, .dK (mK f [])) :: L) I → Q (.ref p) H1) : tDNewK σ H Q := s_dnewK hC k
theorem _root_.Ph.Sel.toNil : ∀ L : List (Addr × HO), Sel L []
  | [] => .refl
  | _ :: r => .skip (Sel.toNil r)
theorem look_mem {κ α : Type} [DecidableEq κ] {k : κ} {v : α} {l : List (κ × α)} (h : (k, v) ∈ l) : ∃ w, look l k = some w := by
  have e := look_any k l
  have : (l.any fun p => decide (p.1 = k)) = true := List.any_eq_true.mpr ⟨_, h, decide_eq_true rfl⟩
  rw [this] at e
  exact Option.isSome_iff_exists.mp e.symm
theorem look_some {κ α : Type} [DecidableEq κ] {k : κ} {v : α} : ∀ {l : List (κ × α)}, look l k = some v → (k, v) ∈ l
  | p :: r, h => by
    rw [look_cons] at h
    by_cases e : p.1 = k
    · rw [if_pos e] at h
      cases h
      subst e
      exact List.mem_cons_self
    · rw [if_neg e] at h
      exact List.mem_cons_of_mem _ (look_some h)
end
end Ph
namespace Ph
open PySem PySem.Spec PyProof.Rows L2
/-- the comparison, wherever the old objects (those of h0) still stand -/
def CmpG (pr : Program) (wd : World) (Z : Around) (op : CmpOp) (h0 : Heap) (P : Nat → Value → Prop) (bt : Nat → Nat → Bool) : Prop :=
  ∀ i j x y (z : Shared) (Q E : Value → Shared → Prop), (∀ b o, h0.get? b = some o → z.heap.get? b = some o) → P i x → P j y → Q (.bool (bt i j)) z → wpAny (model pr wd) Z (richCompare op x y) Q E z
section
variable {pr : Program} {wd : World} {Z : Around} {R : Result → Shared → Prop} {it : Addr} {fp wr : List Addr} {n : Nat} {P : Nat → Value → Prop} {St : Nat → Heap → Prop} {h0 : Heap} {bt : Nat → Nat → Bool} {S : Addr}
theorem min_loopG (W : Walks pr wd Z.in1 it fp wr n P St) (cmp : CmpG pr wd Z.in1 .Lt h0 P bt) (hf : S ∉ fp) (hw0 : ∀ b ∈ wr, h0.get? b = none) (hS0 : h0.get? S = none) :
    ∀ (k j : Nat) (z : Shared) (best : Value) (c : Nat), n - (j + 1) = k → j + 1 ≤ n → St (j + 1) z.heap → P (argBest bt j) best → (∀ b o, h0.get? b = some o → z.heap.get? b = some o) →
    z.heap.get? S = some { cls := .type "list", dict := none, data := .seq #[best, best] c, slots := #[] } →
    (∀ v h' tk, P (argBest bt (n - 1)) v → (∀ b o, h0.get? b = some o → h'.get? b = some o) → R (.ok (.ret v)) { z with heap := h', toks := tk }) →
    codeAny (model pr wd) Z (.builtin "min.loop" ⟨[.ref it, .none, .ref S], []⟩) R z := by
  have hSw : S ∉ wr := fun q => hf (W.sub _ q)
  have nam : (toString "min" ++ toString ".loop" : String) = "min.loop" := by decide
  have kp : ∀ {g g' : Heap}, (∀ b o, h0.get? b = some o → g.get? b = some o) → (∀ b o, b ∉ wr → g.get? b = some o → g'.get? b = some o) → ∀ b o, h0.get? b = some o → g'.get? b = some o := fun k1 k2 b o e =>
    k2 b o (fun q => by rw [hw0 b q] at e; cases e) (k1 b o e)
  have kS : ∀ {g : Heap} (f : Obj → Obj), (∀ b o, h0.get? b = some o → g.get? b = some o) → ∀ b o, h0.get? b = some o → (g.update S f).get? b = some o := fun f k1 b o e =>
    (Heap.get?_update_other _ _ (fun q : S = b => by rw [← q, hS0] at e; cases e)).trans (k1 b o e)
  intro k
  induction k with
  | zero =>
    intro j z best c ek ej st pb old eS fin
    have last : j + 1 = n := by omega
    refine codeAny_builtin F.entry_min_loop ?_
    rw [Around.under_plainId F.plain_min_loop _]
    show wpAny _ Z.in1 (seqItems? (.ref S) >>= _) _ _ z
    refine wpAny_bind (wpAny_seqItems eS rfl ?_)
    show wpAny _ Z.in1 (tryCatch (pyNext (.ref it)) _ >>= _) _ _ z
    refine wpAny_bind (wpAny_tryCatch (W.done z _ _ (last ▸ st) fun g tk gk => ?_))
    have eS2 := gk S _ hSw eS
    show wpAny _ Z.in1 (updateSeq S (fun _ => #[]) >>= _) _ _ _
    refine wpAny_bind (wpAny_updateSeq eS2 rfl (wpAny_bind (wpAny_letGo (wpAny_pure ?_))))
    exact fin best _ tk (by rw [← last]; exact pb) (kS _ (kp old gk))
  | succ k ih =>
    intro j z best c ek ej st pb old eS fin
    have more : j + 1 < n := by omega
    refine codeAny_builtin F.entry_min_loop ?_
    rw [Around.under_plainId F.plain_min_loop _]
    show wpAny _ Z.in1 (seqItems? (.ref S) >>= _) _ _ z
    refine wpAny_bind (wpAny_seqItems eS rfl ?_)
    show wpAny _ Z.in1 (tryCatch (pyNext (.ref it)) _ >>= _) _ _ z
    refine wpAny_bind (wpAny_tryCatch (W.item (j + 1) z _ _ more st fun v g tk pv st2 gk => ?_))
    have eS2 := gk S _ hSw eS
    have old2 := kp old gk
    show wpAny _ Z.in1 (tryCatch (holding [v, v] (richCompare .Lt v best >>= _)) _ >>= _) _ _ _
    refine wpAny_bind (wpAny_tryCatch (wpAny_holding (wpAny_bind (cmp (j + 1) (argBest bt j) v best _ _ _ old2 pv pb ?_))))
    refine wpAny_bind (wpAny_holding (wpAny_truthy_bool (wpAny_bind (wpAny_letGo (wpAny_pure ?_)))))
    cases hb : bt (j + 1) (argBest bt j) with
    | true =>
      simp only [if_true]
      refine wpAny_bind (wpAny_updateSeq eS2 rfl (wpAny_bind (wpAny_letGo ?_)))
      rw [nam]
      refine wpAny_pure ⟨plainId_quiet F.plain_min_loop _, ih (j + 1) _ v _ (by omega) more (W.frame _ _ _ st2 fun b q o e => ?_) (by simp only [argBest, hb, if_true]; exact pv) (kS _ old2) (Heap.get?_update_self _ eS2 rfl) fun v2 g2 tk2 pv2 gk2 => fin v2 g2 tk2 pv2 gk2⟩
      exact (Heap.get?_update_other _ _ (fun e2 : S = b => hf (by rw [e2]; exact q))).trans e
    | false =>
      simp only [Bool.false_eq_true, if_false]
      refine wpAny_bind (wpAny_letGo ?_)
      rw [nam]
      exact wpAny_pure ⟨plainId_quiet F.plain_min_loop _, ih (j + 1) _ best c (by omega) more st2 (by simp only [argBest, hb, Bool.false_eq_true, if_false]; exact pb) old2 eS2 fun v2 g2 tk2 pv2 gk2 => fin v2 g2 tk2 pv2 gk2⟩
theorem min_firstG (W : Walks pr wd Z.in1 it fp wr n P St) (cmp : CmpG pr wd Z.in1 .Lt h0 P bt) (hf : S ∉ fp) (hw0 : ∀ b ∈ wr, h0.get? b = none) (hS0 : h0.get? S = none) (hn : 0 < n) {z : Shared} {c : Nat} (st : St 0 z.heap) (old : ∀ b o, h0.get? b = some o → z.heap.get? b = some o)
    (eS : z.heap.get? S = some { cls := .type "list", dict := none, data := .seq #[] c, slots := #[] })
    (fin : ∀ v h' tk, P (argBest bt (n - 1)) v → (∀ b o, h0.get? b = some o → h'.get? b = some o) → R (.ok (.ret v)) { z with heap := h', toks := tk }) :
    codeAny (model pr wd) Z (.builtin "min.loop" ⟨[.ref it, .none, .ref S], []⟩) R z := by
  have hSw : S ∉ wr := fun q => hf (W.sub _ q)
  have nam : (toString "min" ++ toString ".loop" : String) = "min.loop" := by decide
  refine codeAny_builtin F.entry_min_loop ?_
  rw [Around.under_plainId F.plain_min_loop _]
  show wpAny _ Z.in1 (seqItems? (.ref S) >>= _) _ _ z
  refine wpAny_bind (wpAny_seqItems eS rfl ?_)
  show wpAny _ Z.in1 (tryCatch (pyNext (.ref it)) _ >>= _) _ _ z
  refine wpAny_bind (wpAny_tryCatch (W.item 0 z _ _ hn st fun v g tk pv st2 gk => ?_))
  have eS2 := gk S _ hSw eS
  show wpAny _ Z.in1 (updateSeq S (fun _ => #[v, v]) >>= _) _ _ _
  refine wpAny_bind (wpAny_updateSeq eS2 rfl ?_)
  rw [nam]
  refine wpAny_pure ⟨plainId_quiet F.plain_min_loop _, min_loopG W cmp hf hw0 hS0 _ 0 _ v _ rfl hn (W.frame _ _ _ st2 fun b q o e => ?_) pv (fun b o e => ?_) (Heap.get?_update_self _ eS2 rfl) fun v2 g2 tk2 pv2 gk2 => fin v2 g2 tk2 pv2 gk2⟩
  · exact (Heap.get?_update_other _ _ (fun e2 : S = b => hf (by rw [e2]; exact q))).trans e
  · exact (Heap.get?_update_other _ _ (fun q : S = b => by rw [← q, hS0] at e; cases e)).trans (gk b o (fun q => by rw [hw0 b q] at e; cases e) (old b o e))
end
section
variable {pr : Program} {wd : World} {Z : Around} {E : Value → Shared → Prop} {z : Shared} {l : Addr} {xs : Array Value} {bt : Nat → Nat → Bool} {P : Nat → Value → Prop}
theorem min_listG {Q : Value → Shared → Prop} (hh : Z.handled = none) (hl : z.heap.IsList l xs) (hn : 0 < xs.size) (cmp : CmpG pr wd Z.in1 .Lt z.heap (fun i v => xs[i]? = some v) bt)
    (fin : ∀ v h' tk, xs[argBest bt (xs.size - 1)]? = some v → (∀ b o, z.heap.get? b = some o → h'.get? b = some o) → Q v { z with heap := h', toks := tk }) :
    wpAny (model pr wd) Z (call (.builtin "min") [.ref l]) Q E z := by
  have nam : (toString "min" ++ toString ".loop" : String) = "min.loop" := by decide
  have hlt : l < z.heap.objs.size := by obtain ⟨_, e, _⟩ := hl; exact Heap.lt_size e
  refine call_function_tree F.kind_min F.plain_min F.entry_min (F.args_min1 _) ?_
  show wpAny _ Z.in1 (Builtin.Builtins.bindParams "min" ["key", "default"] 0 ⟨[], []⟩ >>= _) _ _ z
  refine wpAny_bind (wpAny_of_eq (show Builtin.Builtins.bindParams "min" ["key", "default"] 0 ⟨[], []⟩ = pure [none, none] from rfl) (wpAny_bind (wpAny_pure ?_)))
  refine wpAny_bind (wpAny_pyIter_list hl ?_)
  refine wpAny_bind (wpAny_newObj_type ?_)
  rw [nam]
  have sz : (z.heap.push { cls := .type "list_iterator", data := .fields #[.ref l, .int 0 0] }).objs.size = z.heap.objs.size + 1 := Heap.size_push ..
  have no : ∀ {b : Addr}, z.heap.objs.size ≤ b → z.heap.get? b = none := fun {b} hb => by
    cases e : z.heap.get? b with
    | none => rfl
    | some o => exact absurd (Heap.lt_size e) (Nat.not_lt.mpr hb)
  have st0 : ((z.heap.push { cls := .type "list_iterator", data := .fields #[.ref l, .int 0 0] }).push { cls := .type "list", data := .seq #[] }).IsListIter z.heap.objs.size l 0 ∧ ((z.heap.push { cls := .type "list_iterator", data := .fields #[.ref l, .int 0 0] }).push { cls := .type "list", data := .seq #[] }).IsList l xs :=
    ⟨⟨_, Heap.get?_push_of_some _ (Heap.get?_push_size _ rfl), rfl, rfl⟩, (hl.push _).push _⟩
  refine wpAny_pure ⟨plainId_quiet F.plain_min_loop _, min_firstG (h0 := z.heap) (S := (z.heap.push { cls := .type "list_iterator", data := .fields #[.ref l, .int 0 0] }).objs.size) (Walks.list (A := Z.in1) hh z.heap.objs.size l (Nat.ne_of_lt hlt) xs) cmp (fun q => ?_) (fun b q => ?_) (no (by rw [sz]; exact Nat.le_succ _)) hn st0 (fun b o e => Heap.get?_push_of_some _ (Heap.get?_push_of_some _ e)) (Heap.get?_push_size _ rfl) fun v g tk pv gk => fin v g tk pv gk⟩
  · simp only [List.mem_cons, List.not_mem_nil, or_false] at q
    rcases q with q | q
    · rw [sz] at q; exact absurd q (Nat.ne_of_gt (Nat.lt_succ_self _))
    · rw [sz] at q; exact absurd hlt (Nat.not_lt.mpr (q ▸ Nat.le_succ _))
  · simp only [List.mem_cons, List.not_mem_nil, or_false] at q
    exact no (by rw [q]; exact Nat.le_refl _)
end
section
variable {pr : Program} {wd : World} {Z : Around} {R : Result → Shared → Prop} {it : Addr} {fp wr : List Addr} {n : Nat} {P : Nat → Value → Prop} {St : Nat → Heap → Prop} {h0 : Heap} {bt : Nat → Nat → Bool} {S : Addr}
theorem max_loopG (W : Walks pr wd Z.in1 it fp wr n P St) (cmp : CmpG pr wd Z.in1 .Gt h0 P bt) (hf : S ∉ fp) (hw0 : ∀ b ∈ wr, h0.get? b = none) (hS0 : h0.get? S = none) :
    ∀ (k j : Nat) (z : Shared) (best : Value) (c : Nat), n - (j + 1) = k → j + 1 ≤ n → St (j + 1) z.heap → P (argBest bt j) best → (∀ b o, h0.get? b = some o → z.heap.get? b = some o) →
    z.heap.get? S = some { cls := .type "list", dict := none, data := .seq #[best, best] c, slots := #[] } →
    (∀ v h' tk, P (argBest bt (n - 1)) v → (∀ b o, h0.get? b = some o → h'.get? b = some o) → R (.ok (.ret v)) { z with heap := h', toks := tk }) →
    codeAny (model pr wd) Z (.builtin "max.loop" ⟨[.ref it, .none, .ref S], []⟩) R z := by
  have hSw : S ∉ wr := fun q => hf (W.sub _ q)
  have nam : (toString "max" ++ toString ".loop" : String) = "max.loop" := by decide
  have kp : ∀ {g g' : Heap}, (∀ b o, h0.get? b = some o → g.get? b = some o) → (∀ b o, b ∉ wr → g.get? b = some o → g'.get? b = some o) → ∀ b o, h0.get? b = some o → g'.get? b = some o := fun k1 k2 b o e =>
    k2 b o (fun q => by rw [hw0 b q] at e; cases e) (k1 b o e)
  have kS : ∀ {g : Heap} (f : Obj → Obj), (∀ b o, h0.get? b = some o → g.get? b = some o) → ∀ b o, h0.get? b = some o → (g.update S f).get? b = some o := fun f k1 b o e =>
    (Heap.get?_update_other _ _ (fun q : S = b => by rw [← q, hS0] at e; cases e)).trans (k1 b o e)
  intro k
  induction k with
  | zero =>
    intro j z best c ek ej st pb old eS fin
    have last : j + 1 = n := by omega
    refine codeAny_builtin F.entry_max_loop ?_
    rw [Around.under_plainId F.plain_max_loop _]
    show wpAny _ Z.in1 (seqItems? (.ref S) >>= _) _ _ z
    refine wpAny_bind (wpAny_seqItems eS rfl ?_)
    show wpAny _ Z.in1 (tryCatch (pyNext (.ref it)) _ >>= _) _ _ z
    refine wpAny_bind (wpAny_tryCatch (W.done z _ _ (last ▸ st) fun g tk gk => ?_))
    have eS2 := gk S _ hSw eS
    show wpAny _ Z.in1 (updateSeq S (fun _ => #[]) >>= _) _ _ _
    refine wpAny_bind (wpAny_updateSeq eS2 rfl (wpAny_bind (wpAny_letGo (wpAny_pure ?_))))
    exact fin best _ tk (by rw [← last]; exact pb) (kS _ (kp old gk))
  | succ k ih =>
    intro j z best c ek ej st pb old eS fin
    have more : j + 1 < n := by omega
    refine codeAny_builtin F.entry_max_loop ?_
    rw [Around.under_plainId F.plain_max_loop _]
    show wpAny _ Z.in1 (seqItems? (.ref S) >>= _) _ _ z
    refine wpAny_bind (wpAny_seqItems eS rfl ?_)
    show wpAny _ Z.in1 (tryCatch (pyNext (.ref it)) _ >>= _) _ _ z
    refine wpAny_bind (wpAny_tryCatch (W.item (j + 1) z _ _ more st fun v g tk pv st2 gk => ?_))
    have eS2 := gk S _ hSw eS
    have old2 := kp old gk
    show wpAny _ Z.in1 (tryCatch (holding [v, v] (richCompare .Gt v best >>= _)) _ >>= _) _ _ _
    refine wpAny_bind (wpAny_tryCatch (wpAny_holding (wpAny_bind (cmp (j + 1) (argBest bt j) v best _ _ _ old2 pv pb ?_))))
    refine wpAny_bind (wpAny_holding (wpAny_truthy_bool (wpAny_bind (wpAny_letGo (wpAny_pure ?_)))))
    cases hb : bt (j + 1) (argBest bt j) with
    | true =>
      simp only [if_true]
      refine wpAny_bind (wpAny_updateSeq eS2 rfl (wpAny_bind (wpAny_letGo ?_)))
      rw [nam]
      refine wpAny_pure ⟨plainId_quiet F.plain_max_loop _, ih (j + 1) _ v _ (by omega) more (W.frame _ _ _ st2 fun b q o e => ?_) (by simp only [argBest, hb, if_true]; exact pv) (kS _ old2) (Heap.get?_update_self _ eS2 rfl) fun v2 g2 tk2 pv2 gk2 => fin v2 g2 tk2 pv2 gk2⟩
      exact (Heap.get?_update_other _ _ (fun e2 : S = b => hf (by rw [e2]; exact q))).trans e
    | false =>
      simp only [Bool.false_eq_true, if_false]
      refine wpAny_bind (wpAny_letGo ?_)
      rw [nam]
      exact wpAny_pure ⟨plainId_quiet F.plain_max_loop _, ih (j + 1) _ best c (by omega) more st2 (by simp only [argBest, hb, Bool.false_eq_true, if_false]; exact pb) old2 eS2 fun v2 g2 tk2 pv2 gk2 => fin v2 g2 tk2 pv2 gk2⟩
theorem max_firstG (W : Walks pr wd Z.in1 it fp wr n P St) (cmp : CmpG pr wd Z.in1 .Gt h0 P bt) (hf : S ∉ fp) (hw0 : ∀ b ∈ wr, h0.get? b = none) (hS0 : h0.get? S = none) (hn : 0 < n) {z : Shared} {c : Nat} (st : St 0 z.heap) (old : ∀ b o, h0.get? b = some o → z.heap.get? b = some o)
    (eS : z.heap.get? S = some { cls := .type "list", dict := none, data := .seq #[] c, slots := #[] })
    (fin : ∀ v h' tk, P (argBest bt (n - 1)) v → (∀ b o, h0.get? b = some o → h'.get? b = some o) → R (.ok (.ret v)) { z with heap := h', toks := tk }) :
    codeAny (model pr wd) Z (.builtin "max.loop" ⟨[.ref it, .none, .ref S], []⟩) R z := by
  have hSw : S ∉ wr := fun q => hf (W.sub _ q)
  have nam : (toString "max" ++ toString ".loop" : String) = "max.loop" := by decide
  refine codeAny_builtin F.entry_max_loop ?_
  rw [Around.under_plainId F.plain_max_loop _]
  show wpAny _ Z.in1 (seqItems? (.ref S) >>= _) _ _ z
  refine wpAny_bind (wpAny_seqItems eS rfl ?_)
  show wpAny _ Z.in1 (tryCatch (pyNext (.ref it)) _ >>= _) _ _ z
  refine wpAny_bind (wpAny_tryCatch (W.item 0 z _ _ hn st fun v g tk pv st2 gk => ?_))
  have eS2 := gk S _ hSw eS
  show wpAny _ Z.in1 (updateSeq S (fun _ => #[v, v]) >>= _) _ _ _
  refine wpAny_bind (wpAny_updateSeq eS2 rfl ?_)
  rw [nam]
  refine wpAny_pure ⟨plainId_quiet F.plain_max_loop _, max_loopG W cmp hf hw0 hS0 _ 0 _ v _ rfl hn (W.frame _ _ _ st2 fun b q o e => ?_) pv (fun b o e => ?_) (Heap.get?_update_self _ eS2 rfl) fun v2 g2 tk2 pv2 gk2 => fin v2 g2 tk2 pv2 gk2⟩
  · exact (Heap.get?_update_other _ _ (fun e2 : S = b => hf (by rw [e2]; exact q))).trans e
  · exact (Heap.get?_update_other _ _ (fun q : S = b => by rw [← q, hS0] at e; cases e)).trans (gk b o (fun q => by rw [hw0 b q] at e; cases e) (old b o e))
end
section
variable {pr : Program} {wd : World} {Z : Around} {E : Value → Shared → Prop} {z : Shared} {l : Addr} {xs : Array Value} {bt : Nat → Nat → Bool} {P : Nat → Value → Prop}
theorem max_listG {Q : Value → Shared → Prop} (hh : Z.handled = none) (hl : z.heap.IsList l xs) (hn : 0 < xs.size) (cmp : CmpG pr wd Z.in1 .Gt z.heap (fun i v => xs[i]? = some v) bt)
    (fin : ∀ v h' tk, xs[argBest bt (xs.size - 1)]? = some v → (∀ b o, z.heap.get? b = some o → h'.get? b = some o) → Q v { z with heap := h', toks := tk }) :
    wpAny (model pr wd) Z (call (.builtin "max") [.ref l]) Q E z := by
  have nam : (toString "max" ++ toString ".loop" : String) = "max.loop" := by decide
  have hlt : l < z.heap.objs.size := by obtain ⟨_, e, _⟩ := hl; exact Heap.lt_size e
  refine call_function_tree F.kind_max F.plain_max F.entry_max (F.args_max1 _) ?_
  show wpAny _ Z.in1 (Builtin.Builtins.bindParams "max" ["key", "default"] 0 ⟨[], []⟩ >>= _) _ _ z
  refine wpAny_bind (wpAny_of_eq (show Builtin.Builtins.bindParams "max" ["key", "default"] 0 ⟨[], []⟩ = pure [none, none] from rfl) (wpAny_bind (wpAny_pure ?_)))
  refine wpAny_bind (wpAny_pyIter_list hl ?_)
  refine wpAny_bind (wpAny_newObj_type ?_)
  rw [nam]
  have sz : (z.heap.push { cls := .type "list_iterator", data := .fields #[.ref l, .int 0 0] }).objs.size = z.heap.objs.size + 1 := Heap.size_push ..
  have no : ∀ {b : Addr}, z.heap.objs.size ≤ b → z.heap.get? b = none := fun {b} hb => by
    cases e : z.heap.get? b with
    | none => rfl
    | some o => exact absurd (Heap.lt_size e) (Nat.not_lt.mpr hb)
  have st0 : ((z.heap.push { cls := .type "list_iterator", data := .fields #[.ref l, .int 0 0] }).push { cls := .type "list", data := .seq #[] }).IsListIter z.heap.objs.size l 0 ∧ ((z.heap.push { cls := .type "list_iterator", data := .fields #[.ref l, .int 0 0] }).push { cls := .type "list", data := .seq #[] }).IsList l xs :=
    ⟨⟨_, Heap.get?_push_of_some _ (Heap.get?_push_size _ rfl), rfl, rfl⟩, (hl.push _).push _⟩
  refine wpAny_pure ⟨plainId_quiet F.plain_max_loop _, max_firstG (h0 := z.heap) (S := (z.heap.push { cls := .type "list_iterator", data := .fields #[.ref l, .int 0 0] }).objs.size) (Walks.list (A := Z.in1) hh z.heap.objs.size l (Nat.ne_of_lt hlt) xs) cmp (fun q => ?_) (fun b q => ?_) (no (by rw [sz]; exact Nat.le_succ _)) hn st0 (fun b o e => Heap.get?_push_of_some _ (Heap.get?_push_of_some _ e)) (Heap.get?_push_size _ rfl) fun v g tk pv gk => fin v g tk pv gk⟩
  · simp only [List.mem_cons, List.not_mem_nil, or_false] at q
    rcases q with q | q
    · rw [sz] at q; exact absurd q (Nat.ne_of_gt (Nat.lt_succ_self _))
    · rw [sz] at q; exact absurd hlt (Nat.not_lt.mpr (q ▸ Nat.le_succ _))
  · simp only [List.mem_cons, List.not_mem_nil, or_false] at q
    exact no (by rw [q]; exact Nat.le_refl _)
end
end Ph
namespace Ph
open PySem PySem.Spec PyProof.Rows L2
inductive Sc
  | i (n : Int)
  | s (x : Str)
  | b (k : Bool)
deriving DecidableEq
def Sc.v : Sc → V
  | .i n => .int n
  | .s x => .str x
  | .b k => .bl k
/-- of one kind -/
def Sc.like : Sc → Sc → Bool
  | .i _, .i _ => true
  | .s _, .s _ => true
  | .b _, .b _ => true
  | _, _ => false
def Sc.lt : Sc → Sc → Bool
  | .i m, .i n => decide (m < n)
  | .s x, .s y => decide (x.cps.toList < y.cps.toList)
  | .b p, .b q => !p && q
  | _, _ => false
def likeL : List Sc → List Sc → Bool
  | [], [] => true
  | x :: r, y :: t => x.like y && likeL r t
  | _, _ => false
/-- x before y, by the first place where they differ -/
def lexS : List Sc → List Sc → Bool
  | x :: r, y :: t => if x = y then lexS r t else x.lt y
  | [], _ :: _ => true
  | _, [] => false
def minIx (ks : List (List Sc)) : Nat := PySem.argBest (fun i j => lexS (ks.getD i []) (ks.getD j [])) (ks.length - 1)
def maxIx (ks : List (List Sc)) : Nat := PySem.argBest (fun i j => lexS (ks.getD j []) (ks.getD i [])) (ks.length - 1)
theorem likeL_len : ∀ {r t : List Sc}, likeL r t = true → r.length = t.length
  | [], [], _ => rfl
  | _ :: r, _ :: t, h => by
    simp only [likeL, Bool.and_eq_true] at h
    rw [List.length_cons, List.length_cons, likeL_len h.2]
  | [], _ :: _, h => by cases h
  | _ :: _, [], h => by cases h
theorem likeL_at : ∀ {r t : List Sc} {j : Nat} {x y : Sc}, likeL r t = true → r[j]? = some x → t[j]? = some y → x.like y = true
  | u :: r, w :: t, 0, x, y, h, e1, e2 => by
    simp only [likeL, Bool.and_eq_true] at h
    cases e1; cases e2
    exact h.1
  | u :: r, w :: t, j + 1, x, y, h, e1, e2 => by
    simp only [likeL, Bool.and_eq_true] at h
    exact likeL_at (j := j) h.2 e1 e2
  | [], _, _, _, _, _, e1, _ => by simp at e1
  | _ :: _, [], _, _, _, _, _, e2 => by simp at e2
/-- the model's way through two tuples is lexS -/
theorem lexAt_lexS {e r : Nat → Bool} : ∀ (ps qs as bs : List Sc) (i : Nat), i = ps.length → ps.length = qs.length → likeL as bs = true →
    (∀ j x y, (ps ++ as)[j]? = some x → (qs ++ bs)[j]? = some y → e j = decide (x = y) ∧ (x ≠ y → r j = x.lt y)) → Ob.lexAt e r false i as.length = lexS as bs
  | ps, qs, [], [], i, hi, hl, hk, h => rfl
  | ps, qs, x :: as, y :: bs, i, hi, hl, hk, h => by
    simp only [likeL, Bool.and_eq_true] at hk
    have h0 := h i x y (by rw [hi, List.getElem?_append_right (Nat.le_refl _), Nat.sub_self]; rfl) (by rw [hi, hl, List.getElem?_append_right (Nat.le_refl _), Nat.sub_self]; rfl)
    have ih := lexAt_lexS (e := e) (r := r) (ps ++ [x]) (qs ++ [y]) as bs (i + 1) (by rw [List.length_append, hi]; rfl) (by rw [List.length_append, List.length_append, hl]; rfl) hk.2 (fun j u w e1 e2 => h j u w (by simpa using e1) (by simpa using e2))
    rw [List.length_cons, Ob.lexAt_succ, h0.1, lexS]
    by_cases q : x = y
    · rw [if_pos q, if_pos (decide_eq_true q), ih]
    · rw [if_neg q, if_neg (by rw [decide_eq_false q]; exact Bool.false_ne_true), h0.2 q]
  | _, _, [], _ :: _, _, _, _, hk, _ => by cases hk
  | _, _, _ :: _, [], _, _, _, hk, _ => by cases hk
theorem Vals.at_ {xs : List V} {its : List Value} (h : Vals xs its) {j : Nat} {x : V} (e : xs[j]? = some x) : ∃ u, its[j]? = some u ∧ RelV x u := by
  induction h generalizing j with
  | nil => simp at e
  | cons a t ih =>
    cases j with
    | zero =>
      cases e
      exact ⟨_, rfl, a⟩
    | succ j => exact ih e
theorem relV_sc {x : Sc} {u : Value} (h : RelV x.v u) : match x with | .i n => ∃ t, u = .int n t | .s z => ∃ t, u = .str z t | .b k => u = .bool k := by
  cases x with
  | i n => exact h
  | s z => exact h
  | b k => exact h
theorem sc_eqAt {A : Around} {s : Shared} {x y : Sc} {u w : Value} (hx : RelV x.v u) (hy : RelV y.v w) (k : x.like y = true) : SeqAt.EqAt A s u w (decide (x = y)) := by
  cases x with
  | i n =>
    cases y with
    | i m =>
      obtain ⟨t, rfl⟩ := hx
      obtain ⟨t', rfl⟩ := hy
      rw [show decide (Sc.i n = Sc.i m) = (n == m) from by by_cases q : n = m <;> simp [q]]
      exact SeqAt.EqAt.int_int _ _ _ _
    | _ => cases k
  | s z =>
    cases y with
    | s z' =>
      obtain ⟨t, rfl⟩ := hx
      obtain ⟨t', rfl⟩ := hy
      rw [show decide (Sc.s z = Sc.s z') = (z == z') from by by_cases q : z = z' <;> simp [q]]
      exact SeqAt.EqAt.str_str _ _ _ _
    | _ => cases k
  | b p =>
    cases y with
    | b q =>
      obtain rfl : u = .bool p := hx
      obtain rfl : w = .bool q := hy
      rw [show decide (Sc.b p = Sc.b q) = (p == q) from by cases p <;> cases q <;> rfl]
      exact SeqAt.EqAt.bool_bool _ _
    | _ => cases k
/-- no bools (their order is not wanted here) -/
def Sc.nob : Sc → Bool
  | .b _ => false
  | _ => true
theorem sc_ltAt {A : Around} {s : Shared} {x y : Sc} {u w : Value} (hx : RelV x.v u) (hy : RelV y.v w) (k : x.like y = true) (n : x.nob = true) : Ob.RcOp .Lt A s u w (x.lt y) := by
  cases x with
  | i n =>
    cases y with
    | i m =>
      obtain ⟨t, rfl⟩ := hx
      obtain ⟨t', rfl⟩ := hy
      exact Ob.RcOp.lt_int _ _ _ _
    | _ => cases k
  | s z =>
    cases y with
    | s z' =>
      obtain ⟨t, rfl⟩ := hx
      obtain ⟨t', rfl⟩ := hy
      exact fun _ _ _ _ h => lt_str h
    | _ => cases k
  | b p => cases n
/-- the rows xs are tuples of the scalars ks -/
inductive TupS (K : PySem.W.Frag) (H : Hp) : List V → List (List Sc) → Prop
  | nil : TupS K H [] []
  | cons {t : Addr} {d : List Sc} {xs : List V} {ks : List (List Sc)} : SqT K H t (d.map Sc.v) → TupS K H xs ks → TupS K H (.ref t :: xs) (d :: ks)
theorem TupS.length {K : PySem.W.Frag} {H : Hp} : ∀ {xs ks}, TupS K H xs ks → xs.length = ks.length
  | _, _, .nil => rfl
  | _, _, .cons _ r => congrArg Nat.succ r.length
theorem TupS.at_ {K : PySem.W.Frag} {H : Hp} : ∀ {xs ks} {i : Nat} {x : V}, TupS K H xs ks → xs[i]? = some x → ∃ t d, x = .ref t ∧ ks[i]? = some d ∧ SqT K H t (d.map Sc.v)
  | _, _, 0, _, .cons a _, e => by
    cases e
    exact ⟨_, _, rfl, rfl, a⟩
  | _, _, i + 1, _, .cons _ r, e => r.at_ (i := i) e
  | _, _, _, _, .nil, e => by simp at e
def allLike (ks : List (List Sc)) : Prop := ∀ a, a ∈ ks → (∀ c, c ∈ a → c.nob = true) ∧ ∀ b, b ∈ ks → likeL a b = true
def rMinT (K : PySem.W.Frag) : List V → Hp → VK → Prop := fun vs H Q => ∃ (a : Addr) (xs : List V) (ks : List (List Sc)), vs = [.ref a] ∧ SqL K H a xs ∧ TupS K H xs ks ∧ allLike ks ∧ 0 < ks.length ∧ ∀ v, xs[minIx ks]? = some v → Q v H
section
variable {X : Cx}
theorem row_items {pins : List (Addr × Obj)} {σ : L2.St} {H : Hp} {s : Shared} {t : Addr} {d : List Sc} (I : Inv X pins σ H s) (h : SqT X.K H t (d.map Sc.v)) : ∃ its : List Value, s.heap.IsTuple t its.toArray ∧ its.length = d.length ∧ ∀ (j : Nat) (x : Sc), d[j]? = some x → ∃ u, its[j]? = some u ∧ RelV x.v u := by
  obtain ⟨its, r1, p1, _⟩ := I.tuple h
  refine ⟨its, p1, ?_, fun j x e => Vals.at_ (j := j) (x := x.v) r1 (by rw [List.getElem?_map, e]; rfl)⟩
  rw [← Vals.length r1, List.length_map]
theorem lt_rows {A : Around} {s : Shared} {l b : Addr} {x y : List Sc} {p q : List Value} (hu : A.units < cLine) (hl : s.heap.IsTuple l p.toArray) (hb : s.heap.IsTuple b q.toArray) (lx : p.length = x.length) (ly : q.length = y.length)
    (hx : ∀ (j : Nat) (c : Sc), x[j]? = some c → ∃ u, p[j]? = some u ∧ RelV c.v u) (hy : ∀ (j : Nat) (c : Sc), y[j]? = some c → ∃ u, q[j]? = some u ∧ RelV c.v u) (k : likeL x y = true) (nb : ∀ c, c ∈ x → c.nob = true) : Ob.RcOp .Lt A s (.ref l) (.ref b) (lexS x y) := by
  have hxy := likeL_len k
  have g : ∀ j (h1 : j < p.toArray.size) (h2 : j < q.toArray.size), ∃ c e, x[j]? = some c ∧ y[j]? = some e ∧ RelV c.v p.toArray[j] ∧ RelV e.v q.toArray[j] := fun j h1 h2 => by
    rw [List.size_toArray] at h1 h2
    have h3 : j < x.length := by omega
    have h4 : j < y.length := by omega
    obtain ⟨u, e1, r1⟩ := hx j _ (List.getElem?_eq_getElem h3)
    obtain ⟨w, e2, r2⟩ := hy j _ (List.getElem?_eq_getElem h4)
    refine ⟨_, _, List.getElem?_eq_getElem h3, List.getElem?_eq_getElem h4, ?_, ?_⟩
    · rw [List.getElem?_eq_getElem h1] at e1
      have := Option.some.inj e1
      rw [List.getElem_toArray, this]
      exact r1
    · rw [List.getElem?_eq_getElem h2] at e2
      have := Option.some.inj e2
      rw [List.getElem_toArray, this]
      exact r2
  have R := Ob.RcOp.tuples_lt (A := A) (s := s) (e := fun j => decide (x[j]? = y[j]?)) (r := fun j => match x[j]?, y[j]? with | some c, some e => c.lt e | _, _ => false) hl hb hu
    (fun j h1 h2 => by
      obtain ⟨c, e, e1, e2, r1, r2⟩ := g j h1 h2
      rw [show decide (x[j]? = y[j]?) = decide (c = e) from by rw [e1, e2]; simp]
      exact sc_eqAt r1 r2 (likeL_at k e1 e2))
    (fun j h1 h2 _ => by
      obtain ⟨c, e, e1, e2, r1, r2⟩ := g j h1 h2
      simp only [e1, e2]
      exact sc_ltAt r1 r2 (likeL_at k e1 e2) (nb c (List.mem_of_getElem? e1)))
  rw [List.size_toArray, List.size_toArray, lx, ly, ← hxy, Nat.min_self, decide_eq_false (Nat.lt_irrefl _)] at R
  rw [lexAt_lexS [] [] x y 0 rfl rfl k (fun j c e e1 e2 => by
    simp only [List.nil_append] at e1 e2
    rw [e1, e2]
    exact ⟨by simp, fun _ => rfl⟩)] at R
  exact R
theorem row_at' {xs : List V} {its : List Value} {i : Nat} {u : Value} (h : Vals xs its) (e : its.toArray[i]? = some u) : ∃ x, xs[i]? = some x ∧ RelV x u := by
  rw [List.getElem?_toArray] at e
  induction h generalizing i with
  | nil => simp at e
  | cons a t ih =>
    cases i with
    | zero =>
      cases e
      exact ⟨_, rfl, a⟩
    | succ i => exact ih e
theorem tup_keep {g g' : Heap} {t : Addr} {p : Array Value} (h : g.IsTuple t p) (k : ∀ b o, g.get? b = some o → g'.get? b = some o) : g'.IsTuple t p := by
  obtain ⟨o, e, c, n, d⟩ := h
  exact ⟨o, k _ _ e, c, n, d⟩
theorem cmp_rows {pins : List (Addr × Obj)} {σ : L2.St} {H : Hp} {s : Shared} {A : Around} {xs : List V} {ks : List (List Sc)} {its : List Value} (I : Inv X pins σ H s) (hu : A.units < cLine) (rv : Vals xs its) (ht : TupS X.K H xs ks) (al : allLike ks) :
    CmpG X.prog X.w A .Lt s.heap (fun i v => its.toArray[i]? = some v) (fun i j => lexS (ks.getD i []) (ks.getD j [])) := by
  intro i j x y z Q E old px py q
  obtain ⟨x', ex, rx⟩ := row_at' rv px
  obtain ⟨y', ey, ry⟩ := row_at' rv py
  obtain ⟨t1, d1, rfl, k1, s1⟩ := ht.at_ ex
  obtain ⟨t2, d2, rfl, k2, s2⟩ := ht.at_ ey
  obtain rfl : x = Value.ref t1 := rx
  obtain rfl : y = Value.ref t2 := ry
  obtain ⟨p1, h1, l1, g1⟩ := row_items I s1
  obtain ⟨p2, h2, l2, g2⟩ := row_items I s2
  have m1 := List.mem_of_getElem? k1
  have m2 := List.mem_of_getElem? k2
  have e1 : ks.getD i [] = d1 := by rw [List.getD_eq_getElem?_getD, k1]; rfl
  have e2 : ks.getD j [] = d2 := by rw [List.getD_eq_getElem?_getD, k2]; rfl
  have w := lt_rows (A := A) (s := z) hu (tup_keep h1 old) (tup_keep h2 old) l1 l2 g1 g2 ((al d1 m1).2 d2 m2) (al d1 m1).1
  dsimp only at q
  rw [e1, e2] at q
  exact w X.prog X.w E Q q
theorem cr_minT (hc : X.calm = true) (hu : X.A.units + 64 < cLine) : CallR X (.builtin "min") (rMinT X.K) := by
  intro pins s σ H vs us Q I r h
  obtain ⟨a, xs, ks, rfl, hs, ht, al, hn, q⟩ := h
  obtain ⟨its, rv, hl, _⟩ := I.list hs
  obtain ⟨u, rfl, ru⟩ := vals1 r
  obtain rfl : u = Value.ref a := ru
  have len : its.toArray.size = ks.length := by rw [List.size_toArray, ← Vals.length rv, ht.length]
  refine min_listG (I.ok.hd hc) hl.isList (by rw [len]; exact hn) (cmp_rows I (by show X.A.units + 1 < cLine; omega) rv ht al) fun v g tk e gk => ?_
  rw [len] at e
  obtain ⟨x, ex, rx⟩ := row_at' rv e
  exact ⟨x, H, I.kept (t' := tk) gk, rx, q x ex⟩
end
end Ph
namespace Ph
open PySem PySem.Spec PyProof.Rows L2
/-! ### two sorted lists of the same things -/
theorem perm_uniq {α : Type} {r : α → α → Prop} (anti : ∀ a b, r a b → r b a → a = b) : ∀ {l m : List α}, l.Perm m → l.Pairwise r → m.Pairwise r → l = m
  | [], m, p, _, _ => (List.Perm.eq_nil p.symm).symm
  | x :: l, [], p, _, _ => absurd p.length_eq (by simp)
  | x :: l, y :: m, p, hl, hm => by
    have e : x = y := by
      rcases List.mem_cons.mp (p.mem_iff.mp (List.mem_cons_self (a := x) (l := l))) with e | hx
      · exact e
      · rcases List.mem_cons.mp (p.mem_iff.mpr (List.mem_cons_self (a := y) (l := m))) with e | hy
        · exact e.symm
        · exact anti x y ((List.pairwise_cons.mp hl).1 y hy) ((List.pairwise_cons.mp hm).1 x hx)
    subst e
    rw [perm_uniq anti p.cons_inv (List.pairwise_cons.mp hl).2 (List.pairwise_cons.mp hm).2]
theorem ltCps_irrefl : ∀ a : List Nat, ltCps a a = false
  | [] => rfl
  | x :: r => by simp [ltCps, ltCps_irrefl r]
theorem ltCps_trans : ∀ {a b c : List Nat}, ltCps a b = true → ltCps b c = true → ltCps a c = true
  | [], [], _, h, _ => by cases h
  | [], _ :: _, [], _, h => by cases h
  | [], _ :: _, _ :: _, _, _ => rfl
  | _ :: _, [], _, h, _ => by cases h
  | _ :: _, _ :: _, [], _, h => by cases h
  | x :: r, y :: s, z :: t, h1, h2 => by
    simp only [ltCps, Bool.or_eq_true, decide_eq_true_eq, Bool.and_eq_true, beq_iff_eq] at h1 h2 ⊢
    rcases h1 with h1 | ⟨rfl, h1⟩
    · rcases h2 with h2 | ⟨rfl, h2⟩
      · exact .inl (by omega)
      · exact .inl h1
    · rcases h2 with h2 | ⟨rfl, h2⟩
      · exact .inl h2
      · exact .inr ⟨rfl, ltCps_trans h1 h2⟩
theorem ltCps_tri : ∀ {a b : List Nat}, ltCps a b = false → ltCps b a = false → a = b
  | [], [], _, _ => rfl
  | [], _ :: _, h, _ => by cases h
  | _ :: _, [], _, h => by cases h
  | x :: r, y :: s, h1, h2 => by
    simp only [ltCps, Bool.or_eq_false_iff, decide_eq_false_iff_not, Bool.and_eq_false_iff, beq_eq_false_iff_ne] at h1 h2
    have e : x = y := by omega
    subst e
    rcases h1.2 with q | q
    · exact absurd rfl q
    · rcases h2.2 with q2 | q2
      · exact absurd rfl q2
      · rw [ltCps_tri q q2]
theorem ltCps_of_le {a b c : List Nat} (h1 : ltCps b a = false) (h2 : ltCps c b = false) : ltCps c a = false := by
  cases h : ltCps c a with
  | false => rfl
  | true =>
    cases hb : ltCps a b with
    | true => rw [ltCps_trans h hb] at h2; cases h2
    | false =>
      have e := ltCps_tri hb h1
      subst e
      rw [h] at h2; cases h2
/-- a not behind b -/
def leT (a b : Str) : Prop := ltCps b.cps.toList a.cps.toList = false
theorem leT_anti (a b : Str) (h1 : leT a b) (h2 : leT b a) : a = b := by
  have e := ltCps_tri h2 h1
  cases a; cases b
  simp only [Str.mk.injEq] at e ⊢
  exact Array.toList_inj.mp e
theorem leT_trans {a b c : Str} (h1 : leT a b) (h2 : leT b c) : leT a c := ltCps_of_le h1 h2
theorem risingS_pw : ∀ {p : Str} {l : List Str}, risingS p l = true → (p :: l).Pairwise leT
  | p, [], _ => List.pairwise_singleton _ _
  | p, x :: r, h => by
    simp only [risingS, Bool.and_eq_true, Bool.not_eq_true'] at h
    have ih := risingS_pw h.2
    refine List.pairwise_cons.mpr ⟨fun y hy => ?_, ih⟩
    rcases List.mem_cons.mp hy with rfl | hy
    · exact h.1
    · exact leT_trans h.1 ((List.pairwise_cons.mp ih).1 y hy)
theorem sortedS_pw : ∀ {l : List Str}, sortedS l = true → l.Pairwise leT
  | [], _ => .nil
  | _ :: _, h => risingS_pw h
/-- the sorted list, by insertion -/
def insT (x : Str) : List Str → List Str
  | [] => [x]
  | y :: r => if ltCps y.cps.toList x.cps.toList = true then y :: insT x r else x :: y :: r
def srtT : List Str → List Str
  | [] => []
  | x :: r => insT x (srtT r)
theorem insT_perm (x : Str) : ∀ l, (insT x l).Perm (x :: l)
  | [] => List.Perm.refl _
  | y :: r => by
    unfold insT
    split
    · exact (List.Perm.cons _ (insT_perm x r)).trans (List.Perm.swap _ _ _)
    · exact List.Perm.refl _
theorem srtT_perm : ∀ l, (srtT l).Perm l
  | [] => List.Perm.refl _
  | x :: r => (insT_perm x _).trans (List.Perm.cons _ (srtT_perm r))
theorem insT_pw (x : Str) : ∀ {l}, l.Pairwise leT → (insT x l).Pairwise leT
  | [], _ => List.pairwise_singleton _ _
  | y :: r, h => by
    unfold insT
    split
    · rename_i q
      refine List.pairwise_cons.mpr ⟨fun z hz => ?_, insT_pw x (List.pairwise_cons.mp h).2⟩
      rcases List.mem_cons.mp ((insT_perm x r).mem_iff.mp hz) with rfl | hz
      · cases e : ltCps z.cps.toList y.cps.toList with
        | false => exact e
        | true => have := ltCps_trans q e; rw [ltCps_irrefl] at this; cases this
      · exact (List.pairwise_cons.mp h).1 z hz
    · rename_i q
      have q : leT x y := by unfold leT; simpa using q
      refine List.pairwise_cons.mpr ⟨fun z hz => ?_, h⟩
      rcases List.mem_cons.mp hz with rfl | hz
      · exact q
      · exact leT_trans q ((List.pairwise_cons.mp h).1 z hz)
theorem srtT_pw : ∀ l, (srtT l).Pairwise leT
  | [] => .nil
  | x :: r => insT_pw x (srtT_pw r)
theorem srtT_of {ys xs : List Str} (p : ys.Perm xs) (h : sortedS ys = true) : ys = srtT xs := perm_uniq leT_anti (p.trans (srtT_perm xs).symm) (sortedS_pw h) (srtT_pw xs)
theorem srtT_id {xs : List Str} (h : xs.Pairwise leT) : srtT xs = xs := perm_uniq leT_anti (srtT_perm xs) (srtT_pw xs) h
def insZ (x : Int) : List Int → List Int
  | [] => [x]
  | y :: r => if y < x then y :: insZ x r else x :: y :: r
def srtZ : List Int → List Int
  | [] => []
  | x :: r => insZ x (srtZ r)
theorem insZ_perm (x : Int) : ∀ l, (insZ x l).Perm (x :: l)
  | [] => List.Perm.refl _
  | y :: r => by
    unfold insZ
    split
    · exact (List.Perm.cons _ (insZ_perm x r)).trans (List.Perm.swap _ _ _)
    · exact List.Perm.refl _
theorem srtZ_perm : ∀ l, (srtZ l).Perm l
  | [] => List.Perm.refl _
  | x :: r => (insZ_perm x _).trans (List.Perm.cons _ (srtZ_perm r))
theorem insZ_pw (x : Int) : ∀ {l : List Int}, l.Pairwise (· ≤ ·) → (insZ x l).Pairwise (· ≤ ·)
  | [], _ => List.pairwise_singleton _ _
  | y :: r, h => by
    unfold insZ
    have h1 := List.pairwise_cons.mp h
    split
    · refine List.pairwise_cons.mpr ⟨fun z hz => ?_, insZ_pw x h1.2⟩
      rcases List.mem_cons.mp ((insZ_perm x r).mem_iff.mp hz) with rfl | hz
      · omega
      · exact h1.1 z hz
    · refine List.pairwise_cons.mpr ⟨fun z hz => ?_, h⟩
      rcases List.mem_cons.mp hz with rfl | hz
      · omega
      · have := h1.1 z hz
        omega
theorem srtZ_pw : ∀ l, (srtZ l).Pairwise (· ≤ ·)
  | [] => .nil
  | x :: r => insZ_pw x (srtZ_pw r)
theorem srtZ_of {ys xs : List Int} (p : ys.Perm xs) (h : ys.Pairwise (· ≤ ·)) : ys = srtZ xs := perm_uniq (fun a b h1 h2 => Int.le_antisymm h1 h2) (p.trans (srtZ_perm xs).symm) h (srtZ_pw xs)
theorem srtZ_id {xs : List Int} (h : xs.Pairwise (· ≤ ·)) : srtZ xs = xs := perm_uniq (fun a b h1 h2 => Int.le_antisymm h1 h2) (srtZ_perm xs) (srtZ_pw xs) h
/-! ### the rules -/
def rSortDS : List V → Hp → VK → Prop := fun xs H Q => ∃ (a : Addr) (kvs : List (Key × V)) (ks : List Str), xs = [.ref a] ∧ Rd H a (.dK kvs) ∧ kvs.map (·.1) = ks.map Sum.inr ∧ ks.length < 64 ∧ ∀ ys p, ys.Perm ks → sortedS ys = true → H p = none → Q (.ref p) (upd H p (.lst (ys.map V.str)))
def rSortDI : List V → Hp → VK → Prop := fun xs H Q => ∃ (a : Addr) (kvs : List (Key × V)) (ks : List Int), xs = [.ref a] ∧ Rd H a (.dK kvs) ∧ kvs.map (·.1) = ks.map Sum.inl ∧ ks.length < 64 ∧ ∀ (ys : List Int) (p : Addr), ys.Perm ks → ys.Pairwise (· ≤ ·) → H p = none → Q (.ref p) (upd H p (.lst (ys.map V.int)))
def rSortU (K : PySem.W.Frag) : List V → Hp → VK → Prop := fun xs H Q => rSortedI K xs H Q ∨ rSortedS K xs H Q ∨ rSortDS xs H Q ∨ rSortDI xs H Q
def rMin1 (K : PySem.W.Frag) : List V → Hp → VK → Prop := fun xs H Q => rMin K xs H Q ∨ rMinT K xs H Q
def rDictP (K : PySem.W.Frag) : List V → Hp → VK → Prop := fun xs H Q => ∃ (a : Addr) (ps : List Addr) (kvs : List (Key × V)), xs = [.ref a] ∧ SqL K H a (ps.map V.ref) ∧ Paired (fun p kv => SqT K H p [kV kv.1, kv.2]) ps kvs ∧ ∀ p, H p = none → Q (.ref p) (upd H p (.dK (mergeK [] kvs)))
def rDictD : List V → Hp → VK → Prop := fun xs H Q => ∃ (a : Addr) (kvs : List (Key × V)), xs = [.ref a] ∧ Rd H a (.dK kvs) ∧ ∀ p, H p = none → Q (.ref p) (upd H p (.dK kvs))
def rDictU (K : PySem.W.Frag) : List V → Hp → VK → Prop := fun xs H Q => rDictP K xs H Q ∨ rDictD xs H Q
def rIsB : R2 := fun x y H Q => match x, y with
  | .bl c, .bl b => Q (.bl (c == b)) H
  | .non, .bl _ => Q (.bl false) H
  | .int _, .bl _ => Q (.bl false) H
  | .str _, .bl _ => Q (.bl false) H
  | .ref _, .bl _ => Q (.bl false) H
  | _, _ => False
def rIsU : R2 := fun x y H Q => rIsN x y H Q ∨ rIsB x y H Q
section
variable {X : Cx}
theorem u_sorted (hc : X.calm = true) : CallR X (.builtin "sorted") (rSortU X.K) := cr_sortedI.or (cr_sortedS.or ((call_sortedD hc).or (call_sortedDI hc)))
theorem u_min1 (hc : X.calm = true) (hu : X.A.units + 64 < cLine) : CallR X (.builtin "min") (rMin1 X.K) := (cr_min hc).or (cr_minT hc hu)
theorem u_dict (hc : X.calm = true) : CallR X (.type "dict") (rDictU X.K) := (call_dictP hc).or call_dictD
theorem op_isB : OpR X (compareOp .Is) rIsB := by
  intro pins s σ H x y v u Q I rx ry h
  cases y with
  | bl b =>
    cases ry
    cases x with
    | bl c =>
      cases rx
      exact wpAny_pure (fin_bl I h (by cases c <;> cases b <;> rfl))
    | non =>
      cases rx
      exact wpAny_pure (fin_bl I h rfl)
    | int n =>
      obtain ⟨t, rfl⟩ := rx
      exact wpAny_pure (fin_bl I h rfl)
    | str n =>
      obtain ⟨t, rfl⟩ := rx
      exact wpAny_pure (fin_bl I h rfl)
    | ref n =>
      cases rx
      exact wpAny_pure (fin_bl I h rfl)
    | _ => exact h.elim
  | _ => exact (show False from (by cases x <;> exact h)).elim
theorem u_is : OpR X (compareOp .Is) rIsU := u_isN.or op_isB
end
end Ph
namespace Ph
open PySem PySem.Spec PyProof.Rows L2
section
variable {K : PySem.W.Frag} {B H : Hp} {L L' : List (Addr × HO)} {I : List Im} {Q : VK} {σ : L2.St} {d b : Addr} {A Bk Ct : L2.St → Hp → Prop} {Bt : VK} {α : Type} {f : α → V}
theorem mK_keys {l : List (Str × α)} : (mK f l).map (·.1) = (l.map (·.1)).map Sum.inr := by unfold mK; rw [List.map_map, List.map_map]; rfl
/-- sorted(d): its keys, sorted -/
theorem s_srtK {l : List (Str × α)} (hC : Ctx K B H L I) (m : H d = some (.dK (mK f l))) (z : l.length < 64) (k : ∀ p H1, Ctx K B H1 ((p, .lst ((srtT (l.map (·.1))).map V.str)) :: L) I → Q (.ref p) H1) : rSortU K [.ref d] H Q :=
  .inr (.inr (.inl ⟨d, _, l.map (·.1), rfl, .inl m, mK_keys, by rw [List.length_map]; exact z, fun ys p hp hs hn => by
    rw [srtT_of hp hs]
    exact k p _ (hC.newM hn rfl)⟩))
theorem s_srtL {xs : List Str} (hC : Ctx K B H L I) (m : H d = some (.lst (xs.map V.str))) (z : xs.length < 64) (k : ∀ p H1, Ctx K B H1 ((p, .lst ((srtT xs).map V.str)) :: L) I → Q (.ref p) H1) : rSortU K [.ref d] H Q :=
  .inr (.inl ⟨d, xs, rfl, SqL.of m, z, fun ys p hp hs hn => by
    rw [srtT_of hp hs]
    exact k p _ (hC.newM hn rfl)⟩)
theorem s_srtI {xs : List Int} (hC : Ctx K B H L I) (m : H d = some (.lst (xs.map V.int))) (k : ∀ p H1, Ctx K B H1 ((p, .lst ((srtZ xs).map V.int)) :: L) I → Q (.ref p) H1) : rSortU K [.ref d] H Q :=
  .inl ⟨d, xs, rfl, SqL.of m, fun ys p hp hs hn => by
    rw [srtZ_of hp hs]
    exact k p _ (hC.newM hn rfl)⟩
theorem s_minT {xs : List V} {ks : List (List Sc)} (m : H d = some (.lst xs)) (ht : TupS K H xs ks) (al : allLike ks) (hn : 0 < ks.length) (k : ∀ v, xs[minIx ks]? = some v → Q v H) : rMin1 K [.ref d] H Q :=
  .inr ⟨d, xs, ks, rfl, SqL.of m, ht, al, hn, k⟩
/-! del d[k] -/
def kDelK (x : V) (A : L2.St → Hp → Prop) (σ : L2.St) : VK := fun y H2 => ∃ a kvs k, x = .ref a ∧ H2 a = some (.dK kvs) ∧ y = kV k ∧ (valV kvs k).isSome = true ∧ A σ (upd H2 a (.dK (dropK kvs k)))
theorem s_del {td ty : TE} (h : td σ H fun x H1 => ty σ H1 (kDelK x A σ)) : sDDel td ty ⟨A, Bt, Bk, Ct⟩ σ H := h
theorem dropK_mK {l : List (Str × α)} {k : Str} : dropK (mK f l) (.inr k) = mK f (l.filter fun p => decide (p.1 ≠ k)) := by
  unfold dropK mK
  rw [List.filter_map]
  congr 1
  refine List.filter_congr fun p _ => ?_
  simp
theorem s_delK {l : List (Str × α)} {x : Str} {v : α} (hC : Ctx K B H L I) (m : H d = some (.dK (mK f l))) (e : look l x = some v) (u : Up d (.dK (mK f (l.filter fun p => decide (p.1 ≠ x)))) L L') (k : ∀ H1, Ctx K B H1 L' I → A σ H1) : kDelK (.ref d) A σ (.str x) H :=
  ⟨d, _, .inr x, rfl, m, rfl, by rw [valV_mK, e]; rfl, by rw [dropK_mK]; exact k _ (hC.put u rfl)⟩
/-! is -/
theorem s_uIsN_non (h : Q (.bl true) H) : rIsU .non .non H Q := .inl ⟨rfl, h⟩
theorem s_uIsN_ref {a : Addr} (h : Q (.bl false) H) : rIsU (.ref a) .non H Q := .inl ⟨rfl, h⟩
theorem s_uIsN_int {i : Int} (h : Q (.bl false) H) : rIsU (.int i) .non H Q := .inl ⟨rfl, h⟩
theorem s_uIsN_str {i : Str} (h : Q (.bl false) H) : rIsU (.str i) .non H Q := .inl ⟨rfl, h⟩
theorem s_uIsN_bl {i : Bool} (h : Q (.bl false) H) : rIsU (.bl i) .non H Q := .inl ⟨rfl, h⟩
theorem s_uIsB_s {i : Bool} (h : Q (.bl true) H) : rIsU (.bl i) (.bl i) H Q := .inr (by show Q (.bl (i == i)) H; rw [show (i == i) = true from by cases i <;> rfl]; exact h)
theorem s_uIsB {i j : Bool} (h : Q (.bl (i == j)) H) : rIsU (.bl i) (.bl j) H Q := .inr h
theorem s_uIsB_non {j : Bool} (h : Q (.bl false) H) : rIsU .non (.bl j) H Q := .inr h
theorem s_uIsB_str {j : Bool} {x : Str} (h : Q (.bl false) H) : rIsU (.str x) (.bl j) H Q := .inr h
theorem s_uIsB_int {j : Bool} {x : Int} (h : Q (.bl false) H) : rIsU (.int x) (.bl j) H Q := .inr h
theorem s_uIsB_ref {j : Bool} {x : Addr} (h : Q (.bl false) H) : rIsU (.ref x) (.bl j) H Q := .inr h
theorem s_initV {x : Addr} (h : Q (.ref x) H) : kInit Q x .non H := ⟨rfl, h⟩
theorem s_lcS {wi : TI} {g : TG} {ttS : L2.St → TT} {te : TE} {vs : List Nat} (h : tLc wi g (ttS σ) te vs σ H Q) : tLcS wi g ttS te vs σ H Q := h
theorem s_extL {l b : Addr} {xs zs : List V} (hC : Ctx K B H L I) (m : H b = some (.lst zs)) (m2 : H l = some (.lst xs)) (z : xs.length + zs.length ≤ 100000) (u : Up l (.lst (xs ++ zs)) L L') (k : ∀ H1, Ctx K B H1 L' I → Q (.ref l) H1) : rIAddU (.ref l) (.ref b) H Q :=
  ⟨l, b, xs, zs, rfl, rfl, m2, m, Nat.le_trans z (by decide), k _ (hC.put u rfl)⟩
theorem perm_focus {α : Type} {A M N : List α} {x : α} : (A ++ (M ++ x :: N)).Perm (x :: (A ++ (M ++ N))) := by
  rw [← List.append_assoc, ← List.append_assoc]
  exact List.perm_middle
end
end Ph
namespace Ph
open PySem PySem.Spec PyProof.Rows L2
section
variable {κ α : Type} [DecidableEq κ]
theorem look_none {l : List (κ × α)} {k : κ} : look l k = none ↔ ∀ p, p ∈ l → p.1 ≠ k := by
  induction l with
  | nil => simp [look_nil]
  | cons p r ih =>
    rw [look_cons]
    by_cases e : p.1 = k
    · rw [if_pos e]
      exact ⟨fun z => (by cases z), fun z => absurd e (z p List.mem_cons_self)⟩
    · rw [if_neg e, ih]
      exact ⟨fun z q hq => by
        rcases List.mem_cons.mp hq with rfl | hq
        · exact e
        · exact z q hq, fun z q hq => z q (List.mem_cons_of_mem _ hq)⟩
theorem putR_new {l : List (κ × α)} {k : κ} {v : α} (h : look l k = none) : putR l k v = l ++ [(k, v)] := by
  unfold putR
  rw [look_any, h]
  rfl
/-- keys all different: each row is found -/
theorem look_of_mem {l : List (κ × α)} {k : κ} {v : α} (nd : (l.map (·.1)).Nodup) (h : (k, v) ∈ l) : look l k = some v := by
  induction l with
  | nil => cases h
  | cons p r ih =>
    rw [List.map_cons, List.nodup_cons] at nd
    rw [look_cons]
    rcases List.mem_cons.mp h with e | h
    · subst e
      rw [if_pos rfl]
    · rw [if_neg (fun e => nd.1 (by rw [e]; exact List.mem_map.mpr ⟨_, h, rfl⟩)), ih nd.2 h]
end
theorem _root_.Ph.Pick.mid {x : Addr × HO} : ∀ {M N : List (Addr × HO)}, Pick x (M ++ x :: N) (M ++ N)
  | [], _ => .here
  | _ :: _, _ => .there Pick.mid
theorem _root_.Ph.Up.mid {a : Addr} {o o' : HO} : ∀ {M N : List (Addr × HO)}, Up a o' (M ++ (a, o) :: N) (M ++ (a, o') :: N)
  | [], _ => .here
  | _ :: _, _ => .there Up.mid
theorem mem_mid {α : Type} {x : α} {M N : List α} : x ∈ M ++ x :: N := List.mem_append_right _ List.mem_cons_self
theorem nodup_pw {α : Type} {r : α → α → Prop} {l : List α} (h : l.Pairwise fun x y => r x y ∧ x ≠ y) : l.Nodup := h.imp fun z => z.2
end Ph
namespace Ph
open PySem PySem.Spec PyProof.Rows L2
section
variable {K : PySem.W.Frag} {B H : Hp} {L L' : List (Addr × HO)} {I : List Im} {Q : VK} {σ : L2.St} {J : It} {n : Nat} {G : Hp → Prop} {Y : Nat → Hp → V → Hp → Prop} {g : TG} {tt : TT} {te : TE} {vs : List Nat} {P : Addr} {wi : TI} {tb : Array Value}
def kTupW (g : TG) (tt : TT) (te : TE) (vs : List Nat) (σ : L2.St) (Q : VK) : It → Hp → Prop := fun J H2 => ∃ W : Nat → Nat → List V → Hp → Prop, (∃ m, W 0 m [] H2) ∧ GW J g tt te vs σ (fun _ => True) (fun _ _ _ => True) (fun ys H' => ∀ l, H' l = none → Q (.ref l) (upd H' l (.tup ys))) W
def kTupG (P : Addr) (g : TG) (tt : TT) (te : TE) (vs : List Nat) (σ : L2.St) (Q : VK) : It → Hp → Prop := fun J H1 => GxR.TabG H1 P ∧ ∀ H2, GxR.Tabbed P H1 H2 → kTupW g tt te vs σ Q J H2
theorem s_tupX (h : wi σ H (kTupG P g tt te vs σ Q)) : tTupX P wi g tt te vs σ H Q := h
theorem s_tupGV (hC : Ctx K B H L I) (m : Pick (P, .tbl tb) L L') (f : Im.tri tb ∈ I) (k : ∀ tb' H1, Ctx K B H1 ((P, .tbl tb') :: L') (.tri tb' :: I) → kTupW g tt te vs σ Q J H1) : kTupG P g tt te vs σ Q J H := tabbed_ctx hC m f k
def kTupE (ys : List V) (c : Nat) (Pn : List V → Hp → Prop) : VK := fun y H4 => ys.length < sizeLine ∧ True ∧ (True → (ys ++ [y]).length ≤ c ∧ Pn (ys ++ [y]) H4)
theorem s_tupE {ys : List V} {c : Nat} {Pn : List V → Hp → Prop} {v : V} (z : ys.length < c) (z2 : c ≤ 1000000) (h : Pn (ys ++ [v]) H) : kTupE ys c Pn v H := ⟨by rw [sizeLine_eq]; omega, True.intro, fun _ => ⟨by rw [List.length_append]; exact z, h⟩⟩
theorem tup_w (w : Walk J n G Y) (hn : n ≤ 100000) (Pv : Nat → List V → Hp → Prop) (h0 : Pv 0 [] H) (hG : ∀ i ys H, i ≤ n → Pv i ys H → G H)
    (hs : ∀ i x H H' (ys : List V), i < n → ys.length < i + 1 → i + 1 ≤ 1000000 → Pv i ys H → Y i H x H' → g x (wipe σ vs) H' fun σ2 H2 => wipe σ2 vs = wipe σ vs ∧ tt σ2 H2 fun b H3 => if b = true then te σ2 H3 (kTupE ys (i + 1) (Pv (i + 1))) else ys.length ≤ i + 1 ∧ Pv (i + 1) ys H3)
    (hd : ∀ ys H, Pv n ys H → ∀ l, H l = none → Q (.ref l) (upd H l (.tup ys))) : kTupW g tt te vs σ Q J H := by
  refine ⟨fun i m ys H => m = n - i ∧ i ≤ n ∧ ys.length ≤ i ∧ Pv i ys H, ⟨n, by simp, Nat.zero_le _, Nat.le_refl _, h0⟩, ?_⟩
  rintro i m ys H ⟨rfl, hi, hy, p⟩
  by_cases hlt : i < n
  · refine .inr ⟨w.goes i H hlt (hG i ys H hi p), fun ys H => ys.length ≤ i + 1 ∧ Pv (i + 1) ys H, fun ys' H' p' => ⟨n - (i + 1), by omega, rfl, hlt, p'.1, p'.2⟩, fun x H' y => ?_⟩
    exact hs i x H H' ys hlt (by omega) (by omega) p (w.yields i H x H' hlt (hG i ys H hi p) y)
  · have e : i = n := by omega
    subst e
    exact .inl ⟨w.stops H (hG _ ys H hi p), hd ys H p⟩
/-! rows of scalars -/
def Sc.d : Sc → PyData
  | .i n => .int n
  | .s x => .str x
  | .b k => .bool k
theorem Sc.td (x : Sc) : TD K H x.v x.d := by
  cases x with
  | i n => exact .int n
  | s z => exact .str z
  | b k => exact .bl k
theorem Sc.tds : ∀ d : List Sc, TDs K H (d.map Sc.v) (d.map Sc.d)
  | [] => .nil
  | x :: r => .cons x.td (Sc.tds r)
theorem TupS.mono {H' : Hp} (s : Stb H H') : ∀ {xs ks}, TupS K H xs ks → TupS K H' xs ks
  | _, _, .nil => .nil
  | _, _, .cons a r => .cons (s.sqt a) (r.mono s)
theorem TupS.snoc {t : Addr} {d : List Sc} (h : SqT K H t (d.map Sc.v)) : ∀ {xs ks}, TupS K H xs ks → TupS K H (xs ++ [.ref t]) (ks ++ [d])
  | _, _, .nil => .cons h .nil
  | _, _, .cons a r => .cons a (r.snoc h)
theorem TupS.tds : ∀ {xs ks}, TupS K H xs ks → TDs K H xs (ks.map fun d => .tuple (d.map Sc.d))
  | _, _, .nil => .nil
  | _, _, .cons a r => .cons (.tup a (Sc.tds _)) r.tds
theorem argBest_le {bt : Nat → Nat → Bool} : ∀ k, PySem.argBest bt k ≤ k
  | 0 => Nat.le_refl _
  | k + 1 => by
    unfold PySem.argBest
    split
    · exact Nat.le_refl _
    · exact Nat.le_succ_of_le (argBest_le k)
theorem minIx_lt {ks : List (List Sc)} (h : 0 < ks.length) : minIx ks < ks.length := by
  have := argBest_le (bt := fun i j => lexS (ks.getD i []) (ks.getD j [])) (ks.length - 1)
  unfold minIx
  omega
end
end Ph
namespace Ph
open PySem PySem.Spec PyProof.Rows L2
theorem Pick.app {x : Addr × HO} {L L' : List (Addr × HO)} (h : Pick x L L') : ∀ {M : List (Addr × HO)}, Pick x (M ++ L) (M ++ L')
  | [] => h
  | _ :: _ => .there (Pick.app h)
theorem Up.app {a : Addr} {o' : HO} {L L' : List (Addr × HO)} (h : Up a o' L L') : ∀ {M : List (Addr × HO)}, Up a o' (M ++ L) (M ++ L')
  | [] => h
  | _ :: _ => .there (Up.app h)
theorem mem_app {α : Type} {x : α} {M N : List α} (h : x ∈ N) : x ∈ M ++ N := List.mem_append_right _ h
section
variable {K : PySem.W.Frag} {B H : Hp} {L L' T : List (Addr × HO)} {I J : List Im} {x : Addr × HO}
theorem Ctx.unpick (p : Pick x T L) (h : Ctx K B H (x :: L) I) : Ctx K B H T I := h.perm p.perm.symm
theorem Ctx.keepI (h : Ctx K B H L J) (s : ∀ j, j ∈ I → j ∈ J) : Ctx K B H L I := ⟨h.lay, fun j hj => h.im j (s j hj), h.sb⟩
end
end Ph
namespace Ph
open PySem PySem.Spec PyProof.Rows L2
/-- the block M stands in L; the rest is L' -/
inductive Blk (M : List (Addr × HO)) : List (Addr × HO) → List (Addr × HO) → Prop
  | here {N : List (Addr × HO)} : Blk M (M ++ N) N
  | there {y : Addr × HO} {L L' : List (Addr × HO)} : Blk M L L' → Blk M (y :: L) (y :: L')
  | over {P L L' : List (Addr × HO)} : Blk M L L' → Blk M (P ++ L) (P ++ L')
theorem Blk.perm {M : List (Addr × HO)} : ∀ {L L' : List (Addr × HO)}, Blk M L L' → L.Perm (M ++ L')
  | _, _, .here => List.Perm.refl _
  | _, _, .there h => (List.Perm.cons _ h.perm).trans List.perm_middle.symm
  | _, _, .over (P := P) (L' := L') h => by
    refine (List.Perm.append_left P h.perm).trans ?_
    rw [← List.append_assoc, ← List.append_assoc]
    exact List.Perm.append_right L' List.perm_append_comm
inductive Perm3 : List (Addr × HO) → List (Addr × HO) → Prop
  | nil {F : List (Addr × HO)} : Perm3 F F
  | cons {x : Addr × HO} {L L' T : List (Addr × HO)} : Pick x L L' → Perm3 L' T → Perm3 L (x :: T)
  | blk {M L L' T : List (Addr × HO)} : Blk M L L' → Perm3 L' T → Perm3 L (M ++ T)
theorem Perm3.lay : ∀ {L T : List (Addr × HO)}, Perm3 L T → L.Perm T
  | _, _, .nil => List.Perm.refl _
  | _, _, .cons p h => p.perm.trans (List.Perm.cons _ h.lay)
  | _, _, .blk p h => p.perm.trans (List.Perm.append_left _ h.lay)
end Ph
namespace Ph
open PySem PySem.Spec PyProof.Rows L2
inductive Sel3 : List (Addr × HO) → List (Addr × HO) → Prop
  | refl {L : List (Addr × HO)} : Sel3 L L
  | cons {x : Addr × HO} {L L' T : List (Addr × HO)} : Pick x L L' → Sel3 L' T → Sel3 L (x :: T)
  | blk {M L L' T : List (Addr × HO)} : Blk M L L' → Sel3 L' T → Sel3 L (M ++ T)
  | skip {x : Addr × HO} {L T : List (Addr × HO)} : Sel3 L T → Sel3 (x :: L) T
  | skipB {M L T : List (Addr × HO)} : Sel3 L T → Sel3 (M ++ L) T
  | none {L : List (Addr × HO)} : Sel3 L []
theorem Sel3.perm : ∀ {L T}, Sel3 L T → ∃ J, L.Perm (T ++ J)
  | L, _, .refl => ⟨[], by rw [List.append_nil]⟩
  | _, _, .cons p s => by
    obtain ⟨J, h⟩ := s.perm
    exact ⟨J, p.perm.trans (List.Perm.cons _ h)⟩
  | _, _, .blk p s => by
    obtain ⟨J, h⟩ := s.perm
    exact ⟨J, p.perm.trans (by rw [List.append_assoc]; exact List.Perm.append_left _ h)⟩
  | _, _, .skip s => by
    obtain ⟨J, h⟩ := s.perm
    exact ⟨_ :: J, (List.Perm.cons _ h).trans List.perm_middle.symm⟩
  | _, _, .skipB (M := M) (T := T) s => by
    obtain ⟨J, h⟩ := s.perm
    refine ⟨M ++ J, (List.Perm.append_left M h).trans ?_⟩
    rw [← List.append_assoc, ← List.append_assoc]
    exact List.Perm.append_right J List.perm_append_comm
  | L, _, .none => ⟨L, List.Perm.refl _⟩
theorem Sel3.lay {H : Hp} {L T : List (Addr × HO)} (s : Sel3 L T) (y : Lay H L) : Lay H T := by
  obtain ⟨J, h⟩ := s.perm
  have y := y.perm h
  exact ⟨(List.nodup_append.mp (by rw [← List.map_append]; exact y.nd)).1, fun p hp => y.at_ p (List.mem_append_left _ hp)⟩
end Ph
namespace Ph
open PySem PySem.Spec PyProof.Rows L2
section
variable {α : Type} {f : α → V} {K : PySem.W.Frag} {B H : Hp} {L L' F : List (Addr × HO)} {I : List Im} {Q : VK} {d : Addr}
theorem s_ixKF {o : Obj} {l : List (Str × α)} {x : Str} {v : α} (m : H d = some (.frz o (.dK (mK f l)))) (e : look l x = some v) (q : Q (f v) H) : rIxU K (.ref d) (.str x) H Q :=
  .inr (.inr (.inr ⟨d, f v, rfl, .inl ⟨_, .inr x, .inr ⟨o, m⟩, rfl, by rw [valV_mK, e]; rfl⟩, q⟩))
theorem DNo.of {k : Key} : ∀ {r : List (Key × V)}, (∀ x, x ∈ r → ¬ x.1 = k) → DNo k r
  | [], _ => .nil
  | _ :: _, h => .there (h _ List.mem_cons_self) (DNo.of fun x m => h x (List.mem_cons_of_mem _ m))
theorem RDis.mk : ∀ {l : List (Str × α)} {acc : List (Key × V)}, (l.map (·.1)).Nodup → (∀ p, p ∈ l → ∀ x, x ∈ acc → ¬ x.1 = .inr p.1) → RDis acc (mK f l)
  | [], _, _, _ => .nil
  | p :: r, acc, nd, h => by
    rw [List.map_cons, List.nodup_cons] at nd
    refine .cons (DNo.of (h p List.mem_cons_self)) (RDis.mk nd.2 fun q m x hx => ?_)
    rcases List.mem_cons.mp hx with rfl | hx
    · intro z
      have z : p.1 = q.1 := Sum.inr.inj z
      exact nd.1 (by rw [z]; exact List.mem_map.mpr ⟨q, m, rfl⟩)
    · exact h q (List.mem_cons_of_mem _ m) x hx
theorem merge_mK {l : List (Str × α)} (nd : (l.map (·.1)).Nodup) : mergeK [] (mK f l) = mK f l := by
  have e := (RDis.mk (f := f) (acc := []) nd (fun _ _ x hx => by cases hx)).ok
  rw [List.reverse_nil, List.nil_append] at e
  exact e
theorem s_dictP {ps : List Addr} {l : List (Str × α)} (hC : Ctx K B H L I) (m : H d = some (.lst (ps.map V.ref))) (h : Paired (fun p kv => SqT K H p [kV kv.1, kv.2]) ps (mK f l)) (nd : (l.map (·.1)).Nodup) (k : ∀ p H1, Ctx K B H1 ((p, .dK (mK f l)) :: L) I → Q (.ref p) H1) : rDictU K [.ref d] H Q :=
  .inl ⟨d, ps, mK f l, rfl, SqL.of m, h, fun p hp => by rw [merge_mK nd]; exact k p _ (hC.newM hp rfl)⟩
theorem Paired.snoc {α β : Type} {G : α → β → Prop} {x : α} {y : β} : ∀ {l : List α} {m : List β}, Paired G l m → G x y → Paired G (l ++ [x]) (m ++ [y])
  | _, _, .nil, h => .cons h .nil
  | _, _, .cons a t, h => .cons a (Paired.snoc t h)
/-- the lock goes; the heap stays known -/
theorem s_unlE {od : Obj} {u : HO} {v : V} {H1 H2 : Hp} {L2' : List (Addr × HO)} {J : List Im} (hC0 : Ctx K B H L I) (m : Pick (d, u) L L') (e1 : Stb H H1) (hC : Ctx K H1 H2 L2' J) (f : H2 d = some (.frz od u)) (k : Ctx K B (upd H2 d u) ((d, u) :: L2') I → Q v (upd H2 d u)) : kUnl d od u Q v H2 := ⟨f, k (unlock hC0 m e1 hC f)⟩
theorem sqt_unl {od : Obj} {u : HO} {p : Addr} {xs : List V} (f : H d = some (.frz od u)) (h : SqT K H p xs) : SqT K (upd H d u) p xs := by
  rcases h with (h | ⟨o, h⟩) | h
  · by_cases c : p = d
    · subst c
      rw [f] at h
      cases h
    · exact .inl (.inl (by rw [upd_ne c]; exact h))
  · by_cases c : p = d
    · subst c
      rw [f] at h
      cases h
      exact .inl (.inl upd_same)
    · exact .inl (.inr ⟨o, by rw [upd_ne c]; exact h⟩)
  · exact .inr h
end
end Ph
namespace Ph
open PySem PySem.Spec PyProof.Rows L2
theorem cps_anti {a b : Str} (h1 : ¬ a.cps.toList < b.cps.toList) (h2 : ¬ b.cps.toList < a.cps.toList) : a = b := by
  have e : a.cps.toList = b.cps.toList := List.le_antisymm (List.not_lt.mp h2) (List.not_lt.mp h1)
  cases a; cases b
  exact congrArg _ (Array.toList_inj.mp e)
def Sc.ltT : Sc → Sc → Bool
  | .i m, .i n => decide (m < n)
  | .s x, .s y => decide (x.cps.toList < y.cps.toList)
  | .b p, .b q => !p && q
  | .i _, _ => true
  | .s _, .b _ => true
  | _, _ => false
theorem ltT_like {x y : Sc} (h : x.like y = true) : x.ltT y = x.lt y := by
  cases x <;> cases y <;> first | rfl | cases h
theorem ltT_tri {x y : Sc} (h1 : x.ltT y = false) (h2 : y.ltT x = false) : x = y := by
  cases x with
  | i m => cases y with
    | i n =>
      have a := of_decide_eq_false h1
      have b := of_decide_eq_false h2
      rw [show m = n from by omega]
    | s _ => cases h1
    | b _ => cases h1
  | s u => cases y with
    | i _ => cases h2
    | s v => rw [cps_anti (of_decide_eq_false h1) (of_decide_eq_false h2)]
    | b _ => cases h1
  | b p => cases y with
    | i _ => cases h2
    | s _ => cases h2
    | b q => revert h1 h2; cases p <;> cases q <;> simp [Sc.ltT]
theorem ltT_asym {x y : Sc} (h : x.ltT y = true) : y.ltT x = false := by
  cases x with
  | i m => cases y with
    | i n =>
      have a := of_decide_eq_true h
      exact decide_eq_false (by omega)
    | s _ => rfl
    | b _ => rfl
  | s u => cases y with
    | i _ => cases h
    | s v => exact decide_eq_false (List.lt_asymm (of_decide_eq_true h))
    | b _ => rfl
  | b p => cases y with
    | i _ => cases h
    | s _ => cases h
    | b q => revert h; cases p <;> cases q <;> simp [Sc.ltT]
theorem ltT_tr {x y z : Sc} (h1 : y.ltT x = false) (h2 : z.ltT y = false) : z.ltT x = false := by
  cases x with
  | i m => cases y with
    | i n => cases z with
      | i o =>
        have a := of_decide_eq_false h1
        have b := of_decide_eq_false h2
        exact decide_eq_false (by omega)
      | s _ => rfl
      | b _ => rfl
    | s _ => cases z with
      | i o => cases h2
      | s _ => rfl
      | b _ => rfl
    | b _ => cases z with
      | i o => cases h2
      | s _ => rfl
      | b _ => rfl
  | s u => cases y with
    | i n => cases h1
    | s v => cases z with
      | i o => cases h2
      | s w =>
        have a := of_decide_eq_false h1
        have b := of_decide_eq_false h2
        exact decide_eq_false (List.not_lt.mpr (List.le_trans (List.not_lt.mp a) (List.not_lt.mp b)))
      | b _ => rfl
    | b _ => cases z with
      | i o => cases h2
      | s _ => cases h2
      | b _ => rfl
  | b p => cases y with
    | i n => cases h1
    | s v => cases h1
    | b q => cases z with
      | i o => cases h2
      | s _ => cases h2
      | b r => revert h1 h2; cases p <;> cases q <;> cases r <;> simp [Sc.ltT]
def lexT : List Sc → List Sc → Bool
  | x :: r, y :: t => if x = y then lexT r t else x.ltT y
  | [], _ :: _ => true
  | _, [] => false
theorem lexT_like : ∀ {x y : List Sc}, likeL x y = true → lexT x y = lexS x y
  | [], [], _ => rfl
  | x :: r, y :: t, h => by
    simp only [likeL, Bool.and_eq_true] at h
    simp only [lexT, lexS]
    rw [lexT_like h.2, ltT_like h.1]
  | [], _ :: _, h => by cases h
  | _ :: _, [], h => by cases h
theorem lexT_asym : ∀ {x y : List Sc}, lexT x y = true → lexT y x = false
  | [], [], h => by cases h
  | [], _ :: _, _ => rfl
  | _ :: _, [], h => by cases h
  | x :: r, y :: t, h => by
    simp only [lexT] at h ⊢
    by_cases e : x = y
    · rw [if_pos e] at h
      rw [if_pos e.symm]
      exact lexT_asym h
    · rw [if_neg e] at h
      rw [if_neg fun z => e z.symm]
      exact ltT_asym h
theorem lexT_tr : ∀ {x y z : List Sc}, lexT y x = false → lexT z y = false → lexT z x = false
  | [], _, [], _, _ => rfl
  | [], _, _ :: _, _, _ => rfl
  | _ :: _, [], _, h1, _ => by cases h1
  | _ :: _, _ :: _, [], _, h2 => by cases h2
  | x :: r, y :: t, z :: w, h1, h2 => by
    simp only [lexT] at h1 h2 ⊢
    by_cases e1 : y = x
    · subst e1
      rw [if_pos rfl] at h1
      by_cases e2 : z = y
      · subst e2
        rw [if_pos rfl] at h2 ⊢
        exact lexT_tr h1 h2
      · rw [if_neg e2] at h2 ⊢
        exact h2
    · rw [if_neg e1] at h1
      by_cases e2 : z = y
      · subst e2
        rw [if_neg e1]
        exact h1
      · rw [if_neg e2] at h2
        by_cases e3 : z = x
        · subst e3
          exact absurd (ltT_tri h2 h1) e2
        · rw [if_neg e3]
          exact ltT_tr h1 h2
theorem lexT_refl : ∀ {x : List Sc}, lexT x x = false
  | [] => rfl
  | x :: r => by rw [lexT, if_pos rfl]; exact lexT_refl
/-- the scalar a value is -/
def decSc : Value → Option Sc
  | .int n _ => some (.i n)
  | .str z _ => some (.s z)
  | .bool k => some (.b k)
  | _ => none
theorem dec_rel {x : Sc} {u : Value} (h : RelV x.v u) : decSc u = some x := by
  cases x with
  | i n => obtain ⟨t, rfl⟩ := h; rfl
  | s z => obtain ⟨t, rfl⟩ := h; rfl
  | b k => obtain rfl : u = .bool k := h; rfl
/-- the row that stands at a value -/
def rowOf (g : Heap) : Value → List Sc
  | .ref t => match g.get? t with
    | some o => match o.data with
      | .seq its _ => its.toList.filterMap decSc
      | _ => []
    | none => []
  | _ => []
theorem rel_dec : ∀ {d : List Sc} {its : List Value}, its.length = d.length → (∀ (j : Nat) (x : Sc), d[j]? = some x → ∃ u, its[j]? = some u ∧ RelV x.v u) → its.filterMap decSc = d
  | [], [], _, _ => rfl
  | [], _ :: _, h, _ => by cases h
  | _ :: _, [], h, _ => by cases h
  | x :: d, u :: its, h, r => by
    obtain ⟨u', e, ru⟩ := r 0 x rfl
    cases e
    rw [List.filterMap_cons, dec_rel ru]
    simp only
    rw [rel_dec (d := d) (its := its) (by rw [List.length_cons, List.length_cons] at h; omega) fun j y e => r (j + 1) y e]
/-- a row: its tuple and what it holds -/
def RowAt (g : Heap) (v : Value) (d : List Sc) : Prop := ∃ (t : Addr) (o : Obj) (its : List Value) (n : Nat), v = .ref t ∧ g.get? t = some o ∧ o.cls = .type "tuple" ∧ o.data = .seq its.toArray n ∧ its.length = d.length ∧ ∀ (j : Nat) (x : Sc), d[j]? = some x → ∃ u, its[j]? = some u ∧ RelV x.v u
theorem RowAt.row {g : Heap} {v : Value} {d : List Sc} (h : RowAt g v d) : rowOf g v = d := by
  obtain ⟨t, o, its, n, rfl, ho, hc, hd, hl, hr⟩ := h
  unfold rowOf
  simp only [ho, hd]
  exact rel_dec hl hr
theorem RowAt.keeps {g g' : Heap} {v : Value} {d : List Sc} (h : RowAt g v d) (k : ∀ b o, g.get? b = some o → o.cls = .type "tuple" → g'.get? b = some o) : RowAt g' v d := by
  obtain ⟨t, o, its, n, e, ho, hc, r⟩ := h
  exact ⟨t, o, its, n, e, k _ _ ho hc, hc, r⟩
section
variable {X : Cx} {prog : Program} {w : World} {A : Around} {s : Shared}
theorem kat_rows : ∀ (as bs : List Sc) (ps qs : List Value) (i : Nat), likeL as bs = true → ps.length = as.length → qs.length = bs.length → (∀ (j : Nat) (x : Sc), as[j]? = some x → ∃ u, ps[j]? = some u ∧ RelV x.v u) → (∀ (j : Nat) (x : Sc), bs[j]? = some x → ∃ u, qs[j]? = some u ∧ RelV x.v u) → (∀ c, c ∈ as → c.nob = true) → (i = 0 → ∃ n, as[0]? = some (.i n)) →
    PySem.W.KatLex prog w A true false (fun r s' => s' = s ∧ r = lexT as bs) (ps.zip qs) i s
  | [], [], [], [], _, _, _, _, _, _, _, _ => PySem.W.kat_nil ⟨rfl, rfl⟩
  | x :: as, y :: bs, p :: ps, q :: qs, i, hk, hp, hq, rp, rq, nb, h0 => by
    simp only [likeL, Bool.and_eq_true] at hk
    obtain ⟨u, e1, r1⟩ := rp 0 x rfl
    obtain ⟨v, e2, r2⟩ := rq 0 y rfl
    cases e1
    cases e2
    refine PySem.W.kat_cons (sc_eqAt r1 r2 hk.1 prog w _ _ ?_)
    refine PySem.W.kat_go (fun e => ?_) (fun e => ?_)
    · have e := of_decide_eq_true e
      refine PySem.W.kat_yes ?_
      have e3 : lexT (x :: as) (y :: bs) = lexT as bs := by rw [lexT, if_pos e]
      rw [e3]
      exact kat_rows as bs ps qs (i + 1) hk.2 (by rw [List.length_cons, List.length_cons] at hp; omega) (by rw [List.length_cons, List.length_cons] at hq; omega) (fun j c h => rp (j + 1) c h) (fun j c h => rq (j + 1) c h) (fun c h => nb c (List.mem_cons_of_mem _ h)) (fun z => by omega)
    · have e := of_decide_eq_false e
      have e3 : lexT (x :: as) (y :: bs) = x.lt y := by rw [lexT, if_neg e, ltT_like hk.1]
      rw [e3]
      refine PySem.W.kat_no ?_
      cases i with
      | zero =>
        obtain ⟨n, hn⟩ := h0 rfl
        cases hn
        cases y with
        | i m =>
          obtain ⟨t1, rfl⟩ := r1
          obtain ⟨t2, rfl⟩ := r2
          exact PyProof.Rows.oneLt_int ⟨rfl, rfl⟩
        | s _ => cases hk.1
        | b _ => cases hk.1
      | succ i => exact PySem.W.kat_one _ _ (sc_ltAt r1 r2 hk.1 (nb x List.mem_cons_self) prog w _ _ ⟨rfl, rfl⟩)
theorem firstsR {h : Heap} : ∀ {vs : List Value}, (∀ v, v ∈ vs → ∃ d n, RowAt h v d ∧ d[0]? = some (.i n)) → ∃ fs : List Value, PySem.W.KatTups h vs fs ∧ fs.length = vs.length ∧ ∀ f ∈ fs, ∃ x t, f = Value.int x t
  | [], _ => ⟨[], PySem.W.KatTups.nil, rfl, fun _ hm => by simp at hm⟩
  | v :: vs, hp => by
    obtain ⟨fs, h1, h2, h3⟩ := firstsR (vs := vs) fun v' hm => hp v' (List.mem_cons_of_mem _ hm)
    obtain ⟨d, n, ⟨a, o, its, m, e, ho, hc, hd, hl, hr⟩, h0⟩ := hp v List.mem_cons_self
    subst e
    obtain ⟨u, e1, r1⟩ := hr 0 _ h0
    obtain ⟨t, rfl⟩ := r1
    refine ⟨.int n t :: fs, PySem.W.KatTups.cons ho hc hd (by rw [List.getElem?_toArray]; exact e1) h1, by rw [List.length_cons, List.length_cons, h2], fun f hm => ?_⟩
    rcases List.mem_cons.mp hm with rfl | hm
    · exact ⟨n, t, rfl⟩
    · exact h3 f hm
theorem rows_cmp {vs : List Value} {k : Value → List Sc} (hp : ∀ v, v ∈ vs → RowAt s.heap v (k v)) (al : allLike (vs.map k)) (fi : ∀ v, v ∈ vs → ∃ n, (k v)[0]? = some (.i n)) : SrtO.Cmp prog w A s (tuples' true) (fun p => p.1 ∈ vs) (SrtO.lt2 fun v u => lexT (k v) (k u)) := by
  intro p q hm hm'
  obtain ⟨a, o, its, n, e, ho, hc, hd, hl, hr⟩ := hp _ hm
  obtain ⟨a', o', its', n', e', ho', hc', hd', hl', hr'⟩ := hp _ hm'
  have al1 := al _ (List.mem_map.mpr ⟨_, hm, rfl⟩)
  have lk := al1.2 _ (List.mem_map.mpr ⟨_, hm', rfl⟩)
  show wpAny (model prog w) A (keyLt' (tuples' true) p.1 q.1) (fun r s' => s' = s ∧ r = lexT (k p.1) (k q.1)) (fun _ _ => False) s
  have fi1 := fi _ hm
  generalize k p.1 = d at hl hr lk al1 fi1 ⊢
  generalize k q.1 = d' at hl' hr' lk ⊢
  rw [e, e']
  refine PySem.W.kat_lt ho hd ho' hd' ?_
  rw [show decide (its.toArray.size < its'.toArray.size) = false from decide_eq_false (by rw [List.size_toArray, List.size_toArray, hl, hl', likeL_len lk]; exact Nat.lt_irrefl _)]
  exact kat_rows d d' its its' 0 lk hl hl' hr hr' al1.1 fun _ => fi1
theorem rows_swo (k : Value → List Sc) : SrtO.Swo fun v u => lexT (k v) (k u) := ⟨fun _ _ h => lexT_asym h, fun _ _ _ h1 h2 => lexT_tr h1 h2⟩
theorem rows_sortable {a : Addr} {vs : List Value} {k : Value → List Sc} (h0 : 0 < vs.length) (hp : ∀ v, v ∈ vs → RowAt s.heap v (k v)) (al : allLike (vs.map k)) (fi : ∀ v, v ∈ vs → ∃ n, (k v)[0]? = some (.i n)) (ha : ∀ o, s.heap.get? a = some o → o.cls ≠ .type "tuple") : SrtO.SortableO prog w A s a vs fun v u => lexT (k v) (k u) := by
  intro h' keep
  have hp' : ∀ v, v ∈ vs → RowAt h' v (k v) := fun v hm => (hp v hm).keeps fun b o e c => keep b o (fun z => by subst z; exact ha o e c) e
  obtain ⟨fs, h1, h2, h3⟩ := firstsR (h := h') (vs := vs) fun v hm => by
    obtain ⟨n, hn⟩ := fi v hm
    exact ⟨_, n, hp' v hm, hn⟩
  refine ⟨tuples' true, fun Q E hq => ?_, rows_cmp (s := { s with heap := h' }) hp' al fi⟩
  refine PySem.W.kat_kind (T := .type "int") h1 (by omega) (fun f hm => ?_) (by rfl) ?_
  · obtain ⟨x, t, rfl⟩ := h3 f hm
    exact PySem.W.Looks.now
  · have e : (Value.type "int" != Value.type "tuple") = true := by first | decide +kernel | rfl | decide
    rw [e]
    exact hq
theorem sorted_rows {l : Addr} {vs : List Value} {k : Value → List Sc} {Q : Value → Shared → Prop} {E : Value → Shared → Prop} (hl : s.heap.IsList l vs.toArray) (hz : vs.length ≤ sizeLine) (hp : ∀ v, v ∈ vs → RowAt s.heap v (k v)) (al : allLike (vs.map k)) (fi : ∀ v, v ∈ vs → ∃ n, (k v)[0]? = some (.i n))
    (h : ∀ (h' : Heap) (d : Addr) (out : List Value), SrtO.Srtd (fun v u => lexT (k v) (k u)) out → SrtO.Stb (fun v u => lexT (k v) (k u)) out vs → (∀ b o, s.heap.get? b = some o → h'.get? b = some o) → s.heap.objs.size ≤ d → (∃ n, h'.get? d = some (seqObj "list" out.toArray n)) → Q (.ref d) { s with heap := h' }) :
    wpAny (model prog w) A (call (.builtin "sorted") [.ref l]) Q E s := by
  refine SrtO.sorted_ord (rows_swo k) hl hz (fun h2 h₁ a ha kk => ?_) fun out hs hb => ?_
  · refine rows_sortable (s := { s with heap := h₁ }) (by omega) (fun v hm => (hp v hm).keeps fun b o e _ => (kk b o e).2) al fi fun o e => ?_
    have e' : some o = some (seqObj "list" vs.toArray 0) := e.symm.trans ha
    cases e'
    intro c
    exact absurd (Value.type.inj c) (by decide)
  · exact h _ _ out hs hb (fun b o e => sortedAll_old e) (Nat.le_succ _) (sortedAll_at s.heap vs out.toArray)
theorem row_at_inv {pins : List (Addr × Obj)} {σ : L2.St} {H : Hp} {t : Addr} {d : List Sc} (I : Inv X pins σ H s) (h : SqT X.K H t (d.map Sc.v)) : RowAt s.heap (.ref t) d := by
  obtain ⟨its, ⟨o, e, c, n, hd⟩, l, r⟩ := row_items I h
  exact ⟨t, o, its, n, rfl, e, c, hd, l, r⟩
theorem rows_of {pins : List (Addr × Obj)} {σ : L2.St} {H : Hp} (I : Inv X pins σ H s) : ∀ {xs : List V} {ks : List (List Sc)} {its : List Value}, Vals xs its → TupS X.K H xs ks → its.map (rowOf s.heap) = ks ∧ ∀ v, v ∈ its → ∃ t, v = .ref t ∧ RowAt s.heap v (rowOf s.heap v) ∧ SqT X.K H t ((rowOf s.heap v).map Sc.v)
  | [], ks, _, .nil, h => by cases h; exact ⟨rfl, fun _ h => by cases h⟩
  | x :: xs, ks, u :: its, .cons r rv, h => by
    cases h with
    | cons a ta =>
    rename_i t d ks
    obtain rfl : u = Value.ref t := r
    obtain ⟨h1, h2⟩ := rows_of I rv ta
    have ra := row_at_inv I a
    refine ⟨by rw [List.map_cons, ra.row, h1], fun v hv => ?_⟩
    rcases List.mem_cons.mp hv with rfl | hv
    · refine ⟨t, rfl, ?_, ?_⟩
      · rw [ra.row]; exact ra
      · rw [ra.row]; exact a
    · exact h2 v hv
def rSortTS (K : PySem.W.Frag) : List V → Hp → VK → Prop := fun vs H Q => ∃ (a : Addr) (xs : List V) (ks : List (List Sc)), vs = [.ref a] ∧ SqL K H a xs ∧ TupS K H xs ks ∧ allLike ks ∧ (∀ d, d ∈ ks → ∃ n, d[0]? = some (.i n)) ∧
  ∀ (ys : List V) (ks' : List (List Sc)) (p : Addr), TupS K H ys ks' → ks'.Perm ks → ks'.Pairwise (fun x y => lexS y x = false) → H p = none → Q (.ref p) (upd H p (.lst ys))
theorem tups_back {H : Hp} {K : PySem.W.Frag} {g : Heap} : ∀ {out : List Value}, (∀ v, v ∈ out → ∃ t, v = .ref t ∧ SqT K H t ((rowOf g v).map Sc.v)) → TupS K H (out.map backV) (out.map (rowOf g))
  | [], _ => .nil
  | v :: out, h => by
    obtain ⟨t, rfl, a⟩ := h v List.mem_cons_self
    exact .cons a (tups_back fun u hu => h u (List.mem_cons_of_mem _ hu))
theorem cr_sortTS : CallR X (.builtin "sorted") (rSortTS X.K) := by
  intro pins s σ H vs us Q I r h
  obtain ⟨a, xs, ks, rfl, hs, ht, al, fi, q⟩ := h
  obtain ⟨its, rv, hl, hz⟩ := I.list hs
  obtain ⟨u, rfl, ru⟩ := vals1 r
  obtain rfl : u = Value.ref a := ru
  obtain ⟨e1, e2⟩ := rows_of I rv ht
  refine sorted_rows (k := rowOf s.heap) hl.isList (by rw [← rv.length]; exact hz) (fun v hv => ?_) (by rw [e1]; exact al) (fun v hv => fi _ (by rw [← e1]; exact List.mem_map.mpr ⟨v, hv, rfl⟩)) fun h' d out h1 h2 kp hd hn => ?_
  · obtain ⟨t, _, ra, _⟩ := e2 v hv
    exact ra
  · have h3 : ∀ u ∈ out, ∃ a, u = Value.ref a := fun u hu => by
      obtain ⟨t, e, _⟩ := e2 u (h2.perm.mem_iff.mp hu)
      exact ⟨t, e⟩
    obtain ⟨n, hn⟩ := hn
    have pm : (out.map (rowOf s.heap)).Perm ks := by rw [← e1]; exact h2.perm.map _
    refine ⟨.ref d, upd H d (.lst (out.map backV)), I.laid (t' := s.toks) kp hd ⟨?_, out, n, vals_back h3, hn⟩, rfl, q _ _ d (tups_back fun v hv => ?_) pm ?_ (I.hok.fresh hd)⟩
    · rw [List.length_map, h2.len, ← rv.length]
      exact hz
    · obtain ⟨t, e, _, a⟩ := e2 v (h2.perm.mem_iff.mp hv)
      exact ⟨t, e, a⟩
    · have h4 : (out.map (rowOf s.heap)).Pairwise (fun x y => lexT y x = false) := List.pairwise_map.mpr h1
      refine List.Pairwise.imp_of_mem (fun {x y} hx hy h => ?_) h4
      rw [← lexT_like ((al y (pm.mem_iff.mp hy)).2 x (pm.mem_iff.mp hx))]
      exact h
end
end Ph
namespace Ph
open PySem PySem.Spec PyProof.Rows L2
def rSortV (K : PySem.W.Frag) : List V → Hp → VK → Prop := fun vs H Q => rSortU K vs H Q ∨ rSortTS K vs H Q
def rTupIx (K : PySem.W.Frag) : V → List V → Hp → VK → Prop := fun x xs H Q => ∃ p, ∃ ys : List Str, ∃ z j, x = .ref p ∧ xs = [.str z] ∧ SqT K H p (ys.map V.str) ∧ ys[j]? = some z ∧ (∀ m, m < j → ys[m]? ≠ some z) ∧ Q (.int (j : Nat)) H
section
variable {X : Cx}
theorem u_sortedV (hc : X.calm = true) : CallR X (.builtin "sorted") (rSortV X.K) := (u_sorted hc).or cr_sortTS
theorem mt_tupIx : MtR X "tuple.index" (rTupIx X.K) := mt_tup_index
end
theorem idxOf_first {α : Type} [DecidableEq α] {x : α} : ∀ {l : List α}, x ∈ l → l[l.idxOf x]? = some x ∧ ∀ m, m < l.idxOf x → l[m]? ≠ some x
  | [], h => by cases h
  | y :: l, h => by
    by_cases e : y = x
    · subst e
      rw [List.idxOf_cons_self]
      exact ⟨rfl, fun m hm => absurd hm (Nat.not_lt_zero m)⟩
    · have h2 : x ∈ l := by
        rcases List.mem_cons.mp h with q | q
        · exact absurd q.symm e
        · exact q
      obtain ⟨a, b⟩ := idxOf_first h2
      rw [List.idxOf_cons, show (y == x) = false from by simp [e], cond_false]
      refine ⟨a, fun m hm => ?_⟩
      cases m with
      | zero => intro z; exact e (Option.some.inj z)
      | succ m => exact b m (by omega)
section
variable {α : Type} {f : α → V} {K : PySem.W.Frag} {B H : Hp} {L L' F : List (Addr × HO)} {I : List Im} {Q : VK} {σ : L2.St} {d : Addr}
theorem s_sortV {a : Addr} (h : rSortU K [.ref a] H Q) : rSortV K [.ref a] H Q := .inl h
theorem s_sortTS {a : Addr} {xs : List V} {ks : List (List Sc)} (hC : Ctx K B H L I) (m : H a = some (.lst xs)) (ht : TupS K H xs ks) (al : allLike ks) (fi : ∀ d, d ∈ ks → ∃ n, d[0]? = some (.i n))
    (k : ∀ ys ks' p H1, TupS K H ys ks' → ks'.Perm ks → ks'.Pairwise (fun x y => lexS y x = false) → Ctx K B H1 ((p, .lst ys) :: L) I → Q (.ref p) H1) : rSortV K [.ref a] H Q :=
  .inr ⟨a, xs, ks, rfl, SqL.of m, ht, al, fi, fun ys ks' p h1 h2 h3 hp => k ys ks' p _ h1 h2 h3 (hC.newM hp rfl)⟩
theorem s_lidx {a : Addr} {xs : List V} {ys : List Str} {x : Str} (m : H a = some (.lst xs)) (e : xs = ys.map V.str) (hx : x ∈ ys) (q : Q (.int (ys.idxOf x : Nat)) H) : rIndex K (.ref a) [.str x] H Q := by
  subst e
  obtain ⟨h1, h2⟩ := idxOf_first hx
  refine ⟨a, ys.map V.str, .str x, ys.idxOf x, .str x, rfl, rfl, SqL.of m, rfl, by rw [List.all_map]; exact List.all_eq_true.mpr fun _ _ => rfl, by rw [List.getElem?_map, h1]; rfl, by simp [eqV], fun j z hj hz => ?_, q⟩
  rw [List.getElem?_map] at hz
  obtain ⟨y, hy, rfl⟩ := Option.map_eq_some_iff.mp hz
  have : y ≠ x := fun z => h2 j hj (by rw [hy, z])
  simp [eqV, this]
theorem s_tidx {a : Addr} {xs : List V} {ys : List Str} {x : Str} (m : SqT K H a xs) (e : xs = ys.map V.str) (hx : x ∈ ys) (q : Q (.int (ys.idxOf x : Nat)) H) : rTupIx K (.ref a) [.str x] H Q := by
  subst e
  obtain ⟨h1, h2⟩ := idxOf_first hx
  exact ⟨a, ys, x, ys.idxOf x, rfl, rfl, m, h1, h2, q⟩
/-- d.pop(x), x is there -/
def kPop1 (ty : TE) (σ : L2.St) (Q : VK) : VK := fun x H1 => ∃ a, x = .ref a ∧ IsD H1 a ∧ ty σ H1 fun y H2 => ∃ kvs k v, H2 a = some (.dK kvs) ∧ y = kV k ∧ valV kvs k = some v ∧ Q v (upd H2 a (.dK (dropK kvs k)))
def kPop1y (a : Addr) (Q : VK) : VK := fun y H2 => ∃ kvs k v, H2 a = some (.dK kvs) ∧ y = kV k ∧ valV kvs k = some v ∧ Q v (upd H2 a (.dK (dropK kvs k)))
theorem s_pop1 {td ty : TE} (h : td σ H (kPop1 ty σ Q)) : tDPop1 td ty σ H Q := h
theorem s_pop1d {ty : TE} {r : List (Key × V)} (m : H d = some (.dK r)) (h : ty σ H (kPop1y d Q)) : kPop1 ty σ Q (.ref d) H := ⟨d, rfl, .inl ⟨r, .inl m⟩, h⟩
def kPop2 (ty tx : TE) (σ : L2.St) (Q : VK) : VK := fun x H1 => ∃ a, x = .ref a ∧ IsD H1 a ∧ ty σ H1 fun y H2 => tx σ H2 fun z H3 => ∃ kvs k, H3 a = some (.dK kvs) ∧ y = kV k ∧ (∀ v, valV kvs k = some v → Q v (upd H3 a (.dK (dropK kvs k)))) ∧ (valV kvs k = none → Q z H3)
def kPop2z (a : Addr) (y : V) (Q : VK) : VK := fun z H3 => ∃ kvs k, H3 a = some (.dK kvs) ∧ y = kV k ∧ (∀ v, valV kvs k = some v → Q v (upd H3 a (.dK (dropK kvs k)))) ∧ (valV kvs k = none → Q z H3)
def kPop2y (a : Addr) (tx : TE) (σ : L2.St) (Q : VK) : VK := fun y H2 => tx σ H2 (kPop2z a y Q)
theorem s_pop2 {td ty tx : TE} (h : td σ H (kPop2 ty tx σ Q)) : tDPop2 td ty tx σ H Q := h
theorem s_pop2d {ty tx : TE} {r : List (Key × V)} (m : H d = some (.dK r)) (h : ty σ H (kPop2y d tx σ Q)) : kPop2 ty tx σ Q (.ref d) H := ⟨d, rfl, .inl ⟨r, .inl m⟩, h⟩
theorem s_pop2y {tx : TE} {y : V} (h : tx σ H (kPop2z d y Q)) : kPop2y d tx σ Q y H := h
theorem s_pop1v {l : List (Str × α)} {x : Str} {v : α} (hC : Ctx K B H L I) (m : H d = some (.dK (mK f l))) (e : look l x = some v) (u : Up d (.dK (mK f (l.filter fun p => decide (p.1 ≠ x)))) L L') (k : ∀ H1, Ctx K B H1 L' I → Q (f v) H1) : kPop1y d Q (.str x) H :=
  ⟨mK f l, .inr x, f v, m, rfl, by rw [valV_mK, e]; rfl, by rw [dropK_mK]; exact k _ (hC.put u rfl)⟩
theorem s_pop2v {l : List (Str × α)} {x : Str} {v : α} {z : V} (hC : Ctx K B H L I) (m : H d = some (.dK (mK f l))) (e : look l x = some v) (u : Up d (.dK (mK f (l.filter fun p => decide (p.1 ≠ x)))) L L') (k : ∀ H1, Ctx K B H1 L' I → Q (f v) H1) : kPop2z d (.str x) Q z H :=
  ⟨mK f l, .inr x, m, rfl, fun w hw => by
    rw [valV_mK, e] at hw
    cases hw
    rw [dropK_mK]; exact k _ (hC.put u rfl), fun hw => by rw [valV_mK, e] at hw; cases hw⟩
/-- a for under a lock -/
def uN (d : Addr) (od : Obj) (u : HO) (A : L2.St → Hp → Prop) : L2.St → Hp → Prop := fun σ' H' => H' d = some (.frz od u) ∧ A σ' (upd H' d u)
def uV (d : Addr) (od : Obj) (u : HO) (A : VK) : VK := fun v H' => H' d = some (.frz od u) ∧ A v (upd H' d u)
theorem s_lockS {t : TS} {d : Addr} {u : HO} {A Bk Ct : L2.St → Hp → Prop} {Rt : VK} (hC : Ctx K B H L I) (m : Pick (d, u) L L') (mu : Mut (some u))
    (k : ∀ od H1, Stb H H1 → Ctx K H1 H1 L' (.pr (fun H => H d = some (.frz od u)) (fun _ _ s h => s _ _ h rfl) :: I) → t ⟨uN d od u A, uV d od u Rt, uN d od u Bk, uN d od u Ct⟩ σ H1) : tLock t ⟨A, Rt, Bk, Ct⟩ σ H := by
  have hC := hC.pick m
  have e := hC.lay.at_ _ List.mem_cons_self
  refine ⟨d, u, hC.get List.mem_cons_self, mu, fun od => ?_⟩
  have s : Stb H (upd H d (.frz od u)) := Stb.put e.1 e.2
  refine k od _ s ?_
  refine ⟨⟨(List.nodup_cons.mp hC.lay.nd).2, fun p hp => ?_⟩, fun i hi => ?_, Stb.refl _⟩
  · have q := hC.lay.at_ p (List.mem_cons_of_mem _ hp)
    have ne : p.1 ≠ d := hC.lay.ne (u := p.2) hp
    exact ⟨by rw [upd_ne ne]; exact q.1, q.2⟩
  · rcases List.mem_cons.mp hi with rfl | hi
    · exact upd_same
    · exact Im.mono s (hC.im i hi)
theorem s_unN {od : Obj} {u : HO} {A : L2.St → Hp → Prop} {H1 H2 : Hp} {L2' : List (Addr × HO)} {J : List Im} (hC0 : Ctx K B H L I) (m : Pick (d, u) L L') (e1 : Stb H H1) (hC : Ctx K H1 H2 L2' J) (f : H2 d = some (.frz od u)) (k : Ctx K B (upd H2 d u) ((d, u) :: L2') I → A σ (upd H2 d u)) : uN d od u A σ H2 := ⟨f, k (unlock hC0 m e1 hC f)⟩
end
end Ph
namespace Ph
open PySem PySem.Spec PyProof.Rows L2
theorem drop_cons {α : Type} {l : List α} {i : Nat} {e : α} (h : l[i]? = some e) : l.drop i = e :: l.drop (i + 1) := by
  obtain ⟨hi, q⟩ := List.getElem?_eq_some_iff.mp h
  rw [List.drop_eq_getElem_cons hi, q]
theorem take_snoc {α : Type} {l : List α} {i : Nat} {e : α} (h : l[i]? = some e) : l.take (i + 1) = l.take i ++ [e] := by rw [List.take_succ, h]; rfl
theorem split_cons {α : Type} {l : List α} {i : Nat} {e : α} (h : l[i]? = some e) : l = l.take i ++ e :: l.drop (i + 1) := by rw [← drop_cons h, List.take_append_drop]
section
variable {ε : Type} {K : PySem.W.Frag} {B H : Hp} {L L' F : List (Addr × HO)} {I : List Im} {Q : VK} {σ : L2.St} {A Cb Dc : L2.St → Hp → Prop} {Bt : VK} {J : It} {G : Hp → Prop} {Y : Nat → Hp → V → Hp → Prop} {es : List ε} {kf : ε → V} {cg : ε → Addr × HO}
theorem mid_perm {x : Addr × HO} {P M N F : List (Addr × HO)} : (P ++ ((M ++ x :: N) ++ F)).Perm (x :: (P ++ (M ++ (N ++ F)))) := by
  rw [List.append_assoc, List.cons_append]
  refine (List.Perm.append_left P List.perm_middle).trans ?_
  exact List.perm_middle
/-- what a for keeps: S at each turn, with the cells ahead of the things' own, and the facts -/
theorem for_cells {tg : TG} {tb : TS} (w : Walk J es.length G Y) (hY : ∀ i H x H', Y i H x H' → H' = H ∧ ∃ e, es[i]? = some e ∧ x = kf e) (g : ε → ε) (S : Nat → L2.St → List (Addr × HO) → List Im → Prop)
    (hG : ∀ i σ P I H1 M, S i σ P I → Ctx K B H1 (P ++ M) I → G H1) {P : List (Addr × HO)} (h0 : S 0 σ P I) (hC : Ctx K B H (P ++ (es.map cg ++ F)) I)
    (turn : ∀ (i : Nat) e σ P I H1 R (Z : L2.St → Hp → Prop), es[i]? = some e → S i σ P I → Ctx K B H1 (cg e :: (P ++ R)) I → (∀ σ' P' I' H', S (i + 1) σ' P' I' → Ctx K B H' (cg (g e) :: (P' ++ R)) I' → Z σ' H') → tg (kf e) σ H1 fun σ2 H2 => tb ⟨Z, Bt, A, Z⟩ σ2 H2)
    (k : ∀ σ' P' I' H', S es.length σ' P' I' → Ctx K B H' (P' ++ ((es.map g).map cg ++ F)) I' → A σ' H') : kFor tg tb ⟨A, Bt, Cb, Dc⟩ σ J H := by
  refine for_w w (fun i σ H1 => ∃ P I, S i σ P I ∧ Ctx K B H1 (P ++ ((((es.take i).map g ++ es.drop i).map cg) ++ F)) I) ⟨P, I, h0, hC⟩ (fun i σ H1 _ ⟨P, I, hS, hC⟩ => hG i σ P I H1 _ hS hC) ?_ ?_
  · rintro i x σ H1 H2 hi ⟨P, I, hS, hC⟩ hy
    obtain ⟨rfl, e, he, rfl⟩ := hY _ _ _ _ hy
    rw [drop_cons he, List.map_append, List.map_cons] at hC
    refine turn i e σ P I _ _ _ he hS (hC.perm mid_perm) (fun σ' P' I' H' hS' hC' => ⟨P', I', hS', ?_⟩)
    refine hC'.perm ?_
    rw [take_snoc he]
    simp only [List.map_append, List.map_cons, List.map_nil, List.append_assoc, List.cons_append, List.nil_append]
    exact perm_focus.symm
  · rintro σ H1 ⟨P, I, hS, hC⟩
    rw [List.take_length, List.drop_length, List.append_nil] at hC
    exact k σ P I H1 hS hC
/-- a comprehension that reads -/
theorem lc_cells {tg : TG} {tt : TT} {te : TE} {vs : List Nat} (w : Walk J es.length G Y) (hY : ∀ i H x H', Y i H x H' → H' = H ∧ ∃ e, es[i]? = some e ∧ x = kf e) (p : ε → Bool) (dv : ε → PyData) (hz : es.length ≤ 10000) {P : List (Addr × HO)}
    (hG : ∀ H1 M, Ctx K B H1 (M ++ P) I → G H1) (hC : Ctx K B H (P ++ (es.map cg ++ F)) I)
    (turn : ∀ (i : Nat) e H1 R (Zy : VK) (Zn : Hp → Prop), es[i]? = some e → Ctx K H1 H1 (cg e :: (P ++ R)) I → (∀ H2 x J', p e = true → Ctx K H1 H2 (cg e :: (P ++ R)) J' → (∀ j, j ∈ I → j ∈ J') → TD K H2 x (dv e) → Zy x H2) → (∀ H2 J', p e = false → Ctx K H1 H2 (cg e :: (P ++ R)) J' → (∀ j, j ∈ I → j ∈ J') → Zn H2) →
      tg (kf e) (wipe σ vs) H1 fun σ2 H2 => wipe σ2 vs = wipe σ vs ∧ tt σ2 H2 fun b H3 => if b = true then te σ2 H3 Zy else Zn H3)
    (k : ∀ H' D vr, Ctx K B H' ((D, .lst vr) :: (P ++ (es.map cg ++ F))) (.dats vr ((es.filter p).map dv) :: I) → Q (.ref D) H') : kLc tg tt te vs σ Q J H := by
  refine lc_w w hC (fun D i H1 => ∃ vr, Ctx K B H1 ((D, .lst vr) :: (P ++ (es.map cg ++ F))) (.dats vr (((es.take i).filter p).map dv) :: I)) (fun D H1 hC => ⟨[], hC.add (i := .dats [] []) .nil⟩) (fun D i H1 _ ⟨vr, hC⟩ => ?_) ?_ ?_
  · refine hG H1 ((D, .lst vr) :: (es.map cg ++ F)) ⟨hC.lay.perm ?_, fun j hj => hC.im j (List.mem_cons_of_mem _ hj), hC.sb⟩
    exact List.Perm.cons _ List.perm_append_comm
  · rintro i x D H1 H2 hi ⟨vr, hC⟩ hy
    obtain ⟨rfl, e, he, rfl⟩ := hY _ _ _ _ hy
    have hd : TDs K _ vr (((es.take i).filter p).map dv) := hC.dats List.mem_cons_self
    have hl : vr.length ≤ 10000 := by
      rw [hd.length, List.length_map]
      refine Nat.le_trans (List.length_filter_le _ _) ?_
      rw [List.length_take]
      omega
    have hp : ((D, HO.lst vr) :: (P ++ (es.map cg ++ F))).Perm (cg e :: (P ++ ((D, .lst vr) :: ((es.take i).map cg ++ ((es.drop (i + 1)).map cg ++ F))))) := by
      rw [split_cons he, List.map_append, List.map_cons]
      refine (List.Perm.cons _ mid_perm).trans ?_
      refine (List.Perm.swap _ _ _).trans (List.Perm.cons _ ?_)
      rw [← split_cons he]
      exact List.perm_middle.symm
    have hC1 := hC.rebase
    refine turn i e _ _ _ _ he ⟨hC1.lay.perm hp, fun j hj => hC1.im j (List.mem_cons_of_mem _ hj), hC1.sb⟩ (fun H3 x J' hb hC2 hs ht => ?_) (fun H3 J' hb hC2 hs => ⟨vr, ?_⟩)
    · have hC3 : Ctx K B H3 ((D, .lst vr) :: (P ++ (es.map cg ++ F))) (.dats vr (((es.take i).filter p).map dv) :: .dats [x] [dv e] :: I) := ⟨hC2.lay.perm hp.symm, fun j hj => by
        rcases List.mem_cons.mp hj with rfl | hj
        · exact Im.mono hC2.sb (hC.im _ List.mem_cons_self)
        · rcases List.mem_cons.mp hj with rfl | hj
          · exact TDs.cons ht .nil
          · exact hC2.im j (hs j hj), hC.sb.trans hC2.sb⟩
      refine s_app (acc := vr) hC3 (hC3.get List.mem_cons_self) (by omega) .here (fun H4 hC4 => ⟨vr ++ [x], ?_⟩)
      have h1 := TDs.append (hC4.dats (vs := vr) (ds := ((es.take i).filter p).map dv) List.mem_cons_self) (hC4.dats (vs := [x]) (ds := [dv e]) (List.mem_cons_of_mem _ List.mem_cons_self))
      rw [take_snoc he, List.filter_append, List.map_append, show ([e] : List ε).filter p = [e] from by simp [hb]]
      exact (hC4.add (i := .dats (vr ++ [x]) _) h1).keepI (fun j hj => by
        rcases List.mem_cons.mp hj with rfl | hj
        · exact List.mem_cons_self
        · exact List.mem_cons_of_mem _ (List.mem_cons_of_mem _ (List.mem_cons_of_mem _ hj)))
    · rw [take_snoc he, List.filter_append, show ([e] : List ε).filter p = [] from by simp [hb], List.append_nil]
      exact ⟨hC2.lay.perm hp.symm, fun j hj => by
        rcases List.mem_cons.mp hj with rfl | hj
        · exact Im.mono hC2.sb (hC.im _ List.mem_cons_self)
        · exact hC2.im j (hs j hj), hC.sb.trans hC2.sb⟩
  · rintro D H1 ⟨vr, hC⟩
    rw [List.take_length] at hC
    exact k H1 D vr hC
def YE (es : List ε) (kf : ε → V) : Nat → Hp → V → Hp → Prop := fun i H x H' => H' = H ∧ ∃ e, es[i]? = some e ∧ x = kf e
theorem ye {i : Nat} {H H' : Hp} {x : V} (h : YE es kf i H x H') : H' = H ∧ ∃ e, es[i]? = some e ∧ x = kf e := h
theorem walk_lstE {a : Addr} {xs : List V} (hx : xs = es.map kf) : Walk (Itl K a) es.length (fun H => SqL K H a xs) (YE es kf) := by
  subst hx
  have w := walk_list (K := K) (a := a) (xs := es.map kf)
  rw [List.length_map] at w
  refine ⟨w.goes, w.stops, fun i H x H' hi hg h => ?_⟩
  obtain ⟨rfl, q⟩ := w.yields i H x H' hi hg h
  rw [List.getElem?_map] at q
  obtain ⟨e, he, rfl⟩ := Option.map_eq_some_iff.mp q
  exact ⟨rfl, e, he, rfl⟩
theorem walk_tupE {a : Addr} {xs : List V} (hx : xs = es.map kf) : Walk (Itt K a) es.length (fun H => SqT K H a xs) (YE es kf) := by
  subst hx
  have w := walk_tup (K := K) (a := a) (xs := es.map kf)
  rw [List.length_map] at w
  refine ⟨w.goes, w.stops, fun i H x H' hi hg h => ?_⟩
  obtain ⟨rfl, q⟩ := w.yields i H x H' hi hg h
  rw [List.getElem?_map] at q
  obtain ⟨e, he, rfl⟩ := Option.map_eq_some_iff.mp q
  exact ⟨rfl, e, he, rfl⟩
theorem walk_keysE {d : Addr} {o : Obj} {kk : ε → Key} {vf : ε → V} {kvs : List (Key × V)} (hk : kvs = es.map fun e => (kk e, vf e)) : Walk (Itk d o kvs) es.length (fun H => H d = some (.frz o (.dK kvs))) (YE es fun e => kV (kk e)) := by
  subst hk
  have w := walk_keys (d := d) (o := o) (kvs := es.map fun e => (kk e, vf e))
  rw [List.length_map] at w
  refine ⟨w.goes, w.stops, fun i H x H' hi hg h => ?_⟩
  obtain ⟨rfl, k, v, q, rfl⟩ := w.yields i H x H' hi hg h
  rw [List.getElem?_map] at q
  obtain ⟨e, he, h2⟩ := Option.map_eq_some_iff.mp q
  cases h2
  exact ⟨rfl, e, he, rfl⟩
theorem walk_valsE {d : Addr} {o : Obj} {kk : ε → Key} {vf : ε → V} {kvs : List (Key × V)} (hk : kvs = es.map fun e => (kk e, vf e)) : Walk (Itd d o kvs) es.length (fun H => H d = some (.frz o (.dK kvs))) (YE es vf) := by
  subst hk
  have w := walk_values (d := d) (o := o) (kvs := es.map fun e => (kk e, vf e))
  rw [List.length_map] at w
  refine ⟨w.goes, w.stops, fun i H x H' hi hg h => ?_⟩
  obtain ⟨rfl, k, q⟩ := w.yields i H x H' hi hg h
  rw [List.getElem?_map] at q
  obtain ⟨e, he, h2⟩ := Option.map_eq_some_iff.mp q
  cases h2
  exact ⟨rfl, e, he, rfl⟩
/-- a tuple of a generator that reads -/
theorem tup_cells {tg : TG} {tt : TT} {te : TE} {vs : List Nat} (w : Walk J es.length G (YE es kf)) (p : ε → Bool) (dv : ε → PyData) (hz : es.length ≤ 10000) {P : List (Addr × HO)}
    (hG : ∀ H1 M, Ctx K B H1 (M ++ P) I → G H1) (hC : Ctx K B H (P ++ (es.map cg ++ F)) I)
    (turn : ∀ (i : Nat) e H1 R (Zy : VK) (Zn : Hp → Prop), es[i]? = some e → Ctx K H1 H1 (cg e :: (P ++ R)) I → (∀ H2 x J', p e = true → Ctx K H1 H2 (cg e :: (P ++ R)) J' → (∀ j, j ∈ I → j ∈ J') → TD K H2 x (dv e) → Zy x H2) → (∀ H2 J', p e = false → Ctx K H1 H2 (cg e :: (P ++ R)) J' → (∀ j, j ∈ I → j ∈ J') → Zn H2) →
      tg (kf e) (wipe σ vs) H1 fun σ2 H2 => wipe σ2 vs = wipe σ vs ∧ tt σ2 H2 fun b H3 => if b = true then te σ2 H3 Zy else Zn H3)
    (k : ∀ H' t vr, Ctx K B H' (P ++ (es.map cg ++ F)) (.tup t vr :: .dats vr ((es.filter p).map dv) :: I) → Q (.ref t) H') : kTupW tg tt te vs σ Q J H := by
  refine tup_w w (by omega) (fun i ys H1 => Ctx K B H1 (P ++ (es.map cg ++ F)) (.dats ys (((es.take i).filter p).map dv) :: I)) (hC.add (i := .dats [] []) .nil) (fun i ys H1 _ hC => ?_) ?_ ?_
  · refine hG H1 (es.map cg ++ F) ⟨hC.lay.perm ?_, fun j hj => hC.im j (List.mem_cons_of_mem _ hj), hC.sb⟩
    exact List.perm_append_comm
  · rintro i x H1 H2 ys hi hy1 hy2 hC hy
    obtain ⟨rfl, e, he, rfl⟩ := ye hy
    have hp : (P ++ (es.map cg ++ F)).Perm (cg e :: (P ++ ((es.take i).map cg ++ ((es.drop (i + 1)).map cg ++ F)))) := by
      conv => lhs; rw [split_cons he]
      rw [List.map_append, List.map_cons]
      exact mid_perm
    have hC1 := hC.rebase
    have hw := turn i e H2 ((es.take i).map cg ++ ((es.drop (i + 1)).map cg ++ F)) (kTupE ys (i + 1) fun ys H1 => Ctx K B H1 (P ++ (es.map cg ++ F)) (.dats ys (((es.take (i + 1)).filter p).map dv) :: I)) (fun H3 => ys.length ≤ i + 1 ∧ Ctx K B H3 (P ++ (es.map cg ++ F)) (.dats ys (((es.take (i + 1)).filter p).map dv) :: I)) he ⟨hC1.lay.perm hp, fun j hj => hC1.im j (List.mem_cons_of_mem _ hj), hC1.sb⟩
    refine hw (fun H3 x J' hb hC2 hs ht => ?_) (fun H3 J' hb hC2 hs => ⟨by omega, ?_⟩)
    · refine s_tupE hy1 hy2 ?_
      rw [take_snoc he, List.filter_append, List.map_append, show ([e] : List ε).filter p = [e] from by simp [hb]]
      exact ⟨hC2.lay.perm hp.symm, fun j hj => by
        rcases List.mem_cons.mp hj with rfl | hj
        · exact TDs.append (show TDs K H3 ys (((es.take i).filter p).map dv) from Im.mono (K := K) (i := .dats ys (((es.take i).filter p).map dv)) hC2.sb (hC.im _ List.mem_cons_self)) (TDs.cons ht .nil)
        · exact hC2.im j (hs j hj), hC.sb.trans hC2.sb⟩
    · rw [take_snoc he, List.filter_append, show ([e] : List ε).filter p = [] from by simp [hb], List.append_nil]
      exact ⟨hC2.lay.perm hp.symm, fun j hj => by
        rcases List.mem_cons.mp hj with rfl | hj
        · exact Im.mono hC2.sb (hC.im _ List.mem_cons_self)
        · exact hC2.im j (hs j hj), hC.sb.trans hC2.sb⟩
  · intro ys H1 hC l hl
    rw [List.take_length] at hC
    exact k _ l ys (hC.newT hl)
theorem tds_strs : ∀ {vr : List V} {ns : List Str}, TDs K H vr (ns.map PyData.str) → vr = ns.map V.str
  | _, [], .nil => rfl
  | _, _ :: _, .cons (.str _) r => by rw [tds_strs r]; rfl
theorem tds_ints : ∀ {vr : List V} {ns : List Int}, TDs K H vr (ns.map PyData.int) → vr = ns.map V.int
  | _, [], .nil => rfl
  | _, _ :: _, .cons (.int _) r => by rw [tds_ints r]; rfl
end
end Ph
namespace Ph
open PySem PySem.Spec PyProof.Rows L2
theorem inV_strs {x : Str} : ∀ {ys : List Str}, inV (.str x) (ys.map V.str) = decide (x ∈ ys)
  | [] => rfl
  | y :: ys => by
    have ih := inV_strs (x := x) (ys := ys)
    unfold inV at ih ⊢
    rw [List.map_cons, List.any_cons, ih]
    by_cases q : x = y
    · subst q; simp [eqV]
    · have q2 : y ≠ x := fun z => q z.symm
      simp [eqV, q, q2]
section
variable {K : PySem.W.Frag} {H : Hp} {Q : VK} {a : Addr} {xs : List V} {ys : List Str} {x u v : Str}
theorem s_inT (m : SqT K H a xs) (e : xs = ys.map V.str) (q : Q (.bl (decide (x ∈ ys))) H) : rInV K (.str x) (.ref a) H Q := by
  subst e
  exact .inl (.inl ⟨a, _, rfl, .inr m, rfl, by rw [List.all_map]; exact List.all_eq_true.mpr fun _ _ => rfl, by rw [if_neg Bool.false_ne_true, inV_strs]; exact q⟩)
theorem s_inL (m : H a = some (.lst xs)) (e : xs = ys.map V.str) (q : Q (.bl (decide (x ∈ ys))) H) : rInV K (.str x) (.ref a) H Q := by
  subst e
  exact .inl (.inl ⟨a, _, rfl, .inl (SqL.of m), rfl, by rw [List.all_map]; exact List.all_eq_true.mpr fun _ _ => rfl, by rw [if_neg Bool.false_ne_true, inV_strs]; exact q⟩)
theorem s_in2T (m : SqT K H a [.str u, .str v]) (q : Q (.bl (decide (x = u ∨ x = v))) H) : rInV K (.str x) (.ref a) H Q := s_inT (ys := [u, v]) m rfl (by rw [show decide (x ∈ [u, v]) = decide (x = u ∨ x = v) from by simp]; exact q)
theorem s_in2L (m : H a = some (.lst [.str u, .str v])) (q : Q (.bl (decide (x = u ∨ x = v))) H) : rInV K (.str x) (.ref a) H Q := s_inL (ys := [u, v]) m rfl (by rw [show decide (x ∈ [u, v]) = decide (x = u ∨ x = v) from by simp]; exact q)
end
end Ph
namespace Ph
open PySem PySem.Spec PyProof.Rows L2
section
variable {ε : Type} {K : PySem.W.Frag} {B H : Hp} {L L' F : List (Addr × HO)} {I : List Im} {Q : VK} {σ : L2.St} {J : It} {G : Hp → Prop} {es : List ε} {kf : ε → V}
theorem lc_read {tg : TG} {tt : TT} {te : TE} {vs : List Nat} (w : Walk J es.length G (YE es kf)) (p : ε → Bool) (dv : ε → PyData) (hz : es.length ≤ 99000) (hG : ∀ H1 x, Ctx K B H1 (x :: L) I → G H1) (hC : Ctx K B H L I)
    (turn : ∀ (i : Nat) e H1 D vr (Zy : VK) (Zn : Hp → Prop), es[i]? = some e → Ctx K H1 H1 ((D, .lst vr) :: L) I → (∀ H2 x J', p e = true → Ctx K H1 H2 ((D, .lst vr) :: L) J' → (∀ j, j ∈ I → j ∈ J') → TD K H2 x (dv e) → Zy x H2) → (∀ H2 J', p e = false → Ctx K H1 H2 ((D, .lst vr) :: L) J' → (∀ j, j ∈ I → j ∈ J') → Zn H2) →
      tg (kf e) (wipe σ vs) H1 fun σ2 H2 => wipe σ2 vs = wipe σ vs ∧ tt σ2 H2 fun b H3 => if b = true then te σ2 H3 Zy else Zn H3)
    (k : ∀ H' D vr, Ctx K B H' ((D, .lst vr) :: L) (.dats vr ((es.filter p).map dv) :: I) → Q (.ref D) H') : kLc tg tt te vs σ Q J H := by
  refine lc_w w hC (fun D i H1 => ∃ vr, Ctx K B H1 ((D, .lst vr) :: L) (.dats vr (((es.take i).filter p).map dv) :: I)) (fun D H1 hC => ⟨[], hC.add (i := .dats [] []) .nil⟩) (fun D i H1 _ ⟨vr, hC⟩ => hG H1 _ ⟨hC.lay, fun j hj => hC.im j (List.mem_cons_of_mem _ hj), hC.sb⟩) ?_ ?_
  · rintro i x D H1 H2 hi ⟨vr, hC⟩ hy
    obtain ⟨rfl, e, he, rfl⟩ := ye hy
    have hd : TDs K _ vr (((es.take i).filter p).map dv) := hC.dats List.mem_cons_self
    have hl : vr.length ≤ 99000 := by
      rw [hd.length, List.length_map]
      refine Nat.le_trans (List.length_filter_le _ _) ?_
      rw [List.length_take]
      omega
    have hC1 := hC.rebase
    refine turn i e _ _ _ _ _ he ⟨hC1.lay, fun j hj => hC1.im j (List.mem_cons_of_mem _ hj), hC1.sb⟩ (fun H3 x J' hb hC2 hs ht => ?_) (fun H3 J' hb hC2 hs => ⟨vr, ?_⟩)
    · have hC3 : Ctx K B H3 ((D, .lst vr) :: L) (.dats vr (((es.take i).filter p).map dv) :: .dats [x] [dv e] :: I) := ⟨hC2.lay, fun j hj => by
        rcases List.mem_cons.mp hj with rfl | hj
        · exact Im.mono hC2.sb (hC.im _ List.mem_cons_self)
        · rcases List.mem_cons.mp hj with rfl | hj
          · exact TDs.cons ht .nil
          · exact hC2.im j (hs j hj), hC.sb.trans hC2.sb⟩
      refine s_app (acc := vr) hC3 (hC3.get List.mem_cons_self) (by omega) .here (fun H4 hC4 => ⟨vr ++ [x], ?_⟩)
      have h1 := TDs.append (hC4.dats (vs := vr) (ds := ((es.take i).filter p).map dv) List.mem_cons_self) (hC4.dats (vs := [x]) (ds := [dv e]) (List.mem_cons_of_mem _ List.mem_cons_self))
      rw [take_snoc he, List.filter_append, List.map_append, show ([e] : List ε).filter p = [e] from by simp [hb]]
      exact (hC4.add (i := .dats (vr ++ [x]) _) h1).keepI (fun j hj => by
        rcases List.mem_cons.mp hj with rfl | hj
        · exact List.mem_cons_self
        · exact List.mem_cons_of_mem _ (List.mem_cons_of_mem _ (List.mem_cons_of_mem _ hj)))
    · rw [take_snoc he, List.filter_append, show ([e] : List ε).filter p = [] from by simp [hb], List.append_nil]
      exact ⟨hC2.lay, fun j hj => by
        rcases List.mem_cons.mp hj with rfl | hj
        · exact Im.mono hC2.sb (hC.im _ List.mem_cons_self)
        · exact hC2.im j (hs j hj), hC.sb.trans hC2.sb⟩
  · rintro D H1 ⟨vr, hC⟩
    rw [List.take_length] at hC
    exact k H1 D vr hC
/-- texts of a list of texts: no cells are made -/
theorem lc_strs {tg : TG} {tt : TT} {te : TE} {vs : List Nat} {a : Addr} {ns : List Str} (p : Str → Bool) (hz : ns.length ≤ 99000) (hm : (a, .lst (ns.map V.str)) ∈ L) (hC : Ctx K B H L I)
    (turn : ∀ x H1 (Zy : VK) (Zn : Hp → Prop), (p x = true → Zy (.str x) H1) → (p x = false → Zn H1) → tg (.str x) (wipe σ vs) H1 fun σ2 H2 => wipe σ2 vs = wipe σ vs ∧ tt σ2 H2 fun b H3 => if b = true then te σ2 H3 Zy else Zn H3)
    (k : ∀ H' D, Ctx K B H' ((D, .lst ((ns.filter p).map V.str)) :: L) I → Q (.ref D) H') : kLc tg tt te vs σ Q (Itl K a) H := by
  refine lc_read (es := ns) (kf := V.str) (walk_lstE rfl) p PyData.str hz (fun H1 x hC => SqL.of (hC.get (List.mem_cons_of_mem _ hm))) hC (fun i x H1 D vr Zy Zn he hC hy hn => turn x H1 Zy Zn (fun hb => hy H1 _ I hb hC (fun j hj => hj) (.str x)) (fun hb => hn H1 I hb hC (fun j hj => hj))) (fun H' D vr hC => ?_)
  have hd := hC.dats (vs := vr) List.mem_cons_self
  rw [tds_strs hd] at hC
  exact k H' D ⟨hC.lay, fun j hj => hC.im j (List.mem_cons_of_mem _ hj), hC.sb⟩
end
end Ph
namespace Ph
open PySem PySem.Spec PyProof.Rows L2
abbrev imFz (d : Addr) (od : Obj) (u : HO) : Im := .pr (fun H => H d = some (.frz od u)) (fun _ _ s h => s _ _ h rfl)
section
variable {K : PySem.W.Frag} {B H : Hp} {L L' : List (Addr × HO)} {I : List Im} {Q : VK} {σ : L2.St} {d : Addr} {od : Obj} {u : HO}
theorem _root_.Ph.Ctx.frz (hC : Ctx K B H L I) (m : imFz d od u ∈ I) : H d = some (.frz od u) := hC.pr (P := fun H => H d = some (.frz od u)) m
theorem s_ixKFi {o : Obj} {l : List (Str × V)} {x : Str} {v : V} (m : H d = some (.frz o (.dK (mK id l)))) (e : look l x = some v) (q : Q v H) : rIxU K (.ref d) (.str x) H Q := s_ixKF (f := id) m e q
theorem s_sum {a : Addr} {ns : List Int} {xs : List V} (m : H a = some (.lst xs)) (e : xs = ns.map V.int) (q : Q (.int ns.sum) H) : rSum K [.ref a] H Q := by
  subst e
  exact ⟨a, ns, rfl, SqL.of m, q⟩
theorem s_lockE {t : TE} (hC : Ctx K B H L I) (m : Pick (d, u) L L') (mu : Mut (some u)) (k : ∀ od H1, Stb H H1 → Ctx K H1 H1 L' (imFz d od u :: I) → t σ H1 (kUnl d od u Q)) : tLockE t σ H Q := s_lock hC m mu k
theorem s_lockT {t : TS} {A Bk Ct : L2.St → Hp → Prop} {Rt : VK} (hC : Ctx K B H L I) (m : Pick (d, u) L L') (mu : Mut (some u)) (k : ∀ od H1, Stb H H1 → Ctx K H1 H1 L' (imFz d od u :: I) → t ⟨uN d od u A, uV d od u Rt, uN d od u Bk, uN d od u Ct⟩ σ H1) : tLock t ⟨A, Rt, Bk, Ct⟩ σ H := s_lockS hC m mu k
end
end Ph
namespace Ph
open PySem PySem.Spec PyProof.Rows L2
section
variable {K : PySem.W.Frag} {H : Hp} {Q : VK} {l m : Addr} {ns ms : List Str}
theorem strs_tds : ∀ ns : List Str, TDs K H (ns.map V.str) (ns.map PyData.str)
  | [] => .nil
  | n :: r => .cons (.str n) (strs_tds r)
theorem ints_tds : ∀ ns : List Int, TDs K H (ns.map V.int) (ns.map PyData.int)
  | [] => .nil
  | n :: r => .cons (.int n) (ints_tds r)
theorem strs_sh (so : ∀ x, x ∈ ns → PyData.strOk x = true) : ShL 50 (ns.map PyData.str) := fun d hd => by
  obtain ⟨x, hx, rfl⟩ := List.mem_map.mp hd
  exact .str (so x hx)
theorem s_neStr (hl : H l = some (.lst (ns.map V.str))) (hm : H m = some (.lst [])) (so : ∀ x, x ∈ ns → PyData.strOk x = true) (k : Q (.bl (!ns.isEmpty)) H) : rNeU K (.ref l) (.ref m) H Q :=
  s_neE hl hm (strs_tds ns) (strs_sh so) (by rw [show (ns.map PyData.str).isEmpty = ns.isEmpty from by cases ns <;> rfl]; exact k)
theorem s_eqStr (hl : H l = some (.lst (ns.map V.str))) (hm : H m = some (.lst [])) (so : ∀ x, x ∈ ns → PyData.strOk x = true) (k : Q (.bl ns.isEmpty) H) : rEqU K (.ref l) (.ref m) H Q :=
  s_eqE hl hm (strs_tds ns) (strs_sh so) (by rw [show (ns.map PyData.str).isEmpty = ns.isEmpty from by cases ns <;> rfl]; exact k)
theorem s_neSameS (hl : H l = some (.lst (ns.map V.str))) (hm : H m = some (.lst (ns.map V.str))) (so : ∀ x, x ∈ ns → PyData.strOk x = true) (k : Q (.bl false) H) : rNeU K (.ref l) (.ref m) H Q :=
  s_neSameL hl hm (strs_tds ns) (strs_tds ns) (strs_sh so) k
end
end Ph
namespace Ph
open PySem PySem.Spec PyProof.Rows L2
def TupK (K : PySem.W.Frag) (a : Addr) (xs : List V) : Prop := (∀ H : Hp, SqT K H a xs) ∧ ∃ o : Obj, K.lookup a = some o ∧ o.cls = .type "tuple" ∧ o.dict = none
def strOfV : Value → Option Str
  | .str z _ => some z
  | _ => none
def strsAre : List Value → List Str → Bool
  | [], [] => true
  | .str z _ :: r, s :: t => z == s && strsAre r t
  | _, _ => false
theorem strsAre_ok : ∀ {l : List Value} {ss : List Str}, strsAre l ss = true → Vals (ss.map V.str) l
  | [], [], _ => .nil
  | .str z t :: r, s :: ss, h => by
    simp only [strsAre, Bool.and_eq_true, beq_iff_eq] at h
    obtain ⟨rfl, h⟩ := h
    exact .cons ⟨t, rfl⟩ (strsAre_ok h)
  | [], _ :: _, h => by cases h
  | v :: r, [], h => by cases v <;> cases h
  | .none :: _, _ :: _, h => by cases h
  | .bool _ :: _, _ :: _, h => by cases h
  | .int _ _ :: _, _ :: _, h => by cases h
  | .ref _ :: _, _ :: _, h => by cases h
  | v :: _, _ :: _, h => by
    cases v <;> first | cases h | skip
    simp only [strsAre, Bool.and_eq_true, beq_iff_eq] at h
    obtain ⟨rfl, h⟩ := h
    exact .cons ⟨_, rfl⟩ (strsAre_ok h)
def tupS (K : PySem.W.Frag) (a : Addr) (ss : List Str) : Bool := match K.lookup a with
  | some ⟨.type n, none, .seq its _, _⟩ => n == "tuple" && (strsAre its.toList ss && decide (its.size ≤ 1000))
  | _ => false
theorem tupS_ok {K : PySem.W.Frag} {a : Addr} {ss : List Str} (h : tupS K a ss = true) : TupK K a (ss.map V.str) := by
  unfold tupS at h
  split at h
  · rename_i n its k sl e
    simp only [Bool.and_eq_true, beq_iff_eq, decide_eq_true_eq] at h
    exact ⟨fun H => .inr ⟨_, its, k, e, by rw [h.1], rfl, by rw [sizeLine_eq]; omega, strsAre_ok h.2.1⟩, _, e, by rw [h.1], rfl⟩
  · cases h
theorem s_tyT {K : PySem.W.Frag} {H : Hp} {Q : VK} {σ : L2.St} {p : Addr} {xs : List V} {r : V → List V → Hp → VK → Prop} {tr : TA} (m : TupK K p xs) (h : tr σ H fun xs H2 => r (.ref p) xs H2 Q) : kBm K "tuple" r σ tr Q (.ref p) H := ⟨.inr (.inl ⟨rfl, m.2⟩), h⟩
end Ph
namespace Ph
open PySem PySem.Spec PyProof.Rows L2
def rNeDL : R2 := fun x y H Q => ∃ a b ks ls, x = .ref a ∧ y = .ref b ∧ H a = some (.dK ks) ∧ H b = some (.dK ls) ∧ ks.length ≠ ls.length ∧ Q (.bl true) H
def rNeX (K : PySem.W.Frag) : R2 := fun x y H Q => rNeU K x y H Q ∨ rNeDA x y H Q ∨ rNeDL x y H Q
section
variable {X : Cx}
theorem op_ne_dictL (hu : X.A.units < cLine) : OpR X (compareOp .NotEq) rNeDL := by
  intro pins s σ H x y v u Q I rx ry h
  obtain ⟨a, b, ks, ls, rfl, rfl, ea, eb, hlen, q⟩ := h
  obtain rfl : v = Value.ref a := rx
  obtain rfl : u = Value.ref b := ry
  obtain ⟨_, ya, va, ra, da⟩ := (show ObjOk X.prog X.w H s.heap a (.dK ks) from I.hok a _ ea)
  obtain ⟨_, yb, vb, rb, db⟩ := (show ObjOk X.prog X.w H s.heap b (.dK ls) from I.hok b _ eb)
  have hl : va.length ≠ vb.length := by rw [← ra.length, ← rb.length]; exact hlen
  exact PySem.W.keq_ne (knd := mixKind X.prog X.w) (r := false) ya yb da db hu (fun e => absurd e hl) (fin_bl I q (by simp [hl]))
theorem u_neX (hu : X.A.units + 64 < cLine) : OpR X (compareOp .NotEq) (rNeX X.K) := (u_ne hu).or ((op_ne_dictA (by omega)).or (op_ne_dictL (by omega)))
end
section
variable {K : PySem.W.Frag} {H : Hp} {Q : VK} {a b : Addr} {ks : List (Key × V)}
theorem s_neX0 (m : H a = some (.dK [])) (m2 : H b = some (.dK [])) (q : Q (.bl false) H) : rNeX K (.ref a) (.ref b) H Q := .inr (.inl ⟨a, b, [], [], rfl, rfl, m, m2, rfl, (fun p h => by cases h), q⟩)
theorem s_neX1 (m : H a = some (.dK ks)) (h : 0 < ks.length) (m2 : H b = some (.dK [])) (q : Q (.bl true) H) : rNeX K (.ref a) (.ref b) H Q := .inr (.inr ⟨a, b, ks, [], rfl, rfl, m, m2, (by rw [List.length_nil]; omega), q⟩)
end
end Ph
namespace Ph
open PySem PySem.Spec PyProof.Rows L2
def mI {α : Type} (f : α → V) (l : List (Int × α)) : List (Key × V) := l.map fun p => (.inl p.1, f p.2)
section
variable {α : Type} {f : α → V}
theorem mI_len {l : List (Int × α)} : (mI f l).length = l.length := by unfold mI; rw [List.length_map]
theorem mI_keys {l : List (Int × α)} : (mI f l).map (·.1) = (l.map (·.1)).map Sum.inl := by unfold mI; rw [List.map_map, List.map_map]; rfl
theorem valV_mI {k : Int} : ∀ {l : List (Int × α)}, valV (mI f l) (.inl k) = (look l k).map f
  | [] => rfl
  | p :: r => by
    show valV ((Sum.inl p.1, f p.2) :: mI f r) (.inl k) = _
    rw [look_cons]
    by_cases h : p.1 = k
    · rw [valV_pos (by simp [h]), if_pos h]; rfl
    · rw [valV_neg (by simpa using h), if_neg h, valV_mI]
theorem putK_mI {l : List (Int × α)} {k : Int} {v : α} : putK (mI f l) (.inl k) (f v) = mI f (putR l k v) := by
  unfold putK putR
  rw [valV_any, valV_mI, look_any, Option.isSome_map]
  split
  · unfold mI
    rw [List.map_map, List.map_map]
    refine List.map_congr_left fun p _ => ?_
    by_cases h : p.1 = k <;> simp [h]
  · unfold mI
    rw [List.map_append]; rfl
theorem RDis.mkI : ∀ {l : List (Int × α)} {acc : List (Key × V)}, (l.map (·.1)).Nodup → (∀ p, p ∈ l → ∀ x, x ∈ acc → ¬ x.1 = .inl p.1) → RDis acc (mI f l)
  | [], _, _, _ => .nil
  | p :: r, acc, nd, h => by
    rw [List.map_cons, List.nodup_cons] at nd
    refine .cons (DNo.of (h p List.mem_cons_self)) (RDis.mkI nd.2 fun q m x hx => ?_)
    rcases List.mem_cons.mp hx with rfl | hx
    · intro z
      have z : p.1 = q.1 := Sum.inl.inj z
      exact nd.1 (by rw [z]; exact List.mem_map.mpr ⟨q, m, rfl⟩)
    · exact h q (List.mem_cons_of_mem _ m) x hx
theorem merge_mI {l : List (Int × α)} (nd : (l.map (·.1)).Nodup) : mergeK [] (mI f l) = mI f l := by
  have e := (RDis.mkI (f := f) (acc := []) nd (fun _ _ x hx => by cases hx)).ok
  rw [List.reverse_nil, List.nil_append] at e
  exact e
end
section
variable {α : Type} {f : α → V} {K : PySem.W.Frag} {B H : Hp} {L L' F : List (Addr × HO)} {I : List Im} {Q : VK} {σ : L2.St} {d : Addr}
theorem s_ixI {l : List (Int × α)} {x : Int} {v : α} (m : H d = some (.dK (mI f l))) (e : look l x = some v) (q : Q (f v) H) : rIxU K (.ref d) (.int x) H Q :=
  .inr (.inr (.inr ⟨d, f v, rfl, .inl ⟨_, .inl x, .inl m, rfl, by rw [valV_mI, e]; rfl⟩, q⟩))
theorem s_ixIF {o : Obj} {l : List (Int × α)} {x : Int} {v : α} (m : H d = some (.frz o (.dK (mI f l)))) (e : look l x = some v) (q : Q (f v) H) : rIxU K (.ref d) (.int x) H Q :=
  .inr (.inr (.inr ⟨d, f v, rfl, .inl ⟨_, .inl x, .inr ⟨o, m⟩, rfl, by rw [valV_mI, e]; rfl⟩, q⟩))
theorem s_ixIi {l : List (Int × V)} {x : Int} {v : V} (m : H d = some (.dK (mI id l))) (e : look l x = some v) (q : Q v H) : rIxU K (.ref d) (.int x) H Q := s_ixI (f := id) m e q
theorem s_ixIFi {o : Obj} {l : List (Int × V)} {x : Int} {v : V} (m : H d = some (.frz o (.dK (mI id l)))) (e : look l x = some v) (q : Q v H) : rIxU K (.ref d) (.int x) H Q := s_ixIF (f := id) m e q
theorem s_ninIe {l : List (Int × α)} {x : Int} {v : α} (m : H d = some (.dK (mI f l))) (e : look l x = some v) (q : Q (.bl false) H) : rNotInV K (.int x) (.ref d) H Q :=
  .inl (.inr (.inl ⟨d, _, rfl, .inl ⟨_, .inl x, .inl m, rfl, rfl⟩, by rw [valV_mI, Option.isSome_map, e]; exact q⟩))
theorem s_ninIz {l : List (Int × α)} {x : Int} (m : H d = some (.dK (mI f l))) (e : look l x = none) (q : Q (.bl true) H) : rNotInV K (.int x) (.ref d) H Q :=
  .inl (.inr (.inl ⟨d, _, rfl, .inl ⟨_, .inl x, .inl m, rfl, rfl⟩, by rw [valV_mI, Option.isSome_map, e]; exact q⟩))
theorem s_g1Ie {l : List (Int × V)} {x : Int} {v : V} (m : H d = some (.dK (mI id l))) (e : look l x = some v) (q : Q v H) : kGetK1 d Q (.int x) H := ⟨_, .inl (.inl ⟨_, .inl x, .inl m, rfl, rfl⟩), by rw [valV_mI, e]; exact q⟩
theorem s_g1Iz {l : List (Int × V)} {x : Int} (m : H d = some (.dK (mI id l))) (e : look l x = none) (q : Q .non H) : kGetK1 d Q (.int x) H := ⟨_, .inl (.inl ⟨_, .inl x, .inl m, rfl, rfl⟩), by rw [valV_mI, e]; exact q⟩
theorem s_putI {R : Hp → Prop} {l : List (Int × V)} {x : Int} {v : V} (hC : Ctx K B H L I) (m : H d = some (.dK (mI id l))) (z : l.length < 100000) (u : Up d (.dK (mI id (putR l x v))) L L') (q : ∀ H1, Ctx K B H1 L' I → R H1) : rSetU (.ref d) (.int x) v H R :=
  .inr ⟨d, _, rfl, DPut.k (k := Sum.inl x) m (by rw [mI_len]; exact Nat.lt_of_lt_of_le z (by decide)), by rw [show putK (mI id l) (.inl x) v = mI id (putR l x v) from putK_mI (f := id)]; exact q _ (hC.put u rfl)⟩
theorem s_srtI2 {l : List (Int × α)} (hC : Ctx K B H L I) (m : H d = some (.dK (mI f l))) (z : l.length < 64) (k : ∀ p H1, Ctx K B H1 ((p, .lst ((srtZ (l.map (·.1))).map V.int)) :: L) I → Q (.ref p) H1) : rSortU K [.ref d] H Q :=
  .inr (.inr (.inr ⟨d, _, l.map (·.1), rfl, .inl m, mI_keys, by rw [List.length_map]; exact z, fun ys p hp hs hn => by
    rw [srtZ_of hp hs]
    exact k p _ (hC.newM hn rfl)⟩))
theorem s_dictI {ps : List Addr} {l : List (Int × α)} (hC : Ctx K B H L I) (m : H d = some (.lst (ps.map V.ref))) (h : Paired (fun p kv => SqT K H p [kV kv.1, kv.2]) ps (mI f l)) (nd : (l.map (·.1)).Nodup) (k : ∀ p H1, Ctx K B H1 ((p, .dK (mI f l)) :: L) I → Q (.ref p) H1) : rDictU K [.ref d] H Q :=
  .inl ⟨d, ps, mI f l, rfl, SqL.of m, h, fun p hp => by rw [merge_mI nd]; exact k p _ (hC.newM hp rfl)⟩
theorem s_lenI {kvs : List (Key × V)} (m : H d = some (.dK kvs)) (q : Q (.int kvs.length) H) : rLenU K [.ref d] H Q := s_lenD m q
/-! list(d.items()) -/
theorem pairedImp {α β : Type} {G G2 : α → β → Prop} (g : ∀ x y, G x y → G2 x y) : ∀ {l : List α} {m : List β}, Paired G l m → Paired G2 l m
  | _, _, .nil => .nil
  | _, _, .cons a t => .cons (g _ _ a) (pairedImp g t)
abbrev imPs (K : PySem.W.Frag) (ts : List Addr) (kvs : List (Key × V)) : Im := .pr (fun H => Paired (fun (t : Addr) (q : Key × V) => SqT K H t [kV q.1, q.2]) ts kvs) (fun H H' s h => pairedImp (G := fun (t : Addr) (q : Key × V) => SqT K H t [kV q.1, q.2]) (G2 := fun (t : Addr) (q : Key × V) => SqT K H' t [kV q.1, q.2]) (fun _ _ z => s.sqt z) h)
def kItemsL (Q : VK) : VK := fun x H1 => LiI.rItemsL x H1 Q
theorem s_litE {te : TE} (h : te σ H (kItemsL Q)) : LiI.tListItems te σ H Q := h
theorem s_lit {kvs : List (Key × V)} (hC : Ctx K B H L I) (m : H d = some (.dK kvs)) (k : ∀ p ts H1, Ctx K B H1 ((p, .lst (ts.map V.ref)) :: L) (imPs K ts kvs :: I) → Q (.ref p) H1) : kItemsL Q (.ref d) H := by
  refine ⟨d, kvs, rfl, m, fun H' p ts keep hp hts hn hpl hpd => k p ts H' ?_⟩
  have s : Stb H H' := fun b w hb _ => keep b w hb
  refine ⟨⟨?_, fun q hq => ?_⟩, fun i hi => ?_, hC.sb.trans s⟩
  · rw [List.map_cons, List.nodup_cons]
    refine ⟨fun z => ?_, hC.lay.nd⟩
    obtain ⟨q, hq, e⟩ := List.mem_map.mp z
    have z2 := (hC.lay.at_ q hq).1
    rw [e, hp] at z2
    cases z2
  · rcases List.mem_cons.mp hq with e | hq
    · subst e
      exact ⟨hpl, rfl⟩
    · exact ⟨keep _ _ (hC.lay.at_ q hq).1, (hC.lay.at_ q hq).2⟩
  · rcases List.mem_cons.mp hi with rfl | hi
    · exact pairedImp (fun _ _ z => .inl (.inl z)) hpd
    · exact Im.mono s (hC.im i hi)
end
end Ph
namespace Ph
open PySem PySem.Spec PyProof.Rows L2
section
variable {ε : Type} {K : PySem.W.Frag} {B H : Hp} {L L' F : List (Addr × HO)} {I : List Im} {Q : VK} {σ : L2.St} {J : It} {G : Hp → Prop} {es : List ε} {kf : ε → V} {b0 : Bool}
variable {tg : TG} {tt : TT} {te : TE} {vs : List Nat}
theorem any_read (w : Walk J es.length G (YE es kf)) (p : ε → Bool) (hz : es.length ≤ 90000) (hG : ∀ H1, Ctx K B H1 L I → G H1) (hC : Ctx K B H L I)
    (turn : ∀ (i : Nat) e H1 (Z : VK) (Zn : Hp → Prop), es[i]? = some e → Ctx K B H1 L I → (∀ H2, Ctx K B H2 L I → Z (.bl (p e)) H2) → tg (kf e) (wipe σ vs) H1 fun σ2 H2 => wipe σ2 vs = wipe σ vs ∧ tt σ2 H2 fun b H3 => if b = true then te σ2 H3 Z else Zn H3)
    (k : ∀ H', Ctx K B H' L I → Q (.bl (if b0 = true then es.any p else es.all p)) H') : kAnyW b0 tg tt te vs σ Q J H := by
  refine any_w w (by omega) (fun i H1 => Ctx K B H1 L I ∧ ∀ j, j < i → ∀ e, es[j]? = some e → p e = !b0) ⟨hC, fun j hj => absurd hj (Nat.not_lt_zero _)⟩ (fun i H1 _ h => hG H1 h.1) ?_ ?_
  · rintro i x H1 H2 ys hi hy1 hy2 ⟨hC, hp⟩ hy
    obtain ⟨rfl, e, he, rfl⟩ := ye hy
    exact turn i e H2 (kAnyE b0 ys (i + 1) (fun H1 => Ctx K B H1 L I ∧ ∀ j, j < i + 1 → ∀ e, es[j]? = some e → p e = !b0) Q) _ he hC (fun H3 hC3 => s_anyE hy1 hy2 (by
      by_cases q : p e = b0
      · rw [if_pos q]
        have := k H3 hC3
        cases b0 with
        | true =>
          rw [if_pos rfl, show es.any p = true from List.any_eq_true.mpr ⟨e, List.mem_of_getElem? he, q⟩] at this
          exact this
        | false =>
          rw [if_neg Bool.false_ne_true, show es.all p = false from List.all_eq_false.mpr ⟨e, List.mem_of_getElem? he, by rw [q]; exact Bool.false_ne_true⟩] at this
          exact this
      · rw [if_neg q]
        refine ⟨hC3, fun j hj f hf => ?_⟩
        rcases Nat.lt_succ_iff_lt_or_eq.mp hj with hj | rfl
        · exact hp j hj f hf
        · rw [he] at hf
          cases hf
          cases b0 <;> cases h : p e <;> simp_all))
  · rintro H1 ⟨hC, hp⟩
    have := k H1 hC
    cases b0 with
    | true =>
      rw [if_pos rfl, show es.any p = false from List.any_eq_false.mpr fun e he z => by
        obtain ⟨j, hj⟩ := List.mem_iff_getElem?.mp he
        have := hp j (List.getElem?_eq_some_iff.mp hj).1 e hj
        rw [this] at z; cases z] at this
      exact this
    | false =>
      rw [if_neg Bool.false_ne_true, show es.all p = true from List.all_eq_true.mpr fun e he => by
        obtain ⟨j, hj⟩ := List.mem_iff_getElem?.mp he
        exact hp j (List.getElem?_eq_some_iff.mp hj).1 e hj] at this
      exact this
theorem tup_read (w : Walk J es.length G (YE es kf)) (p : ε → Bool) (dv : ε → PyData) (hz : es.length ≤ 90000) (hG : ∀ H1, Ctx K B H1 L I → G H1) (hC : Ctx K B H L I)
    (turn : ∀ (i : Nat) e H1 (Zy : VK) (Zn : Hp → Prop), es[i]? = some e → Ctx K H1 H1 L I → (∀ H2 x J', p e = true → Ctx K H1 H2 L J' → (∀ j, j ∈ I → j ∈ J') → TD K H2 x (dv e) → Zy x H2) → (∀ H2 J', p e = false → Ctx K H1 H2 L J' → (∀ j, j ∈ I → j ∈ J') → Zn H2) →
      tg (kf e) (wipe σ vs) H1 fun σ2 H2 => wipe σ2 vs = wipe σ vs ∧ tt σ2 H2 fun b H3 => if b = true then te σ2 H3 Zy else Zn H3)
    (k : ∀ H' t vr, Ctx K B H' L (.tup t vr :: .dats vr ((es.filter p).map dv) :: I) → Q (.ref t) H') : kTupW tg tt te vs σ Q J H := by
  refine tup_w w (by omega) (fun i ys H1 => Ctx K B H1 L (.dats ys (((es.take i).filter p).map dv) :: I)) (hC.add (i := .dats [] []) .nil) (fun i ys H1 _ hC => hG H1 (hC.keepI fun j hj => List.mem_cons_of_mem _ hj)) ?_ ?_
  · rintro i x H1 H2 ys hi hy1 hy2 hC hy
    obtain ⟨rfl, e, he, rfl⟩ := ye hy
    have hC1 := hC.rebase
    have hw := turn i e H2 (kTupE ys (i + 1) fun ys H1 => Ctx K B H1 L (.dats ys (((es.take (i + 1)).filter p).map dv) :: I)) (fun H3 => ys.length ≤ i + 1 ∧ Ctx K B H3 L (.dats ys (((es.take (i + 1)).filter p).map dv) :: I)) he ⟨hC1.lay, fun j hj => hC1.im j (List.mem_cons_of_mem _ hj), hC1.sb⟩
    refine hw (fun H3 x J' hb hC2 hs ht => ?_) (fun H3 J' hb hC2 hs => ⟨by omega, ?_⟩)
    · refine s_tupE hy1 hy2 ?_
      rw [take_snoc he, List.filter_append, List.map_append, show ([e] : List ε).filter p = [e] from by simp [hb]]
      exact ⟨hC2.lay, fun j hj => by
        rcases List.mem_cons.mp hj with rfl | hj
        · exact TDs.append (show TDs K H3 ys (((es.take i).filter p).map dv) from Im.mono (K := K) (i := .dats ys (((es.take i).filter p).map dv)) hC2.sb (hC.im _ List.mem_cons_self)) (TDs.cons ht .nil)
        · exact hC2.im j (hs j hj), hC.sb.trans hC2.sb⟩
    · rw [take_snoc he, List.filter_append, show ([e] : List ε).filter p = [] from by simp [hb], List.append_nil]
      exact ⟨hC2.lay, fun j hj => by
        rcases List.mem_cons.mp hj with rfl | hj
        · exact Im.mono hC2.sb (hC.im _ List.mem_cons_self)
        · exact hC2.im j (hs j hj), hC.sb.trans hC2.sb⟩
  · intro ys H1 hC l hl
    rw [List.take_length] at hC
    exact k _ l ys (hC.newT hl)
end
end Ph
namespace Ph
open PySem PySem.Spec PyProof.Rows L2
theorem inV_ints {x : Int} : ∀ {ys : List Int}, inV (.int x) (ys.map V.int) = decide (x ∈ ys)
  | [] => rfl
  | y :: ys => by
    have ih := inV_ints (x := x) (ys := ys)
    unfold inV at ih ⊢
    rw [List.map_cons, List.any_cons, ih]
    by_cases q : x = y
    · subst q; simp [eqV]
    · have q2 : y ≠ x := fun z => q z.symm
      simp [eqV, q, q2]
theorem inV_nonS : ∀ {ys : List Str}, inV .non (ys.map V.str) = false
  | [] => rfl
  | y :: ys => by
    have ih := inV_nonS (ys := ys)
    unfold inV at ih ⊢
    rw [List.map_cons, List.any_cons, ih]
    simp [eqV]
section
variable {K : PySem.W.Frag} {H : Hp} {Q : VK} {a : Addr} {xs : List V} {ys : List Str} {x : Str}
theorem s_inLI {n : Int} {ns : List Int} (m : H a = some (.lst (ns.map V.int))) (q : Q (.bl (decide (n ∈ ns))) H) : rInV K (.int n) (.ref a) H Q :=
  .inl (.inl ⟨a, _, rfl, .inl (SqL.of m), rfl, by rw [List.all_map]; exact List.all_eq_true.mpr fun _ _ => rfl, by rw [if_neg Bool.false_ne_true, inV_ints]; exact q⟩)
theorem s_ninT (m : SqT K H a xs) (e : xs = ys.map V.str) (q : Q (.bl (!decide (x ∈ ys))) H) : rNotInV K (.str x) (.ref a) H Q := by
  subst e
  exact .inl (.inl ⟨a, _, rfl, .inr m, rfl, by rw [List.all_map]; exact List.all_eq_true.mpr fun _ _ => rfl, by rw [if_pos rfl, inV_strs]; exact q⟩)
theorem s_inNL (m : H a = some (.lst xs)) (e : xs = ys.map V.str) (q : Q (.bl false) H) : rInV K .non (.ref a) H Q := by
  subst e
  exact .inl (.inl ⟨a, _, rfl, .inl (SqL.of m), rfl, by rw [List.all_map]; exact List.all_eq_true.mpr fun _ _ => rfl, by rw [if_neg Bool.false_ne_true, inV_nonS]; exact q⟩)
theorem s_ninNL (m : H a = some (.lst [.non, .str x])) {y : V} (hy : y = .non ∨ ∃ z, y = .str z) (q : Q (.bl (!decide (y = .non ∨ y = .str x))) H) : rNotInV K y (.ref a) H Q := by
  rcases hy with rfl | ⟨z, rfl⟩
  · exact .inl (.inl ⟨a, _, rfl, .inl (SqL.of m), rfl, rfl, by rw [if_pos rfl, show inV V.non [.non, .str x] = true from by unfold inV; simp [eqV]]; simpa using q⟩)
  · refine .inl (.inl ⟨a, _, rfl, .inl (SqL.of m), rfl, rfl, ?_⟩)
    rw [if_pos rfl, show inV (V.str z) [.non, .str x] = decide (z = x) from by
      unfold inV
      by_cases h : z = x
      · subst h; simp [eqV]
      · have h2 : x ≠ z := fun w => h w.symm
        simp [eqV, h, h2]]
    simpa using q
end
section
variable {H : Hp} {σ : L2.St} {d : Addr} {R : It → Hp → Prop}
def kVals (R : It → Hp → Prop) : VK := fun x H1 => ∃ d o kvs, x = .ref d ∧ H1 d = some (.frz o (.dK kvs)) ∧ R (Itd d o kvs) H1
theorem s_valsE {td : TE} (h : td σ H (kVals R)) : iVals td σ H R := h
theorem s_valsK {o : Obj} {kvs : List (Key × V)} (m : H d = some (.frz o (.dK kvs))) (h : R (Itd d o kvs) H) : kVals R (.ref d) H := ⟨d, o, kvs, rfl, m, h⟩
end
theorem eqv_strs : ∀ {xs ys : List Str}, PyData.eqvAll (xs.map PyData.str) (ys.map PyData.str) = decide (xs = ys)
  | [], [] => by simp [PyData.eqvAll]
  | [], _ :: _ => by simp [PyData.eqvAll]
  | _ :: _, [] => by simp [PyData.eqvAll]
  | x :: xs, y :: ys => by
    rw [List.map_cons, List.map_cons, PyData.eqvAll, eqv_strs, PyData.eqv]
    by_cases h1 : x = y
    · by_cases h2 : xs = ys <;> simp [h1, h2]
    · simp [h1]
section
variable {K : PySem.W.Frag} {H : Hp} {Q : VK} {l m : Addr} {ns ms : List Str}
theorem s_eqSS (hl : H l = some (.lst (ns.map V.str))) (hm : H m = some (.lst (ms.map V.str))) (s1 : ∀ x, x ∈ ns → PyData.strOk x = true) (s2 : ∀ x, x ∈ ms → PyData.strOk x = true) (k : Q (.bl (decide (ns = ms))) H) : rEqU K (.ref l) (.ref m) H Q :=
  s_eqD (Dp.lst (SqL.of hl) (strs_tds ns).dp) (Dp.lst (SqL.of hm) (strs_tds ms).dp) ((strs_sh s1).list.shaped (by decide)) ((strs_sh s2).list.shaped (by decide)) (by rw [PyData.eqv, eqv_strs]; exact k)
theorem s_neSS (hl : H l = some (.lst (ns.map V.str))) (hm : H m = some (.lst (ms.map V.str))) (s1 : ∀ x, x ∈ ns → PyData.strOk x = true) (s2 : ∀ x, x ∈ ms → PyData.strOk x = true) (k : Q (.bl (!decide (ns = ms))) H) : rNeU K (.ref l) (.ref m) H Q :=
  s_neD (Dp.lst (SqL.of hl) (strs_tds ns).dp) (Dp.lst (SqL.of hm) (strs_tds ms).dp) ((strs_sh s1).list.shaped (by decide)) ((strs_sh s2).list.shaped (by decide)) (by rw [PyData.eqv, eqv_strs]; exact k)
end
end Ph
namespace Ph
open PySem PySem.Spec PyProof.Rows L2
section
variable {ε : Type} {K : PySem.W.Frag} {B H : Hp} {L L' F : List (Addr × HO)} {I : List Im} {Q : VK} {σ : L2.St} {J : It} {G : Hp → Prop} {es : List ε} {kf : ε → V}
theorem lc_pick {tg : TG} {tt : TT} {te : TE} {vs : List Nat} (w : Walk J es.length G (YE es kf)) (p : ε → Bool) (vf : ε → V) (hz : es.length ≤ 99000) (hG : ∀ H1 x, Ctx K B H1 (x :: L) I → G H1) (hC : Ctx K B H L I)
    (turn : ∀ (i : Nat) e H1 D vr (Zy : VK) (Zn : Hp → Prop), es[i]? = some e → Ctx K B H1 ((D, .lst vr) :: L) I → (∀ H2 J', p e = true → Ctx K B H2 ((D, .lst vr) :: L) J' → (∀ j, j ∈ I → j ∈ J') → Zy (vf e) H2) → (∀ H2 J', p e = false → Ctx K B H2 ((D, .lst vr) :: L) J' → (∀ j, j ∈ I → j ∈ J') → Zn H2) →
      tg (kf e) (wipe σ vs) H1 fun σ2 H2 => wipe σ2 vs = wipe σ vs ∧ tt σ2 H2 fun b H3 => if b = true then te σ2 H3 Zy else Zn H3)
    (k : ∀ H' D, Ctx K B H' ((D, .lst ((es.filter p).map vf)) :: L) I → Q (.ref D) H') : kLc tg tt te vs σ Q J H := by
  refine lc_w w hC (fun D i H1 => Ctx K B H1 ((D, .lst (((es.take i).filter p).map vf)) :: L) I) (fun D H1 hC => hC) (fun D i H1 _ hC => hG H1 _ hC) ?_ ?_
  · rintro i x D H1 H2 hi hC hy
    obtain ⟨rfl, e, he, rfl⟩ := ye hy
    have hl : (((es.take i).filter p).map vf).length ≤ 99000 := by
      rw [List.length_map]
      refine Nat.le_trans (List.length_filter_le _ _) ?_
      rw [List.length_take]
      omega
    refine turn i e _ _ _ _ _ he hC (fun H3 J' hb hC2 hs => ?_) (fun H3 J' hb hC2 hs => ?_)
    · have hC3 : Ctx K B H3 ((D, .lst (((es.take i).filter p).map vf)) :: L) I := hC2.keepI hs
      refine s_app hC3 (hC3.get List.mem_cons_self) (by omega) .here (fun H4 hC4 => ?_)
      rw [take_snoc he, List.filter_append, List.map_append, show ([e] : List ε).filter p = [e] from by simp [hb]]
      exact hC4
    · show Ctx K B H3 ((D, .lst (((es.take (i + 1)).filter p).map vf)) :: L) I
      rw [take_snoc he, List.filter_append, show ([e] : List ε).filter p = [] from by simp [hb], List.append_nil]
      exact hC2.keepI hs
  · rintro D H1 hC
    rw [List.take_length] at hC
    exact k H1 D hC
end
end Ph
namespace Ph
open PySem PySem.Spec PyProof.Rows L2
def rNeLL : R2 := fun x y H Q => ∃ l b xs ys, x = .ref l ∧ y = .ref b ∧ H l = some (.lst xs) ∧ H b = some (.lst ys) ∧ xs.length ≠ ys.length ∧ Q (.bl true) H
def rNeY (K : PySem.W.Frag) : R2 := fun x y H Q => rNeU K x y H Q ∨ rNeLL x y H Q
section
variable {X : Cx}
theorem op_neLL (hu : X.A.units < cLine) : OpR X (compareOp .NotEq) rNeLL := by
  intro pins s σ H x y v u Q I rx ry h
  obtain ⟨l, b, xs, ys, rfl, rfl, el, eb, hlen, q⟩ := h
  obtain rfl : v = Value.ref l := rx
  obtain rfl : u = Value.ref b := ry
  obtain ⟨_, va, ca, ra, da⟩ := (show ObjOk X.prog X.w H s.heap l (.lst xs) from I.hok l _ el)
  obtain ⟨_, vb, cb, rb, db⟩ := (show ObjOk X.prog X.w H s.heap b (.lst ys) from I.hok b _ eb)
  have la : xs.length = va.length := ra.length
  have lb : ys.length = vb.length := rb.length
  refine PySem.SeqAt.RcNeAt.lists_lengths (items := va.toArray) (items2 := vb.toArray) ⟨_, da, rfl, _, rfl⟩ ⟨_, db, rfl, _, rfl⟩ ?_ hu _ _ _ _ (fin_bl I q rfl)
  simp only [List.size_toArray, bne_iff_ne, ne_eq]
  omega
theorem u_neY (hu : X.A.units + 64 < cLine) : OpR X (compareOp .NotEq) (rNeY X.K) := (u_ne hu).or (op_neLL (by omega))
end
section
variable {K : PySem.W.Frag} {H : Hp} {Q : VK} {a b : Addr} {xs : List V}
theorem s_neY (hl : H a = some (.lst xs)) (hm : H b = some (.lst [])) (q : Q (.bl (!xs.isEmpty)) H) : rNeY K (.ref a) (.ref b) H Q := by
  cases xs with
  | nil => exact .inl (s_ne00 hl hm q)
  | cons x r => exact .inr ⟨a, b, _, _, rfl, rfl, hl, hm, by simp, q⟩
end
end Ph
namespace Wk
open PySem PySem.Spec PyProof.Rows L2 Ph
def top (i : Nat) : Stmt := PySem.Challenge.pw_phonestack_k15_who_is_heard.main.body.getD i (.Pass ⟨0, 0, 0, 0⟩)
abbrev s_Player__init : Stmt := inClass (top 5) 0
abbrev N_Player__init : List Str := ["self", "app", "ask"]
theorem sc_Player__init : FnScope N_Player__init ["self", "app", "ask"] (defScope s_Player__init) := ⟨rfl, rfl, rfl, by decide +kernel, rfl, by decide +kernel, by decide +kernel⟩
abbrev s_Call__init : Stmt := inClass (top 6) 0
abbrev N_Call__init : List Str := ["self", "number", "other", "came"]
theorem sc_Call__init : FnScope N_Call__init ["self", "number", "other", "came"] (defScope s_Call__init) := ⟨rfl, rfl, rfl, by decide +kernel, rfl, by decide +kernel, by decide +kernel⟩
abbrev s_Sounds__init : Stmt := inClass (top 7) 0
abbrev N_Sounds__init : List Str := ["self"]
theorem sc_Sounds__init : FnScope N_Sounds__init ["self"] (defScope s_Sounds__init) := ⟨rfl, rfl, rfl, by decide +kernel, rfl, by decide +kernel, by decide +kernel⟩
abbrev s_Sounds_shown : Stmt := inClass (top 7) 1
abbrev N_Sounds_shown : List Str := ["self", "one"]
theorem sc_Sounds_shown : FnScope N_Sounds_shown ["self"] (defScope s_Sounds_shown) := ⟨rfl, rfl, rfl, by decide +kernel, rfl, by decide +kernel, by decide +kernel⟩
abbrev s_Sounds_play : Stmt := inClass (top 7) 2
abbrev N_Sounds_play : List Str := ["self", "app", "ask", "one"]
theorem sc_Sounds_play : FnScope N_Sounds_play ["self", "app", "ask"] (defScope s_Sounds_play) := ⟨rfl, rfl, rfl, by decide +kernel, rfl, by decide +kernel, by decide +kernel⟩
abbrev s_Sounds_stop : Stmt := inClass (top 7) 3
abbrev N_Sounds_stop : List Str := ["self", "app", "one"]
theorem sc_Sounds_stop : FnScope N_Sounds_stop ["self", "app"] (defScope s_Sounds_stop) := ⟨rfl, rfl, rfl, by decide +kernel, rfl, by decide +kernel, by decide +kernel⟩
abbrev s_Sounds_settle : Stmt := inClass (top 7) 4
abbrev N_Sounds_settle : List Str := ["self", "worst", "one"]
theorem sc_Sounds_settle : FnScope N_Sounds_settle ["self"] (defScope s_Sounds_settle) := ⟨rfl, rfl, rfl, by decide +kernel, rfl, by decide +kernel, by decide +kernel⟩
abbrev s_Sounds_call : Stmt := inClass (top 7) 5
abbrev N_Sounds_call : List Str := ["self", "number"]
theorem sc_Sounds_call : FnScope N_Sounds_call ["self", "number"] (defScope s_Sounds_call) := ⟨rfl, rfl, rfl, by decide +kernel, rfl, by decide +kernel, by decide +kernel⟩
abbrev s_Sounds_in_call : Stmt := inClass (top 7) 6
abbrev N_Sounds_in_call : List Str := ["self", "one"]
theorem sc_Sounds_in_call : FnScope N_Sounds_in_call ["self"] (defScope s_Sounds_in_call) := ⟨rfl, rfl, rfl, by decide +kernel, rfl, by decide +kernel, by decide +kernel⟩
abbrev s_Sounds_open_calls : Stmt := inClass (top 7) 7
abbrev N_Sounds_open_calls : List Str := ["self", "number"]
theorem sc_Sounds_open_calls : FnScope N_Sounds_open_calls ["self"] (defScope s_Sounds_open_calls) := ⟨rfl, rfl, rfl, by decide +kernel, rfl, by decide +kernel, by decide +kernel⟩
abbrev s_Sounds_dial : Stmt := inClass (top 7) 8
abbrev N_Sounds_dial : List Str := ["self", "other", "one"]
theorem sc_Sounds_dial : FnScope N_Sounds_dial ["self", "other"] (defScope s_Sounds_dial) := ⟨rfl, rfl, rfl, by decide +kernel, rfl, by decide +kernel, by decide +kernel⟩
abbrev s_Sounds_come : Stmt := inClass (top 7) 9
abbrev N_Sounds_come : List Str := ["self", "other"]
theorem sc_Sounds_come : FnScope N_Sounds_come ["self", "other"] (defScope s_Sounds_come) := ⟨rfl, rfl, rfl, by decide +kernel, rfl, by decide +kernel, by decide +kernel⟩
abbrev s_Sounds_add : Stmt := inClass (top 7) 10
abbrev N_Sounds_add : List Str := ["self", "other", "came"]
theorem sc_Sounds_add : FnScope N_Sounds_add ["self", "other", "came"] (defScope s_Sounds_add) := ⟨rfl, rfl, rfl, by decide +kernel, rfl, by decide +kernel, by decide +kernel⟩
abbrev s_Sounds_hold_active : Stmt := inClass (top 7) 11
abbrev N_Sounds_hold_active : List Str := ["self", "number"]
theorem sc_Sounds_hold_active : FnScope N_Sounds_hold_active ["self"] (defScope s_Sounds_hold_active) := ⟨rfl, rfl, rfl, by decide +kernel, rfl, by decide +kernel, by decide +kernel⟩
abbrev s_Sounds_answer : Stmt := inClass (top 7) 12
abbrev N_Sounds_answer : List Str := ["self", "number", "one"]
theorem sc_Sounds_answer : FnScope N_Sounds_answer ["self", "number"] (defScope s_Sounds_answer) := ⟨rfl, rfl, rfl, by decide +kernel, rfl, by decide +kernel, by decide +kernel⟩
abbrev s_Sounds_swap : Stmt := inClass (top 7) 13
abbrev N_Sounds_swap : List Str := ["self", "number", "states", "one"]
theorem sc_Sounds_swap : FnScope N_Sounds_swap ["self"] (defScope s_Sounds_swap) := ⟨rfl, rfl, rfl, by decide +kernel, rfl, by decide +kernel, by decide +kernel⟩
abbrev s_Sounds_hold : Stmt := inClass (top 7) 14
abbrev N_Sounds_hold : List Str := ["self", "number", "one"]
theorem sc_Sounds_hold : FnScope N_Sounds_hold ["self", "number"] (defScope s_Sounds_hold) := ⟨rfl, rfl, rfl, by decide +kernel, rfl, by decide +kernel, by decide +kernel⟩
abbrev s_Sounds_end : Stmt := inClass (top 7) 15
abbrev N_Sounds_end : List Str := ["self", "number", "one"]
theorem sc_Sounds_end : FnScope N_Sounds_end ["self", "number"] (defScope s_Sounds_end) := ⟨rfl, rfl, rfl, by decide +kernel, rfl, by decide +kernel, by decide +kernel⟩
abbrev s_law_dice : Stmt := top 9
abbrev N_law_dice : List Str := ["cell"]
theorem sc_law_dice : FnScope N_law_dice ["cell"] (defScope s_law_dice) := ⟨rfl, rfl, rfl, by decide +kernel, rfl, by decide +kernel, by decide +kernel⟩
abbrev s_law_roll : Stmt := top 10
abbrev N_law_roll : List Str := ["dice", "many", "found"]
theorem sc_law_roll : FnScope N_law_roll ["dice", "many"] (defScope s_law_roll) := ⟨rfl, rfl, rfl, by decide +kernel, rfl, by decide +kernel, by decide +kernel⟩
abbrev s_law_rounds : Stmt := top 11
abbrev N_law_rounds : List Str := ["script", "most", "cells", "cell"]
theorem sc_law_rounds : FnScope N_law_rounds ["script", "most"] (defScope s_law_rounds) := ⟨rfl, rfl, rfl, by decide +kernel, rfl, by decide +kernel, by decide +kernel⟩
abbrev s_law_told : Stmt := top 12
abbrev N_law_told : List Str := ["what"]
theorem sc_law_told : FnScope N_law_told ["what"] (defScope s_law_told) := ⟨rfl, rfl, rfl, by decide +kernel, rfl, by decide +kernel, by decide +kernel⟩
abbrev s_law_states : Stmt := top 13
abbrev N_law_states : List Str := ["own", "one", "worst", "found", "app", "way"]
theorem sc_law_states : FnScope N_law_states ["own"] (defScope s_law_states) := ⟨rfl, rfl, rfl, by decide +kernel, rfl, by decide +kernel, by decide +kernel⟩
abbrev s_law_deed : Stmt := top 14
abbrev N_law_deed : List Str := ["dice", "own", "sounds", "sort", "number", "calls", "one", "opened", "busy", "actives", "state", "app", "way", "due", "told_now", "row", "fresh", "good", "k"]
theorem sc_law_deed : FnScope N_law_deed ["dice", "own", "sounds"] (defScope s_law_deed) := ⟨rfl, rfl, rfl, by decide +kernel, rfl, by decide +kernel, by decide +kernel⟩
abbrev s_law : Stmt := top 15
abbrev N_law : List Str := ["script", "dice", "sounds", "own", "step", "told_now", "due", "calls", "k", "opened", "row", "bad", "f"]
theorem sc_law : FnScope N_law ["script"] (defScope s_law) := ⟨rfl, rfl, rfl, by decide +kernel, rfl, by decide +kernel, by decide +kernel⟩
structure Adr where
  c_Player : Addr
  c_Call : Addr
  c_Sounds : Addr
  c_SoundFault : Addr
  f_Player__init : Addr
  fd_Player__init : FuncData
  f_Call__init : Addr
  fd_Call__init : FuncData
  f_Sounds__init : Addr
  fd_Sounds__init : FuncData
  f_Sounds_shown : Addr
  fd_Sounds_shown : FuncData
  f_Sounds_play : Addr
  fd_Sounds_play : FuncData
  f_Sounds_stop : Addr
  fd_Sounds_stop : FuncData
  f_Sounds_settle : Addr
  fd_Sounds_settle : FuncData
  f_Sounds_call : Addr
  fd_Sounds_call : FuncData
  f_Sounds_in_call : Addr
  fd_Sounds_in_call : FuncData
  f_Sounds_open_calls : Addr
  fd_Sounds_open_calls : FuncData
  f_Sounds_dial : Addr
  fd_Sounds_dial : FuncData
  f_Sounds_come : Addr
  fd_Sounds_come : FuncData
  f_Sounds_add : Addr
  fd_Sounds_add : FuncData
  f_Sounds_hold_active : Addr
  fd_Sounds_hold_active : FuncData
  f_Sounds_answer : Addr
  fd_Sounds_answer : FuncData
  f_Sounds_swap : Addr
  fd_Sounds_swap : FuncData
  f_Sounds_hold : Addr
  fd_Sounds_hold : FuncData
  f_Sounds_end : Addr
  fd_Sounds_end : FuncData
  f_law_dice : Addr
  fd_law_dice : FuncData
  f_law_roll : Addr
  fd_law_roll : FuncData
  f_law_rounds : Addr
  fd_law_rounds : FuncData
  f_law_told : Addr
  fd_law_told : FuncData
  f_law_states : Addr
  fd_law_states : FuncData
  f_law_deed : Addr
  fd_law_deed : FuncData
  f_law : Addr
  fd_law : FuncData
  cc_Sounds_shown : Addr
  tb_Sounds_shown : Addr
  cc_Sounds_in_call : Addr
  tb_Sounds_in_call : Addr
  cc_Sounds_open_calls : Addr
  tb_Sounds_open_calls : Addr
  cc_Sounds_dial : Addr
  tb_Sounds_dial : Addr
  cc_law_deed : Addr
  tb_law_deed : Addr
  cc_law : Addr
  tb_law : Addr
  g_ASKS : Addr
structure Txt (K : PySem.W.Frag) (mg : Str → Option Value) (a : Adr) : Prop where
  cl_Player : Cls K a.c_Player
  na_Player_app : NoAttr K a.c_Player "app"
  na_Player_way : NoAttr K a.c_Player "way"
  na_Player_state : NoAttr K a.c_Player "state"
  mgc_Player : mg "Player" = some (.ref a.c_Player)
  mk_Player : Mk K a.c_Player a.f_Player__init
  cl_Call : Cls K a.c_Call
  na_Call_number : NoAttr K a.c_Call "number"
  na_Call_other : NoAttr K a.c_Call "other"
  na_Call_came : NoAttr K a.c_Call "came"
  na_Call_state : NoAttr K a.c_Call "state"
  mgc_Call : mg "Call" = some (.ref a.c_Call)
  mk_Call : Mk K a.c_Call a.f_Call__init
  cl_Sounds : Cls K a.c_Sounds
  na_Sounds_players : NoAttr K a.c_Sounds "players"
  na_Sounds_calls : NoAttr K a.c_Sounds "calls"
  na_Sounds_count : NoAttr K a.c_Sounds "count"
  mgc_Sounds : mg "Sounds" = some (.ref a.c_Sounds)
  mk_Sounds : Mk K a.c_Sounds a.f_Sounds__init
  fn_Player__init : FunD K "__init__" "Player.__init__" (defArgs s_Player__init) (defBody s_Player__init) (defScope s_Player__init) [] [] a.f_Player__init a.fd_Player__init
  bi_Player__init : Binds K a.fd_Player__init ["self", "app", "ask"] []
  fn_Call__init : FunD K "__init__" "Call.__init__" (defArgs s_Call__init) (defBody s_Call__init) (defScope s_Call__init) [] [] a.f_Call__init a.fd_Call__init
  bi_Call__init : Binds K a.fd_Call__init ["self", "number", "other", "came"] []
  fn_Sounds__init : FunD K "__init__" "Sounds.__init__" (defArgs s_Sounds__init) (defBody s_Sounds__init) (defScope s_Sounds__init) [] [] a.f_Sounds__init a.fd_Sounds__init
  bi_Sounds__init : Binds K a.fd_Sounds__init ["self"] []
  me_Sounds_shown : Meth K a.c_Sounds "shown" a.f_Sounds_shown
  fn_Sounds_shown : FunD K "shown" "Sounds.shown" (defArgs s_Sounds_shown) (defBody s_Sounds_shown) (defScope s_Sounds_shown) [] [] a.f_Sounds_shown a.fd_Sounds_shown
  bi_Sounds_shown : Binds K a.fd_Sounds_shown ["self"] []
  me_Sounds_play : Meth K a.c_Sounds "play" a.f_Sounds_play
  fn_Sounds_play : FunD K "play" "Sounds.play" (defArgs s_Sounds_play) (defBody s_Sounds_play) (defScope s_Sounds_play) [] [] a.f_Sounds_play a.fd_Sounds_play
  bi_Sounds_play : Binds K a.fd_Sounds_play ["self", "app", "ask"] []
  me_Sounds_stop : Meth K a.c_Sounds "stop" a.f_Sounds_stop
  fn_Sounds_stop : FunD K "stop" "Sounds.stop" (defArgs s_Sounds_stop) (defBody s_Sounds_stop) (defScope s_Sounds_stop) [] [] a.f_Sounds_stop a.fd_Sounds_stop
  bi_Sounds_stop : Binds K a.fd_Sounds_stop ["self", "app"] []
  me_Sounds_settle : Meth K a.c_Sounds "settle" a.f_Sounds_settle
  fn_Sounds_settle : FunD K "settle" "Sounds.settle" (defArgs s_Sounds_settle) (defBody s_Sounds_settle) (defScope s_Sounds_settle) [] [] a.f_Sounds_settle a.fd_Sounds_settle
  bi_Sounds_settle : Binds K a.fd_Sounds_settle ["self"] []
  me_Sounds_call : Meth K a.c_Sounds "call" a.f_Sounds_call
  fn_Sounds_call : FunD K "call" "Sounds.call" (defArgs s_Sounds_call) (defBody s_Sounds_call) (defScope s_Sounds_call) [] [] a.f_Sounds_call a.fd_Sounds_call
  bi_Sounds_call : Binds K a.fd_Sounds_call ["self", "number"] []
  me_Sounds_in_call : Meth K a.c_Sounds "in_call" a.f_Sounds_in_call
  fn_Sounds_in_call : FunD K "in_call" "Sounds.in_call" (defArgs s_Sounds_in_call) (defBody s_Sounds_in_call) (defScope s_Sounds_in_call) [] [] a.f_Sounds_in_call a.fd_Sounds_in_call
  bi_Sounds_in_call : Binds K a.fd_Sounds_in_call ["self"] []
  me_Sounds_open_calls : Meth K a.c_Sounds "open_calls" a.f_Sounds_open_calls
  fn_Sounds_open_calls : FunD K "open_calls" "Sounds.open_calls" (defArgs s_Sounds_open_calls) (defBody s_Sounds_open_calls) (defScope s_Sounds_open_calls) [] [] a.f_Sounds_open_calls a.fd_Sounds_open_calls
  bi_Sounds_open_calls : Binds K a.fd_Sounds_open_calls ["self"] []
  me_Sounds_dial : Meth K a.c_Sounds "dial" a.f_Sounds_dial
  fn_Sounds_dial : FunD K "dial" "Sounds.dial" (defArgs s_Sounds_dial) (defBody s_Sounds_dial) (defScope s_Sounds_dial) [] [] a.f_Sounds_dial a.fd_Sounds_dial
  bi_Sounds_dial : Binds K a.fd_Sounds_dial ["self", "other"] []
  me_Sounds_come : Meth K a.c_Sounds "come" a.f_Sounds_come
  fn_Sounds_come : FunD K "come" "Sounds.come" (defArgs s_Sounds_come) (defBody s_Sounds_come) (defScope s_Sounds_come) [] [] a.f_Sounds_come a.fd_Sounds_come
  bi_Sounds_come : Binds K a.fd_Sounds_come ["self", "other"] []
  me_Sounds_add : Meth K a.c_Sounds "add" a.f_Sounds_add
  fn_Sounds_add : FunD K "add" "Sounds.add" (defArgs s_Sounds_add) (defBody s_Sounds_add) (defScope s_Sounds_add) [] [] a.f_Sounds_add a.fd_Sounds_add
  bi_Sounds_add : Binds K a.fd_Sounds_add ["self", "other", "came"] []
  me_Sounds_hold_active : Meth K a.c_Sounds "hold_active" a.f_Sounds_hold_active
  fn_Sounds_hold_active : FunD K "hold_active" "Sounds.hold_active" (defArgs s_Sounds_hold_active) (defBody s_Sounds_hold_active) (defScope s_Sounds_hold_active) [] [] a.f_Sounds_hold_active a.fd_Sounds_hold_active
  bi_Sounds_hold_active : Binds K a.fd_Sounds_hold_active ["self"] []
  me_Sounds_answer : Meth K a.c_Sounds "answer" a.f_Sounds_answer
  fn_Sounds_answer : FunD K "answer" "Sounds.answer" (defArgs s_Sounds_answer) (defBody s_Sounds_answer) (defScope s_Sounds_answer) [] [] a.f_Sounds_answer a.fd_Sounds_answer
  bi_Sounds_answer : Binds K a.fd_Sounds_answer ["self", "number"] []
  me_Sounds_swap : Meth K a.c_Sounds "swap" a.f_Sounds_swap
  fn_Sounds_swap : FunD K "swap" "Sounds.swap" (defArgs s_Sounds_swap) (defBody s_Sounds_swap) (defScope s_Sounds_swap) [] [] a.f_Sounds_swap a.fd_Sounds_swap
  bi_Sounds_swap : Binds K a.fd_Sounds_swap ["self"] []
  me_Sounds_hold : Meth K a.c_Sounds "hold" a.f_Sounds_hold
  fn_Sounds_hold : FunD K "hold" "Sounds.hold" (defArgs s_Sounds_hold) (defBody s_Sounds_hold) (defScope s_Sounds_hold) [] [] a.f_Sounds_hold a.fd_Sounds_hold
  bi_Sounds_hold : Binds K a.fd_Sounds_hold ["self", "number"] []
  me_Sounds_end : Meth K a.c_Sounds "end" a.f_Sounds_end
  fn_Sounds_end : FunD K "end" "Sounds.end" (defArgs s_Sounds_end) (defBody s_Sounds_end) (defScope s_Sounds_end) [] [] a.f_Sounds_end a.fd_Sounds_end
  bi_Sounds_end : Binds K a.fd_Sounds_end ["self", "number"] []
  mg_law_dice : mg "_law_dice" = some (.ref a.f_law_dice)
  fn_law_dice : FunD K "_law_dice" "_law_dice" (defArgs s_law_dice) (defBody s_law_dice) (defScope s_law_dice) [] [] a.f_law_dice a.fd_law_dice
  bi_law_dice : Binds K a.fd_law_dice ["cell"] []
  mg_law_roll : mg "_law_roll" = some (.ref a.f_law_roll)
  fn_law_roll : FunD K "_law_roll" "_law_roll" (defArgs s_law_roll) (defBody s_law_roll) (defScope s_law_roll) [] [] a.f_law_roll a.fd_law_roll
  bi_law_roll : Binds K a.fd_law_roll ["dice", "many"] []
  mg_law_rounds : mg "_law_rounds" = some (.ref a.f_law_rounds)
  fn_law_rounds : FunD K "_law_rounds" "_law_rounds" (defArgs s_law_rounds) (defBody s_law_rounds) (defScope s_law_rounds) [] [] a.f_law_rounds a.fd_law_rounds
  bi_law_rounds : Binds K a.fd_law_rounds ["script", "most"] []
  mg_law_told : mg "_law_told" = some (.ref a.f_law_told)
  fn_law_told : FunD K "_law_told" "_law_told" (defArgs s_law_told) (defBody s_law_told) (defScope s_law_told) [] [] a.f_law_told a.fd_law_told
  bi_law_told : Binds K a.fd_law_told ["what"] []
  mg_law_states : mg "_law_states" = some (.ref a.f_law_states)
  fn_law_states : FunD K "_law_states" "_law_states" (defArgs s_law_states) (defBody s_law_states) (defScope s_law_states) [] [] a.f_law_states a.fd_law_states
  bi_law_states : Binds K a.fd_law_states ["own"] []
  mg_law_deed : mg "_law_deed" = some (.ref a.f_law_deed)
  fn_law_deed : FunD K "_law_deed" "_law_deed" (defArgs s_law_deed) (defBody s_law_deed) (defScope s_law_deed) [] [] a.f_law_deed a.fd_law_deed
  bi_law_deed : Binds K a.fd_law_deed ["dice", "own", "sounds"] []
  mg_law : mg "law" = some (.ref a.f_law)
  fn_law : FunD K "law" "law" (defArgs s_law) (defBody s_law) (defScope s_law) [] [] a.f_law a.fd_law
  bi_law : Binds K a.fd_law ["script"] []
  no_abs : mg "abs" = none
  no_any : mg "any" = none
  no_dict : mg "dict" = none
  no_int : mg "int" = none
  no_len : mg "len" = none
  no_list : mg "list" = none
  no_min : mg "min" = none
  no_range : mg "range" = none
  no_sorted : mg "sorted" = none
  no_tuple : mg "tuple" = none
  gl_ASKS : mg "ASKS" = some (.ref a.g_ASKS)
  tp_ASKS : TupK K a.g_ASKS [.str "long", .str "short", .str "beside"]
  mgc_SoundFault : mg "SoundFault" = some (.ref a.c_SoundFault)
  xc_SoundFault : PySem.W.excIn K a.c_SoundFault [.type "ValueError", .type "Exception", .type "BaseException", .type "object"] "ValueError.__new__" = true
  kc_SoundFault : PySem.W.keepIn K (.ref a.c_SoundFault) = true
  bc_SoundFault : PySem.W.subIn K (.ref a.c_SoundFault) (.type "BaseException") = some true
  tc_SoundFault : PySem.W.typeIn K (.ref a.c_SoundFault) = some (.type "type")
  ec_SoundFault : PySem.W.exmOne K (.ref a.c_SoundFault) (.ref a.c_SoundFault) = some true
  cd_Sounds_shown : a.fd_Sounds_shown.code = .ref a.cc_Sounds_shown
  cd_Sounds_in_call : a.fd_Sounds_in_call.code = .ref a.cc_Sounds_in_call
  cd_Sounds_open_calls : a.fd_Sounds_open_calls.code = .ref a.cc_Sounds_open_calls
  cd_Sounds_dial : a.fd_Sounds_dial.code = .ref a.cc_Sounds_dial
  cd_law_deed : a.fd_law_deed.code = .ref a.cc_law_deed
  cd_law : a.fd_law.code = .ref a.cc_law
end Wk
namespace Wk
open PySem PySem.Spec PyProof.Rows L2 Ph
structure PlI where
  nm : Str
  way : Str
  st : Str
/-- a player with its places in the heap: the program's object, the law's row -/
structure PlE where
  c : PlI
  ad : Addr
  dx : Addr
  tp : Addr
structure CI where
  no : Int
  st : Str
  oth : Str
  came : Bool
/-- a call with its places: the program's object, the law's inner dict -/
structure CE where
  c : CI
  ad : Addr
  dx : Addr
  ow : Addr
def WAYS : List Str := ["long", "short", "beside"]
def SCS : List Str := ["calling", "ringing", "active", "held", "ended"]
def INS : List Str := ["calling", "ringing", "active"]
def nextW (w way : Str) : Str := if way = ("short" : Str) then "waiting" else if way = ("beside" : Str) ∧ w = ("playing" : Str) then "softer" else w
def zipW : Str → List PlE → List (PlE × Str)
  | _, [] => []
  | w, e :: r => (e, w) :: zipW (nextW w e.c.way) r
def setX (x : PlE × Str) : PlE := { x.1 with c := { x.1.c with st := x.2 } }
def setP (w : Str) (ps : List PlE) : List PlE := (zipW w ps).map setX
def dropP (app : Str) (ps : List PlE) : List PlE := ps.filter fun e => decide (e.c.nm ≠ app)
def inB (cs : List CE) : Bool := cs.any fun e => decide (e.c.st ∈ INS)
def wst (b : Bool) : Str := if b = true then "waiting" else "playing"
def upC (f : CI → CI) (cs : List CE) : List CE := cs.map fun e => { e with c := f e.c }
def opn (cs : List CE) : List CE := cs.filter fun e => decide (e.c.st ≠ ("ended" : Str))
def act (cs : List CE) : List CE := cs.filter fun e => decide (e.c.st = ("active" : Str))
def opnS (cs : List CE) : List Str := (opn cs).map fun e => e.c.st
def freeB (cs : List CE) : Bool := decide ((opn cs).length < 2) && (opn cs).all fun e => decide (e.c.st = ("active" : Str))
def swapB (cs : List CE) : Bool := decide (srtT (opnS cs) = (["active", "held"] : List Str))
def stC (c : CI) (s : Str) : CI := { c with st := s }
def holdA (c : CI) : CI := if c.st = ("active" : Str) then stC c "held" else c
def oneC (n : Int) (s : Str) (c : CI) : CI := if c.no = n then stC c s else c
def answC (n : Int) (c : CI) : CI := if c.no = n then stC c "active" else holdA c
def swapC (c : CI) : CI := if c.st = ("ended" : Str) then c else if c.st = ("active" : Str) then stC c "held" else stC c "active"
def PD (e : PlE) : PyData := .tuple [.str e.c.nm, .str e.c.way]
def SD (e : PlE) : PyData := .tuple [.str e.c.nm, .str e.c.way, .str e.c.st]
/-! ### in the heap -/
def keysC (cs : List CE) : List (Int × V) := cs.map fun e => (e.c.no, V.ref e.ad)
def ownC (cs : List CE) : List (Int × V) := cs.map fun e => (e.c.no, V.ref e.ow)
def pcell (a : Adr) (e : PlE) : Addr × HO := (e.ad, .ins a.c_Player e.dx [("app", .str e.c.nm), ("way", .str e.c.way), ("state", .str e.c.st)])
def ccell (a : Adr) (e : CE) : Addr × HO := (e.ad, .ins a.c_Call e.dx [("number", .int e.c.no), ("other", .str e.c.oth), ("came", .bl e.c.came), ("state", .str e.c.st)])
def ocell (e : CE) : Addr × HO := (e.ow, .dK [(.inr "state", .str e.c.st)])
def pcells (a : Adr) (ps : List PlE) : List (Addr × HO) := ps.map (pcell a)
def ccells (a : Adr) (cs : List CE) : List (Addr × HO) := cs.map (ccell a)
def ocells (cs : List CE) : List (Addr × HO) := cs.map ocell
abbrev adsP (ps : List PlE) : List V := ps.map fun e => V.ref e.ad
abbrev tpsP (ps : List PlE) : List V := ps.map fun e => V.ref e.tp
abbrev PL (a : Adr) (so dx pl pc : Addr) (ps : List PlE) (cs : List CE) (qs qc qo qd : Array Value) (F : List (Addr × HO)) : List (Addr × HO) :=
  (so, .ins a.c_Sounds dx [("players", .ref pl), ("calls", .ref pc), ("count", .int (cs.length : Nat))]) :: (pl, .lst (adsP ps)) :: (pc, .dK (mI id (keysC cs))) ::
  (a.tb_Sounds_shown, .tbl qs) :: (a.tb_Sounds_in_call, .tbl qc) :: (a.tb_Sounds_open_calls, .tbl qo) :: (a.tb_Sounds_dial, .tbl qd) :: (pcells a ps ++ (ccells a cs ++ F))
structure TQ (qs qc qo qd : Array Value) : Prop where
  s : TriplesOk qs.toList
  c : TriplesOk qc.toList
  o : TriplesOk qo.toList
  d : TriplesOk qd.toList
structure OkC (cs : List CE) : Prop where
  len : cs.length ≤ 60
  pw : (cs.map fun e => e.c.no).Pairwise (· < ·)
  lo : ∀ e, e ∈ cs → 1 ≤ e.c.no
  hi : ∀ e, e ∈ cs → e.c.no ≤ (cs.length : Nat)
  st : ∀ e, e ∈ cs → e.c.st ∈ SCS
structure SV (k : Int) (ps : List PlE) (cs : List CE) : Prop where
  ok : OkC cs
  nms : ∀ e, e ∈ ps → e.c.nm ∈ (["a", "b", "c", "d"] : List Str) ∧ e.c.way ∈ WAYS
  set : setP (wst (inB cs)) ps = ps
  plen : (ps.length : Int) ≤ k
  o2 : (opn cs).length ≤ 2
  a1 : (act cs).length ≤ 1
  cnt : 2 * (cs.length : Int) ≤ k + (opn cs).length
/-! ### the promises -/
def sp_Player__init (K : PySem.W.Frag) (a : Adr) : Sp := fun vs H Q E => vs.length = 3 ∧ ∃ (x dx : Addr) (app ask : Str) (F : List (Addr × HO)), vs = [.ref x, .str app, .str ask] ∧ Lay H ((x, .ins a.c_Player dx []) :: F) ∧
  ∀ H', Stb H H' → Lay H' ((x, .ins a.c_Player dx [("app", .str app), ("way", .str ask), ("state", .str "playing")]) :: F) → Q .non H'
def sp_Call__init (K : PySem.W.Frag) (a : Adr) : Sp := fun vs H Q E => vs.length = 4 ∧ ∃ (x dx : Addr) (n : Int) (oth : Str) (b : Bool) (F : List (Addr × HO)), vs = [.ref x, .int n, .str oth, .bl b] ∧ Lay H ((x, .ins a.c_Call dx []) :: F) ∧
  ∀ H', Stb H H' → Lay H' ((x, .ins a.c_Call dx [("number", .int n), ("other", .str oth), ("came", .bl b), ("state", .str (if b = true then "ringing" else "calling"))]) :: F) → Q .non H'
def sp_Sounds__init (K : PySem.W.Frag) (a : Adr) : Sp := fun vs H Q E => vs.length = 1 ∧ ∃ (x dx : Addr) (F : List (Addr × HO)), vs = [.ref x] ∧ Lay H ((x, .ins a.c_Sounds dx []) :: F) ∧
  ∀ H' pl pc, Stb H H' → Lay H' ((x, .ins a.c_Sounds dx [("players", .ref pl), ("calls", .ref pc), ("count", .int 0)]) :: (pl, .lst []) :: (pc, .dK []) :: F) → Q .non H'
def sp_Sounds_shown (K : PySem.W.Frag) (a : Adr) : Sp := fun vs H Q E => vs.length = 1 ∧ ∃ (so dx pl pc : Addr) (ps : List PlE) (cs : List CE) (qs qc qo qd : Array Value) (F : List (Addr × HO)), vs = [.ref so] ∧ Lay H (PL a so dx pl pc ps cs qs qc qo qd F) ∧ ps.length ≤ 200 ∧ TQ qs qc qo qd ∧
  ∀ H' p vr qs', Stb H H' → Lay H' (PL a so dx pl pc ps cs qs' qc qo qd F) → TQ qs' qc qo qd → SqT K H' p vr → TDs K H' vr (ps.map SD) → Q (.ref p) H'
def sp_Sounds_in_call (K : PySem.W.Frag) (a : Adr) : Sp := fun vs H Q E => vs.length = 1 ∧ ∃ (so dx pl pc : Addr) (ps : List PlE) (cs : List CE) (qs qc qo qd : Array Value) (F : List (Addr × HO)), vs = [.ref so] ∧ Lay H (PL a so dx pl pc ps cs qs qc qo qd F) ∧ OkC cs ∧ TQ qs qc qo qd ∧
  ∀ H' qc', Stb H H' → Lay H' (PL a so dx pl pc ps cs qs qc' qo qd F) → TQ qs qc' qo qd → Q (.bl (inB cs)) H'
def sp_Sounds_settle (K : PySem.W.Frag) (a : Adr) : Sp := fun vs H Q E => vs.length = 1 ∧ ∃ (so dx pl pc : Addr) (ps : List PlE) (cs : List CE) (qs qc qo qd : Array Value) (F : List (Addr × HO)), vs = [.ref so] ∧ Lay H (PL a so dx pl pc ps cs qs qc qo qd F) ∧ OkC cs ∧ ps.length ≤ 200 ∧ TQ qs qc qo qd ∧
  ∀ H' qc', Stb H H' → Lay H' (PL a so dx pl pc (setP (wst (inB cs)) ps) cs qs qc' qo qd F) → TQ qs qc' qo qd → Q .non H'
/-- the players behind a play -/
def playE (app ask : Str) (ad d tp : Addr) (ps : List PlE) : List PlE := setP "playing" (⟨⟨app, ask, "playing"⟩, ad, d, tp⟩ :: (if ask = ("long" : Str) then [] else dropP app ps))
def sp_Sounds_play (K : PySem.W.Frag) (a : Adr) : Sp := fun vs H Q E => vs.length = 3 ∧ ∃ (so dx pl pc : Addr) (app ask : Str) (ps : List PlE) (cs : List CE) (qs qc qo qd : Array Value) (F : List (Addr × HO)), vs = [.ref so, .str app, .str ask] ∧ Lay H (PL a so dx pl pc ps cs qs qc qo qd F) ∧ OkC cs ∧ ps.length ≤ 150 ∧ TQ qs qc qo qd ∧
  (ask ∉ WAYS → ∀ H', Stb H H' → Lay H' (PL a so dx pl pc ps cs qs qc qo qd F) → E (.ref a.c_SoundFault) none H') ∧
  (ask ∈ WAYS → inB cs = true → ∀ H' qc', Stb H H' → Lay H' (PL a so dx pl pc ps cs qs qc' qo qd F) → TQ qs qc' qo qd → Q (.bl false) H') ∧
  (ask ∈ WAYS → inB cs = false → ∀ H' qc' pl' ad d, Stb H H' → Lay H' (PL a so dx pl' pc (playE app ask ad d ad ps) cs qs qc' qo qd F) → TQ qs qc' qo qd → Q (.bl true) H')
def sp_Sounds_stop (K : PySem.W.Frag) (a : Adr) : Sp := fun vs H Q E => vs.length = 2 ∧ ∃ (so dx pl pc : Addr) (app : Str) (ps : List PlE) (cs : List CE) (qs qc qo qd : Array Value) (F : List (Addr × HO)), vs = [.ref so, .str app] ∧ Lay H (PL a so dx pl pc ps cs qs qc qo qd F) ∧ OkC cs ∧ ps.length ≤ 150 ∧ TQ qs qc qo qd ∧
  ∀ H' qc' pl', Stb H H' → Lay H' (PL a so dx pl' pc (setP (wst (inB cs)) (dropP app ps)) cs qs qc' qo qd F) → TQ qs qc' qo qd → Q .non H'
def sp_Sounds_open_calls (K : PySem.W.Frag) (a : Adr) : Sp := fun vs H Q E => vs.length = 1 ∧ ∃ (so dx pl pc : Addr) (ps : List PlE) (cs : List CE) (qs qc qo qd : Array Value) (F : List (Addr × HO)), vs = [.ref so] ∧ Lay H (PL a so dx pl pc ps cs qs qc qo qd F) ∧ OkC cs ∧ TQ qs qc qo qd ∧
  ∀ H' p qo', Stb H H' → Lay H' (PL a so dx pl pc ps cs qs qc qo' qd F) → TQ qs qc qo' qd → SqT K H' p ((opn cs).map fun e => V.int e.c.no) → Q (.ref p) H'
def sp_Sounds_call (K : PySem.W.Frag) (a : Adr) : Sp := fun vs H Q E => vs.length = 2 ∧ ∃ (so dx pl pc : Addr) (n : Int) (ps : List PlE) (cs : List CE) (qs qc qo qd : Array Value) (F : List (Addr × HO)), vs = [.ref so, .int n] ∧ Lay H (PL a so dx pl pc ps cs qs qc qo qd F) ∧ OkC cs ∧
  (∀ e, e ∈ cs → e.c.no = n → Q (.ref e.ad) H) ∧ ((∀ e, e ∈ cs → e.c.no ≠ n) → ∀ H', Stb H H' → Lay H' (PL a so dx pl pc ps cs qs qc qo qd F) → E (.ref a.c_SoundFault) none H')
/-- the calls with a new one -/
def newC (cs : List CE) (st oth : Str) (came : Bool) (ad d ow : Addr) : List CE := cs ++ [⟨⟨(cs.length : Nat) + 1, st, oth, came⟩, ad, d, ow⟩]
def sp_Sounds_add (K : PySem.W.Frag) (a : Adr) : Sp := fun vs H Q E => vs.length = 3 ∧ ∃ (so dx pl pc : Addr) (oth : Str) (b : Bool) (ps : List PlE) (cs : List CE) (qs qc qo qd : Array Value) (F : List (Addr × HO)), vs = [.ref so, .str oth, .bl b] ∧ Lay H (PL a so dx pl pc ps cs qs qc qo qd F) ∧ OkC cs ∧ cs.length ≤ 50 ∧ ps.length ≤ 200 ∧ TQ qs qc qo qd ∧
  ∀ H' qc' ad d, Stb H H' → Lay H' (PL a so dx pl pc (setP "waiting" ps) (newC cs (if b = true then "ringing" else "calling") oth b ad d ad) qs qc' qo qd F) → TQ qs qc' qo qd → Q (.int ((cs.length : Nat) + 1)) H'
def sp_Sounds_hold_active (K : PySem.W.Frag) (a : Adr) : Sp := fun vs H Q E => vs.length = 1 ∧ ∃ (so dx pl pc : Addr) (ps : List PlE) (cs : List CE) (qs qc qo qd : Array Value) (F : List (Addr × HO)), vs = [.ref so] ∧ Lay H (PL a so dx pl pc ps cs qs qc qo qd F) ∧ OkC cs ∧ TQ qs qc qo qd ∧
  ∀ H' qo', Stb H H' → Lay H' (PL a so dx pl pc ps (upC holdA cs) qs qc qo' qd F) → TQ qs qc qo' qd → Q .non H'
def sp_Sounds_dial (K : PySem.W.Frag) (a : Adr) : Sp := fun vs H Q E => vs.length = 2 ∧ ∃ (so dx pl pc : Addr) (oth : Str) (ps : List PlE) (cs : List CE) (qs qc qo qd : Array Value) (F : List (Addr × HO)), vs = [.ref so, .str oth] ∧ Lay H (PL a so dx pl pc ps cs qs qc qo qd F) ∧ OkC cs ∧ cs.length ≤ 50 ∧ ps.length ≤ 200 ∧ TQ qs qc qo qd ∧
  (freeB cs = true → ∀ H' qc' qo' qd' ad d, Stb H H' → Lay H' (PL a so dx pl pc (setP "waiting" ps) (newC (upC holdA cs) "calling" oth false ad d ad) qs qc' qo' qd' F) → TQ qs qc' qo' qd' → Q (.int ((cs.length : Nat) + 1)) H') ∧
  (freeB cs = false → ∀ H' qo' qd', Stb H H' → Lay H' (PL a so dx pl pc ps cs qs qc qo' qd' F) → TQ qs qc qo' qd' → E (.ref a.c_SoundFault) none H')
def sp_Sounds_come (K : PySem.W.Frag) (a : Adr) : Sp := fun vs H Q E => vs.length = 2 ∧ ∃ (so dx pl pc : Addr) (oth : Str) (ps : List PlE) (cs : List CE) (qs qc qo qd : Array Value) (F : List (Addr × HO)), vs = [.ref so, .str oth] ∧ Lay H (PL a so dx pl pc ps cs qs qc qo qd F) ∧ OkC cs ∧ cs.length ≤ 50 ∧ ps.length ≤ 200 ∧ TQ qs qc qo qd ∧
  ((opn cs).length < 2 → ∀ H' qc' qo' ad d, Stb H H' → Lay H' (PL a so dx pl pc (setP "waiting" ps) (newC cs "ringing" oth true ad d ad) qs qc' qo' qd F) → TQ qs qc' qo' qd → Q (.int ((cs.length : Nat) + 1)) H') ∧
  (¬ (opn cs).length < 2 → ∀ H' qo', Stb H H' → Lay H' (PL a so dx pl pc ps cs qs qc qo' qd F) → TQ qs qc qo' qd → Q .non H')
def answB (cs : List CE) (n : Int) : Bool := cs.any fun e => decide (e.c.no = n ∧ (e.c.st = ("calling" : Str) ∨ e.c.st = ("ringing" : Str)))
def holdB (cs : List CE) (n : Int) : Bool := cs.any fun e => decide (e.c.no = n ∧ (e.c.st = ("active" : Str) ∨ e.c.st = ("held" : Str) ∧ (opn cs).length = 1))
def endB (cs : List CE) (n : Int) : Bool := cs.any fun e => decide (e.c.no = n ∧ e.c.st ≠ ("ended" : Str))
def holdC (n : Int) (c : CI) : CI := if c.no = n then stC c (if c.st = ("active" : Str) then "held" else "active") else c
abbrev spNo (K : PySem.W.Frag) (a : Adr) (g : List CE → Int → Bool) (f : Int → CI → CI) : Sp := fun vs H Q E => vs.length = 2 ∧ ∃ (so dx pl pc : Addr) (n : Int) (ps : List PlE) (cs : List CE) (qs qc qo qd : Array Value) (F : List (Addr × HO)), vs = [.ref so, .int n] ∧ Lay H (PL a so dx pl pc ps cs qs qc qo qd F) ∧ OkC cs ∧ ps.length ≤ 200 ∧ TQ qs qc qo qd ∧
  (g cs n = true → ∀ H' qc' qo', Stb H H' → Lay H' (PL a so dx pl pc (setP (wst (inB (upC (f n) cs))) ps) (upC (f n) cs) qs qc' qo' qd F) → TQ qs qc' qo' qd → Q .non H') ∧
  (g cs n = false → ∀ H' qo', Stb H H' → Lay H' (PL a so dx pl pc ps cs qs qc qo' qd F) → TQ qs qc qo' qd → E (.ref a.c_SoundFault) none H')
def sp_Sounds_answer (K : PySem.W.Frag) (a : Adr) : Sp := spNo K a answB answC
def sp_Sounds_hold (K : PySem.W.Frag) (a : Adr) : Sp := spNo K a holdB holdC
def sp_Sounds_end (K : PySem.W.Frag) (a : Adr) : Sp := spNo K a endB fun n => oneC n "ended"
def sp_Sounds_swap (K : PySem.W.Frag) (a : Adr) : Sp := fun vs H Q E => vs.length = 1 ∧ ∃ (so dx pl pc : Addr) (ps : List PlE) (cs : List CE) (qs qc qo qd : Array Value) (F : List (Addr × HO)), vs = [.ref so] ∧ Lay H (PL a so dx pl pc ps cs qs qc qo qd F) ∧ OkC cs ∧ TQ qs qc qo qd ∧
  (swapB cs = true → ∀ H' qo', Stb H H' → Lay H' (PL a so dx pl pc ps (upC swapC cs) qs qc qo' qd F) → TQ qs qc qo' qd → Q .non H') ∧
  (swapB cs = false → ∀ H' qo', Stb H H' → Lay H' (PL a so dx pl pc ps cs qs qc qo' qd F) → TQ qs qc qo' qd → E (.ref a.c_SoundFault) none H')
def sp_law_dice (K : PySem.W.Frag) (a : Adr) : Sp := fun vs H Q E => vs.length = 1 ∧ ∃ (c : Int) (L : List (Addr × HO)), vs = [.int c] ∧ Lay H L ∧ ∀ p H' (i j k : Int), Stb H H' → Lay H' ((p, .lst [.int i, .int j, .int k]) :: L) → Q (.ref p) H'
def sp_law_roll (K : PySem.W.Frag) (a : Adr) : Sp := fun vs H Q E => vs.length = 2 ∧ ∃ (d : Addr) (m i j k : Int) (F : List (Addr × HO)), vs = [.ref d, .int m] ∧ Lay H ((d, .lst [.int i, .int j, .int k]) :: F) ∧ 0 < m ∧ m ≤ 100000000 ∧
  ∀ (r i' j' k' : Int) H', 0 ≤ r → r < m → Stb H H' → Lay H' ((d, .lst [.int i', .int j', .int k']) :: F) → Q (.int r) H'
def DL (ds : List (Addr × Int × Int × Int)) : List (Addr × HO) := ds.map fun d => (d.1, HO.lst [.int d.2.1, .int d.2.2.1, .int d.2.2.2])
def sp_law_rounds (K : PySem.W.Frag) (a : Adr) : Sp := fun vs H Q E => vs.length = 2 ∧ ∃ (s : Addr) (m : Int) (ns : List Int) (L : List (Addr × HO)), vs = [.ref s, .int m] ∧ SqL K H s (ns.map V.int) ∧ Lay H L ∧ 0 ≤ m ∧ m ≤ 1000 ∧
  ∀ p (ds : List (Addr × Int × Int × Int)) H', Stb H H' → Lay H' ((p, .lst (ds.map fun d => V.ref d.1)) :: (DL ds ++ L)) → Q (.ref p) H'
def sp_law_told (K : PySem.W.Frag) (a : Adr) : Sp := fun vs H Q E => vs.length = 1 ∧ False
abbrev OL (od lp cd : Addr) (ps : List PlE) (cs : List CE) (F : List (Addr × HO)) : List (Addr × HO) :=
  (od, .dK [(.inr "players", .ref lp), (.inr "calls", .ref cd)]) :: (lp, .lst (tpsP ps)) :: (cd, .dK (mI id (ownC cs))) :: (ocells cs ++ F)
def sp_law_states (K : PySem.W.Frag) (a : Adr) : Sp := fun vs H Q E => vs.length = 1 ∧ ∃ (od lp cd : Addr) (ps : List PlE) (cs : List CE) (F : List (Addr × HO)), vs = [.ref od] ∧ Lay H (OL od lp cd ps cs F) ∧ OkC cs ∧ ps.length ≤ 200 ∧ TDs K H (tpsP ps) (ps.map PD) ∧
  ∀ H' p vr, Stb H H' → Lay H' (OL od lp cd ps cs F) → SqT K H' p vr → TDs K H' vr ((setP (wst (inB cs)) ps).map SD) → Q (.ref p) H'
abbrev LD (a : Adr) (dd : Addr) (i j l : Int) (so dx pl pc : Addr) (ps : List PlE) (cs : List CE) (qs qc qo qd : Array Value) (tbd : Array Value) (od lp cd : Addr) (F : List (Addr × HO)) : List (Addr × HO) :=
  (dd, .lst [.int i, .int j, .int l]) :: (so, .ins a.c_Sounds dx [("players", .ref pl), ("calls", .ref pc), ("count", .int (cs.length : Nat))]) :: (pl, .lst (adsP ps)) :: (pc, .dK (mI id (keysC cs))) ::
  (a.tb_Sounds_shown, .tbl qs) :: (a.tb_Sounds_in_call, .tbl qc) :: (a.tb_Sounds_open_calls, .tbl qo) :: (a.tb_Sounds_dial, .tbl qd) :: (a.tb_law_deed, .tbl tbd) ::
  (od, .dK [(.inr "players", .ref lp), (.inr "calls", .ref cd)]) :: (lp, .lst (tpsP ps)) :: (cd, .dK (mI id (ownC cs))) :: (pcells a ps ++ (ccells a cs ++ (ocells cs ++ F)))
def sp_law_deed (K : PySem.W.Frag) (a : Adr) : Sp := fun vs H Q E => vs.length = 3 ∧ ∃ (dd so dx pl pc od lp cd : Addr) (i j l k : Int) (ps : List PlE) (cs : List CE) (qs qc qo qd tbd : Array Value) (F : List (Addr × HO)),
  vs = [.ref dd, .ref od, .ref so] ∧ Lay H (LD a dd i j l so dx pl pc ps cs qs qc qo qd tbd od lp cd F) ∧ SV k ps cs ∧ k ≤ 85 ∧ TQ qs qc qo qd ∧ TDs K H (tpsP ps) (ps.map PD) ∧ TabOK (lamq "_law_deed") tbd H ∧
  ∀ H' p x y d pl' lp' cd' i' j' l' ps' cs' qs' qc' qo' qd' tbd' , Stb H H' → SV (k + 1) ps' cs' → Lay H' (LD a dd i' j' l' so dx pl' pc ps' cs' qs' qc' qo' qd' tbd' od lp' cd' F) → TQ qs' qc' qo' qd' → TDs K H' (tpsP ps') (ps'.map PD) → TabOK (lamq "_law_deed") tbd' H' →
    SqT K H' p [x, y] → TD K H' x d → TD K H' y d → Sh 20 d → Q (.ref p) H'
def sp_law (K : PySem.W.Frag) (a : Adr) : Sp := fun vs H Q E => vs.length = 1 ∧ ∃ (s : Addr) (ns : List Int), vs = [.ref s] ∧ SqL K H s (ns.map V.int) ∧ Lay H [(a.tb_Sounds_shown, .tbl #[]), (a.tb_Sounds_in_call, .tbl #[]), (a.tb_Sounds_open_calls, .tbl #[]), (a.tb_Sounds_dial, .tbl #[]), (a.tb_law_deed, .tbl #[]), (a.tb_law, .tbl #[])] ∧ ∀ H', Q (.bl true) H'
end Wk
namespace Wk
open PySem PySem.Spec PyProof.Rows L2 Ph
open LamX (TTold)
open GxR (tAnyS)
def t_Player__init (K : PySem.W.Frag) (a : Adr) (E : XK) : TS :=
  (tSeq (sFld K (tVar 0) (tVar 1) "app") (tSeq (sFld K (tVar 0) (tVar 2) "way") (sFld K (tVar 0) (tC (.str "playing")) "state")))
def t_Call__init (K : PySem.W.Frag) (a : Adr) (E : XK) : TS :=
  (tSeq (sFld K (tVar 0) (tVar 1) "number") (tSeq (sFld K (tVar 0) (tVar 2) "other") (tSeq (sFld K (tVar 0) (tVar 3) "came") (sFld K (tVar 0) (tIf (tTruth K (tVar 3)) (tC (.str "ringing")) (tC (.str "calling"))) "state"))))
def t_Sounds__init (K : PySem.W.Frag) (a : Adr) (E : XK) : TS :=
  (tSeq (sFld K (tVar 0) (tLst tNil) "players") (tSeq (sFld K (tVar 0) tDNewK "calls") (sFld K (tVar 0) (tC (.int 0)) "count")))
def t_Sounds_shown (K : PySem.W.Frag) (a : Adr) (E : XK) : TS :=
  (tRet (tTupX a.tb_Sounds_shown (iList K (tFld K (tVar 0) "players")) (gName 1) tYes (tTup (tCons (tFld K (tVar 1) "app") (tCons (tFld K (tVar 1) "way") (tCons (tFld K (tVar 1) "state") tNil)))) [1]))
def t_Sounds_play_tail0 (K : PySem.W.Frag) (a : Adr) (E : XK) : TS :=
  (tSeq (sFld K (tVar 0) (tOp (rAddU K) (tLst (tCons (tMake a.c_Player (sp_Player__init K a) [] E (tCons (tVar 1) (tCons (tVar 2) tNil))) tNil)) (tFld K (tVar 0) "players")) "players") (tSeq (tDrop (tMeth a.c_Sounds "settle" (sp_Sounds_settle K a) [] E (tVar 0) tNil)) (tRet (tC (.bl true)))))
def t_Sounds_play_tail1 (K : PySem.W.Frag) (a : Adr) (E : XK) : TS :=
  (tSeq (tIfS (tTest (tOp (rEqU K) (tVar 2) (tC (.str "long")))) (sFld K (tVar 0) (tLst tNil) "players") tNext) (t_Sounds_play_tail0 K a E))
def t_Sounds_play_tail2 (K : PySem.W.Frag) (a : Adr) (E : XK) : TS :=
  (tSeq (sFld K (tVar 0) (tLc (iList K (tFld K (tVar 0) "players")) (gName 3) (tTest (tOp (rNeU K) (tFld K (tVar 3) "app") (tVar 1))) (tVar 3) [3]) "players") (t_Sounds_play_tail1 K a E))
def t_Sounds_play (K : PySem.W.Frag) (a : Adr) (E : XK) : TS :=
  (tSeq (tIfS (tTest (tOp (rNotInV K) (tVar 2) (tC (.ref a.g_ASKS)))) (tRaiseE a.c_SoundFault E) tNext) (tSeq (tIfS (tTruth K (tMeth a.c_Sounds "in_call" (sp_Sounds_in_call K a) [] E (tVar 0) tNil)) (tRet (tC (.bl false))) tNext) (t_Sounds_play_tail2 K a E)))
def t_Sounds_stop (K : PySem.W.Frag) (a : Adr) (E : XK) : TS :=
  (tSeq (sFld K (tVar 0) (tLc (iList K (tFld K (tVar 0) "players")) (gName 2) (tTest (tOp (rNeU K) (tFld K (tVar 2) "app") (tVar 1))) (tVar 2) [2]) "players") (tDrop (tMeth a.c_Sounds "settle" (sp_Sounds_settle K a) [] E (tVar 0) tNil)))
def t_Sounds_settle_for0 (K : PySem.W.Frag) (a : Adr) (E : XK) : TS :=
  (tSeq (sFld K (tVar 2) (tVar 1) "state") (tIfS (tTest (tOp (rEqU K) (tFld K (tVar 2) "way") (tC (.str "short")))) (tAsg (tC (.str "waiting")) (gName 1)) (tIfS (tAnd (tTest (tOp (rEqU K) (tFld K (tVar 2) "way") (tC (.str "beside")))) (tTest (tOp (rEqU K) (tVar 1) (tC (.str "playing"))))) (tAsg (tC (.str "softer")) (gName 1)) tNext)))
def t_Sounds_settle_tail1 (K : PySem.W.Frag) (a : Adr) (E : XK) : TS :=
  (tFor (iList K (tFld K (tVar 0) "players")) (gName 2) (t_Sounds_settle_for0 K a E))
def t_Sounds_settle (K : PySem.W.Frag) (a : Adr) (E : XK) : TS :=
  (tSeq (tAsg (tIf (tTruth K (tMeth a.c_Sounds "in_call" (sp_Sounds_in_call K a) [] E (tVar 0) tNil)) (tC (.str "waiting")) (tC (.str "playing"))) (gName 1)) (t_Sounds_settle_tail1 K a E))
def t_Sounds_call (K : PySem.W.Frag) (a : Adr) (E : XK) : TS :=
  (tSeq (tIfS (tTest (tOp (rNotInV K) (tVar 1) (tFld K (tVar 0) "calls"))) (tRaiseE a.c_SoundFault E) tNext) (tRet (tOp (rIxU K) (tFld K (tVar 0) "calls") (tVar 1))))
def t_Sounds_in_call (K : PySem.W.Frag) (a : Adr) (E : XK) : TS :=
  (tRet (tLockE (tAnyX true a.tb_Sounds_in_call (iVals (tFld K (tVar 0) "calls")) (gName 1) tYes (tOp (rInV K) (tFld K (tVar 1) "state") (tTup (tCons (tC (.str "calling")) (tCons (tC (.str "ringing")) (tCons (tC (.str "active")) tNil))))) [1])))
def t_Sounds_open_calls (K : PySem.W.Frag) (a : Adr) (E : XK) : TS :=
  (tRet (tTupX a.tb_Sounds_open_calls (iList K (tCB (rSortU K) (tCons (tFld K (tVar 0) "calls") tNil))) (gName 1) (tTest (tOp (rNeU K) (tFld K (tOp (rIxU K) (tFld K (tVar 0) "calls") (tVar 1)) "state") (tC (.str "ended")))) (tVar 1) [1]))
def t_Sounds_dial (K : PySem.W.Frag) (a : Adr) (E : XK) : TS :=
  (tSeq (tIfS (tOr (tTest (tOp rGe (tCB (rLenU K) (tCons (tMeth a.c_Sounds "open_calls" (sp_Sounds_open_calls K a) [] E (tVar 0) tNil) tNil)) (tC (.int 2)))) (tTruth K (tAnyX true a.tb_Sounds_dial (iTup K (tMeth a.c_Sounds "open_calls" (sp_Sounds_open_calls K a) [] E (tVar 0) tNil)) (gName 2) tYes (tOp (rNeU K) (tFld K (tOp (rIxU K) (tFld K (tVar 0) "calls") (tVar 2)) "state") (tC (.str "active"))) [2]))) (tRaiseE a.c_SoundFault E) tNext) (tSeq (tDrop (tMeth a.c_Sounds "hold_active" (sp_Sounds_hold_active K a) [] E (tVar 0) tNil)) (tRet (tMeth a.c_Sounds "add" (sp_Sounds_add K a) [] E (tVar 0) (tCons (tVar 1) (tCons (tC (.bl false)) tNil))))))
def t_Sounds_come (K : PySem.W.Frag) (a : Adr) (E : XK) : TS :=
  (tSeq (tIfS (tTest (tOp rGe (tCB (rLenU K) (tCons (tMeth a.c_Sounds "open_calls" (sp_Sounds_open_calls K a) [] E (tVar 0) tNil) tNil)) (tC (.int 2)))) (tRet (tC .non)) tNext) (tRet (tMeth a.c_Sounds "add" (sp_Sounds_add K a) [] E (tVar 0) (tCons (tVar 1) (tCons (tC (.bl true)) tNil)))))
def t_Sounds_add (K : PySem.W.Frag) (a : Adr) (E : XK) : TS :=
  (tSeq (sFldAug K (tVar 0) (tC (.int 1)) rIAddU "count") (tSeq (tAsg (tMake a.c_Call (sp_Call__init K a) [] E (tCons (tFld K (tVar 0) "count") (tCons (tVar 1) (tCons (tVar 2) tNil)))) (gSub (tFld K (tVar 0) "calls") (tFld K (tVar 0) "count") rSetU)) (tSeq (tDrop (tMeth a.c_Sounds "settle" (sp_Sounds_settle K a) [] E (tVar 0) tNil)) (tRet (tFld K (tVar 0) "count")))))
def t_Sounds_hold_active_for0 (K : PySem.W.Frag) (a : Adr) (E : XK) : TS :=
  (tIfS (tTest (tOp (rEqU K) (tFld K (tOp (rIxU K) (tFld K (tVar 0) "calls") (tVar 1)) "state") (tC (.str "active")))) (sFld K (tOp (rIxU K) (tFld K (tVar 0) "calls") (tVar 1)) (tC (.str "held")) "state") tNext)
def t_Sounds_hold_active (K : PySem.W.Frag) (a : Adr) (E : XK) : TS :=
  (tFor (iTup K (tMeth a.c_Sounds "open_calls" (sp_Sounds_open_calls K a) [] E (tVar 0) tNil)) (gName 1) (t_Sounds_hold_active_for0 K a E))
def t_Sounds_answer (K : PySem.W.Frag) (a : Adr) (E : XK) : TS :=
  (tSeq (tAsg (tMeth a.c_Sounds "call" (sp_Sounds_call K a) [] E (tVar 0) (tCons (tVar 1) tNil)) (gName 2)) (tSeq (tIfS (tTest (tOp (rNotInV K) (tFld K (tVar 2) "state") (tTup (tCons (tC (.str "calling")) (tCons (tC (.str "ringing")) tNil))))) (tRaiseE a.c_SoundFault E) tNext) (tSeq (tDrop (tMeth a.c_Sounds "hold_active" (sp_Sounds_hold_active K a) [] E (tVar 0) tNil)) (tSeq (sFld K (tVar 2) (tC (.str "active")) "state") (tDrop (tMeth a.c_Sounds "settle" (sp_Sounds_settle K a) [] E (tVar 0) tNil))))))
def t_Sounds_swap_for0 (K : PySem.W.Frag) (a : Adr) (E : XK) : TS :=
  (tSeq (tAsg (tOp (rIxU K) (tFld K (tVar 0) "calls") (tVar 1)) (gName 3)) (sFld K (tVar 3) (tIf (tTest (tOp (rEqU K) (tFld K (tVar 3) "state") (tC (.str "active")))) (tC (.str "held")) (tC (.str "active"))) "state"))
def t_Sounds_swap_tail1 (K : PySem.W.Frag) (a : Adr) (E : XK) : TS :=
  (tFor (iTup K (tMeth a.c_Sounds "open_calls" (sp_Sounds_open_calls K a) [] E (tVar 0) tNil)) (gName 1) (t_Sounds_swap_for0 K a E))
def t_Sounds_swap_tail2 (K : PySem.W.Frag) (a : Adr) (E : XK) : TS :=
  (tSeq (tIfS (tTest (tOp (rNeU K) (tCB (rSortU K) (tCons (tVar 2) tNil)) (tLst (tCons (tC (.str "active")) (tCons (tC (.str "held")) tNil))))) (tRaiseE a.c_SoundFault E) tNext) (t_Sounds_swap_tail1 K a E))
def t_Sounds_swap (K : PySem.W.Frag) (a : Adr) (E : XK) : TS :=
  (tSeq (tAsg (tLc (iTup K (tMeth a.c_Sounds "open_calls" (sp_Sounds_open_calls K a) [] E (tVar 0) tNil)) (gName 1) tYes (tFld K (tOp (rIxU K) (tFld K (tVar 0) "calls") (tVar 1)) "state") [1]) (gName 2)) (t_Sounds_swap_tail2 K a E))
def t_Sounds_hold (K : PySem.W.Frag) (a : Adr) (E : XK) : TS :=
  (tSeq (tAsg (tMeth a.c_Sounds "call" (sp_Sounds_call K a) [] E (tVar 0) (tCons (tVar 1) tNil)) (gName 2)) (tSeq (tIfS (tTest (tOp (rEqU K) (tFld K (tVar 2) "state") (tC (.str "active")))) (sFld K (tVar 2) (tC (.str "held")) "state") (tIfS (tAnd (tTest (tOp (rEqU K) (tFld K (tVar 2) "state") (tC (.str "held")))) (tTest (tOp (rEqU K) (tCB (rLenU K) (tCons (tMeth a.c_Sounds "open_calls" (sp_Sounds_open_calls K a) [] E (tVar 0) tNil) tNil)) (tC (.int 1))))) (sFld K (tVar 2) (tC (.str "active")) "state") (tRaiseE a.c_SoundFault E))) (tDrop (tMeth a.c_Sounds "settle" (sp_Sounds_settle K a) [] E (tVar 0) tNil))))
def t_Sounds_end (K : PySem.W.Frag) (a : Adr) (E : XK) : TS :=
  (tSeq (tAsg (tMeth a.c_Sounds "call" (sp_Sounds_call K a) [] E (tVar 0) (tCons (tVar 1) tNil)) (gName 2)) (tSeq (tIfS (tTest (tOp (rEqU K) (tFld K (tVar 2) "state") (tC (.str "ended")))) (tRaiseE a.c_SoundFault E) tNext) (tSeq (sFld K (tVar 2) (tC (.str "ended")) "state") (tDrop (tMeth a.c_Sounds "settle" (sp_Sounds_settle K a) [] E (tVar 0) tNil)))))
def t_law_dice (K : PySem.W.Frag) (a : Adr) (E : XK) : TS :=
  (tSeq (tIfS (tTest (tChain rLt rLt (tOp rSubU (tC (.int 0)) (tC (.int 10))) (tVar 0) (tC (.int 10)))) (tRet (tLst (tCons (tCB (rAbs) (tCons (tVar 0) tNil)) (tCons (tC (.int 0)) (tCons (tC (.int 2)) tNil))))) tNext) (tRet (tLst (tCons (tVar 0) (tCons (tOp (rAddU K) (tC (.int 1)) (tOp rModU (tCB (rInt1) (tCons (tVar 0) tNil)) (tC (.int 1009)))) (tCons (tCB (rInt1) (tCons (tOp rGe (tVar 0) (tOp rPowU (tC (.int 10)) (tC (.int 18)))) tNil)) tNil))))))
def t_law_roll (K : PySem.W.Frag) (a : Adr) (E : XK) : TS :=
  (tSeq (tIfS (tOr (tTest (tOp (rEqU K) (tOp (rIxU K) (tVar 0) (tC (.int 2))) (tC (.int 2)))) (tAnd (tTest (tOp (rEqU K) (tOp (rIxU K) (tVar 0) (tC (.int 2))) (tC (.int 1)))) (tTest (tOp rGt (tOp (rIxU K) (tVar 0) (tC (.int 0))) (tC (.int 0)))))) (tSeq (tAsg (tOp rModU (tCB (rInt1) (tCons (tOp (rIxU K) (tVar 0) (tC (.int 0))) tNil)) (tVar 1)) (gName 2)) (tSeq (tAsg (tOp rDivU (tOp (rIxU K) (tVar 0) (tC (.int 0))) (tVar 1)) (gSub (tVar 0) (tC (.int 0)) rSetU)) (tRet (tVar 2)))) tNext) (tSeq (tAsg (tC (.int 0)) (gSub (tVar 0) (tC (.int 2)) rSetU)) (tSeq (tIfS (tTest (tOp rGt (tVar 1) (tC (.int 100000000)))) tNever tNext) (tSeq (tAsg (tOp rModU (tCB (rInt1) (tCons (tOp (rAddU K) (tOp (rAddU K) (tOp rMulU (tOp (rIxU K) (tVar 0) (tC (.int 0))) (tC (.int 48271))) (tOp rMulU (tOp (rIxU K) (tVar 0) (tC (.int 1))) (tC (.int 69621)))) (tC (.int 11))) tNil)) (tC (.int 2147483647))) (gSub (tVar 0) (tC (.int 0)) rSetU)) (tSeq (tAsg (tOp (rAddU K) (tOp (rIxU K) (tVar 0) (tC (.int 1))) (tC (.int 1))) (gSub (tVar 0) (tC (.int 1)) rSetU)) (tRet (tOp rModU (tCB (rInt1) (tCons (tOp rDivU (tOp (rIxU K) (tVar 0) (tC (.int 0))) (tC (.int 7))) tNil)) (tVar 1))))))))
def t_law_rounds (K : PySem.W.Frag) (a : Adr) (E : XK) : TS :=
  (tSeq (tAsg (tSl (rSlU K) (tVar 0) tNoPart (tPart (tVar 1))) (gName 2)) (tSeq (tIfS (tTest (tOp (rEqU K) (tVar 2) (tLst tNil))) (tAsg (tLst (tCons (tC (.int 0)) tNil)) (gName 2)) tNext) (tRet (tLc (iList K (tVar 2)) (gName 3) tYes (tCall (sp_law_dice K a) [] E0 (tCons (tVar 3) tNil)) [3]))))
def t_law_states_for0 (K : PySem.W.Frag) (a : Adr) (E : XK) : TS :=
  (tSeq (tDrop (tBM K "list" rAppend (tVar 3) (tCons (tTup (tCons (tVar 4) (tCons (tVar 5) (tCons (tVar 2) tNil)))) tNil))) (tAsg (tIf (tTest (tOp (rEqU K) (tVar 5) (tC (.str "short")))) (tC (.str "waiting")) (tIf (tAnd (tTest (tOp (rEqU K) (tVar 5) (tC (.str "beside")))) (tTest (tOp (rEqU K) (tVar 2) (tC (.str "playing"))))) (tC (.str "softer")) (tVar 2))) (gName 2)))
def t_law_states_tail1 (K : PySem.W.Frag) (a : Adr) (E : XK) : TS :=
  (tRet (tCB (rTupOf K) (tCons (tVar 3) tNil)))
def t_law_states_tail2 (K : PySem.W.Frag) (a : Adr) (E : XK) : TS :=
  (tSeq (tFor (iList K (tOp (rIxU K) (tVar 0) (tC (.str "players")))) (gTup K 2 (gCons (gName 4) (gCons (gName 5) gNil))) (t_law_states_for0 K a E)) (t_law_states_tail1 K a E))
def t_law_states (K : PySem.W.Frag) (a : Adr) (E : XK) : TS :=
  (tSeq (tPar 2 3 (tCons (tIf (tTest (tOp (rNeY K) (tLockE (tLc (iVals (tOp (rIxU K) (tVar 0) (tC (.str "calls")))) (gName 1) (tTest (tOp (rInV K) (tOp (rIxU K) (tVar 1) (tC (.str "state"))) (tLst (tCons (tC (.str "calling")) (tCons (tC (.str "ringing")) (tCons (tC (.str "active")) tNil)))))) (tVar 1) [1])) (tLst tNil))) (tC (.str "waiting")) (tC (.str "playing"))) (tCons (tLst tNil) tNil))) (t_law_states_tail2 K a E))
def t_law_deed_if0 (K : PySem.W.Frag) (a : Adr) (E : XK) : TS :=
  (tAsg (tOp (rAddU K) (tLst (tCons (tTup (tCons (tVar 11) (tCons (tVar 12) tNil))) tNil)) (tIf (tTest (tOp (rNeU K) (tVar 12) (tC (.str "long")))) (tLc (iList K (tOp (rIxU K) (tVar 1) (tC (.str "players")))) (gName 15) (tTest (tOp (rNeU K) (tOp (rIxU K) (tVar 15) (tC (.int 0))) (tVar 11))) (tVar 15) [15]) (tLst tNil))) (gSub (tVar 1) (tC (.str "players")) rSetU))
def t_law_deed_tail1 (K : PySem.W.Frag) (a : Adr) (E : XK) : TS :=
  (tRet (tTup (tCons (tVar 14) (tCons (tVar 13) tNil))))
def t_law_deed_tail2 (K : PySem.W.Frag) (a : Adr) (E : XK) : TS :=
  (tSeq (tIfS (tTest (tOp rIsU (tVar 13) (tC (.bl true)))) (t_law_deed_if0 K a E) tNext) (t_law_deed_tail1 K a E))
def t_law_deed_if3 (K : PySem.W.Frag) (a : Adr) (E : XK) : TS :=
  (tSeq (tAsg (tIf (tTest (tOp (rEqU K) (tVar 12) (tC (.str "loud")))) (tC (.str "SoundFault")) (tNotV (tVar 8))) (gName 13)) (tSeq (tAsg (tLamP a.tb_law_deed (lamq "_law_deed") (TTold K a.c_SoundFault "SoundFault") (fun E => (tMeth a.c_Sounds "play" (sp_Sounds_play K a) [] E (tVar 2) (tCons (tVar 11) (tCons (tVar 12) tNil))))) (gName 14)) (t_law_deed_tail2 K a E)))
def t_law_deed_tail4 (K : PySem.W.Frag) (a : Adr) (E : XK) : TS :=
  (tRet (tTup (tCons (tMeth a.c_Sounds "stop" (sp_Sounds_stop K a) [] E (tVar 2) (tCons (tVar 11) tNil)) (tCons (tC .non) tNil))))
def t_law_deed_if5 (K : PySem.W.Frag) (a : Adr) (E : XK) : TS :=
  (tSeq (tAsg (tLc (iList K (tOp (rIxU K) (tVar 1) (tC (.str "players")))) (gName 15) (tTest (tOp (rNeU K) (tOp (rIxU K) (tVar 15) (tC (.int 0))) (tVar 11))) (tVar 15) [15]) (gSub (tVar 1) (tC (.str "players")) rSetU)) (t_law_deed_tail4 K a E))
def t_law_deed_if6 (K : PySem.W.Frag) (a : Adr) (E : XK) : TS :=
  (tAsg (tCB (rDictU K) (tCons (tOp (rAddU K) (tLockE (tLc (iKeys (tVar 5)) (gName 18) tYes (tTup (tCons (tVar 18) (tCons (tDisp (((tC (.str "state")), (tIf (tTest (tOp (rInV K) (tVar 18) (tVar 9))) (tC (.str "held")) (tOp (rIxU K) (tOp (rIxU K) (tVar 5) (tVar 18)) (tC (.str "state"))))) :: [])) tNil))) [18])) (tLst (tCons (tTup (tCons (tVar 16) (tCons (tDisp (((tC (.str "state")), (tC (.str "calling"))) :: [])) tNil))) tNil))) tNil)) (gSub (tVar 1) (tC (.str "calls")) rSetU))
def t_law_deed_tail7 (K : PySem.W.Frag) (a : Adr) (E : XK) : TS :=
  (tRet (tTup (tCons (tVar 14) (tCons (tIf (tTruth K (tVar 17)) (tVar 16) (tC (.str "SoundFault"))) tNil))))
def t_law_deed_tail8 (K : PySem.W.Frag) (a : Adr) (E : XK) : TS :=
  (tSeq (tIfS (tTruth K (tVar 17)) (t_law_deed_if6 K a E) tNext) (t_law_deed_tail7 K a E))
def t_law_deed_tail9 (K : PySem.W.Frag) (a : Adr) (E : XK) : TS :=
  (tSeq (tAsg (tLamP a.tb_law_deed (lamq "_law_deed") (TTold K a.c_SoundFault "SoundFault") (fun E => (tMeth a.c_Sounds "dial" (sp_Sounds_dial K a) [] E (tVar 2) (tCons (tC (.str "bob")) tNil)))) (gName 14)) (t_law_deed_tail8 K a E))
def t_law_deed_if10 (K : PySem.W.Frag) (a : Adr) (E : XK) : TS :=
  (tSeq (tAsg (tAndV (tOp rLt (tCB (rLenU K) (tCons (tVar 7) tNil)) (tC (.int 2))) (tOp (rEqU K) (tCB (rLenU K) (tCons (tVar 9) tNil)) (tCB (rLenU K) (tCons (tVar 7) tNil)))) (gName 17)) (t_law_deed_tail9 K a E))
def t_law_deed_if11 (K : PySem.W.Frag) (a : Adr) (E : XK) : TS :=
  (tAsg (tCB (rDictU K) (tCons (tOp (rAddU K) (LiI.tListItems (tVar 5)) (tLst (tCons (tTup (tCons (tVar 16) (tCons (tDisp (((tC (.str "state")), (tC (.str "ringing"))) :: [])) tNil))) tNil))) tNil)) (gSub (tVar 1) (tC (.str "calls")) rSetU))
def t_law_deed_tail12 (K : PySem.W.Frag) (a : Adr) (E : XK) : TS :=
  (tRet (tTup (tCons (tVar 14) (tCons (tIf (tTest (tOp rLt (tCB (rLenU K) (tCons (tVar 7) tNil)) (tC (.int 2)))) (tVar 16) (tC .non)) tNil))))
def t_law_deed_tail13 (K : PySem.W.Frag) (a : Adr) (E : XK) : TS :=
  (tSeq (tIfS (tTest (tOp rLt (tCB (rLenU K) (tCons (tVar 7) tNil)) (tC (.int 2)))) (t_law_deed_if11 K a E) tNext) (t_law_deed_tail12 K a E))
def t_law_deed_if14 (K : PySem.W.Frag) (a : Adr) (E : XK) : TS :=
  (tSeq (tAsg (tMeth a.c_Sounds "come" (sp_Sounds_come K a) [] E (tVar 2) (tCons (tC (.str "cy")) tNil)) (gName 14)) (t_law_deed_tail13 K a E))
def t_law_deed_if15 (K : PySem.W.Frag) (a : Adr) (E : XK) : TS :=
  (tAsg (tCB (rDictU K) (tCons (tLockE (tLc (iKeys (tVar 5)) (gName 18) tYes (tTup (tCons (tVar 18) (tCons (tDisp (((tC (.str "state")), (tIf (tTest (tOp (rEqU K) (tVar 18) (tVar 4))) (tC (.str "active")) (tIf (tTest (tOp (rInV K) (tVar 18) (tVar 9))) (tC (.str "held")) (tOp (rIxU K) (tOp (rIxU K) (tVar 5) (tVar 18)) (tC (.str "state")))))) :: [])) tNil))) [18])) tNil)) (gSub (tVar 1) (tC (.str "calls")) rSetU))
def t_law_deed_tail16 (K : PySem.W.Frag) (a : Adr) (E : XK) : TS :=
  (tRet (tTup (tCons (tVar 14) (tCons (tIf (tTruth K (tVar 17)) (tC .non) (tC (.str "SoundFault"))) tNil))))
def t_law_deed_tail17 (K : PySem.W.Frag) (a : Adr) (E : XK) : TS :=
  (tSeq (tIfS (tTruth K (tVar 17)) (t_law_deed_if15 K a E) tNext) (t_law_deed_tail16 K a E))
def t_law_deed_if18 (K : PySem.W.Frag) (a : Adr) (E : XK) : TS :=
  (tSeq (tPar 14 17 (tCons (tLamP a.tb_law_deed (lamq "_law_deed") (TTold K a.c_SoundFault "SoundFault") (fun E => (tMeth a.c_Sounds "answer" (sp_Sounds_answer K a) [] E (tVar 2) (tCons (tVar 4) tNil)))) (tCons (tOp (rInV K) (tVar 10) (tLst (tCons (tC (.str "calling")) (tCons (tC (.str "ringing")) tNil)))) tNil))) (t_law_deed_tail17 K a E))
def t_law_deed_if19 (K : PySem.W.Frag) (a : Adr) (E : XK) : TS :=
  (tAsg (tCB (rDictU K) (tCons (tLockE (tLc (iKeys (tVar 5)) (gName 18) tYes (tTup (tCons (tVar 18) (tCons (tDisp (((tC (.str "state")), (tGet2 (tDisp (((tC (.str "active")), (tC (.str "held"))) :: (((tC (.str "held")), (tC (.str "active"))) :: []))) (tOp (rIxU K) (tOp (rIxU K) (tVar 5) (tVar 18)) (tC (.str "state"))) (tC (.str "ended")))) :: [])) tNil))) [18])) tNil)) (gSub (tVar 1) (tC (.str "calls")) rSetU))
def t_law_deed_tail20 (K : PySem.W.Frag) (a : Adr) (E : XK) : TS :=
  (tRet (tTup (tCons (tVar 14) (tCons (tIf (tTruth K (tVar 17)) (tC .non) (tC (.str "SoundFault"))) tNil))))
def t_law_deed_tail21 (K : PySem.W.Frag) (a : Adr) (E : XK) : TS :=
  (tSeq (tIfS (tTruth K (tVar 17)) (t_law_deed_if19 K a E) tNext) (t_law_deed_tail20 K a E))
def t_law_deed_tail22 (K : PySem.W.Frag) (a : Adr) (E : XK) : TS :=
  (tSeq (tAsg (tLamP a.tb_law_deed (lamq "_law_deed") (TTold K a.c_SoundFault "SoundFault") (fun E => (tMeth a.c_Sounds "swap" (sp_Sounds_swap K a) [] E (tVar 2) tNil))) (gName 14)) (t_law_deed_tail21 K a E))
def t_law_deed_if23 (K : PySem.W.Frag) (a : Adr) (E : XK) : TS :=
  (tSeq (tAsg (tOp (rEqU K) (tCB (rSortU K) (tCons (tLc (iList K (tVar 7)) (gName 18) tYes (tOp (rIxU K) (tOp (rIxU K) (tVar 5) (tVar 18)) (tC (.str "state"))) [18]) tNil)) (tLst (tCons (tC (.str "active")) (tCons (tC (.str "held")) tNil)))) (gName 17)) (t_law_deed_tail22 K a E))
def t_law_deed_if24 (K : PySem.W.Frag) (a : Adr) (E : XK) : TS :=
  (tSeq (tAsg (tOrV (tOp (rEqU K) (tVar 10) (tC (.str "active"))) (tAndV (tOp (rEqU K) (tVar 10) (tC (.str "held"))) (tOp (rEqU K) (tCB (rLenU K) (tCons (tVar 7) tNil)) (tC (.int 1))))) (gName 17)) (tAsg (tLamP a.tb_law_deed (lamq "_law_deed") (TTold K a.c_SoundFault "SoundFault") (fun E => (tMeth a.c_Sounds "hold" (sp_Sounds_hold K a) [] E (tVar 2) (tCons (tVar 4) tNil)))) (gName 14)))
def t_law_deed_else25 (K : PySem.W.Frag) (a : Adr) (E : XK) : TS :=
  (tSeq (tAsg (tOp (rNotInV K) (tVar 10) (tLst (tCons (tC .non) (tCons (tC (.str "ended")) tNil)))) (gName 17)) (tAsg (tLamP a.tb_law_deed (lamq "_law_deed") (TTold K a.c_SoundFault "SoundFault") (fun E => (tMeth a.c_Sounds "end" (sp_Sounds_end K a) [] E (tVar 2) (tCons (tVar 4) tNil)))) (gName 14)))
def t_law_deed_if26 (K : PySem.W.Frag) (a : Adr) (E : XK) : TS :=
  (tAsg (tIf (tTest (tOp (rEqU K) (tVar 3) (tC (.int 9)))) (tIf (tTest (tOp (rEqU K) (tVar 10) (tC (.str "active")))) (tC (.str "held")) (tC (.str "active"))) (tC (.str "ended"))) (gSub (tVar 6) (tC (.str "state")) rSetU))
def t_law_deed_tail27 (K : PySem.W.Frag) (a : Adr) (E : XK) : TS :=
  (tRet (tTup (tCons (tVar 14) (tCons (tIf (tTruth K (tVar 17)) (tC .non) (tC (.str "SoundFault"))) tNil))))
def t_law_deed_tail28 (K : PySem.W.Frag) (a : Adr) (E : XK) : TS :=
  (tSeq (tIfS (tTruth K (tVar 17)) (t_law_deed_if26 K a E) tNext) (t_law_deed_tail27 K a E))
def t_law_deed_tail29 (K : PySem.W.Frag) (a : Adr) (E : XK) : TS :=
  (tSeq (tAsg (tOp (rAddU K) (tCB (rLenU K) (tCons (tVar 5) tNil)) (tC (.int 1))) (gName 16)) (tSeq (tIfS (tTest (tOp (rEqU K) (tVar 3) (tC (.int 4)))) (t_law_deed_if10 K a E) tNext) (tSeq (tIfS (tTest (tOp (rEqU K) (tVar 3) (tC (.int 5)))) (t_law_deed_if14 K a E) tNext) (tSeq (tIfS (tTest (tOp rLt (tVar 3) (tC (.int 8)))) (t_law_deed_if18 K a E) tNext) (tSeq (tIfS (tTest (tOp (rEqU K) (tVar 3) (tC (.int 8)))) (t_law_deed_if23 K a E) tNext) (tSeq (tIfS (tTest (tOp (rEqU K) (tVar 3) (tC (.int 9)))) (t_law_deed_if24 K a E) (t_law_deed_else25 K a E)) (t_law_deed_tail28 K a E)))))))
def t_law_deed_tail30 (K : PySem.W.Frag) (a : Adr) (E : XK) : TS :=
  (tSeq (tIfS (tTest (tOp rLt (tVar 3) (tC (.int 3)))) (t_law_deed_if3 K a E) tNext) (tSeq (tIfS (tTest (tOp (rEqU K) (tVar 3) (tC (.int 3)))) (t_law_deed_if5 K a E) tNext) (t_law_deed_tail29 K a E)))
def t_law_deed_tail31 (K : PySem.W.Frag) (a : Adr) (E : XK) : TS :=
  (tSeq (tAsg (tTup (tCons (tOp (rIxU K) (tLst (tCons (tC (.str "a")) (tCons (tC (.str "b")) (tCons (tC (.str "c")) (tCons (tC (.str "d")) tNil))))) (tCall (sp_law_roll K a) [] E (tCons (tVar 0) (tCons (tC (.int 4)) tNil)))) (tCons (tOp (rIxU K) (tLst (tCons (tC (.str "long")) (tCons (tC (.str "short")) (tCons (tC (.str "beside")) (tCons (tC (.str "loud")) tNil))))) (tCB (rMin2) (tCons (tC (.int 3)) (tCons (tOp rDivU (tCall (sp_law_roll K a) [] E (tCons (tVar 0) (tCons (tC (.int 7)) tNil))) (tC (.int 2))) tNil)))) tNil))) (gTup K 2 (gCons (gName 11) (gCons (gName 12) gNil)))) (t_law_deed_tail30 K a E))
def t_law_deed_tail32 (K : PySem.W.Frag) (a : Adr) (E : XK) : TS :=
  (tSeq (tAsg (tGet1 (tVar 5) (tVar 4)) (gName 6)) (tSeq (tAsg (tIf (tTest (tOp rIsU (tVar 6) (tC .non))) (tC .non) (tOp (rIxU K) (tVar 6) (tC (.str "state")))) (gName 10)) (t_law_deed_tail31 K a E)))
def t_law_deed_tail33 (K : PySem.W.Frag) (a : Adr) (E : XK) : TS :=
  (tSeq (tAsg (tLc (iList K (tVar 7)) (gName 6) (tTest (tOp (rEqU K) (tOp (rIxU K) (tOp (rIxU K) (tVar 5) (tVar 6)) (tC (.str "state"))) (tC (.str "active")))) (tVar 6) [6]) (gName 9)) (t_law_deed_tail32 K a E))
def t_law_deed_tail34 (K : PySem.W.Frag) (a : Adr) (E : XK) : TS :=
  (tSeq (tAsg (tOp (rNeU K) (tLc (iList K (tVar 7)) (gName 6) (tTest (tOp (rNeU K) (tOp (rIxU K) (tOp (rIxU K) (tVar 5) (tVar 6)) (tC (.str "state"))) (tC (.str "held")))) (tVar 6) [6]) (tLst tNil)) (gName 8)) (t_law_deed_tail33 K a E))
def t_law_deed_tail35 (K : PySem.W.Frag) (a : Adr) (E : XK) : TS :=
  (tSeq (tAsg (tLc (iList K (tCB (rSortU K) (tCons (tVar 5) tNil))) (gName 6) (tTest (tOp (rNeU K) (tOp (rIxU K) (tOp (rIxU K) (tVar 5) (tVar 6)) (tC (.str "state"))) (tC (.str "ended")))) (tVar 6) [6]) (gName 7)) (t_law_deed_tail34 K a E))
def t_law_deed (K : PySem.W.Frag) (a : Adr) (E : XK) : TS :=
  (tSeq (tAsg (tTup (tCons (tCall (sp_law_roll K a) [] E (tCons (tVar 0) (tCons (tC (.int 11)) tNil))) (tCons (tOp (rAddU K) (tC (.int 1)) (tCall (sp_law_roll K a) [] E (tCons (tVar 0) (tCons (tOp (rAddU K) (tCB (rLenU K) (tCons (tOp (rIxU K) (tVar 1) (tC (.str "calls"))) tNil)) (tC (.int 1))) tNil)))) (tCons (tOp (rIxU K) (tVar 1) (tC (.str "calls"))) tNil)))) (gTup K 3 (gCons (gName 3) (gCons (gName 4) (gCons (gName 5) gNil))))) (t_law_deed_tail35 K a E))
def D_law_0 : LamD := (lamOf (eltOf (asgOf ((defBody s_law).getD 1 (.Pass ⟨0, 0, 0, 0⟩))) 3))
def D_law_1 : LamD := (lamOf (eltOf (asgOf ((defBody s_law).getD 1 (.Pass ⟨0, 0, 0, 0⟩))) 2))
def D_law_2 : LamD := (lamOf (eltOf (asgOf ((defBody s_law).getD 1 (.Pass ⟨0, 0, 0, 0⟩))) 1))
def D_law_3 : LamD := (lamOf (eltOf (asgOf ((defBody s_law).getD 1 (.Pass ⟨0, 0, 0, 0⟩))) 0))
abbrev F_law : List LamD := [D_law_0, D_law_1, D_law_2, D_law_3]
def TF_law (K : PySem.W.Frag) (a : Adr) (j : Nat) (E : XK) : TE := match j with
  | 0 => (tMeth a.c_Sounds "play" (sp_Sounds_play K a) [] E (tMake a.c_Sounds (sp_Sounds__init K a) [] E tNil) (tCons (tC (.str "a")) (tCons (tC (.str "loud")) tNil)))
  | 1 => (tMeth a.c_Sounds "swap" (sp_Sounds_swap K a) [] E (tMake a.c_Sounds (sp_Sounds__init K a) [] E tNil) tNil)
  | 2 => (tMeth a.c_Sounds "end" (sp_Sounds_end K a) [] E (tMake a.c_Sounds (sp_Sounds__init K a) [] E tNil) (tCons (tC (.int 1)) tNil))
  | 3 => (tMeth a.c_Sounds "call" (sp_Sounds_call K a) [] E (tMake a.c_Sounds (sp_Sounds__init K a) [] E tNil) (tCons (tC (.int 1)) tNil))
  | _ => fun _ _ _ => False
theorem TF_law_0 {K : PySem.W.Frag} {a : Adr} {E : XK} : TF_law K a 0 E = (tMeth a.c_Sounds "play" (sp_Sounds_play K a) [] E (tMake a.c_Sounds (sp_Sounds__init K a) [] E tNil) (tCons (tC (.str "a")) (tCons (tC (.str "loud")) tNil))) := rfl
theorem TF_law_1 {K : PySem.W.Frag} {a : Adr} {E : XK} : TF_law K a 1 E = (tMeth a.c_Sounds "swap" (sp_Sounds_swap K a) [] E (tMake a.c_Sounds (sp_Sounds__init K a) [] E tNil) tNil) := rfl
theorem TF_law_2 {K : PySem.W.Frag} {a : Adr} {E : XK} : TF_law K a 2 E = (tMeth a.c_Sounds "end" (sp_Sounds_end K a) [] E (tMake a.c_Sounds (sp_Sounds__init K a) [] E tNil) (tCons (tC (.int 1)) tNil)) := rfl
theorem TF_law_3 {K : PySem.W.Frag} {a : Adr} {E : XK} : TF_law K a 3 E = (tMeth a.c_Sounds "call" (sp_Sounds_call K a) [] E (tMake a.c_Sounds (sp_Sounds__init K a) [] E tNil) (tCons (tC (.int 1)) tNil)) := rfl
def t_law_tail0 (K : PySem.W.Frag) (a : Adr) (E : XK) : TS :=
  (tIfS (tOr (tAnd (tTruth K (tMeth a.c_Sounds "in_call" (sp_Sounds_in_call K a) [] E (tVar 2) tNil)) (tTest (tOp (rNeU K) (tLc (iTup K (tMeth a.c_Sounds "shown" (sp_Sounds_shown K a) [] E (tVar 2) tNil)) (gName 10) (tTest (tOp (rNeU K) (tOp (rIxU K) (tVar 10) (tC (.int 2))) (tC (.str "waiting")))) (tVar 10) [10]) (tLst tNil)))) (tTest (tOp (rNeU K) (tMeth a.c_Sounds "in_call" (sp_Sounds_in_call K a) [] E (tVar 2) tNil) (tOp (rNeU K) (tLc (iList K (tVar 9)) (gName 8) (tTest (tOp (rNeU K) (tOp (rIxU K) (tOp (rIxU K) (tVar 7) (tVar 8)) (tC (.str "state"))) (tC (.str "held")))) (tVar 8) [8]) (tLst tNil))))) (tRet (tC (.bl false))) tNext)
def t_law_tail1 (K : PySem.W.Frag) (a : Adr) (E : XK) : TS :=
  (tSeq (tIfS (tOr (tTest (tOp (rNeU K) (tMeth a.c_Sounds "open_calls" (sp_Sounds_open_calls K a) [] E (tVar 2) tNil) (tCB (rTupOf K) (tCons (tVar 9) tNil)))) (tOr (tTest (tOp rGt (tCB (rLenU K) (tCons (tVar 9) tNil)) (tC (.int 2)))) (tTest (tOp rGt (tCB (rLenU K) (tCons (tLc (iList K (tVar 9)) (gName 8) (tTest (tOp (rEqU K) (tOp (rIxU K) (tOp (rIxU K) (tVar 7) (tVar 8)) (tC (.str "state"))) (tC (.str "active")))) (tVar 8) [8]) tNil)) (tC (.int 1)))))) (tRet (tC (.bl false))) tNext) (t_law_tail0 K a E))
def t_law_tail2 (K : PySem.W.Frag) (a : Adr) (E : XK) : TS :=
  (tSeq (tAsg (tLc (iList K (tCB (rSortU K) (tCons (tVar 7) tNil))) (gName 8) (tTest (tOp (rNeU K) (tOp (rIxU K) (tOp (rIxU K) (tVar 7) (tVar 8)) (tC (.str "state"))) (tC (.str "ended")))) (tVar 8) [8]) (gName 9)) (t_law_tail1 K a E))
def t_law_tail3 (K : PySem.W.Frag) (a : Adr) (E : XK) : TS :=
  (tSeq (tIfS (tOr (tTest (tOp (rNeU K) (tVar 5) (tVar 6))) (tOr (tTest (tOp (rNeU K) (tMeth a.c_Sounds "shown" (sp_Sounds_shown K a) [] E (tVar 2) tNil) (tCall (sp_law_states K a) [] E (tCons (tVar 3) tNil)))) (tTest (tOp (rNeU K) (tLc (iList K (tCB (rSortU K) (tCons (tVar 7) tNil))) (gName 8) tYes (tTup (tCons (tVar 8) (tCons (tFld K (tMeth a.c_Sounds "call" (sp_Sounds_call K a) [] E0 (tVar 2) (tCons (tVar 8) tNil)) "state") tNil))) [8]) (tLc (iList K (tCB (rSortU K) (tCons (tVar 7) tNil))) (gName 8) tYes (tTup (tCons (tVar 8) (tCons (tOp (rIxU K) (tOp (rIxU K) (tVar 7) (tVar 8)) (tC (.str "state"))) tNil))) [8]))))) (tRet (tC (.bl false))) tNext) (t_law_tail2 K a E))
def t_law_for4 (K : PySem.W.Frag) (a : Adr) (E : XK) : TS :=
  (tSeq (tAsg (tCall (sp_law_deed K a) [] E (tCons (tVar 1) (tCons (tVar 3) (tCons (tVar 2) tNil)))) (gTup K 2 (gCons (gName 5) (gCons (gName 6) gNil)))) (tSeq (tAsg (tOp (rIxU K) (tVar 3) (tC (.str "calls"))) (gName 7)) (t_law_tail3 K a E)))
def t_law_for5 (K : PySem.W.Frag) (a : Adr) (E : XK) : TS :=
  (tSeq (tAsg (tTup (tCons (tMake a.c_Sounds (sp_Sounds__init K a) [] E tNil) (tCons (tDisp (((tC (.str "players")), (tLst tNil)) :: (((tC (.str "calls")), tDNewK) :: []))) tNil))) (gTup K 2 (gCons (gName 2) (gCons (gName 3) gNil)))) (tFor (iRng1 (tCons (tCall (sp_law_roll K a) [] E (tCons (tVar 1) (tCons (tC (.int 81)) tNil))) tNil)) (gName 4) (t_law_for4 K a E)))
def t_law_tail6 (K : PySem.W.Frag) (a : Adr) (E : XK) : TS :=
  (tRet (tAndV (tOp (rEqU K) (tLc (iList K (tVar 11)) (gName 12) (tTest (tOp (rNeU K) (tToldV K a.c_SoundFault "SoundFault" (lamq "law") 13 12 F_law (TF_law K a)) (tC (.str "SoundFault")))) (tC (.int 1)) [12]) (tLst tNil)) (tAndV (tOp (rEqU K) (tFld K (tMake a.c_Call (sp_Call__init K a) [] E (tCons (tC (.int 1)) (tCons (tC (.str "bob")) (tCons (tC (.bl true)) tNil)))) "state") (tC (.str "ringing"))) (tOp (rEqU K) (tFld K (tMake a.c_Player (sp_Player__init K a) [] E (tCons (tC (.str "a")) (tCons (tC (.str "long")) tNil))) "state") (tC (.str "playing"))))))
def t_law_tail7 (K : PySem.W.Frag) (a : Adr) (E : XK) : TS :=
  (tSeq (tAsg (tLst (tCons (tLamV a.tb_law (lamq "law") D_law_3) (tCons (tLamV a.tb_law (lamq "law") D_law_2) (tCons (tLamV a.tb_law (lamq "law") D_law_1) (tCons (tLamV a.tb_law (lamq "law") D_law_0) tNil))))) (gName 11)) (t_law_tail6 K a E))
def t_law (K : PySem.W.Frag) (a : Adr) (E : XK) : TS :=
  (tSeq (tFor (iList K (tCall (sp_law_rounds K a) [] E (tCons (tVar 0) (tCons (tC (.int 1)) tNil)))) (gName 1) (t_law_for5 K a E)) (t_law_tail7 K a E))
end Wk
namespace Wk
open PySem PySem.Spec PyProof.Rows L2 Ph
section
variable {K : PySem.W.Frag} {a : Adr} {B H : Hp} {Q : VK} {E : XK} {L F O : List (Addr × HO)} {I : List Im}
theorem c_dice {c : Int} (hC : Ctx K B H L I) (k : ∀ p i j l H1, Ctx K B H1 ((p, .lst [.int i, .int j, .int l]) :: L) I → Q (.ref p) H1) : sp_law_dice K a [.int c] H Q E :=
  ⟨rfl, c, L, rfl, hC.lay, fun p H' i j l s y => k p i j l H' (hC.moved s y)⟩
theorem c_roll {d : Addr} {m i j l : Int} (hC : Ctx K B H L I) (pk : Pick (d, .lst [.int i, .int j, .int l]) L F) (h0 : 0 < m) (h1 : m ≤ 100000000)
    (k : ∀ r i' j' l' H1, 0 ≤ r → r < m → Ctx K B H1 ((d, .lst [.int i', .int j', .int l']) :: F) I → Q (.int r) H1) : sp_law_roll K a [.ref d, .int m] H Q E :=
  ⟨rfl, d, m, i, j, l, F, rfl, hC.lay.pick pk, h0, h1, fun r i' j' k' H' r0 r1 s y => k r i' j' k' H' r0 r1 (hC.moved s y)⟩
/-! numbers, cells -/
variable {n : Int} {ps : List PlE} {cs : List CE} {e : CE} {so dx pl pc od lp cd : Addr} {qs qc qo qd : Array Value}
theorem OkC.nd (ok : OkC cs) : (cs.map fun e => e.c.no).Nodup := ok.pw.imp fun h => Int.ne_of_lt h
theorem okc_eq (nd : (cs.map fun e => e.c.no).Nodup) {f : CE} (he : e ∈ cs) (hf : f ∈ cs) (q : e.c.no = f.c.no) : e = f := by
  obtain ⟨i, hi⟩ := List.mem_iff_getElem?.mp he
  obtain ⟨j, hj⟩ := List.mem_iff_getElem?.mp hf
  have a1 : (cs.map fun e => e.c.no)[i]? = some f.c.no := by rw [List.getElem?_map, hi]; exact congrArg some q
  have a2 : (cs.map fun e => e.c.no)[j]? = some f.c.no := by rw [List.getElem?_map, hj]; rfl
  have l1 := (List.getElem?_eq_some_iff.mp a1).1
  have hij : i = j := (List.getElem?_inj l1 nd).mp (a1.trans a2.symm)
  subst hij
  rw [hi] at hj
  exact Option.some.inj hj
theorem keysC_look (ok : OkC cs) (he : e ∈ cs) : look (keysC cs) e.c.no = some (.ref e.ad) := look_of_mem (by unfold keysC; rw [List.map_map]; exact ok.nd) (List.mem_map.mpr ⟨e, he, rfl⟩)
theorem ownC_look (ok : OkC cs) (he : e ∈ cs) : look (ownC cs) e.c.no = some (.ref e.ow) := look_of_mem (by unfold ownC; rw [List.map_map]; exact ok.nd) (List.mem_map.mpr ⟨e, he, rfl⟩)
theorem keysC_none (h : ∀ e, e ∈ cs → e.c.no ≠ n) : look (keysC cs) n = none := look_none.mpr fun p hp => by
  obtain ⟨e, he, rfl⟩ := List.mem_map.mp hp
  exact h e he
theorem ownC_none (h : ∀ e, e ∈ cs → e.c.no ≠ n) : look (ownC cs) n = none := look_none.mpr fun p hp => by
  obtain ⟨e, he, rfl⟩ := List.mem_map.mp hp
  exact h e he
theorem keysC_len : (keysC cs).length = cs.length := by unfold keysC; rw [List.length_map]
theorem ownC_len : (ownC cs).length = cs.length := by unfold ownC; rw [List.length_map]
theorem no_srt (ok : OkC cs) : srtZ (cs.map fun e => e.c.no) = cs.map fun e => e.c.no := srtZ_id (ok.pw.imp fun h => Int.le_of_lt h)
theorem keysC_srt (ok : OkC cs) : srtZ ((keysC cs).map (·.1)) = cs.map fun e => e.c.no := by
  unfold keysC
  rw [List.map_map]
  exact no_srt ok
theorem ownC_srt (ok : OkC cs) : srtZ ((ownC cs).map (·.1)) = cs.map fun e => e.c.no := by
  unfold ownC
  rw [List.map_map]
  exact no_srt ok
theorem ccells_app {fs : List CE} : ccells a (cs ++ fs) = ccells a cs ++ ccells a fs := List.map_append
theorem ocells_app {fs : List CE} : ocells (cs ++ fs) = ocells cs ++ ocells fs := List.map_append
theorem pcells_app {qs : List PlE} : pcells a (ps ++ qs) = pcells a ps ++ pcells a qs := List.map_append
theorem ccells_mid {i : Nat} (h : cs[i]? = some e) : ccells a cs ++ F = ccells a (cs.take i) ++ ccell a e :: (ccells a (cs.drop (i + 1)) ++ F) := by
  conv => lhs; rw [split_cons h]
  rw [ccells_app, List.append_assoc]
  rfl
theorem ocells_mid {i : Nat} (h : cs[i]? = some e) : ocells cs ++ F = ocells (cs.take i) ++ ocell e :: (ocells (cs.drop (i + 1)) ++ F) := by
  conv => lhs; rw [split_cons h]
  rw [ocells_app, List.append_assoc]
  rfl
theorem pcells_mid {i : Nat} {f : PlE} (h : ps[i]? = some f) : pcells a ps ++ F = pcells a (ps.take i) ++ pcell a f :: (pcells a (ps.drop (i + 1)) ++ F) := by
  conv => lhs; rw [split_cons h]
  rw [pcells_app, List.append_assoc]
  rfl
theorem upC_app {f : CI → CI} {fs : List CE} : upC f (cs ++ fs) = upC f cs ++ upC f fs := List.map_append
theorem upC_len {f : CI → CI} : (upC f cs).length = cs.length := by unfold upC; rw [List.length_map]
theorem upC_up {f g : CI → CI} : upC f (upC g cs) = upC (fun c => f (g c)) cs := by unfold upC; rw [List.map_map]; rfl
theorem keysC_up {f : CI → CI} (hf : ∀ c, (f c).no = c.no) : keysC (upC f cs) = keysC cs := by
  unfold keysC upC
  rw [List.map_map]
  exact List.map_congr_left fun e _ => by show ((f e.c).no, V.ref e.ad) = _; rw [hf]
theorem ownC_up {f : CI → CI} (hf : ∀ c, (f c).no = c.no) : ownC (upC f cs) = ownC cs := by
  unfold ownC upC
  rw [List.map_map]
  exact List.map_congr_left fun e _ => by show ((f e.c).no, V.ref e.ow) = _; rw [hf]
theorem no_up {f : CI → CI} (hf : ∀ c, (f c).no = c.no) : (upC f cs).map (fun e => e.c.no) = cs.map fun e => e.c.no := by
  unfold upC
  rw [List.map_map]
  exact List.map_congr_left fun e _ => hf e.c
/-- an update of one call leaves the others -/
theorem upC_one {g : CI → CI} (nd0 : (cs.map fun e => e.c.no).Nodup) {i : Nat} (h : cs[i]? = some e) (hg : ∀ c, c.no ≠ e.c.no → g c = c) : upC g cs = cs.take i ++ { e with c := g e.c } :: cs.drop (i + 1) := by
  have nd : ∀ f, f ∈ cs.take i ∨ f ∈ cs.drop (i + 1) → f.c.no ≠ e.c.no := by
    intro f hf z
    have nd := nd0
    rw [split_cons h, List.map_append, List.map_cons] at nd
    have nd := List.nodup_append.mp nd
    rcases hf with hf | hf
    · exact nd.2.2 f.c.no (List.mem_map.mpr ⟨f, hf, rfl⟩) e.c.no List.mem_cons_self z
    · exact (List.nodup_cons.mp nd.2.1).1 (by rw [← z]; exact List.mem_map.mpr ⟨f, hf, rfl⟩)
  have fx : ∀ l : List CE, (∀ f, f ∈ l → f.c.no ≠ e.c.no) → upC g l = l := fun l hl => by
    unfold upC
    conv => rhs; rw [← List.map_id l]
    refine List.map_congr_left fun f hf => ?_
    show { f with c := g f.c } = f
    rw [hg _ (hl f hf)]
  conv => lhs; rw [split_cons h]
  rw [upC_app, fx _ fun f hf => nd f (.inl hf)]
  show _ ++ { e with c := g e.c } :: upC g (cs.drop (i + 1)) = _
  rw [fx _ fun f hf => nd f (.inr hf)]
theorem put_one {g : CI → CI} (nd0 : (cs.map fun e => e.c.no).Nodup) {i : Nat} (h : cs[i]? = some e) (hg : ∀ c, c.no ≠ e.c.no → g c = c) : ccells a (upC g cs) ++ F = ccells a (cs.take i) ++ ccell a { e with c := g e.c } :: (ccells a (cs.drop (i + 1)) ++ F) := by
  rw [upC_one nd0 h hg, ccells_app, List.append_assoc]
  rfl
theorem put_one2 {g : CI → CI} (nd0 : (cs.map fun e => e.c.no).Nodup) {i : Nat} (h : cs[i]? = some e) (hg : ∀ c, c.no ≠ e.c.no → g c = c) : ocells (upC g cs) ++ F = ocells (cs.take i) ++ ocell { e with c := g e.c } :: (ocells (cs.drop (i + 1)) ++ F) := by
  rw [upC_one nd0 h hg, ocells_app, List.append_assoc]
  rfl
theorem up_at {f : CI → CI} {i : Nat} (h : cs[i]? = some e) : (upC f cs)[i]? = some { e with c := f e.c } := by unfold upC; rw [List.getElem?_map, h]; rfl
theorem OkC.up {f : CI → CI} (ok : OkC cs) (hn : ∀ c, (f c).no = c.no) (hs : ∀ c, c.st ∈ SCS → (f c).st ∈ SCS) : OkC (upC f cs) where
  len := by rw [upC_len]; exact ok.len
  pw := by rw [no_up hn]; exact ok.pw
  lo := fun g hg => by
    obtain ⟨e, he, rfl⟩ := List.mem_map.mp hg
    show 1 ≤ (f e.c).no
    rw [hn]; exact ok.lo e he
  hi := fun g hg => by
    obtain ⟨e, he, rfl⟩ := List.mem_map.mp hg
    show (f e.c).no ≤ _
    rw [hn, upC_len]; exact ok.hi e he
  st := fun g hg => by
    obtain ⟨e, he, rfl⟩ := List.mem_map.mp hg
    exact hs _ (ok.st e he)
theorem OkC.new {st oth : Str} {b : Bool} {ad d ow : Addr} (ok : OkC cs) (h : cs.length ≤ 50) (hs : st ∈ SCS) : OkC (newC cs st oth b ad d ow) where
  len := by unfold newC; rw [List.length_append, List.length_singleton]; omega
  pw := by
    unfold newC
    rw [List.map_append]
    refine List.pairwise_append.mpr ⟨ok.pw, List.pairwise_singleton _ _, fun x hx y hy => ?_⟩
    obtain ⟨e, he, rfl⟩ := List.mem_map.mp hx
    have hy := List.mem_singleton.mp hy
    subst hy
    have := ok.hi e he
    show e.c.no < ((cs.length : Nat) : Int) + 1
    omega
  lo := fun g hg => by
    rcases List.mem_append.mp hg with hg | hg
    · exact ok.lo g hg
    · have hg := List.mem_singleton.mp hg
      subst hg
      show (1 : Int) ≤ (cs.length : Nat) + 1
      omega
  hi := fun g hg => by
    unfold newC
    rw [List.length_append, List.length_singleton]
    rcases List.mem_append.mp hg with hg | hg
    · have := ok.hi g hg
      omega
    · have hg := List.mem_singleton.mp hg
      subst hg
      show ((cs.length : Nat) : Int) + 1 ≤ _
      omega
  st := fun g hg => by
    rcases List.mem_append.mp hg with hg | hg
    · exact ok.st g hg
    · have hg := List.mem_singleton.mp hg
      subst hg
      exact hs
theorem newC_len {st oth : Str} {b : Bool} {ad d ow : Addr} : ((newC cs st oth b ad d ow).length : Int) = (cs.length : Nat) + 1 := by unfold newC; rw [List.length_append, List.length_singleton]; omega
theorem fresh_none (ok : OkC cs) : ∀ e, e ∈ cs → e.c.no ≠ (cs.length : Nat) + 1 := fun e he => by
  have := ok.hi e he
  omega
/-! players -/
def wAt : Str → List PlE → Nat → Str
  | w, _, 0 => w
  | w, [], _ + 1 => w
  | w, e :: r, i + 1 => wAt (nextW w e.c.way) r i
theorem zip_len : ∀ {w : Str} {ps : List PlE}, (zipW w ps).length = ps.length
  | _, [] => rfl
  | w, e :: r => by rw [zipW, List.length_cons, zip_len, List.length_cons]
theorem zip_fst : ∀ {w : Str} {ps : List PlE}, (zipW w ps).map (·.1) = ps
  | _, [] => rfl
  | w, e :: r => by rw [zipW, List.map_cons, zip_fst]
theorem zip_at {x : PlE × Str} (ps : List PlE) : ∀ (w : Str) (i : Nat), (zipW w ps)[i]? = some x → x.2 = wAt w ps i ∧ ps[i]? = some x.1 ∧ wAt w ps (i + 1) = nextW x.2 x.1.c.way := by
  induction ps with
  | nil => intro w i h; simp [zipW] at h
  | cons e r ih =>
    intro w i h
    cases i with
    | zero =>
      simp only [zipW, List.getElem?_cons_zero, Option.some.injEq] at h
      subst h
      exact ⟨rfl, rfl, by cases r <;> rfl⟩
    | succ i =>
      simp only [zipW, List.getElem?_cons_succ] at h
      exact ih _ _ h
theorem setP_len {w : Str} : (setP w ps).length = ps.length := by unfold setP; rw [List.length_map, zip_len]
theorem setP_ads {w : Str} : adsP (setP w ps) = adsP ps := by
  conv => rhs; rw [← zip_fst (w := w) (ps := ps)]
  unfold setP adsP
  rw [List.map_map, List.map_map]
  rfl
theorem setP_tps {w : Str} : tpsP (setP w ps) = tpsP ps := by
  conv => rhs; rw [← zip_fst (w := w) (ps := ps)]
  unfold setP tpsP
  rw [List.map_map, List.map_map]
  rfl
/-! the program's calls -/
theorem c_pinit {x dx : Addr} {app ask : Str} (hC : Ctx K B H ((x, .ins a.c_Player dx []) :: F) I) (k : ∀ H1, Ctx K B H1 ((x, .ins a.c_Player dx [("app", .str app), ("way", .str ask), ("state", .str "playing")]) :: F) I → Q .non H1) : sp_Player__init K a [.ref x, .str app, .str ask] H Q E :=
  ⟨rfl, x, dx, app, ask, F, rfl, hC.lay, fun H1 s y => k H1 (hC.moved s y)⟩
theorem c_cinit {x dx : Addr} {n : Int} {oth : Str} {b : Bool} (hC : Ctx K B H ((x, .ins a.c_Call dx []) :: F) I) (k : ∀ H1, Ctx K B H1 ((x, .ins a.c_Call dx [("number", .int n), ("other", .str oth), ("came", .bl b), ("state", .str (if b = true then "ringing" else "calling"))]) :: F) I → Q .non H1) : sp_Call__init K a [.ref x, .int n, .str oth, .bl b] H Q E :=
  ⟨rfl, x, dx, n, oth, b, F, rfl, hC.lay, fun H1 s y => k H1 (hC.moved s y)⟩
theorem c_sinit {x dx : Addr} (hC : Ctx K B H ((x, .ins a.c_Sounds dx []) :: F) I) (k : ∀ pl pc H1, Ctx K B H1 ((x, .ins a.c_Sounds dx [("players", .ref pl), ("calls", .ref pc), ("count", .int 0)]) :: (pl, .lst []) :: (pc, .dK []) :: F) I → Q .non H1) : sp_Sounds__init K a [.ref x] H Q E :=
  ⟨rfl, x, dx, F, rfl, hC.lay, fun H1 pl pc s y => k pl pc H1 (hC.moved s y)⟩
theorem c_in {b : Bool} (hC : Ctx K B H L I) (p : Perm3 L (PL a so dx pl pc ps cs qs qc qo qd F)) (ok : OkC cs) (tq : TQ qs qc qo qd) (e : inB cs = b) (k : ∀ qc' H1, TQ qs qc' qo qd → Ctx K B H1 (PL a so dx pl pc ps cs qs qc' qo qd F) I → Q (.bl b) H1) : sp_Sounds_in_call K a [.ref so] H Q E :=
  ⟨rfl, so, dx, pl, pc, ps, cs, qs, qc, qo, qd, F, rfl, hC.lay.perm p.lay, ok, tq, fun H' qc' s y t => by rw [e]; exact k qc' H' t (hC.moved s y)⟩
theorem c_settle {w : Str} (hC : Ctx K B H L I) (p : Perm3 L (PL a so dx pl pc ps cs qs qc qo qd F)) (ok : OkC cs) (hl : ps.length ≤ 200) (tq : TQ qs qc qo qd) (e : wst (inB cs) = w) (k : ∀ qc' H1, TQ qs qc' qo qd → Ctx K B H1 (PL a so dx pl pc (setP w ps) cs qs qc' qo qd F) I → Q .non H1) : sp_Sounds_settle K a [.ref so] H Q E :=
  ⟨rfl, so, dx, pl, pc, ps, cs, qs, qc, qo, qd, F, rfl, hC.lay.perm p.lay, ok, hl, tq, fun H' qc' s y t => k qc' H' t (hC.moved s (by rw [← e]; exact y))⟩
theorem c_open (hC : Ctx K B H L I) (p : Perm3 L (PL a so dx pl pc ps cs qs qc qo qd F)) (ok : OkC cs) (tq : TQ qs qc qo qd) (k : ∀ qo' t H1, TQ qs qc qo' qd → Ctx K B H1 (PL a so dx pl pc ps cs qs qc qo' qd F) (.tup t ((opn cs).map fun e => V.int e.c.no) :: I) → Q (.ref t) H1) : sp_Sounds_open_calls K a [.ref so] H Q E :=
  ⟨rfl, so, dx, pl, pc, ps, cs, qs, qc, qo, qd, F, rfl, hC.lay.perm p.lay, ok, tq, fun H' t qo' s y t1 st => k qo' t H' t1 ((hC.moved s y).add (i := .tup t _) st)⟩
theorem c_shown (hC : Ctx K B H L I) (p : Perm3 L (PL a so dx pl pc ps cs qs qc qo qd F)) (hl : ps.length ≤ 200) (tq : TQ qs qc qo qd) (k : ∀ qs' t vr H1, TQ qs' qc qo qd → Ctx K B H1 (PL a so dx pl pc ps cs qs' qc qo qd F) (.tup t vr :: .dats vr (ps.map SD) :: I) → Q (.ref t) H1) : sp_Sounds_shown K a [.ref so] H Q E :=
  ⟨rfl, so, dx, pl, pc, ps, cs, qs, qc, qo, qd, F, rfl, hC.lay.perm p.lay, hl, tq, fun H' t vr qs' s y t1 st td => k qs' t vr H' t1 (((hC.moved s y).add (i := .dats vr _) td).add (i := .tup t _) st)⟩
theorem c_call (hC : Ctx K B H L I) (p : Perm3 L (PL a so dx pl pc ps cs qs qc qo qd F)) (ok : OkC cs) (he : e ∈ cs) (hn : e.c.no = n) (k : Q (.ref e.ad) H) : sp_Sounds_call K a [.ref so, .int n] H Q E :=
  ⟨rfl, so, dx, pl, pc, n, ps, cs, qs, qc, qo, qd, F, rfl, hC.lay.perm p.lay, ok, fun f hf q => by rw [okc_eq ok.nd hf he (q.trans hn.symm)]; exact k, fun h => absurd hn (h e he)⟩
theorem c_callF (hC : Ctx K B H L I) (p : Perm3 L (PL a so dx pl pc ps cs qs qc qo qd F)) (ok : OkC cs) (hn : ∀ e, e ∈ cs → e.c.no ≠ n) (k : ∀ H1, Ctx K B H1 (PL a so dx pl pc ps cs qs qc qo qd F) I → E (.ref a.c_SoundFault) none H1) : sp_Sounds_call K a [.ref so, .int n] H Q E :=
  ⟨rfl, so, dx, pl, pc, n, ps, cs, qs, qc, qo, qd, F, rfl, hC.lay.perm p.lay, ok, fun f hf q => absurd q (hn f hf), fun _ H' s y => k H' (hC.moved s y)⟩
theorem c_hact (hC : Ctx K B H L I) (p : Perm3 L (PL a so dx pl pc ps cs qs qc qo qd F)) (ok : OkC cs) (tq : TQ qs qc qo qd) (k : ∀ qo' H1, TQ qs qc qo' qd → Ctx K B H1 (PL a so dx pl pc ps (upC holdA cs) qs qc qo' qd F) I → Q .non H1) : sp_Sounds_hold_active K a [.ref so] H Q E :=
  ⟨rfl, so, dx, pl, pc, ps, cs, qs, qc, qo, qd, F, rfl, hC.lay.perm p.lay, ok, tq, fun H' qo' s y t => k qo' H' t (hC.moved s y)⟩
theorem c_add {oth : Str} {b : Bool} (hC : Ctx K B H L I) (p : Perm3 L (PL a so dx pl pc ps cs qs qc qo qd F)) (ok : OkC cs) (hl2 : cs.length ≤ 50) (hl : ps.length ≤ 200) (tq : TQ qs qc qo qd)
    (k : ∀ qc' ad d H1, TQ qs qc' qo qd → Ctx K B H1 (PL a so dx pl pc (setP "waiting" ps) (newC cs (if b = true then "ringing" else "calling") oth b ad d ad) qs qc' qo qd F) I → Q (.int ((cs.length : Nat) + 1)) H1) : sp_Sounds_add K a [.ref so, .str oth, .bl b] H Q E :=
  ⟨rfl, so, dx, pl, pc, oth, b, ps, cs, qs, qc, qo, qd, F, rfl, hC.lay.perm p.lay, ok, hl2, hl, tq, fun H' qc' ad d s y t => k qc' ad d H' t (hC.moved s y)⟩
end
end Wk
namespace Wk
open PySem PySem.Spec PyProof.Rows L2 Ph
open LamX (TTold)
open GxR (tAnyS)
set_option hygiene false in
local macro_rules | `(tactic| walk_at "cls") => `(tactic| first | with_reducible exact T.cl_Player | with_reducible exact T.cl_Call | with_reducible exact T.cl_Sounds)
set_option hygiene false in
local macro_rules | `(tactic| walk_at "na") => `(tactic| first | with_reducible exact T.na_Player_app | with_reducible exact T.na_Player_way | with_reducible exact T.na_Player_state | with_reducible exact T.na_Call_number | with_reducible exact T.na_Call_other | with_reducible exact T.na_Call_came | with_reducible exact T.na_Call_state | with_reducible exact T.na_Sounds_players | with_reducible exact T.na_Sounds_calls | with_reducible exact T.na_Sounds_count)
set_option hygiene false in
local macro_rules | `(tactic| walk_at "exc") => `(tactic| first | with_reducible exact T.ec_SoundFault)
set_option hygiene false in
local macro_rules | `(tactic| walk_at "mem") => `(tactic| first | with_reducible assumption | with_reducible exact List.mem_cons_self | with_reducible exact mem_mid | ((with_reducible apply List.mem_cons_of_mem); walk_at "mem") | ((with_reducible apply mem_app); walk_at "mem"))
set_option hygiene false in
local macro_rules | `(tactic| walk_at "up") => `(tactic| first | with_reducible exact Up.here | with_reducible exact Up.mid | ((with_reducible apply Up.there); walk_at "up") | ((with_reducible apply Up.app); walk_at "up"))
set_option hygiene false in
local macro_rules | `(tactic| walk_at "pick") => `(tactic| first | with_reducible exact Pick.here | with_reducible exact Pick.mid | ((with_reducible apply Pick.there); walk_at "pick") | ((with_reducible apply Pick.app); walk_at "pick"))
set_option hygiene false in
local macro_rules | `(tactic| walk_at "set") => `(tactic| first | with_reducible exact SetAt.here | ((with_reducible apply SetAt.there); walk_at "set"))
set_option hygiene false in
local macro_rules | `(tactic| walk_at "lset") => `(tactic| first | with_reducible exact LSet.here | ((with_reducible apply LSet.there); walk_at "lset"))
set_option hygiene false in
local macro_rules | `(tactic| walk_at "sne") => `(tactic| first | (intro hq; exact absurd (Sum.inr.inj hq) (by decide +kernel)) | decide +kernel)
set_option hygiene false in
local macro_rules | `(tactic| walk_at "lk") => `(tactic| first | with_reducible exact Lk.here | ((with_reducible apply Lk.there); (walk_at "sne"); walk_at "lk"))
set_option hygiene false in
local macro_rules | `(tactic| walk_at "nolk") => `(tactic| first | with_reducible exact NoLk.nil | ((with_reducible apply NoLk.there); (walk_at "sne"); walk_at "nolk"))
set_option hygiene false in
local macro_rules | `(tactic| walk_at "put") => `(tactic| first | with_reducible exact Put.nil | with_reducible exact Put.here | ((with_reducible apply Put.there); (walk_at "sne"); walk_at "put"))
set_option hygiene false in
local macro_rules | `(tactic| walk_at "dk") => `(tactic| first | with_reducible exact Dk.here | ((with_reducible apply Dk.there); (walk_at "sne"); walk_at "dk"))
set_option hygiene false in
local macro_rules | `(tactic| walk_at "dno") => `(tactic| first | with_reducible exact DNo.nil | ((with_reducible apply DNo.there); (walk_at "sne"); walk_at "dno"))
set_option hygiene false in
local macro_rules | `(tactic| walk_at "dpt") => `(tactic| first | ((with_reducible apply DPt.here); walk_at "dno") | ((with_reducible apply DPt.there); (walk_at "sne"); walk_at "dpt"))
set_option hygiene false in
local macro_rules | `(tactic| walk_at "get") => `(tactic| exact hC.get (by walk_at "mem"))
set_option hygiene false in
local macro_rules | `(tactic| walk_at "sqt") => `(tactic| exact hC.tup (by walk_at "mem"))
set_option hygiene false in
local macro_rules | `(tactic| walk_at "len") => `(tactic| first | (simp; done) | (simp only [List.length_append, List.length_cons, List.length_nil]; omega) | omega)
set_option hygiene false in
local macro_rules | `(tactic| walk_at "alli") => `(tactic| first | exact AllI.nil | (apply AllI.cons; walk_at "alli"))
set_option hygiene false in
local macro_rules | `(tactic| walk_at "tok") => `(tactic| first | with_reducible exact ToK.nil | ((with_reducible apply ToK.str); walk_at "tok") | ((with_reducible apply ToK.int); walk_at "tok"))
set_option hygiene false in
local macro_rules | `(tactic| walk_at "rdis") => `(tactic| first | with_reducible exact RDis.nil | ((with_reducible apply RDis.cons); (walk_at "dno"); walk_at "rdis"))
set_option hygiene false in
local macro_rules | `(tactic| walk_at "pull") => `(tactic| first | with_reducible exact Pull.here | ((with_reducible apply Pull.there); walk_at "pull"))
set_option hygiene false in
local macro_rules | `(tactic| walk_at "st3") => `(tactic| first
  | with_reducible refine s_for ?_
  | with_reducible refine s_il ?_
  | ((with_reducible refine' s_ilV ?sm ?_); (case sm => walk_at "get"))
  | with_reducible refine s_rng ?_
  | ((with_reducible refine' s_rngV ?s1 ?s2 ?_); (case s1 => omega); (case s2 => omega))
  | with_reducible refine s_sl ?_
  | with_reducible refine s_noPart ?_
  | with_reducible refine s_partE ?_
  | with_reducible refine s_partV ?_
  | ((with_reducible refine' s_slL hC ?sm ?_); (case sm => first | assumption | exact SqL.of (by walk_at "get")); clear hC; intro sp H hC)
  | with_reducible refine s_lc ?_
  | ((with_reducible refine' s_app hC ?sm ?sz ?su ?_); (case sm => walk_at "get"); (case sz => walk_at "len"); (case su => walk_at "up"); clear hC; intro H hC)
  | ((with_reducible refine' s_disp hC ?_); clear hC; intro dp H hC)
  | with_reducible refine s_pair ?_
  | with_reducible refine s_pnil ?_
  | ((with_reducible refine' s_dispV hC ?sm ?sh ?sn ?sz ?su ?_); (case sm => walk_at "get"); (case sh => walk_at "tok"); (case sn => walk_at "rdis"); (case sz => walk_at "len"); (case su => walk_at "up"); clear hC; intro H hC)
  | ((with_reducible refine' s_toldE ?se ?_); (case se => walk_at "exc"))
  | ((with_reducible refine' s_addL hC ?s1 ?s2 ?sz ?_); (case s1 => walk_at "get"); (case s2 => walk_at "get"); (case sz => walk_at "len"); clear hC; intro lp H hC)
  | ((with_reducible refine' s_ixAny ?sm ?sa ?s0 ?s1 ?_); (case sm => walk_at "get"); (case sa => walk_at "alli"); (case s0 => omega); (case s1 => walk_at "len"); intro iz hiz; simp only [List.mem_cons, List.not_mem_nil, or_false] at hiz))
-- a step of no choice
set_option hygiene false in
local macro_rules | `(tactic| walk_at "st0") => `(tactic| first
  | ((with_reducible refine' s_var ?sa ?_); (case sa => first | rfl | assumption))
  | with_reducible refine s_c ?_
  | with_reducible refine s_op ?_
  | with_reducible refine s_fld ?_
  | ((with_reducible refine' s_fldV ?sm ?sc ?sn ?sl ?_); (case sm => walk_at "get"); (case sc => walk_at "cls"); (case sn => walk_at "na"); (case sl => walk_at "lk"))
  | with_reducible refine s_cons ?_
  | with_reducible refine s_nil ?_
  | with_reducible refine s_seq ?_
  | with_reducible refine s_asg ?_
  | ((with_reducible refine' s_name ?sa ?_); (case sa => walk_at "set"))
  | with_reducible refine s_nx ?_
  | with_reducible refine s_next ?_
  | with_reducible refine s_test ?_
  | with_reducible refine s_bl ?_
  | with_reducible refine s_tru ?_
  | with_reducible refine s_truB ?_
  | with_reducible refine s_truN ?_
  | with_reducible refine s_if ?_
  | with_reducible refine s_and ?_
  | with_reducible refine s_or ?_
  | with_reducible refine s_not ?_
  | with_reducible refine s_ifE ?_
  | with_reducible refine iteT ?_
  | with_reducible refine iteF ?_
  | with_reducible refine s_iteNT ?_
  | with_reducible refine s_iteNF ?_)
set_option hygiene false in
local macro_rules | `(tactic| walk_at "st1") => `(tactic| first
  | with_reducible refine s_addI ?_
  | with_reducible refine s_subI ?_
  | with_reducible refine s_iaddI ?_
  | ((with_reducible refine' s_ltT ?sq ?_); (case sq => assumption))
  | ((with_reducible refine' s_ltF ?sq ?_); (case sq => assumption))
  | with_reducible refine s_ltI ?_
  | ((with_reducible refine' s_leT ?sq ?_); (case sq => assumption))
  | ((with_reducible refine' s_leF ?sq ?_); (case sq => assumption))
  | with_reducible refine s_leI ?_
  | ((with_reducible refine' s_gtT ?sq ?_); (case sq => assumption))
  | ((with_reducible refine' s_gtF ?sq ?_); (case sq => assumption))
  | with_reducible refine s_gtI ?_
  | ((with_reducible refine' s_geT ?sq ?_); (case sq => assumption))
  | ((with_reducible refine' s_geF ?sq ?_); (case sq => assumption))
  | with_reducible refine s_geI ?_
  | ((with_reducible refine' s_eqIT ?sq ?_); (case sq => assumption))
  | ((with_reducible refine' s_eqIF ?sq ?_); (case sq => assumption))
  | with_reducible refine s_eqI ?_
  | with_reducible refine s_neIF ?_
  | with_reducible refine s_neI ?_
  | with_reducible refine s_isN_non ?_
  | with_reducible refine s_isN_ref ?_
  | with_reducible refine s_isN_int ?_
  | with_reducible refine s_isN_str ?_
  | with_reducible refine s_notN_non ?_
  | with_reducible refine s_notN_ref ?_
  | with_reducible refine s_notN_int ?_
  | with_reducible refine s_notN_str ?_
  | ((with_reducible refine' s_eqST ?sq ?_); (case sq => with_reducible rfl))
  | with_reducible refine s_eqS ?_
  | with_reducible refine s_neSs ?_
  | with_reducible refine s_neS ?_
  | with_reducible refine s_eqBs ?_
  | with_reducible refine s_eqTF ?_
  | with_reducible refine s_eqFT ?_
  | with_reducible refine s_eqB ?_
  | with_reducible refine s_neBs ?_
  | with_reducible refine s_neTF ?_
  | with_reducible refine s_neFT ?_
  | with_reducible refine s_neB ?_
  | with_reducible refine s_eqNS ?_
  | with_reducible refine s_eqSN ?_
  | with_reducible refine s_neNS ?_
  | ((with_reducible refine' s_mulI ?sc ?_); (case sc => first | exact .inr ⟨by decide, by decide⟩ | exact .inl ⟨by decide, by decide⟩ | exact .inr ⟨by omega, by omega⟩ | exact .inl ⟨by omega, by omega⟩))
  | ((with_reducible refine' s_modI ?sc ?_); (case sc => first | decide | omega))
  | ((with_reducible refine' s_divI ?sc ?_); (case sc => exact ⟨by first | decide | omega, by first | decide | omega⟩))
  | ((with_reducible refine' s_powI ?sc ?_); (case sc => exact ⟨by decide, by decide, by decide⟩))
  | (refine' s_ixT (j := 0) ?sm ?se ?_; (case sm => walk_at "sqt"); (case se => rfl))
  | (refine' s_ixT (j := 1) ?sm ?se ?_; (case sm => walk_at "sqt"); (case se => rfl))
  | ((with_reducible refine' s_ixD ?sm ?se ?_); (case sm => walk_at "get"); (case se => walk_at "dk"))
  | ((with_reducible refine' s_ixHead ?sm ?_); (case sm => walk_at "get"))
  | ((with_reducible refine' s_ixLast ?sm ?_); (case sm => walk_at "get"))
  | ((with_reducible refine' s_ixL ?sm ?se ?_); (case sm => walk_at "get"); (case se => rfl)))
set_option hygiene false in
local macro_rules | `(tactic| walk_at "st2") => `(tactic| first
  | with_reducible refine s_setF ?_
  | ((with_reducible refine' s_setV hC ?sm ?sc ?sn ?sz ?sp ?su ?_); (case sm => walk_at "get"); (case sc => walk_at "cls"); (case sn => walk_at "na"); (case sz => walk_at "len"); (case sp => walk_at "put"); (case su => walk_at "up"); clear hC; intro H hC)
  | with_reducible refine s_augF ?_
  | ((with_reducible refine' s_augV ?sm ?sc ?sn ?sl ?_); (case sm => walk_at "get"); (case sc => walk_at "cls"); (case sn => walk_at "na"); (case sl => walk_at "lk"))
  | ((with_reducible refine' s_augW hC ?sm ?sz ?sp ?su ?_); (case sm => walk_at "get"); (case sz => walk_at "len"); (case sp => walk_at "put"); (case su => walk_at "up"); clear hC; intro H hC)
  | with_reducible refine s_tup ?_
  | ((with_reducible refine' s_tupN hC ?sz ?_); (case sz => walk_at "len"); clear hC; intro tp H hC)
  | with_reducible refine s_lst ?_
  | ((with_reducible refine' s_lstN hC ?sz ?_); (case sz => walk_at "len"); clear hC; intro lp H hC)
  | with_reducible refine s_ret ?_
  | with_reducible refine s_retN ?_
  | with_reducible refine s_drop ?_
  | with_reducible refine s_bm ?_
  | ((with_reducible refine' s_tyL ?sm ?_); (case sm => walk_at "get"))
  | ((with_reducible refine' s_append hC ?sm ?sz ?su ?_); (case sm => walk_at "get"); (case sz => walk_at "len"); (case su => walk_at "up"); clear hC; intro H hC)
  | with_reducible refine s_cb ?_
  | with_reducible refine s_abs ?_
  | with_reducible refine s_max2N ?_
  | with_reducible refine s_min2N ?_
  | with_reducible refine s_int1 ?_
  | with_reducible refine s_int1T ?_
  | with_reducible refine s_int1F ?_
  | with_reducible refine s_int1b ?_
  | with_reducible refine s_par ?_
  | with_reducible refine s_par2V ?_
  | with_reducible refine s_par3 ?_
  | with_reducible refine s_par3V ?_
  | with_reducible refine s_subG ?_
  | ((with_reducible refine' s_putD hC ?sm ?sz ?sp ?su ?_); (case sm => walk_at "get"); (case sz => walk_at "len"); (case sp => walk_at "dpt"); (case su => walk_at "up"); clear hC; intro H hC)
  | ((with_reducible refine' s_putL (j := 0) hC ?sm ?se ?sw ?su ?_); (case sm => walk_at "get"); (case se => rfl); (case sw => walk_at "lset"); (case su => walk_at "up"); clear hC; intro H hC)
  | ((with_reducible refine' s_putL (j := 1) hC ?sm ?se ?sw ?su ?_); (case sm => walk_at "get"); (case se => rfl); (case sw => walk_at "lset"); (case su => walk_at "up"); clear hC; intro H hC)
  | ((with_reducible refine' s_putL (j := 2) hC ?sm ?se ?sw ?su ?_); (case sm => walk_at "get"); (case se => rfl); (case sw => walk_at "lset"); (case su => walk_at "up"); clear hC; intro H hC)
  | ((with_reducible refine' s_gtup ?sm ?sz ?_); (case sm => walk_at "sqt"); (case sz => rfl))
  | with_reducible refine s_gcons ?_
  | with_reducible refine s_gnil ?_
  | with_reducible refine s_call ?_
  | with_reducible refine s_callV ?_
  | ((with_reducible refine s_callD ?_); dsimp only [List.cons_append, List.nil_append])
  | with_reducible refine s_meth ?_
  | ((with_reducible refine' s_methV ?sm ?sn ?_); (case sm => walk_at "get"); (case sn => walk_at "nolk"))
  | with_reducible refine s_make ?_
  | ((with_reducible refine s_makeV hC ?_); clear hC; intro mx mdx H hC)
  | with_reducible refine s_raise ?_
  | with_reducible refine s_chain ?_
  | with_reducible refine s_chainB ?_
  | with_reducible refine s_andV ?_
  | with_reducible refine s_andB ?_
  | with_reducible refine s_orV ?_
  | with_reducible refine s_orB ?_
  | with_reducible refine s_notV ?_
  | with_reducible refine s_notB ?_
  | with_reducible refine s_un ?_
  | with_reducible refine s_negI ?_
  | with_reducible refine s_asg2 ?_
  | with_reducible refine s_break ?_
  | with_reducible refine s_cont ?_)
set_option hygiene false in
local macro_rules | `(tactic| walk_at "sl") => `(tactic| first | exact Nat.le_trans (nS_len (by omega) (by omega)) (by decide) | exact Nat.le_trans (by assumption) (by decide) | (refine Nat.le_trans (cutS_length _ _ _) ?_; walk_at "sl") | (refine app_le10 ?_ ?_ <;> walk_at "sl") | (refine app_le5 ?_ ?_ <;> walk_at "sl") | (refine app_le2 ?_ ?_ <;> walk_at "sl") | (refine app_le1 ?_ ?_ <;> walk_at "sl") | (refine app_le05 ?_ ?_ <;> walk_at "sl") | (rw [repS_length]; decide) | decide | omega)
set_option hygiene false in
local macro_rules | `(tactic| walk_at "st4") => `(tactic| first
  | with_reducible refine s_gfld ?_
  | with_reducible refine s_bm0 ?_
  | ((with_reducible refine' s_popL hC ?sm ?su ?_); (case sm => walk_at "get"); (case su => walk_at "up"); clear hC; intro H hC)
  | with_reducible refine s_m1 ?_
  | with_reducible refine s_m1V ?_
  | ((with_reducible refine' s_split hC ?sb ?sz ?_); (case sb => rfl); (case sz => walk_at "sl"); clear hC; intro sp H hC)
  | with_reducible refine s_isStrS ?_
  | with_reducible refine s_isStrI ?_
  | ((with_reducible refine' s_slS ?sz ?_); (case sz => walk_at "sl"))
  | ((with_reducible refine' s_slT1 hC ?sm ?sz ?_); (case sm => walk_at "sqt"); (case sz => walk_at "len"); clear hC; intro sp H hC)
  | ((with_reducible refine' s_mulS ?s1 ?s2 ?s3 ?s4 ?_); (case s1 => decide); (case s2 => decide); (case s3 => decide); (case s4 => decide))
  | ((with_reducible refine' s_addSS ?s1 ?s2 ?_); (case s1 => walk_at "sl"); (case s2 => walk_at "sl"))
  | ((with_reducible refine' s_lenL ?sm ?_); (case sm => walk_at "get"))
  | ((with_reducible refine' s_lenSS ?s1 ?_); (case s1 => walk_at "sl"))
  | with_reducible refine s_anyS ?_
  | ((with_reducible refine' s_anyV hC ?sp ?sm ?_); (case sp => walk_at "pick"); (case sm => walk_at "mem"); clear hC; intro tb H hC)
  | ((with_reducible refine' s_lam hC ?sp ?sm ?_); (case sp => walk_at "pick"); (case sm => walk_at "mem"); clear hC; intro tb H hC; try dsimp only)
  | ((with_reducible refine' s_lamV hC ?sp ?sm ?_); (case sp => walk_at "pick"); (case sm => walk_at "mem"); clear hC; intro lf lc tb H hC)
  | with_reducible refine s_yes ?_
  | with_reducible refine s_initV ?_
  | with_reducible refine s_tupX ?_
  | ((with_reducible refine' s_tupGV hC ?sp ?sm ?_); (case sp => walk_at "pick"); (case sm => walk_at "mem"); clear hC; intro tb H hC)
  | ((with_reducible refine' s_tupE ?s1 ?s2 ?_); (case s1 => omega); (case s2 => omega))
  | with_reducible refine s_lcS ?_
  | ((with_reducible refine' s_aug ?sa ?_); (case sa => first | rfl | assumption))
  | ((with_reducible refine' s_extL hC ?sm ?s2 ?sz ?su ?_); (case sm => walk_at "get"); (case s2 => walk_at "get"); (case sz => walk_at "len"); (case su => walk_at "up"); clear hC; intro H hC)
  | with_reducible refine s_uIsN_non ?_
  | with_reducible refine s_uIsN_ref ?_
  | with_reducible refine s_uIsN_int ?_
  | with_reducible refine s_uIsN_str ?_
  | with_reducible refine s_uIsN_bl ?_
  | with_reducible refine s_uIsB_s ?_
  | with_reducible refine s_uIsB_non ?_
  | with_reducible refine s_uIsB_str ?_
  | with_reducible refine s_uIsB_int ?_
  | with_reducible refine s_uIsB_ref ?_
  | with_reducible refine s_uIsB ?_
  | with_reducible refine s_del ?_
  | ((with_reducible refine' s_ixSet ?sm ?sz ?_); (case sm => walk_at "get"); (case sz => assumption))
  | ((with_reducible refine' s_ne00 ?s1 ?s2 ?_); (case s1 => walk_at "get"); (case s2 => walk_at "get"))
  | ((with_reducible refine' s_eq00 ?s1 ?s2 ?_); (case s1 => walk_at "get"); (case s2 => walk_at "get"))
  | with_reducible refine s_neNN ?_
  | with_reducible refine s_eqNN ?_
  | ((with_reducible refine' s_strI ?s0 ?s1 ?_); (case s0 => omega); (case s1 => omega))
  | ((with_reducible refine' s_rep1 hC ?sm ?sz ?_); (case sm => walk_at "get"); (case sz => walk_at "len"); clear hC; intro lp H hC)
  | ((with_reducible refine' s_rep0 hC ?sm ?_); (case sm => walk_at "get"); clear hC; intro lp H hC)
  | with_reducible refine s_it ?_
  | ((with_reducible refine' s_itV ?sm ?_); (case sm => walk_at "sqt"))
  | with_reducible refine s_seqI ?_
  | ((with_reducible refine' s_seqL ?sm ?_); (case sm => walk_at "get"))
  | ((with_reducible refine' s_seqT ?sm ?_); (case sm => walk_at "sqt"))
  | with_reducible refine s_keys ?_
  | with_reducible refine s_anyX ?_
  | ((with_reducible refine' s_anyGV hC ?sp ?sm ?_); (case sp => walk_at "pick"); (case sm => walk_at "mem"); clear hC; intro tb H hC)
  | with_reducible refine s_anyX2 ?_
  | ((with_reducible refine' s_anyGV2 hC ?sp ?sm ?_); (case sp => walk_at "pick"); (case sm => walk_at "mem"); clear hC; intro tb H hC)
  | ((with_reducible refine' s_anyE ?s1 ?s2 ?_); (case s1 => omega); (case s2 => omega))
  | ((with_reducible refine' s_tupOfL hC ?sm ?_); (case sm => walk_at "get"); clear hC; intro tp H hC)
  | ((with_reducible refine' s_tupOfT ?sm ?_); (case sm => walk_at "sqt"))
  | ((with_reducible refine' s_listOfL hC ?sm ?_); (case sm => walk_at "get"); clear hC; intro lp H hC)
  | ((with_reducible refine' s_listOfT hC ?sm ?_); (case sm => walk_at "sqt"); clear hC; intro lp H hC))
set_option hygiene false in
local macro_rules | `(tactic| walk_at "st") => `(tactic| first | walk_at "st0" | walk_at "st1" | walk_at "st2" | walk_at "stc" | walk_at "st3" | walk_at "st4")
set_option hygiene false in
local macro_rules | `(tactic| walk_at "go") => `(tactic| repeat walk_at "st")
set_option hygiene false in
local macro_rules | `(tactic| walk_at "start") => `(tactic| simp only [L2.start, List.length_cons, List.length_nil, List.map_cons, List.map_nil, List.cons_append, List.nil_append, List.replicate, Nat.reduceAdd, Nat.reduceSub, List.range, List.range.loop, List.getElem?_cons_zero, List.getElem?_cons_succ])
set_option hygiene false in
local macro_rules | `(tactic| walk_at "perm2") => `(tactic| first | exact Perm2.nil | (apply Perm2.cons; (walk_at "pick"); walk_at "perm2"))
set_option hygiene false in
local macro_rules | `(tactic| walk_at "lay") => `(tactic| (apply Lay.perm2 hC.lay; walk_at "perm2"))
set_option hygiene false in
local macro_rules | `(tactic| walk_at "sp") => `(tactic| first | refine s_iteDT (by first | assumption | omega) ?_ | refine s_iteDF (by first | assumption | omega) ?_ | refine s_iteNDT (by first | assumption | omega) ?_ | refine s_iteNDF (by first | assumption | omega) ?_ | refine s_iteD (fun c => ?_) (fun c => ?_) | refine s_iteND (fun c => ?_) (fun c => ?_) | refine s_iteB (fun c => ?_) (fun c => ?_) | refine s_iteNB (fun c => ?_) (fun c => ?_))
set_option hygiene false in
local macro_rules | `(tactic| walk_at "all") => `(tactic| ((walk_at "go"); (try ((walk_at "sp") <;> walk_at "all"))))
set_option hygiene false in
local macro_rules | `(tactic| walk_at "tds") => `(tactic| first | exact TDs.nil | exact hC.dats (by walk_at "mem") | exact TDs.mono hC.sb (by assumption) | (apply TDs.cons; (walk_at "td"); walk_at "tds") | (apply TDs.snoc; (walk_at "tds"); walk_at "td") | (apply TDs.append; (walk_at "tds"); walk_at "tds"))
set_option hygiene false in
local macro_rules | `(tactic| walk_at "td") => `(tactic| first | exact TD.non | exact TD.int _ | exact TD.str _ | exact TD.bl _ | exact hC.dat (by walk_at "mem") | (apply TD.tupR; (walk_at "tds"); walk_at "sqt"))
set_option hygiene false in
local macro_rules | `(tactic| walk_at "dsl") => `(tactic| (try dsimp only [List.nil_append, List.cons_append] at hC))
set_option hygiene false in
local macro_rules | `(tactic| walk_at "subs") => `(tactic| first | with_reducible exact Subs.nil | ((with_reducible apply Subs.cons); (walk_at "mem"); walk_at "subs"))
set_option hygiene false in
local macro_rules | `(tactic| walk_at "selT") => `(tactic| first | with_reducible exact Sel.refl | with_reducible exact Sel.toNil _ | ((with_reducible apply Sel.skip); walk_at "selT"))
set_option hygiene false in
local macro_rules | `(tactic| walk_at "sel") => `(tactic| first | ((with_reducible apply Sel.cons); (walk_at "pick"); walk_at "sel") | walk_at "selT")
set_option hygiene false in
local macro_rules | `(tactic| walk_at "lay2") => `(tactic| first | exact hC.lay | ((try simp only [List.nil_append, List.cons_append]); (refine Sel.lay ?_ hC.lay); walk_at "sel"))
set_option hygiene false in
local macro_rules | `(tactic| walk_at "ctx") => `(tactic| ((refine' Ctx.sub hC ?cly ?csu); (case cly => walk_at "lay2"); (case csu => walk_at "subs")))
set_option hygiene false in
local macro_rules | `(tactic| walk_at "blk") => `(tactic| first | with_reducible exact Blk.here | ((with_reducible apply Blk.there); walk_at "blk") | ((with_reducible apply Blk.over); walk_at "blk"))
set_option hygiene false in
local macro_rules | `(tactic| walk_at "perm3") => `(tactic| first | with_reducible exact Perm3.nil | ((with_reducible apply Perm3.cons); (walk_at "pick"); walk_at "perm3") | ((with_reducible apply Perm3.blk); (walk_at "blk"); walk_at "perm3"))
set_option hygiene false in
local macro_rules | `(tactic| walk_at "selU") => `(tactic| first | with_reducible exact Sel3.refl | with_reducible exact Sel3.none | ((with_reducible apply Sel3.skip); walk_at "selU") | ((with_reducible apply Sel3.skipB); walk_at "selU"))
set_option hygiene false in
local macro_rules | `(tactic| walk_at "sel3") => `(tactic| first | ((with_reducible apply Sel3.cons); (walk_at "pick"); walk_at "sel3") | ((with_reducible apply Sel3.blk); (walk_at "blk"); walk_at "sel3") | walk_at "selU")
set_option hygiene false in
local macro_rules | `(tactic| walk_at "lay3") => `(tactic| first | exact hC.lay | ((try simp only [List.nil_append, List.cons_append]); (refine Sel3.lay ?_ hC.lay); walk_at "sel3"))
set_option hygiene false in
local macro_rules | `(tactic| walk_at "tdm") => `(tactic| first | exact hC.dats (by walk_at "mem") | exact TDs.nil)
set_option hygiene false in
local macro_rules | `(tactic| walk_at "prm") => `(tactic| exact hC.pr (by walk_at "mem"))
set_option hygiene false in
local macro_rules | `(tactic| walk_at "stg") => `(tactic| first
  | with_reducible refine s_g1 ?_
  | with_reducible refine s_notN_bl ?_
  | with_reducible refine s_isN_bl ?_
  | ((with_reducible refine' s_tupP hC ?sz ?_); (case sz => walk_at "len"); clear hC; intro tp H hC)
  | ((with_reducible refine' s_dnewK hC ?_); clear hC; intro dp H hC)
  | ((with_reducible refine' s_dnewT hC ?_); clear hC; intro dp H hC)
  | with_reducible refine s_g2 ?_
  | ((with_reducible refine' s_g1K ?sm ?_); (case sm => walk_at "get"))
  | ((with_reducible refine' s_g1T ?sm ?_); (case sm => walk_at "get"))
  | ((with_reducible refine' s_g2K ?sm ?_); (case sm => walk_at "get"))
  | ((with_reducible refine' s_g2T ?sm ?_); (case sm => walk_at "get"))
  | with_reducible refine s_g2y ?_
  | ((with_reducible refine' s_g1Kei ?sm ?se ?_); (case sm => walk_at "get"); (case se => assumption))
  | ((with_reducible refine' s_g1Ke ?sm ?se ?_); (case sm => walk_at "get"); (case se => assumption))
  | ((with_reducible refine' s_g1Kz ?sm ?se ?_); (case sm => walk_at "get"); (case se => assumption))
  | ((with_reducible refine' s_g2Kei ?sm ?se ?_); (case sm => walk_at "get"); (case se => assumption))
  | ((with_reducible refine' s_g2Ke ?sm ?se ?_); (case sm => walk_at "get"); (case se => assumption))
  | ((with_reducible refine' s_g2Kz ?sm ?se ?_); (case sm => walk_at "get"); (case se => assumption))
  | ((with_reducible refine' s_g2TI ?sm ?sb ?_); (case sm => walk_at "get"); (case sb => walk_at "prm"))
  | ((with_reducible refine' s_ixL ?sm ?se ?_); (case sm => walk_at "get"); (case se => assumption))
  | (refine' s_ixT (j := 3) ?sm ?se ?_; (case sm => walk_at "sqt"); (case se => rfl))
  | ((with_reducible refine' s_putN hC ?sm ?sz ?su ?_); (case sm => walk_at "get"); (case sz => assumption); (case su => walk_at "up"); clear hC; intro H hC)
  | ((with_reducible refine' s_srtK hC ?sm ?sz ?_); (case sm => walk_at "get"); (case sz => first | omega | (walk_at "len")); clear hC; intro sq H hC)
  | ((with_reducible refine' s_srtL hC ?sm ?sz ?_); (case sm => walk_at "get"); (case sz => first | omega | (walk_at "len")); clear hC; intro sq H hC)
  | ((with_reducible refine' s_delK hC ?sm ?se ?su ?_); (case sm => walk_at "get"); (case se => assumption); (case su => walk_at "up"); clear hC; intro H hC)
  | ((with_reducible refine' s_ixPuti ?sm ?_); (case sm => walk_at "get"))
  | ((with_reducible refine' s_ixPut ?sm ?_); (case sm => walk_at "get"))
  | ((with_reducible refine' s_ixKvi ?sm ?se ?_); (case sm => walk_at "get"); (case se => assumption))
  | ((with_reducible refine' s_ixKv ?sm ?se ?_); (case sm => walk_at "get"); (case se => assumption))
  | ((with_reducible refine' s_ninKe ?sm ?se ?_); (case sm => walk_at "get"); (case se => assumption))
  | ((with_reducible refine' s_ninKz ?sm ?se ?_); (case sm => walk_at "get"); (case se => assumption))
  | ((with_reducible refine' s_g1Kv ?sm ?_); (case sm => walk_at "get"))
  | ((with_reducible refine' s_g1Kn ?sm ?_); (case sm => walk_at "get"))
  | ((with_reducible refine' s_g2Kv ?sm ?_); (case sm => walk_at "get"))
  | ((with_reducible refine' s_g2Kn ?sm ?_); (case sm => walk_at "get"))
  | ((with_reducible refine' s_g2Tv ?sm ?sb ?_); (case sm => walk_at "get"); (case sb => walk_at "prm"))
  | ((with_reducible refine' s_putKv (f := V.str) hC ?sm ?sz ?su ?_); (case sm => walk_at "get"); (case sz => omega); (case su => walk_at "up"); clear hC; intro H hC)
  | ((with_reducible refine' s_putKv (f := V.int) hC ?sm ?sz ?su ?_); (case sm => walk_at "get"); (case sz => omega); (case su => walk_at "up"); clear hC; intro H hC)
  | ((with_reducible refine' s_putKi hC ?sm ?sz ?su ?_); (case sm => walk_at "get"); (case sz => omega); (case su => walk_at "up"); clear hC; intro H hC)
  | ((with_reducible refine' s_putTv (f := V.int) hC ?sm ?sb ?sz ?su ?_); (case sm => walk_at "get"); (case sb => walk_at "prm"); (case sz => omega); (case su => walk_at "up"); clear hC; intro H hC)
  | ((with_reducible refine' s_inKe ?sm ?se ?_); (case sm => walk_at "get"); (case se => assumption))
  | ((with_reducible refine' s_inKz ?sm ?se ?_); (case sm => walk_at "get"); (case se => assumption))
  | ((with_reducible refine' s_inKv ?sm ?_); (case sm => walk_at "get"))
  | ((with_reducible refine' s_ninKv ?sm ?_); (case sm => walk_at "get"))
  | ((with_reducible refine' s_inKn ?sm ?_); (case sm => walk_at "get"))
  | ((with_reducible refine' s_ninKn ?sm ?_); (case sm => walk_at "get")))
set_option hygiene false in
local macro_rules | `(tactic| walk_at "stc") => `(tactic| first
  | ((with_reducible refine' c_pinit hC ?_); clear hC; intro H hC)
  | ((with_reducible refine' c_cinit hC ?_); clear hC; intro H hC)
  | ((with_reducible refine' c_sinit hC ?_); clear hC; intro pl pc H hC)
  | ((with_reducible refine' c_dice hC ?_); clear hC; intro dd di dj dl H hC)
  | ((with_reducible refine' c_roll hC ?sp ?s0 ?s1 ?_); (case sp => walk_at "pick"); (case s0 => omega); (case s1 => omega); clear hC; intro rr di dj dl H hr0 hr1 hC)
  | ((with_reducible refine' s_lamC hC ?sp ?sm ?_); (case sp => walk_at "pick"); (case sm => walk_at "mem"); clear hC; intro lf lc tb H hC)
  | ((with_reducible refine' s_in2T ?sm ?_); (case sm => walk_at "sqt"))
  | ((with_reducible refine' s_in2L ?sm ?_); (case sm => walk_at "get"))
  | (refine' s_inT (ys := INS) ?sm ?se ?_; (case sm => walk_at "sqt"); (case se => rfl))
  | (refine' s_inL (ys := INS) ?sm ?se ?_; (case sm => walk_at "get"); (case se => rfl))
  | (refine' s_ninT (ys := ["calling", "ringing"]) ?sm ?se ?_; (case sm => walk_at "sqt"); (case se => rfl))
  | ((with_reducible refine' s_ixIi ?sm ?se ?_); (case sm => walk_at "get"); (case se => assumption))
  | ((with_reducible refine' s_ixIFi ?sm ?se ?_); (case sm => exact hC.frz (by walk_at "mem")); (case se => assumption))
  | ((with_reducible refine' s_ninIe ?sm ?se ?_); (case sm => walk_at "get"); (case se => assumption))
  | ((with_reducible refine' s_ninIz ?sm ?se ?_); (case sm => walk_at "get"); (case se => assumption))
  | ((with_reducible refine' s_g1Ie ?sm ?se ?_); (case sm => walk_at "get"); (case se => assumption))
  | ((with_reducible refine' s_g1Iz ?sm ?se ?_); (case sm => walk_at "get"); (case se => assumption))
  | with_reducible refine s_valsE ?_
  | (refine' s_ixT (j := 2) ?sm ?se ?_; (case sm => walk_at "sqt"); (case se => rfl))
  | walk_at "stg")
section
variable {K : PySem.W.Frag} {mg : Str → Option Value} {a : Adr} {vs : List V} {H : Hp} {Q : VK} {E : XK}
theorem pure_law_roll (T : Txt K mg a) (h : sp_law_roll K a vs H Q E) : t_law_roll K a E { nx := fun _ H' => Q .non H', rt := Q } (L2.start N_law_roll vs) H := by
  obtain ⟨_, d, m, i, j, l, F, rfl, h1, m0, m1, k⟩ := h
  have hC := Ctx.start (K := K) h1
  unfold t_law_roll
  walk_at "start"
  walk_at "all"
  all_goals first
    | exact k _ _ _ _ _ (Int.emod_nonneg _ (by omega)) (Int.emod_lt_of_pos _ m0) hC.sb hC.lay
theorem pure_law_dice (T : Txt K mg a) (h : sp_law_dice K a vs H Q E) : t_law_dice K a E { nx := fun _ H' => Q .non H', rt := Q } (L2.start N_law_dice vs) H := by
  obtain ⟨_, c0, L, rfl, h1, k⟩ := h
  have hC := Ctx.start (K := K) h1
  unfold t_law_dice
  walk_at "start"
  walk_at "all"
  all_goals first
    | exact k _ _ _ _ _ hC.sb hC.lay
    | trace_state
theorem DL.snoc {ds : List (Addr × Int × Int × Int)} {p : Addr} {i j l : Int} {x : Addr × HO} {L F : List (Addr × HO)} : ((p, HO.lst [.int i, .int j, .int l]) :: (x :: (F ++ (DL ds ++ L)))).Perm (x :: (F ++ (DL (ds ++ [(p, i, j, l)]) ++ L))) := by
  refine (List.Perm.swap _ _ _).trans (List.Perm.cons _ ?_)
  unfold DL
  rw [List.map_append, List.append_assoc]
  refine List.Perm.trans (List.perm_middle (l₁ := F)).symm ?_
  exact List.Perm.append_left F List.perm_middle.symm
theorem ints_cut {ns : List Int} {m : Int} (h0 : 0 ≤ m) (h1 : m ≤ 1000) : ∃ ms : List Int, cutV (ns.map V.int) none (some m) = ms.map V.int ∧ ms.length ≤ 1000 := by
  unfold cutV
  rw [← List.map_drop, ← List.map_take]
  refine ⟨_, rfl, ?_⟩
  rw [List.length_take]
  refine Nat.le_trans (Nat.min_le_left _ _) ?_
  obtain ⟨k, rfl⟩ := Int.eq_ofNat_of_zero_le h0
  show HT.sIx _ _ (some (k : Int)) - _ ≤ 1000
  rw [HT.sIx_nat]
  omega
theorem rounds_rest {B : Hp} {a : Adr} {v0 v1 : Option V} {q : Addr} {ms : List Int} {L F : List (Addr × HO)} (hC : Ctx K B H ((q, .lst (ms.map V.int)) :: (F ++ L)) []) (hm : ms.length ≤ 1000)
    (k : ∀ p (ds : List (Addr × Int × Int × Int)) H', Stb B H' → Lay H' ((p, .lst (ds.map fun d => V.ref d.1)) :: (DL ds ++ L)) → Q (.ref p) H') :
    kLc (gName 3) tYes (tCall (sp_law_dice K a) [] E0 (tCons (tVar 3) tNil)) [3] [v0, v1, some (.ref q), none] Q (Itl K q) H := by
  refine lc_lst (xs := ms.map V.int) hC (fun D i H1 => ∃ ds : List (Addr × Int × Int × Int), ds.length = i ∧ Ctx K B H1 ((D, .lst (ds.map fun d => V.ref d.1)) :: ((q, .lst (ms.map V.int)) :: (F ++ (DL ds ++ L)))) [])
    (fun D H1 hC => ⟨[], rfl, hC⟩) (fun i D H1 hi ⟨ds, e, hC⟩ => hC.get (by walk_at "mem")) ?_ ?_
  · rintro i x D H hx ⟨ds, e, hC⟩
    have hlt := (List.getElem?_eq_some_iff.mp hx).1
    rw [List.length_map] at hlt
    rw [List.getElem?_map] at hx
    obtain ⟨n, hn, rfl⟩ := Option.map_eq_some_iff.mp hx
    simp only [wipe, List.set_cons_zero, List.set_cons_succ]
    walk_at "go"
    refine ⟨rfl, ?_⟩
    walk_at "go"
    refine s_app hC (acc := ds.map fun d => V.ref d.1) (hC.get (by walk_at "mem")) (by rw [List.length_map]; omega) (.there .here) (fun H2 hC => ?_)
    refine ⟨ds ++ [(dd, di, dj, dl)], by rw [List.length_append, e]; rfl, ?_⟩
    rw [List.map_append]
    refine hC.perm ?_
    refine (List.Perm.swap _ _ _).trans (List.Perm.cons _ ?_)
    exact DL.snoc
  · rintro D H ⟨ds, e, hC⟩
    refine k D ds H hC.sb ?_
    have y := hC.lay.perm (List.Perm.swap _ _ _)
    have y := y.tail
    have z : ((D, HO.lst (ds.map fun d => V.ref d.1)) :: (F ++ (DL ds ++ L))).Perm (F ++ ((D, HO.lst (ds.map fun d => V.ref d.1)) :: (DL ds ++ L))) := List.perm_middle.symm
    have y := y.perm z
    exact ⟨(List.nodup_append.mp (by rw [← List.map_append]; exact y.nd)).2.1, fun p hp => y.at_ p (List.mem_append_right _ hp)⟩
theorem pure_law_rounds (T : Txt K mg a) (h : sp_law_rounds K a vs H Q E) : t_law_rounds K a E { nx := fun _ H' => Q .non H', rt := Q } (L2.start N_law_rounds vs) H := by
  obtain ⟨_, s, m, ns, L, rfl, hs, h1, m0, m1, k⟩ := h
  have hC := Ctx.start (K := K) h1
  unfold t_law_rounds
  walk_at "start"
  walk_at "go"
  obtain ⟨ms, e, hm⟩ := ints_cut (ns := ns) m0 m1
  rw [e] at hC
  refine s_eqD (Dp.lst (SqL.of (hC.get (by walk_at "mem"))) (ints_dats K _ ms).dp) (Dp.lst (SqL.of (hC.get (by walk_at "mem"))) .nil) ((ints_sh (n := 0) ms).list.shaped (by decide)) ((ShL.nil (n := 0)).list.shaped (by decide)) ?_
  walk_at "go"
  refine s_iteB (fun c => ?_) (fun c => ?_)
  · walk_at "go"
    exact rounds_rest (ms := [0]) (F := [_, _]) hC (by decide) k
  · walk_at "go"
    exact rounds_rest (ms := ms) (F := [_]) (hC.perm (List.Perm.swap _ _ _)) hm k
end
section
variable {K : PySem.W.Frag} {mg : Str → Option Value} {a : Adr} {vs : List V} {H : Hp} {Q : VK} {E : XK}
theorem pure_Player__init (T : Txt K mg a) (h : sp_Player__init K a vs H Q E) : t_Player__init K a E { nx := fun _ H' => Q .non H', rt := Q } (L2.start N_Player__init vs) H := by
  obtain ⟨_, x, dx, app, ask, F, rfl, y, k⟩ := h
  have hC := Ctx.start (K := K) y
  unfold t_Player__init
  walk_at "start"
  walk_at "go"
  exact k _ hC.sb hC.lay
theorem pure_Call__init (T : Txt K mg a) (h : sp_Call__init K a vs H Q E) : t_Call__init K a E { nx := fun _ H' => Q .non H', rt := Q } (L2.start N_Call__init vs) H := by
  obtain ⟨_, x, dx, n, oth, b, F, rfl, y, k⟩ := h
  have hC := Ctx.start (K := K) y
  unfold t_Call__init
  walk_at "start"
  cases b with
  | true =>
    walk_at "all"
    exact k _ hC.sb hC.lay
  | false =>
    walk_at "all"
    exact k _ hC.sb hC.lay
theorem pure_Sounds__init (T : Txt K mg a) (h : sp_Sounds__init K a vs H Q E) : t_Sounds__init K a E { nx := fun _ H' => Q .non H', rt := Q } (L2.start N_Sounds__init vs) H := by
  obtain ⟨_, x, dx, F, rfl, y, k⟩ := h
  have hC := Ctx.start (K := K) y
  unfold t_Sounds__init
  walk_at "start"
  walk_at "go"
  refine k _ _ _ hC.sb (hC.lay.perm2 (T := (x, .ins a.c_Sounds dx [("players", .ref _), ("calls", .ref _), ("count", .int 0)]) :: (_, .lst []) :: (_, .dK []) :: F) (by walk_at "perm2"))
theorem pure_Sounds_call (T : Txt K mg a) (h : sp_Sounds_call K a vs H Q E) : t_Sounds_call K a E { nx := fun _ H' => Q .non H', rt := Q } (L2.start N_Sounds_call vs) H := by
  obtain ⟨_, so, dx, pl, pc, n, ps, cs, qs, qc, qo, qd, F, rfl, y, ok, k1, k2⟩ := h
  have hC := Ctx.start (K := K) y
  unfold PL at hC
  unfold t_Sounds_call
  by_cases q : ∃ e, e ∈ cs ∧ e.c.no = n
  · obtain ⟨e, he, rfl⟩ := q
    have e1 := keysC_look ok he
    walk_at "start"
    walk_at "go"
    exact k1 e he rfl
  · have q2 : ∀ e, e ∈ cs → e.c.no ≠ n := fun e he z => q ⟨e, he, z⟩
    have e1 := keysC_none q2
    walk_at "start"
    walk_at "go"
    exact k2 q2 _ hC.sb hC.lay
theorem pure_Sounds_in_call {H0 : Hp} (T : Txt K mg a) (h : sp_Sounds_in_call K a vs H0 Q E) : t_Sounds_in_call K a E { nx := fun _ H' => Q .non H', rt := Q } (L2.start N_Sounds_in_call vs) H0 := by
  obtain ⟨_, so, dx, pl, pc, ps, cs, qs, qc, qo, qd, F, rfl, y, ok, tq, k⟩ := h
  have hC := (Ctx.start (K := K) y).add (i := .tri qc) tq.c
  have hl := ok.len
  unfold PL at hC
  unfold t_Sounds_in_call
  walk_at "start"
  walk_at "go"
  have hC0 := hC
  refine s_lockE (d := pc) (u := .dK (mI id (keysC cs))) hC (by walk_at "pick") trivial (fun od H1 s1 hC => ?_)
  walk_at "go"
  refine s_valsK (hC.frz (by walk_at "mem")) ?_
  walk_at "go"
  refine any_read (es := cs) (kf := fun e : CE => V.ref e.ad) (walk_valsE (kk := fun e : CE => Sum.inl e.c.no) (by unfold mI keysC; rw [List.map_map]; rfl)) (fun e => decide (e.c.st ∈ INS)) (by omega) (fun H1 hC => hC.frz (by walk_at "mem")) hC (fun i e H1 Z Zn he hC hz => ?_) (fun H' hC => ?_)
  · have hC2 := hC
    rw [ccells_mid he] at hC2
    simp only [ccell] at hC2
    clear hC
    revert hC2
    intro hC
    simp only [wipe, List.set_cons_zero, List.set_cons_succ]
    walk_at "go"
    refine ⟨rfl, ?_⟩
    walk_at "go"
    refine hz _ ?_
    rw [ccells_mid he]
    exact ⟨hC.lay, fun j hj => hC.im j (by first | exact hj | exact List.mem_cons_of_mem _ hj), hC.sb⟩
  · rw [if_pos rfl]
    have hf := hC.frz (d := pc) (od := od) (u := .dK (mI id (keysC cs))) (by walk_at "mem")
    have ht := hC.tri (ps := tb) (by walk_at "mem")
    refine s_unl hC0 (by walk_at "pick") s1 hC hf (fun H3 hC => ?_)
    walk_at "go"
    exact k _ _ hC.sb (by unfold PL; walk_at "lay3") ⟨tq.s, ht, tq.o, tq.d⟩
theorem pure_Sounds_open_calls {H0 : Hp} (T : Txt K mg a) (h : sp_Sounds_open_calls K a vs H0 Q E) : t_Sounds_open_calls K a E { nx := fun _ H' => Q .non H', rt := Q } (L2.start N_Sounds_open_calls vs) H0 := by
  obtain ⟨_, so, dx, pl, pc, ps, cs, qs, qc, qo, qd, F, rfl, y, ok, tq, k⟩ := h
  have hC := (Ctx.start (K := K) y).add (i := .tri qo) tq.o
  have hl := ok.len
  have hl2 : (keysC cs).length < 64 := by rw [keysC_len]; omega
  unfold PL at hC
  unfold t_Sounds_open_calls
  walk_at "start"
  walk_at "go"
  refine s_srtI2 hC (hC.get (by walk_at "mem")) hl2 (fun sq H hC => ?_)
  rw [keysC_srt ok] at hC
  walk_at "go"
  refine tup_read (es := cs) (kf := fun e : CE => V.int e.c.no) (walk_lstE (xs := (cs.map fun e => e.c.no).map V.int) (by rw [List.map_map]; rfl)) (fun e => decide (e.c.st ≠ ("ended" : Str))) (fun e => .int e.c.no) (by omega) (fun H1 hC => SqL.of (hC.get (by walk_at "mem"))) hC (fun i e H1 Zy Zn he hC hy hn => ?_) (fun H' t vr hC => ?_)
  · have hC2 := hC
    have e1 := keysC_look ok (List.mem_of_getElem? he)
    rw [ccells_mid he] at hC
    simp only [ccell] at hC
    simp only [wipe, List.set_cons_zero, List.set_cons_succ]
    walk_at "go"
    refine ⟨rfl, ?_⟩
    by_cases c : e.c.st = ("ended" : Str)
    · walk_at "all"
      exact hn _ _ (decide_eq_false fun z => z c) hC2 (fun j hj => hj)
    · walk_at "all"
      exact hy _ _ _ (decide_eq_true c) hC2 (fun j hj => hj) (.int _)
  · have hd0 := hC.dats (vs := vr) (ds := (cs.filter fun e => decide (e.c.st ≠ ("ended" : Str))).map fun e => PyData.int e.c.no) (by walk_at "mem")
    have hd := tds_ints (ns := (opn cs).map fun e => e.c.no) (by rw [List.map_map]; exact hd0)
    subst hd
    have ht := hC.tri (ps := tb) (by walk_at "mem")
    walk_at "go"
    exact k _ _ _ hC.sb (by unfold PL; walk_at "lay3") ⟨tq.s, tq.c, ht, tq.d⟩ (by have q := hC.tup (a := t) (by walk_at "mem"); rw [List.map_map] at q; exact q)
theorem pure_Sounds_shown {H0 : Hp} (T : Txt K mg a) (h : sp_Sounds_shown K a vs H0 Q E) : t_Sounds_shown K a E { nx := fun _ H' => Q .non H', rt := Q } (L2.start N_Sounds_shown vs) H0 := by
  obtain ⟨_, so, dx, pl, pc, ps, cs, qs, qc, qo, qd, F, rfl, y, hl, tq, k⟩ := h
  have hC := (Ctx.start (K := K) y).add (i := .tri qs) tq.s
  unfold PL at hC
  unfold t_Sounds_shown
  walk_at "start"
  walk_at "go"
  refine tup_read (es := ps) (kf := fun e : PlE => V.ref e.ad) (walk_lstE (xs := adsP ps) rfl) (fun e => true) SD (by omega) (fun H1 hC => SqL.of (hC.get (by walk_at "mem"))) hC (fun i e H1 Zy Zn he hC hy hn => ?_) (fun H' t vr hC => ?_)
  · have hC2 := hC
    rw [pcells_mid he] at hC
    simp only [pcell] at hC
    simp only [wipe, List.set_cons_zero, List.set_cons_succ]
    walk_at "go"
    refine ⟨rfl, ?_⟩
    walk_at "go"
    have ht : TD K H (.ref tp) (SD e) := .tup (hC.tup (by walk_at "mem")) (.cons (.str _) (.cons (.str _) (.cons (.str _) .nil)))
    refine hy _ _ _ rfl (by rw [pcells_mid he]; exact hC) (fun j hj => List.mem_cons_of_mem _ hj) ht
  · have hd := hC.dats (vs := vr) (ds := (ps.filter fun _ => true).map SD) (by walk_at "mem")
    rw [show (ps.filter fun _ => true) = ps from List.filter_eq_self.mpr fun _ _ => rfl] at hd
    have ht := hC.tri (ps := tb) (by walk_at "mem")
    exact k _ _ _ _ hC.sb (by unfold PL; walk_at "lay3") ⟨ht, tq.c, tq.o, tq.d⟩ (hC.tup (by walk_at "mem")) hd
end
section
variable {K : PySem.W.Frag} {mg : Str → Option Value} {a : Adr} {vs : List V} {B H : Hp} {Q : VK} {E : XK} {L F : List (Addr × HO)} {I : List Im}
abbrev P0 (a : Adr) (so dx pl pc : Addr) (ps : List PlE) (cs : List CE) (qs qc qo qd : Array Value) : List (Addr × HO) :=
  [(so, .ins a.c_Sounds dx [("players", .ref pl), ("calls", .ref pc), ("count", .int (cs.length : Nat))]), (pl, .lst (adsP ps)), (pc, .dK (mI id (keysC cs))),
  (a.tb_Sounds_shown, .tbl qs), (a.tb_Sounds_in_call, .tbl qc), (a.tb_Sounds_open_calls, .tbl qo), (a.tb_Sounds_dial, .tbl qd)]
theorem zip_cells {w : Str} {ps : List PlE} : (zipW w ps).map (fun x => pcell a x.1) = pcells a ps := by
  conv => rhs; rw [← zip_fst (w := w) (ps := ps)]
  unfold pcells
  rw [List.map_map]
  rfl
theorem zip_ads {w : Str} {ps : List PlE} : adsP ps = (zipW w ps).map fun x => V.ref x.1.ad := by
  conv => lhs; rw [← zip_fst (w := w) (ps := ps)]
  unfold adsP
  rw [List.map_map]
  rfl
theorem settle_loop {so dx pl pc : Addr} {w : Str} {ps : List PlE} {cs : List CE} {qs qc qo qd : Array Value} {v2 : Option V} {A Cb Dc : L2.St → Hp → Prop} {Bt : VK} (T : Txt K mg a) (hl : ps.length ≤ 200)
    (hC : Ctx K B H (PL a so dx pl pc ps cs qs qc qo qd F) I) (k : ∀ σ' H', Ctx K B H' (PL a so dx pl pc (setP w ps) cs qs qc qo qd F) I → A σ' H') : kFor (gName 2) (t_Sounds_settle_for0 K a E) ⟨A, Bt, Cb, Dc⟩ [some (.ref so), some (.str w), v2] (Itl K pl) H := by
  have hz : (zipW w ps).length ≤ 200 := by rw [zip_len]; exact hl
  have hC : Ctx K B H (P0 a so dx pl pc ps cs qs qc qo qd ++ ((zipW w ps).map (fun x => pcell a x.1) ++ (ccells a cs ++ F))) I := by
    rw [zip_cells]
    exact hC
  refine for_cells (es := zipW w ps) (kf := fun x : PlE × Str => V.ref x.1.ad) (cg := fun x => pcell a x.1) (F := ccells a cs ++ F) (P := P0 a so dx pl pc ps cs qs qc qo qd)
    (walk_lstE (xs := adsP ps) zip_ads) (fun _ _ _ _ h => h) (fun x => (setX x, x.2))
    (fun i σ P J => J = I ∧ P = P0 a so dx pl pc ps cs qs qc qo qd ∧ ∃ v2, σ = [some (.ref so), some (.str (wAt w ps i)), v2])
    (fun i σ P J H1 M ⟨_, hP, _⟩ hC => SqL.of (hC.get (by rw [hP]; exact List.mem_cons_of_mem _ List.mem_cons_self))) ⟨rfl, rfl, v2, by cases ps <;> rfl⟩ hC ?_ ?_
  · rintro i x σ P J H1 R Z hx ⟨rfl, rfl, v2, rfl⟩ hC hz
    obtain ⟨z1, z2, z3⟩ := zip_at ps w i hx
    rw [← z1]
    rw [z3] at hz
    obtain ⟨e, w0⟩ := x
    simp only [pcell, List.cons_append, List.nil_append] at hC
    unfold t_Sounds_settle_for0
    by_cases c1 : e.c.way = ("short" : Str)
    · rw [show nextW w0 e.c.way = ("waiting" : Str) from if_pos c1] at hz
      walk_at "all"
      exact hz _ _ _ _ ⟨rfl, rfl, _, rfl⟩ hC
    · by_cases c2 : e.c.way = ("beside" : Str)
      · by_cases c3 : w0 = ("playing" : Str)
        · rw [show nextW w0 e.c.way = ("softer" : Str) from by unfold nextW; rw [if_neg c1, if_pos ⟨c2, c3⟩]] at hz
          walk_at "all"
          exact hz _ _ _ _ ⟨rfl, rfl, _, rfl⟩ hC
        · rw [show nextW w0 e.c.way = w0 from by unfold nextW; rw [if_neg c1, if_neg fun z => c3 z.2]] at hz
          walk_at "all"
          exact hz _ _ _ _ ⟨rfl, rfl, _, rfl⟩ hC
      · rw [show nextW w0 e.c.way = w0 from by unfold nextW; rw [if_neg c1, if_neg fun z => c2 z.1]] at hz
        walk_at "all"
        exact hz _ _ _ _ ⟨rfl, rfl, _, rfl⟩ hC
  · rintro σ P J H1 ⟨rfl, rfl, v2, rfl⟩ hC
    refine k _ _ ?_
    have e1 : ((zipW w ps).map fun x => (setX x, x.2)).map (fun x => pcell a x.1) = pcells a (setP w ps) := by unfold setP pcells; rw [List.map_map, List.map_map]; rfl
    rw [e1] at hC
    unfold PL
    rw [setP_ads]
    exact hC
theorem pure_Sounds_settle {H0 : Hp} (T : Txt K mg a) (h : sp_Sounds_settle K a vs H0 Q E) : t_Sounds_settle K a E { nx := fun _ H' => Q .non H', rt := Q } (L2.start N_Sounds_settle vs) H0 := by
  obtain ⟨_, so, dx, pl, pc, ps, cs, qs, qc, qo, qd, F, rfl, y, ok, hl, tq, k⟩ := h
  have hC := Ctx.start (K := K) y
  unfold t_Sounds_settle
  walk_at "start"
  walk_at "go"
  cases hb : inB cs with
  | true =>
    rw [hb] at k
    refine c_in hC (by unfold PL; walk_at "perm3") ok tq hb (fun qc' H1 tq hC => ?_)
    unfold PL at hC
    walk_at "go"
    unfold t_Sounds_settle_tail1
    walk_at "go"
    exact settle_loop T hl hC (fun σ' H' hC => k _ _ hC.sb hC.lay tq)
  | false =>
    rw [hb] at k
    refine c_in hC (by unfold PL; walk_at "perm3") ok tq hb (fun qc' H1 tq hC => ?_)
    unfold PL at hC
    walk_at "go"
    unfold t_Sounds_settle_tail1
    walk_at "go"
    exact settle_loop T hl hC (fun σ' H' hC => k _ _ hC.sb hC.lay tq)
/-- players without one -/
theorem drop_lc {so dx pl pc : Addr} {app : Str} {ps : List PlE} {cs : List CE} {qs qc qo qd : Array Value} {tg : TG} {tt : TT} {te : TE} {xs : List Nat} {σ : L2.St} (hl : ps.length ≤ 200) (hC : Ctx K B H (PL a so dx pl pc ps cs qs qc qo qd F) I)
    (turn : ∀ (e : PlE) H1 L1 (Zy : VK) (Zn : Hp → Prop), Ctx K B H1 ((e.ad, .ins a.c_Player e.dx [("app", .str e.c.nm), ("way", .str e.c.way), ("state", .str e.c.st)]) :: L1) I → (e.c.nm ≠ app → Zy (.ref e.ad) H1) → (¬ e.c.nm ≠ app → Zn H1) → tg (.ref e.ad) (wipe σ xs) H1 fun σ2 H2 => wipe σ2 xs = wipe σ xs ∧ tt σ2 H2 fun b H3 => if b = true then te σ2 H3 Zy else Zn H3)
    (k : ∀ H' D, Ctx K B H' ((D, .lst (adsP (dropP app ps))) :: PL a so dx pl pc ps cs qs qc qo qd F) I → Q (.ref D) H') : kLc tg tt te xs σ Q (Itl K pl) H := by
  refine lc_pick (es := ps) (kf := fun e : PlE => V.ref e.ad) (walk_lstE (xs := adsP ps) rfl) (fun e => decide (e.c.nm ≠ app)) (fun e => V.ref e.ad) (by omega) (fun H1 x hC => SqL.of (hC.get (List.mem_cons_of_mem _ (List.mem_cons_of_mem _ List.mem_cons_self)))) hC (fun i e H1 D vr Zy Zn he hC hy hn => ?_) (fun H' D hC => k H' D hC)
  have hp : ((D, HO.lst vr) :: PL a so dx pl pc ps cs qs qc qo qd F).Perm (pcell a e :: ((D, HO.lst vr) :: P0 a so dx pl pc ps cs qs qc qo qd ++ (pcells a (ps.take i) ++ (pcells a (ps.drop (i + 1)) ++ (ccells a cs ++ F))))) := by
    unfold PL
    rw [pcells_mid he]
    exact perm_focus (A := (D, HO.lst vr) :: P0 a so dx pl pc ps cs qs qc qo qd)
  exact turn e H1 _ _ _ (hC.perm hp) (fun c => hy _ _ (decide_eq_true c) hC (fun j hj => hj)) (fun c => hn _ _ (decide_eq_false c) hC (fun j hj => hj))
theorem drop_len {app : Str} {ps : List PlE} : (dropP app ps).length ≤ ps.length := List.length_filter_le _ _
/-- some of the players' cells -/
theorem drop_sel {app : Str} {ps : List PlE} {L : List (Addr × HO)} : List.Sublist (pcells a (dropP app ps) ++ L) (pcells a ps ++ L) := List.Sublist.append (List.filter_sublist.map _) (List.Sublist.refl _)
theorem pure_Sounds_stop {H0 : Hp} (T : Txt K mg a) (h : sp_Sounds_stop K a vs H0 Q E) : t_Sounds_stop K a E { nx := fun _ H' => Q .non H', rt := Q } (L2.start N_Sounds_stop vs) H0 := by
  obtain ⟨_, so, dx, pl, pc, app, ps, cs, qs, qc, qo, qd, F, rfl, y, ok, hl, tq, k⟩ := h
  have hC := Ctx.start (K := K) y
  unfold t_Sounds_stop
  walk_at "start"
  walk_at "go"
  refine drop_lc (app := app) (by omega) hC (fun e H1 L1 Zy Zn hC hy hn => ?_) (fun H D hC => ?_)
  · simp only [wipe, List.set_cons_zero, List.set_cons_succ]
    walk_at "go"
    refine ⟨rfl, ?_⟩
    by_cases c : e.c.nm = app
    · walk_at "all"
      exact hn fun z => z c
    · walk_at "all"
      exact hy c
  · unfold PL at hC
    walk_at "go"
    have hC : Ctx K H0 H (PL a so dx D pc (dropP app ps) cs qs qc qo qd F) [] := by
      have hC1 : Ctx K H0 H ((so, .ins a.c_Sounds dx [("players", .ref D), ("calls", .ref pc), ("count", .int (cs.length : Nat))]) :: (D, .lst (adsP (dropP app ps))) :: (pc, .dK (mI id (keysC cs))) ::
  (a.tb_Sounds_shown, .tbl qs) :: (a.tb_Sounds_in_call, .tbl qc) :: (a.tb_Sounds_open_calls, .tbl qo) :: (a.tb_Sounds_dial, .tbl qd) :: (pcells a ps ++ (ccells a cs ++ F))) [] := ⟨by walk_at "lay3", (fun j hj => by cases hj), hC.sb⟩
      exact ⟨hC1.lay.subl (.cons₂ _ (.cons₂ _ (.cons₂ _ (.cons₂ _ (.cons₂ _ (.cons₂ _ (.cons₂ _ drop_sel))))))), (fun j hj => by cases hj), hC1.sb⟩
    refine c_settle hC (by unfold PL; walk_at "perm3") ok (Nat.le_trans drop_len (by omega)) tq rfl (fun qc' H1 tq hC => ?_)
    walk_at "go"
    exact k _ _ _ hC.sb hC.lay tq
end
section
variable {K : PySem.W.Frag} {mg : Str → Option Value} {a : Adr} {vs : List V} {B H : Hp} {Q : VK} {E : XK} {L F : List (Addr × HO)} {I : List Im}
def endd (cs : List CE) : List CE := cs.filter fun e => !decide (e.c.st ≠ ("ended" : Str))
def upE (g : CI → CI) (e : CE) : CE := { e with c := g e.c }
theorem opn_perm {cs : List CE} : (opn cs ++ endd cs).Perm cs := List.filter_append_perm _ cs
theorem endd_up {g : CI → CI} (hg : ∀ c : CI, c.st = ("ended" : Str) → g c = c) {cs : List CE} : (endd cs).map (upE g) = endd cs := by
  conv => rhs; rw [← List.map_id (endd cs)]
  refine List.map_congr_left fun e he => ?_
  have h := (List.mem_filter.mp he).2
  have h2 : e.c.st = ("ended" : Str) := Classical.byContradiction fun z => by rw [decide_eq_true z] at h; cases h
  show { e with c := g e.c } = e
  rw [hg _ h2]
theorem swap3 {M N R : List (Addr × HO)} : (M ++ (N ++ R)).Perm (N ++ (M ++ R)) := by
  rw [← List.append_assoc, ← List.append_assoc]
  exact List.Perm.append_right _ List.perm_append_comm
theorem open_cells {cs : List CE} {P M : List (Addr × HO)} : (P ++ (M ++ (ccells a cs ++ F))).Perm (P ++ ((opn cs).map (ccell a) ++ (M ++ ((endd cs).map (ccell a) ++ F)))) := by
  refine List.Perm.append_left P ?_
  have h : (ccells a cs ++ F).Perm ((opn cs).map (ccell a) ++ ((endd cs).map (ccell a) ++ F)) := by
    rw [← List.append_assoc, ← List.map_append]
    exact List.Perm.append_right F (opn_perm.map _).symm
  exact (List.Perm.append_left M h).trans swap3
/-- a for over the open calls, each changed -/
theorem open_loop {so dx pl pc t : Addr} {ps : List PlE} {cs : List CE} {qs qc qo qd : Array Value} {g : CI → CI} {tg : TG} {ts : TS} {S : L2.St → Prop} {σ : L2.St} {A Cb Dc : L2.St → Hp → Prop} {Bt : VK} (hn : ∀ c, (g c).no = c.no) (hg : ∀ c : CI, c.st = ("ended" : Str) → g c = c) (h0 : S σ)
    (hC : Ctx K B H (PL a so dx pl pc ps cs qs qc qo qd F) (.tup t ((opn cs).map fun e => V.int e.c.no) :: I))
    (turn : ∀ (e : CE) σ H2 R (Z : L2.St → Hp → Prop), e ∈ opn cs → S σ → Ctx K B H2 (ccell a e :: (P0 a so dx pl pc ps cs qs qc qo qd ++ R)) (.tup t ((opn cs).map fun e => V.int e.c.no) :: I) →
      (∀ σ' H', S σ' → Ctx K B H' (ccell a (upE g e) :: (P0 a so dx pl pc ps cs qs qc qo qd ++ R)) (.tup t ((opn cs).map fun e => V.int e.c.no) :: I) → Z σ' H') → tg (.int e.c.no) σ H2 fun σ2 H3 => ts ⟨Z, Bt, A, Z⟩ σ2 H3)
    (k : ∀ σ' H', S σ' → Ctx K B H' (PL a so dx pl pc ps (upC g cs) qs qc qo qd F) I → A σ' H') : kFor tg ts ⟨A, Bt, Cb, Dc⟩ σ (Itt K t) H := by
  have hC : Ctx K B H (P0 a so dx pl pc ps cs qs qc qo qd ++ ((opn cs).map (ccell a) ++ (pcells a ps ++ ((endd cs).map (ccell a) ++ F)))) (.tup t ((opn cs).map fun e => V.int e.c.no) :: I) := hC.perm (open_cells (P := P0 a so dx pl pc ps cs qs qc qo qd))
  refine for_cells (es := opn cs) (kf := fun e : CE => V.int e.c.no) (cg := ccell a) (F := pcells a ps ++ ((endd cs).map (ccell a) ++ F)) (P := P0 a so dx pl pc ps cs qs qc qo qd)
    (walk_tupE (xs := (opn cs).map fun e => V.int e.c.no) rfl) (fun _ _ _ _ h => ye h) (upE g)
    (fun i σ P J => J = .tup t ((opn cs).map fun e => V.int e.c.no) :: I ∧ P = P0 a so dx pl pc ps cs qs qc qo qd ∧ S σ)
    (fun i σ P J H1 M ⟨hJ, _, _⟩ hC => hC.tup (by rw [hJ]; exact List.mem_cons_self)) ⟨rfl, rfl, h0⟩ hC ?_ ?_
  · rintro i e σ P J H1 R Z he ⟨rfl, rfl, hS⟩ hC hz
    exact turn e σ H1 R Z (List.mem_of_getElem? he) hS hC (fun σ' H' hS' hC' => hz σ' _ _ H' ⟨rfl, rfl, hS'⟩ hC')
  · rintro σ P J H1 ⟨rfl, rfl, hS⟩ hC
    refine k _ _ hS ?_
    have e2 : (PL a so dx pl pc ps (upC g cs) qs qc qo qd F).Perm (P0 a so dx pl pc ps cs qs qc qo qd ++ (((opn cs).map (upE g)).map (ccell a) ++ (pcells a ps ++ ((endd cs).map (ccell a) ++ F)))) := by
      have h : (ccells a (upC g cs) ++ F).Perm (((opn cs).map (upE g)).map (ccell a) ++ ((endd cs).map (ccell a) ++ F)) := by
        conv => rhs; rw [← endd_up hg, ← List.append_assoc, ← List.map_append, ← List.map_append]
        exact List.Perm.append_right F ((opn_perm.map (upE g)).map _).symm
      unfold PL
      rw [upC_len, keysC_up hn]
      refine List.Perm.append_left (P0 a so dx pl pc ps cs qs qc qo qd) ?_
      exact (List.Perm.append_left _ h).trans swap3
    exact (hC.perm e2.symm).keepI fun j hj => List.mem_cons_of_mem _ hj
theorem holdA_no (c : CI) : (holdA c).no = c.no := by unfold holdA; split <;> rfl
theorem swapC_no (c : CI) : (swapC c).no = c.no := by unfold swapC; split; rfl; split <;> rfl
theorem pure_Sounds_hold_active {H0 : Hp} (T : Txt K mg a) (h : sp_Sounds_hold_active K a vs H0 Q E) : t_Sounds_hold_active K a E { nx := fun _ H' => Q .non H', rt := Q } (L2.start N_Sounds_hold_active vs) H0 := by
  obtain ⟨_, so, dx, pl, pc, ps, cs, qs, qc, qo, qd, F, rfl, y, ok, tq, k⟩ := h
  have hC := Ctx.start (K := K) y
  unfold t_Sounds_hold_active
  walk_at "start"
  walk_at "go"
  refine c_open hC (by unfold PL; walk_at "perm3") ok tq (fun qo' t H1 tq hC => ?_)
  walk_at "go"
  refine open_loop (g := holdA) (S := fun σ => ∃ v, σ = [some (.ref so), v]) holdA_no (fun c h => if_neg (by rw [h]; decide +kernel)) ⟨_, rfl⟩ hC ?_ (fun σ' H' _ hC => k _ _ hC.sb hC.lay tq)
  rintro e σ H2 R Z he ⟨v, rfl⟩ hC hz
  have e1 := keysC_look ok (List.mem_filter.mp he).1
  simp only [ccell, upE, List.cons_append, List.nil_append] at hC hz
  unfold t_Sounds_hold_active_for0
  by_cases c : e.c.st = ("active" : Str)
  · rw [show holdA e.c = stC e.c "held" from if_pos c] at hz
    walk_at "all"
    exact hz _ _ ⟨_, rfl⟩ hC
  · rw [show holdA e.c = e.c from if_neg c] at hz
    walk_at "all"
    exact hz _ _ ⟨_, rfl⟩ hC
/-- the end of play -/
theorem play_tail {so dx pl pc : Addr} {app ask : Str} {rest : List PlE} {cs : List CE} {qs qc qo qd : Array Value} {v3 : Option V} {A : L2.St → Hp → Prop} (T : Txt K mg a) (ok : OkC cs) (hb : inB cs = false) (hl : rest.length ≤ 160) (tq : TQ qs qc qo qd) (hC : Ctx K B H (PL a so dx pl pc rest cs qs qc qo qd F) I)
    (k : ∀ H' qc' pl' ad d, TQ qs qc' qo qd → Ctx K B H' (PL a so dx pl' pc (setP "playing" (⟨⟨app, ask, "playing"⟩, ad, d, ad⟩ :: rest)) cs qs qc' qo qd F) I → Q (.bl true) H') : t_Sounds_play_tail0 K a E { nx := A, rt := Q } [some (.ref so), some (.str app), some (.str ask), v3] H := by
  unfold PL at hC
  unfold t_Sounds_play_tail0
  have hal : (adsP rest).length ≤ 160 := by rw [List.length_map]; exact hl
  walk_at "go"
  simp only [List.cons_append, List.nil_append] at hC
  have hC1 : Ctx K B H ((so, .ins a.c_Sounds dx [("players", .ref lp), ("calls", .ref pc), ("count", .int (cs.length : Nat))]) :: (lp, .lst (V.ref mx :: adsP rest)) :: (pc, .dK (mI id (keysC cs))) ::
    (a.tb_Sounds_shown, .tbl qs) :: (a.tb_Sounds_in_call, .tbl qc) :: (a.tb_Sounds_open_calls, .tbl qo) :: (a.tb_Sounds_dial, .tbl qd) :: (mx, .ins a.c_Player mdx [("app", .str app), ("way", .str ask), ("state", .str "playing")]) :: (pcells a rest ++ (ccells a cs ++ F))) I := ⟨by walk_at "lay3", hC.im, hC.sb⟩
  have hC : Ctx K B H (PL a so dx lp pc (⟨⟨app, ask, "playing"⟩, mx, mdx, mx⟩ :: rest) cs qs qc qo qd F) I := hC1
  refine c_settle (w := "playing") hC (by unfold PL; walk_at "perm3") ok (by rw [List.length_cons]; omega) tq (by rw [hb]; rfl) (fun qc' H1 tq hC => ?_)
  walk_at "go"
  exact k _ _ _ _ _ tq hC
theorem pure_Sounds_play {H0 : Hp} (T : Txt K mg a) (h : sp_Sounds_play K a vs H0 Q E) : t_Sounds_play K a E { nx := fun _ H' => Q .non H', rt := Q } (L2.start N_Sounds_play vs) H0 := by
  obtain ⟨_, so, dx, pl, pc, app, ask, ps, cs, qs, qc, qo, qd, F, rfl, y, ok, hl, tq, k1, k2, k3⟩ := h
  have hC := Ctx.start (K := K) y
  unfold t_Sounds_play
  walk_at "start"
  walk_at "go"
  refine s_ninT (ys := WAYS) (T.tp_ASKS.1 _) rfl ?_
  by_cases hw : ask ∈ WAYS
  · walk_at "all"
    cases hb : inB cs with
    | true =>
      refine c_in hC (by unfold PL; walk_at "perm3") ok tq hb (fun qc' H1 tq hC => ?_)
      walk_at "all"
      exact k2 hw hb _ _ hC.sb hC.lay tq
    | false =>
      refine c_in hC (by unfold PL; walk_at "perm3") ok tq hb (fun qc' H1 tq hC => ?_)
      walk_at "all"
      unfold t_Sounds_play_tail2
      walk_at "go"
      refine drop_lc (app := app) (by omega) hC (fun e H1 L1 Zy Zn hC hy hn => ?_) (fun H D hC => ?_)
      · simp only [wipe, List.set_cons_zero, List.set_cons_succ]
        walk_at "go"
        refine ⟨rfl, ?_⟩
        by_cases c : e.c.nm = app
        · walk_at "all"
          exact hn fun z => z c
        · walk_at "all"
          exact hy c
      · unfold PL at hC
        walk_at "go"
        have hC1 : Ctx K H0 H ((so, .ins a.c_Sounds dx [("players", .ref D), ("calls", .ref pc), ("count", .int (cs.length : Nat))]) :: (D, .lst (adsP (dropP app ps))) :: (pc, .dK (mI id (keysC cs))) ::
  (a.tb_Sounds_shown, .tbl qs) :: (a.tb_Sounds_in_call, .tbl qc') :: (a.tb_Sounds_open_calls, .tbl qo) :: (a.tb_Sounds_dial, .tbl qd) :: (pcells a ps ++ (ccells a cs ++ F))) [] := ⟨by walk_at "lay3", (fun j hj => by cases hj), hC.sb⟩
        have hC : Ctx K H0 H (PL a so dx D pc (dropP app ps) cs qs qc' qo qd F) [] := ⟨hC1.lay.subl (.cons₂ _ (.cons₂ _ (.cons₂ _ (.cons₂ _ (.cons₂ _ (.cons₂ _ (.cons₂ _ drop_sel))))))), (fun j hj => by cases hj), hC1.sb⟩
        unfold t_Sounds_play_tail1
        by_cases hlg : ask = ("long" : Str)
        · have k3 := k3 hw hb
          unfold playE at k3
          rw [if_pos hlg] at k3
          unfold PL at hC
          walk_at "all"
          have hC1 : Ctx K H0 H ((so, .ins a.c_Sounds dx [("players", .ref lp), ("calls", .ref pc), ("count", .int (cs.length : Nat))]) :: (lp, .lst []) :: (pc, .dK (mI id (keysC cs))) ::
  (a.tb_Sounds_shown, .tbl qs) :: (a.tb_Sounds_in_call, .tbl qc') :: (a.tb_Sounds_open_calls, .tbl qo) :: (a.tb_Sounds_dial, .tbl qd) :: (ccells a cs ++ F)) [] := ⟨by walk_at "lay3", hC.im, hC.sb⟩
          have hC2 : Ctx K H0 H (PL a so dx lp pc [] cs qs qc' qo qd F) [] := hC1
          exact play_tail T ok hb (by simp) tq hC2 (fun H' qc' pl' ad d tq hC => k3 _ _ _ _ _ hC.sb hC.lay tq)
        · have k3 := k3 hw hb
          unfold playE at k3
          rw [if_neg hlg] at k3
          walk_at "all"
          exact play_tail T ok hb (Nat.le_trans drop_len (by omega)) tq hC (fun H' qc' pl' ad d tq hC => k3 _ _ _ _ _ hC.sb hC.lay tq)
  · walk_at "all"
    exact k1 hw _ hC.sb hC.lay
end
section
variable {K : PySem.W.Frag} {mg : Str → Option Value} {a : Adr} {vs : List V} {B H : Hp} {Q : VK} {E : XK} {L F : List (Addr × HO)} {I : List Im}
theorem new_keys {cs : List CE} {st oth : Str} {b : Bool} {ad d ow : Addr} : keysC (newC cs st oth b ad d ow) = keysC cs ++ [(((cs.length : Nat) : Int) + 1, V.ref ad)] := List.map_append
theorem new_owns {cs : List CE} {st oth : Str} {b : Bool} {ad d ow : Addr} : ownC (newC cs st oth b ad d ow) = ownC cs ++ [(((cs.length : Nat) : Int) + 1, V.ref ow)] := List.map_append
theorem new_cells {cs : List CE} {st oth : Str} {b : Bool} {ad d ow : Addr} : ccells a (newC cs st oth b ad d ow) ++ F = ccells a cs ++ ((ad, .ins a.c_Call d [("number", .int ((cs.length : Nat) + 1)), ("other", .str oth), ("came", .bl b), ("state", .str st)]) :: F) := by
  unfold newC
  rw [ccells_app, List.append_assoc]
  rfl
theorem new_ocells {cs : List CE} {st oth : Str} {b : Bool} {ad d ow : Addr} : ocells (newC cs st oth b ad d ow) ++ F = ocells cs ++ ((ow, .dK [(.inr "state", .str st)]) :: F) := by
  unfold newC
  rw [ocells_app, List.append_assoc]
  rfl
theorem inB_new {cs : List CE} {st oth : Str} {b : Bool} {ad d ow : Addr} (h : st ∈ INS) : inB (newC cs st oth b ad d ow) = true := by
  unfold inB newC
  rw [List.any_append]
  simp [h]
theorem pure_Sounds_add {H0 : Hp} (T : Txt K mg a) (h : sp_Sounds_add K a vs H0 Q E) : t_Sounds_add K a E { nx := fun _ H' => Q .non H', rt := Q } (L2.start N_Sounds_add vs) H0 := by
  obtain ⟨_, so, dx, pl, pc, oth, b, ps, cs, qs, qc, qo, qd, F, rfl, y, ok, hl2, hl, tq, k⟩ := h
  have hC := Ctx.start (K := K) y
  unfold PL at hC
  unfold t_Sounds_add
  walk_at "start"
  walk_at "go"
  refine s_putI (l := keysC cs) hC (hC.get (by walk_at "mem")) (by rw [keysC_len]; omega) (by walk_at "up") (fun H hC => ?_)
  rw [putR_new (keysC_none (fresh_none ok))] at hC
  have hs : (if b = true then "ringing" else "calling" : Str) ∈ INS := by cases b <;> decide +kernel
  have hs2 : (if b = true then "ringing" else "calling" : Str) ∈ SCS := by cases b <;> decide +kernel
  have ok2 : OkC (newC cs (if b = true then "ringing" else "calling") oth b mx mdx mx) := ok.new hl2 hs2
  have hC1 : Ctx K H0 H ((so, .ins a.c_Sounds dx [("players", .ref pl), ("calls", .ref pc), ("count", .int ((cs.length : Nat) + 1))]) :: (pl, .lst (adsP ps)) :: (pc, .dK (mI id (keysC cs ++ [(((cs.length : Nat) : Int) + 1, V.ref mx)]))) ::
    (a.tb_Sounds_shown, .tbl qs) :: (a.tb_Sounds_in_call, .tbl qc) :: (a.tb_Sounds_open_calls, .tbl qo) :: (a.tb_Sounds_dial, .tbl qd) :: (pcells a ps ++ (ccells a cs ++ ((mx, .ins a.c_Call mdx [("number", .int ((cs.length : Nat) + 1)), ("other", .str oth), ("came", .bl b), ("state", .str (if b = true then "ringing" else "calling"))]) :: F)))) [] := ⟨by walk_at "lay3", hC.im, hC.sb⟩
  have hC : Ctx K H0 H (PL a so dx pl pc ps (newC cs (if b = true then "ringing" else "calling") oth b mx mdx mx) qs qc qo qd F) [] := by
    unfold PL
    rw [newC_len, new_keys, new_cells]
    exact hC1
  walk_at "go"
  refine c_settle (w := "waiting") hC (by unfold PL; walk_at "perm3") ok2 hl tq (by rw [inB_new hs]; rfl) (fun qc' H1 tq hC => ?_)
  have hC2 := hC
  unfold PL at hC
  rw [newC_len] at hC
  walk_at "go"
  exact k _ _ _ _ hC2.sb hC2.lay tq
theorem pure_Sounds_come {H0 : Hp} (T : Txt K mg a) (h : sp_Sounds_come K a vs H0 Q E) : t_Sounds_come K a E { nx := fun _ H' => Q .non H', rt := Q } (L2.start N_Sounds_come vs) H0 := by
  obtain ⟨_, so, dx, pl, pc, oth, ps, cs, qs, qc, qo, qd, F, rfl, y, ok, hl2, hl, tq, k1, k2⟩ := h
  have hC := Ctx.start (K := K) y
  unfold t_Sounds_come
  walk_at "start"
  walk_at "go"
  refine c_open hC (by unfold PL; walk_at "perm3") ok tq (fun qo' t H1 tq hC => ?_)
  walk_at "go"
  refine s_lenT (hC.tup (by walk_at "mem")) ?_
  rw [List.length_map]
  by_cases c : (opn cs).length < 2
  · have c1 : ¬ (2 : Int) ≤ ((opn cs).length : Nat) := by omega
    walk_at "all"
    refine c_add (b := true) hC (by unfold PL; walk_at "perm3") ok hl2 hl tq (fun qc' ad d H1 tq hC => ?_)
    rw [if_pos rfl] at hC
    walk_at "go"
    exact k1 c _ _ _ _ _ hC.sb hC.lay tq
  · have c1 : (2 : Int) ≤ ((opn cs).length : Nat) := by omega
    walk_at "all"
    exact k2 c _ _ hC.sb hC.lay tq
theorem pure_Sounds_dial {H0 : Hp} (T : Txt K mg a) (h : sp_Sounds_dial K a vs H0 Q E) : t_Sounds_dial K a E { nx := fun _ H' => Q .non H', rt := Q } (L2.start N_Sounds_dial vs) H0 := by
  obtain ⟨_, so, dx, pl, pc, oth, ps, cs, qs, qc, qo, qd, F, rfl, y, ok, hl2, hl, tq, k1, k2⟩ := h
  have hC := (Ctx.start (K := K) y).add (i := .tri qd) tq.d
  have hlo : (opn cs).length ≤ 60 := Nat.le_trans (List.length_filter_le _ _) ok.len
  unfold t_Sounds_dial
  walk_at "start"
  walk_at "go"
  refine c_open hC (by unfold PL; walk_at "perm3") ok tq (fun qo' t H1 tq hC => ?_)
  walk_at "go"
  refine s_lenT (hC.tup (by walk_at "mem")) ?_
  rw [List.length_map]
  by_cases c : (opn cs).length < 2
  · have c1 : ¬ (2 : Int) ≤ ((opn cs).length : Nat) := by omega
    walk_at "all"
    refine c_open hC (by unfold PL; walk_at "perm3") ok tq (fun qo' t H1 tq hC => ?_)
    unfold PL at hC
    walk_at "go"
    refine any_read (es := opn cs) (kf := fun e : CE => V.int e.c.no) (walk_tupE (xs := (opn cs).map fun e => V.int e.c.no) rfl) (fun e => !decide (e.c.st = ("active" : Str))) (by omega) (fun H1 hC => hC.tup (by walk_at "mem")) hC (fun i e H1 Z Zn he hC hz => ?_) (fun H' hC => ?_)
    · have hm : e ∈ cs := (List.mem_filter.mp (List.mem_of_getElem? he)).1
      have e1 := keysC_look ok hm
      obtain ⟨j, hj⟩ := List.mem_iff_getElem?.mp hm
      have hC2 := hC
      rw [ccells_mid hj] at hC
      simp only [ccell] at hC
      simp only [wipe, List.set_cons_zero, List.set_cons_succ]
      walk_at "go"
      refine ⟨rfl, ?_⟩
      walk_at "go"
      exact hz _ hC2
    · rw [if_pos rfl]
      have ht := hC.tri (ps := tb) (by walk_at "mem")
      have tq2 : TQ qs qc qo' tb := ⟨tq.s, tq.c, tq.o, ht⟩
      have hC : Ctx K H0 H' (PL a so dx pl pc ps cs qs qc qo' tb F) [] := ⟨by unfold PL; walk_at "lay3", (fun j hj => by cases hj), hC.sb⟩
      cases hb : (opn cs).any fun e => !decide (e.c.st = ("active" : Str)) with
      | true =>
        have hf : freeB cs = false := by
          unfold freeB
          rw [decide_eq_true c, Bool.true_and]
          refine List.all_eq_false.mpr ?_
          obtain ⟨e, he, z⟩ := List.any_eq_true.mp hb
          exact ⟨e, he, by simpa using z⟩
        walk_at "all"
        exact k2 hf _ _ _ hC.sb hC.lay tq2
      | false =>
        have hf : freeB cs = true := by
          unfold freeB
          rw [decide_eq_true c, Bool.true_and]
          refine List.all_eq_true.mpr fun e he => ?_
          have z := List.any_eq_false.mp hb e he
          simpa using z
        walk_at "all"
        refine c_hact hC (by unfold PL; walk_at "perm3") ok tq2 (fun qo' H1 tq hC => ?_)
        walk_at "go"
        have ok2 : OkC (upC holdA cs) := ok.up holdA_no (fun c hc => by unfold holdA; split; exact (by decide +kernel : ("held" : Str) ∈ SCS); exact hc)
        refine c_add (b := false) hC (by unfold PL; walk_at "perm3") ok2 (by rw [upC_len]; exact hl2) hl tq (fun qc' ad d H1 tq hC => ?_)
        rw [if_neg Bool.false_ne_true] at hC
        rw [upC_len]
        walk_at "go"
        exact k1 hf _ _ _ _ _ _ hC.sb hC.lay tq
  · have c1 : (2 : Int) ≤ ((opn cs).length : Nat) := by omega
    have hf : freeB cs = false := by unfold freeB; rw [decide_eq_false c, Bool.false_and]
    walk_at "all"
    exact k2 hf _ _ _ hC.sb hC.lay tq
theorem scs_ok {x : Str} (h : x ∈ SCS) : PyData.strOk x = true := by
  unfold SCS at h
  simp only [List.mem_cons, List.not_mem_nil, or_false] at h
  rcases h with rfl | rfl | rfl | rfl | rfl <;> decide +kernel
theorem opnS_ok {cs : List CE} (ok : OkC cs) : ∀ x, x ∈ srtT (opnS cs) → PyData.strOk x = true := fun x hx => by
  obtain ⟨e, he, rfl⟩ := List.mem_map.mp ((srtT_perm _).mem_iff.mp hx)
  exact scs_ok (ok.st e (List.mem_filter.mp he).1)
theorem pure_Sounds_swap {H0 : Hp} (T : Txt K mg a) (h : sp_Sounds_swap K a vs H0 Q E) : t_Sounds_swap K a E { nx := fun _ H' => Q .non H', rt := Q } (L2.start N_Sounds_swap vs) H0 := by
  obtain ⟨_, so, dx, pl, pc, ps, cs, qs, qc, qo, qd, F, rfl, y, ok, tq, k1, k2⟩ := h
  have hC := Ctx.start (K := K) y
  have hlo : (opn cs).length ≤ 60 := Nat.le_trans (List.length_filter_le _ _) ok.len
  have hls : (opnS cs).length < 64 := by unfold opnS; rw [List.length_map]; omega
  unfold t_Sounds_swap
  walk_at "start"
  walk_at "go"
  refine c_open hC (by unfold PL; walk_at "perm3") ok tq (fun qo' t H1 tq hC => ?_)
  walk_at "go"
  refine lc_read (es := opn cs) (kf := fun e : CE => V.int e.c.no) (walk_tupE (xs := (opn cs).map fun e => V.int e.c.no) rfl) (fun _ => true) (fun e => .str e.c.st) (by omega) (fun H1 x0 hC => hC.tup (by walk_at "mem")) hC (fun i e H1 D2 vr Zy Zn he hC hy hn => ?_) (fun H D2 vr hC => ?_)
  · have hm : e ∈ cs := (List.mem_filter.mp (List.mem_of_getElem? he)).1
    have e1 := keysC_look ok hm
    obtain ⟨j, hj⟩ := List.mem_iff_getElem?.mp hm
    have hC2 := hC
    unfold PL at hC
    rw [ccells_mid hj] at hC
    simp only [ccell] at hC
    simp only [wipe, List.set_cons_zero, List.set_cons_succ]
    walk_at "go"
    refine ⟨rfl, ?_⟩
    walk_at "go"
    exact hy _ _ _ rfl hC2 (fun j hj => hj) (.str _)
  have hd0 := hC.dats (vs := vr) (ds := ((opn cs).filter fun _ => true).map fun e => PyData.str e.c.st) List.mem_cons_self
  rw [show ((opn cs).filter fun _ => true) = opn cs from List.filter_eq_self.mpr fun _ _ => rfl] at hd0
  have hd := tds_strs (ns := opnS cs) (by unfold opnS; rw [List.map_map]; exact hd0)
  subst hd
  have hC : Ctx K H0 H ((D2, .lst ((opnS cs).map V.str)) :: PL a so dx pl pc ps cs qs qc qo' qd F) [] := ⟨hC.lay, (fun j hj => by cases hj), hC.sb⟩
  walk_at "go"
  unfold t_Sounds_swap_tail2
  walk_at "go"
  refine s_neSS (ns := srtT (opnS cs)) (ms := ["active", "held"]) (hC.get (by walk_at "mem")) (hC.get (o := .lst [.str "active", .str "held"]) (by walk_at "mem")) (opnS_ok ok) (fun x hx => by
    simp only [List.mem_cons, List.not_mem_nil, or_false] at hx
    rcases hx with rfl | rfl <;> decide +kernel) ?_
  by_cases c : srtT (opnS cs) = (["active", "held"] : List Str)
  · have hf : swapB cs = true := decide_eq_true c
    have k1 := k1 hf
    walk_at "all"
    unfold t_Sounds_swap_tail1
    have hC : Ctx K H0 H (PL a so dx pl pc ps cs qs qc qo' qd F) [] := ⟨by unfold PL; walk_at "lay3", hC.im, hC.sb⟩
    walk_at "go"
    refine c_open hC (by unfold PL; walk_at "perm3") ok tq (fun qo' t H1 tq hC => ?_)
    walk_at "go"
    refine open_loop (g := swapC) (S := fun σ => ∃ v1 v3, σ = [some (.ref so), v1, some (.ref D2), v3]) swapC_no (fun c h => if_pos h) ⟨_, _, rfl⟩ hC ?_ (fun σ' H' _ hC => k1 _ _ hC.sb hC.lay tq)
    rintro e σ H2 R Z he ⟨v1, v3, rfl⟩ hC hz
    have e1 := keysC_look ok (List.mem_filter.mp he).1
    have e2 : e.c.st ≠ ("ended" : Str) := of_decide_eq_true (List.mem_filter.mp he).2
    simp only [ccell, upE, List.cons_append, List.nil_append] at hC hz
    unfold t_Sounds_swap_for0
    by_cases c : e.c.st = ("active" : Str)
    · rw [show swapC e.c = stC e.c "held" from by unfold swapC; rw [if_neg e2, if_pos c]] at hz
      walk_at "all"
      exact hz _ _ ⟨_, _, rfl⟩ hC
    · rw [show swapC e.c = stC e.c "active" from by unfold swapC; rw [if_neg e2, if_neg c]] at hz
      walk_at "all"
      exact hz _ _ ⟨_, _, rfl⟩ hC
  · have hf : swapB cs = false := decide_eq_false c
    walk_at "all"
    exact k2 hf _ _ hC.sb (by unfold PL; walk_at "lay3") tq
end
section
variable {K : PySem.W.Frag} {mg : Str → Option Value} {a : Adr} {vs : List V} {B H : Hp} {Q : VK} {E : XK} {L F : List (Addr × HO)} {I : List Im}
theorem anyNo_of {cs : List CE} {e : CE} (ok : OkC cs) (he : e ∈ cs) (f : CE → Prop) [DecidablePred f] : (cs.any fun x => decide (x.c.no = e.c.no ∧ f x)) = decide (f e) := by
  by_cases q : f e
  · rw [decide_eq_true q, List.any_eq_true]
    exact ⟨e, he, decide_eq_true ⟨rfl, q⟩⟩
  · rw [decide_eq_false q, List.any_eq_false]
    intro x hx z
    have z := of_decide_eq_true z
    have := okc_eq ok.nd hx he z.1
    subst this
    exact q z.2
theorem anyNo_none {cs : List CE} {n : Int} (h : ∀ e, e ∈ cs → e.c.no ≠ n) (f : CE → Prop) [DecidablePred f] : (cs.any fun x => decide (x.c.no = n ∧ f x)) = false := by
  rw [List.any_eq_false]
  intro x hx z
  exact h x hx (of_decide_eq_true z).1
theorem oneC_no {n : Int} {s : Str} (c : CI) : (oneC n s c).no = c.no := by unfold oneC; split <;> rfl
theorem holdC_no {n : Int} (c : CI) : (holdC n c).no = c.no := by unfold holdC; split <;> rfl
theorem answC_no {n : Int} (c : CI) : (answC n c).no = c.no := by unfold answC; split; rfl; exact holdA_no c
theorem holdA_st {c : CI} (h : c.st ∈ SCS) : (holdA c).st ∈ SCS := by unfold holdA; split; exact (by decide +kernel : ("held" : Str) ∈ SCS); exact h
theorem oneC_st {n : Int} {s : Str} (hs : s ∈ SCS) {c : CI} (h : c.st ∈ SCS) : (oneC n s c).st ∈ SCS := by unfold oneC; split; exact hs; exact h
theorem holdC_st {n : Int} {c : CI} (h : c.st ∈ SCS) : (holdC n c).st ∈ SCS := by
  unfold holdC
  split
  · show (if c.st = ("active" : Str) then ("held" : Str) else "active") ∈ SCS
    split <;> decide +kernel
  · exact h
theorem answC_st {n : Int} {c : CI} (h : c.st ∈ SCS) : (answC n c).st ∈ SCS := by unfold answC; split; exact (by decide +kernel : ("active" : Str) ∈ SCS); exact holdA_st h
theorem answ_eq {n : Int} : (fun c => oneC n "active" (holdA c)) = answC n := funext fun c => by
  unfold oneC answC
  rw [holdA_no]
  split
  · unfold holdA; split <;> rfl
  · rfl
theorem pure_Sounds_end {H0 : Hp} (T : Txt K mg a) (h : sp_Sounds_end K a vs H0 Q E) : t_Sounds_end K a E { nx := fun _ H' => Q .non H', rt := Q } (L2.start N_Sounds_end vs) H0 := by
  obtain ⟨_, so, dx, pl, pc, n, ps, cs, qs, qc, qo, qd, F, rfl, y, ok, hl, tq, k1, k2⟩ := h
  have hC := Ctx.start (K := K) y
  unfold t_Sounds_end
  by_cases q : ∃ e, e ∈ cs ∧ e.c.no = n
  · obtain ⟨e, he, rfl⟩ := q
    obtain ⟨i, hi⟩ := List.mem_iff_getElem?.mp he
    have hb : endB cs e.c.no = decide (e.c.st ≠ ("ended" : Str)) := anyNo_of ok he fun x => x.c.st ≠ ("ended" : Str)
    walk_at "start"
    walk_at "go"
    refine c_call hC (by unfold PL; walk_at "perm3") ok he rfl ?_
    unfold PL at hC
    rw [ccells_mid hi] at hC
    simp only [ccell] at hC
    by_cases c : e.c.st = ("ended" : Str)
    · walk_at "all"
      exact k2 (by rw [hb]; exact decide_eq_false fun z => z c) _ _ hC.sb (by unfold PL; rw [ccells_mid hi]; exact hC.lay) tq
    · walk_at "all"
      have hg : ∀ c : CI, c.no ≠ e.c.no → oneC e.c.no "ended" c = c := fun c hc => if_neg hc
      have hC : Ctx K H0 H (PL a so dx pl pc ps (upC (oneC e.c.no "ended") cs) qs qc qo qd F) [] := by
        unfold PL
        rw [upC_len, keysC_up oneC_no, put_one ok.nd hi hg, show oneC e.c.no "ended" e.c = stC e.c "ended" from if_pos rfl]
        exact hC
      refine c_settle hC (by unfold PL; walk_at "perm3") (ok.up oneC_no fun c hc => oneC_st (by decide +kernel) hc) hl tq rfl (fun qc' H1 tq hC => ?_)
      walk_at "go"
      exact k1 (by rw [hb]; exact decide_eq_true c) _ _ _ hC.sb hC.lay tq
  · have q2 : ∀ e, e ∈ cs → e.c.no ≠ n := fun e he z => q ⟨e, he, z⟩
    walk_at "start"
    walk_at "go"
    refine c_callF hC (by unfold PL; walk_at "perm3") ok q2 (fun H1 hC => ?_)
    exact k2 (anyNo_none q2 _) _ _ hC.sb hC.lay tq
theorem pure_Sounds_answer {H0 : Hp} (T : Txt K mg a) (h : sp_Sounds_answer K a vs H0 Q E) : t_Sounds_answer K a E { nx := fun _ H' => Q .non H', rt := Q } (L2.start N_Sounds_answer vs) H0 := by
  obtain ⟨_, so, dx, pl, pc, n, ps, cs, qs, qc, qo, qd, F, rfl, y, ok, hl, tq, k1, k2⟩ := h
  have hC := Ctx.start (K := K) y
  unfold t_Sounds_answer
  by_cases q : ∃ e, e ∈ cs ∧ e.c.no = n
  · obtain ⟨e, he, rfl⟩ := q
    obtain ⟨i, hi⟩ := List.mem_iff_getElem?.mp he
    have hb : answB cs e.c.no = decide (e.c.st = ("calling" : Str) ∨ e.c.st = ("ringing" : Str)) := anyNo_of ok he fun x => x.c.st = ("calling" : Str) ∨ x.c.st = ("ringing" : Str)
    walk_at "start"
    walk_at "go"
    refine c_call hC (by unfold PL; walk_at "perm3") ok he rfl ?_
    unfold PL at hC
    rw [ccells_mid hi] at hC
    simp only [ccell] at hC
    by_cases c : e.c.st ∈ (["calling", "ringing"] : List Str)
    · have c2 : e.c.st = ("calling" : Str) ∨ e.c.st = ("ringing" : Str) := by simpa using c
      have c3 : holdA e.c = e.c := if_neg fun z => by rcases c2 with c2 | c2 <;> (rw [c2] at z; exact absurd z (by decide +kernel))
      walk_at "all"
      have hC : Ctx K H0 H (PL a so dx pl pc ps cs qs qc qo qd F) [] := ⟨by unfold PL; rw [ccells_mid hi]; simp only [ccell]; walk_at "lay3", (fun j hj => by cases hj), hC.sb⟩
      refine c_hact hC (by unfold PL; walk_at "perm3") ok tq (fun qo' H1 tq hC => ?_)
      have ok2 : OkC (upC holdA cs) := ok.up holdA_no fun c hc => holdA_st hc
      have hi2 := up_at (f := holdA) hi
      unfold PL at hC
      rw [ccells_mid hi2] at hC
      simp only [ccell, c3] at hC
      walk_at "go"
      have hg : ∀ c : CI, c.no ≠ ({ e with c := holdA e.c } : CE).c.no → oneC e.c.no "active" c = c := fun c hc => if_neg (by rw [c3] at hc; exact hc)
      have hC : Ctx K H0 H (PL a so dx pl pc ps (upC (answC e.c.no) cs) qs qc qo' qd F) [] := by
        rw [← answ_eq, ← upC_up]
        unfold PL
        rw [upC_len, keysC_up oneC_no, put_one ok2.nd hi2 hg]
        rw [show oneC e.c.no "active" ({ e with c := holdA e.c } : CE).c = stC e.c "active" from by rw [c3]; exact if_pos rfl]
        exact hC
      refine c_settle hC (by unfold PL; walk_at "perm3") (ok.up answC_no fun c hc => answC_st hc) hl tq rfl (fun qc' H1 tq hC => ?_)
      walk_at "go"
      exact k1 (by rw [hb]; exact decide_eq_true c2) _ _ _ hC.sb hC.lay tq
    · have c2 : ¬ (e.c.st = ("calling" : Str) ∨ e.c.st = ("ringing" : Str)) := fun z => c (by simpa using z)
      walk_at "all"
      exact k2 (by rw [hb]; exact decide_eq_false c2) _ _ hC.sb (by unfold PL; rw [ccells_mid hi]; simp only [ccell]; walk_at "lay3") tq
  · have q2 : ∀ e, e ∈ cs → e.c.no ≠ n := fun e he z => q ⟨e, he, z⟩
    walk_at "start"
    walk_at "go"
    refine c_callF hC (by unfold PL; walk_at "perm3") ok q2 (fun H1 hC => ?_)
    exact k2 (anyNo_none q2 _) _ _ hC.sb hC.lay tq
theorem pure_Sounds_hold {H0 : Hp} (T : Txt K mg a) (h : sp_Sounds_hold K a vs H0 Q E) : t_Sounds_hold K a E { nx := fun _ H' => Q .non H', rt := Q } (L2.start N_Sounds_hold vs) H0 := by
  obtain ⟨_, so, dx, pl, pc, n, ps, cs, qs, qc, qo, qd, F, rfl, y, ok, hl, tq, k1, k2⟩ := h
  have hC := Ctx.start (K := K) y
  unfold t_Sounds_hold
  by_cases q : ∃ e, e ∈ cs ∧ e.c.no = n
  · obtain ⟨e, he, rfl⟩ := q
    obtain ⟨i, hi⟩ := List.mem_iff_getElem?.mp he
    have hb : holdB cs e.c.no = decide (e.c.st = ("active" : Str) ∨ e.c.st = ("held" : Str) ∧ (opn cs).length = 1) := anyNo_of ok he fun x => x.c.st = ("active" : Str) ∨ x.c.st = ("held" : Str) ∧ (opn cs).length = 1
    have hg : ∀ c : CI, c.no ≠ e.c.no → holdC e.c.no c = c := fun c hc => if_neg hc
    have fin : ∀ {qs qc qo qd : Array Value} {H : Hp}, holdB cs e.c.no = true → TQ qs qc qo qd → Ctx K H0 H (PL a so dx pl pc ps (upC (holdC e.c.no) cs) qs qc qo qd F) [] → (∀ qc' H1, TQ qs qc' qo qd → Ctx K H0 H1 (PL a so dx pl pc (setP (wst (inB (upC (holdC e.c.no) cs))) ps) (upC (holdC e.c.no) cs) qs qc' qo qd F) [] → Q .non H1) → sp_Sounds_settle K a [.ref so] H (fun x H => Q .non H) E := fun hb tq hC k => c_settle hC (by unfold PL; walk_at "perm3") (ok.up holdC_no fun c hc => holdC_st hc) hl tq rfl (fun qc' H1 tq hC => k _ _ tq hC)
    walk_at "start"
    walk_at "go"
    refine c_call hC (by unfold PL; walk_at "perm3") ok he rfl ?_
    unfold PL at hC
    rw [ccells_mid hi] at hC
    simp only [ccell] at hC
    by_cases c : e.c.st = ("active" : Str)
    · have hb2 : holdB cs e.c.no = true := by rw [hb]; exact decide_eq_true (.inl c)
      walk_at "all"
      have hC : Ctx K H0 H (PL a so dx pl pc ps (upC (holdC e.c.no) cs) qs qc qo qd F) [] := by
        unfold PL
        rw [upC_len, keysC_up holdC_no, put_one ok.nd hi hg, show holdC e.c.no e.c = stC e.c "held" from by unfold holdC; rw [if_pos rfl, if_pos c]]
        exact hC
      refine fin hb2 tq hC (fun qc' H1 tq hC => ?_)
      exact k1 hb2 _ _ _ hC.sb hC.lay tq
    · by_cases c2 : e.c.st = ("held" : Str)
      · walk_at "all"
        have hC : Ctx K H0 H0 (PL a so dx pl pc ps cs qs qc qo qd F) [] := ⟨by unfold PL; rw [ccells_mid hi]; exact hC.lay, (fun j hj => by cases hj), hC.sb⟩
        refine c_open hC (by unfold PL; walk_at "perm3") ok tq (fun qo' t H1 tq hC => ?_)
        walk_at "go"
        refine s_lenT (hC.tup (by walk_at "mem")) ?_
        rw [List.length_map]
        by_cases c3 : (opn cs).length = 1
        · have c4 : ((opn cs).length : Int) = 1 := by omega
          have hb2 : holdB cs e.c.no = true := by rw [hb]; exact decide_eq_true (.inr ⟨c2, c3⟩)
          unfold PL at hC
          rw [ccells_mid hi] at hC
          simp only [ccell] at hC
          walk_at "all"
          have hC : Ctx K H0 H (PL a so dx pl pc ps (upC (holdC e.c.no) cs) qs qc qo' qd F) [] := by
            refine ⟨?_, (fun j hj => by cases hj), hC.sb⟩
            unfold PL
            rw [upC_len, keysC_up holdC_no, put_one ok.nd hi hg, show holdC e.c.no e.c = stC e.c "active" from by unfold holdC; rw [if_pos rfl, if_neg c]]
            exact hC.lay
          refine fin hb2 tq hC (fun qc' H1 tq hC => ?_)
          exact k1 hb2 _ _ _ hC.sb hC.lay tq
        · have c4 : ¬ ((opn cs).length : Int) = 1 := by omega
          walk_at "all"
          exact k2 (by rw [hb]; exact decide_eq_false fun z => z.elim c fun z => c3 z.2) _ _ hC.sb hC.lay tq
      · walk_at "all"
        exact k2 (by rw [hb]; exact decide_eq_false fun z => z.elim c fun z => c2 z.1) _ _ hC.sb (by unfold PL; rw [ccells_mid hi]; exact hC.lay) tq
  · have q2 : ∀ e, e ∈ cs → e.c.no ≠ n := fun e he z => q ⟨e, he, z⟩
    walk_at "start"
    walk_at "go"
    refine c_callF hC (by unfold PL; walk_at "perm3") ok q2 (fun H1 hC => ?_)
    exact k2 (anyNo_none q2 _) _ _ hC.sb hC.lay tq
end
section
variable {K : PySem.W.Frag} {mg : Str → Option Value} {a : Adr} {vs : List V} {B H : Hp} {Q : VK} {E : XK} {L F : List (Addr × HO)} {I : List Im}
theorem zip_tps {w : Str} {ps : List PlE} : tpsP ps = (zipW w ps).map fun x => V.ref x.1.tp := by
  conv => lhs; rw [← zip_fst (w := w) (ps := ps)]
  unfold tpsP
  rw [List.map_map]
  rfl
theorem setP_at {w : Str} {ps : List PlE} {i : Nat} {x : PlE × Str} (h : (zipW w ps)[i]? = some x) : (setP w ps)[i]? = some (setX x) := by unfold setP; rw [List.getElem?_map, h]; rfl
theorem tds_PD {ps : List PlE} {i : Nat} {e : PlE} (h : TDs K H (tpsP ps) (ps.map PD)) (he : ps[i]? = some e) : SqT K H e.tp [.str e.c.nm, .str e.c.way] := by
  obtain ⟨v, hv, td⟩ := TDs_at (d := PD e) h (by rw [List.getElem?_map, he]; rfl)
  rw [List.getElem?_map, he] at hv
  cases hv
  cases td with
  | tup s l =>
    cases l with
    | cons a1 l => cases l with
      | cons a2 l =>
        cases l; cases a1; cases a2
        exact s
theorem any_pick {cs : List CE} {p : CE → Bool} {f : CE → V} : (!((cs.filter p).map f).isEmpty) = cs.any p := by
  induction cs with
  | nil => rfl
  | cons e r ih =>
    rw [List.filter_cons, List.any_cons]
    cases p e with
    | true => simp
    | false => simpa using ih
theorem states_loop {od lp cd lf : Addr} {w : Str} {ps : List PlE} {cs : List CE} {v1 v4 v5 : Option V} {A Cb Dc : L2.St → Hp → Prop} {Bt : VK} (T : Txt K mg a) (hl : ps.length ≤ 200)
    (hC : Ctx K B H ((lf, .lst []) :: OL od lp cd ps cs F) (.dats (tpsP ps) (ps.map PD) :: I)) (k : ∀ v4 v5 w' vr H', Ctx K B H' ((lf, .lst vr) :: OL od lp cd ps cs F) (.dats vr ((setP w ps).map SD) :: I) → A [some (.ref od), v1, w', some (.ref lf), v4, v5] H') :
    kFor (gTup K 2 (gCons (gName 4) (gCons (gName 5) gNil))) (t_law_states_for0 K a E) ⟨A, Bt, Cb, Dc⟩ [some (.ref od), v1, some (.str w), some (.ref lf), v4, v5] (Itl K lp) H := by
  have hz : (zipW w ps).length ≤ 200 := by rw [zip_len]; exact hl
  have hsl : (setP w ps).length = (zipW w ps).length := by rw [setP_len, zip_len]
  refine for_w (walk_lstE (es := zipW w ps) (kf := fun x : PlE × Str => V.ref x.1.tp) (xs := tpsP ps) zip_tps) (fun i σ H1 => ∃ vr v4 v5, σ = [some (.ref od), v1, some (.str (wAt w ps i)), some (.ref lf), v4, v5] ∧ Ctx K B H1 ((lf, .lst vr) :: OL od lp cd ps cs F) (.dats vr (((setP w ps).take i).map SD) :: .dats (tpsP ps) (ps.map PD) :: I))
    ⟨[], v4, v5, by cases ps <;> rfl, hC.add (i := .dats [] []) .nil⟩ (fun i σ H1 _ ⟨vr, v4, v5, _, hC⟩ => SqL.of (hC.get (by walk_at "mem"))) ?_ ?_
  · rintro i x σ H1 H2 hi ⟨vr, v4, v5, rfl, hC⟩ hy
    obtain ⟨rfl, x, hx, rfl⟩ := ye hy
    obtain ⟨z1, z2, z3⟩ := zip_at ps w i hx
    have hs := setP_at hx
    rw [z3, ← z1, take_snoc hs, List.map_append]
    obtain ⟨e, w0⟩ := x
    have hd : TDs K _ (tpsP ps) (ps.map PD) := hC.dats (by walk_at "mem")
    have hv : TDs K _ vr (((setP w ps).take i).map SD) := hC.dats (by walk_at "mem")
    have hvl : vr.length ≤ 200 := by
      rw [hv.length, List.length_map, List.length_take]
      omega
    have hC := hC.add (i := .tup e.tp [.str e.c.nm, .str e.c.way]) (tds_PD hd z2)
    unfold t_law_states_for0
    have fin : ∀ {v4 v5 : Option V} {w' : Str} {tp : Addr} {H' : Hp} {J : List Im}, w' = nextW w0 e.c.way → Ctx K B H' ((lf, .lst (vr ++ [.ref tp])) :: OL od lp cd ps cs F) (.tup tp [.str e.c.nm, .str e.c.way, .str w0] :: .tup e.tp [.str e.c.nm, .str e.c.way] :: .dats vr (((setP w ps).take i).map SD) :: .dats (tpsP ps) (ps.map PD) :: I) →
        ∃ vr' v4' v5', ([some (.ref od), v1, some (.str w'), some (.ref lf), v4, v5] : L2.St) = [some (.ref od), v1, some (.str (nextW w0 e.c.way)), some (.ref lf), v4', v5'] ∧ Ctx K B H' ((lf, .lst vr') :: OL od lp cd ps cs F) (.dats vr' (((setP w ps).take i).map SD ++ [setX (e, w0)].map SD) :: .dats (tpsP ps) (ps.map PD) :: I) := fun {v4 v5 w' tp H' J} hw hC => by
      subst hw
      have h1 : TDs K H' (vr ++ [.ref tp]) (((setP w ps).take i).map SD ++ [setX (e, w0)].map SD) := TDs.append (hC.dats (by walk_at "mem")) (.cons (.tup (hC.tup (a := tp) (xs := [.str e.c.nm, .str e.c.way, .str w0]) (by walk_at "mem")) (.cons (.str _) (.cons (.str _) (.cons (.str _) .nil)))) .nil)
      exact ⟨_, v4, v5, rfl, (hC.add (i := .dats _ _) h1).keepI (fun j hj => by
        rcases List.mem_cons.mp hj with rfl | hj
        · exact List.mem_cons_self
        · exact List.mem_cons_of_mem _ (List.mem_cons_of_mem _ (List.mem_cons_of_mem _ (List.mem_cons_of_mem _ hj))))⟩
    by_cases c1 : e.c.way = ("short" : Str)
    · walk_at "all"
      exact fin (J := []) (by unfold nextW; rw [if_pos c1]) hC
    · by_cases c2 : e.c.way = ("beside" : Str)
      · by_cases c3 : w0 = ("playing" : Str)
        · walk_at "all"
          exact fin (J := []) (by unfold nextW; rw [if_neg c1, if_pos ⟨c2, c3⟩]) hC
        · walk_at "all"
          exact fin (J := []) (by unfold nextW; rw [if_neg c1, if_neg fun z => c3 z.2]) hC
      · walk_at "all"
        exact fin (J := []) (by unfold nextW; rw [if_neg c1, if_neg fun z => c2 z.1]) hC
  · rintro σ H1 ⟨vr, v4, v5, rfl, hC⟩
    rw [← hsl, List.take_length] at hC
    exact k _ _ _ _ _ (hC.keepI fun j hj => by
      rcases List.mem_cons.mp hj with rfl | hj
      · exact List.mem_cons_self
      · exact List.mem_cons_of_mem _ (List.mem_cons_of_mem _ hj))
theorem pure_law_states {H0 : Hp} (T : Txt K mg a) (h : sp_law_states K a vs H0 Q E) : t_law_states K a E { nx := fun _ H' => Q .non H', rt := Q } (L2.start N_law_states vs) H0 := by
  obtain ⟨_, od, lp, cd, ps, cs, F, rfl, y, ok, hl, hd, k⟩ := h
  have hC := (Ctx.start (K := K) y).add (i := .dats (tpsP ps) (ps.map PD)) hd
  have hcl := ok.len
  unfold OL at hC
  unfold t_law_states
  walk_at "start"
  walk_at "go"
  have hC0 := hC
  refine s_lockE (d := cd) (u := .dK (mI id (ownC cs))) hC (by walk_at "pick") trivial (fun ob H1 s1 hC => ?_)
  walk_at "go"
  refine s_valsK (hC.frz (by walk_at "mem")) ?_
  walk_at "go"
  refine lc_pick (es := cs) (kf := fun e : CE => V.ref e.ow) (walk_valsE (kk := fun e : CE => Sum.inl e.c.no) (by unfold mI ownC; rw [List.map_map]; rfl)) (fun e => decide (e.c.st ∈ INS)) (fun e => V.ref e.ow) (by omega) (fun H1 x hC => hC.frz (by walk_at "mem")) hC (fun i e H2 D vr Zy Zn he hC hy hn => ?_) (fun H2 D hC => ?_)
  · rw [ocells_mid he] at hC
    simp only [ocell] at hC
    simp only [wipe, List.set_cons_zero, List.set_cons_succ]
    walk_at "go"
    refine ⟨rfl, ?_⟩
    by_cases c : e.c.st ∈ INS
    · walk_at "all"
      exact hy _ _ (decide_eq_true c) ⟨by rw [ocells_mid he]; simp only [ocell]; walk_at "lay3", hC.im, hC.sb⟩ (fun j hj => by first | exact hj | exact List.mem_cons_of_mem _ hj)
    · walk_at "all"
      exact hn _ _ (decide_eq_false c) ⟨by rw [ocells_mid he]; simp only [ocell]; walk_at "lay3", hC.im, hC.sb⟩ (fun j hj => by first | exact hj | exact List.mem_cons_of_mem _ hj)
  · have hf := hC.frz (d := cd) (od := ob) (u := .dK (mI id (ownC cs))) (by walk_at "mem")
    refine s_unl hC0 (by walk_at "pick") s1 hC hf (fun H3 hC => ?_)
    walk_at "go"
    refine s_neY (hC.get (by walk_at "mem")) (hC.get (o := .lst []) (by walk_at "mem")) ?_
    rw [any_pick, show (cs.any fun e => decide (e.c.st ∈ INS)) = inB cs from rfl]
    cases hb : inB cs with
    | true =>
      rw [hb] at k
      walk_at "go"
      unfold t_law_states_tail2
      walk_at "go"
      refine states_loop (F := F) T hl (hC.sub (by unfold OL; walk_at "lay3") (by walk_at "subs")) (fun v4 v5 w' vr H' hC => ?_)
      unfold t_law_states_tail1
      unfold OL at hC
      walk_at "go"
      have hd := hC.dats (vs := vr) (ds := (setP "waiting" ps).map SD) (by walk_at "mem")
      exact k _ _ _ hC.sb (by unfold OL; walk_at "lay3") (hC.tup (by walk_at "mem")) hd
    | false =>
      rw [hb] at k
      walk_at "go"
      unfold t_law_states_tail2
      walk_at "go"
      refine states_loop (F := F) T hl (hC.sub (by unfold OL; walk_at "lay3") (by walk_at "subs")) (fun v4 v5 w' vr H' hC => ?_)
      unfold t_law_states_tail1
      unfold OL at hC
      walk_at "go"
      have hd := hC.dats (vs := vr) (ds := (setP "playing" ps).map SD) (by walk_at "mem")
      exact k _ _ _ hC.sb (by unfold OL; walk_at "lay3") (hC.tup (by walk_at "mem")) hd
end
section
variable {K : PySem.W.Frag} {a : Adr} {k n : Int} {ps : List PlE} {cs : List CE} {f : CI → CI}
/-! the players' states -/
theorem setP_setP : ∀ {ps : List PlE} {w w' : Str}, setP w (setP w' ps) = setP w ps
  | [], _, _ => rfl
  | e :: r, w, w' => by
    show setX (setX (e, w'), w) :: setP (nextW w e.c.way) (setP (nextW w' e.c.way) r) = setX (e, w) :: setP (nextW w e.c.way) r
    rw [setP_setP]
    rfl
theorem setP_mem {w : Str} {e : PlE} (h : e ∈ setP w ps) : ∃ f, f ∈ ps ∧ e.c.nm = f.c.nm ∧ e.c.way = f.c.way := by
  obtain ⟨x, hx, rfl⟩ := List.mem_map.mp h
  refine ⟨x.1, ?_, rfl, rfl⟩
  rw [← zip_fst (w := w) (ps := ps)]
  exact List.mem_map.mpr ⟨x, hx, rfl⟩
theorem drop_mem {app : Str} {e : PlE} (h : e ∈ dropP app ps) : e ∈ ps := (List.mem_filter.mp h).1
/-! open and active ones -/
theorem opn_len : (opn cs).length = cs.countP fun e => decide (e.c.st ≠ ("ended" : Str)) := List.countP_eq_length_filter.symm
theorem act_len : (act cs).length = cs.countP fun e => decide (e.c.st = ("active" : Str)) := List.countP_eq_length_filter.symm
theorem opn_up (h : ∀ e, e ∈ cs → ((f e.c).st = ("ended" : Str) ↔ e.c.st = ("ended" : Str))) : (opn (upC f cs)).length = (opn cs).length := by
  rw [opn_len, opn_len]
  unfold upC
  rw [List.countP_map]
  refine List.countP_congr fun e he => ?_
  simp only [Function.comp, decide_eq_true_eq]
  exact not_congr (h e he)
theorem act_up (h : ∀ e, e ∈ cs → (f e.c).st = ("active" : Str) → e.c.st = ("active" : Str)) : (act (upC f cs)).length ≤ (act cs).length := by
  rw [act_len, act_len]
  unfold upC
  rw [List.countP_map]
  refine List.countP_mono_left fun e he z => ?_
  exact decide_eq_true (h e he (of_decide_eq_true z))
theorem act_opn : (act cs).length ≤ (opn cs).length := by
  rw [act_len, opn_len]
  refine List.countP_mono_left fun e he z => ?_
  have z := of_decide_eq_true z
  exact decide_eq_true fun w => by rw [w] at z; exact absurd z (by decide +kernel)
theorem act_no (nd : (cs.map fun e => e.c.no).Nodup) {p : CE → Bool} (h : ∀ e, e ∈ cs → p e = true → e.c.no = n) : cs.countP p ≤ 1 := by
  rw [List.countP_eq_length_filter]
  have nd2 : ((cs.filter p).map fun e => e.c.no).Nodup := nd.sublist (List.filter_sublist.map _)
  cases hl : cs.filter p with
  | nil => exact Nat.zero_le _
  | cons x r =>
    cases r with
    | nil => exact Nat.le_refl _
    | cons y r =>
      have hx : x ∈ cs.filter p := by rw [hl]; exact List.mem_cons_self
      have hy : y ∈ cs.filter p := by rw [hl]; exact List.mem_cons_of_mem _ List.mem_cons_self
      have ex := h x (List.mem_filter.mp hx).1 (List.mem_filter.mp hx).2
      have ey := h y (List.mem_filter.mp hy).1 (List.mem_filter.mp hy).2
      rw [hl, List.map_cons, List.map_cons] at nd2
      exact absurd (List.nodup_cons.mp nd2).1 (fun z => z (by rw [ex, ey]; exact List.mem_cons_self))
theorem opn_new {st oth : Str} {b : Bool} {ad d ow : Addr} (h : st ≠ ("ended" : Str)) : (opn (newC cs st oth b ad d ow)).length = (opn cs).length + 1 := by
  rw [opn_len, opn_len]
  unfold newC
  rw [List.countP_append, List.countP_singleton, if_pos (decide_eq_true h)]
theorem act_new {st oth : Str} {b : Bool} {ad d ow : Addr} (h : st ≠ ("active" : Str)) : (act (newC cs st oth b ad d ow)).length = (act cs).length := by
  rw [act_len, act_len]
  unfold newC
  rw [List.countP_append, List.countP_singleton, if_neg (fun z => h (of_decide_eq_true z))]
  rfl
theorem opn_end {e : CE} (ok : OkC cs) (he : e ∈ cs) (hs : e.c.st ≠ ("ended" : Str)) : (opn (upC (oneC e.c.no "ended") cs)).length + 1 = (opn cs).length := by
  obtain ⟨i, hi⟩ := List.mem_iff_getElem?.mp he
  rw [opn_len, opn_len, upC_one (g := oneC e.c.no "ended") ok.nd hi (fun c hc => if_neg hc)]
  conv => rhs; rw [split_cons hi]
  rw [List.countP_append, List.countP_append, List.countP_cons, List.countP_cons, show oneC e.c.no "ended" e.c = stC e.c "ended" from if_pos rfl, if_pos (decide_eq_true hs)]
  rw [if_neg (show ¬ decide ((stC e.c "ended").st ≠ ("ended" : Str)) = true from fun z => of_decide_eq_true z rfl)]
  omega
theorem holdA_end {c : CI} : (holdA c).st = ("ended" : Str) ↔ c.st = ("ended" : Str) := by
  unfold holdA
  split
  · rename_i h
    rw [h]
    exact ⟨fun z => absurd (show ("held" : Str) = "ended" from z) (by decide +kernel), fun z => absurd z (by decide +kernel)⟩
  · exact Iff.rfl
theorem holdA_act {c : CI} : (holdA c).st ≠ ("active" : Str) := by
  unfold holdA
  split
  · show ("held" : Str) ≠ _
    decide +kernel
  · assumption
theorem opn_holdA : (opn (upC holdA cs)).length = (opn cs).length := opn_up fun e _ => holdA_end
theorem act_holdA : (act (upC holdA cs)).length = 0 := by
  rw [act_len]
  unfold upC
  rw [List.countP_map, List.countP_eq_zero]
  intro e _ z
  exact holdA_act (of_decide_eq_true z)
/-! the invariant is kept -/
theorem SV.mono (sv : SV k ps cs) : SV (k + 1) ps cs := ⟨sv.ok, sv.nms, sv.set, by have := sv.plen; omega, sv.o2, sv.a1, by have := sv.cnt; omega⟩
theorem SV.len (sv : SV k ps cs) (h : k ≤ 85) : cs.length ≤ 44 := by
  have := sv.cnt
  have := sv.o2
  omega
theorem SV.playE {app ask : Str} {ad d tp : Addr} (sv : SV k ps cs) (hb : inB cs = false) (ha : app ∈ (["a", "b", "c", "d"] : List Str)) (hw : ask ∈ WAYS) : SV (k + 1) (playE app ask ad d tp ps) cs where
  ok := sv.ok
  nms := fun e he => by
    unfold Wk.playE at he
    obtain ⟨f, hf, h1, h2⟩ := setP_mem he
    rw [h1, h2]
    rcases List.mem_cons.mp hf with rfl | hf
    · exact ⟨ha, hw⟩
    · split at hf
      · cases hf
      · exact sv.nms f (drop_mem hf)
  set := by unfold Wk.playE; rw [hb]; exact setP_setP
  plen := by
    unfold Wk.playE
    rw [setP_len, List.length_cons]
    have h1 := sv.plen
    have h2 : (if ask = ("long" : Str) then [] else dropP app ps).length ≤ ps.length := by
      split
      · exact Nat.zero_le _
      · exact List.length_filter_le _ _
    omega
  o2 := sv.o2
  a1 := sv.a1
  cnt := by have := sv.cnt; omega
theorem SV.stopE {app : Str} (sv : SV k ps cs) : SV (k + 1) (setP (wst (inB cs)) (dropP app ps)) cs where
  ok := sv.ok
  nms := fun e he => by
    obtain ⟨f, hf, h1, h2⟩ := setP_mem he
    rw [h1, h2]
    exact sv.nms f (drop_mem hf)
  set := setP_setP
  plen := by
    rw [setP_len]
    have h1 := sv.plen
    have h2 : (dropP app ps).length ≤ ps.length := List.length_filter_le _ _
    omega
  o2 := sv.o2
  a1 := sv.a1
  cnt := by have := sv.cnt; omega
theorem SV.calls {cs' : List CE} (sv : SV k ps cs) (ok : OkC cs') (o2 : (opn cs').length ≤ 2) (a1 : (act cs').length ≤ 1) (cnt : 2 * (cs'.length : Int) ≤ k + 1 + (opn cs').length) : SV (k + 1) (setP (wst (inB cs')) ps) cs' where
  ok := ok
  nms := fun e he => by
    obtain ⟨f, hf, h1, h2⟩ := setP_mem he
    rw [h1, h2]
    exact sv.nms f hf
  set := setP_setP
  plen := by rw [setP_len]; have := sv.plen; omega
  o2 := o2
  a1 := a1
  cnt := cnt
theorem upC_lenI : ((upC f cs).length : Int) = cs.length := by rw [upC_len]
theorem SV.dialE {oth : Str} {b : Bool} {ad d ow : Addr} (sv : SV k ps cs) (hk : k ≤ 85) (hf : freeB cs = true) : SV (k + 1) (setP "waiting" ps) (newC (upC holdA cs) "calling" oth b ad d ow) := by
  have ok2 : OkC (upC holdA cs) := sv.ok.up holdA_no fun c hc => holdA_st hc
  have ok := ok2.new (st := "calling") (oth := oth) (b := b) (ad := ad) (d := d) (ow := ow) (by rw [upC_len]; have := sv.len hk; omega) (by decide +kernel)
  have h1 : (opn (newC (upC holdA cs) "calling" oth b ad d ow)).length = (opn cs).length + 1 := by rw [opn_new (by decide +kernel), opn_holdA]
  have h2 : (act (newC (upC holdA cs) "calling" oth b ad d ow)).length = 0 := by rw [act_new (by decide +kernel), act_holdA]
  have h3 : (opn cs).length < 2 := by
    unfold freeB at hf
    exact of_decide_eq_true (Bool.and_eq_true _ _ ▸ hf : _ ∧ _).1
  have := sv.cnt
  have h := sv.calls ok (by omega) (by omega) (by rw [newC_len, upC_lenI, h1]; omega)
  rw [inB_new (by decide +kernel)] at h
  exact h
theorem SV.comeE {oth : Str} {b : Bool} {ad d ow : Addr} (sv : SV k ps cs) (hk : k ≤ 85) (hf : (opn cs).length < 2) : SV (k + 1) (setP "waiting" ps) (newC cs "ringing" oth b ad d ow) := by
  have ok := sv.ok.new (st := "ringing") (oth := oth) (b := b) (ad := ad) (d := d) (ow := ow) (by have := sv.len hk; omega) (by decide +kernel)
  have h1 : (opn (newC cs "ringing" oth b ad d ow)).length = (opn cs).length + 1 := by rw [opn_new (by decide +kernel)]
  have h2 : (act (newC cs "ringing" oth b ad d ow)).length = (act cs).length := by rw [act_new (by decide +kernel)]
  have := sv.cnt
  have := sv.a1
  have h := sv.calls ok (by omega) (by omega) (by rw [newC_len, h1]; omega)
  rw [inB_new (by decide +kernel)] at h
  exact h
theorem SV.answE (sv : SV k ps cs) (hb : answB cs n = true) : SV (k + 1) (setP (wst (inB (upC (answC n) cs))) ps) (upC (answC n) cs) := by
  have ok := sv.ok.up (f := answC n) answC_no fun c hc => answC_st hc
  obtain ⟨e, he, z⟩ := List.any_eq_true.mp hb
  obtain ⟨z1, z2⟩ := of_decide_eq_true z
  have h1 : (opn (upC (answC n) cs)).length = (opn cs).length := opn_up fun f hf => by
    unfold answC
    split
    · rename_i q
      have : f = e := okc_eq sv.ok.nd hf he (q.trans z1.symm)
      subst this
      refine ⟨fun w => absurd (show ("active" : Str) = "ended" from w) (by decide +kernel), fun w => ?_⟩
      rcases z2 with z2 | z2 <;> (rw [z2] at w; exact absurd w (by decide +kernel))
    · exact holdA_end
  have h2 : (act (upC (answC n) cs)).length ≤ 1 := by
    rw [act_len]
    refine act_no (n := n) ok.nd fun f hf q => ?_
    obtain ⟨g, hg, rfl⟩ := List.mem_map.mp hf
    have q : (answC n g.c).st = ("active" : Str) := of_decide_eq_true q
    show (answC n g.c).no = n
    rw [answC_no]
    unfold answC at q
    split at q
    · assumption
    · exact absurd q holdA_act
  have := sv.cnt
  have := sv.o2
  exact sv.calls ok (by omega) h2 (by rw [upC_lenI, h1]; omega)
theorem SV.holdE (sv : SV k ps cs) (hb : holdB cs n = true) : SV (k + 1) (setP (wst (inB (upC (holdC n) cs))) ps) (upC (holdC n) cs) := by
  have ok := sv.ok.up (f := holdC n) holdC_no fun c hc => holdC_st hc
  obtain ⟨e, he, z⟩ := List.any_eq_true.mp hb
  obtain ⟨z1, z2⟩ := of_decide_eq_true z
  have h1 : (opn (upC (holdC n) cs)).length = (opn cs).length := opn_up fun f hf => by
    unfold holdC
    split
    · rename_i q
      have : f = e := okc_eq sv.ok.nd hf he (q.trans z1.symm)
      subst this
      refine ⟨fun w => absurd (show (if f.c.st = ("active" : Str) then ("held" : Str) else "active") = "ended" from w) (by split <;> decide +kernel), fun w => ?_⟩
      rcases z2 with z2 | ⟨z2, _⟩ <;> (rw [z2] at w; exact absurd w (by decide +kernel))
    · exact Iff.rfl
  have h2 : (act (upC (holdC n) cs)).length ≤ 1 := by
    rcases z2 with z2 | ⟨z2, z3⟩
    · refine Nat.le_trans (act_up fun f hf q => ?_) sv.a1
      unfold holdC at q
      split at q
      · rename_i w
        have : f = e := okc_eq sv.ok.nd hf he (w.trans z1.symm)
        subst this
        exact z2
      · exact q
    · have := act_opn (cs := upC (holdC n) cs)
      omega
  have := sv.cnt
  have := sv.o2
  exact sv.calls ok (by omega) h2 (by rw [upC_lenI, h1]; omega)
theorem SV.endE (sv : SV k ps cs) (hb : endB cs n = true) : SV (k + 1) (setP (wst (inB (upC (oneC n "ended") cs))) ps) (upC (oneC n "ended") cs) := by
  have ok := sv.ok.up (f := oneC n "ended") oneC_no fun c hc => oneC_st (by decide +kernel) hc
  obtain ⟨e, he, z⟩ := List.any_eq_true.mp hb
  obtain ⟨rfl, z2⟩ := of_decide_eq_true z
  have h1 := opn_end sv.ok he z2
  have h2 : (act (upC (oneC e.c.no "ended") cs)).length ≤ (act cs).length := act_up fun f hf q => by
    unfold oneC at q
    split at q
    · exact absurd (show ("ended" : Str) = "active" from q) (by decide +kernel)
    · exact q
  have := sv.cnt
  have := sv.o2
  have := sv.a1
  exact sv.calls ok (by omega) (by omega) (by rw [upC_lenI]; omega)
theorem swap_perm (h : swapB cs = true) : (opnS cs).Perm ["active", "held"] := by
  have h := of_decide_eq_true h
  rw [← h]
  exact (srtT_perm _).symm
theorem swapC_end {c : CI} : (swapC c).st = ("ended" : Str) ↔ c.st = ("ended" : Str) := by
  unfold swapC
  split
  · exact Iff.rfl
  · rename_i h
    split
    · exact ⟨fun w => absurd (show ("held" : Str) = "ended" from w) (by decide +kernel), fun w => absurd w h⟩
    · exact ⟨fun w => absurd (show ("active" : Str) = "ended" from w) (by decide +kernel), fun w => absurd w h⟩
theorem swapC_act {c : CI} : (swapC c).st = ("active" : Str) ↔ (c.st ≠ ("ended" : Str) ∧ c.st ≠ ("active" : Str)) := by
  unfold swapC
  split
  · rename_i h
    rw [h]
    exact ⟨fun w => absurd w (by decide +kernel), fun w => absurd rfl w.1⟩
  · rename_i h
    split
    · rename_i h2
      exact ⟨fun w => absurd (show ("held" : Str) = "active" from w) (by decide +kernel), fun w => absurd h2 w.2⟩
    · rename_i h2
      exact ⟨fun _ => ⟨h, h2⟩, fun _ => rfl⟩
theorem swapC_st {c : CI} (h : c.st ∈ SCS) : (swapC c).st ∈ SCS := by
  unfold swapC
  split
  · exact h
  · split
    · exact (by decide +kernel : ("held" : Str) ∈ SCS)
    · exact (by decide +kernel : ("active" : Str) ∈ SCS)
theorem swap_in (h : swapB cs = true) : inB cs = true ∧ inB (upC swapC cs) = true := by
  have pm := swap_perm h
  have ha : ("active" : Str) ∈ opnS cs := pm.mem_iff.mpr List.mem_cons_self
  have hh : ("held" : Str) ∈ opnS cs := pm.mem_iff.mpr (List.mem_cons_of_mem _ List.mem_cons_self)
  obtain ⟨e, he, q⟩ := List.mem_map.mp ha
  obtain ⟨f, hf, r⟩ := List.mem_map.mp hh
  refine ⟨List.any_eq_true.mpr ⟨e, (List.mem_filter.mp he).1, decide_eq_true (by rw [q]; decide +kernel)⟩, List.any_eq_true.mpr ⟨_, List.mem_map.mpr ⟨f, (List.mem_filter.mp hf).1, rfl⟩, decide_eq_true ?_⟩⟩
  show (swapC f.c).st ∈ INS
  rw [swapC_act.mpr (by rw [r]; decide +kernel)]
  decide +kernel
theorem SV.swapE (sv : SV k ps cs) (hb : swapB cs = true) : SV (k + 1) ps (upC swapC cs) := by
  have ok := sv.ok.up (f := swapC) swapC_no fun c hc => swapC_st hc
  have h1 : (opn (upC swapC cs)).length = (opn cs).length := opn_up fun f hf => swapC_end
  have h2 : (act (upC swapC cs)).length ≤ 1 := by
    have e1 : (act (upC swapC cs)).length = ((opnS cs).filter fun s => decide (s ≠ ("active" : Str))).length := by
      rw [act_len]
      unfold upC opnS opn
      rw [List.countP_map, List.filter_map, List.length_map, List.filter_filter, ← List.countP_eq_length_filter]
      refine List.countP_congr fun e he => ?_
      simp only [Function.comp, decide_eq_true_eq, Bool.and_eq_true]
      exact swapC_act.trans ⟨fun z => ⟨z.2, z.1⟩, fun z => ⟨z.2, z.1⟩⟩
    rw [e1, ((swap_perm hb).filter _).length_eq]
    decide +kernel
  have := sv.cnt
  have := sv.o2
  have h := sv.calls ok (by omega) h2 (by rw [upC_lenI, h1]; omega)
  rw [(swap_in hb).2] at h
  have hs := sv.set
  rw [(swap_in hb).1] at hs
  rw [hs] at h
  exact h
end
section
variable {K : PySem.W.Frag} {mg : Str → Option Value} {a : Adr} {vs : List V} {B H : Hp} {Q : VK} {E : XK} {L F : List (Addr × HO)} {I : List Im}
def DK (K : PySem.W.Frag) (a : Adr) (H0 : Hp) (dd so dx pc od : Addr) (F : List (Addr × HO)) (k : Int) (Q : VK) : Prop :=
  ∀ H' p x y d pl' lp' cd' i' j' l' ps' cs' qs' qc' qo' qd' tbd', Stb H0 H' → SV (k + 1) ps' cs' → Lay H' (LD a dd i' j' l' so dx pl' pc ps' cs' qs' qc' qo' qd' tbd' od lp' cd' F) → TQ qs' qc' qo' qd' → TDs K H' (tpsP ps') (ps'.map PD) → TabOK (lamq "_law_deed") tbd' H' →
    SqT K H' p [x, y] → TD K H' x d → TD K H' y d → Sh 20 d → Q (.ref p) H'
abbrev dIm (ps : List PlE) (tbd : Array Value) : List Im := [.dats (tpsP ps) (ps.map PD), .tab (lamq "_law_deed") tbd]
theorem dk_fin {H0 : Hp} {dd so dx pl pc od lp cd p : Addr} {i j l k : Int} {ps : List PlE} {cs : List CE} {qs qc qo qd tbd : Array Value} {x y : V} {d : PyData} {J : List Im} (hk : DK K a H0 dd so dx pc od F k Q) (hC : Ctx K H0 H L J)
    (yl : Lay H (LD a dd i j l so dx pl pc ps cs qs qc qo qd tbd od lp cd F)) (sv : SV (k + 1) ps cs) (tq : TQ qs qc qo qd) (h1 : TDs K H (tpsP ps) (ps.map PD)) (h3 : .tab (lamq "_law_deed") tbd ∈ J) (h4 : .tup p [x, y] ∈ J) (hx : TD K H x d) (hy : TD K H y d) (hs : Sh 20 d) : Q (.ref p) H :=
  hk H p x y d pl lp cd i j l ps cs qs qc qo qd tbd hC.sb sv yl tq h1 (hC.tab h3) (hC.tup h4) hx hy hs
theorem setP_PD {w : Str} {ps : List PlE} : (setP w ps).map PD = ps.map PD := by
  conv => rhs; rw [← zip_fst (w := w) (ps := ps)]
  unfold setP
  rw [List.map_map, List.map_map]
  rfl
theorem tds_drop {app : Str} : ∀ {ps : List PlE}, TDs K H (tpsP ps) (ps.map PD) → TDs K H (tpsP (dropP app ps)) ((dropP app ps).map PD)
  | [], _ => .nil
  | e :: r, .cons h t => by
    unfold dropP
    rw [List.filter_cons]
    split
    · exact .cons h (tds_drop t)
    · exact tds_drop t
theorem tds_setP {w : Str} {ps : List PlE} (h : TDs K H (tpsP ps) (ps.map PD)) : TDs K H (tpsP (setP w ps)) ((setP w ps).map PD) := by rw [setP_PD, setP_tps]; exact h
theorem play_cells {app ask : Str} {ad d tp tp2 : Addr} {ps : List PlE} : pcells a (playE app ask ad d tp ps) = pcells a (playE app ask ad d tp2 ps) := rfl
theorem play_ads {app ask : Str} {ad d tp tp2 : Addr} {ps : List PlE} : adsP (playE app ask ad d tp ps) = adsP (playE app ask ad d tp2 ps) := rfl
/-! more calls -/
variable {n : Int} {ps : List PlE} {cs : List CE} {so dx pl pc od lr cd : Addr} {qs qc qo qd : Array Value} {app ask oth : Str}
theorem c_playx (hC : Ctx K B H L I) (p : Perm3 L (PL a so dx pl pc ps cs qs qc qo qd F)) (ok : OkC cs) (hl : ps.length ≤ 150) (tq : TQ qs qc qo qd) (hw : ask ∉ WAYS) (k : ∀ H1, Ctx K B H1 L I → E (.ref a.c_SoundFault) none H1) : sp_Sounds_play K a [.ref so, .str app, .str ask] H Q E :=
  ⟨rfl, so, dx, pl, pc, app, ask, ps, cs, qs, qc, qo, qd, F, rfl, hC.lay.perm p.lay, ok, hl, tq, fun _ H' s y => k H' (hC.moved s (y.perm p.lay.symm)), fun h => absurd h hw, fun h => absurd h hw⟩
theorem c_playF (hC : Ctx K B H L I) (p : Perm3 L (PL a so dx pl pc ps cs qs qc qo qd F)) (ok : OkC cs) (hl : ps.length ≤ 150) (tq : TQ qs qc qo qd) (hw : ask ∈ WAYS) (hb : inB cs = true) (k : ∀ H1 qc', TQ qs qc' qo qd → Ctx K B H1 (PL a so dx pl pc ps cs qs qc' qo qd F) I → Q (.bl false) H1) : sp_Sounds_play K a [.ref so, .str app, .str ask] H Q E :=
  ⟨rfl, so, dx, pl, pc, app, ask, ps, cs, qs, qc, qo, qd, F, rfl, hC.lay.perm p.lay, ok, hl, tq, fun h => absurd hw h, fun _ _ H' qc' s y t => k H' qc' t (hC.moved s y), fun _ h => by rw [hb] at h; cases h⟩
theorem c_playT (hC : Ctx K B H L I) (p : Perm3 L (PL a so dx pl pc ps cs qs qc qo qd F)) (ok : OkC cs) (hl : ps.length ≤ 150) (tq : TQ qs qc qo qd) (hw : ask ∈ WAYS) (hb : inB cs = false) (k : ∀ H1 qc' pl' ad d, TQ qs qc' qo qd → Ctx K B H1 (PL a so dx pl' pc (playE app ask ad d ad ps) cs qs qc' qo qd F) I → Q (.bl true) H1) : sp_Sounds_play K a [.ref so, .str app, .str ask] H Q E :=
  ⟨rfl, so, dx, pl, pc, app, ask, ps, cs, qs, qc, qo, qd, F, rfl, hC.lay.perm p.lay, ok, hl, tq, fun h => absurd hw h, fun _ h => (by rw [hb] at h; cases h), fun _ _ H' qc' pl' ad d s y t => k H' qc' pl' ad d t (hC.moved s y)⟩
theorem c_stop (hC : Ctx K B H L I) (p : Perm3 L (PL a so dx pl pc ps cs qs qc qo qd F)) (ok : OkC cs) (hl : ps.length ≤ 150) (tq : TQ qs qc qo qd) (k : ∀ H1 qc' pl', TQ qs qc' qo qd → Ctx K B H1 (PL a so dx pl' pc (setP (wst (inB cs)) (dropP app ps)) cs qs qc' qo qd F) I → Q .non H1) : sp_Sounds_stop K a [.ref so, .str app] H Q E :=
  ⟨rfl, so, dx, pl, pc, app, ps, cs, qs, qc, qo, qd, F, rfl, hC.lay.perm p.lay, ok, hl, tq, fun H' qc' pl' s y t => k H' qc' pl' t (hC.moved s y)⟩
theorem c_dialT (hC : Ctx K B H L I) (p : Perm3 L (PL a so dx pl pc ps cs qs qc qo qd F)) (ok : OkC cs) (hl2 : cs.length ≤ 50) (hl : ps.length ≤ 200) (tq : TQ qs qc qo qd) (hf : freeB cs = true)
    (k : ∀ H1 qc' qo' qd' ad d, TQ qs qc' qo' qd' → Ctx K B H1 (PL a so dx pl pc (setP "waiting" ps) (newC (upC holdA cs) "calling" oth false ad d ad) qs qc' qo' qd' F) I → Q (.int ((cs.length : Nat) + 1)) H1) : sp_Sounds_dial K a [.ref so, .str oth] H Q E :=
  ⟨rfl, so, dx, pl, pc, oth, ps, cs, qs, qc, qo, qd, F, rfl, hC.lay.perm p.lay, ok, hl2, hl, tq, fun _ H' qc' qo' qd' ad d s y t => k H' qc' qo' qd' ad d t (hC.moved s y), fun h => by rw [hf] at h; cases h⟩
theorem c_dialF (hC : Ctx K B H L I) (p : Perm3 L (PL a so dx pl pc ps cs qs qc qo qd F)) (ok : OkC cs) (hl2 : cs.length ≤ 50) (hl : ps.length ≤ 200) (tq : TQ qs qc qo qd) (hf : freeB cs = false)
    (k : ∀ H1 qo' qd', TQ qs qc qo' qd' → Ctx K B H1 (PL a so dx pl pc ps cs qs qc qo' qd' F) I → E (.ref a.c_SoundFault) none H1) : sp_Sounds_dial K a [.ref so, .str oth] H Q E :=
  ⟨rfl, so, dx, pl, pc, oth, ps, cs, qs, qc, qo, qd, F, rfl, hC.lay.perm p.lay, ok, hl2, hl, tq, fun h => (by rw [hf] at h; cases h), fun _ H' qo' qd' s y t => k H' qo' qd' t (hC.moved s y)⟩
theorem c_comeT (hC : Ctx K B H L I) (p : Perm3 L (PL a so dx pl pc ps cs qs qc qo qd F)) (ok : OkC cs) (hl2 : cs.length ≤ 50) (hl : ps.length ≤ 200) (tq : TQ qs qc qo qd) (hf : (opn cs).length < 2)
    (k : ∀ H1 qc' qo' ad d, TQ qs qc' qo' qd → Ctx K B H1 (PL a so dx pl pc (setP "waiting" ps) (newC cs "ringing" oth true ad d ad) qs qc' qo' qd F) I → Q (.int ((cs.length : Nat) + 1)) H1) : sp_Sounds_come K a [.ref so, .str oth] H Q E :=
  ⟨rfl, so, dx, pl, pc, oth, ps, cs, qs, qc, qo, qd, F, rfl, hC.lay.perm p.lay, ok, hl2, hl, tq, fun _ H' qc' qo' ad d s y t => k H' qc' qo' ad d t (hC.moved s y), fun h => absurd hf h⟩
theorem c_comeF (hC : Ctx K B H L I) (p : Perm3 L (PL a so dx pl pc ps cs qs qc qo qd F)) (ok : OkC cs) (hl2 : cs.length ≤ 50) (hl : ps.length ≤ 200) (tq : TQ qs qc qo qd) (hf : ¬ (opn cs).length < 2)
    (k : ∀ H1 qo', TQ qs qc qo' qd → Ctx K B H1 (PL a so dx pl pc ps cs qs qc qo' qd F) I → Q .non H1) : sp_Sounds_come K a [.ref so, .str oth] H Q E :=
  ⟨rfl, so, dx, pl, pc, oth, ps, cs, qs, qc, qo, qd, F, rfl, hC.lay.perm p.lay, ok, hl2, hl, tq, fun h => absurd h hf, fun _ H' qo' s y t => k H' qo' t (hC.moved s y)⟩
theorem c_noT {g : List CE → Int → Bool} {f : Int → CI → CI} (hC : Ctx K B H L I) (p : Perm3 L (PL a so dx pl pc ps cs qs qc qo qd F)) (ok : OkC cs) (hl : ps.length ≤ 200) (tq : TQ qs qc qo qd) (hf : g cs n = true)
    (k : ∀ H1 qc' qo', TQ qs qc' qo' qd → Ctx K B H1 (PL a so dx pl pc (setP (wst (inB (upC (f n) cs))) ps) (upC (f n) cs) qs qc' qo' qd F) I → Q .non H1) : spNo K a g f [.ref so, .int n] H Q E :=
  ⟨rfl, so, dx, pl, pc, n, ps, cs, qs, qc, qo, qd, F, rfl, hC.lay.perm p.lay, ok, hl, tq, fun _ H' qc' qo' s y t => k H' qc' qo' t (hC.moved s y), fun h => by rw [hf] at h; cases h⟩
theorem c_noF {g : List CE → Int → Bool} {f : Int → CI → CI} (hC : Ctx K B H L I) (p : Perm3 L (PL a so dx pl pc ps cs qs qc qo qd F)) (ok : OkC cs) (hl : ps.length ≤ 200) (tq : TQ qs qc qo qd) (hf : g cs n = false)
    (k : ∀ H1 qo', TQ qs qc qo' qd → Ctx K B H1 (PL a so dx pl pc ps cs qs qc qo' qd F) I → E (.ref a.c_SoundFault) none H1) : spNo K a g f [.ref so, .int n] H Q E :=
  ⟨rfl, so, dx, pl, pc, n, ps, cs, qs, qc, qo, qd, F, rfl, hC.lay.perm p.lay, ok, hl, tq, fun h => (by rw [hf] at h; cases h), fun _ H' qo' s y t => k H' qo' t (hC.moved s y)⟩
theorem c_swapT (hC : Ctx K B H L I) (p : Perm3 L (PL a so dx pl pc ps cs qs qc qo qd F)) (ok : OkC cs) (tq : TQ qs qc qo qd) (hf : swapB cs = true)
    (k : ∀ H1 qo', TQ qs qc qo' qd → Ctx K B H1 (PL a so dx pl pc ps (upC swapC cs) qs qc qo' qd F) I → Q .non H1) : sp_Sounds_swap K a [.ref so] H Q E :=
  ⟨rfl, so, dx, pl, pc, ps, cs, qs, qc, qo, qd, F, rfl, hC.lay.perm p.lay, ok, tq, fun _ H' qo' s y t => k H' qo' t (hC.moved s y), fun h => by rw [hf] at h; cases h⟩
theorem c_swapF (hC : Ctx K B H L I) (p : Perm3 L (PL a so dx pl pc ps cs qs qc qo qd F)) (ok : OkC cs) (tq : TQ qs qc qo qd) (hf : swapB cs = false)
    (k : ∀ H1 qo', TQ qs qc qo' qd → Ctx K B H1 (PL a so dx pl pc ps cs qs qc qo' qd F) I → E (.ref a.c_SoundFault) none H1) : sp_Sounds_swap K a [.ref so] H Q E :=
  ⟨rfl, so, dx, pl, pc, ps, cs, qs, qc, qo, qd, F, rfl, hC.lay.perm p.lay, ok, tq, fun h => (by rw [hf] at h; cases h), fun _ H' qo' s y t => k H' qo' t (hC.moved s y)⟩
/-! the deeds -/
variable {H0 : Hp} {dd : Addr} {i j l k : Int} {tbd : Array Value} {N Bk Ct : L2.St → Hp → Prop} {v3 v4 v6 v7 v8 v9 v10 v13 v14 v15 v16 v17 v18 : Option V}
/-- the law's own players without one -/
theorem law_drop {tg : TG} {tt : TT} {te : TE} {xs : List Nat} {σ : L2.St} {app : Str} {ps : List PlE} (hl : ps.length ≤ 200) (hC : Ctx K B H L I) (hm : (lr, .lst (tpsP ps)) ∈ L) (hd : .dats (tpsP ps) (ps.map PD) ∈ I)
    (turn : ∀ (e : PlE) H1 (Zy : VK) (Zn : Hp → Prop) L1, Ctx K B H1 L1 (.tup e.tp [.str e.c.nm, .str e.c.way] :: I) → (e.c.nm ≠ app → Zy (.ref e.tp) H1) → (¬ e.c.nm ≠ app → Zn H1) → tg (.ref e.tp) (wipe σ xs) H1 fun σ2 H2 => wipe σ2 xs = wipe σ xs ∧ tt σ2 H2 fun b H3 => if b = true then te σ2 H3 Zy else Zn H3)
    (k : ∀ H' D, Ctx K B H' ((D, .lst (tpsP (dropP app ps))) :: L) I → Q (.ref D) H') : kLc tg tt te xs σ Q (Itl K lr) H := by
  refine lc_pick (es := ps) (kf := fun e : PlE => V.ref e.tp) (walk_lstE (xs := tpsP ps) rfl) (fun e => decide (e.c.nm ≠ app)) (fun e => V.ref e.tp) (by omega) (fun H1 x hC => SqL.of (hC.get (List.mem_cons_of_mem _ hm))) hC (fun i e H1 D vr Zy Zn he hC hy hn => ?_) (fun H' D hC => k H' D hC)
  exact turn e H1 _ _ _ (hC.add (i := .tup e.tp [.str e.c.nm, .str e.c.way]) (tds_PD (hC.dats hd) he)) (fun c => hy _ _ (decide_eq_true c) hC (fun j hj => hj)) (fun c => hn _ _ (decide_eq_false c) hC (fun j hj => hj))
theorem deed_play (T : Txt K mg a) (hk : DK K a H0 dd so dx pc od F k Q) (sv : SV k ps cs) (k1 : k ≤ 85) (tq : TQ qs qc qo qd) (happ : app ∈ (["a", "b", "c", "d"] : List Str)) (hway : ask ∈ WAYS ∨ ask = "loud") (hC : Ctx K H0 H (LD a dd i j l so dx pl pc ps cs qs qc qo qd tbd od lr cd F) (dIm ps tbd)) :
    t_law_deed_if3 K a E ⟨N, Q, Bk, Ct⟩ [some (.ref dd), some (.ref od), some (.ref so), v3, v4, some (.ref cd), v6, v7, some (.bl (inB cs)), v9, v10, some (.str app), some (.str ask), v13, v14, v15, v16, v17, v18] H := by
  have hpl := sv.plen
  have hpl2 : ps.length ≤ 85 := by omega
  have hw2 : ask ∈ WAYS ↔ ask ≠ ("loud" : Str) := by
    constructor
    · intro h z
      rw [z] at h
      exact absurd h (by decide +kernel)
    · intro h
      exact hway.resolve_right h
  unfold LD dIm at hC
  unfold t_law_deed_if3
  by_cases c1 : ask = ("loud" : Str)
  · have hw : ask ∉ WAYS := fun z => hw2.mp z c1
    walk_at "all"
    refine c_playx hC (by unfold PL; walk_at "perm3") sv.ok (by omega) tq hw (fun H hC => ?_)
    walk_at "go"
    unfold t_law_deed_tail2
    walk_at "all"
    unfold t_law_deed_tail1
    walk_at "go"
    refine dk_fin (i := i) (j := j) (l := l) (pl := pl) (lp := lr) (cd := cd) (ps := ps) (cs := cs) hk hC ?_ sv.mono tq (hC.dats (by walk_at "mem")) (by walk_at "mem") (by walk_at "mem") (.str _) (.str _) (.str (by decide +kernel))
    unfold LD
    walk_at "lay3"
  · have hw : ask ∈ WAYS := hw2.mpr c1
    cases hb : inB cs with
    | true =>
      walk_at "all"
      simp only [Bool.not_true]
      refine c_playF hC (by unfold PL; walk_at "perm3") sv.ok (by omega) tq hw hb (fun H qc' tq hC => ?_)
      walk_at "go"
      unfold t_law_deed_tail2
      walk_at "all"
      · exact absurd (by assumption) Bool.false_ne_true
      unfold t_law_deed_tail1
      walk_at "go"
      refine dk_fin (i := i) (j := j) (l := l) (pl := pl) (lp := lr) (cd := cd) (ps := ps) (cs := cs) hk hC ?_ sv.mono tq (hC.dats (by walk_at "mem")) (by walk_at "mem") (by walk_at "mem") (.bl _) (.bl _) (.bl _)
      unfold LD
      unfold PL at hC
      walk_at "lay3"
    | false =>
      walk_at "all"
      simp only [Bool.not_false]
      refine c_playT hC (by unfold PL; walk_at "perm3") sv.ok (by omega) tq hw hb (fun H qc' pl' ad d tq hC => ?_)
      unfold PL at hC
      walk_at "go"
      unfold t_law_deed_tail2
      walk_at "all"
      unfold t_law_deed_if0
      walk_at "go"
      have fin : ∀ {tr : Addr} {H : Hp} {D : Addr} {L : List (Addr × HO)} {J : List Im} {rest : List PlE} {xs : List V}, xs = tpsP rest → rest = (if ask = ("long" : Str) then [] else dropP app ps) → Ctx K H0 H ((D, .lst (V.ref tr :: xs)) :: (so, .ins a.c_Sounds dx [("players", .ref pl'), ("calls", .ref pc), ("count", .int (cs.length : Nat))]) :: (pl', .lst (adsP (playE app ask ad d ad ps))) :: (pc, .dK (mI id (keysC cs))) ::
          (a.tb_Sounds_shown, .tbl qs) :: (a.tb_Sounds_in_call, .tbl qc') :: (a.tb_Sounds_open_calls, .tbl qo) :: (a.tb_Sounds_dial, .tbl qd) :: (pcells a (playE app ask ad d ad ps) ++ (ccells a cs ++ (a.tb_law_deed, .tbl tb) :: (dd, .lst [.int i, .int j, .int l]) :: (od, .dK [(.inr "players", .ref D), (.inr "calls", .ref cd)]) :: (cd, .dK (mI id (ownC cs))) :: (ocells cs ++ F))))
          [.tup tr [.str app, .str ask], .tab (lamq "_law_deed") tb, .dats (tpsP ps) (ps.map PD), .tab (lamq "_law_deed") tbd] →
          t_law_deed_tail1 K a E ⟨N, Q, Bk, Ct⟩ [some (.ref dd), some (.ref od), some (.ref so), v3, v4, some (.ref cd), v6, v7, some (.bl false), v9, v10, some (.str app), some (.str ask), some (.bl true), some (.bl true), v15, v16, v17, v18] H := fun {tr H D L J rest xs} hxs hr hC => by
        unfold t_law_deed_tail1
        have e1 : tpsP (playE app ask ad d tr ps) = V.ref tr :: xs := by unfold playE; rw [setP_tps, hxs, hr]; rfl
        have hrd : TDs K H (tpsP (playE app ask ad d tr ps)) ((playE app ask ad d tr ps).map PD) := by
          unfold playE
          refine tds_setP ?_
          rw [← hr]
          refine TDs.cons (.tup (hC.tup (a := tr) (xs := [.str app, .str ask]) (by walk_at "mem")) (.cons (.str _) (.cons (.str _) .nil))) ?_
          rw [hr]
          split
          · exact .nil
          · exact tds_drop (hC.dats (by walk_at "mem"))
        rw [← e1] at hC
        have hC := hC.add (i := .dats _ _) hrd
        walk_at "go"
        refine dk_fin (i := i) (j := j) (l := l) (pl := pl') (lp := D) (cd := cd) (ps := playE app ask ad d tr ps) (cs := cs) hk hC ?_ (sv.playE hb happ hw) tq ?_ (by walk_at "mem") (by walk_at "mem") (.bl _) (.bl _) (.bl _)
        · unfold LD
          rw [play_cells (tp2 := ad), play_ads (tp2 := ad)]
          walk_at "lay3"
        · exact hC.dats (by walk_at "mem")
      by_cases c2 : ask = ("long" : Str)
      · walk_at "all"
        simp only [List.cons_append, List.nil_append] at hC
        refine fin (tr := tp) (D := lp) (J := []) (L := []) (rest := []) (xs := []) rfl (by rw [if_pos c2]) ?_
        exact ⟨by walk_at "lay3", hC.im, hC.sb⟩
      · walk_at "all"
        refine law_drop (app := app) (ps := ps) (lr := lr) (by omega) hC (by walk_at "mem") (by walk_at "mem") (fun e H1 Zy Zn L1 hC hy hn => ?_) (fun H D hC => ?_)
        · simp only [wipe, List.set_cons_zero, List.set_cons_succ]
          walk_at "go"
          refine ⟨rfl, ?_⟩
          by_cases c3 : e.c.nm = app
          · walk_at "all"
            exact hn fun z => z c3
          · walk_at "all"
            exact hy c3
        have hal : (tpsP (dropP app ps)).length ≤ 200 := by rw [List.length_map]; exact Nat.le_trans drop_len (by omega)
        walk_at "go"
        simp only [List.cons_append, List.nil_append] at hC
        refine fin (tr := tp) (D := lp) (J := []) (L := []) (rest := dropP app ps) rfl (by rw [if_neg c2]) ?_
        exact ⟨by walk_at "lay3", hC.im, hC.sb⟩
end
section
variable {K : PySem.W.Frag} {mg : Str → Option Value} {a : Adr} {vs : List V} {B H : Hp} {Q : VK} {E : XK} {L F : List (Addr × HO)} {I : List Im}
/-! what a call is without the law's place -/
def core (e : CE) : CI × Addr × Addr := (e.c, e.ad, e.dx)
theorem core_map {α : Type} {g : CI × Addr × Addr → α} {ds es : List CE} (h : ds.map core = es.map core) : ds.map (fun e => g (core e)) = es.map fun e => g (core e) := by
  have := congrArg (List.map g) h
  rw [List.map_map, List.map_map] at this
  exact this
theorem core_keys {ds es : List CE} (h : ds.map core = es.map core) : keysC ds = keysC es := core_map (g := fun x => (x.1.no, V.ref x.2.1)) h
theorem core_cells {ds es : List CE} (h : ds.map core = es.map core) : ccells a ds = ccells a es := core_map (g := fun x => (x.2.1, HO.ins a.c_Call x.2.2 [("number", .int x.1.no), ("other", .str x.1.oth), ("came", .bl x.1.came), ("state", .str x.1.st)])) h
theorem core_no {ds es : List CE} (h : ds.map core = es.map core) : ds.map (fun e => e.c.no) = es.map fun e => e.c.no := core_map (g := fun x => x.1.no) h
theorem core_len {ds es : List CE} (h : ds.map core = es.map core) : ds.length = es.length := by
  have := congrArg List.length h
  rw [List.length_map, List.length_map] at this
  exact this
theorem core_cnt {ds es : List CE} {p : CI → Bool} (h : ds.map core = es.map core) : ds.countP (fun e => p e.c) = es.countP fun e => p e.c := by
  have := congrArg (List.countP fun x => p x.1) h
  rw [List.countP_map, List.countP_map] at this
  exact this
theorem core_in {ds es : List CE} (h : ds.map core = es.map core) : inB ds = inB es := by
  have := congrArg (List.any · fun x => decide (x.1.st ∈ INS)) h
  simp only [List.any_map] at this
  exact this
theorem core_mem {ds es : List CE} {e : CE} (h : ds.map core = es.map core) (he : e ∈ ds) : ∃ f, f ∈ es ∧ f.c = e.c := by
  have : core e ∈ es.map core := by rw [← h]; exact List.mem_map.mpr ⟨e, he, rfl⟩
  obtain ⟨f, hf, q⟩ := List.mem_map.mp this
  exact ⟨f, hf, congrArg (·.1) q⟩
theorem core_sv {k : Int} {ps : List PlE} {ds es : List CE} (h : ds.map core = es.map core) (sv : SV k ps es) : SV k ps ds where
  ok := {
    len := by rw [core_len h]; exact sv.ok.len
    pw := by rw [core_no h]; exact sv.ok.pw
    lo := fun e he => by
      obtain ⟨f, hf, q⟩ := core_mem h he
      rw [← q]; exact sv.ok.lo f hf
    hi := fun e he => by
      obtain ⟨f, hf, q⟩ := core_mem h he
      rw [← q, core_len h]; exact sv.ok.hi f hf
    st := fun e he => by
      obtain ⟨f, hf, q⟩ := core_mem h he
      rw [← q]; exact sv.ok.st f hf }
  nms := sv.nms
  set := by rw [core_in h]; exact sv.set
  plen := sv.plen
  o2 := by rw [opn_len, core_cnt (p := fun c => decide (c.st ≠ ("ended" : Str))) h, ← opn_len]; exact sv.o2
  a1 := by rw [act_len, core_cnt (p := fun c => decide (c.st = ("active" : Str))) h, ← act_len]; exact sv.a1
  cnt := by rw [core_len h, opn_len, core_cnt (p := fun c => decide (c.st ≠ ("ended" : Str))) h, ← opn_len]; exact sv.cnt
/-- the law's list of (number, fresh dict) -/
theorem law_new {f : CI → CI} {tg : TG} {tt : TT} {te : TE} {xs : List Nat} {σ : L2.St} {cs : List CE} {cd : Addr} {ob : Obj} (hn : ∀ c, (f c).no = c.no) (hl : cs.length ≤ 60) (hC : Ctx K B H L (imFz cd ob (.dK (mI id (ownC cs))) :: I))
    (turn : ∀ (i : Nat) (e : CE) H1 M (Z : VK) (Zn : Hp → Prop), cs[i]? = some e → Ctx K H1 H1 (M ++ L) (imFz cd ob (.dK (mI id (ownC cs))) :: I) →
      (∀ H2 t o, Ctx K H1 H2 ((o, .dK [(.inr "state", .str (f e.c).st)]) :: (M ++ L)) (.tup t [.int e.c.no, .ref o] :: imFz cd ob (.dK (mI id (ownC cs))) :: I) → Z (.ref t) H2) →
      tg (.int e.c.no) (wipe σ xs) H1 fun σ2 H2 => wipe σ2 xs = wipe σ xs ∧ tt σ2 H2 fun b H3 => if b = true then te σ2 H3 Z else Zn H3)
    (k : ∀ H' D ts ds, ds.map core = (upC f cs).map core → Ctx K B H' ((D, .lst (ts.map V.ref)) :: (ocells ds ++ L)) (imPs K ts (mI id (ownC ds)) :: imFz cd ob (.dK (mI id (ownC cs))) :: I) → Q (.ref D) H') : kLc tg tt te xs σ Q (Itk cd ob (mI id (ownC cs))) H := by
  refine lc_w (walk_keysE (es := cs) (kk := fun e : CE => Sum.inl e.c.no) (vf := fun e => V.ref e.ow) (by unfold mI ownC; rw [List.map_map]; rfl)) hC
    (fun D i H1 => ∃ ts ds, ds.map core = ((upC f cs).take i).map core ∧ Ctx K B H1 ((D, .lst (ts.map V.ref)) :: (ocells ds ++ L)) (imPs K ts (mI id (ownC ds)) :: imFz cd ob (.dK (mI id (ownC cs))) :: I)) (fun D H1 hC => ⟨[], [], rfl, hC.add (i := imPs K [] []) .nil⟩) (fun D i H1 _ ⟨ts, ds, _, hC⟩ => hC.frz (by walk_at "mem")) ?_ ?_
  · rintro i x D H1 H2 hi ⟨ts, ds, hds, hC⟩ hy
    obtain ⟨rfl, e, he, rfl⟩ := ye hy
    have hdl : ds.length ≤ 60 := by
      rw [core_len hds, List.length_take, upC_len]
      omega
    have hpp : Paired (fun (t : Addr) (q : Key × V) => SqT K H2 t [kV q.1, q.2]) ts (mI id (ownC ds)) := hC.pr (P := fun H => Paired (fun (t : Addr) (q : Key × V) => SqT K H t [kV q.1, q.2]) ts (mI id (ownC ds))) List.mem_cons_self
    have htl : ts.length ≤ 60 := by rw [Paired.length hpp, mI_len, ownC_len]; exact hdl
    have hC1 : Ctx K H2 H2 (((D, .lst (ts.map V.ref)) :: ocells ds) ++ L) (imFz cd ob (.dK (mI id (ownC cs))) :: I) := hC.rebase.keepI fun j hj => List.mem_cons_of_mem _ hj
    refine turn i e H2 _ _ _ he hC1 (fun H3 t o hC2 => ?_)
    have hp : ((o, HO.dK [(.inr "state", .str (f e.c).st)]) :: (((D, HO.lst (ts.map V.ref)) :: ocells ds) ++ L)).Perm ((D, .lst (ts.map V.ref)) :: (o, .dK [(.inr "state", .str (f e.c).st)]) :: (ocells ds ++ L)) := List.Perm.swap _ _ _
    have hC3 : Ctx K B H3 ((D, .lst (ts.map V.ref)) :: (o, .dK [(.inr "state", .str (f e.c).st)]) :: (ocells ds ++ L)) (.tup t [.int e.c.no, .ref o] :: imPs K ts (mI id (ownC ds)) :: imFz cd ob (.dK (mI id (ownC cs))) :: I) := ⟨hC2.lay.perm hp, fun j hj => by
      rcases List.mem_cons.mp hj with rfl | hj
      · exact hC2.im _ List.mem_cons_self
      · rcases List.mem_cons.mp hj with rfl | hj
        · exact Im.mono hC2.sb (hC.im _ List.mem_cons_self)
        · exact hC2.im _ (List.mem_cons_of_mem _ hj), hC.sb.trans hC2.sb⟩
    refine s_app (acc := ts.map V.ref) hC3 (hC3.get List.mem_cons_self) (by rw [List.length_map]; omega) .here (fun H4 hC4 => ⟨ts ++ [t], ds ++ [⟨f e.c, e.ad, e.dx, o⟩], ?_, ?_⟩)
    · rw [take_snoc (up_at (f := f) he), List.map_append, List.map_append, hds]
      rfl
    · have h1 : Paired (fun (t : Addr) (q : Key × V) => SqT K H4 t [kV q.1, q.2]) (ts ++ [t]) (mI id (ownC (ds ++ [⟨f e.c, e.ad, e.dx, o⟩]))) := by
        unfold ownC mI
        rw [List.map_append, List.map_append]
        refine Ph.Paired.snoc (hC4.pr (P := fun H => Paired (fun (t : Addr) (q : Key × V) => SqT K H t [kV q.1, q.2]) ts (mI id (ownC ds))) (List.mem_cons_of_mem _ List.mem_cons_self)) ?_
        show SqT K H4 t [.int (f e.c).no, .ref o]
        rw [hn]
        exact hC4.tup List.mem_cons_self
      have hq : ((D, HO.lst (ts.map V.ref ++ [.ref t])) :: (o, .dK [(.inr "state", .str (f e.c).st)]) :: (ocells ds ++ L)).Perm ((D, .lst ((ts ++ [t]).map V.ref)) :: (ocells (ds ++ [⟨f e.c, e.ad, e.dx, o⟩]) ++ L)) := by
        rw [List.map_append, ocells_app, List.append_assoc]
        exact List.Perm.cons _ List.perm_middle.symm
      exact ((hC4.perm hq).add (i := imPs K _ _) h1).keepI fun j hj => by
        rcases List.mem_cons.mp hj with rfl | hj
        · exact List.mem_cons_self
        · exact List.mem_cons_of_mem _ (List.mem_cons_of_mem _ (List.mem_cons_of_mem _ hj))
  · rintro D H1 ⟨ts, ds, hds, hC⟩
    rw [← upC_len (f := f) (cs := cs), List.take_length] at hds
    exact k H1 D ts ds hds hC
end
section
variable {K : PySem.W.Frag} {mg : Str → Option Value} {a : Adr} {vs : List V} {B H : Hp} {Q : VK} {E : XK} {L F : List (Addr × HO)} {I : List Im}
variable {n : Int} {ps : List PlE} {cs : List CE} {so dx pl pc od lr cd oL aL : Addr} {qs qc qo qd : Array Value} {app ask oth : Str}
variable {H0 : Hp} {dd : Addr} {i j l k : Int} {tbd : Array Value} {N Bk Ct : L2.St → Hp → Prop} {v3 v4 v6 v7 v8 v9 v10 v11 v12 v13 v14 v15 v16 v17 v18 : Option V}
theorem deed_stop (T : Txt K mg a) (hk : DK K a H0 dd so dx pc od F k Q) (sv : SV k ps cs) (k1 : k ≤ 85) (tq : TQ qs qc qo qd) (hC : Ctx K H0 H (LD a dd i j l so dx pl pc ps cs qs qc qo qd tbd od lr cd F) (dIm ps tbd)) :
    t_law_deed_if5 K a E ⟨N, Q, Bk, Ct⟩ [some (.ref dd), some (.ref od), some (.ref so), v3, v4, some (.ref cd), v6, v7, v8, v9, v10, some (.str app), some (.str ask), v13, v14, v15, v16, v17, v18] H := by
  have hpl := sv.plen
  have hpl2 : ps.length ≤ 85 := by omega
  unfold LD dIm at hC
  unfold t_law_deed_if5
  walk_at "go"
  refine law_drop (app := app) (ps := ps) (lr := lr) (by omega) hC (by walk_at "mem") (by walk_at "mem") (fun e H1 Zy Zn L1 hC hy hn => ?_) (fun H D hC => ?_)
  · simp only [wipe, List.set_cons_zero, List.set_cons_succ]
    walk_at "go"
    refine ⟨rfl, ?_⟩
    by_cases c3 : e.c.nm = app
    · walk_at "all"
      exact hn fun z => z c3
    · walk_at "all"
      exact hy c3
  walk_at "go"
  unfold t_law_deed_tail4
  walk_at "go"
  refine c_stop hC (by unfold PL; walk_at "perm3") sv.ok (by omega) tq (fun H qc' pl' tq hC => ?_)
  walk_at "go"
  have hd : TDs K _ (tpsP ps) (ps.map PD) := hC.dats (by walk_at "mem")
  refine dk_fin (i := i) (j := j) (l := l) (pl := pl') (lp := D) (cd := cd) (ps := setP (wst (inB cs)) (dropP app ps)) (cs := cs) hk hC ?_ sv.stopE tq (tds_setP (tds_drop hd)) (by walk_at "mem") (by walk_at "mem") .non .non .non
  unfold LD
  rw [setP_tps]
  unfold PL at hC
  walk_at "lay3"
theorem new_owk {st : Str} {b : Bool} {ad d ow ow2 : Addr} : keysC (newC cs st oth b ad d ow) = keysC (newC cs st oth b ad d ow2) := by rw [new_keys, new_keys]
theorem new_owc {st : Str} {b : Bool} {ad d ow ow2 : Addr} : ccells a (newC cs st oth b ad d ow) = ccells a (newC cs st oth b ad d ow2) := by
  unfold newC
  rw [ccells_app, ccells_app]
  rfl
/-- the law's dict of its rows and a new one -/
theorem dict_new {st : Str} {b : Bool} {ad d o lp tp : Addr} {ts : List Addr} (ok : OkC cs) (hl : cs.length ≤ 50) (hs : st ∈ SCS) (m : (lp, .lst (ts.map V.ref ++ [V.ref tp])) ∈ L) (m1 : imPs K ts (mI id (ownC cs)) ∈ I) (m2 : .tup tp [.int ((cs.length : Nat) + 1), .ref o] ∈ I) (hC : Ctx K B H L I)
    (k : ∀ D H', Ctx K B H' ((D, .dK (mI id (ownC (newC cs st oth b ad d o)))) :: L) I → Q (.ref D) H') : rDictU K [.ref lp] H Q := by
  refine s_dictI (ps := ts ++ [tp]) (f := id) (l := ownC (newC cs st oth b ad d o)) hC (by rw [List.map_append]; exact hC.get m) ?_ ?_ (fun p H hC => k p H hC)
  · rw [new_owns]
    unfold mI
    rw [List.map_append]
    exact Ph.Paired.snoc (hC.pr (P := fun H => Paired (fun (t : Addr) (q : Key × V) => SqT K H t [kV q.1, q.2]) ts (mI id (ownC cs))) m1) (hC.tup m2)
  · unfold ownC
    rw [List.map_map]
    exact (ok.new hl hs).nd
theorem deed_come (T : Txt K mg a) (hk : DK K a H0 dd so dx pc od F k Q) (sv : SV k ps cs) (k1 : k ≤ 85) (tq : TQ qs qc qo qd) (hC : Ctx K H0 H ((oL, .lst ((opn cs).map fun e => V.int e.c.no)) :: LD a dd i j l so dx pl pc ps cs qs qc qo qd tbd od lr cd F) (dIm ps tbd)) :
    t_law_deed_if14 K a E ⟨N, Q, Bk, Ct⟩ [some (.ref dd), some (.ref od), some (.ref so), v3, v4, some (.ref cd), v6, some (.ref oL), v8, v9, v10, v11, v12, v13, v14, v15, some (.int ((cs.length : Nat) + 1)), v17, v18] H := by
  have hpl := sv.plen
  have hcl := sv.len k1
  have hpl2 : ps.length ≤ 85 := by omega
  have hol : ((opn cs).map fun e => V.int e.c.no).length = (opn cs).length := List.length_map _
  unfold LD dIm at hC
  unfold t_law_deed_if14
  walk_at "go"
  by_cases c : (opn cs).length < 2
  · have c1 : ((((opn cs).map fun e => V.int e.c.no).length : Nat) : Int) < 2 := by omega
    refine c_comeT hC (by unfold PL; walk_at "perm3") sv.ok (by omega) (by omega) tq c (fun H qc' qo' ad d tq hC => ?_)
    unfold PL at hC
    rw [newC_len] at hC
    walk_at "go"
    unfold t_law_deed_tail13
    walk_at "all"
    unfold t_law_deed_if11
    walk_at "go"
    refine s_litE ?_
    walk_at "go"
    refine s_lit hC (hC.get (by walk_at "mem")) (fun p ts H hC => ?_)
    have hpp : Paired (fun (t : Addr) (q : Key × V) => SqT K H t [kV q.1, q.2]) ts (mI id (ownC cs)) := hC.pr (P := fun H => Paired (fun (t : Addr) (q : Key × V) => SqT K H t [kV q.1, q.2]) ts (mI id (ownC cs))) List.mem_cons_self
    have htl : (ts.map V.ref).length ≤ 60 := by rw [List.length_map, Paired.length hpp, mI_len, ownC_len]; omega
    walk_at "go"
    refine dict_new (st := "ringing") (oth := "cy") (b := true) (ad := ad) (d := d) sv.ok (by omega) (by decide +kernel) (by walk_at "mem") (by walk_at "mem") (by walk_at "mem") hC (fun D H hC => ?_)
    walk_at "go"
    unfold t_law_deed_tail12
    walk_at "all"
    have hd : TDs K _ (tpsP ps) (ps.map PD) := hC.dats (by walk_at "mem")
    refine dk_fin (i := i) (j := j) (l := l) (pl := pl) (lp := lr) (cd := D) (ps := setP "waiting" ps) (cs := newC cs "ringing" "cy" true ad d dp) hk hC ?_ (sv.comeE k1 c) tq (tds_setP hd) (by walk_at "mem") (by walk_at "mem") (.int _) (.int _) (.int _)
    unfold LD
    rw [setP_tps, newC_len, new_owk (ow2 := ad), new_owc (ow2 := ad), new_ocells]
    walk_at "lay3"
  · have c1 : ¬ ((((opn cs).map fun e => V.int e.c.no).length : Nat) : Int) < 2 := by omega
    refine c_comeF hC (by unfold PL; walk_at "perm3") sv.ok (by omega) (by omega) tq c (fun H qo' tq hC => ?_)
    unfold PL at hC
    walk_at "go"
    unfold t_law_deed_tail13
    walk_at "all"
    unfold t_law_deed_tail12
    walk_at "all"
    have hd : TDs K _ (tpsP ps) (ps.map PD) := hC.dats (by walk_at "mem")
    refine dk_fin (i := i) (j := j) (l := l) (pl := pl) (lp := lr) (cd := cd) (ps := ps) (cs := cs) hk hC ?_ sv.mono tq hd (by walk_at "mem") (by walk_at "mem") .non .non .non
    unfold LD
    walk_at "lay3"
end
section
variable {K : PySem.W.Frag} {mg : Str → Option Value} {a : Adr} {vs : List V} {B H : Hp} {Q : VK} {E : XK} {L L' F : List (Addr × HO)} {I : List Im}
variable {n : Int} {ps : List PlE} {cs ds : List CE} {so dx pl pc od lr cd oL aL : Addr} {qs qc qo qd : Array Value} {app ask oth : Str}
variable {H0 : Hp} {dd : Addr} {i j l k : Int} {tbd : Array Value} {N Bk Ct : L2.St → Hp → Prop} {v3 v4 v6 v7 v8 v9 v10 v11 v12 v13 v14 v15 v16 v17 v18 : Option V}
theorem law_new2 {f : CI → CI} {tg : TG} {tt : TT} {te : TE} {xs : List Nat} {σ : L2.St} {A : VK} (hσ : σ[5]? = some (some (.ref cd))) (hn : ∀ c, (f c).no = c.no) (hl : cs.length ≤ 60) (hC : Ctx K B H L I) (p : Pick (cd, .dK (mI id (ownC cs))) L L')
    (turn : ∀ (ob : Obj) (i : Nat) (e : CE) H1 M (Z : VK) (Zn : Hp → Prop), cs[i]? = some e → Ctx K H1 H1 (M ++ L') (imFz cd ob (.dK (mI id (ownC cs))) :: imFz cd ob (.dK (mI id (ownC cs))) :: I) →
      (∀ H2 t o, Ctx K H1 H2 ((o, .dK [(.inr "state", .str (f e.c).st)]) :: (M ++ L')) (.tup t [.int e.c.no, .ref o] :: imFz cd ob (.dK (mI id (ownC cs))) :: imFz cd ob (.dK (mI id (ownC cs))) :: I) → Z (.ref t) H2) →
      tg (.int e.c.no) (wipe σ xs) H1 fun σ2 H2 => wipe σ2 xs = wipe σ xs ∧ tt σ2 H2 fun b H3 => if b = true then te σ2 H3 Z else Zn H3)
    (k : ∀ H' D ts ds, ds.map core = (upC f cs).map core → Ctx K B H' ((D, .lst (ts.map V.ref)) :: (ocells ds ++ L)) (imPs K ts (mI id (ownC ds)) :: I) → A (.ref D) H') : tLockE (tLc (iKeys (tVar 5)) tg tt te xs) σ H A := by
  have hC0 := hC
  refine s_lockE (d := cd) (u := .dK (mI id (ownC cs))) hC p trivial (fun ob H1 s1 hC => ?_)
  walk_at "go"
  refine s_keysK (hC.frz (by walk_at "mem")) ?_
  refine law_new (f := f) hn hl (hC.add (i := imFz cd ob (.dK (mI id (ownC cs)))) (hC.frz (by walk_at "mem"))) (fun i e H1 M Z Zn he hC hz => turn ob i e H1 M Z Zn he hC hz) (fun H' D ts ds hds hC => ?_)
  have hf := hC.frz (d := cd) (od := ob) (u := .dK (mI id (ownC cs))) (by walk_at "mem")
  have hpp : Paired (fun (t : Addr) (q : Key × V) => SqT K H' t [kV q.1, q.2]) ts (mI id (ownC ds)) := hC.pr (P := fun H => Paired (fun (t : Addr) (q : Key × V) => SqT K H t [kV q.1, q.2]) ts (mI id (ownC ds))) List.mem_cons_self
  refine s_unlE hC0 p s1 hC hf (fun hC => ?_)
  have hC := hC.add (i := imPs K ts (mI id (ownC ds))) (pairedImp (fun _ _ z => sqt_unl hf z) hpp)
  refine k _ D ts ds hds (hC.perm ?_)
  refine (List.Perm.swap _ _ _).trans (List.Perm.cons _ ?_)
  refine List.Perm.trans ?_ (List.Perm.append_left _ p.perm.symm)
  exact List.perm_middle.symm
theorem core_ok (h : ds.map core = cs.map core) (ok : OkC cs) : OkC ds where
  len := by rw [core_len h]; exact ok.len
  pw := by rw [core_no h]; exact ok.pw
  lo := fun e he => by
    obtain ⟨f, hf, q⟩ := core_mem h he
    rw [← q]; exact ok.lo f hf
  hi := fun e he => by
    obtain ⟨f, hf, q⟩ := core_mem h he
    rw [← q, core_len h]; exact ok.hi f hf
  st := fun e he => by
    obtain ⟨f, hf, q⟩ := core_mem h he
    rw [← q]; exact ok.st f hf
theorem act_mem {e : CE} (ok : OkC cs) (he : e ∈ cs) : e.c.no ∈ (act cs).map (fun e => e.c.no) ↔ e.c.st = ("active" : Str) := by
  constructor
  · intro h
    obtain ⟨f, hf, q⟩ := List.mem_map.mp h
    have hf2 := List.mem_filter.mp hf
    have := okc_eq ok.nd hf2.1 he q
    subst this
    exact of_decide_eq_true hf2.2
  · intro h
    exact List.mem_map.mpr ⟨e, List.mem_filter.mpr ⟨he, decide_eq_true h⟩, rfl⟩
theorem free_iff : freeB cs = (decide ((opn cs).length < 2) && decide ((act cs).length = (opn cs).length)) := by
  unfold freeB
  congr 1
  have e1 : act cs = (opn cs).filter fun e => decide (e.c.st = ("active" : Str)) := by
    unfold act opn
    rw [List.filter_filter]
    refine List.filter_congr fun e _ => ?_
    by_cases q : e.c.st = ("active" : Str)
    · have q2 : e.c.st ≠ ("ended" : Str) := fun z => by rw [q] at z; exact absurd z (by decide +kernel)
      rw [decide_eq_true q, decide_eq_true q2]; rfl
    · rw [decide_eq_false q]; rfl
  rw [Bool.eq_iff_iff, decide_eq_true_eq, e1, List.length_filter_eq_length_iff, List.all_eq_true]
theorem deed_dial (T : Txt K mg a) (hk : DK K a H0 dd so dx pc od F k Q) (sv : SV k ps cs) (k1 : k ≤ 85) (tq : TQ qs qc qo qd) (hC : Ctx K H0 H ((oL, .lst ((opn cs).map fun e => V.int e.c.no)) :: (aL, .lst ((act cs).map fun e => V.int e.c.no)) :: LD a dd i j l so dx pl pc ps cs qs qc qo qd tbd od lr cd F) (dIm ps tbd)) :
    t_law_deed_if10 K a E ⟨N, Q, Bk, Ct⟩ [some (.ref dd), some (.ref od), some (.ref so), v3, v4, some (.ref cd), v6, some (.ref oL), v8, some (.ref aL), v10, v11, v12, v13, v14, v15, some (.int ((cs.length : Nat) + 1)), v17, v18] H := by
  have hpl := sv.plen
  have hcl := sv.len k1
  have hpl2 : ps.length ≤ 85 := by omega
  have hol : ((opn cs).map fun e => V.int e.c.no).length = (opn cs).length := List.length_map _
  have hal : ((act cs).map fun e => V.int e.c.no).length = (act cs).length := List.length_map _
  unfold LD dIm at hC
  unfold t_law_deed_if10
  have no : freeB cs = false → ∀ {H : Hp} {L : List (Addr × HO)} {v14 : Option V}, Ctx K H0 H ((oL, .lst ((opn cs).map fun e => V.int e.c.no)) :: (aL, .lst ((act cs).map fun e => V.int e.c.no)) :: LD a dd i j l so dx pl pc ps cs qs qc qo qd tbd od lr cd F) (dIm ps tbd) →
      t_law_deed_tail9 K a E ⟨N, Q, Bk, Ct⟩ [some (.ref dd), some (.ref od), some (.ref so), v3, v4, some (.ref cd), v6, some (.ref oL), v8, some (.ref aL), v10, v11, v12, v13, v14, v15, some (.int ((cs.length : Nat) + 1)), some (.bl false), v18] H := fun hf {H L v14} hC => by
    unfold LD dIm at hC
    unfold t_law_deed_tail9
    walk_at "go"
    refine c_dialF hC (by unfold PL; walk_at "perm3") sv.ok (by omega) (by omega) tq hf (fun H qo' qd' tq hC => ?_)
    unfold PL at hC
    walk_at "go"
    unfold t_law_deed_tail8
    walk_at "all"
    unfold t_law_deed_tail7
    walk_at "all"
    have hd : TDs K _ (tpsP ps) (ps.map PD) := hC.dats (by walk_at "mem")
    refine dk_fin (i := i) (j := j) (l := l) (pl := pl) (lp := lr) (cd := cd) (ps := ps) (cs := cs) hk hC ?_ sv.mono tq hd (by walk_at "mem") (by walk_at "mem") (.str _) (.str _) (.str (by decide +kernel))
    unfold LD
    walk_at "lay3"
  by_cases c : (opn cs).length < 2
  · have c1 : ((((opn cs).map fun e => V.int e.c.no).length : Nat) : Int) < 2 := by omega
    by_cases c2 : (act cs).length = (opn cs).length
    · have c3 : ((((act cs).map fun e => V.int e.c.no).length : Nat) : Int) = (((opn cs).map fun e => V.int e.c.no).length : Nat) := by omega
      have hf : freeB cs = true := by rw [free_iff, decide_eq_true c, decide_eq_true c2]; rfl
      walk_at "all"
      unfold t_law_deed_tail9
      walk_at "go"
      refine c_dialT hC (by unfold PL; walk_at "perm3") sv.ok (by omega) (by omega) tq hf (fun H qc' qo' qd' ad d tq hC => ?_)
      unfold PL at hC
      rw [newC_len, upC_lenI] at hC
      walk_at "go"
      unfold t_law_deed_tail8
      walk_at "all"
      unfold t_law_deed_if6
      walk_at "go"
      refine law_new2 (f := holdA) (cs := cs) (cd := cd) rfl holdA_no (by omega) hC (by walk_at "pick") (fun ob i e H1 M Z Zn he hC hz => ?_) (fun H D ts ds hds hC => ?_)
      · have e1 := ownC_look sv.ok (List.mem_of_getElem? he)
        have e2 := act_mem sv.ok (List.mem_of_getElem? he)
        rw [ocells_mid he] at hC hz
        simp only [ocell] at hC hz
        simp only [wipe, List.set_cons_zero, List.set_cons_succ]
        walk_at "go"
        refine ⟨rfl, ?_⟩
        walk_at "go"
        refine s_inLI (ns := (act cs).map fun e => e.c.no) (by have q := hC.get (a := aL) (o := .lst ((act cs).map fun e => V.int e.c.no)) (by walk_at "mem"); rw [List.map_map]; exact q) ?_
        by_cases c4 : e.c.st = ("active" : Str)
        · have c5 := e2.mpr c4
          walk_at "all"
          exact hz _ _ _ (by rw [show holdA e.c = stC e.c "held" from if_pos c4]; exact hC)
        · have c5 : ¬ e.c.no ∈ (act cs).map (fun e => e.c.no) := fun z => c4 (e2.mp z)
          walk_at "all"
          exact hz _ _ _ (by rw [show holdA e.c = e.c from if_neg c4]; exact hC)
      have hdl : ds.length = cs.length := by rw [core_len hds, upC_len]
      have ok2 : OkC (upC holdA cs) := sv.ok.up holdA_no fun c hc => holdA_st hc
      have hpp : Paired (fun (t : Addr) (q : Key × V) => SqT K H t [kV q.1, q.2]) ts (mI id (ownC ds)) := hC.pr (P := fun H => Paired (fun (t : Addr) (q : Key × V) => SqT K H t [kV q.1, q.2]) ts (mI id (ownC ds))) List.mem_cons_self
      have htl : (ts.map V.ref).length ≤ 60 := by rw [List.length_map, Paired.length hpp, mI_len, ownC_len]; omega
      walk_at "go"
      refine dict_new (cs := ds) (o := dp) (st := "calling") (oth := "bob") (b := false) (ad := ad) (d := d) (core_ok hds ok2) (by omega) (by decide +kernel) (by walk_at "mem") (by walk_at "mem") (by rw [hdl]; walk_at "mem") hC (fun D H hC => ?_)
      walk_at "go"
      unfold t_law_deed_tail7
      walk_at "all"
      have hd : TDs K _ (tpsP ps) (ps.map PD) := hC.dats (by walk_at "mem")
      have hc : (newC ds "calling" "bob" false ad d dp).map core = (newC (upC holdA cs) "calling" "bob" false ad d ad).map core := by
        unfold newC
        rw [List.map_append, List.map_append, hds, hdl, upC_len]
        rfl
      refine dk_fin (i := i) (j := j) (l := l) (pl := pl) (lp := lr) (cd := D) (ps := setP "waiting" ps) (cs := newC ds "calling" "bob" false ad d dp) hk hC ?_ (core_sv hc (sv.dialE k1 hf)) tq (tds_setP hd) (by walk_at "mem") (by walk_at "mem") (.int _) (.int _) (.int _)
      unfold LD
      rw [setP_tps, core_keys hc, core_cells hc, core_len hc, newC_len, upC_lenI, new_ocells]
      walk_at "lay3"
    · have c3 : ¬ ((((act cs).map fun e => V.int e.c.no).length : Nat) : Int) = (((opn cs).map fun e => V.int e.c.no).length : Nat) := by omega
      have hf : freeB cs = false := by rw [free_iff, decide_eq_false c2, Bool.and_false]
      walk_at "all"
      exact no hf (L := []) hC
  · have c1 : ¬ ((((opn cs).map fun e => V.int e.c.no).length : Nat) : Int) < 2 := by omega
    have hf : freeB cs = false := by rw [free_iff, decide_eq_false c, Bool.false_and]
    walk_at "all"
    exact no hf (L := []) hC
end
section
variable {K : PySem.W.Frag} {mg : Str → Option Value} {a : Adr} {vs : List V} {B H : Hp} {Q : VK} {E : XK} {L L' F : List (Addr × HO)} {I : List Im}
variable {n : Int} {ps : List PlE} {cs ds : List CE} {so dx pl pc od lr cd oL aL : Addr} {qs qc qo qd : Array Value} {app ask oth : Str} {sv10 sv6 : V}
variable {H0 : Hp} {dd : Addr} {i j l k : Int} {tbd : Array Value} {N Bk Ct : L2.St → Hp → Prop} {v3 v4 v6 v7 v8 v9 v10 v11 v12 v13 v14 v15 v16 v17 v18 : Option V}
/-- what the law sees of the call with a number -/
def seenC (cs : List CE) (n : Int) (w st : V) : Prop := (∃ e, e ∈ cs ∧ e.c.no = n ∧ st = .str e.c.st ∧ w = .ref e.ow) ∨ ((∀ e, e ∈ cs → e.c.no ≠ n) ∧ st = .non ∧ w = .non)
theorem deed_answer (T : Txt K mg a) (hk : DK K a H0 dd so dx pc od F k Q) (sv : SV k ps cs) (k1 : k ≤ 85) (tq : TQ qs qc qo qd) (hst : seenC cs n sv6 sv10) (hC : Ctx K H0 H ((oL, .lst ((opn cs).map fun e => V.int e.c.no)) :: (aL, .lst ((act cs).map fun e => V.int e.c.no)) :: LD a dd i j l so dx pl pc ps cs qs qc qo qd tbd od lr cd F) (dIm ps tbd)) :
    t_law_deed_if18 K a E ⟨N, Q, Bk, Ct⟩ [some (.ref dd), some (.ref od), some (.ref so), v3, some (.int n), some (.ref cd), v6, some (.ref oL), v8, some (.ref aL), some sv10, v11, v12, v13, v14, v15, v16, v17, v18] H := by
  have hpl := sv.plen
  have hcl := sv.len k1
  have hpl2 : ps.length ≤ 85 := by omega
  unfold LD dIm at hC
  unfold t_law_deed_if18
  have no : ∀ {H : Hp} {qo : Array Value} {tb : Array Value} {v14 : Option V}, TQ qs qc qo qd → Ctx K H0 H (LD a dd i j l so dx pl pc ps cs qs qc qo qd tb od lr cd F) (dIm ps tb) →
      t_law_deed_tail17 K a E ⟨N, Q, Bk, Ct⟩ [some (.ref dd), some (.ref od), some (.ref so), v3, some (.int n), some (.ref cd), v6, some (.ref oL), v8, some (.ref aL), some sv10, v11, v12, v13, some (.str "SoundFault"), v15, v16, some (.bl false), v18] H := fun {H qo tb v14} tq hC => by
    unfold LD dIm at hC
    unfold t_law_deed_tail17
    walk_at "all"
    unfold t_law_deed_tail16
    walk_at "all"
    have hd : TDs K _ (tpsP ps) (ps.map PD) := hC.dats (by walk_at "mem")
    refine dk_fin (i := i) (j := j) (l := l) (pl := pl) (lp := lr) (cd := cd) (ps := ps) (cs := cs) hk hC ?_ sv.mono tq hd (by walk_at "mem") (by walk_at "mem") (.str _) (.str _) (.str (by decide +kernel))
    unfold LD
    walk_at "lay3"
  rcases hst with ⟨e0, he0, rfl, rfl, rfl⟩ | ⟨hno, rfl, rfl⟩
  · have hb : answB cs e0.c.no = decide (e0.c.st = ("calling" : Str) ∨ e0.c.st = ("ringing" : Str)) := anyNo_of sv.ok he0 fun x => x.c.st = ("calling" : Str) ∨ x.c.st = ("ringing" : Str)
    by_cases c : e0.c.st = ("calling" : Str) ∨ e0.c.st = ("ringing" : Str)
    · rw [decide_eq_true c] at hb
      walk_at "go"
      rw [show sp_Sounds_answer K a = spNo K a answB answC from rfl]
      refine c_noT (g := answB) (f := answC) hC (by unfold PL; walk_at "perm3") sv.ok (by omega) tq hb (fun H qc' qo' tq hC => ?_)
      unfold PL at hC
      walk_at "all"
      rw [show (decide (e0.c.st = ("calling" : Str) ∨ e0.c.st = ("ringing" : Str))) = true from decide_eq_true c]
      unfold t_law_deed_tail17
      walk_at "all"
      unfold t_law_deed_if15
      walk_at "go"
      refine law_new2 (f := answC e0.c.no) (cs := cs) (cd := cd) rfl answC_no (by omega) hC (by walk_at "pick") (fun ob i e H1 M Z Zn he hC hz => ?_) (fun H D ts ds hds hC => ?_)
      · have e1 := ownC_look sv.ok (List.mem_of_getElem? he)
        have e2 := act_mem sv.ok (List.mem_of_getElem? he)
        rw [ocells_mid he] at hC hz
        simp only [ocell] at hC hz
        simp only [wipe, List.set_cons_zero, List.set_cons_succ]
        walk_at "go"
        refine ⟨rfl, ?_⟩
        by_cases c6 : e.c.no = e0.c.no
        · walk_at "all"
          exact hz _ _ _ (by rw [show answC e0.c.no e.c = stC e.c "active" from if_pos c6]; exact hC)
        · walk_at "all"
          refine s_inLI (ns := (act cs).map fun e => e.c.no) (by have q := hC.get (a := aL) (o := .lst ((act cs).map fun e => V.int e.c.no)) (by walk_at "mem"); rw [List.map_map]; exact q) ?_
          by_cases c4 : e.c.st = ("active" : Str)
          · have c5 := e2.mpr c4
            walk_at "all"
            exact hz _ _ _ (by rw [show answC e0.c.no e.c = stC e.c "held" from by unfold answC; rw [if_neg c6]; exact if_pos c4]; exact hC)
          · have c5 : ¬ e.c.no ∈ (act cs).map (fun e => e.c.no) := fun z => c4 (e2.mp z)
            walk_at "all"
            exact hz _ _ _ (by rw [show answC e0.c.no e.c = e.c from by unfold answC; rw [if_neg c6]; exact if_neg c4]; exact hC)
      have hpp : Paired (fun (t : Addr) (q : Key × V) => SqT K H t [kV q.1, q.2]) ts (mI id (ownC ds)) := hC.pr (P := fun H => Paired (fun (t : Addr) (q : Key × V) => SqT K H t [kV q.1, q.2]) ts (mI id (ownC ds))) List.mem_cons_self
      have sv2 := core_sv hds (sv.answE hb)
      walk_at "go"
      refine s_dictI (ps := ts) (f := id) (l := ownC ds) hC (hC.get (by walk_at "mem")) hpp (by unfold ownC; rw [List.map_map]; exact sv2.ok.nd) (fun D2 H hC => ?_)
      walk_at "go"
      unfold t_law_deed_tail16
      walk_at "all"
      have hd : TDs K _ (tpsP ps) (ps.map PD) := hC.dats (by walk_at "mem")
      refine dk_fin (i := i) (j := j) (l := l) (pl := pl) (lp := lr) (cd := D2) (ps := setP (wst (inB (upC (answC e0.c.no) cs))) ps) (cs := ds) hk hC ?_ sv2 tq (tds_setP hd) (by walk_at "mem") (by walk_at "mem") .non .non .non
      unfold LD
      rw [setP_tps, core_keys hds, core_cells hds, core_len hds]
      walk_at "lay3"
    · rw [decide_eq_false c] at hb
      walk_at "go"
      rw [show sp_Sounds_answer K a = spNo K a answB answC from rfl]
      refine c_noF (g := answB) (f := answC) hC (by unfold PL; walk_at "perm3") sv.ok (by omega) tq hb (fun H qo' tq hC => ?_)
      unfold PL at hC
      walk_at "all"
      rw [show (decide (e0.c.st = ("calling" : Str) ∨ e0.c.st = ("ringing" : Str))) = false from decide_eq_false c]
      exact no (v14 := none) tq (hC.sub (by unfold LD; walk_at "lay3") (by walk_at "subs"))
  · have hb : answB cs n = false := anyNo_none hno _
    walk_at "go"
    rw [show sp_Sounds_answer K a = spNo K a answB answC from rfl]
    refine c_noF (g := answB) (f := answC) hC (by unfold PL; walk_at "perm3") sv.ok (by omega) tq hb (fun H qo' tq hC => ?_)
    unfold PL at hC
    walk_at "all"
    refine s_inNL (ys := ["calling", "ringing"]) (hC.get (o := .lst [.str "calling", .str "ringing"]) (by walk_at "mem")) rfl ?_
    walk_at "go"
    exact no (v14 := none) tq (hC.sub (by unfold LD; walk_at "lay3") (by walk_at "subs"))
end
section
variable {K : PySem.W.Frag} {mg : Str → Option Value} {a : Adr} {vs : List V} {B H : Hp} {Q : VK} {E : XK} {L L' F : List (Addr × HO)} {I : List Im}
variable {n : Int} {ps : List PlE} {cs ds : List CE} {so dx pl pc od lr cd oL aL : Addr} {qs qc qo qd : Array Value} {app ask oth : Str} {sv10 sv6 : V}
variable {H0 : Hp} {dd : Addr} {i j l k : Int} {tbd : Array Value} {N Bk Ct : L2.St → Hp → Prop} {v3 v4 v6 v7 v8 v9 v10 v11 v12 v13 v14 v15 v16 v17 v18 : Option V}
theorem swap_st {e : CE} (h : swapB cs = true) (he : e ∈ cs) (hs : e.c.st ≠ ("ended" : Str)) : e.c.st = ("active" : Str) ∨ e.c.st = ("held" : Str) := by
  have : e.c.st ∈ opnS cs := List.mem_map.mpr ⟨e, List.mem_filter.mpr ⟨he, decide_eq_true hs⟩, rfl⟩
  have h2 := (swap_perm h).mem_iff.mp this
  simpa using h2
def swapT : List (Str × Str) := [("active", "held"), ("held", "active")]
theorem swapT_a : look swapT "active" = some ("held" : Str) := by unfold swapT; rw [look_cons, if_pos rfl]
theorem swapT_h : look swapT "held" = some ("active" : Str) := by unfold swapT; rw [look_cons, if_neg (by decide +kernel), look_cons, if_pos rfl]
theorem swapT_e : look swapT "ended" = none := by unfold swapT; rw [look_cons, if_neg (by decide +kernel), look_cons, if_neg (by decide +kernel), look_nil]
theorem deed_swap (T : Txt K mg a) (hk : DK K a H0 dd so dx pc od F k Q) (sv : SV k ps cs) (k1 : k ≤ 85) (tq : TQ qs qc qo qd) (hC : Ctx K H0 H ((oL, .lst ((opn cs).map fun e => V.int e.c.no)) :: (aL, .lst ((act cs).map fun e => V.int e.c.no)) :: LD a dd i j l so dx pl pc ps cs qs qc qo qd tbd od lr cd F) (dIm ps tbd)) :
    t_law_deed_if23 K a E ⟨N, Q, Bk, Ct⟩ [some (.ref dd), some (.ref od), some (.ref so), v3, v4, some (.ref cd), v6, some (.ref oL), v8, some (.ref aL), v10, v11, v12, v13, v14, v15, v16, v17, v18] H := by
  have hpl := sv.plen
  have hcl := sv.len k1
  have hpl2 : ps.length ≤ 85 := by omega
  have hlo : (opn cs).length ≤ 2 := sv.o2
  have hls : (opnS cs).length < 64 := by unfold opnS; rw [List.length_map]; omega
  unfold LD dIm at hC
  unfold t_law_deed_if23
  walk_at "go"
  refine lc_read (es := opn cs) (kf := fun e : CE => V.int e.c.no) (walk_lstE (xs := (opn cs).map fun e => V.int e.c.no) rfl) (fun _ => true) (fun e => .str e.c.st) (by omega) (fun H1 x0 hC => SqL.of (hC.get (by walk_at "mem"))) hC (fun i e H1 D2 vr Zy Zn he hC hy hn => ?_) (fun H D2 vr hC => ?_)
  · have hm : e ∈ cs := (List.mem_filter.mp (List.mem_of_getElem? he)).1
    have e1 := ownC_look sv.ok hm
    obtain ⟨j, hj⟩ := List.mem_iff_getElem?.mp hm
    have hC2 := hC
    rw [ocells_mid hj] at hC
    simp only [ocell] at hC
    simp only [wipe, List.set_cons_zero, List.set_cons_succ]
    walk_at "go"
    refine ⟨rfl, ?_⟩
    walk_at "go"
    exact hy _ _ _ rfl hC2 (fun j hj => hj) (.str _)
  have hd0 := hC.dats (vs := vr) (ds := ((opn cs).filter fun _ => true).map fun e => PyData.str e.c.st) List.mem_cons_self
  rw [show ((opn cs).filter fun _ => true) = opn cs from List.filter_eq_self.mpr fun _ _ => rfl] at hd0
  have hd := tds_strs (ns := opnS cs) (by unfold opnS; rw [List.map_map]; exact hd0)
  subst hd
  walk_at "go"
  refine s_eqSS (ns := srtT (opnS cs)) (ms := ["active", "held"]) (hC.get (by walk_at "mem")) (hC.get (o := .lst [.str "active", .str "held"]) (by walk_at "mem")) (opnS_ok sv.ok) (fun x hx => by
    simp only [List.mem_cons, List.not_mem_nil, or_false] at hx
    rcases hx with rfl | rfl <;> decide +kernel) ?_
  by_cases c : srtT (opnS cs) = (["active", "held"] : List Str)
  · have hf : swapB cs = true := decide_eq_true c
    rw [decide_eq_true c]
    walk_at "go"
    unfold t_law_deed_tail22
    walk_at "go"
    refine c_swapT hC (by unfold PL; walk_at "perm3") sv.ok tq hf (fun H qo' tq hC => ?_)
    unfold PL at hC
    walk_at "go"
    unfold t_law_deed_tail21
    walk_at "all"
    unfold t_law_deed_if19
    walk_at "go"
    refine law_new2 (f := swapC) (cs := cs) (cd := cd) rfl swapC_no (by omega) hC (by walk_at "pick") (fun ob i e H1 M Z Zn he hC hz => ?_) (fun H D ts ds hds hC => ?_)
    · have e1 := ownC_look sv.ok (List.mem_of_getElem? he)
      have e3 := swap_st hf (List.mem_of_getElem? he)
      rw [ocells_mid he] at hC hz
      simp only [ocell] at hC hz
      simp only [wipe, List.set_cons_zero, List.set_cons_succ]
      walk_at "go"
      refine ⟨rfl, ?_⟩
      walk_at "go"
      have hm : H dp = some (.dK (mK V.str swapT)) := hC.get (o := .dK [(.inr "active", .str "held"), (.inr "held", .str "active")]) (by walk_at "mem")
      by_cases c4 : e.c.st = ("ended" : Str)
      · refine s_g2Kz (f := V.str) hm (by rw [c4]; exact swapT_e) ?_
        walk_at "go"
        refine hz _ _ _ ⟨?_, hC.im, hC.sb⟩
        rw [show (swapC e.c).st = ("ended" : Str) from swapC_end.mpr c4]
        walk_at "lay3"
      · rcases e3 c4 with c5 | c5
        · refine s_g2Ke (f := V.str) (v := "held") hm (by rw [c5]; exact swapT_a) ?_
          walk_at "go"
          refine hz _ _ _ ⟨?_, hC.im, hC.sb⟩
          rw [show (swapC e.c).st = ("held" : Str) from by unfold swapC; rw [if_neg c4, if_pos c5]; rfl]
          walk_at "lay3"
        · refine s_g2Ke (f := V.str) (v := "active") hm (by rw [c5]; exact swapT_h) ?_
          walk_at "go"
          refine hz _ _ _ ⟨?_, hC.im, hC.sb⟩
          rw [show (swapC e.c).st = ("active" : Str) from swapC_act.mpr ⟨c4, by rw [c5]; decide +kernel⟩]
          walk_at "lay3"
    have hpp : Paired (fun (t : Addr) (q : Key × V) => SqT K H t [kV q.1, q.2]) ts (mI id (ownC ds)) := hC.pr (P := fun H => Paired (fun (t : Addr) (q : Key × V) => SqT K H t [kV q.1, q.2]) ts (mI id (ownC ds))) List.mem_cons_self
    have sv2 := core_sv hds (sv.swapE hf)
    walk_at "go"
    refine s_dictI (ps := ts) (f := id) (l := ownC ds) hC (hC.get (by walk_at "mem")) hpp (by unfold ownC; rw [List.map_map]; exact sv2.ok.nd) (fun D2 H hC => ?_)
    walk_at "go"
    unfold t_law_deed_tail20
    walk_at "all"
    have hd : TDs K _ (tpsP ps) (ps.map PD) := hC.dats (by walk_at "mem")
    refine dk_fin (i := i) (j := j) (l := l) (pl := pl) (lp := lr) (cd := D2) (ps := ps) (cs := ds) hk hC ?_ sv2 tq hd (by walk_at "mem") (by walk_at "mem") .non .non .non
    unfold LD
    rw [core_keys hds, core_cells hds, core_len hds]
    walk_at "lay3"
  · have hf : swapB cs = false := decide_eq_false c
    rw [decide_eq_false c]
    walk_at "go"
    unfold t_law_deed_tail22
    walk_at "go"
    refine c_swapF hC (by unfold PL; walk_at "perm3") sv.ok tq hf (fun H qo' tq hC => ?_)
    unfold PL at hC
    walk_at "go"
    unfold t_law_deed_tail21
    walk_at "all"
    unfold t_law_deed_tail20
    walk_at "all"
    have hd : TDs K _ (tpsP ps) (ps.map PD) := hC.dats (by walk_at "mem")
    refine dk_fin (i := i) (j := j) (l := l) (pl := pl) (lp := lr) (cd := cd) (ps := ps) (cs := cs) hk hC ?_ sv.mono tq hd (by walk_at "mem") (by walk_at "mem") (.str _) (.str _) (.str (by decide +kernel))
    unfold LD
    walk_at "lay3"
end
section
variable {K : PySem.W.Frag} {mg : Str → Option Value} {a : Adr} {vs : List V} {B H : Hp} {Q : VK} {E : XK} {L L' F : List (Addr × HO)} {I : List Im}
variable {n : Int} {ps : List PlE} {cs ds : List CE} {so dx pl pc od lr cd oL aL : Addr} {qs qc qo qd : Array Value} {app ask oth : Str} {sv10 sv6 : V}
variable {H0 : Hp} {dd : Addr} {i j l k : Int} {tbd : Array Value} {N Bk Ct : L2.St → Hp → Prop} {v3 v4 v6 v7 v8 v9 v10 v11 v12 v13 v14 v15 v16 v17 v18 : Option V}
/-- hold and end: what is refused -/
theorem deed_no (T : Txt K mg a) (hk : DK K a H0 dd so dx pc od F k Q) (sv : SV k ps cs) (tq : TQ qs qc qo qd) {L : List (Addr × HO)} (hC : Ctx K H0 H L (dIm ps tbd)) (y : Lay H (LD a dd i j l so dx pl pc ps cs qs qc qo qd tbd od lr cd F)) :
    t_law_deed_tail28 K a E ⟨N, Q, Bk, Ct⟩ [some (.ref dd), some (.ref od), some (.ref so), v3, v4, some (.ref cd), v6, v7, v8, v9, v10, v11, v12, v13, some (.str "SoundFault"), v15, v16, some (.bl false), v18] H := by
  have hC : Ctx K H0 H (LD a dd i j l so dx pl pc ps cs qs qc qo qd tbd od lr cd F) (dIm ps tbd) := ⟨y, hC.im, hC.sb⟩
  unfold LD dIm at hC
  unfold t_law_deed_tail28
  walk_at "all"
  unfold t_law_deed_tail27
  walk_at "all"
  have hd : TDs K _ (tpsP ps) (ps.map PD) := hC.dats (by walk_at "mem")
  refine dk_fin (i := i) (j := j) (l := l) (pl := pl) (lp := lr) (cd := cd) (ps := ps) (cs := cs) hk hC ?_ sv.mono tq hd (by walk_at "mem") (by walk_at "mem") (.str _) (.str _) (.str (by decide +kernel))
  unfold LD
  walk_at "lay3"
/-- hold and end: what is done; the law writes its own row -/
theorem deed_yes (T : Txt K mg a) {e0 : CE} {f : CI → CI} {s : Int} {w : Str} (hk : DK K a H0 dd so dx pc od F k Q) (ok : OkC cs) (he : e0 ∈ cs) (hf : ∀ c, (f c).no = c.no) (hg : ∀ c : CI, c.no ≠ e0.c.no → f c = c) (hw : (f e0.c).st = w)
    (hwd : w = if s = 9 then (if e0.c.st = ("active" : Str) then ("held" : Str) else ("active" : Str)) else ("ended" : Str)) (sv : SV (k + 1) (setP (wst (inB (upC f cs))) ps) (upC f cs)) (tq : TQ qs qc qo qd) {L : List (Addr × HO)} (hC : Ctx K H0 H L (dIm ps tbd))
    (y : Lay H ((dd, .lst [.int i, .int j, .int l]) :: (so, .ins a.c_Sounds dx [("players", .ref pl), ("calls", .ref pc), ("count", .int ((upC f cs).length : Nat))]) :: (pl, .lst (adsP (setP (wst (inB (upC f cs))) ps))) :: (pc, .dK (mI id (keysC (upC f cs)))) ::
      (a.tb_Sounds_shown, .tbl qs) :: (a.tb_Sounds_in_call, .tbl qc) :: (a.tb_Sounds_open_calls, .tbl qo) :: (a.tb_Sounds_dial, .tbl qd) :: (a.tb_law_deed, .tbl tbd) ::
      (od, .dK [(.inr "players", .ref lr), (.inr "calls", .ref cd)]) :: (lr, .lst (tpsP ps)) :: (cd, .dK (mI id (ownC cs))) :: (pcells a (setP (wst (inB (upC f cs))) ps) ++ (ccells a (upC f cs) ++ (ocells cs ++ F))))) :
    t_law_deed_tail28 K a E ⟨N, Q, Bk, Ct⟩ [some (.ref dd), some (.ref od), some (.ref so), some (.int s), v4, some (.ref cd), some (.ref e0.ow), v7, v8, v9, some (.str e0.c.st), v11, v12, v13, some .non, v15, v16, some (.bl true), v18] H := by
  obtain ⟨m, hm⟩ := List.mem_iff_getElem?.mp he
  have hput := put_one2 (F := F) ok.nd hm hg
  have hC : Ctx K H0 H _ (dIm ps tbd) := ⟨y, hC.im, hC.sb⟩
  rw [ocells_mid hm] at hC
  simp only [ocell, hw] at hC hput
  have fin : ∀ {H : Hp} {v15 v16 v18 : Option V}, Ctx K H0 H ((dd, .lst [.int i, .int j, .int l]) :: (so, .ins a.c_Sounds dx [("players", .ref pl), ("calls", .ref pc), ("count", .int ((upC f cs).length : Nat))]) :: (pl, .lst (adsP (setP (wst (inB (upC f cs))) ps))) :: (pc, .dK (mI id (keysC (upC f cs)))) ::
      (a.tb_Sounds_shown, .tbl qs) :: (a.tb_Sounds_in_call, .tbl qc) :: (a.tb_Sounds_open_calls, .tbl qo) :: (a.tb_Sounds_dial, .tbl qd) :: (a.tb_law_deed, .tbl tbd) ::
      (od, .dK [(.inr "players", .ref lr), (.inr "calls", .ref cd)]) :: (lr, .lst (tpsP ps)) :: (cd, .dK (mI id (ownC cs))) :: (pcells a (setP (wst (inB (upC f cs))) ps) ++ (ccells a (upC f cs) ++ (ocells (cs.take m) ++ (e0.ow, .dK [(.inr "state", .str w)]) :: (ocells (cs.drop (m + 1)) ++ F))))) (dIm ps tbd) →
      t_law_deed_tail27 K a E ⟨N, Q, Bk, Ct⟩ [some (.ref dd), some (.ref od), some (.ref so), some (.int s), v4, some (.ref cd), some (.ref e0.ow), v7, v8, v9, some (.str e0.c.st), v11, v12, v13, some .non, v15, v16, some (.bl true), v18] H := fun {H v15 v16 v18} hC => by
    unfold t_law_deed_tail27
    walk_at "all"
    have hd : TDs K _ (tpsP ps) (ps.map PD) := hC.dats (by walk_at "mem")
    refine dk_fin (i := i) (j := j) (l := l) (pl := pl) (lp := lr) (cd := cd) (ps := setP (wst (inB (upC f cs))) ps) (cs := upC f cs) hk hC ?_ sv tq (tds_setP hd) (by walk_at "mem") (by walk_at "mem") .non .non .non
    unfold LD
    rw [setP_tps, ownC_up hf, hput]
    walk_at "lay3"
  unfold t_law_deed_tail28
  by_cases c1 : s = 9
  · rw [if_pos c1] at hwd
    by_cases c2 : e0.c.st = ("active" : Str)
    · rw [if_pos c2] at hwd
      subst hwd
      walk_at "all"
      unfold t_law_deed_if26
      walk_at "all"
      exact fin hC
    · rw [if_neg c2] at hwd
      subst hwd
      walk_at "all"
      unfold t_law_deed_if26
      walk_at "all"
      exact fin hC
  · rw [if_neg c1] at hwd
    subst hwd
    walk_at "all"
    unfold t_law_deed_if26
    walk_at "all"
    exact fin hC
theorem deed_hold (T : Txt K mg a) (hk : DK K a H0 dd so dx pc od F k Q) (sv : SV k ps cs) (k1 : k ≤ 85) (tq : TQ qs qc qo qd) (hst : seenC cs n sv6 sv10) (hC : Ctx K H0 H ((oL, .lst ((opn cs).map fun e => V.int e.c.no)) :: (aL, .lst ((act cs).map fun e => V.int e.c.no)) :: LD a dd i j l so dx pl pc ps cs qs qc qo qd tbd od lr cd F) (dIm ps tbd)) :
    t_law_deed_if24 K a E ⟨t_law_deed_tail28 K a E ⟨N, Q, Bk, Ct⟩, Q, Bk, Ct⟩ [some (.ref dd), some (.ref od), some (.ref so), some (.int 9), some (.int n), some (.ref cd), some sv6, some (.ref oL), v8, some (.ref aL), some sv10, v11, v12, v13, v14, v15, v16, v17, v18] H := by
  have hpl := sv.plen
  have hpl2 : ps.length ≤ 85 := by omega
  have hol : ((opn cs).map fun e => V.int e.c.no).length = (opn cs).length := List.length_map _
  unfold LD dIm at hC
  unfold t_law_deed_if24
  rcases hst with ⟨e0, he0, rfl, rfl, rfl⟩ | ⟨hno, rfl, rfl⟩
  · have hb : holdB cs e0.c.no = decide (e0.c.st = ("active" : Str) ∨ e0.c.st = ("held" : Str) ∧ (opn cs).length = 1) := anyNo_of sv.ok he0 fun x => x.c.st = ("active" : Str) ∨ x.c.st = ("held" : Str) ∧ (opn cs).length = 1
    by_cases c : e0.c.st = ("active" : Str)
    · rw [decide_eq_true (.inl c)] at hb
      walk_at "all"
      try rw [show (decide (e0.c.st = ("active" : Str))) = true from decide_eq_true c]
      rw [show sp_Sounds_hold K a = spNo K a holdB holdC from rfl]
      refine c_noT (g := holdB) (f := holdC) hC (by unfold PL; walk_at "perm3") sv.ok (by omega) tq hb (fun H qc' qo' tq hC => ?_)
      unfold PL at hC
      walk_at "go"
      exact deed_yes T (f := (holdC) e0.c.no) (s := 9) hk sv.ok he0 holdC_no (fun c hc => if_neg hc) rfl (by rw [if_pos rfl]; unfold holdC; rw [if_pos rfl]; rfl) (sv.holdE hb) tq (hC.keepI (I := dIm ps tb) (fun j hj => by
        rcases List.mem_cons.mp hj with rfl | hj
        · exact List.mem_cons_of_mem _ List.mem_cons_self
        · rw [List.mem_singleton.mp hj]; exact List.mem_cons_self)) (by walk_at "lay3")
    · by_cases c2 : e0.c.st = ("held" : Str)
      · by_cases c3 : (opn cs).length = 1
        · rw [decide_eq_true (.inr ⟨c2, c3⟩)] at hb
          have c4 : ((((opn cs).map fun e => V.int e.c.no).length : Nat) : Int) = 1 := by omega
          walk_at "all"
          rw [show sp_Sounds_hold K a = spNo K a holdB holdC from rfl]
          refine c_noT (g := holdB) (f := holdC) hC (by unfold PL; walk_at "perm3") sv.ok (by omega) tq hb (fun H qc' qo' tq hC => ?_)
          unfold PL at hC
          walk_at "go"
          exact deed_yes T (f := (holdC) e0.c.no) (s := 9) hk sv.ok he0 holdC_no (fun c hc => if_neg hc) rfl (by rw [if_pos rfl]; unfold holdC; rw [if_pos rfl]; rfl) (sv.holdE hb) tq (hC.keepI (I := dIm ps tb) (fun j hj => by
            rcases List.mem_cons.mp hj with rfl | hj
            · exact List.mem_cons_of_mem _ List.mem_cons_self
            · rw [List.mem_singleton.mp hj]; exact List.mem_cons_self)) (by walk_at "lay3")
        · rw [decide_eq_false (fun z => z.elim c fun z => c3 z.2)] at hb
          have c4 : ¬ ((((opn cs).map fun e => V.int e.c.no).length : Nat) : Int) = 1 := by omega
          walk_at "all"
          rw [show sp_Sounds_hold K a = spNo K a holdB holdC from rfl]
          refine c_noF (g := holdB) (f := holdC) hC (by unfold PL; walk_at "perm3") sv.ok (by omega) tq hb (fun H qo' tq hC => ?_)
          unfold PL at hC
          walk_at "go"
          exact deed_no T hk sv tq (hC.keepI (I := dIm ps tb) (fun j hj => by
            rcases List.mem_cons.mp hj with rfl | hj
            · exact List.mem_cons_of_mem _ List.mem_cons_self
            · rw [List.mem_singleton.mp hj]; exact List.mem_cons_self)) (by unfold LD; walk_at "lay3")
      · rw [decide_eq_false (fun z => z.elim c fun z => c2 z.1)] at hb
        walk_at "all"
        try rw [show (decide (e0.c.st = ("held" : Str))) = false from decide_eq_false c2]
        rw [show sp_Sounds_hold K a = spNo K a holdB holdC from rfl]
        refine c_noF (g := holdB) (f := holdC) hC (by unfold PL; walk_at "perm3") sv.ok (by omega) tq hb (fun H qo' tq hC => ?_)
        unfold PL at hC
        walk_at "go"
        exact deed_no T hk sv tq (hC.keepI (I := dIm ps tb) (fun j hj => by
          rcases List.mem_cons.mp hj with rfl | hj
          · exact List.mem_cons_of_mem _ List.mem_cons_self
          · rw [List.mem_singleton.mp hj]; exact List.mem_cons_self)) (by unfold LD; walk_at "lay3")
  · have hb : holdB cs n = false := anyNo_none hno _
    walk_at "all"
    rw [show sp_Sounds_hold K a = spNo K a holdB holdC from rfl]
    refine c_noF (g := holdB) (f := holdC) hC (by unfold PL; walk_at "perm3") sv.ok (by omega) tq hb (fun H qo' tq hC => ?_)
    unfold PL at hC
    walk_at "go"
    exact deed_no T hk sv tq (hC.keepI (I := dIm ps tb) (fun j hj => by
      rcases List.mem_cons.mp hj with rfl | hj
      · exact List.mem_cons_of_mem _ List.mem_cons_self
      · rw [List.mem_singleton.mp hj]; exact List.mem_cons_self)) (by unfold LD; walk_at "lay3")
theorem deed_end (T : Txt K mg a) (hk : DK K a H0 dd so dx pc od F k Q) (sv : SV k ps cs) (k1 : k ≤ 85) (tq : TQ qs qc qo qd) {s : Int} (hs : s ≠ 9) (hst : seenC cs n sv6 sv10) (hC : Ctx K H0 H ((oL, .lst ((opn cs).map fun e => V.int e.c.no)) :: (aL, .lst ((act cs).map fun e => V.int e.c.no)) :: LD a dd i j l so dx pl pc ps cs qs qc qo qd tbd od lr cd F) (dIm ps tbd)) :
    t_law_deed_else25 K a E ⟨t_law_deed_tail28 K a E ⟨N, Q, Bk, Ct⟩, Q, Bk, Ct⟩ [some (.ref dd), some (.ref od), some (.ref so), some (.int s), some (.int n), some (.ref cd), some sv6, some (.ref oL), v8, some (.ref aL), some sv10, v11, v12, v13, v14, v15, v16, v17, v18] H := by
  have hpl := sv.plen
  have hpl2 : ps.length ≤ 85 := by omega
  have hol : ((opn cs).map fun e => V.int e.c.no).length = (opn cs).length := List.length_map _
  unfold LD dIm at hC
  unfold t_law_deed_else25
  rcases hst with ⟨e0, he0, rfl, rfl, rfl⟩ | ⟨hno, rfl, rfl⟩
  · have hb : endB cs e0.c.no = decide (e0.c.st ≠ ("ended" : Str)) := anyNo_of sv.ok he0 fun x => x.c.st ≠ ("ended" : Str)
    have hnin : ∀ {a : Addr} {Q : VK} {H : Hp}, H a = some (.lst [.non, .str "ended"]) → Q (.bl (!decide (e0.c.st = ("ended" : Str)))) H → rNotInV K (.str e0.c.st) (.ref a) H Q := fun hm q => s_ninNL hm (.inr ⟨_, rfl⟩) (by simpa using q)
    by_cases c : e0.c.st = ("ended" : Str)
    · rw [decide_eq_false (fun z => z c)] at hb
      walk_at "go"
      refine hnin (hC.get (by walk_at "mem")) ?_
      rw [decide_eq_true c, Bool.not_true]
      walk_at "all"
      rw [show sp_Sounds_end K a = spNo K a endB (fun n => oneC n "ended") from rfl]
      refine c_noF (g := endB) (f := fun n => oneC n "ended") hC (by unfold PL; walk_at "perm3") sv.ok (by omega) tq hb (fun H qo' tq hC => ?_)
      unfold PL at hC
      walk_at "go"
      exact deed_no T hk sv tq (hC.keepI (I := dIm ps tb) (fun j hj => by
        rcases List.mem_cons.mp hj with rfl | hj
        · exact List.mem_cons_of_mem _ List.mem_cons_self
        · rw [List.mem_singleton.mp hj]; exact List.mem_cons_self)) (by unfold LD; walk_at "lay3")
    · rw [decide_eq_true c] at hb
      walk_at "go"
      refine hnin (hC.get (by walk_at "mem")) ?_
      rw [decide_eq_false c, Bool.not_false]
      walk_at "all"
      rw [show sp_Sounds_end K a = spNo K a endB (fun n => oneC n "ended") from rfl]
      refine c_noT (g := endB) (f := (fun n => oneC n "ended")) hC (by unfold PL; walk_at "perm3") sv.ok (by omega) tq hb (fun H qc' qo' tq hC => ?_)
      unfold PL at hC
      walk_at "go"
      exact deed_yes T (f := ((fun n => oneC n "ended")) e0.c.no) (s := s) hk sv.ok he0 oneC_no (fun c hc => if_neg hc) rfl (by rw [if_neg hs]; show (oneC e0.c.no "ended" e0.c).st = _; unfold oneC; rw [if_pos rfl]; rfl) (sv.endE hb) tq (hC.keepI (I := dIm ps tb) (fun j hj => by
        rcases List.mem_cons.mp hj with rfl | hj
        · exact List.mem_cons_of_mem _ List.mem_cons_self
        · rw [List.mem_singleton.mp hj]; exact List.mem_cons_self)) (by walk_at "lay3")
  · have hb : endB cs n = false := anyNo_none hno _
    walk_at "go"
    refine s_ninNL (hC.get (by walk_at "mem")) (.inl rfl) ?_
    rw [show (!decide ((V.non : V) = .non ∨ (V.non : V) = .str "ended")) = false from by simp]
    walk_at "all"
    rw [show sp_Sounds_end K a = spNo K a endB (fun n => oneC n "ended") from rfl]
    refine c_noF (g := endB) (f := (fun n => oneC n "ended")) hC (by unfold PL; walk_at "perm3") sv.ok (by omega) tq hb (fun H qo' tq hC => ?_)
    unfold PL at hC
    walk_at "go"
    exact deed_no T hk sv tq (hC.keepI (I := dIm ps tb) (fun j hj => by
      rcases List.mem_cons.mp hj with rfl | hj
      · exact List.mem_cons_of_mem _ List.mem_cons_self
      · rw [List.mem_singleton.mp hj]; exact List.mem_cons_self)) (by unfold LD; walk_at "lay3")
end
section
variable {K : PySem.W.Frag} {mg : Str → Option Value} {a : Adr} {vs : List V} {B H : Hp} {Q : VK} {E : XK} {L L' F : List (Addr × HO)} {I : List Im}
variable {n : Int} {ps : List PlE} {cs ds : List CE} {so dx pl pc od lr cd oL aL : Addr} {qs qc qo qd : Array Value} {app ask oth : Str} {sv10 sv6 : V}
variable {H0 : Hp} {dd : Addr} {i j l k : Int} {tbd : Array Value} {N Bk Ct : L2.St → Hp → Prop} {v3 v4 v6 v7 v8 v9 v10 v11 v12 v13 v14 v15 v16 v17 v18 : Option V}
theorem ints_shL {n : Nat} (ns : List Int) : ShL n (ns.map PyData.int) := fun d hd => by
  obtain ⟨x, _, rfl⟩ := List.mem_map.mp hd
  exact .int x
theorem s_neInts {l m : Addr} {ns : List Int} (hl : H l = some (.lst (ns.map V.int))) (hm : H m = some (.lst [])) (k : Q (.bl (!ns.isEmpty)) H) : rNeU K (.ref l) (.ref m) H Q :=
  s_neE hl hm (ints_tds ns) (ints_shL ns) (by rw [show (ns.map PyData.int).isEmpty = ns.isEmpty from by cases ns <;> rfl]; exact k)
theorem act_of_opn : (opn cs).filter (fun e => decide (e.c.st = ("active" : Str))) = act cs := by
  unfold act opn
  rw [List.filter_filter]
  refine List.filter_congr fun e _ => ?_
  by_cases q : e.c.st = ("active" : Str)
  · have q2 : e.c.st ≠ ("ended" : Str) := fun z => by rw [q] at z; exact absurd z (by decide +kernel)
    rw [decide_eq_true q, decide_eq_true q2]; rfl
  · rw [decide_eq_false q]; rfl
theorem ins_iff {x : Str} (h : x ∈ SCS) : x ∈ INS ↔ (x ≠ ("ended" : Str) ∧ x ≠ ("held" : Str)) := by
  unfold SCS at h
  simp only [List.mem_cons, List.not_mem_nil, or_false] at h
  rcases h with rfl | rfl | rfl | rfl | rfl <;> decide +kernel
theorem busy_eq (ok : OkC cs) : (!(((opn cs).filter fun e => decide (e.c.st ≠ ("held" : Str))).map fun e => e.c.no).isEmpty) = inB cs := by
  rw [Bool.eq_iff_iff]
  unfold inB
  rw [List.any_eq_true, Bool.not_eq_true', ← Bool.not_eq_true, List.isEmpty_iff]
  constructor
  · intro h
    obtain ⟨x, hx⟩ := List.exists_mem_of_ne_nil _ h
    obtain ⟨e, he, _⟩ := List.mem_map.mp hx
    have h1 := List.mem_filter.mp he
    have h2 := List.mem_filter.mp h1.1
    exact ⟨e, h2.1, decide_eq_true ((ins_iff (ok.st e h2.1)).mpr ⟨of_decide_eq_true h2.2, of_decide_eq_true h1.2⟩)⟩
  · rintro ⟨e, he, z⟩ h
    have z := (ins_iff (ok.st e he)).mp (of_decide_eq_true z)
    have : e.c.no ∈ (((opn cs).filter fun e => decide (e.c.st ≠ ("held" : Str))).map fun e => e.c.no) := List.mem_map.mpr ⟨e, List.mem_filter.mpr ⟨List.mem_filter.mpr ⟨he, decide_eq_true z.1⟩, decide_eq_true z.2⟩, rfl⟩
    rw [h] at this
    cases this
/-- by the sort of deed -/
theorem deed_sort (T : Txt K mg a) {s : Int} (hk : DK K a H0 dd so dx pc od F k Q) (sv : SV k ps cs) (k1 : k ≤ 85) (tq : TQ qs qc qo qd) (hst : seenC cs n sv6 sv10) (happ : app ∈ (["a", "b", "c", "d"] : List Str)) (hway : ask ∈ WAYS ∨ ask = "loud")
    (hC : Ctx K H0 H ((oL, .lst ((opn cs).map fun e => V.int e.c.no)) :: (aL, .lst ((act cs).map fun e => V.int e.c.no)) :: LD a dd i j l so dx pl pc ps cs qs qc qo qd tbd od lr cd F) (dIm ps tbd)) :
    t_law_deed_tail30 K a E ⟨N, Q, Bk, Ct⟩ [some (.ref dd), some (.ref od), some (.ref so), some (.int s), some (.int n), some (.ref cd), some sv6, some (.ref oL), some (.bl (inB cs)), some (.ref aL), some sv10, some (.str app), some (.str ask), v13, v14, v15, v16, v17, v18] H := by
  have hC1 : Ctx K H0 H (LD a dd i j l so dx pl pc ps cs qs qc qo qd tbd od lr cd F) (dIm ps tbd) := ⟨hC.lay.tail.tail, hC.im, hC.sb⟩
  have hC2 : Ctx K H0 H ((oL, .lst ((opn cs).map fun e => V.int e.c.no)) :: LD a dd i j l so dx pl pc ps cs qs qc qo qd tbd od lr cd F) (dIm ps tbd) := hC.perm (List.Perm.swap _ _ _) |> fun h => ⟨h.lay.tail, h.im, h.sb⟩
  have hCs := hC
  unfold t_law_deed_tail30
  by_cases c1 : s < 3
  · walk_at "all"
    exact deed_play T hk sv k1 tq happ hway hC1
  by_cases c2 : s = 3
  · walk_at "all"
    exact deed_stop T hk sv k1 tq hC1
  unfold LD at hC
  by_cases c4 : s = 4
  · walk_at "all"
    unfold t_law_deed_tail29
    walk_at "go"
    refine s_lenI (hC.get (by walk_at "mem")) ?_
    rw [mI_len, ownC_len]
    walk_at "all"
    exact deed_dial T hk sv k1 tq hCs
  by_cases c5 : s = 5
  · walk_at "all"
    unfold t_law_deed_tail29
    walk_at "go"
    refine s_lenI (hC.get (by walk_at "mem")) ?_
    rw [mI_len, ownC_len]
    walk_at "all"
    exact deed_come T hk sv k1 tq hC2
  by_cases c6 : s < 8
  · walk_at "all"
    unfold t_law_deed_tail29
    walk_at "go"
    refine s_lenI (hC.get (by walk_at "mem")) ?_
    rw [mI_len, ownC_len]
    walk_at "all"
    exact deed_answer T hk sv k1 tq hst hCs
  by_cases c7 : s = 8
  · walk_at "all"
    unfold t_law_deed_tail29
    walk_at "go"
    refine s_lenI (hC.get (by walk_at "mem")) ?_
    rw [mI_len, ownC_len]
    walk_at "all"
    exact deed_swap T hk sv k1 tq hCs
  by_cases c8 : s = 9
  · walk_at "all"
    unfold t_law_deed_tail29
    walk_at "go"
    refine s_lenI (hC.get (by walk_at "mem")) ?_
    rw [mI_len, ownC_len]
    walk_at "all"
    subst c8
    exact deed_hold T hk sv k1 tq hst hCs
  · walk_at "all"
    unfold t_law_deed_tail29
    walk_at "go"
    refine s_lenI (hC.get (by walk_at "mem")) ?_
    rw [mI_len, ownC_len]
    walk_at "all"
    exact deed_end T hk sv k1 tq c8 hst hCs
end
section
variable {K : PySem.W.Frag} {mg : Str → Option Value} {a : Adr} {vs : List V} {B H : Hp} {Q : VK} {E : XK} {L L' F : List (Addr × HO)} {I : List Im}
variable {n : Int} {ps : List PlE} {cs ds : List CE} {so dx pl pc od lr cd oL aL : Addr} {qs qc qo qd : Array Value} {app ask oth : Str} {sv10 sv6 : V}
variable {H0 : Hp} {dd : Addr} {i j l k : Int} {tbd : Array Value} {N Bk Ct : L2.St → Hp → Prop} {v3 v4 v6 v7 v8 v9 v10 v11 v12 v13 v14 v15 v16 v17 v18 : Option V}
theorem pure_law_deed {H0 : Hp} (T : Txt K mg a) (h : sp_law_deed K a vs H0 Q E) : t_law_deed K a E { nx := fun _ H' => Q .non H', rt := Q } (L2.start N_law_deed vs) H0 := by
  obtain ⟨_, dd, so, dx, pl, pc, od, lr, cd, i, j, l, k, ps, cs, qs, qc, qo, qd, tbd, F, rfl, y, sv, k1, tq, hd, ht, hk⟩ := h
  have hC : Ctx K H0 H0 (LD a dd i j l so dx pl pc ps cs qs qc qo qd tbd od lr cd F) (dIm ps tbd) := ((Ctx.start (K := K) y).add (i := .tab (lamq "_law_deed") tbd) ht).add (i := .dats (tpsP ps) (ps.map PD)) hd
  have hk : DK K a H0 dd so dx pc od F k Q := hk
  have hcl := sv.len k1
  have hol := sv.o2
  have hown : (ownC cs).length < 64 := by rw [ownC_len]; omega
  unfold LD dIm at hC
  unfold t_law_deed
  walk_at "start"
  walk_at "go"
  refine s_lenI (hC.get (by walk_at "mem")) ?_
  rw [mI_len, ownC_len]
  walk_at "go"
  obtain ⟨n, hn⟩ : ∃ n, n = 1 + rr := ⟨_, rfl⟩
  rw [← hn]
  unfold t_law_deed_tail35
  walk_at "go"
  refine s_srtI2 hC (hC.get (by walk_at "mem")) hown (fun sq H hC => ?_)
  rw [ownC_srt sv.ok] at hC
  walk_at "go"
  refine lc_pick (es := cs) (kf := fun e : CE => V.int e.c.no) (walk_lstE (xs := (cs.map fun e => e.c.no).map V.int) (by rw [List.map_map]; rfl)) (fun e => decide (e.c.st ≠ ("ended" : Str))) (fun e => V.int e.c.no) (by omega) (fun H1 x hC => SqL.of (hC.get (by walk_at "mem"))) hC (fun i e H1 D vr Zy Zn he hC hy hn => ?_) (fun H oL hC => ?_)
  · have e1 := ownC_look sv.ok (List.mem_of_getElem? he)
    have hC2 := hC
    rw [ocells_mid he] at hC
    simp only [ocell] at hC
    simp only [wipe, List.set_cons_zero, List.set_cons_succ]
    walk_at "go"
    refine ⟨rfl, ?_⟩
    by_cases c : e.c.st = ("ended" : Str)
    · walk_at "all"
      exact hn _ _ (decide_eq_false fun z => z c) hC2 (fun j hj => hj)
    · walk_at "all"
      exact hy _ _ (decide_eq_true c) hC2 (fun j hj => hj)
  have hC : Ctx K H0 H ((oL, .lst ((opn cs).map fun e => V.int e.c.no)) :: _) _ := hC
  walk_at "go"
  unfold t_law_deed_tail34
  walk_at "go"
  refine lc_pick (es := opn cs) (kf := fun e : CE => V.int e.c.no) (walk_lstE (xs := (opn cs).map fun e => V.int e.c.no) rfl) (fun e => decide (e.c.st ≠ ("held" : Str))) (fun e => V.int e.c.no) (by omega) (fun H1 x hC => SqL.of (hC.get (by walk_at "mem"))) hC (fun i e H1 D vr Zy Zn he hC hy hn => ?_) (fun H bL hC => ?_)
  · have hm : e ∈ cs := (List.mem_filter.mp (List.mem_of_getElem? he)).1
    have e1 := ownC_look sv.ok hm
    obtain ⟨m, hj⟩ := List.mem_iff_getElem?.mp hm
    have hC2 := hC
    rw [ocells_mid hj] at hC
    simp only [ocell] at hC
    simp only [wipe, List.set_cons_zero, List.set_cons_succ]
    walk_at "go"
    refine ⟨rfl, ?_⟩
    by_cases c : e.c.st = ("held" : Str)
    · walk_at "all"
      exact hn _ _ (decide_eq_false fun z => z c) hC2 (fun j hj => hj)
    · walk_at "all"
      exact hy _ _ (decide_eq_true c) hC2 (fun j hj => hj)
  walk_at "go"
  refine s_neInts (ns := ((opn cs).filter fun e => decide (e.c.st ≠ ("held" : Str))).map fun e => e.c.no) (by have q := hC.get (a := bL) (o := .lst (((opn cs).filter fun e => decide (e.c.st ≠ ("held" : Str))).map fun e => V.int e.c.no)) (by walk_at "mem"); rw [List.map_map]; exact q) (hC.get (o := .lst []) (by walk_at "mem")) ?_
  rw [busy_eq sv.ok]
  walk_at "go"
  unfold t_law_deed_tail33
  walk_at "go"
  refine lc_pick (es := opn cs) (kf := fun e : CE => V.int e.c.no) (walk_lstE (xs := (opn cs).map fun e => V.int e.c.no) rfl) (fun e => decide (e.c.st = ("active" : Str))) (fun e => V.int e.c.no) (by omega) (fun H1 x hC => SqL.of (hC.get (by walk_at "mem"))) hC (fun i e H1 D vr Zy Zn he hC hy hn => ?_) (fun H aL hC => ?_)
  · have hm : e ∈ cs := (List.mem_filter.mp (List.mem_of_getElem? he)).1
    have e1 := ownC_look sv.ok hm
    obtain ⟨m, hj⟩ := List.mem_iff_getElem?.mp hm
    have hC2 := hC
    rw [ocells_mid hj] at hC
    simp only [ocell] at hC
    simp only [wipe, List.set_cons_zero, List.set_cons_succ]
    walk_at "go"
    refine ⟨rfl, ?_⟩
    by_cases c : e.c.st = ("active" : Str)
    · walk_at "all"
      exact hy _ _ (decide_eq_true c) hC2 (fun j hj => hj)
    · walk_at "all"
      exact hn _ _ (decide_eq_false c) hC2 (fun j hj => hj)
  rw [act_of_opn] at hC
  walk_at "go"
  unfold t_law_deed_tail32
  have key : ∀ {sv6 sv10 : V} {H : Hp} {s : Int}, seenC cs n sv6 sv10 → Ctx K H0 H ((oL, .lst ((opn cs).map fun e => V.int e.c.no)) :: (aL, .lst ((act cs).map fun e => V.int e.c.no)) :: LD a dd di dj dl so dx pl pc ps cs qs qc qo qd tbd od lr cd F) (dIm ps tbd) →
      t_law_deed_tail31 K a E { nx := fun _ H' => Q .non H', rt := Q } [some (.ref dd), some (.ref od), some (.ref so), some (.int s), some (.int n), some (.ref cd), some sv6, some (.ref oL), some (.bl (inB cs)), some (.ref aL), some sv10, none, none, none, none, none, none, none, none] H := fun {sv6 sv10 H s} hst hC => by
    unfold LD dIm at hC
    unfold t_law_deed_tail31
    walk_at "go"
    refine s_ixOne (hC.get (o := .lst [.str "a", .str "b", .str "c", .str "d"]) (by walk_at "mem")) hr0 (show rr < 4 from hr1) (fun v hv => ?_)
    obtain ⟨app, rfl, happ⟩ : ∃ app, v = .str app ∧ app ∈ (["a", "b", "c", "d"] : List Str) := by
      simp only [List.mem_cons, List.not_mem_nil, or_false] at hv
      rcases hv with rfl | rfl | rfl | rfl <;> exact ⟨_, rfl, by decide +kernel⟩
    walk_at "go"
    refine s_ixOne (hC.get (o := .lst [.str "long", .str "short", .str "beside", .str "loud"]) (by walk_at "mem")) (by unfold mnI; split <;> omega) (by
      show mnI 3 (rr / 2) < 4
      unfold mnI
      split <;> omega) (fun v hv => ?_)
    obtain ⟨ask, rfl, hask⟩ : ∃ ask, v = .str ask ∧ (ask ∈ WAYS ∨ ask = ("loud" : Str)) := by
      simp only [List.mem_cons, List.not_mem_nil, or_false] at hv
      rcases hv with rfl | rfl | rfl | rfl
      · exact ⟨_, rfl, .inl (by decide +kernel)⟩
      · exact ⟨_, rfl, .inl (by decide +kernel)⟩
      · exact ⟨_, rfl, .inl (by decide +kernel)⟩
      · exact ⟨_, rfl, .inr rfl⟩
    walk_at "go"
    exact deed_sort T hk sv k1 tq hst happ hask (hC.sub (by unfold LD; walk_at "lay3") (by walk_at "subs"))
  by_cases q : ∃ e, e ∈ cs ∧ e.c.no = n
  · obtain ⟨e, he, hen⟩ := q
    have e1 := ownC_look sv.ok he
    rw [hen] at e1
    obtain ⟨m, hj⟩ := List.mem_iff_getElem?.mp he
    have hC2 := hC
    rw [ocells_mid hj] at hC
    simp only [ocell] at hC
    walk_at "all"
    have hC := hC2
    refine key (.inl ⟨e, he, hen, rfl, rfl⟩) (hC.sub (by unfold LD; walk_at "lay3") (by walk_at "subs"))
  · have q2 : ∀ e, e ∈ cs → e.c.no ≠ n := fun e he z => q ⟨e, he, z⟩
    have e1 := ownC_none q2
    walk_at "all"
    refine key (.inr ⟨q2, rfl, rfl⟩) (hC.sub (by unfold LD; walk_at "lay3") (by walk_at "subs"))
end
section
variable {K : PySem.W.Frag} {mg : Str → Option Value} {a : Adr} {vs : List V} {B H : Hp} {Q : VK} {E : XK} {L L' F F0 : List (Addr × HO)} {I : List Im}
variable {ps : List PlE} {cs : List CE} {s dd so dx pl pc od lr cd oL : Addr} {qs qc qo qd tbd tbl : Array Value} {i j l : Int} {k : Nat} {N Bk Ct : L2.St → Hp → Prop} {Rt : VK} {v4 v5 v6 v7 v8 v9 v10 v11 v12 : Option V}
abbrev wIm (ps : List PlE) (tbd tbl : Array Value) : List Im := [.dats (tpsP ps) (ps.map PD), .tab (lamq "_law_deed") tbd, .tab (lamq "law") tbl]
def WInv (K : PySem.W.Frag) (a : Adr) (B : Hp) (s dd so dx pc od : Addr) (F0 : List (Addr × HO)) (k : Nat) (σ : L2.St) (H : Hp) : Prop :=
  ∃ (ps : List PlE) (cs : List CE) (pl lr cd : Addr) (i j l : Int) (qs qc qo qd tbd tbl : Array Value) (v4 v5 v6 v7 v8 v9 v10 v11 v12 : Option V),
    σ = [some (.ref s), some (.ref dd), some (.ref so), some (.ref od), v4, v5, v6, v7, v8, v9, v10, v11, v12] ∧
    SV (k : Nat) ps cs ∧ TQ qs qc qo qd ∧ Ctx K B H (LD a dd i j l so dx pl pc ps cs qs qc qo qd tbd od lr cd ((a.tb_law, .tbl tbl) :: F0)) (wIm ps tbd tbl)
theorem win (sv : SV (k : Nat) ps cs) (tq : TQ qs qc qo qd) (hC : Ctx K B H (LD a dd i j l so dx pl pc ps cs qs qc qo qd tbd od lr cd ((a.tb_law, .tbl tbl) :: F0)) (wIm ps tbd tbl)) :
    WInv K a B s dd so dx pc od F0 k [some (.ref s), some (.ref dd), some (.ref so), some (.ref od), v4, v5, v6, v7, v8, v9, v10, v11, v12] H :=
  ⟨ps, cs, pl, lr, cd, i, j, l, qs, qc, qo, qd, tbd, tbl, v4, v5, v6, v7, v8, v9, v10, v11, v12, rfl, sv, tq, hC⟩
theorem set_wait {ps : List PlE} (h : setP "waiting" ps = ps) : ∀ e, e ∈ ps → e.c.st = ("waiting" : Str) := by
  have key : ∀ ps : List PlE, ∀ e, e ∈ setP "waiting" ps → e.c.st = ("waiting" : Str) := by
    intro ps
    induction ps with
    | nil => intro e he; cases he
    | cons f r ih =>
      intro e he
      rcases List.mem_cons.mp (show e ∈ setX (f, "waiting") :: setP (nextW "waiting" f.c.way) r from he) with rfl | he
      · rfl
      · rw [show nextW "waiting" f.c.way = "waiting" from by
          unfold nextW
          split
          · rfl
          · rw [if_neg fun z => absurd z.2 (by decide +kernel)]] at he
        exact ih e he
  intro e he
  rw [← h] at he
  exact key ps e he
theorem st_ok (sv : SV (k : Nat) ps cs) {e : PlE} (he : e ∈ ps) : PyData.strOk e.c.nm = true ∧ PyData.strOk e.c.way = true ∧ PyData.strOk e.c.st = true := by
  have key : ∀ (ps : List PlE) (w : Str), PyData.strOk w = true → ∀ e, e ∈ setP w ps → PyData.strOk e.c.st = true := by
    intro ps
    induction ps with
    | nil => intro w hw e he; cases he
    | cons f r ih =>
      intro w hw e he
      rcases List.mem_cons.mp (show e ∈ setX (f, w) :: setP (nextW w f.c.way) r from he) with rfl | he
      · exact hw
      · refine ih _ ?_ e he
        unfold nextW
        split
        · decide +kernel
        · split
          · decide +kernel
          · exact hw
  have h := sv.nms e he
  refine ⟨?_, ?_, ?_⟩
  · have h1 : ∀ x, x ∈ (["a", "b", "c", "d"] : List Str) → PyData.strOk x = true := by decide +kernel
    exact h1 _ h.1
  · have h1 : ∀ x, x ∈ WAYS → PyData.strOk x = true := by decide +kernel
    exact h1 _ h.2
  · have h1 : e ∈ setP (wst (inB cs)) ps := by rw [sv.set]; exact he
    refine key _ _ ?_ e h1
    unfold wst
    split <;> decide +kernel
theorem sd_ok (sv : SV (k : Nat) ps cs) : Sh 50 (.tuple (ps.map SD)) := ShL.tuple (n := 49) fun d hd => by
  obtain ⟨e, he, rfl⟩ := List.mem_map.mp hd
  have o := st_ok sv he
  exact ShL.tuple (n := 48) (.cons (.str o.1) (.cons (.str o.2.1) (.cons (.str o.2.2) .nil)))
/-- the last: nothing plays aloud in a call -/
theorem tail0_ok (T : Txt K mg a) (sv : SV ((k + 1 : Nat)) ps cs) (hk : k ≤ 84) (tq : TQ qs qc qo qd) (hC : Ctx K B H ((oL, .lst ((opn cs).map fun e => V.int e.c.no)) :: LD a dd i j l so dx pl pc ps cs qs qc qo qd tbd od lr cd ((a.tb_law, .tbl tbl) :: F0)) (wIm ps tbd tbl)) :
    t_law_tail0 K a E ⟨WInv K a B s dd so dx pc od F0 (k + 1), Rt, Bk, Ct⟩ [some (.ref s), some (.ref dd), some (.ref so), some (.ref od), v4, v5, v6, some (.ref cd), v8, some (.ref oL), v10, v11, v12] H := by
  have hpl := sv.plen
  have hol := sv.o2
  have hpl2 : ps.length ≤ 85 := by omega
  have hset := sv.set
  unfold LD wIm at hC
  unfold t_law_tail0
  have busy : ∀ {b : Bool} {H : Hp} {qs qc qo : Array Value} {v8 v10 : Option V}, inB cs = b → TQ qs qc qo qd → Ctx K B H ((oL, .lst ((opn cs).map fun e => V.int e.c.no)) :: LD a dd i j l so dx pl pc ps cs qs qc qo qd tbd od lr cd ((a.tb_law, .tbl tbl) :: F0)) (wIm ps tbd tbl) →
      ∀ {A : VK}, (∀ H', Ctx K B H' (LD a dd i j l so dx pl pc ps cs qs qc qo qd tbd od lr cd ((a.tb_law, .tbl tbl) :: F0)) (wIm ps tbd tbl) → A (.bl b) H') →
      kLc (gName 8) (tTest (tOp (rNeU K) (tOp (rIxU K) (tOp (rIxU K) (tVar 7) (tVar 8)) (tC (.str "state"))) (tC (.str "held")))) (tVar 8) [8] [some (.ref s), some (.ref dd), some (.ref so), some (.ref od), v4, v5, v6, some (.ref cd), v8, some (.ref oL), v10, v11, v12] (fun x H1 => tLst tNil [some (.ref s), some (.ref dd), some (.ref so), some (.ref od), v4, v5, v6, some (.ref cd), v8, some (.ref oL), v10, v11, v12] H1 fun y H2 => rNeU K x y H2 A) (Itl K oL) H := fun {b H qs qc qo v8 v10} hb tq hC {A} kA => by
    unfold LD wIm at hC
    refine lc_pick (es := opn cs) (kf := fun e : CE => V.int e.c.no) (walk_lstE (xs := (opn cs).map fun e => V.int e.c.no) rfl) (fun e => decide (e.c.st ≠ ("held" : Str))) (fun e => V.int e.c.no) (by omega) (fun H1 x hC => SqL.of (hC.get (by walk_at "mem"))) hC (fun i e H1 D vr Zy Zn he hC hy hn => ?_) (fun H bL hC => ?_)
    · have hm : e ∈ cs := (List.mem_filter.mp (List.mem_of_getElem? he)).1
      have e1 := ownC_look sv.ok hm
      obtain ⟨m, hj⟩ := List.mem_iff_getElem?.mp hm
      have hC2 := hC
      rw [ocells_mid hj] at hC
      simp only [ocell] at hC
      simp only [wipe, List.set_cons_zero, List.set_cons_succ]
      walk_at "go"
      refine ⟨rfl, ?_⟩
      by_cases c : e.c.st = ("held" : Str)
      · walk_at "all"
        exact hn _ _ (decide_eq_false fun z => z c) hC2 (fun j hj => hj)
      · walk_at "all"
        exact hy _ _ (decide_eq_true c) hC2 (fun j hj => hj)
    walk_at "go"
    refine s_neInts (ns := ((opn cs).filter fun e => decide (e.c.st ≠ ("held" : Str))).map fun e => e.c.no) (by have q := hC.get (a := bL) (o := .lst (((opn cs).filter fun e => decide (e.c.st ≠ ("held" : Str))).map fun e => V.int e.c.no)) (by walk_at "mem"); rw [List.map_map]; exact q) (hC.get (o := .lst []) (by walk_at "mem")) ?_
    rw [busy_eq sv.ok, hb]
    exact kA _ (hC.sub (by unfold LD; walk_at "lay3") (by walk_at "subs"))
  walk_at "go"
  cases hb : inB cs with
  | true =>
    have hw : ∀ e, e ∈ ps → e.c.st = ("waiting" : Str) := set_wait (by rw [hb] at hset; exact hset)
    refine c_in hC (by unfold PL; walk_at "perm3") sv.ok tq hb (fun qc' H tq hC => ?_)
    unfold PL at hC
    walk_at "go"
    refine c_shown hC (by unfold PL; walk_at "perm3") (by omega) tq (fun qs' t vr H tq hC => ?_)
    unfold PL at hC
    have hvr : TDs K _ vr (ps.map SD) := hC.dats (by walk_at "mem")
    have hvl : vr.length ≤ 90 := by rw [hvr.length, List.length_map]; omega
    walk_at "go"
    refine lc_pick (es := vr) (kf := fun v : V => v) (walk_tupE (xs := vr) (by rw [List.map_id'])) (fun _ => false) (fun v => v) (by omega) (fun H1 x hC => hC.tup (by walk_at "mem")) hC (fun i e H1 D vr2 Zy Zn he hC hy hn => ?_) (fun H bL hC => ?_)
    · have hil : i < ps.length := by
        have := (List.getElem?_eq_some_iff.mp he).1
        rw [hvr.length, List.length_map] at this
        exact this
      obtain ⟨v, hv, td⟩ := TDs_at (d := SD ps[i]) (hC.dats (vs := vr) (ds := ps.map SD) (by walk_at "mem")) (by rw [List.getElem?_map, List.getElem?_eq_getElem hil]; rfl)
      rw [he] at hv
      cases hv
      have hst := hw ps[i] (List.getElem_mem hil)
      generalize ps[i] = e0 at td hst
      cases td with
      | tup sq lt =>
      rename_i t0 xs0
      cases lt with
      | cons a1 lt => cases lt with
        | cons a2 lt => cases lt with
          | cons a3 lt =>
            cases lt; cases a1; cases a2; cases a3
            rw [hst] at sq
            have hC2 := hC
            have hC := hC.add (i := .tup t0 _) sq
            simp only [wipe, List.set_cons_zero, List.set_cons_succ]
            walk_at "go"
            refine ⟨rfl, ?_⟩
            have hno : ¬ (!decide (("waiting" : Str) = "waiting")) = true := by simp
            walk_at "all"
            exact hn _ _ rfl hC2 (fun j hj => hj)
    have hnil : (vr.filter fun _ => false).map (fun v : V => v) = [] := by rw [List.filter_eq_nil_iff.mpr (fun _ _ z => Bool.false_ne_true z)]; rfl
    rw [hnil] at hC
    walk_at "go"
    refine c_in hC (by unfold PL; walk_at "perm3") sv.ok tq hb (fun qc' H tq hC => ?_)
    unfold PL at hC
    walk_at "go"
    refine busy (v8 := v8) (v10 := v10) hb tq (hC.sub (by unfold LD; walk_at "lay3") (by walk_at "subs")) (fun H' hC => ?_)
    walk_at "go"
    exact win sv tq hC
  | false =>
    refine c_in hC (by unfold PL; walk_at "perm3") sv.ok tq hb (fun qc' H tq hC => ?_)
    unfold PL at hC
    walk_at "go"
    refine c_in hC (by unfold PL; walk_at "perm3") sv.ok tq hb (fun qc' H tq hC => ?_)
    unfold PL at hC
    walk_at "go"
    refine busy (v8 := v8) (v10 := v10) hb tq (hC.sub (by unfold LD; walk_at "lay3") (by walk_at "subs")) (fun H' hC => ?_)
    walk_at "go"
    exact win sv tq hC
end
section
variable {K : PySem.W.Frag} {mg : Str → Option Value} {a : Adr} {vs : List V} {B H : Hp} {Q : VK} {E : XK} {L L' F F0 : List (Addr × HO)} {I : List Im}
variable {ps : List PlE} {cs : List CE} {s dd so dx pl pc od lr cd oL : Addr} {qs qc qo qd tbd tbl : Array Value} {i j l : Int} {k : Nat} {N Bk Ct : L2.St → Hp → Prop} {Rt : VK} {v4 v5 v6 v7 v8 v9 v10 v11 v12 : Option V}
theorem nos_tds {es : List CE} : TDs K H (es.map fun e => V.int e.c.no) (es.map fun e => PyData.int e.c.no) := by
  have h := ints_tds (K := K) (H := H) (es.map fun e => e.c.no)
  rw [List.map_map, List.map_map] at h
  exact h
theorem nos_sh {es : List CE} {n : Nat} : ShL n (es.map fun e => PyData.int e.c.no) := fun d hd => by
  obtain ⟨e, _, rfl⟩ := List.mem_map.mp hd
  exact .int _
theorem tail1_ok (T : Txt K mg a) (sv : SV ((k + 1 : Nat)) ps cs) (hk : k ≤ 84) (tq : TQ qs qc qo qd) (hC : Ctx K B H ((oL, .lst ((opn cs).map fun e => V.int e.c.no)) :: LD a dd i j l so dx pl pc ps cs qs qc qo qd tbd od lr cd ((a.tb_law, .tbl tbl) :: F0)) (wIm ps tbd tbl)) :
    t_law_tail1 K a E ⟨WInv K a B s dd so dx pc od F0 (k + 1), Rt, Bk, Ct⟩ [some (.ref s), some (.ref dd), some (.ref so), some (.ref od), v4, v5, v6, some (.ref cd), v8, some (.ref oL), v10, v11, v12] H := by
  have hol := sv.o2
  have hal := sv.a1
  have hol2 : ((opn cs).map fun e => V.int e.c.no).length = (opn cs).length := List.length_map _
  have hal2 : ((act cs).map fun e => V.int e.c.no).length = (act cs).length := List.length_map _
  have c1 : ¬ (2 : Int) < ((((opn cs).map fun e => V.int e.c.no).length : Nat) : Int) := by omega
  have c2 : ¬ (1 : Int) < ((((act cs).map fun e => V.int e.c.no).length : Nat) : Int) := by omega
  unfold LD wIm at hC
  unfold t_law_tail1
  walk_at "go"
  refine c_open hC (by unfold PL; walk_at "perm3") sv.ok tq (fun qo' t H tq hC => ?_)
  unfold PL at hC
  walk_at "go"
  refine s_neSame (d := .tuple ((opn cs).map fun e => PyData.int e.c.no)) (.tup (hC.tup (a := t) (xs := (opn cs).map fun e => V.int e.c.no) (by walk_at "mem")) nos_tds) (.tup (hC.tup (a := tp) (xs := (opn cs).map fun e => V.int e.c.no) (by walk_at "mem")) nos_tds) (ShL.tuple (n := 49) nos_sh) ?_
  walk_at "go"
  refine lc_pick (es := opn cs) (kf := fun e : CE => V.int e.c.no) (walk_lstE (xs := (opn cs).map fun e => V.int e.c.no) rfl) (fun e => decide (e.c.st = ("active" : Str))) (fun e => V.int e.c.no) (by omega) (fun H1 x hC => SqL.of (hC.get (by walk_at "mem"))) hC (fun i e H1 D vr Zy Zn he hC hy hn => ?_) (fun H bL hC => ?_)
  · have hm : e ∈ cs := (List.mem_filter.mp (List.mem_of_getElem? he)).1
    have e1 := ownC_look sv.ok hm
    obtain ⟨m, hj⟩ := List.mem_iff_getElem?.mp hm
    have hC2 := hC
    rw [ocells_mid hj] at hC
    simp only [ocell] at hC
    simp only [wipe, List.set_cons_zero, List.set_cons_succ]
    walk_at "go"
    refine ⟨rfl, ?_⟩
    by_cases c : e.c.st = ("active" : Str)
    · walk_at "all"
      exact hy _ _ (decide_eq_true c) hC2 (fun j hj => hj)
    · walk_at "all"
      exact hn _ _ (decide_eq_false c) hC2 (fun j hj => hj)
  rw [act_of_opn] at hC
  walk_at "go"
  exact tail0_ok T sv hk tq (hC.sub (by unfold LD; walk_at "lay3") (by walk_at "subs"))
theorem tail2_ok (T : Txt K mg a) (sv : SV ((k + 1 : Nat)) ps cs) (hk : k ≤ 84) (tq : TQ qs qc qo qd) (hC : Ctx K B H (LD a dd i j l so dx pl pc ps cs qs qc qo qd tbd od lr cd ((a.tb_law, .tbl tbl) :: F0)) (wIm ps tbd tbl)) :
    t_law_tail2 K a E ⟨WInv K a B s dd so dx pc od F0 (k + 1), Rt, Bk, Ct⟩ [some (.ref s), some (.ref dd), some (.ref so), some (.ref od), v4, v5, v6, some (.ref cd), v8, v9, v10, v11, v12] H := by
  have hcl := sv.len (by omega)
  have hown : (ownC cs).length < 64 := by rw [ownC_len]; omega
  unfold LD wIm at hC
  unfold t_law_tail2
  walk_at "go"
  refine s_srtI2 hC (hC.get (by walk_at "mem")) hown (fun sq H hC => ?_)
  rw [ownC_srt sv.ok] at hC
  walk_at "go"
  refine lc_pick (es := cs) (kf := fun e : CE => V.int e.c.no) (walk_lstE (xs := (cs.map fun e => e.c.no).map V.int) (by rw [List.map_map]; rfl)) (fun e => decide (e.c.st ≠ ("ended" : Str))) (fun e => V.int e.c.no) (by omega) (fun H1 x hC => SqL.of (hC.get (by walk_at "mem"))) hC (fun i e H1 D vr Zy Zn he hC hy hn => ?_) (fun H oL hC => ?_)
  · have e1 := ownC_look sv.ok (List.mem_of_getElem? he)
    have hC2 := hC
    rw [ocells_mid he] at hC
    simp only [ocell] at hC
    simp only [wipe, List.set_cons_zero, List.set_cons_succ]
    walk_at "go"
    refine ⟨rfl, ?_⟩
    by_cases c : e.c.st = ("ended" : Str)
    · walk_at "all"
      exact hn _ _ (decide_eq_false fun z => z c) hC2 (fun j hj => hj)
    · walk_at "all"
      exact hy _ _ (decide_eq_true c) hC2 (fun j hj => hj)
  have hC : Ctx K B H ((oL, .lst ((opn cs).map fun e => V.int e.c.no)) :: _) _ := hC
  walk_at "go"
  exact tail1_ok T sv hk tq (hC.sub (by unfold LD; walk_at "lay3") (by walk_at "subs"))
def NSD (e : CE) : PyData := .tuple [.int e.c.no, .str e.c.st]
theorem nsd_ok (ok : OkC cs) : ShL 50 (cs.map NSD) := fun d hd => by
  obtain ⟨e, he, rfl⟩ := List.mem_map.mp hd
  exact ShL.tuple (n := 49) (.cons (.int _) (.cons (.str (scs_ok (ok.st e he))) .nil))
theorem c_states (hC : Ctx K B H L I) (p : Perm3 L (OL od lr cd ps cs F)) (ok : OkC cs) (hl : ps.length ≤ 200) (h1 : .dats (tpsP ps) (ps.map PD) ∈ I) (hs : setP (wst (inB cs)) ps = ps) (k : ∀ H1 t vr, Ctx K B H1 L (.tup t vr :: .dats vr (ps.map SD) :: I) → Q (.ref t) H1) : sp_law_states K a [.ref od] H Q E :=
  ⟨rfl, od, lr, cd, ps, cs, F, rfl, hC.lay.perm p.lay, ok, hl, hC.dats h1, fun H1 t vr s1 y sq td => k H1 t vr (((hC.moved s1 (y.perm p.lay.symm)).add (i := .dats vr _) (by rw [hs] at td; exact td)).add (i := .tup t _) sq)⟩
theorem tail3_ok (T : Txt K mg a) {x y : V} {d : PyData} (sv : SV ((k + 1 : Nat)) ps cs) (hk : k ≤ 84) (tq : TQ qs qc qo qd) (hx : TD K H x d) (hy : TD K H y d) (hs : Sh 20 d) (hC : Ctx K B H (LD a dd i j l so dx pl pc ps cs qs qc qo qd tbd od lr cd ((a.tb_law, .tbl tbl) :: F0)) (wIm ps tbd tbl)) :
    t_law_tail3 K a E ⟨WInv K a B s dd so dx pc od F0 (k + 1), Rt, Bk, Ct⟩ [some (.ref s), some (.ref dd), some (.ref so), some (.ref od), v4, some x, some y, some (.ref cd), v8, v9, v10, v11, v12] H := by
  have hpl := sv.plen
  have hcl := sv.len (by omega)
  have hown : (ownC cs).length < 64 := by rw [ownC_len]; omega
  unfold LD wIm at hC
  unfold t_law_tail3
  walk_at "go"
  refine s_neSame (d := d) hx hy (hs.mono (by decide)) ?_
  walk_at "go"
  refine c_shown hC (by unfold PL; walk_at "perm3") (by omega) tq (fun qs' t vr H tq hC => ?_)
  unfold PL at hC
  walk_at "go"
  refine c_states hC (by unfold OL; walk_at "perm3") sv.ok (by omega) (by walk_at "mem") sv.set (fun H t2 vr2 hC => ?_)
  refine s_neSame (d := .tuple (ps.map SD)) (.tup (hC.tup (a := t) (xs := vr) (by walk_at "mem")) (hC.dats (vs := vr) (ds := ps.map SD) (by walk_at "mem"))) (.tup (hC.tup (a := t2) (xs := vr2) (by walk_at "mem")) (hC.dats (vs := vr2) (ds := ps.map SD) (by walk_at "mem"))) (sd_ok sv) ?_
  walk_at "go"
  refine s_srtI2 hC (hC.get (by walk_at "mem")) hown (fun sq H hC => ?_)
  rw [ownC_srt sv.ok] at hC
  walk_at "go"
  refine lc_read (es := cs) (kf := fun e : CE => V.int e.c.no) (walk_lstE (xs := (cs.map fun e => e.c.no).map V.int) (by rw [List.map_map]; rfl)) (fun _ => true) NSD (by omega) (fun H1 x hC => SqL.of (hC.get (by walk_at "mem"))) hC (fun i e H1 D vr Zy Zn he hC hy hn => ?_) (fun H D1 vr3 hC => ?_)
  · have hC2 := hC
    simp only [wipe, List.set_cons_zero, List.set_cons_succ]
    walk_at "go"
    refine ⟨rfl, ?_⟩
    walk_at "go"
    refine c_call hC (by unfold PL; walk_at "perm3") sv.ok (List.mem_of_getElem? he) rfl ?_
    rw [ccells_mid he] at hC
    simp only [ccell] at hC
    walk_at "go"
    have ht : TD K H (.ref tp) (NSD e) := .tup (hC.tup (by walk_at "mem")) (.cons (.int _) (.cons (.str _) .nil))
    exact hy _ _ _ rfl (by rw [ccells_mid he]; exact hC) (fun j hj => List.mem_cons_of_mem _ hj) ht
  walk_at "go"
  refine s_srtI2 hC (hC.get (by walk_at "mem")) hown (fun sq2 H hC => ?_)
  rw [ownC_srt sv.ok] at hC
  walk_at "go"
  refine lc_read (es := cs) (kf := fun e : CE => V.int e.c.no) (walk_lstE (xs := (cs.map fun e => e.c.no).map V.int) (by rw [List.map_map]; rfl)) (fun _ => true) NSD (by omega) (fun H1 x hC => SqL.of (hC.get (by walk_at "mem"))) hC (fun i e H1 D vr Zy Zn he hC hy hn => ?_) (fun H D2 vr4 hC => ?_)
  · have e1 := ownC_look sv.ok (List.mem_of_getElem? he)
    rw [ocells_mid he] at hC
    simp only [ocell] at hC
    simp only [wipe, List.set_cons_zero, List.set_cons_succ]
    walk_at "go"
    refine ⟨rfl, ?_⟩
    walk_at "go"
    have ht : TD K H (.ref tp) (NSD e) := .tup (hC.tup (by walk_at "mem")) (.cons (.int _) (.cons (.str _) .nil))
    exact hy _ _ _ rfl (by rw [ocells_mid he]; exact hC) (fun j hj => List.mem_cons_of_mem _ hj) ht
  have hd1 := hC.dats (vs := vr3) (ds := (cs.filter fun _ => true).map NSD) (by walk_at "mem")
  have hd2 := hC.dats (vs := vr4) (ds := (cs.filter fun _ => true).map NSD) (by walk_at "mem")
  rw [show (cs.filter fun _ => true) = cs from List.filter_eq_self.mpr fun _ _ => rfl] at hd1 hd2
  refine s_neSameL (hC.get (by walk_at "mem")) (hC.get (by walk_at "mem")) hd1 hd2 (nsd_ok sv.ok) ?_
  walk_at "go"
  exact tail2_ok T sv hk tq (hC.sub (by unfold LD; walk_at "lay3") (by walk_at "subs"))
theorem tds_hd {x : V} {d : PyData} (h : TDs K H [x] [d]) : TD K H x d := by cases h; assumption
theorem c_deed {k : Int} (hC : Ctx K B H L I) (p : Perm3 L (LD a dd i j l so dx pl pc ps cs qs qc qo qd tbd od lr cd F)) (sv : SV k ps cs) (k1 : k ≤ 85) (tq : TQ qs qc qo qd) (h1 : .dats (tpsP ps) (ps.map PD) ∈ I) (h3 : .tab (lamq "_law_deed") tbd ∈ I)
    (kk : ∀ H1 p x y d pl' lp' cd' i' j' l' ps' cs' qs' qc' qo' qd' tbd', SV (k + 1) ps' cs' → TQ qs' qc' qo' qd' → Ctx K B H1 (LD a dd i' j' l' so dx pl' pc ps' cs' qs' qc' qo' qd' tbd' od lp' cd' F) (.tup p [x, y] :: .dats [x] [d] :: .dats [y] [d] :: .dats (tpsP ps') (ps'.map PD) :: .tab (lamq "_law_deed") tbd' :: I) → Sh 20 d → Q (.ref p) H1) :
    sp_law_deed K a [.ref dd, .ref od, .ref so] H Q E :=
  ⟨rfl, dd, so, dx, pl, pc, od, lr, cd, i, j, l, k, ps, cs, qs, qc, qo, qd, tbd, F, rfl, hC.lay.perm p.lay, sv, k1, tq, hC.dats h1, hC.tab h3,
    fun H1 q x y d pl' lp' cd' i' j' l' ps' cs' qs' qc' qo' qd' tbd' s1 sv' lay tq' d1 tab sq hx hy hs =>
      kk H1 q x y d pl' lp' cd' i' j' l' ps' cs' qs' qc' qo' qd' tbd' sv' tq' ((((((hC.moved s1 lay).add (i := .tab _ tbd') tab).add (i := .dats (tpsP ps') _) d1).add (i := .dats [y] [d]) (.cons hy .nil)).add (i := .dats [x] [d]) (.cons hx .nil)).add (i := .tup q _) sq) hs⟩
theorem for4_ok (T : Txt K mg a) (sv : SV (k : Nat) ps cs) (hk : k ≤ 84) (tq : TQ qs qc qo qd) (hC : Ctx K B H (LD a dd i j l so dx pl pc ps cs qs qc qo qd tbd od lr cd ((a.tb_law, .tbl tbl) :: F0)) (wIm ps tbd tbl)) :
    t_law_for4 K a E ⟨WInv K a B s dd so dx pc od F0 (k + 1), Rt, Bk, Ct⟩ [some (.ref s), some (.ref dd), some (.ref so), some (.ref od), v4, v5, v6, v7, v8, v9, v10, v11, v12] H := by
  unfold t_law_for4
  walk_at "go"
  refine c_deed (F := (a.tb_law, .tbl tbl) :: F0) hC (by unfold LD; walk_at "perm3") sv (by omega) tq (by unfold wIm; walk_at "mem") (by unfold wIm; walk_at "mem") (fun H p x y d pl lr cd i j l ps cs qs qc qo qd tbd sv tq hC hs => ?_)
  unfold LD wIm at hC
  walk_at "go"
  exact tail3_ok T sv hk tq (tds_hd (hC.dats (vs := [x]) (ds := [d]) (by walk_at "mem"))) (tds_hd (hC.dats (vs := [y]) (ds := [d]) (by walk_at "mem"))) hs (hC.sub (by unfold LD; walk_at "lay3") (by walk_at "subs"))
end
section
variable {K : PySem.W.Frag} {mg : Str → Option Value} {a : Adr} {vs : List V} {B H : Hp} {Q : VK} {E : XK} {L L' F F0 : List (Addr × HO)} {I : List Im}
variable {ps : List PlE} {cs : List CE} {s dd so dx pl pc od lr cd oL : Addr} {qs qc qo qd tbd tbl : Array Value} {i j l : Int} {k : Nat} {N Bk Ct : L2.St → Hp → Prop} {Rt : VK} {v4 v5 v6 v7 v8 v9 v10 v11 v12 : Option V}
inductive S0 (s : Addr) : L2.St → Prop
  | mk {x1 x2 x3 x4 x5 x6 x7 x8 x9 x10 x11 x12 : Option V} : S0 s [some (.ref s), x1, x2, x3, x4, x5, x6, x7, x8, x9, x10, x11, x12]
inductive SDd (s d : Addr) : L2.St → Prop
  | mk {x2 x3 x4 x5 x6 x7 x8 x9 x10 x11 x12 : Option V} : SDd s d [some (.ref s), some (.ref d), x2, x3, x4, x5, x6, x7, x8, x9, x10, x11, x12]
abbrev tabs (a : Adr) (qs qc qo qd tbd tbl : Array Value) (F : List (Addr × HO)) : List (Addr × HO) := (a.tb_Sounds_shown, .tbl qs) :: (a.tb_Sounds_in_call, .tbl qc) :: (a.tb_Sounds_open_calls, .tbl qo) :: (a.tb_Sounds_dial, .tbl qd) :: (a.tb_law_deed, .tbl tbd) :: (a.tb_law, .tbl tbl) :: F
theorem okc0 : OkC [] := ⟨by decide, List.Pairwise.nil, (fun _ h => by cases h), (fun _ h => by cases h), (fun _ h => by cases h)⟩
theorem SV.zero : SV (0 : Nat) [] [] where
  ok := okc0
  nms := fun _ h => by cases h
  set := rfl
  plen := by decide
  o2 := by decide
  a1 := by decide
  cnt := by decide
theorem lay_appR' {L F : List (Addr × HO)} (y : Lay H (L ++ F)) : Lay H F := y.subl (List.sublist_append_right L F)
theorem tab0 {H : Hp} {q : Str} : TabOK q #[] H := ⟨True.intro, fun pos cv hc => by
  have z : codeAmong pos [] = some cv := hc
  simp [codeAmong] at z⟩
theorem for5_ok {H0 : Hp} {A : L2.St → Hp → Prop} {Rt : VK} {σ : L2.St} (T : Txt K mg a) (y : Lay H0 ((dd, .lst [.int i, .int j, .int l]) :: tabs a qs qc qo qd tbd tbl F0)) (tq : TQ qs qc qo qd) (r1 : TabOK (lamq "_law_deed") tbd H0) (r2 : TabOK (lamq "law") tbl H0) (hs : SDd s dd σ)
    (k : ∀ σ' qs qc qo qd tbd tbl H', S0 s σ' → Lay H' (tabs a qs qc qo qd tbd tbl F0) → TQ qs qc qo qd → TabOK (lamq "_law_deed") tbd H' → TabOK (lamq "law") tbl H' → A σ' H') :
    t_law_for5 K a E ⟨A, Rt, Bk, Ct⟩ σ H0 := by
  have hC := ((Ctx.start (K := K) y).add (i := .tab (lamq "law") tbl) r2).add (i := .tab (lamq "_law_deed") tbd) r1
  cases hs with
  | mk =>
  unfold tabs at hC
  unfold t_law_for5
  walk_at "go"
  rename_i oD g4 g3 g2 g1 g0
  have y2 : Lay H ((dd, .lst [.int di, .int dj, .int dl]) :: (mx, .ins a.c_Sounds mdx [("players", .ref pl), ("calls", .ref pc), ("count", .int 0)]) :: (pl, .lst []) :: (pc, .dK []) ::
    (a.tb_Sounds_shown, .tbl qs) :: (a.tb_Sounds_in_call, .tbl qc) :: (a.tb_Sounds_open_calls, .tbl qo) :: (a.tb_Sounds_dial, .tbl qd) :: (a.tb_law_deed, .tbl tbd) ::
    (oD, .dK [(.inr "players", .ref lp), (.inr "calls", .ref dp)]) :: (lp, .lst []) :: (dp, .dK []) :: (a.tb_law, .tbl tbl) :: F0) := by walk_at "lay3"
  have hC := hC.add (i := .dats (tpsP []) (([] : List PlE).map PD)) TDs.nil
  refine for_rng (n := rr.toNat) (fun n σ H1 => WInv K a H0 s dd mx mdx pc oD F0 n σ H1) ?_ ?_ ?_
  · exact win (ps := []) (cs := []) (lr := lp) (cd := dp) SV.zero tq (hC.sub (show Lay H (LD a dd di dj dl mx mdx pl pc [] [] qs qc qo qd tbd oD lp dp ((a.tb_law, .tbl tbl) :: F0)) from y2) (by unfold wIm; walk_at "subs"))
  · rintro n σ H1 hn ⟨ps, cs, pl, lr, cd, i, j, l, qs, qc, qo, qd, tbd, tbl, v4, v5, v6, v7, v8, v9, v10, v11, v12, rfl, sv, tq, hC⟩
    refine s_name (SetAt.there (SetAt.there (SetAt.there (SetAt.there SetAt.here)))) ?_
    exact for4_ok T sv (by omega) tq hC
  · rintro σ H1 ⟨ps, cs, pl, lr, cd, i, j, l, qs, qc, qo, qd, tbd, tbl, v4, v5, v6, v7, v8, v9, v10, v11, v12, rfl, sv, tq, hC⟩
    refine k _ qs qc qo qd tbd tbl H1 S0.mk ?_ tq (hC.tab (by unfold wIm; walk_at "mem")) (hC.tab (by unfold wIm; walk_at "mem"))
    unfold LD at hC
    unfold tabs
    walk_at "lay3"
theorem newS {mx mdx : Addr} (hC : Ctx K B H L I) (y : Lay H ((mx, .ins a.c_Sounds mdx [("players", .ref pl), ("calls", .ref pc), ("count", .int 0)]) :: (pl, .lst []) :: (pc, .dK []) :: (a.tb_Sounds_shown, .tbl qs) :: (a.tb_Sounds_in_call, .tbl qc) :: (a.tb_Sounds_open_calls, .tbl qo) :: (a.tb_Sounds_dial, .tbl qd) :: F)) : Ctx K B H (PL a mx mdx pl pc [] [] qs qc qo qd F) I := ⟨y, hC.im, hC.sb⟩
abbrev imL (f c : Addr) (q : Str) (d : LamD) : Im := .pr (fun H => H f = some (LamO f c q d.ps d.body d.sc)) (fun _ _ s h => s _ _ h rfl)
abbrev imC (c : Addr) (q : Str) : Im := .pr (fun H => H c = some (LamX.CodeO c q)) (fun _ _ s h => s _ _ h rfl)
theorem pure_law (T : Txt K mg a) (h : sp_law K a vs H Q E) : t_law K a E { nx := fun _ H' => Q .non H', rt := Q } (L2.start N_law vs) H := by
  obtain ⟨_, s, ns, rfl, hs, y0, k⟩ := h
  unfold t_law
  walk_at "start"
  walk_at "go"
  refine ⟨rfl, s, 1, ns, _, rfl, hs, y0, by decide, by decide, fun p ds H1 s1 y => ?_⟩
  have hC := Ctx.start (K := K) y
  walk_at "go"
  refine for_lst (xs := ds.map fun d => V.ref d.1) (fun t σ H => ∃ (es : List (Addr × Int × Int × Int)) (qs qc qo qd tbd tbl : Array Value), S0 s σ ∧
      es.map (fun d => V.ref d.1) = (ds.map fun d => V.ref d.1).drop t ∧ Lay H ((p, .lst (ds.map fun d => V.ref d.1)) :: (DL es ++ tabs a qs qc qo qd tbd tbl [])) ∧ TQ qs qc qo qd ∧ TabOK (lamq "_law_deed") tbd H ∧ TabOK (lamq "law") tbl H)
    ⟨ds, #[], #[], #[], #[], #[], #[], S0.mk, rfl, y, ⟨True.intro, True.intro, True.intro, True.intro⟩, tab0, tab0⟩ ?_ ?_ ?_
  · rintro t σ H ht ⟨es, qs, qc, qo, qd, tbd, tbl, hs, he, y, r, r1, r2⟩
    exact y.get List.mem_cons_self
  · rintro t x σ H hx ⟨es, qs, qc, qo, qd, tbd, tbl, hs, he, y, r, r1, r2⟩
    cases hs with
    | mk =>
    obtain ⟨hlt, hx⟩ := List.getElem?_eq_some_iff.mp hx
    rw [List.drop_eq_getElem_cons hlt, hx] at he
    cases es with
    | nil => cases he
    | cons e es =>
      rw [List.map_cons] at he
      obtain ⟨rfl, he2⟩ := List.cons.inj he
      obtain ⟨d, i, j, l⟩ := e
      walk_at "go"
      have y1 : Lay H ((d, .lst [.int i, .int j, .int l]) :: tabs a qs qc qo qd tbd tbl ((p, .lst (ds.map fun d => V.ref d.1)) :: DL es)) := by
        refine y.perm ?_
        show (_ :: ((d, _) :: (DL es ++ [_, _, _, _, _, _]))).Perm _
        refine (List.Perm.swap _ _ _).trans (List.Perm.cons _ ?_)
        exact (List.perm_append_comm (l₁ := (p, HO.lst (ds.map fun d => V.ref d.1)) :: DL es) (l₂ := tabs a qs qc qo qd tbd tbl []))
      exact for5_ok (E := E) T y1 r r1 r2 SDd.mk (fun σ' qs' qc' qo' qd' tbd' tbl' H' hs' y' r' r1' r2' => ⟨es, qs', qc', qo', qd', tbd', tbl', hs', he2, y'.perm (show (tabs a qs' qc' qo' qd' tbd' tbl' [] ++ ((p, HO.lst (ds.map fun d => V.ref d.1)) :: DL es)).Perm (((p, HO.lst (ds.map fun d => V.ref d.1)) :: DL es) ++ tabs a qs' qc' qo' qd' tbd' tbl' []) from List.perm_append_comm), r', r1', r2'⟩)
  · rintro σ H ⟨es, qs, qc, qo, qd, tbd, tbl, hs, he, y, r, r1, r2⟩
    cases hs with
    | mk =>
    have y := lay_appR' (L := _ :: DL es) y
    have hC := ((Ctx.start (K := K) y).add (i := .tab (lamq "law") tbl) r2).add (i := .tab (lamq "_law_deed") tbd) r1
    unfold tabs at hC
    clear y y0 hs s1 he
    unfold t_law_tail7
    walk_at "go"
    unfold t_law_tail6
    walk_at "go"
    rename_i f3 c3 t3 g3 f2 c2 t2 g2 f1 c1 t1 g1 g0
    have hC := hC.rebase
    refine lc_w (walk_list (xs := [V.ref f3, V.ref f2, V.ref f1, V.ref lf])) hC (fun D i H1 => ∃ qs qc qo qd, TQ qs qc qo qd ∧ Ctx K H H1 ((D, .lst []) :: (lp, .lst [V.ref f3, V.ref f2, V.ref f1, V.ref lf]) :: (a.tb_Sounds_shown, .tbl qs) :: (a.tb_Sounds_in_call, .tbl qc) :: (a.tb_Sounds_open_calls, .tbl qo) :: (a.tb_Sounds_dial, .tbl qd) :: []) [imL f3 c3 (lamq "law") D_law_3, imC c3 (lamq "law"), imL f2 c2 (lamq "law") D_law_2, imC c2 (lamq "law"), imL f1 c1 (lamq "law") D_law_1, imC c1 (lamq "law"), imL lf lc (lamq "law") D_law_0, imC lc (lamq "law")]) ?_ ?_ ?_ ?_
    · intro D H1 hC
      exact ⟨_, _, _, _, r, hC.sub (by walk_at "lay3") (by walk_at "subs")⟩
    · rintro D i H1 hi ⟨qs, qc, qo, qd, tq, hC⟩
      exact SqL.of (hC.get (by walk_at "mem"))
    · rintro i x D H1 H2 hi ⟨qs, qc, qo, qd, tq, hC⟩ ⟨rfl, hx⟩
      rcases i with _ | _ | _ | _ | i
      · cases hx
        simp only [wipe, List.set_cons_zero, List.set_cons_succ]
        walk_at "go"
        refine ⟨rfl, ?_⟩
        walk_at "go"
        refine s_toldV f3 c3 3 D_law_3 rfl rfl (hC.pr (P := fun H => H f3 = some (LamO f3 c3 (lamq "law") D_law_3.ps D_law_3.body D_law_3.sc)) (by walk_at "mem")) (hC.pr (P := fun H => H c3 = some (LamX.CodeO c3 (lamq "law"))) (by walk_at "mem")) ?_
        refine te_eq TF_law_3 ?_
        walk_at "go"
        have hC := newS (F := (D, .lst []) :: (lp, .lst [V.ref f3, V.ref f2, V.ref f1, V.ref lf]) :: []) hC (by walk_at "lay3")
        refine c_callF hC (by unfold PL; walk_at "perm3") okc0 (fun _ h => by cases h) (fun H hC => ?_)
        unfold PL at hC
        walk_at "all"
        exact ⟨_, _, _, _, tq, hC.sub (by walk_at "lay3") (by walk_at "subs")⟩
      · cases hx
        simp only [wipe, List.set_cons_zero, List.set_cons_succ]
        walk_at "go"
        refine ⟨rfl, ?_⟩
        walk_at "go"
        refine s_toldV f2 c2 2 D_law_2 rfl rfl (hC.pr (P := fun H => H f2 = some (LamO f2 c2 (lamq "law") D_law_2.ps D_law_2.body D_law_2.sc)) (by walk_at "mem")) (hC.pr (P := fun H => H c2 = some (LamX.CodeO c2 (lamq "law"))) (by walk_at "mem")) ?_
        refine te_eq TF_law_2 ?_
        walk_at "go"
        have hC := newS (F := (D, .lst []) :: (lp, .lst [V.ref f3, V.ref f2, V.ref f1, V.ref lf]) :: []) hC (by walk_at "lay3")
        rw [show sp_Sounds_end K a = spNo K a endB (fun n => oneC n "ended") from rfl]
        refine c_noF (g := endB) (f := fun n => oneC n "ended") hC (by unfold PL; walk_at "perm3") okc0 (by decide) tq rfl (fun H qo' tq hC => ?_)
        unfold PL at hC
        walk_at "all"
        exact ⟨_, _, _, _, tq, hC.sub (by walk_at "lay3") (by walk_at "subs")⟩
      · cases hx
        simp only [wipe, List.set_cons_zero, List.set_cons_succ]
        walk_at "go"
        refine ⟨rfl, ?_⟩
        walk_at "go"
        refine s_toldV f1 c1 1 D_law_1 rfl rfl (hC.pr (P := fun H => H f1 = some (LamO f1 c1 (lamq "law") D_law_1.ps D_law_1.body D_law_1.sc)) (by walk_at "mem")) (hC.pr (P := fun H => H c1 = some (LamX.CodeO c1 (lamq "law"))) (by walk_at "mem")) ?_
        refine te_eq TF_law_1 ?_
        walk_at "go"
        have hC := newS (F := (D, .lst []) :: (lp, .lst [V.ref f3, V.ref f2, V.ref f1, V.ref lf]) :: []) hC (by walk_at "lay3")
        refine c_swapF hC (by unfold PL; walk_at "perm3") okc0 tq (by decide +kernel) (fun H qo' tq hC => ?_)
        unfold PL at hC
        walk_at "all"
        exact ⟨_, _, _, _, tq, hC.sub (by walk_at "lay3") (by walk_at "subs")⟩
      · cases hx
        simp only [wipe, List.set_cons_zero, List.set_cons_succ]
        walk_at "go"
        refine ⟨rfl, ?_⟩
        walk_at "go"
        refine s_toldV lf lc 0 D_law_0 rfl rfl (hC.pr (P := fun H => H lf = some (LamO lf lc (lamq "law") D_law_0.ps D_law_0.body D_law_0.sc)) (by walk_at "mem")) (hC.pr (P := fun H => H lc = some (LamX.CodeO lc (lamq "law"))) (by walk_at "mem")) ?_
        refine te_eq TF_law_0 ?_
        walk_at "go"
        have hC := newS (F := (D, .lst []) :: (lp, .lst [V.ref f3, V.ref f2, V.ref f1, V.ref lf]) :: []) hC (by walk_at "lay3")
        refine c_playx hC (by unfold PL; walk_at "perm3") okc0 (by decide) tq (by decide +kernel) (fun H hC => ?_)
        unfold PL at hC
        walk_at "all"
        exact ⟨_, _, _, _, tq, hC.sub (by walk_at "lay3") (by walk_at "subs")⟩
      · cases hx
    · rintro D H1 ⟨qs, qc, qo, qd, tq, hC⟩
      walk_at "all"
      · exact k _
      · exact absurd (if_pos rfl) (by assumption)
end
end Wk
namespace Wk
open PySem PySem.Spec PyProof.Rows L2 Ph
open LamX (TTold told_gives lamS_by TabB)
section
variable {P : Program} {w : World} {K : PySem.W.Frag} {mg : Str → Option Value} {base : Heap} {a : Adr}
theorem ok_Player__init (T : Txt K mg a) : FnOk P w K mg base (L2.CX P w) 1 a.f_Player__init a.fd_Player__init ["self", "app", "ask"] (sp_Player__init K a) := by
  refine FunD.ok T.fn_Player__init sc_Player__init (fun _ _ _ _ h => h.1) (fun cdv A outer s H vs Q E hr h => ⟨t_Player__init K a E, ?_, pure_Player__init T h⟩)
  have hu := hr.units
  exact (pss_cons (ps_fld (pv 0) (pv 1) rfl) (pss_cons (ps_fld (pv 0) (pv 2) rfl) (pss_one (ps_fld (pv 0) pe_str rfl))))
theorem ok_Call__init (T : Txt K mg a) : FnOk P w K mg base (L2.CX P w) 1 a.f_Call__init a.fd_Call__init ["self", "number", "other", "came"] (sp_Call__init K a) := by
  refine FunD.ok T.fn_Call__init sc_Call__init (fun _ _ _ _ h => h.1) (fun cdv A outer s H vs Q E hr h => ⟨t_Call__init K a E, ?_, pure_Call__init T h⟩)
  have hu := hr.units
  exact (pss_cons (ps_fld (pv 0) (pv 1) rfl) (pss_cons (ps_fld (pv 0) (pv 2) rfl) (pss_cons (ps_fld (pv 0) (pv 3) rfl) (pss_one (ps_fld (pv 0) (pe_ifExp (pt_tru (pv 3)) pe_str pe_str) rfl)))))
theorem ok_Sounds__init (T : Txt K mg a) : FnOk P w K mg base (L2.CX P w) 1 a.f_Sounds__init a.fd_Sounds__init ["self"] (sp_Sounds__init K a) := by
  refine FunD.ok T.fn_Sounds__init sc_Sounds__init (fun _ _ _ _ h => h.1) (fun cdv A outer s H vs Q E hr h => ⟨t_Sounds__init K a E, ?_, pure_Sounds__init T h⟩)
  have hu := hr.units
  exact (pss_cons (ps_fld (pv 0) (pe_lst pa_nil) rfl) (pss_cons (ps_fld (pv 0) pe_dnewK rfl) (pss_one (ps_fld (pv 0) pe_int rfl))))
theorem ok_Sounds_shown (T : Txt K mg a) (TB_Sounds_shown : TabB base mg a.cc_Sounds_shown a.tb_Sounds_shown) : FnOk P w K mg base (L2.CX P w) 8 a.f_Sounds_shown a.fd_Sounds_shown ["self"] (sp_Sounds_shown K a) := by
  refine FunD.okC T.fn_Sounds_shown sc_Sounds_shown (fun _ _ _ _ h => h.1) (fun cdv A outer s H vs Q E hr hcc h => ⟨t_Sounds_shown K a E, ?_, pure_Sounds_shown T h⟩)
  have hu := hr.units
  have hcode : cdv = .ref a.cc_Sounds_shown := hcc.symm.trans T.cd_Sounds_shown
  subst hcode
  have HR7 := hr.mono (show 7 ≤ 7 by decide)
  exact (pss_one (ps_ret (pe_tupX (own := [("one", 1)]) (g := (gName 1)) (tt := tYes) (GenP.mk HR7 rfl sc_Sounds_shown.nd (tabG TB_Sounds_shown) rfl (gensx_by (by decide +kernel)) (pi_list (pe_fld (pv 0) rfl)) (blkOk_by (N := N_Sounds_shown) (sc := defScope s_Sounds_shown) (by decide +kernel)) (fun _ _ _ _ _ _ _ hrg => (pg_name (i := 1) sc_Sounds_shown.nd rfl (by first | exact Or.inl rfl | exact Or.inr rfl))) (fun _ _ _ _ _ _ _ hrg => pts_nil) (fun _ _ _ _ _ _ _ hrg => (pe_tup (pa_cons (pe_fld (pv 1) rfl) (pa_cons (pe_fld (pv 1) rfl) (pa_cons (pe_fld (pv 1) rfl) pa_nil))))) (fun _ => rfl)) rfl T.no_tuple)))
theorem ok_Sounds_play (T : Txt K mg a) (G_Player__init : FnOk P w K mg base (L2.CX P w) 1 a.f_Player__init a.fd_Player__init ["self", "app", "ask"] (sp_Player__init K a)) (G_Sounds_in_call : FnOk P w K mg base (L2.CX P w) 8 a.f_Sounds_in_call a.fd_Sounds_in_call ["self"] (sp_Sounds_in_call K a)) (G_Sounds_settle : FnOk P w K mg base (L2.CX P w) 9 a.f_Sounds_settle a.fd_Sounds_settle ["self"] (sp_Sounds_settle K a)) : FnOk P w K mg base (L2.CX P w) 10 a.f_Sounds_play a.fd_Sounds_play ["self", "app", "ask"] (sp_Sounds_play K a) := by
  refine FunD.ok T.fn_Sounds_play sc_Sounds_play (fun _ _ _ _ h => h.1) (fun cdv A outer s H vs Q E hr h => ⟨t_Sounds_play K a E, ?_, pure_Sounds_play T h⟩)
  have hu := hr.units
  have hm_Player__init := hr.mono (show 2 ≤ 9 by decide)
  have hr_Sounds_in_call := hr.mono (show 8 ≤ 9 by decide)
  have hr_Sounds_settle := hr.mono (show 9 ≤ 9 by decide)
  exact (pss_cons (ps_if (pt_cmpR (u_notinV hu) (pv 2) (pe_glob rfl T.gl_ASKS rfl) (by rfl)) (pss_one (ps_raise rfl (takes_of rfl rfl rfl rfl) (pmk_own PySem.F.excBase_ValueError T.xc_SoundFault T.mgc_SoundFault T.kc_SoundFault (raises_own T.bc_SoundFault T.tc_SoundFault) (by rfl)))) pss_nil) (pss_cons (ps_if (pt_tru (pe_meth0 (pv 0) T.cl_Sounds T.me_Sounds_in_call G_Sounds_in_call hr_Sounds_in_call T.bi_Sounds_in_call .nil passX)) (pss_one (ps_ret pe_bl)) pss_nil) (pss_cons (ps_fld (pv 0) (pe_lc (own := [("one", 3)]) (g := (gName 3)) (tt := (tTest (tOp (rNeU K) (tFld K (tVar 3) "app") (tVar 1)))) rfl sc_Sounds_play.nd (pi_list (pe_fld (pv 0) rfl)) (blkOk_by (N := N_Sounds_play) (sc := defScope s_Sounds_play) (by decide +kernel)) (fun _ _ _ _ _ => (pg_name (i := 3) sc_Sounds_play.nd rfl (by first | exact Or.inl rfl | exact Or.inr rfl))) (fun _ _ _ _ _ => (pts_one (pt_cmpR (u_ne hu) (pe_fld (pv 3) rfl) (pv 1) (nomark _)))) (fun _ _ _ _ _ => (pv 3))) rfl) (pss_cons (ps_if (pt_cmpR (u_eq hu) (pv 2) pe_str (nomark _)) (pss_one (ps_fld (pv 0) (pe_lst pa_nil) rfl)) pss_nil) (pss_cons (ps_fld (pv 0) (pe_op u_add (pe_lst (pa_cons (pe_make T.mk_Player G_Player__init hm_Player__init rfl T.mgc_Player T.bi_Player__init .nil passX (pa_cons (pv 1) (pa_cons (pv 2) pa_nil))) pa_nil)) (pe_fld (pv 0) rfl)) rfl) (pss_cons (ps_expr (pe_meth0 (pv 0) T.cl_Sounds T.me_Sounds_settle G_Sounds_settle hr_Sounds_settle T.bi_Sounds_settle .nil passX)) (pss_one (ps_ret pe_bl))))))))
theorem ok_Sounds_stop (T : Txt K mg a) (G_Sounds_settle : FnOk P w K mg base (L2.CX P w) 9 a.f_Sounds_settle a.fd_Sounds_settle ["self"] (sp_Sounds_settle K a)) : FnOk P w K mg base (L2.CX P w) 10 a.f_Sounds_stop a.fd_Sounds_stop ["self", "app"] (sp_Sounds_stop K a) := by
  refine FunD.ok T.fn_Sounds_stop sc_Sounds_stop (fun _ _ _ _ h => h.1) (fun cdv A outer s H vs Q E hr h => ⟨t_Sounds_stop K a E, ?_, pure_Sounds_stop T h⟩)
  have hu := hr.units
  have hr_Sounds_settle := hr.mono (show 9 ≤ 9 by decide)
  exact (pss_cons (ps_fld (pv 0) (pe_lc (own := [("one", 2)]) (g := (gName 2)) (tt := (tTest (tOp (rNeU K) (tFld K (tVar 2) "app") (tVar 1)))) rfl sc_Sounds_stop.nd (pi_list (pe_fld (pv 0) rfl)) (blkOk_by (N := N_Sounds_stop) (sc := defScope s_Sounds_stop) (by decide +kernel)) (fun _ _ _ _ _ => (pg_name (i := 2) sc_Sounds_stop.nd rfl (by first | exact Or.inl rfl | exact Or.inr rfl))) (fun _ _ _ _ _ => (pts_one (pt_cmpR (u_ne hu) (pe_fld (pv 2) rfl) (pv 1) (nomark _)))) (fun _ _ _ _ _ => (pv 2))) rfl) (pss_one (ps_expr (pe_meth0 (pv 0) T.cl_Sounds T.me_Sounds_settle G_Sounds_settle hr_Sounds_settle T.bi_Sounds_settle .nil passX))))
theorem ok_Sounds_settle (T : Txt K mg a) (G_Sounds_in_call : FnOk P w K mg base (L2.CX P w) 8 a.f_Sounds_in_call a.fd_Sounds_in_call ["self"] (sp_Sounds_in_call K a)) : FnOk P w K mg base (L2.CX P w) 9 a.f_Sounds_settle a.fd_Sounds_settle ["self"] (sp_Sounds_settle K a) := by
  refine FunD.ok T.fn_Sounds_settle sc_Sounds_settle (fun _ _ _ _ h => h.1) (fun cdv A outer s H vs Q E hr h => ⟨t_Sounds_settle K a E, ?_, pure_Sounds_settle T h⟩)
  have hu := hr.units
  have hr_Sounds_in_call := hr.mono (show 8 ≤ 8 by decide)
  exact (pss_cons (ps_set (i := 1) sc_Sounds_settle.nd rfl (by first | exact Or.inl rfl | exact Or.inr rfl) (pe_ifExp (pt_tru (pe_meth0 (pv 0) T.cl_Sounds T.me_Sounds_in_call G_Sounds_in_call hr_Sounds_in_call T.bi_Sounds_in_call .nil passX)) pe_str pe_str)) (pss_one (ps_for (passes_of rfl) rfl (pi_list (pe_fld (pv 0) rfl)) (pg_name (i := 2) sc_Sounds_settle.nd rfl (by first | exact Or.inl rfl | exact Or.inr rfl)) (pss_cons (ps_fld (pv 2) (pv 1) rfl) (pss_one (ps_if (pt_cmpR (u_eq hu) (pe_fld (pv 2) rfl) pe_str (nomark _)) (pss_one (ps_set (i := 1) sc_Sounds_settle.nd rfl (by first | exact Or.inl rfl | exact Or.inr rfl) pe_str)) (pss_one (ps_if (PW.pt (pw_and (pt_cmpR (u_eq hu) (pe_fld (pv 2) rfl) pe_str (nomark _)) (pw_and1 (pt_cmpR (u_eq hu) (pv 1) pe_str (nomark _))))) (pss_one (ps_set (i := 1) sc_Sounds_settle.nd rfl (by first | exact Or.inl rfl | exact Or.inr rfl) pe_str)) pss_nil))))))))
theorem ok_Sounds_call (T : Txt K mg a) : FnOk P w K mg base (L2.CX P w) 1 a.f_Sounds_call a.fd_Sounds_call ["self", "number"] (sp_Sounds_call K a) := by
  refine FunD.ok T.fn_Sounds_call sc_Sounds_call (fun _ _ _ _ h => h.1) (fun cdv A outer s H vs Q E hr h => ⟨t_Sounds_call K a E, ?_, pure_Sounds_call T h⟩)
  have hu := hr.units
  exact (pss_cons (ps_if (pt_cmpR (u_notinV hu) (pv 1) (pe_fld (pv 0) rfl) (by rfl)) (pss_one (ps_raise rfl (takes_of rfl rfl rfl rfl) (pmk_own PySem.F.excBase_ValueError T.xc_SoundFault T.mgc_SoundFault T.kc_SoundFault (raises_own T.bc_SoundFault T.tc_SoundFault) (by rfl)))) pss_nil) (pss_one (ps_ret (pe_ix (u_ix hu) (pe_fld (pv 0) rfl) (pv 1) (fun _ _ => rfl)))))
theorem ok_Sounds_in_call (T : Txt K mg a) (TB_Sounds_in_call : TabB base mg a.cc_Sounds_in_call a.tb_Sounds_in_call) : FnOk P w K mg base (L2.CX P w) 8 a.f_Sounds_in_call a.fd_Sounds_in_call ["self"] (sp_Sounds_in_call K a) := by
  refine FunD.okC T.fn_Sounds_in_call sc_Sounds_in_call (fun _ _ _ _ h => h.1) (fun cdv A outer s H vs Q E hr hcc h => ⟨t_Sounds_in_call K a E, ?_, pure_Sounds_in_call T h⟩)
  have hu := hr.units
  have hcode : cdv = .ref a.cc_Sounds_in_call := hcc.symm.trans T.cd_Sounds_in_call
  subst hcode
  have HR7 := hr.mono (show 7 ≤ 7 by decide)
  exact (pss_one (ps_ret (pe_lock (pe_anyX (own := [("one", 1)]) (g := (gName 1)) (tt := tYes) (GenP.mk HR7 rfl sc_Sounds_in_call.nd (tabG TB_Sounds_in_call) rfl (gensx_by (by decide +kernel)) (pi_values (pe_fld (pv 0) rfl)) (blkOk_by (N := N_Sounds_in_call) (sc := defScope s_Sounds_in_call) (by decide +kernel)) (fun _ _ _ _ _ _ _ hrg => (pg_name (i := 1) sc_Sounds_in_call.nd rfl (by first | exact Or.inl rfl | exact Or.inr rfl))) (fun _ _ _ _ _ _ _ hrg => pts_nil) (fun _ _ _ _ _ _ _ hrg => (pe_cmpR (u_inV hrg.units) (pe_fld (pv 1) rfl) (pe_tup (pa_cons pe_str (pa_cons pe_str (pa_cons pe_str pa_nil)))) (by rfl))) (fun _ => rfl)) rfl T.no_any))))
theorem ok_Sounds_open_calls (T : Txt K mg a) (TB_Sounds_open_calls : TabB base mg a.cc_Sounds_open_calls a.tb_Sounds_open_calls) : FnOk P w K mg base (L2.CX P w) 8 a.f_Sounds_open_calls a.fd_Sounds_open_calls ["self"] (sp_Sounds_open_calls K a) := by
  refine FunD.okC T.fn_Sounds_open_calls sc_Sounds_open_calls (fun _ _ _ _ h => h.1) (fun cdv A outer s H vs Q E hr hcc h => ⟨t_Sounds_open_calls K a E, ?_, pure_Sounds_open_calls T h⟩)
  have hu := hr.units
  have hcode : cdv = .ref a.cc_Sounds_open_calls := hcc.symm.trans T.cd_Sounds_open_calls
  subst hcode
  have HR7 := hr.mono (show 7 ≤ 7 by decide)
  exact (pss_one (ps_ret (pe_tupX (own := [("number", 1)]) (g := (gName 1)) (tt := (tTest (tOp (rNeU K) (tFld K (tOp (rIxU K) (tFld K (tVar 0) "calls") (tVar 1)) "state") (tC (.str "ended"))))) (GenP.mk HR7 rfl sc_Sounds_open_calls.nd (tabG TB_Sounds_open_calls) rfl (gensx_by (by decide +kernel)) (pi_list (pe_callB (u_sorted rfl) (by rfl) T.no_sorted (by decide +kernel) (pa_cons (pe_fld (pv 0) rfl) pa_nil))) (blkOk_by (N := N_Sounds_open_calls) (sc := defScope s_Sounds_open_calls) (by decide +kernel)) (fun _ _ _ _ _ _ _ hrg => (pg_name (i := 1) sc_Sounds_open_calls.nd rfl (by first | exact Or.inl rfl | exact Or.inr rfl))) (fun _ _ _ _ _ _ _ hrg => (pts_one (pt_cmpR (u_ne hrg.units) (pe_fld (pe_ix (u_ix hrg.units) (pe_fld (pv 0) rfl) (pv 1) (fun _ _ => rfl)) rfl) pe_str (nomark _)))) (fun _ _ _ _ _ _ _ hrg => (pv 1)) (fun _ => rfl)) rfl T.no_tuple)))
theorem ok_Sounds_dial (T : Txt K mg a) (G_Sounds_add : FnOk P w K mg base (L2.CX P w) 10 a.f_Sounds_add a.fd_Sounds_add ["self", "other", "came"] (sp_Sounds_add K a)) (G_Sounds_hold_active : FnOk P w K mg base (L2.CX P w) 9 a.f_Sounds_hold_active a.fd_Sounds_hold_active ["self"] (sp_Sounds_hold_active K a)) (G_Sounds_open_calls : FnOk P w K mg base (L2.CX P w) 8 a.f_Sounds_open_calls a.fd_Sounds_open_calls ["self"] (sp_Sounds_open_calls K a)) (TB_Sounds_dial : TabB base mg a.cc_Sounds_dial a.tb_Sounds_dial) : FnOk P w K mg base (L2.CX P w) 11 a.f_Sounds_dial a.fd_Sounds_dial ["self", "other"] (sp_Sounds_dial K a) := by
  refine FunD.okC T.fn_Sounds_dial sc_Sounds_dial (fun _ _ _ _ h => h.1) (fun cdv A outer s H vs Q E hr hcc h => ⟨t_Sounds_dial K a E, ?_, pure_Sounds_dial T h⟩)
  have hu := hr.units
  have hr_Sounds_add := hr.mono (show 10 ≤ 10 by decide)
  have hr_Sounds_hold_active := hr.mono (show 9 ≤ 10 by decide)
  have hr_Sounds_open_calls := hr.mono (show 8 ≤ 10 by decide)
  have hcode : cdv = .ref a.cc_Sounds_dial := hcc.symm.trans T.cd_Sounds_dial
  subst hcode
  have HR7 := hr.mono (show 7 ≤ 10 by decide)
  exact (pss_cons (ps_if (PW.pt (pw_or (pt_cmpR u_ge (pe_callB u_len (by rfl) T.no_len (by decide +kernel) (pa_cons (pe_meth0 (pv 0) T.cl_Sounds T.me_Sounds_open_calls G_Sounds_open_calls hr_Sounds_open_calls T.bi_Sounds_open_calls .nil passX) pa_nil)) pe_int (nomark _)) (pw_or1 (pt_tru (pe_anyX (own := [("one", 2)]) (g := (gName 2)) (tt := tYes) (GenP.mk HR7 rfl sc_Sounds_dial.nd (tabG TB_Sounds_dial) rfl (gensx_by (by decide +kernel)) (pi_tup (pe_meth0 (pv 0) T.cl_Sounds T.me_Sounds_open_calls G_Sounds_open_calls hr_Sounds_open_calls T.bi_Sounds_open_calls .nil passX)) (blkOk_by (N := N_Sounds_dial) (sc := defScope s_Sounds_dial) (by decide +kernel)) (fun _ _ _ _ _ _ _ hrg => (pg_name (i := 2) sc_Sounds_dial.nd rfl (by first | exact Or.inl rfl | exact Or.inr rfl))) (fun _ _ _ _ _ _ _ hrg => pts_nil) (fun _ _ _ _ _ _ _ hrg => (pe_cmpR (u_ne hrg.units) (pe_fld (pe_ix (u_ix hrg.units) (pe_fld (pv 0) rfl) (pv 2) (fun _ _ => rfl)) rfl) pe_str (nomark _))) (fun _ => rfl)) rfl T.no_any))))) (pss_one (ps_raise rfl (takes_of rfl rfl rfl rfl) (pmk_own PySem.F.excBase_ValueError T.xc_SoundFault T.mgc_SoundFault T.kc_SoundFault (raises_own T.bc_SoundFault T.tc_SoundFault) (by rfl)))) pss_nil) (pss_cons (ps_expr (pe_meth0 (pv 0) T.cl_Sounds T.me_Sounds_hold_active G_Sounds_hold_active hr_Sounds_hold_active T.bi_Sounds_hold_active .nil passX)) (pss_one (ps_ret (pe_meth (pv 0) T.cl_Sounds T.me_Sounds_add G_Sounds_add hr_Sounds_add T.bi_Sounds_add .nil passX (pa_cons (pv 1) (pa_cons pe_bl pa_nil)))))))
theorem ok_Sounds_come (T : Txt K mg a) (G_Sounds_add : FnOk P w K mg base (L2.CX P w) 10 a.f_Sounds_add a.fd_Sounds_add ["self", "other", "came"] (sp_Sounds_add K a)) (G_Sounds_open_calls : FnOk P w K mg base (L2.CX P w) 8 a.f_Sounds_open_calls a.fd_Sounds_open_calls ["self"] (sp_Sounds_open_calls K a)) : FnOk P w K mg base (L2.CX P w) 11 a.f_Sounds_come a.fd_Sounds_come ["self", "other"] (sp_Sounds_come K a) := by
  refine FunD.ok T.fn_Sounds_come sc_Sounds_come (fun _ _ _ _ h => h.1) (fun cdv A outer s H vs Q E hr h => ⟨t_Sounds_come K a E, ?_, pure_Sounds_come T h⟩)
  have hu := hr.units
  have hr_Sounds_add := hr.mono (show 10 ≤ 10 by decide)
  have hr_Sounds_open_calls := hr.mono (show 8 ≤ 10 by decide)
  exact (pss_cons (ps_if (pt_cmpR u_ge (pe_callB u_len (by rfl) T.no_len (by decide +kernel) (pa_cons (pe_meth0 (pv 0) T.cl_Sounds T.me_Sounds_open_calls G_Sounds_open_calls hr_Sounds_open_calls T.bi_Sounds_open_calls .nil passX) pa_nil)) pe_int (nomark _)) (pss_one (ps_ret pe_non)) pss_nil) (pss_one (ps_ret (pe_meth (pv 0) T.cl_Sounds T.me_Sounds_add G_Sounds_add hr_Sounds_add T.bi_Sounds_add .nil passX (pa_cons (pv 1) (pa_cons pe_bl pa_nil))))))
theorem ok_Sounds_add (T : Txt K mg a) (G_Call__init : FnOk P w K mg base (L2.CX P w) 1 a.f_Call__init a.fd_Call__init ["self", "number", "other", "came"] (sp_Call__init K a)) (G_Sounds_settle : FnOk P w K mg base (L2.CX P w) 9 a.f_Sounds_settle a.fd_Sounds_settle ["self"] (sp_Sounds_settle K a)) : FnOk P w K mg base (L2.CX P w) 10 a.f_Sounds_add a.fd_Sounds_add ["self", "other", "came"] (sp_Sounds_add K a) := by
  refine FunD.ok T.fn_Sounds_add sc_Sounds_add (fun _ _ _ _ h => h.1) (fun cdv A outer s H vs Q E hr h => ⟨t_Sounds_add K a E, ?_, pure_Sounds_add T h⟩)
  have hu := hr.units
  have hm_Call__init := hr.mono (show 2 ≤ 9 by decide)
  have hr_Sounds_settle := hr.mono (show 9 ≤ 9 by decide)
  exact (pss_cons (ps_fldaug (pv 0) pe_int (in_of u_iadd)) (pss_cons (ps_asg (pe_make T.mk_Call G_Call__init hm_Call__init rfl T.mgc_Call T.bi_Call__init .nil passX (pa_cons (pe_fld (pv 0) rfl) (pa_cons (pv 1) (pa_cons (pv 2) pa_nil)))) (pg_sub (pe_fld (pv 0) rfl) (pe_fld (pv 0) rfl) (u_set hu))) (pss_cons (ps_expr (pe_meth0 (pv 0) T.cl_Sounds T.me_Sounds_settle G_Sounds_settle hr_Sounds_settle T.bi_Sounds_settle .nil passX)) (pss_one (ps_ret (pe_fld (pv 0) rfl))))))
theorem ok_Sounds_hold_active (T : Txt K mg a) (G_Sounds_open_calls : FnOk P w K mg base (L2.CX P w) 8 a.f_Sounds_open_calls a.fd_Sounds_open_calls ["self"] (sp_Sounds_open_calls K a)) : FnOk P w K mg base (L2.CX P w) 9 a.f_Sounds_hold_active a.fd_Sounds_hold_active ["self"] (sp_Sounds_hold_active K a) := by
  refine FunD.ok T.fn_Sounds_hold_active sc_Sounds_hold_active (fun _ _ _ _ h => h.1) (fun cdv A outer s H vs Q E hr h => ⟨t_Sounds_hold_active K a E, ?_, pure_Sounds_hold_active T h⟩)
  have hu := hr.units
  have hr_Sounds_open_calls := hr.mono (show 8 ≤ 8 by decide)
  exact (pss_one (ps_for (passes_of rfl) rfl (pi_tup (pe_meth0 (pv 0) T.cl_Sounds T.me_Sounds_open_calls G_Sounds_open_calls hr_Sounds_open_calls T.bi_Sounds_open_calls .nil passX)) (pg_name (i := 1) sc_Sounds_hold_active.nd rfl (by first | exact Or.inl rfl | exact Or.inr rfl)) (pss_one (ps_if (pt_cmpR (u_eq hu) (pe_fld (pe_ix (u_ix hu) (pe_fld (pv 0) rfl) (pv 1) (fun _ _ => rfl)) rfl) pe_str (nomark _)) (pss_one (ps_fld (pe_ix (u_ix hu) (pe_fld (pv 0) rfl) (pv 1) (fun _ _ => rfl)) pe_str rfl)) pss_nil))))
theorem ok_Sounds_answer (T : Txt K mg a) (G_Sounds_call : FnOk P w K mg base (L2.CX P w) 1 a.f_Sounds_call a.fd_Sounds_call ["self", "number"] (sp_Sounds_call K a)) (G_Sounds_hold_active : FnOk P w K mg base (L2.CX P w) 9 a.f_Sounds_hold_active a.fd_Sounds_hold_active ["self"] (sp_Sounds_hold_active K a)) (G_Sounds_settle : FnOk P w K mg base (L2.CX P w) 9 a.f_Sounds_settle a.fd_Sounds_settle ["self"] (sp_Sounds_settle K a)) : FnOk P w K mg base (L2.CX P w) 10 a.f_Sounds_answer a.fd_Sounds_answer ["self", "number"] (sp_Sounds_answer K a) := by
  refine FunD.ok T.fn_Sounds_answer sc_Sounds_answer (fun _ _ _ _ h => h.1) (fun cdv A outer s H vs Q E hr h => ⟨t_Sounds_answer K a E, ?_, pure_Sounds_answer T h⟩)
  have hu := hr.units
  have hr_Sounds_call := hr.mono (show 1 ≤ 9 by decide)
  have hr_Sounds_hold_active := hr.mono (show 9 ≤ 9 by decide)
  have hr_Sounds_settle := hr.mono (show 9 ≤ 9 by decide)
  exact (pss_cons (ps_set (i := 2) sc_Sounds_answer.nd rfl (by first | exact Or.inl rfl | exact Or.inr rfl) (pe_meth (pv 0) T.cl_Sounds T.me_Sounds_call G_Sounds_call hr_Sounds_call T.bi_Sounds_call .nil passX (pa_cons (pv 1) pa_nil))) (pss_cons (ps_if (pt_cmpR (u_notinV hu) (pe_fld (pv 2) rfl) (pe_tup (pa_cons pe_str (pa_cons pe_str pa_nil))) (by rfl)) (pss_one (ps_raise rfl (takes_of rfl rfl rfl rfl) (pmk_own PySem.F.excBase_ValueError T.xc_SoundFault T.mgc_SoundFault T.kc_SoundFault (raises_own T.bc_SoundFault T.tc_SoundFault) (by rfl)))) pss_nil) (pss_cons (ps_expr (pe_meth0 (pv 0) T.cl_Sounds T.me_Sounds_hold_active G_Sounds_hold_active hr_Sounds_hold_active T.bi_Sounds_hold_active .nil passX)) (pss_cons (ps_fld (pv 2) pe_str rfl) (pss_one (ps_expr (pe_meth0 (pv 0) T.cl_Sounds T.me_Sounds_settle G_Sounds_settle hr_Sounds_settle T.bi_Sounds_settle .nil passX)))))))
theorem ok_Sounds_swap (T : Txt K mg a) (G_Sounds_open_calls : FnOk P w K mg base (L2.CX P w) 8 a.f_Sounds_open_calls a.fd_Sounds_open_calls ["self"] (sp_Sounds_open_calls K a)) : FnOk P w K mg base (L2.CX P w) 9 a.f_Sounds_swap a.fd_Sounds_swap ["self"] (sp_Sounds_swap K a) := by
  refine FunD.ok T.fn_Sounds_swap sc_Sounds_swap (fun _ _ _ _ h => h.1) (fun cdv A outer s H vs Q E hr h => ⟨t_Sounds_swap K a E, ?_, pure_Sounds_swap T h⟩)
  have hu := hr.units
  have hr_Sounds_open_calls := hr.mono (show 8 ≤ 8 by decide)
  exact (pss_cons (ps_setLc (i := 2) (own := [("number", 1)]) (g := (gName 1)) (tt := tYes) rfl sc_Sounds_swap.nd rfl rfl (sw_true rfl rfl rfl (by decide +kernel)) (pi_tup (pe_meth0 (pv 0) T.cl_Sounds T.me_Sounds_open_calls G_Sounds_open_calls hr_Sounds_open_calls T.bi_Sounds_open_calls .nil passX)) (blkOk_by (N := N_Sounds_swap) (sc := defScope s_Sounds_swap) (by decide +kernel)) (fun _ _ _ _ _ => (pg_name (i := 1) sc_Sounds_swap.nd rfl (by first | exact Or.inl rfl | exact Or.inr rfl))) (fun _ _ _ _ _ => pts_nil) (fun _ _ _ _ _ => (pe_fld (pe_ix (u_ix hu) (pe_fld (pv 0) rfl) (pv 1) (fun _ _ => rfl)) rfl))) (pss_cons (ps_if (pt_cmpR (u_ne hu) (pe_callB (u_sorted rfl) (by rfl) T.no_sorted (by decide +kernel) (pa_cons (pv 2) pa_nil)) (pe_lst (pa_cons pe_str (pa_cons pe_str pa_nil))) (nomark _)) (pss_one (ps_raise rfl (takes_of rfl rfl rfl rfl) (pmk_own PySem.F.excBase_ValueError T.xc_SoundFault T.mgc_SoundFault T.kc_SoundFault (raises_own T.bc_SoundFault T.tc_SoundFault) (by rfl)))) pss_nil) (pss_one (ps_for (passes_of rfl) rfl (pi_tup (pe_meth0 (pv 0) T.cl_Sounds T.me_Sounds_open_calls G_Sounds_open_calls hr_Sounds_open_calls T.bi_Sounds_open_calls .nil passX)) (pg_name (i := 1) sc_Sounds_swap.nd rfl (by first | exact Or.inl rfl | exact Or.inr rfl)) (pss_cons (ps_set (i := 3) sc_Sounds_swap.nd rfl (by first | exact Or.inl rfl | exact Or.inr rfl) (pe_ix (u_ix hu) (pe_fld (pv 0) rfl) (pv 1) (fun _ _ => rfl))) (pss_one (ps_fld (pv 3) (pe_ifExp (pt_cmpR (u_eq hu) (pe_fld (pv 3) rfl) pe_str (nomark _)) pe_str pe_str) rfl)))))))
theorem ok_Sounds_hold (T : Txt K mg a) (G_Sounds_call : FnOk P w K mg base (L2.CX P w) 1 a.f_Sounds_call a.fd_Sounds_call ["self", "number"] (sp_Sounds_call K a)) (G_Sounds_open_calls : FnOk P w K mg base (L2.CX P w) 8 a.f_Sounds_open_calls a.fd_Sounds_open_calls ["self"] (sp_Sounds_open_calls K a)) (G_Sounds_settle : FnOk P w K mg base (L2.CX P w) 9 a.f_Sounds_settle a.fd_Sounds_settle ["self"] (sp_Sounds_settle K a)) : FnOk P w K mg base (L2.CX P w) 10 a.f_Sounds_hold a.fd_Sounds_hold ["self", "number"] (sp_Sounds_hold K a) := by
  refine FunD.ok T.fn_Sounds_hold sc_Sounds_hold (fun _ _ _ _ h => h.1) (fun cdv A outer s H vs Q E hr h => ⟨t_Sounds_hold K a E, ?_, pure_Sounds_hold T h⟩)
  have hu := hr.units
  have hr_Sounds_call := hr.mono (show 1 ≤ 9 by decide)
  have hr_Sounds_open_calls := hr.mono (show 8 ≤ 9 by decide)
  have hr_Sounds_settle := hr.mono (show 9 ≤ 9 by decide)
  exact (pss_cons (ps_set (i := 2) sc_Sounds_hold.nd rfl (by first | exact Or.inl rfl | exact Or.inr rfl) (pe_meth (pv 0) T.cl_Sounds T.me_Sounds_call G_Sounds_call hr_Sounds_call T.bi_Sounds_call .nil passX (pa_cons (pv 1) pa_nil))) (pss_cons (ps_if (pt_cmpR (u_eq hu) (pe_fld (pv 2) rfl) pe_str (nomark _)) (pss_one (ps_fld (pv 2) pe_str rfl)) (pss_one (ps_if (PW.pt (pw_and (pt_cmpR (u_eq hu) (pe_fld (pv 2) rfl) pe_str (nomark _)) (pw_and1 (pt_cmpR (u_eq hu) (pe_callB u_len (by rfl) T.no_len (by decide +kernel) (pa_cons (pe_meth0 (pv 0) T.cl_Sounds T.me_Sounds_open_calls G_Sounds_open_calls hr_Sounds_open_calls T.bi_Sounds_open_calls .nil passX) pa_nil)) pe_int (nomark _))))) (pss_one (ps_fld (pv 2) pe_str rfl)) (pss_one (ps_raise rfl (takes_of rfl rfl rfl rfl) (pmk_own PySem.F.excBase_ValueError T.xc_SoundFault T.mgc_SoundFault T.kc_SoundFault (raises_own T.bc_SoundFault T.tc_SoundFault) (by rfl))))))) (pss_one (ps_expr (pe_meth0 (pv 0) T.cl_Sounds T.me_Sounds_settle G_Sounds_settle hr_Sounds_settle T.bi_Sounds_settle .nil passX)))))
theorem ok_Sounds_end (T : Txt K mg a) (G_Sounds_call : FnOk P w K mg base (L2.CX P w) 1 a.f_Sounds_call a.fd_Sounds_call ["self", "number"] (sp_Sounds_call K a)) (G_Sounds_settle : FnOk P w K mg base (L2.CX P w) 9 a.f_Sounds_settle a.fd_Sounds_settle ["self"] (sp_Sounds_settle K a)) : FnOk P w K mg base (L2.CX P w) 10 a.f_Sounds_end a.fd_Sounds_end ["self", "number"] (sp_Sounds_end K a) := by
  refine FunD.ok T.fn_Sounds_end sc_Sounds_end (fun _ _ _ _ h => h.1) (fun cdv A outer s H vs Q E hr h => ⟨t_Sounds_end K a E, ?_, pure_Sounds_end T h⟩)
  have hu := hr.units
  have hr_Sounds_call := hr.mono (show 1 ≤ 9 by decide)
  have hr_Sounds_settle := hr.mono (show 9 ≤ 9 by decide)
  exact (pss_cons (ps_set (i := 2) sc_Sounds_end.nd rfl (by first | exact Or.inl rfl | exact Or.inr rfl) (pe_meth (pv 0) T.cl_Sounds T.me_Sounds_call G_Sounds_call hr_Sounds_call T.bi_Sounds_call .nil passX (pa_cons (pv 1) pa_nil))) (pss_cons (ps_if (pt_cmpR (u_eq hu) (pe_fld (pv 2) rfl) pe_str (nomark _)) (pss_one (ps_raise rfl (takes_of rfl rfl rfl rfl) (pmk_own PySem.F.excBase_ValueError T.xc_SoundFault T.mgc_SoundFault T.kc_SoundFault (raises_own T.bc_SoundFault T.tc_SoundFault) (by rfl)))) pss_nil) (pss_cons (ps_fld (pv 2) pe_str rfl) (pss_one (ps_expr (pe_meth0 (pv 0) T.cl_Sounds T.me_Sounds_settle G_Sounds_settle hr_Sounds_settle T.bi_Sounds_settle .nil passX))))))
theorem ok_law_dice (T : Txt K mg a) : FnOk P w K mg base (L2.CX P w) 1 a.f_law_dice a.fd_law_dice ["cell"] (sp_law_dice K a) := by
  refine FunD.ok T.fn_law_dice sc_law_dice (fun _ _ _ _ h => h.1) (fun cdv A outer s H vs Q E hr h => ⟨t_law_dice K a E, ?_, pure_law_dice T h⟩)
  have hu := hr.units
  exact (pss_cons (ps_if (pt_chain u_lt u_lt (pe_op u_sub pe_int pe_int) (pv 0) pe_int) (pss_one (ps_ret (pe_lst (pa_cons (pe_callB call_abs (by rfl) T.no_abs (by decide +kernel) (pa_cons (pv 0) pa_nil)) (pa_cons pe_int (pa_cons pe_int pa_nil)))))) pss_nil) (pss_one (ps_ret (pe_lst (pa_cons (pv 0) (pa_cons (pe_op u_add pe_int (pe_op u_mod (pe_callTy call_int1 (by rfl) T.no_int (by decide +kernel) (pa_cons (pv 0) pa_nil)) pe_int)) (pa_cons (pe_callTy call_int1 (by rfl) T.no_int (by decide +kernel) (pa_cons (pe_cmpR u_ge (pv 0) (pe_op u_pow pe_int pe_int) (nomark _)) pa_nil)) pa_nil)))))))
theorem ok_law_roll (T : Txt K mg a) : FnOk P w K mg base (L2.CX P w) 1 a.f_law_roll a.fd_law_roll ["dice", "many"] (sp_law_roll K a) := by
  refine FunD.ok T.fn_law_roll sc_law_roll (fun _ _ _ _ h => h.1) (fun cdv A outer s H vs Q E hr h => ⟨t_law_roll K a E, ?_, pure_law_roll T h⟩)
  have hu := hr.units
  exact (pss_cons (ps_if (PW.pt (pw_or (pt_cmpR (u_eq hu) (pe_ix (u_ix hu) (pv 0) pe_int (fun _ _ => rfl)) pe_int (nomark _)) (pw_or1 (PW.pt (pw_and (pt_cmpR (u_eq hu) (pe_ix (u_ix hu) (pv 0) pe_int (fun _ _ => rfl)) pe_int (nomark _)) (pw_and1 (pt_cmpR u_gt (pe_ix (u_ix hu) (pv 0) pe_int (fun _ _ => rfl)) pe_int (nomark _)))))))) (pss_cons (ps_set (i := 2) sc_law_roll.nd rfl (by first | exact Or.inl rfl | exact Or.inr rfl) (pe_op u_mod (pe_callTy call_int1 (by rfl) T.no_int (by decide +kernel) (pa_cons (pe_ix (u_ix hu) (pv 0) pe_int (fun _ _ => rfl)) pa_nil)) (pv 1))) (pss_cons (ps_asg (pe_op u_div (pe_ix (u_ix hu) (pv 0) pe_int (fun _ _ => rfl)) (pv 1)) (pg_sub (pv 0) pe_int (u_set hu))) (pss_one (ps_ret (pv 2))))) pss_nil) (pss_cons (ps_asg pe_int (pg_sub (pv 0) pe_int (u_set hu))) (pss_cons (ps_if (pt_cmpR u_gt (pv 1) pe_int (nomark _)) pss_never pss_nil) (pss_cons (ps_asg (pe_op u_mod (pe_callTy call_int1 (by rfl) T.no_int (by decide +kernel) (pa_cons (pe_op u_add (pe_op u_add (pe_op u_mul (pe_ix (u_ix hu) (pv 0) pe_int (fun _ _ => rfl)) pe_int) (pe_op u_mul (pe_ix (u_ix hu) (pv 0) pe_int (fun _ _ => rfl)) pe_int)) pe_int) pa_nil)) pe_int) (pg_sub (pv 0) pe_int (u_set hu))) (pss_cons (ps_asg (pe_op u_add (pe_ix (u_ix hu) (pv 0) pe_int (fun _ _ => rfl)) pe_int) (pg_sub (pv 0) pe_int (u_set hu))) (pss_one (ps_ret (pe_op u_mod (pe_callTy call_int1 (by rfl) T.no_int (by decide +kernel) (pa_cons (pe_op u_div (pe_ix (u_ix hu) (pv 0) pe_int (fun _ _ => rfl)) pe_int) pa_nil)) (pv 1)))))))))
theorem ok_law_rounds (T : Txt K mg a) (G_law_dice : FnOk P w K mg base (L2.CX P w) 1 a.f_law_dice a.fd_law_dice ["cell"] (sp_law_dice K a)) : FnOk P w K mg base (L2.CX P w) 2 a.f_law_rounds a.fd_law_rounds ["script", "most"] (sp_law_rounds K a) := by
  refine FunD.ok T.fn_law_rounds sc_law_rounds (fun _ _ _ _ h => h.1) (fun cdv A outer s H vs Q E hr h => ⟨t_law_rounds K a E, ?_, pure_law_rounds T h⟩)
  have hu := hr.units
  have hr_law_dice := hr.mono (show 1 ≤ 1 by decide)
  exact (pss_cons (ps_set (i := 2) sc_law_rounds.nd rfl (by first | exact Or.inl rfl | exact Or.inr rfl) (pe_slice u_sl (pv 0) po_none (po_some (pv 1)))) (pss_cons (ps_if (pt_cmpR (u_eq hu) (pv 2) (pe_lst pa_nil) (nomark _)) (pss_one (ps_set (i := 2) sc_law_rounds.nd rfl (by first | exact Or.inl rfl | exact Or.inr rfl) (pe_lst (pa_cons pe_int pa_nil)))) pss_nil) (pss_one (ps_ret (pe_lc (own := [("cell", 3)]) (g := (gName 3)) (tt := tYes) rfl sc_law_rounds.nd (pi_list (pv 2)) (blkOk_by (N := N_law_rounds) (sc := defScope s_law_rounds) (by decide +kernel)) (fun _ _ _ _ _ => (pg_name (i := 3) sc_law_rounds.nd rfl (by first | exact Or.inl rfl | exact Or.inr rfl))) (fun _ _ _ _ _ => pts_nil) (fun _ _ _ _ _ => (pe_call G_law_dice hr_law_dice rfl T.mg_law_dice T.fn_law_dice.kp T.bi_law_dice .nil passL (pa_cons (pv 3) pa_nil))))))))
theorem ok_law_states (T : Txt K mg a) : FnOk P w K mg base (L2.CX P w) 1 a.f_law_states a.fd_law_states ["own"] (sp_law_states K a) := by
  refine FunD.ok T.fn_law_states sc_law_states (fun _ _ _ _ h => h.1) (fun cdv A outer s H vs Q E hr h => ⟨t_law_states K a E, ?_, pure_law_states T h⟩)
  have hu := hr.units
  exact (pss_cons (ps_par (i := 2) (j := 3) rfl sc_law_states.nd rfl rfl (by decide) rfl rfl (pa_cons (pe_ifExp (pt_cmpR (u_neY hu) (pe_lock (pe_lc (own := [("one", 1)]) (g := (gName 1)) (tt := (tTest (tOp (rInV K) (tOp (rIxU K) (tVar 1) (tC (.str "state"))) (tLst (tCons (tC (.str "calling")) (tCons (tC (.str "ringing")) (tCons (tC (.str "active")) tNil))))))) rfl sc_law_states.nd (pi_values (pe_ix (u_ix hu) (pv 0) pe_str (fun _ _ => rfl))) (blkOk_by (N := N_law_states) (sc := defScope s_law_states) (by decide +kernel)) (fun _ _ _ _ _ => (pg_name (i := 1) sc_law_states.nd rfl (by first | exact Or.inl rfl | exact Or.inr rfl))) (fun _ _ _ _ _ => (pts_one (pt_cmpR (u_inV hu) (pe_ix (u_ix hu) (pv 1) pe_str (fun _ _ => rfl)) (pe_lst (pa_cons pe_str (pa_cons pe_str (pa_cons pe_str pa_nil)))) (by rfl)))) (fun _ _ _ _ _ => (pv 1)))) (pe_lst pa_nil) (nomark _)) pe_str pe_str) (pa_cons (pe_lst pa_nil) pa_nil)) (by rfl)) (pss_cons (ps_for (passes_of rfl) rfl (pi_list (pe_ix (u_ix hu) (pv 0) pe_str (fun _ _ => rfl))) (pg_tup rfl (pgs_cons (pg_name (i := 4) sc_law_states.nd rfl (by first | exact Or.inl rfl | exact Or.inr rfl)) (pgs_cons (pg_name (i := 5) sc_law_states.nd rfl (by first | exact Or.inl rfl | exact Or.inr rfl)) pgs_nil))) (pss_cons (ps_expr (pe_bm PySem.F.plainAttrs_list PySem.F.slot_list_append PySem.F.type_list_append mt_append (pv 3) (pa_cons (pe_tup (pa_cons (pv 4) (pa_cons (pv 5) (pa_cons (pv 2) pa_nil)))) pa_nil))) (pss_one (ps_set (i := 2) sc_law_states.nd rfl (by first | exact Or.inl rfl | exact Or.inr rfl) (pe_ifExp (pt_cmpR (u_eq hu) (pv 5) pe_str (nomark _)) pe_str (pe_ifExp (PW.pt (pw_and (pt_cmpR (u_eq hu) (pv 5) pe_str (nomark _)) (pw_and1 (pt_cmpR (u_eq hu) (pv 2) pe_str (nomark _))))) pe_str (pv 2))))))) (pss_one (ps_ret (pe_callTy call_tuple_of (by rfl) T.no_tuple (by decide +kernel) (pa_cons (pv 3) pa_nil))))))
theorem ok_law_deed (T : Txt K mg a) (G_Sounds_answer : FnOk P w K mg base (L2.CX P w) 10 a.f_Sounds_answer a.fd_Sounds_answer ["self", "number"] (sp_Sounds_answer K a)) (G_Sounds_come : FnOk P w K mg base (L2.CX P w) 11 a.f_Sounds_come a.fd_Sounds_come ["self", "other"] (sp_Sounds_come K a)) (G_Sounds_dial : FnOk P w K mg base (L2.CX P w) 11 a.f_Sounds_dial a.fd_Sounds_dial ["self", "other"] (sp_Sounds_dial K a)) (G_Sounds_end : FnOk P w K mg base (L2.CX P w) 10 a.f_Sounds_end a.fd_Sounds_end ["self", "number"] (sp_Sounds_end K a)) (G_Sounds_hold : FnOk P w K mg base (L2.CX P w) 10 a.f_Sounds_hold a.fd_Sounds_hold ["self", "number"] (sp_Sounds_hold K a)) (G_Sounds_play : FnOk P w K mg base (L2.CX P w) 10 a.f_Sounds_play a.fd_Sounds_play ["self", "app", "ask"] (sp_Sounds_play K a)) (G_Sounds_stop : FnOk P w K mg base (L2.CX P w) 10 a.f_Sounds_stop a.fd_Sounds_stop ["self", "app"] (sp_Sounds_stop K a)) (G_Sounds_swap : FnOk P w K mg base (L2.CX P w) 9 a.f_Sounds_swap a.fd_Sounds_swap ["self"] (sp_Sounds_swap K a)) (G_law_roll : FnOk P w K mg base (L2.CX P w) 1 a.f_law_roll a.fd_law_roll ["dice", "many"] (sp_law_roll K a)) (TB_law_deed : TabB base mg a.cc_law_deed a.tb_law_deed) : FnOk P w K mg base (L2.CX P w) 14 a.f_law_deed a.fd_law_deed ["dice", "own", "sounds"] (sp_law_deed K a) := by
  refine FunD.okC T.fn_law_deed sc_law_deed (fun _ _ _ _ h => h.1) (fun cdv A outer s H vs Q E hr hcc h => ⟨t_law_deed K a E, ?_, pure_law_deed T h⟩)
  have hu := hr.units
  have hr_Sounds_come := hr.mono (show 11 ≤ 13 by decide)
  have hr_Sounds_stop := hr.mono (show 10 ≤ 13 by decide)
  have hr_law_roll := hr.mono (show 1 ≤ 13 by decide)
  have hcode : cdv = .ref a.cc_law_deed := hcc.symm.trans T.cd_law_deed
  subst hcode
  have hr_lam := hr.mono (show 11 + 2 ≤ 13 by decide)
  obtain ⟨oc1, od1, dV1, kV1, doc1, pm1, an1, cd1, ct1, osl1, efd, lkT, hcdT, _, _⟩ := T.fn_law_told.ex
  have biT := T.bi_law_told
  rw [efd] at lkT biT
  exact (pss_cons (ps_asg (pe_tup (pa_cons (pe_call G_law_roll hr_law_roll rfl T.mg_law_roll T.fn_law_roll.kp T.bi_law_roll .nil passX (pa_cons (pv 0) (pa_cons pe_int pa_nil))) (pa_cons (pe_op u_add pe_int (pe_call G_law_roll hr_law_roll rfl T.mg_law_roll T.fn_law_roll.kp T.bi_law_roll .nil passX (pa_cons (pv 0) (pa_cons (pe_op u_add (pe_callB u_len (by rfl) T.no_len (by decide +kernel) (pa_cons (pe_ix (u_ix hu) (pv 1) pe_str (fun _ _ => rfl)) pa_nil)) pe_int) pa_nil)))) (pa_cons (pe_ix (u_ix hu) (pv 1) pe_str (fun _ _ => rfl)) pa_nil)))) (pg_tup rfl (pgs_cons (pg_name (i := 3) sc_law_deed.nd rfl (by first | exact Or.inl rfl | exact Or.inr rfl)) (pgs_cons (pg_name (i := 4) sc_law_deed.nd rfl (by first | exact Or.inl rfl | exact Or.inr rfl)) (pgs_cons (pg_name (i := 5) sc_law_deed.nd rfl (by first | exact Or.inl rfl | exact Or.inr rfl)) pgs_nil))))) (pss_cons (ps_setLc (i := 7) (own := [("one", 6)]) (g := (gName 6)) (tt := (tTest (tOp (rNeU K) (tOp (rIxU K) (tOp (rIxU K) (tVar 5) (tVar 6)) (tC (.str "state"))) (tC (.str "ended"))))) rfl sc_law_deed.nd rfl rfl (sw_true rfl rfl rfl (by decide +kernel)) (pi_list (pe_callB (u_sorted rfl) (by rfl) T.no_sorted (by decide +kernel) (pa_cons (pv 5) pa_nil))) (blkOk_by (N := N_law_deed) (sc := defScope s_law_deed) (by decide +kernel)) (fun _ _ _ _ _ => (pg_name (i := 6) sc_law_deed.nd rfl (by first | exact Or.inl rfl | exact Or.inr rfl))) (fun _ _ _ _ _ => (pts_one (pt_cmpR (u_ne hu) (pe_ix (u_ix hu) (pe_ix (u_ix hu) (pv 5) (pv 6) (fun _ _ => rfl)) pe_str (fun _ _ => rfl)) pe_str (nomark _)))) (fun _ _ _ _ _ => (pv 6))) (pss_cons (ps_set (i := 8) sc_law_deed.nd rfl (by first | exact Or.inl rfl | exact Or.inr rfl) (pe_cmpR (u_ne hu) (pe_lc (own := [("one", 6)]) (g := (gName 6)) (tt := (tTest (tOp (rNeU K) (tOp (rIxU K) (tOp (rIxU K) (tVar 5) (tVar 6)) (tC (.str "state"))) (tC (.str "held"))))) rfl sc_law_deed.nd (pi_list (pv 7)) (blkOk_by (N := N_law_deed) (sc := defScope s_law_deed) (by decide +kernel)) (fun _ _ _ _ _ => (pg_name (i := 6) sc_law_deed.nd rfl (by first | exact Or.inl rfl | exact Or.inr rfl))) (fun _ _ _ _ _ => (pts_one (pt_cmpR (u_ne hu) (pe_ix (u_ix hu) (pe_ix (u_ix hu) (pv 5) (pv 6) (fun _ _ => rfl)) pe_str (fun _ _ => rfl)) pe_str (nomark _)))) (fun _ _ _ _ _ => (pv 6))) (pe_lst pa_nil) (nomark _))) (pss_cons (ps_set (i := 9) sc_law_deed.nd rfl (by first | exact Or.inl rfl | exact Or.inr rfl) (pe_lc (own := [("one", 6)]) (g := (gName 6)) (tt := (tTest (tOp (rEqU K) (tOp (rIxU K) (tOp (rIxU K) (tVar 5) (tVar 6)) (tC (.str "state"))) (tC (.str "active"))))) rfl sc_law_deed.nd (pi_list (pv 7)) (blkOk_by (N := N_law_deed) (sc := defScope s_law_deed) (by decide +kernel)) (fun _ _ _ _ _ => (pg_name (i := 6) sc_law_deed.nd rfl (by first | exact Or.inl rfl | exact Or.inr rfl))) (fun _ _ _ _ _ => (pts_one (pt_cmpR (u_eq hu) (pe_ix (u_ix hu) (pe_ix (u_ix hu) (pv 5) (pv 6) (fun _ _ => rfl)) pe_str (fun _ _ => rfl)) pe_str (nomark _)))) (fun _ _ _ _ _ => (pv 6)))) (pss_cons (ps_set (i := 6) sc_law_deed.nd rfl (by first | exact Or.inl rfl | exact Or.inr rfl) (pe_get1 hu (pv 5) (pv 4) ⟨rfl, rfl, rfl, rfl⟩)) (pss_cons (ps_set (i := 10) sc_law_deed.nd rfl (by first | exact Or.inl rfl | exact Or.inr rfl) (pe_ifExp (pt_cmpR u_is (pv 6) pe_non (nomark _)) pe_non (pe_ix (u_ix hu) (pv 6) pe_str (fun _ _ => rfl)))) (pss_cons (ps_asg (pe_tup (pa_cons (pe_ix (u_ix hu) (pe_lst (pa_cons pe_str (pa_cons pe_str (pa_cons pe_str (pa_cons pe_str pa_nil))))) (pe_call G_law_roll hr_law_roll rfl T.mg_law_roll T.fn_law_roll.kp T.bi_law_roll .nil passX (pa_cons (pv 0) (pa_cons pe_int pa_nil))) (fun _ _ => rfl)) (pa_cons (pe_ix (u_ix hu) (pe_lst (pa_cons pe_str (pa_cons pe_str (pa_cons pe_str (pa_cons pe_str pa_nil))))) (pe_callB (call_min2 rfl) (by rfl) T.no_min (by decide +kernel) (pa_cons pe_int (pa_cons (pe_op u_div (pe_call G_law_roll hr_law_roll rfl T.mg_law_roll T.fn_law_roll.kp T.bi_law_roll .nil passX (pa_cons (pv 0) (pa_cons pe_int pa_nil))) pe_int) pa_nil))) (fun _ _ => rfl)) pa_nil))) (pg_tup rfl (pgs_cons (pg_name (i := 11) sc_law_deed.nd rfl (by first | exact Or.inl rfl | exact Or.inr rfl)) (pgs_cons (pg_name (i := 12) sc_law_deed.nd rfl (by first | exact Or.inl rfl | exact Or.inr rfl)) pgs_nil)))) (pss_cons (ps_if (pt_cmpR u_lt (pv 3) pe_int (nomark _)) (pss_cons (ps_set (i := 13) sc_law_deed.nd rfl (by first | exact Or.inl rfl | exact Or.inr rfl) (pe_ifExp (pt_cmpR (u_eq hu) (pv 12) pe_str (nomark _)) pe_str (pe_not (pv 8)))) (pss_cons (ps_set (i := 14) sc_law_deed.nd rfl (by first | exact Or.inl rfl | exact Or.inr rfl) (pe_lamP (t := fun E => (tMeth a.c_Sounds "play" (sp_Sounds_play K a) [] E (tVar 2) (tCons (tVar 11) (tCons (tVar 12) tNil)))) rfl T.mg_law_told T.fn_law_told.kp lkT hcdT biT sc_law_told rfl (by first | exact Or.inl rfl | exact Or.inr (Or.inl rfl)) (told_gives rfl T.mgc_SoundFault (by decide) (fun _ => rfl)) TB_law_deed rfl hr_lam (lamS_by (sc := defScope s_law_deed) (by decide +kernel)) rfl (by intros; rfl) (fun A outer s H E f c' hrl => (pe_meth (pv 2) T.cl_Sounds T.me_Sounds_play G_Sounds_play (hrl.mono (by decide)) T.bi_Sounds_play .nil passLam (pa_cons (pv 11) (pa_cons (pv 12) pa_nil)))))) (pss_cons (ps_if (pt_cmpR u_is (pv 13) pe_bl (nomark _)) (pss_one (ps_asg (pe_op u_add (pe_lst (pa_cons (pe_tup (pa_cons (pv 11) (pa_cons (pv 12) pa_nil))) pa_nil)) (pe_ifExp (pt_cmpR (u_ne hu) (pv 12) pe_str (nomark _)) (pe_lc (own := [("row", 15)]) (g := (gName 15)) (tt := (tTest (tOp (rNeU K) (tOp (rIxU K) (tVar 15) (tC (.int 0))) (tVar 11)))) rfl sc_law_deed.nd (pi_list (pe_ix (u_ix hu) (pv 1) pe_str (fun _ _ => rfl))) (blkOk_by (N := N_law_deed) (sc := defScope s_law_deed) (by decide +kernel)) (fun _ _ _ _ _ => (pg_name (i := 15) sc_law_deed.nd rfl (by first | exact Or.inl rfl | exact Or.inr rfl))) (fun _ _ _ _ _ => (pts_one (pt_cmpR (u_ne hu) (pe_ix (u_ix hu) (pv 15) pe_int (fun _ _ => rfl)) (pv 11) (nomark _)))) (fun _ _ _ _ _ => (pv 15))) (pe_lst pa_nil))) (pg_sub (pv 1) pe_str (u_set hu)))) pss_nil) (pss_one (ps_ret (pe_tup (pa_cons (pv 14) (pa_cons (pv 13) pa_nil)))))))) pss_nil) (pss_cons (ps_if (pt_cmpR (u_eq hu) (pv 3) pe_int (nomark _)) (pss_cons (ps_asg (pe_lc (own := [("row", 15)]) (g := (gName 15)) (tt := (tTest (tOp (rNeU K) (tOp (rIxU K) (tVar 15) (tC (.int 0))) (tVar 11)))) rfl sc_law_deed.nd (pi_list (pe_ix (u_ix hu) (pv 1) pe_str (fun _ _ => rfl))) (blkOk_by (N := N_law_deed) (sc := defScope s_law_deed) (by decide +kernel)) (fun _ _ _ _ _ => (pg_name (i := 15) sc_law_deed.nd rfl (by first | exact Or.inl rfl | exact Or.inr rfl))) (fun _ _ _ _ _ => (pts_one (pt_cmpR (u_ne hu) (pe_ix (u_ix hu) (pv 15) pe_int (fun _ _ => rfl)) (pv 11) (nomark _)))) (fun _ _ _ _ _ => (pv 15))) (pg_sub (pv 1) pe_str (u_set hu))) (pss_one (ps_ret (pe_tup (pa_cons (pe_meth (pv 2) T.cl_Sounds T.me_Sounds_stop G_Sounds_stop hr_Sounds_stop T.bi_Sounds_stop .nil passX (pa_cons (pv 11) pa_nil)) (pa_cons pe_non pa_nil)))))) pss_nil) (pss_cons (ps_set (i := 16) sc_law_deed.nd rfl (by first | exact Or.inl rfl | exact Or.inr rfl) (pe_op u_add (pe_callB u_len (by rfl) T.no_len (by decide +kernel) (pa_cons (pv 5) pa_nil)) pe_int)) (pss_cons (ps_if (pt_cmpR (u_eq hu) (pv 3) pe_int (nomark _)) (pss_cons (ps_set (i := 17) sc_law_deed.nd rfl (by first | exact Or.inl rfl | exact Or.inr rfl) (pe_and (pe_cmpR u_lt (pe_callB u_len (by rfl) T.no_len (by decide +kernel) (pa_cons (pv 7) pa_nil)) pe_int (nomark _)) (pe_one (pe_cmpR (u_eq hu) (pe_callB u_len (by rfl) T.no_len (by decide +kernel) (pa_cons (pv 9) pa_nil)) (pe_callB u_len (by rfl) T.no_len (by decide +kernel) (pa_cons (pv 7) pa_nil)) (nomark _))))) (pss_cons (ps_set (i := 14) sc_law_deed.nd rfl (by first | exact Or.inl rfl | exact Or.inr rfl) (pe_lamP (t := fun E => (tMeth a.c_Sounds "dial" (sp_Sounds_dial K a) [] E (tVar 2) (tCons (tC (.str "bob")) tNil))) rfl T.mg_law_told T.fn_law_told.kp lkT hcdT biT sc_law_told rfl (by first | exact Or.inl rfl | exact Or.inr (Or.inl rfl)) (told_gives rfl T.mgc_SoundFault (by decide) (fun _ => rfl)) TB_law_deed rfl hr_lam (lamS_by (sc := defScope s_law_deed) (by decide +kernel)) rfl (by intros; rfl) (fun A outer s H E f c' hrl => (pe_meth (pv 2) T.cl_Sounds T.me_Sounds_dial G_Sounds_dial (hrl.mono (by decide)) T.bi_Sounds_dial .nil passLam (pa_cons pe_str pa_nil))))) (pss_cons (ps_if (pt_tru (pv 17)) (pss_one (ps_asg (pe_callTy (u_dict rfl) (by rfl) T.no_dict (by decide +kernel) (pa_cons (pe_op u_add (pe_lock (pe_lc (own := [("k", 18)]) (g := (gName 18)) (tt := tYes) rfl sc_law_deed.nd (pi_keys (pv 5)) (blkOk_by (N := N_law_deed) (sc := defScope s_law_deed) (by decide +kernel)) (fun _ _ _ _ _ => (pg_name (i := 18) sc_law_deed.nd rfl (by first | exact Or.inl rfl | exact Or.inr rfl))) (fun _ _ _ _ _ => pts_nil) (fun _ _ _ _ _ => (pe_tup (pa_cons (pv 18) (pa_cons (pe_disp (pps_cons pe_str (pe_ifExp (pt_cmpR (u_inV hu) (pv 18) (pv 9) (by rfl)) pe_str (pe_ix (u_ix hu) (pe_ix (u_ix hu) (pv 5) (pv 18) (fun _ _ => rfl)) pe_str (fun _ _ => rfl))) pps_nil) (by rfl) (by rfl) (fun z => by cases z) (by decide)) pa_nil)))))) (pe_lst (pa_cons (pe_tup (pa_cons (pv 16) (pa_cons (pe_disp (pps_cons pe_str pe_str pps_nil) (by rfl) (by rfl) (fun z => by cases z) (by decide)) pa_nil))) pa_nil))) pa_nil)) (pg_sub (pv 1) pe_str (u_set hu)))) pss_nil) (pss_one (ps_ret (pe_tup (pa_cons (pv 14) (pa_cons (pe_ifExp (pt_tru (pv 17)) (pv 16) pe_str) pa_nil)))))))) pss_nil) (pss_cons (ps_if (pt_cmpR (u_eq hu) (pv 3) pe_int (nomark _)) (pss_cons (ps_set (i := 14) sc_law_deed.nd rfl (by first | exact Or.inl rfl | exact Or.inr rfl) (pe_meth (pv 2) T.cl_Sounds T.me_Sounds_come G_Sounds_come hr_Sounds_come T.bi_Sounds_come .nil passX (pa_cons pe_str pa_nil))) (pss_cons (ps_if (pt_cmpR u_lt (pe_callB u_len (by rfl) T.no_len (by decide +kernel) (pa_cons (pv 7) pa_nil)) pe_int (nomark _)) (pss_one (ps_asg (pe_callTy (u_dict rfl) (by rfl) T.no_dict (by decide +kernel) (pa_cons (pe_op u_add (LiI.pe_listItems rfl (pv 5) (by rfl) T.no_list (by decide +kernel)) (pe_lst (pa_cons (pe_tup (pa_cons (pv 16) (pa_cons (pe_disp (pps_cons pe_str pe_str pps_nil) (by rfl) (by rfl) (fun z => by cases z) (by decide)) pa_nil))) pa_nil))) pa_nil)) (pg_sub (pv 1) pe_str (u_set hu)))) pss_nil) (pss_one (ps_ret (pe_tup (pa_cons (pv 14) (pa_cons (pe_ifExp (pt_cmpR u_lt (pe_callB u_len (by rfl) T.no_len (by decide +kernel) (pa_cons (pv 7) pa_nil)) pe_int (nomark _)) (pv 16) pe_non) pa_nil))))))) pss_nil) (pss_cons (ps_if (pt_cmpR u_lt (pv 3) pe_int (nomark _)) (pss_cons (ps_par (i := 14) (j := 17) rfl sc_law_deed.nd rfl rfl (by decide) rfl rfl (pa_cons (pe_lamP (t := fun E => (tMeth a.c_Sounds "answer" (sp_Sounds_answer K a) [] E (tVar 2) (tCons (tVar 4) tNil))) rfl T.mg_law_told T.fn_law_told.kp lkT hcdT biT sc_law_told rfl (by first | exact Or.inl rfl | exact Or.inr (Or.inl rfl)) (told_gives rfl T.mgc_SoundFault (by decide) (fun _ => rfl)) TB_law_deed rfl hr_lam (lamS_by (sc := defScope s_law_deed) (by decide +kernel)) rfl (by intros; rfl) (fun A outer s H E f c' hrl => (pe_meth (pv 2) T.cl_Sounds T.me_Sounds_answer G_Sounds_answer (hrl.mono (by decide)) T.bi_Sounds_answer .nil passLam (pa_cons (pv 4) pa_nil)))) (pa_cons (pe_cmpR (u_inV hu) (pv 10) (pe_lst (pa_cons pe_str (pa_cons pe_str pa_nil))) (by rfl)) pa_nil)) (by rfl)) (pss_cons (ps_if (pt_tru (pv 17)) (pss_one (ps_asg (pe_callTy (u_dict rfl) (by rfl) T.no_dict (by decide +kernel) (pa_cons (pe_lock (pe_lc (own := [("k", 18)]) (g := (gName 18)) (tt := tYes) rfl sc_law_deed.nd (pi_keys (pv 5)) (blkOk_by (N := N_law_deed) (sc := defScope s_law_deed) (by decide +kernel)) (fun _ _ _ _ _ => (pg_name (i := 18) sc_law_deed.nd rfl (by first | exact Or.inl rfl | exact Or.inr rfl))) (fun _ _ _ _ _ => pts_nil) (fun _ _ _ _ _ => (pe_tup (pa_cons (pv 18) (pa_cons (pe_disp (pps_cons pe_str (pe_ifExp (pt_cmpR (u_eq hu) (pv 18) (pv 4) (nomark _)) pe_str (pe_ifExp (pt_cmpR (u_inV hu) (pv 18) (pv 9) (by rfl)) pe_str (pe_ix (u_ix hu) (pe_ix (u_ix hu) (pv 5) (pv 18) (fun _ _ => rfl)) pe_str (fun _ _ => rfl)))) pps_nil) (by rfl) (by rfl) (fun z => by cases z) (by decide)) pa_nil)))))) pa_nil)) (pg_sub (pv 1) pe_str (u_set hu)))) pss_nil) (pss_one (ps_ret (pe_tup (pa_cons (pv 14) (pa_cons (pe_ifExp (pt_tru (pv 17)) pe_non pe_str) pa_nil))))))) pss_nil) (pss_cons (ps_if (pt_cmpR (u_eq hu) (pv 3) pe_int (nomark _)) (pss_cons (ps_set (i := 17) sc_law_deed.nd rfl (by first | exact Or.inl rfl | exact Or.inr rfl) (pe_cmpR (u_eq hu) (pe_callB (u_sorted rfl) (by rfl) T.no_sorted (by decide +kernel) (pa_cons (pe_lc (own := [("k", 18)]) (g := (gName 18)) (tt := tYes) rfl sc_law_deed.nd (pi_list (pv 7)) (blkOk_by (N := N_law_deed) (sc := defScope s_law_deed) (by decide +kernel)) (fun _ _ _ _ _ => (pg_name (i := 18) sc_law_deed.nd rfl (by first | exact Or.inl rfl | exact Or.inr rfl))) (fun _ _ _ _ _ => pts_nil) (fun _ _ _ _ _ => (pe_ix (u_ix hu) (pe_ix (u_ix hu) (pv 5) (pv 18) (fun _ _ => rfl)) pe_str (fun _ _ => rfl)))) pa_nil)) (pe_lst (pa_cons pe_str (pa_cons pe_str pa_nil))) (nomark _))) (pss_cons (ps_set (i := 14) sc_law_deed.nd rfl (by first | exact Or.inl rfl | exact Or.inr rfl) (pe_lamP (t := fun E => (tMeth a.c_Sounds "swap" (sp_Sounds_swap K a) [] E (tVar 2) tNil)) rfl T.mg_law_told T.fn_law_told.kp lkT hcdT biT sc_law_told rfl (by first | exact Or.inl rfl | exact Or.inr (Or.inl rfl)) (told_gives rfl T.mgc_SoundFault (by decide) (fun _ => rfl)) TB_law_deed rfl hr_lam (lamS_by (sc := defScope s_law_deed) (by decide +kernel)) rfl (by intros; rfl) (fun A outer s H E f c' hrl => (pe_meth0 (pv 2) T.cl_Sounds T.me_Sounds_swap G_Sounds_swap (hrl.mono (by decide)) T.bi_Sounds_swap .nil passLam)))) (pss_cons (ps_if (pt_tru (pv 17)) (pss_one (ps_asg (pe_callTy (u_dict rfl) (by rfl) T.no_dict (by decide +kernel) (pa_cons (pe_lock (pe_lc (own := [("k", 18)]) (g := (gName 18)) (tt := tYes) rfl sc_law_deed.nd (pi_keys (pv 5)) (blkOk_by (N := N_law_deed) (sc := defScope s_law_deed) (by decide +kernel)) (fun _ _ _ _ _ => (pg_name (i := 18) sc_law_deed.nd rfl (by first | exact Or.inl rfl | exact Or.inr rfl))) (fun _ _ _ _ _ => pts_nil) (fun _ _ _ _ _ => (pe_tup (pa_cons (pv 18) (pa_cons (pe_disp (pps_cons pe_str (pe_get2 hu (pe_disp (pps_cons pe_str pe_str (pps_cons pe_str pe_str pps_nil)) (by rfl) (by rfl) (fun z => by cases z) (by decide)) (pe_ix (u_ix hu) (pe_ix (u_ix hu) (pv 5) (pv 18) (fun _ _ => rfl)) pe_str (fun _ _ => rfl)) pe_str ⟨rfl, rfl, rfl, rfl⟩) pps_nil) (by rfl) (by rfl) (fun z => by cases z) (by decide)) pa_nil)))))) pa_nil)) (pg_sub (pv 1) pe_str (u_set hu)))) pss_nil) (pss_one (ps_ret (pe_tup (pa_cons (pv 14) (pa_cons (pe_ifExp (pt_tru (pv 17)) pe_non pe_str) pa_nil)))))))) pss_nil) (pss_cons (ps_if (pt_cmpR (u_eq hu) (pv 3) pe_int (nomark _)) (pss_cons (ps_set (i := 17) sc_law_deed.nd rfl (by first | exact Or.inl rfl | exact Or.inr rfl) (pe_or (pe_cmpR (u_eq hu) (pv 10) pe_str (nomark _)) (pe_one (pe_and (pe_cmpR (u_eq hu) (pv 10) pe_str (nomark _)) (pe_one (pe_cmpR (u_eq hu) (pe_callB u_len (by rfl) T.no_len (by decide +kernel) (pa_cons (pv 7) pa_nil)) pe_int (nomark _))))))) (pss_one (ps_set (i := 14) sc_law_deed.nd rfl (by first | exact Or.inl rfl | exact Or.inr rfl) (pe_lamP (t := fun E => (tMeth a.c_Sounds "hold" (sp_Sounds_hold K a) [] E (tVar 2) (tCons (tVar 4) tNil))) rfl T.mg_law_told T.fn_law_told.kp lkT hcdT biT sc_law_told rfl (by first | exact Or.inl rfl | exact Or.inr (Or.inl rfl)) (told_gives rfl T.mgc_SoundFault (by decide) (fun _ => rfl)) TB_law_deed rfl hr_lam (lamS_by (sc := defScope s_law_deed) (by decide +kernel)) rfl (by intros; rfl) (fun A outer s H E f c' hrl => (pe_meth (pv 2) T.cl_Sounds T.me_Sounds_hold G_Sounds_hold (hrl.mono (by decide)) T.bi_Sounds_hold .nil passLam (pa_cons (pv 4) pa_nil))))))) (pss_cons (ps_set (i := 17) sc_law_deed.nd rfl (by first | exact Or.inl rfl | exact Or.inr rfl) (pe_cmpR (u_notinV hu) (pv 10) (pe_lst (pa_cons pe_non (pa_cons pe_str pa_nil))) (by rfl))) (pss_one (ps_set (i := 14) sc_law_deed.nd rfl (by first | exact Or.inl rfl | exact Or.inr rfl) (pe_lamP (t := fun E => (tMeth a.c_Sounds "end" (sp_Sounds_end K a) [] E (tVar 2) (tCons (tVar 4) tNil))) rfl T.mg_law_told T.fn_law_told.kp lkT hcdT biT sc_law_told rfl (by first | exact Or.inl rfl | exact Or.inr (Or.inl rfl)) (told_gives rfl T.mgc_SoundFault (by decide) (fun _ => rfl)) TB_law_deed rfl hr_lam (lamS_by (sc := defScope s_law_deed) (by decide +kernel)) rfl (by intros; rfl) (fun A outer s H E f c' hrl => (pe_meth (pv 2) T.cl_Sounds T.me_Sounds_end G_Sounds_end (hrl.mono (by decide)) T.bi_Sounds_end .nil passLam (pa_cons (pv 4) pa_nil)))))))) (pss_cons (ps_if (pt_tru (pv 17)) (pss_one (ps_asg (pe_ifExp (pt_cmpR (u_eq hu) (pv 3) pe_int (nomark _)) (pe_ifExp (pt_cmpR (u_eq hu) (pv 10) pe_str (nomark _)) pe_str pe_str) pe_str) (pg_sub (pv 6) pe_str (u_set hu)))) pss_nil) (pss_one (ps_ret (pe_tup (pa_cons (pv 14) (pa_cons (pe_ifExp (pt_tru (pv 17)) pe_non pe_str) pa_nil)))))))))))))))))))))
theorem fno_law : ∀ (j : Nat) (d : LamD), F_law[j]? = some d → noOwn d.sc = true := by
  rintro (_|_|_|_|_) d hj <;> cases hj <;> decide +kernel
theorem fbi_law : ∀ (j : Nat) (d : LamD), F_law[j]? = some d → ∀ (c' : Addr) (pm ctv : Value), bindArgs (PySem.W.kla_fn "<lambda>" (lamq "law") d.ps d.body d.sc [] pm (.ref c') ctv) ⟨[], []⟩ = pure [] := by
  rintro (_|_|_|_|_) d hj <;> cases hj <;> (intros; rfl)
theorem ok_law (T : Txt K mg a) (G_Call__init : FnOk P w K mg base (L2.CX P w) 1 a.f_Call__init a.fd_Call__init ["self", "number", "other", "came"] (sp_Call__init K a)) (G_Player__init : FnOk P w K mg base (L2.CX P w) 1 a.f_Player__init a.fd_Player__init ["self", "app", "ask"] (sp_Player__init K a)) (G_Sounds__init : FnOk P w K mg base (L2.CX P w) 1 a.f_Sounds__init a.fd_Sounds__init ["self"] (sp_Sounds__init K a)) (G_Sounds_call : FnOk P w K mg base (L2.CX P w) 1 a.f_Sounds_call a.fd_Sounds_call ["self", "number"] (sp_Sounds_call K a)) (G_Sounds_end : FnOk P w K mg base (L2.CX P w) 10 a.f_Sounds_end a.fd_Sounds_end ["self", "number"] (sp_Sounds_end K a)) (G_Sounds_in_call : FnOk P w K mg base (L2.CX P w) 8 a.f_Sounds_in_call a.fd_Sounds_in_call ["self"] (sp_Sounds_in_call K a)) (G_Sounds_open_calls : FnOk P w K mg base (L2.CX P w) 8 a.f_Sounds_open_calls a.fd_Sounds_open_calls ["self"] (sp_Sounds_open_calls K a)) (G_Sounds_play : FnOk P w K mg base (L2.CX P w) 10 a.f_Sounds_play a.fd_Sounds_play ["self", "app", "ask"] (sp_Sounds_play K a)) (G_Sounds_shown : FnOk P w K mg base (L2.CX P w) 8 a.f_Sounds_shown a.fd_Sounds_shown ["self"] (sp_Sounds_shown K a)) (G_Sounds_swap : FnOk P w K mg base (L2.CX P w) 9 a.f_Sounds_swap a.fd_Sounds_swap ["self"] (sp_Sounds_swap K a)) (G_law_deed : FnOk P w K mg base (L2.CX P w) 14 a.f_law_deed a.fd_law_deed ["dice", "own", "sounds"] (sp_law_deed K a)) (G_law_roll : FnOk P w K mg base (L2.CX P w) 1 a.f_law_roll a.fd_law_roll ["dice", "many"] (sp_law_roll K a)) (G_law_rounds : FnOk P w K mg base (L2.CX P w) 2 a.f_law_rounds a.fd_law_rounds ["script", "most"] (sp_law_rounds K a)) (G_law_states : FnOk P w K mg base (L2.CX P w) 1 a.f_law_states a.fd_law_states ["own"] (sp_law_states K a)) (TB_law : TabB base mg a.cc_law a.tb_law) : FnOk P w K mg base (L2.CX P w) 15 a.f_law a.fd_law ["script"] (sp_law K a) := by
  refine FunD.okC T.fn_law sc_law (fun _ _ _ _ h => h.1) (fun cdv A outer s H vs Q E hr hcc h => ⟨t_law K a E, ?_, pure_law T h⟩)
  have hu := hr.units
  have hm_Call__init := hr.mono (show 2 ≤ 14 by decide)
  have hm_Player__init := hr.mono (show 2 ≤ 14 by decide)
  have hm_Sounds__init := hr.mono (show 2 ≤ 14 by decide)
  have hr_Sounds_call := hr.mono (show 1 ≤ 14 by decide)
  have hr_Sounds_in_call := hr.mono (show 8 ≤ 14 by decide)
  have hr_Sounds_open_calls := hr.mono (show 8 ≤ 14 by decide)
  have hr_Sounds_shown := hr.mono (show 8 ≤ 14 by decide)
  have hr_law_deed := hr.mono (show 14 ≤ 14 by decide)
  have hr_law_roll := hr.mono (show 1 ≤ 14 by decide)
  have hr_law_rounds := hr.mono (show 2 ≤ 14 by decide)
  have hr_law_states := hr.mono (show 1 ≤ 14 by decide)
  have hcode : cdv = .ref a.cc_law := hcc.symm.trans T.cd_law
  subst hcode
  have hr_lam := hr.mono (show 10 + 2 ≤ 14 by decide)
  obtain ⟨oc1, od1, dV1, kV1, doc1, pm1, an1, cd1, ct1, osl1, efd, lkT, hcdT, _, _⟩ := T.fn_law_told.ex
  have biT := T.bi_law_told
  rw [efd] at lkT biT
  have hfam : ∀ (Xc : Cx), Xc.mg = mg → Xc.K = K → Xc.prog = P → Xc.w = w → Xc.base = base → ∀ (j : Nat) (d : LamD), F_law[j]? = some d → ∀ (A : Around) (outer : List Env) (s : Shared) (H : Hp) (E : XK) (f c' : Addr), Room 10 (A.deeper (PySem.W.envX (lamq "law") d.sc s.heap.objs.size f (.ref c') [])) → PE (lamCx0 Xc (lamq "law") A outer s H E d.sc f c') d.body (TF_law K a j E) := by
    intro Xc e1 e2 e3 e4 e5
    subst e1 e2 e3 e4 e5
    rintro (_|_|_|_|_) d hj A outer s H E f c' hrl
    · cases hj; exact (pe_meth (pe_make0 T.mk_Sounds G_Sounds__init (hrl.mono (by decide)) rfl T.mgc_Sounds T.bi_Sounds__init .nil passLam0) T.cl_Sounds T.me_Sounds_play G_Sounds_play (hrl.mono (by decide)) T.bi_Sounds_play .nil passLam0 (pa_cons pe_str (pa_cons pe_str pa_nil)))
    · cases hj; exact (pe_meth0 (pe_make0 T.mk_Sounds G_Sounds__init (hrl.mono (by decide)) rfl T.mgc_Sounds T.bi_Sounds__init .nil passLam0) T.cl_Sounds T.me_Sounds_swap G_Sounds_swap (hrl.mono (by decide)) T.bi_Sounds_swap .nil passLam0)
    · cases hj; exact (pe_meth (pe_make0 T.mk_Sounds G_Sounds__init (hrl.mono (by decide)) rfl T.mgc_Sounds T.bi_Sounds__init .nil passLam0) T.cl_Sounds T.me_Sounds_end G_Sounds_end (hrl.mono (by decide)) T.bi_Sounds_end .nil passLam0 (pa_cons pe_int pa_nil))
    · cases hj; exact (pe_meth (pe_make0 T.mk_Sounds G_Sounds__init (hrl.mono (by decide)) rfl T.mgc_Sounds T.bi_Sounds__init .nil passLam0) T.cl_Sounds T.me_Sounds_call G_Sounds_call (hrl.mono (by decide)) T.bi_Sounds_call .nil passLam0 (pa_cons pe_int pa_nil))
    · cases hj
  exact (pss_cons (ps_for (passes_of rfl) rfl (pi_list (pe_call G_law_rounds hr_law_rounds rfl T.mg_law_rounds T.fn_law_rounds.kp T.bi_law_rounds .nil passX (pa_cons (pv 0) (pa_cons pe_int pa_nil)))) (pg_name (i := 1) sc_law.nd rfl (by first | exact Or.inl rfl | exact Or.inr rfl)) (pss_cons (ps_asg (pe_tup (pa_cons (pe_make0 T.mk_Sounds G_Sounds__init hm_Sounds__init rfl T.mgc_Sounds T.bi_Sounds__init .nil passX) (pa_cons (pe_disp (pps_cons pe_str (pe_lst pa_nil) (pps_cons pe_str pe_dnewK pps_nil)) (by rfl) (by rfl) (fun z => by cases z) (by decide)) pa_nil))) (pg_tup rfl (pgs_cons (pg_name (i := 2) sc_law.nd rfl (by first | exact Or.inl rfl | exact Or.inr rfl)) (pgs_cons (pg_name (i := 3) sc_law.nd rfl (by first | exact Or.inl rfl | exact Or.inr rfl)) pgs_nil)))) (pss_one (ps_for (passes_of rfl) rfl (pi_range1 rfl T.no_range (pa_cons (pe_call G_law_roll hr_law_roll rfl T.mg_law_roll T.fn_law_roll.kp T.bi_law_roll .nil passX (pa_cons (pv 1) (pa_cons pe_int pa_nil))) pa_nil)) (pg_name (i := 4) sc_law.nd rfl (by first | exact Or.inl rfl | exact Or.inr rfl)) (pss_cons (ps_asg (pe_call G_law_deed hr_law_deed rfl T.mg_law_deed T.fn_law_deed.kp T.bi_law_deed .nil passX (pa_cons (pv 1) (pa_cons (pv 3) (pa_cons (pv 2) pa_nil)))) (pg_tup rfl (pgs_cons (pg_name (i := 5) sc_law.nd rfl (by first | exact Or.inl rfl | exact Or.inr rfl)) (pgs_cons (pg_name (i := 6) sc_law.nd rfl (by first | exact Or.inl rfl | exact Or.inr rfl)) pgs_nil)))) (pss_cons (ps_set (i := 7) sc_law.nd rfl (by first | exact Or.inl rfl | exact Or.inr rfl) (pe_ix (u_ix hu) (pv 3) pe_str (fun _ _ => rfl))) (pss_cons (ps_if (PW.pt (pw_or (pt_cmpR (u_ne hu) (pv 5) (pv 6) (nomark _)) (pw_or (pt_cmpR (u_ne hu) (pe_meth0 (pv 2) T.cl_Sounds T.me_Sounds_shown G_Sounds_shown hr_Sounds_shown T.bi_Sounds_shown .nil passX) (pe_call G_law_states hr_law_states rfl T.mg_law_states T.fn_law_states.kp T.bi_law_states .nil passX (pa_cons (pv 3) pa_nil)) (nomark _)) (pw_or1 (pt_cmpR (u_ne hu) (pe_lc (own := [("k", 8)]) (g := (gName 8)) (tt := tYes) rfl sc_law.nd (pi_list (pe_callB (u_sorted rfl) (by rfl) T.no_sorted (by decide +kernel) (pa_cons (pv 7) pa_nil))) (blkOk_by (N := N_law) (sc := defScope s_law) (by decide +kernel)) (fun _ _ _ _ _ => (pg_name (i := 8) sc_law.nd rfl (by first | exact Or.inl rfl | exact Or.inr rfl))) (fun _ _ _ _ _ => pts_nil) (fun _ _ _ _ _ => (pe_tup (pa_cons (pv 8) (pa_cons (pe_fld (pe_meth (pv 2) T.cl_Sounds T.me_Sounds_call G_Sounds_call hr_Sounds_call T.bi_Sounds_call .nil passL (pa_cons (pv 8) pa_nil)) rfl) pa_nil))))) (pe_lc (own := [("k", 8)]) (g := (gName 8)) (tt := tYes) rfl sc_law.nd (pi_list (pe_callB (u_sorted rfl) (by rfl) T.no_sorted (by decide +kernel) (pa_cons (pv 7) pa_nil))) (blkOk_by (N := N_law) (sc := defScope s_law) (by decide +kernel)) (fun _ _ _ _ _ => (pg_name (i := 8) sc_law.nd rfl (by first | exact Or.inl rfl | exact Or.inr rfl))) (fun _ _ _ _ _ => pts_nil) (fun _ _ _ _ _ => (pe_tup (pa_cons (pv 8) (pa_cons (pe_ix (u_ix hu) (pe_ix (u_ix hu) (pv 7) (pv 8) (fun _ _ => rfl)) pe_str (fun _ _ => rfl)) pa_nil))))) (nomark _)))))) (pss_one (ps_ret pe_bl)) pss_nil) (pss_cons (ps_setLc (i := 9) (own := [("k", 8)]) (g := (gName 8)) (tt := (tTest (tOp (rNeU K) (tOp (rIxU K) (tOp (rIxU K) (tVar 7) (tVar 8)) (tC (.str "state"))) (tC (.str "ended"))))) rfl sc_law.nd rfl rfl (sw_true rfl rfl rfl (by decide +kernel)) (pi_list (pe_callB (u_sorted rfl) (by rfl) T.no_sorted (by decide +kernel) (pa_cons (pv 7) pa_nil))) (blkOk_by (N := N_law) (sc := defScope s_law) (by decide +kernel)) (fun _ _ _ _ _ => (pg_name (i := 8) sc_law.nd rfl (by first | exact Or.inl rfl | exact Or.inr rfl))) (fun _ _ _ _ _ => (pts_one (pt_cmpR (u_ne hu) (pe_ix (u_ix hu) (pe_ix (u_ix hu) (pv 7) (pv 8) (fun _ _ => rfl)) pe_str (fun _ _ => rfl)) pe_str (nomark _)))) (fun _ _ _ _ _ => (pv 8))) (pss_cons (ps_if (PW.pt (pw_or (pt_cmpR (u_ne hu) (pe_meth0 (pv 2) T.cl_Sounds T.me_Sounds_open_calls G_Sounds_open_calls hr_Sounds_open_calls T.bi_Sounds_open_calls .nil passX) (pe_callTy call_tuple_of (by rfl) T.no_tuple (by decide +kernel) (pa_cons (pv 9) pa_nil)) (nomark _)) (pw_or (pt_cmpR u_gt (pe_callB u_len (by rfl) T.no_len (by decide +kernel) (pa_cons (pv 9) pa_nil)) pe_int (nomark _)) (pw_or1 (pt_cmpR u_gt (pe_callB u_len (by rfl) T.no_len (by decide +kernel) (pa_cons (pe_lc (own := [("k", 8)]) (g := (gName 8)) (tt := (tTest (tOp (rEqU K) (tOp (rIxU K) (tOp (rIxU K) (tVar 7) (tVar 8)) (tC (.str "state"))) (tC (.str "active"))))) rfl sc_law.nd (pi_list (pv 9)) (blkOk_by (N := N_law) (sc := defScope s_law) (by decide +kernel)) (fun _ _ _ _ _ => (pg_name (i := 8) sc_law.nd rfl (by first | exact Or.inl rfl | exact Or.inr rfl))) (fun _ _ _ _ _ => (pts_one (pt_cmpR (u_eq hu) (pe_ix (u_ix hu) (pe_ix (u_ix hu) (pv 7) (pv 8) (fun _ _ => rfl)) pe_str (fun _ _ => rfl)) pe_str (nomark _)))) (fun _ _ _ _ _ => (pv 8))) pa_nil)) pe_int (nomark _)))))) (pss_one (ps_ret pe_bl)) pss_nil) (pss_one (ps_if (PW.pt (pw_or (PW.pt (pw_and (pt_tru (pe_meth0 (pv 2) T.cl_Sounds T.me_Sounds_in_call G_Sounds_in_call hr_Sounds_in_call T.bi_Sounds_in_call .nil passX)) (pw_and1 (pt_cmpR (u_ne hu) (pe_lc (own := [("row", 10)]) (g := (gName 10)) (tt := (tTest (tOp (rNeU K) (tOp (rIxU K) (tVar 10) (tC (.int 2))) (tC (.str "waiting"))))) rfl sc_law.nd (pi_tup (pe_meth0 (pv 2) T.cl_Sounds T.me_Sounds_shown G_Sounds_shown hr_Sounds_shown T.bi_Sounds_shown .nil passX)) (blkOk_by (N := N_law) (sc := defScope s_law) (by decide +kernel)) (fun _ _ _ _ _ => (pg_name (i := 10) sc_law.nd rfl (by first | exact Or.inl rfl | exact Or.inr rfl))) (fun _ _ _ _ _ => (pts_one (pt_cmpR (u_ne hu) (pe_ix (u_ix hu) (pv 10) pe_int (fun _ _ => rfl)) pe_str (nomark _)))) (fun _ _ _ _ _ => (pv 10))) (pe_lst pa_nil) (nomark _))))) (pw_or1 (pt_cmpR (u_ne hu) (pe_meth0 (pv 2) T.cl_Sounds T.me_Sounds_in_call G_Sounds_in_call hr_Sounds_in_call T.bi_Sounds_in_call .nil passX) (pe_cmpR (u_ne hu) (pe_lc (own := [("k", 8)]) (g := (gName 8)) (tt := (tTest (tOp (rNeU K) (tOp (rIxU K) (tOp (rIxU K) (tVar 7) (tVar 8)) (tC (.str "state"))) (tC (.str "held"))))) rfl sc_law.nd (pi_list (pv 9)) (blkOk_by (N := N_law) (sc := defScope s_law) (by decide +kernel)) (fun _ _ _ _ _ => (pg_name (i := 8) sc_law.nd rfl (by first | exact Or.inl rfl | exact Or.inr rfl))) (fun _ _ _ _ _ => (pts_one (pt_cmpR (u_ne hu) (pe_ix (u_ix hu) (pe_ix (u_ix hu) (pv 7) (pv 8) (fun _ _ => rfl)) pe_str (fun _ _ => rfl)) pe_str (nomark _)))) (fun _ _ _ _ _ => (pv 8))) (pe_lst pa_nil) (nomark _)) (nomark _))))) (pss_one (ps_ret pe_bl)) pss_nil))))))))))) (pss_cons (ps_set (i := 11) sc_law.nd rfl (by first | exact Or.inl rfl | exact Or.inr rfl) (pe_lst (pa_cons (pe_lamV (d := D_law_3) TB_law rfl rfl (by decide +kernel)) (pa_cons (pe_lamV (d := D_law_2) TB_law rfl rfl (by decide +kernel)) (pa_cons (pe_lamV (d := D_law_1) TB_law rfl rfl (by decide +kernel)) (pa_cons (pe_lamV (d := D_law_0) TB_law rfl rfl (by decide +kernel)) pa_nil)))))) (pss_one (ps_ret (pe_and (pe_cmpR (u_eq hu) (pe_lc (own := [("f", 12)]) (g := (gName 12)) (tt := (tTest (tOp (rNeU K) (tToldV K a.c_SoundFault "SoundFault" (lamq "law") 13 12 F_law (TF_law K a)) (tC (.str "SoundFault"))))) rfl sc_law.nd (pi_list (pv 11)) (blkOk_by (N := N_law) (sc := defScope s_law) (by decide +kernel)) (fun _ _ _ _ _ => (pg_name (i := 12) sc_law.nd rfl (by first | exact Or.inl rfl | exact Or.inr rfl))) (fun _ _ _ _ _ => (pts_one (pt_cmpR (u_ne hu) (pe_toldV (i := 12) (fam := F_law) (t := TF_law K a) rfl T.mg_law_told T.fn_law_told.kp lkT hcdT biT sc_law_told rfl (by first | exact Or.inl rfl | exact Or.inr (Or.inl rfl)) (told_gives rfl T.mgc_SoundFault (by decide) (fun _ => rfl)) rfl (by first | exact Or.inl rfl | exact Or.inr (Or.inl rfl) | exact Or.inr (Or.inr rfl)) hr_lam fno_law fbi_law (hfam _ rfl rfl rfl rfl rfl)) pe_str (nomark _)))) (fun _ _ _ _ _ => pe_int)) (pe_lst pa_nil) (nomark _)) (pe_and (pe_cmpR (u_eq hu) (pe_fld (pe_make T.mk_Call G_Call__init hm_Call__init rfl T.mgc_Call T.bi_Call__init .nil passX (pa_cons pe_int (pa_cons pe_str (pa_cons pe_bl pa_nil)))) rfl) pe_str (nomark _)) (pe_one (pe_cmpR (u_eq hu) (pe_fld (pe_make T.mk_Player G_Player__init hm_Player__init rfl T.mgc_Player T.bi_Player__init .nil passX (pa_cons pe_str (pa_cons pe_str pa_nil))) rfl) pe_str (nomark _)))))))))
end
end Wk
namespace Wk
open PySem PySem.Spec PyProof.Rows L2 Ph
open LamX (TabB)
section
variable {P : Program} {w : World} {K : PySem.W.Frag} {mg : Str → Option Value} {base : Heap} {a : Adr}
theorem ok_all (T : Txt K mg a) (TB_Sounds_in_call : TabB base mg a.cc_Sounds_in_call a.tb_Sounds_in_call) (TB_Sounds_open_calls : TabB base mg a.cc_Sounds_open_calls a.tb_Sounds_open_calls) (TB_Sounds_shown : TabB base mg a.cc_Sounds_shown a.tb_Sounds_shown) (TB_Sounds_dial : TabB base mg a.cc_Sounds_dial a.tb_Sounds_dial) (TB_law_deed : TabB base mg a.cc_law_deed a.tb_law_deed) (TB_law : TabB base mg a.cc_law a.tb_law) : FnOk P w K mg base (L2.CX P w) 15 a.f_law a.fd_law ["script"] (sp_law K a) := by
  have G_Call__init : FnOk P w K mg base (L2.CX P w) 1 a.f_Call__init a.fd_Call__init ["self", "number", "other", "came"] (sp_Call__init K a) := ok_Call__init T 
  have G_Player__init : FnOk P w K mg base (L2.CX P w) 1 a.f_Player__init a.fd_Player__init ["self", "app", "ask"] (sp_Player__init K a) := ok_Player__init T 
  have G_Sounds__init : FnOk P w K mg base (L2.CX P w) 1 a.f_Sounds__init a.fd_Sounds__init ["self"] (sp_Sounds__init K a) := ok_Sounds__init T 
  have G_Sounds_call : FnOk P w K mg base (L2.CX P w) 1 a.f_Sounds_call a.fd_Sounds_call ["self", "number"] (sp_Sounds_call K a) := ok_Sounds_call T 
  have G_Sounds_in_call : FnOk P w K mg base (L2.CX P w) 8 a.f_Sounds_in_call a.fd_Sounds_in_call ["self"] (sp_Sounds_in_call K a) := ok_Sounds_in_call T TB_Sounds_in_call
  have G_Sounds_settle : FnOk P w K mg base (L2.CX P w) 9 a.f_Sounds_settle a.fd_Sounds_settle ["self"] (sp_Sounds_settle K a) := ok_Sounds_settle T G_Sounds_in_call
  have G_Sounds_end : FnOk P w K mg base (L2.CX P w) 10 a.f_Sounds_end a.fd_Sounds_end ["self", "number"] (sp_Sounds_end K a) := ok_Sounds_end T G_Sounds_call G_Sounds_settle
  have G_Sounds_open_calls : FnOk P w K mg base (L2.CX P w) 8 a.f_Sounds_open_calls a.fd_Sounds_open_calls ["self"] (sp_Sounds_open_calls K a) := ok_Sounds_open_calls T TB_Sounds_open_calls
  have G_Sounds_play : FnOk P w K mg base (L2.CX P w) 10 a.f_Sounds_play a.fd_Sounds_play ["self", "app", "ask"] (sp_Sounds_play K a) := ok_Sounds_play T G_Player__init G_Sounds_in_call G_Sounds_settle
  have G_Sounds_shown : FnOk P w K mg base (L2.CX P w) 8 a.f_Sounds_shown a.fd_Sounds_shown ["self"] (sp_Sounds_shown K a) := ok_Sounds_shown T TB_Sounds_shown
  have G_Sounds_swap : FnOk P w K mg base (L2.CX P w) 9 a.f_Sounds_swap a.fd_Sounds_swap ["self"] (sp_Sounds_swap K a) := ok_Sounds_swap T G_Sounds_open_calls
  have G_Sounds_hold_active : FnOk P w K mg base (L2.CX P w) 9 a.f_Sounds_hold_active a.fd_Sounds_hold_active ["self"] (sp_Sounds_hold_active K a) := ok_Sounds_hold_active T G_Sounds_open_calls
  have G_Sounds_answer : FnOk P w K mg base (L2.CX P w) 10 a.f_Sounds_answer a.fd_Sounds_answer ["self", "number"] (sp_Sounds_answer K a) := ok_Sounds_answer T G_Sounds_call G_Sounds_hold_active G_Sounds_settle
  have G_Sounds_add : FnOk P w K mg base (L2.CX P w) 10 a.f_Sounds_add a.fd_Sounds_add ["self", "other", "came"] (sp_Sounds_add K a) := ok_Sounds_add T G_Call__init G_Sounds_settle
  have G_Sounds_come : FnOk P w K mg base (L2.CX P w) 11 a.f_Sounds_come a.fd_Sounds_come ["self", "other"] (sp_Sounds_come K a) := ok_Sounds_come T G_Sounds_add G_Sounds_open_calls
  have G_Sounds_dial : FnOk P w K mg base (L2.CX P w) 11 a.f_Sounds_dial a.fd_Sounds_dial ["self", "other"] (sp_Sounds_dial K a) := ok_Sounds_dial T G_Sounds_add G_Sounds_hold_active G_Sounds_open_calls TB_Sounds_dial
  have G_Sounds_hold : FnOk P w K mg base (L2.CX P w) 10 a.f_Sounds_hold a.fd_Sounds_hold ["self", "number"] (sp_Sounds_hold K a) := ok_Sounds_hold T G_Sounds_call G_Sounds_open_calls G_Sounds_settle
  have G_Sounds_stop : FnOk P w K mg base (L2.CX P w) 10 a.f_Sounds_stop a.fd_Sounds_stop ["self", "app"] (sp_Sounds_stop K a) := ok_Sounds_stop T G_Sounds_settle
  have G_law_roll : FnOk P w K mg base (L2.CX P w) 1 a.f_law_roll a.fd_law_roll ["dice", "many"] (sp_law_roll K a) := ok_law_roll T 
  have G_law_deed : FnOk P w K mg base (L2.CX P w) 14 a.f_law_deed a.fd_law_deed ["dice", "own", "sounds"] (sp_law_deed K a) := ok_law_deed T G_Sounds_answer G_Sounds_come G_Sounds_dial G_Sounds_end G_Sounds_hold G_Sounds_play G_Sounds_stop G_Sounds_swap G_law_roll TB_law_deed
  have G_law_dice : FnOk P w K mg base (L2.CX P w) 1 a.f_law_dice a.fd_law_dice ["cell"] (sp_law_dice K a) := ok_law_dice T 
  have G_law_rounds : FnOk P w K mg base (L2.CX P w) 2 a.f_law_rounds a.fd_law_rounds ["script", "most"] (sp_law_rounds K a) := ok_law_rounds T G_law_dice
  have G_law_states : FnOk P w K mg base (L2.CX P w) 1 a.f_law_states a.fd_law_states ["own"] (sp_law_states K a) := ok_law_states T 
  exact ok_law T G_Call__init G_Player__init G_Sounds__init G_Sounds_call G_Sounds_end G_Sounds_in_call G_Sounds_open_calls G_Sounds_play G_Sounds_shown G_Sounds_swap G_law_deed G_law_roll G_law_rounds G_law_states TB_law
theorem cd_of {x qual : Str} {params : Arguments} {body : List Stmt} {scope : Scope} {dvs : List V} {kws : List (Str × V)} {p : Str × Option Str} {fd : FuncData} (F : FunD K x qual params body scope dvs kws (He.fAd K p) fd) : fd.code = .ref (He.cT K p).1 := by
  obtain ⟨oc, od, dV, kV, doc, pm, an, cdv, ct, osl, rfl, lk, hcd, _, _⟩ := F.ex
  obtain ⟨c, rfl⟩ := He.codeIn_ref hcd
  show Value.ref c = .ref (He.codeOf K p)
  rw [He.codeOf_eq lk rfl]
theorem bnd_full {fd : FuncData} {ps : List Str} {dvs : List V} (h : ∃ ds, Vals (dvs.drop dvs.length) ds ∧ Binds K fd ps ds) : Binds K fd ps [] := by
  obtain ⟨ds, v, b⟩ := h
  rw [List.drop_length] at v
  cases v
  exact b
end
def faD_0 : List He.Fa := [.cls "Player", .noat "Player" "app", .noat "Player" "way", .noat "Player" "state", .glo "Player", .mkr "Player", .cls "Call", .noat "Call" "number", .noat "Call" "other", .noat "Call" "came", .noat "Call" "state", .glo "Call", .mkr "Call", .cls "Sounds", .noat "Sounds" "players", .noat "Sounds" "calls", .noat "Sounds" "count", .glo "Sounds", .mkr "Sounds", .meth "Sounds" "shown", .meth "Sounds" "play", .meth "Sounds" "stop", .meth "Sounds" "settle", .meth "Sounds" "call", .meth "Sounds" "in_call", .meth "Sounds" "open_calls", .meth "Sounds" "dial", .meth "Sounds" "come", .meth "Sounds" "add", .meth "Sounds" "hold_active"]
def faD_1 : List He.Fa := [.meth "Sounds" "answer", .meth "Sounds" "swap", .meth "Sounds" "hold", .meth "Sounds" "end", .glo "_law_dice", .glo "_law_roll", .glo "_law_rounds", .glo "_law_told", .glo "_law_states", .glo "_law_deed", .glo "law", .free "abs", .free "any", .free "dict", .free "int", .free "len", .free "list", .free "min", .free "range", .free "sorted", .free "tuple", .glo "ASKS", .glo "SoundFault", .exc "SoundFault", .exm "SoundFault" "SoundFault" true]
def faD : List He.Fa := faD_0 ++ faD_1
def dD_Player__init : He.DefD := ⟨("Player", some "__init__"), "__init__", "Player.__init__", defArgs s_Player__init, defBody s_Player__init, defScope s_Player__init, [], []⟩
def dD_Call__init : He.DefD := ⟨("Call", some "__init__"), "__init__", "Call.__init__", defArgs s_Call__init, defBody s_Call__init, defScope s_Call__init, [], []⟩
def dD_Sounds__init : He.DefD := ⟨("Sounds", some "__init__"), "__init__", "Sounds.__init__", defArgs s_Sounds__init, defBody s_Sounds__init, defScope s_Sounds__init, [], []⟩
def dD_Sounds_shown : He.DefD := ⟨("Sounds", some "shown"), "shown", "Sounds.shown", defArgs s_Sounds_shown, defBody s_Sounds_shown, defScope s_Sounds_shown, [], []⟩
def dD_Sounds_play : He.DefD := ⟨("Sounds", some "play"), "play", "Sounds.play", defArgs s_Sounds_play, defBody s_Sounds_play, defScope s_Sounds_play, [], []⟩
def dD_Sounds_stop : He.DefD := ⟨("Sounds", some "stop"), "stop", "Sounds.stop", defArgs s_Sounds_stop, defBody s_Sounds_stop, defScope s_Sounds_stop, [], []⟩
def dD_Sounds_settle : He.DefD := ⟨("Sounds", some "settle"), "settle", "Sounds.settle", defArgs s_Sounds_settle, defBody s_Sounds_settle, defScope s_Sounds_settle, [], []⟩
def dD_Sounds_call : He.DefD := ⟨("Sounds", some "call"), "call", "Sounds.call", defArgs s_Sounds_call, defBody s_Sounds_call, defScope s_Sounds_call, [], []⟩
def dD_Sounds_in_call : He.DefD := ⟨("Sounds", some "in_call"), "in_call", "Sounds.in_call", defArgs s_Sounds_in_call, defBody s_Sounds_in_call, defScope s_Sounds_in_call, [], []⟩
def dD_Sounds_open_calls : He.DefD := ⟨("Sounds", some "open_calls"), "open_calls", "Sounds.open_calls", defArgs s_Sounds_open_calls, defBody s_Sounds_open_calls, defScope s_Sounds_open_calls, [], []⟩
def dD_Sounds_dial : He.DefD := ⟨("Sounds", some "dial"), "dial", "Sounds.dial", defArgs s_Sounds_dial, defBody s_Sounds_dial, defScope s_Sounds_dial, [], []⟩
def dD_Sounds_come : He.DefD := ⟨("Sounds", some "come"), "come", "Sounds.come", defArgs s_Sounds_come, defBody s_Sounds_come, defScope s_Sounds_come, [], []⟩
def dD_Sounds_add : He.DefD := ⟨("Sounds", some "add"), "add", "Sounds.add", defArgs s_Sounds_add, defBody s_Sounds_add, defScope s_Sounds_add, [], []⟩
def dD_Sounds_hold_active : He.DefD := ⟨("Sounds", some "hold_active"), "hold_active", "Sounds.hold_active", defArgs s_Sounds_hold_active, defBody s_Sounds_hold_active, defScope s_Sounds_hold_active, [], []⟩
def dD_Sounds_answer : He.DefD := ⟨("Sounds", some "answer"), "answer", "Sounds.answer", defArgs s_Sounds_answer, defBody s_Sounds_answer, defScope s_Sounds_answer, [], []⟩
def dD_Sounds_swap : He.DefD := ⟨("Sounds", some "swap"), "swap", "Sounds.swap", defArgs s_Sounds_swap, defBody s_Sounds_swap, defScope s_Sounds_swap, [], []⟩
def dD_Sounds_hold : He.DefD := ⟨("Sounds", some "hold"), "hold", "Sounds.hold", defArgs s_Sounds_hold, defBody s_Sounds_hold, defScope s_Sounds_hold, [], []⟩
def dD_Sounds_end : He.DefD := ⟨("Sounds", some "end"), "end", "Sounds.end", defArgs s_Sounds_end, defBody s_Sounds_end, defScope s_Sounds_end, [], []⟩
def dD_law_dice : He.DefD := ⟨("_law_dice", none), "_law_dice", "_law_dice", defArgs s_law_dice, defBody s_law_dice, defScope s_law_dice, [], []⟩
def dD_law_roll : He.DefD := ⟨("_law_roll", none), "_law_roll", "_law_roll", defArgs s_law_roll, defBody s_law_roll, defScope s_law_roll, [], []⟩
def dD_law_rounds : He.DefD := ⟨("_law_rounds", none), "_law_rounds", "_law_rounds", defArgs s_law_rounds, defBody s_law_rounds, defScope s_law_rounds, [], []⟩
def dD_law_told : He.DefD := ⟨("_law_told", none), "_law_told", "_law_told", defArgs s_law_told, defBody s_law_told, defScope s_law_told, [], []⟩
def dD_law_states : He.DefD := ⟨("_law_states", none), "_law_states", "_law_states", defArgs s_law_states, defBody s_law_states, defScope s_law_states, [], []⟩
def dD_law_deed : He.DefD := ⟨("_law_deed", none), "_law_deed", "_law_deed", defArgs s_law_deed, defBody s_law_deed, defScope s_law_deed, [], []⟩
def dD_law : He.DefD := ⟨("law", none), "law", "law", defArgs s_law, defBody s_law, defScope s_law, [], []⟩
def fnD_0 : List He.DefD := [dD_Player__init, dD_Call__init, dD_Sounds__init, dD_Sounds_shown, dD_Sounds_play, dD_Sounds_stop, dD_Sounds_settle, dD_Sounds_call, dD_Sounds_in_call, dD_Sounds_open_calls, dD_Sounds_dial, dD_Sounds_come, dD_Sounds_add, dD_Sounds_hold_active, dD_Sounds_answer, dD_Sounds_swap, dD_Sounds_hold, dD_Sounds_end, dD_law_dice, dD_law_roll, dD_law_rounds, dD_law_told, dD_law_states, dD_law_deed, dD_law]
def fnD : List He.DefD := fnD_0
def tfD : List He.Defn := [("Sounds", some "shown"), ("Sounds", some "in_call"), ("Sounds", some "open_calls"), ("Sounds", some "dial"), ("_law_deed", none), ("law", none)]
def tupE (K : PySem.W.Frag) (a : Addr) : Bool := match K.lookup a with
  | some ⟨.type n, _, .seq its _, _⟩ => n == "tuple" && its.isEmpty
  | _ => false
theorem tupE_ok {K : PySem.W.Frag} {a : Addr} (h : tupE K a = true) : ∃ (o : Obj) (n : Nat), K.lookup a = some o ∧ o.cls = .type "tuple" ∧ o.data = .seq #[] n := by
  unfold tupE at h
  split at h
  · rename_i n d its k sl e
    simp only [Bool.and_eq_true, beq_iff_eq, Array.isEmpty_iff] at h
    exact ⟨_, k, e, by rw [h.1], by rw [h.2]⟩
  · cases h
def exD (K : PySem.W.Frag) : Bool := decide ((tfD.map fun p => (He.cT K p).2).Nodup) && tupS K (He.ga K "ASKS") ["long", "short", "beside"]
theorem fin {l : PySem.W.OpenLaw} {w : World} {K : PySem.W.Frag} {h : Heap} {mg : Str → Option Value} {fa : Addr} (X : K.In h) (G : h.Ns mainGlobals mg) (hfa : mg "law" = some (.ref fa)) (c : He.SaysX faD fnD [] tfD exD w h K) :
    LamX.LawAtS l w K (L2.CX l.prog w) 15 63 "script" mg fa h := by
  have d := c.t.d
  have more : exD K = true := c.more
  unfold exD at more
  obtain ⟨more, m_tp_ASKS⟩ := (Bool.and_eq_true _ _ ▸ more : _ ∧ _)
  have moreN := more
  obtain ⟨fd_Player__init, F_Player__init⟩ := d.def_ 0 (d := dD_Player__init) rfl
  have F_Player__init : FunD K "__init__" "Player.__init__" (defArgs s_Player__init) (defBody s_Player__init) (defScope s_Player__init) [] [] (He.fAd K ("Player", some "__init__")) fd_Player__init := F_Player__init
  obtain ⟨fd_Call__init, F_Call__init⟩ := d.def_ 1 (d := dD_Call__init) rfl
  have F_Call__init : FunD K "__init__" "Call.__init__" (defArgs s_Call__init) (defBody s_Call__init) (defScope s_Call__init) [] [] (He.fAd K ("Call", some "__init__")) fd_Call__init := F_Call__init
  obtain ⟨fd_Sounds__init, F_Sounds__init⟩ := d.def_ 2 (d := dD_Sounds__init) rfl
  have F_Sounds__init : FunD K "__init__" "Sounds.__init__" (defArgs s_Sounds__init) (defBody s_Sounds__init) (defScope s_Sounds__init) [] [] (He.fAd K ("Sounds", some "__init__")) fd_Sounds__init := F_Sounds__init
  obtain ⟨fd_Sounds_shown, F_Sounds_shown⟩ := d.def_ 3 (d := dD_Sounds_shown) rfl
  have F_Sounds_shown : FunD K "shown" "Sounds.shown" (defArgs s_Sounds_shown) (defBody s_Sounds_shown) (defScope s_Sounds_shown) [] [] (He.fAd K ("Sounds", some "shown")) fd_Sounds_shown := F_Sounds_shown
  obtain ⟨fd_Sounds_play, F_Sounds_play⟩ := d.def_ 4 (d := dD_Sounds_play) rfl
  have F_Sounds_play : FunD K "play" "Sounds.play" (defArgs s_Sounds_play) (defBody s_Sounds_play) (defScope s_Sounds_play) [] [] (He.fAd K ("Sounds", some "play")) fd_Sounds_play := F_Sounds_play
  obtain ⟨fd_Sounds_stop, F_Sounds_stop⟩ := d.def_ 5 (d := dD_Sounds_stop) rfl
  have F_Sounds_stop : FunD K "stop" "Sounds.stop" (defArgs s_Sounds_stop) (defBody s_Sounds_stop) (defScope s_Sounds_stop) [] [] (He.fAd K ("Sounds", some "stop")) fd_Sounds_stop := F_Sounds_stop
  obtain ⟨fd_Sounds_settle, F_Sounds_settle⟩ := d.def_ 6 (d := dD_Sounds_settle) rfl
  have F_Sounds_settle : FunD K "settle" "Sounds.settle" (defArgs s_Sounds_settle) (defBody s_Sounds_settle) (defScope s_Sounds_settle) [] [] (He.fAd K ("Sounds", some "settle")) fd_Sounds_settle := F_Sounds_settle
  obtain ⟨fd_Sounds_call, F_Sounds_call⟩ := d.def_ 7 (d := dD_Sounds_call) rfl
  have F_Sounds_call : FunD K "call" "Sounds.call" (defArgs s_Sounds_call) (defBody s_Sounds_call) (defScope s_Sounds_call) [] [] (He.fAd K ("Sounds", some "call")) fd_Sounds_call := F_Sounds_call
  obtain ⟨fd_Sounds_in_call, F_Sounds_in_call⟩ := d.def_ 8 (d := dD_Sounds_in_call) rfl
  have F_Sounds_in_call : FunD K "in_call" "Sounds.in_call" (defArgs s_Sounds_in_call) (defBody s_Sounds_in_call) (defScope s_Sounds_in_call) [] [] (He.fAd K ("Sounds", some "in_call")) fd_Sounds_in_call := F_Sounds_in_call
  obtain ⟨fd_Sounds_open_calls, F_Sounds_open_calls⟩ := d.def_ 9 (d := dD_Sounds_open_calls) rfl
  have F_Sounds_open_calls : FunD K "open_calls" "Sounds.open_calls" (defArgs s_Sounds_open_calls) (defBody s_Sounds_open_calls) (defScope s_Sounds_open_calls) [] [] (He.fAd K ("Sounds", some "open_calls")) fd_Sounds_open_calls := F_Sounds_open_calls
  obtain ⟨fd_Sounds_dial, F_Sounds_dial⟩ := d.def_ 10 (d := dD_Sounds_dial) rfl
  have F_Sounds_dial : FunD K "dial" "Sounds.dial" (defArgs s_Sounds_dial) (defBody s_Sounds_dial) (defScope s_Sounds_dial) [] [] (He.fAd K ("Sounds", some "dial")) fd_Sounds_dial := F_Sounds_dial
  obtain ⟨fd_Sounds_come, F_Sounds_come⟩ := d.def_ 11 (d := dD_Sounds_come) rfl
  have F_Sounds_come : FunD K "come" "Sounds.come" (defArgs s_Sounds_come) (defBody s_Sounds_come) (defScope s_Sounds_come) [] [] (He.fAd K ("Sounds", some "come")) fd_Sounds_come := F_Sounds_come
  obtain ⟨fd_Sounds_add, F_Sounds_add⟩ := d.def_ 12 (d := dD_Sounds_add) rfl
  have F_Sounds_add : FunD K "add" "Sounds.add" (defArgs s_Sounds_add) (defBody s_Sounds_add) (defScope s_Sounds_add) [] [] (He.fAd K ("Sounds", some "add")) fd_Sounds_add := F_Sounds_add
  obtain ⟨fd_Sounds_hold_active, F_Sounds_hold_active⟩ := d.def_ 13 (d := dD_Sounds_hold_active) rfl
  have F_Sounds_hold_active : FunD K "hold_active" "Sounds.hold_active" (defArgs s_Sounds_hold_active) (defBody s_Sounds_hold_active) (defScope s_Sounds_hold_active) [] [] (He.fAd K ("Sounds", some "hold_active")) fd_Sounds_hold_active := F_Sounds_hold_active
  obtain ⟨fd_Sounds_answer, F_Sounds_answer⟩ := d.def_ 14 (d := dD_Sounds_answer) rfl
  have F_Sounds_answer : FunD K "answer" "Sounds.answer" (defArgs s_Sounds_answer) (defBody s_Sounds_answer) (defScope s_Sounds_answer) [] [] (He.fAd K ("Sounds", some "answer")) fd_Sounds_answer := F_Sounds_answer
  obtain ⟨fd_Sounds_swap, F_Sounds_swap⟩ := d.def_ 15 (d := dD_Sounds_swap) rfl
  have F_Sounds_swap : FunD K "swap" "Sounds.swap" (defArgs s_Sounds_swap) (defBody s_Sounds_swap) (defScope s_Sounds_swap) [] [] (He.fAd K ("Sounds", some "swap")) fd_Sounds_swap := F_Sounds_swap
  obtain ⟨fd_Sounds_hold, F_Sounds_hold⟩ := d.def_ 16 (d := dD_Sounds_hold) rfl
  have F_Sounds_hold : FunD K "hold" "Sounds.hold" (defArgs s_Sounds_hold) (defBody s_Sounds_hold) (defScope s_Sounds_hold) [] [] (He.fAd K ("Sounds", some "hold")) fd_Sounds_hold := F_Sounds_hold
  obtain ⟨fd_Sounds_end, F_Sounds_end⟩ := d.def_ 17 (d := dD_Sounds_end) rfl
  have F_Sounds_end : FunD K "end" "Sounds.end" (defArgs s_Sounds_end) (defBody s_Sounds_end) (defScope s_Sounds_end) [] [] (He.fAd K ("Sounds", some "end")) fd_Sounds_end := F_Sounds_end
  obtain ⟨fd_law_dice, F_law_dice⟩ := d.def_ 18 (d := dD_law_dice) rfl
  have F_law_dice : FunD K "_law_dice" "_law_dice" (defArgs s_law_dice) (defBody s_law_dice) (defScope s_law_dice) [] [] (He.fAd K ("_law_dice", none)) fd_law_dice := F_law_dice
  obtain ⟨fd_law_roll, F_law_roll⟩ := d.def_ 19 (d := dD_law_roll) rfl
  have F_law_roll : FunD K "_law_roll" "_law_roll" (defArgs s_law_roll) (defBody s_law_roll) (defScope s_law_roll) [] [] (He.fAd K ("_law_roll", none)) fd_law_roll := F_law_roll
  obtain ⟨fd_law_rounds, F_law_rounds⟩ := d.def_ 20 (d := dD_law_rounds) rfl
  have F_law_rounds : FunD K "_law_rounds" "_law_rounds" (defArgs s_law_rounds) (defBody s_law_rounds) (defScope s_law_rounds) [] [] (He.fAd K ("_law_rounds", none)) fd_law_rounds := F_law_rounds
  obtain ⟨fd_law_told, F_law_told⟩ := d.def_ 21 (d := dD_law_told) rfl
  have F_law_told : FunD K "_law_told" "_law_told" (defArgs s_law_told) (defBody s_law_told) (defScope s_law_told) [] [] (He.fAd K ("_law_told", none)) fd_law_told := F_law_told
  obtain ⟨fd_law_states, F_law_states⟩ := d.def_ 22 (d := dD_law_states) rfl
  have F_law_states : FunD K "_law_states" "_law_states" (defArgs s_law_states) (defBody s_law_states) (defScope s_law_states) [] [] (He.fAd K ("_law_states", none)) fd_law_states := F_law_states
  obtain ⟨fd_law_deed, F_law_deed⟩ := d.def_ 23 (d := dD_law_deed) rfl
  have F_law_deed : FunD K "_law_deed" "_law_deed" (defArgs s_law_deed) (defBody s_law_deed) (defScope s_law_deed) [] [] (He.fAd K ("_law_deed", none)) fd_law_deed := F_law_deed
  obtain ⟨fd_law, F_law⟩ := d.def_ 24 (d := dD_law) rfl
  have F_law : FunD K "law" "law" (defArgs s_law) (defBody s_law) (defScope s_law) [] [] (He.fAd K ("law", none)) fd_law := F_law
  have e := hfa.symm.trans (He.glo_ok X G (d.fact 40 (f := .glo "law") rfl))
  cases e
  let A : Adr := ⟨He.ga K "Player", He.ga K "Call", He.ga K "Sounds", He.ga K "SoundFault", He.fAd K ("Player", some "__init__"), fd_Player__init, He.fAd K ("Call", some "__init__"), fd_Call__init, He.fAd K ("Sounds", some "__init__"), fd_Sounds__init, He.fAd K ("Sounds", some "shown"), fd_Sounds_shown, He.fAd K ("Sounds", some "play"), fd_Sounds_play, He.fAd K ("Sounds", some "stop"), fd_Sounds_stop, He.fAd K ("Sounds", some "settle"), fd_Sounds_settle, He.fAd K ("Sounds", some "call"), fd_Sounds_call, He.fAd K ("Sounds", some "in_call"), fd_Sounds_in_call, He.fAd K ("Sounds", some "open_calls"), fd_Sounds_open_calls, He.fAd K ("Sounds", some "dial"), fd_Sounds_dial, He.fAd K ("Sounds", some "come"), fd_Sounds_come, He.fAd K ("Sounds", some "add"), fd_Sounds_add, He.fAd K ("Sounds", some "hold_active"), fd_Sounds_hold_active, He.fAd K ("Sounds", some "answer"), fd_Sounds_answer, He.fAd K ("Sounds", some "swap"), fd_Sounds_swap, He.fAd K ("Sounds", some "hold"), fd_Sounds_hold, He.fAd K ("Sounds", some "end"), fd_Sounds_end, He.fAd K ("_law_dice", none), fd_law_dice, He.fAd K ("_law_roll", none), fd_law_roll, He.fAd K ("_law_rounds", none), fd_law_rounds, He.fAd K ("_law_told", none), fd_law_told, He.fAd K ("_law_states", none), fd_law_states, He.fAd K ("_law_deed", none), fd_law_deed, He.fAd K ("law", none), fd_law, (He.cT K ("Sounds", some "shown")).1, (He.cT K ("Sounds", some "shown")).2, (He.cT K ("Sounds", some "in_call")).1, (He.cT K ("Sounds", some "in_call")).2, (He.cT K ("Sounds", some "open_calls")).1, (He.cT K ("Sounds", some "open_calls")).2, (He.cT K ("Sounds", some "dial")).1, (He.cT K ("Sounds", some "dial")).2, (He.cT K ("_law_deed", none)).1, (He.cT K ("_law_deed", none)).2, (He.cT K ("law", none)).1, (He.cT K ("law", none)).2, He.ga K "ASKS"⟩
  have T : Txt K mg A :=
    { cl_Player := He.cls_ok (d.fact 0 (f := .cls "Player") rfl),
      na_Player_app := He.noat_ok (d.fact 1 (f := .noat "Player" "app") rfl),
      na_Player_way := He.noat_ok (d.fact 2 (f := .noat "Player" "way") rfl),
      na_Player_state := He.noat_ok (d.fact 3 (f := .noat "Player" "state") rfl),
      mgc_Player := He.glo_ok X G (d.fact 4 (f := .glo "Player") rfl),
      mk_Player := He.mkr_ok (d.fact 5 (f := .mkr "Player") rfl),
      cl_Call := He.cls_ok (d.fact 6 (f := .cls "Call") rfl),
      na_Call_number := He.noat_ok (d.fact 7 (f := .noat "Call" "number") rfl),
      na_Call_other := He.noat_ok (d.fact 8 (f := .noat "Call" "other") rfl),
      na_Call_came := He.noat_ok (d.fact 9 (f := .noat "Call" "came") rfl),
      na_Call_state := He.noat_ok (d.fact 10 (f := .noat "Call" "state") rfl),
      mgc_Call := He.glo_ok X G (d.fact 11 (f := .glo "Call") rfl),
      mk_Call := He.mkr_ok (d.fact 12 (f := .mkr "Call") rfl),
      cl_Sounds := He.cls_ok (d.fact 13 (f := .cls "Sounds") rfl),
      na_Sounds_players := He.noat_ok (d.fact 14 (f := .noat "Sounds" "players") rfl),
      na_Sounds_calls := He.noat_ok (d.fact 15 (f := .noat "Sounds" "calls") rfl),
      na_Sounds_count := He.noat_ok (d.fact 16 (f := .noat "Sounds" "count") rfl),
      mgc_Sounds := He.glo_ok X G (d.fact 17 (f := .glo "Sounds") rfl),
      mk_Sounds := He.mkr_ok (d.fact 18 (f := .mkr "Sounds") rfl),
      fn_Player__init := F_Player__init,
      bi_Player__init := FunD.bindsN F_Player__init fun _ _ _ _ _ _ us hl => match us, hl with | [_, _, _], _ => rfl,
      fn_Call__init := F_Call__init,
      bi_Call__init := FunD.bindsN F_Call__init fun _ _ _ _ _ _ us hl => match us, hl with | [_, _, _, _], _ => rfl,
      fn_Sounds__init := F_Sounds__init,
      bi_Sounds__init := FunD.bindsN F_Sounds__init fun _ _ _ _ _ _ us hl => match us, hl with | [_], _ => rfl,
      me_Sounds_shown := He.meth_ok (d.fact 19 (f := .meth "Sounds" "shown") rfl),
      fn_Sounds_shown := F_Sounds_shown,
      bi_Sounds_shown := FunD.bindsN F_Sounds_shown fun _ _ _ _ _ _ us hl => match us, hl with | [_], _ => rfl,
      me_Sounds_play := He.meth_ok (d.fact 20 (f := .meth "Sounds" "play") rfl),
      fn_Sounds_play := F_Sounds_play,
      bi_Sounds_play := FunD.bindsN F_Sounds_play fun _ _ _ _ _ _ us hl => match us, hl with | [_, _, _], _ => rfl,
      me_Sounds_stop := He.meth_ok (d.fact 21 (f := .meth "Sounds" "stop") rfl),
      fn_Sounds_stop := F_Sounds_stop,
      bi_Sounds_stop := FunD.bindsN F_Sounds_stop fun _ _ _ _ _ _ us hl => match us, hl with | [_, _], _ => rfl,
      me_Sounds_settle := He.meth_ok (d.fact 22 (f := .meth "Sounds" "settle") rfl),
      fn_Sounds_settle := F_Sounds_settle,
      bi_Sounds_settle := FunD.bindsN F_Sounds_settle fun _ _ _ _ _ _ us hl => match us, hl with | [_], _ => rfl,
      me_Sounds_call := He.meth_ok (d.fact 23 (f := .meth "Sounds" "call") rfl),
      fn_Sounds_call := F_Sounds_call,
      bi_Sounds_call := FunD.bindsN F_Sounds_call fun _ _ _ _ _ _ us hl => match us, hl with | [_, _], _ => rfl,
      me_Sounds_in_call := He.meth_ok (d.fact 24 (f := .meth "Sounds" "in_call") rfl),
      fn_Sounds_in_call := F_Sounds_in_call,
      bi_Sounds_in_call := FunD.bindsN F_Sounds_in_call fun _ _ _ _ _ _ us hl => match us, hl with | [_], _ => rfl,
      me_Sounds_open_calls := He.meth_ok (d.fact 25 (f := .meth "Sounds" "open_calls") rfl),
      fn_Sounds_open_calls := F_Sounds_open_calls,
      bi_Sounds_open_calls := FunD.bindsN F_Sounds_open_calls fun _ _ _ _ _ _ us hl => match us, hl with | [_], _ => rfl,
      me_Sounds_dial := He.meth_ok (d.fact 26 (f := .meth "Sounds" "dial") rfl),
      fn_Sounds_dial := F_Sounds_dial,
      bi_Sounds_dial := FunD.bindsN F_Sounds_dial fun _ _ _ _ _ _ us hl => match us, hl with | [_, _], _ => rfl,
      me_Sounds_come := He.meth_ok (d.fact 27 (f := .meth "Sounds" "come") rfl),
      fn_Sounds_come := F_Sounds_come,
      bi_Sounds_come := FunD.bindsN F_Sounds_come fun _ _ _ _ _ _ us hl => match us, hl with | [_, _], _ => rfl,
      me_Sounds_add := He.meth_ok (d.fact 28 (f := .meth "Sounds" "add") rfl),
      fn_Sounds_add := F_Sounds_add,
      bi_Sounds_add := FunD.bindsN F_Sounds_add fun _ _ _ _ _ _ us hl => match us, hl with | [_, _, _], _ => rfl,
      me_Sounds_hold_active := He.meth_ok (d.fact 29 (f := .meth "Sounds" "hold_active") rfl),
      fn_Sounds_hold_active := F_Sounds_hold_active,
      bi_Sounds_hold_active := FunD.bindsN F_Sounds_hold_active fun _ _ _ _ _ _ us hl => match us, hl with | [_], _ => rfl,
      me_Sounds_answer := He.meth_ok (d.fact 30 (f := .meth "Sounds" "answer") rfl),
      fn_Sounds_answer := F_Sounds_answer,
      bi_Sounds_answer := FunD.bindsN F_Sounds_answer fun _ _ _ _ _ _ us hl => match us, hl with | [_, _], _ => rfl,
      me_Sounds_swap := He.meth_ok (d.fact 31 (f := .meth "Sounds" "swap") rfl),
      fn_Sounds_swap := F_Sounds_swap,
      bi_Sounds_swap := FunD.bindsN F_Sounds_swap fun _ _ _ _ _ _ us hl => match us, hl with | [_], _ => rfl,
      me_Sounds_hold := He.meth_ok (d.fact 32 (f := .meth "Sounds" "hold") rfl),
      fn_Sounds_hold := F_Sounds_hold,
      bi_Sounds_hold := FunD.bindsN F_Sounds_hold fun _ _ _ _ _ _ us hl => match us, hl with | [_, _], _ => rfl,
      me_Sounds_end := He.meth_ok (d.fact 33 (f := .meth "Sounds" "end") rfl),
      fn_Sounds_end := F_Sounds_end,
      bi_Sounds_end := FunD.bindsN F_Sounds_end fun _ _ _ _ _ _ us hl => match us, hl with | [_, _], _ => rfl,
      mg_law_dice := He.glo_ok X G (d.fact 34 (f := .glo "_law_dice") rfl),
      fn_law_dice := F_law_dice,
      bi_law_dice := FunD.bindsN F_law_dice fun _ _ _ _ _ _ us hl => match us, hl with | [_], _ => rfl,
      mg_law_roll := He.glo_ok X G (d.fact 35 (f := .glo "_law_roll") rfl),
      fn_law_roll := F_law_roll,
      bi_law_roll := FunD.bindsN F_law_roll fun _ _ _ _ _ _ us hl => match us, hl with | [_, _], _ => rfl,
      mg_law_rounds := He.glo_ok X G (d.fact 36 (f := .glo "_law_rounds") rfl),
      fn_law_rounds := F_law_rounds,
      bi_law_rounds := FunD.bindsN F_law_rounds fun _ _ _ _ _ _ us hl => match us, hl with | [_, _], _ => rfl,
      mg_law_told := He.glo_ok X G (d.fact 37 (f := .glo "_law_told") rfl),
      fn_law_told := F_law_told,
      bi_law_told := FunD.bindsN F_law_told fun _ _ _ _ _ _ us hl => match us, hl with | [_], _ => rfl,
      mg_law_states := He.glo_ok X G (d.fact 38 (f := .glo "_law_states") rfl),
      fn_law_states := F_law_states,
      bi_law_states := FunD.bindsN F_law_states fun _ _ _ _ _ _ us hl => match us, hl with | [_], _ => rfl,
      mg_law_deed := He.glo_ok X G (d.fact 39 (f := .glo "_law_deed") rfl),
      fn_law_deed := F_law_deed,
      bi_law_deed := FunD.bindsN F_law_deed fun _ _ _ _ _ _ us hl => match us, hl with | [_, _, _], _ => rfl,
      mg_law := He.glo_ok X G (d.fact 40 (f := .glo "law") rfl),
      fn_law := F_law,
      bi_law := FunD.bindsN F_law fun _ _ _ _ _ _ us hl => match us, hl with | [_], _ => rfl,
      no_abs := He.free_ok X G (d.fact 41 (f := .free "abs") rfl),
      no_any := He.free_ok X G (d.fact 42 (f := .free "any") rfl),
      no_dict := He.free_ok X G (d.fact 43 (f := .free "dict") rfl),
      no_int := He.free_ok X G (d.fact 44 (f := .free "int") rfl),
      no_len := He.free_ok X G (d.fact 45 (f := .free "len") rfl),
      no_list := He.free_ok X G (d.fact 46 (f := .free "list") rfl),
      no_min := He.free_ok X G (d.fact 47 (f := .free "min") rfl),
      no_range := He.free_ok X G (d.fact 48 (f := .free "range") rfl),
      no_sorted := He.free_ok X G (d.fact 49 (f := .free "sorted") rfl),
      no_tuple := He.free_ok X G (d.fact 50 (f := .free "tuple") rfl),
      gl_ASKS := He.glo_ok X G (d.fact 51 (f := .glo "ASKS") rfl),
      tp_ASKS := tupS_ok m_tp_ASKS,
      mgc_SoundFault := He.glo_ok X G (d.fact 52 (f := .glo "SoundFault") rfl),
      xc_SoundFault := (He.exc_ok (d.fact 53 (f := .exc "SoundFault") rfl)).1,
      kc_SoundFault := (He.exc_ok (d.fact 53 (f := .exc "SoundFault") rfl)).2.1,
      bc_SoundFault := (He.exc_ok (d.fact 53 (f := .exc "SoundFault") rfl)).2.2.1,
      tc_SoundFault := (He.exc_ok (d.fact 53 (f := .exc "SoundFault") rfl)).2.2.2,
      ec_SoundFault := He.exm_ok (d.fact 54 (f := .exm "SoundFault" "SoundFault" true) rfl),
      cd_Sounds_shown := cd_of F_Sounds_shown,
      cd_Sounds_in_call := cd_of F_Sounds_in_call,
      cd_Sounds_open_calls := cd_of F_Sounds_open_calls,
      cd_Sounds_dial := cd_of F_Sounds_dial,
      cd_law_deed := cd_of F_law_deed,
      cd_law := cd_of F_law }
  have nd : (tfD.map fun p => (He.cT K p).2).Nodup := of_decide_eq_true moreN
  have lay : ∀ H : Hp, (∀ p ∈ tfD.map (He.cT K), H p.2 = some (.tbl #[])) → Lay H (tfD.map fun z => ((He.cT K z).2, HO.tbl #[])) := fun H hT => ⟨by rw [List.map_map]; exact nd, fun p hp => by
    obtain ⟨z, hz, rfl⟩ := List.mem_map.mp hp
    exact ⟨hT _ (List.mem_map.mpr ⟨z, hz, rfl⟩), rfl⟩⟩
  refine ⟨fd_law, tfD.map (He.cT K), sp_law K A, fun p hp => ?_, fun p hp => ?_, fun p hp => ?_, (fun s u => FunD.bindsA (ps := ["script"]) F_law (fun _ _ _ _ _ _ us hl => match us, hl with | [_], _ => rfl) s [u] rfl), fun H s ns hl hz hT hS => ⟨rfl, s, ns, rfl, hS, lay H hT, fun _ => rfl⟩, fun base _ _ hTB => ok_all T (hTB (He.cT K ("Sounds", some "in_call")) (List.mem_map.mpr ⟨("Sounds", some "in_call"), (by unfold tfD; exact List.mem_cons_of_mem _ (List.mem_cons_self)), rfl⟩)) (hTB (He.cT K ("Sounds", some "open_calls")) (List.mem_map.mpr ⟨("Sounds", some "open_calls"), (by unfold tfD; exact List.mem_cons_of_mem _ (List.mem_cons_of_mem _ (List.mem_cons_self))), rfl⟩)) (hTB (He.cT K ("Sounds", some "shown")) (List.mem_map.mpr ⟨("Sounds", some "shown"), (by unfold tfD; exact List.mem_cons_self), rfl⟩)) (hTB (He.cT K ("Sounds", some "dial")) (List.mem_map.mpr ⟨("Sounds", some "dial"), (by unfold tfD; exact List.mem_cons_of_mem _ (List.mem_cons_of_mem _ (List.mem_cons_of_mem _ (List.mem_cons_self)))), rfl⟩)) (hTB (He.cT K ("_law_deed", none)) (List.mem_map.mpr ⟨("_law_deed", none), (by unfold tfD; exact List.mem_cons_of_mem _ (List.mem_cons_of_mem _ (List.mem_cons_of_mem _ (List.mem_cons_of_mem _ (List.mem_cons_self))))), rfl⟩)) (hTB (He.cT K ("law", none)) (List.mem_map.mpr ⟨("law", none), (by unfold tfD; exact List.mem_cons_of_mem _ (List.mem_cons_of_mem _ (List.mem_cons_of_mem _ (List.mem_cons_of_mem _ (List.mem_cons_of_mem _ (List.mem_cons_self)))))), rfl⟩))⟩
  · obtain ⟨z, hz, rfl⟩ := List.mem_map.mp hp
    exact c.empty z hz
  · obtain ⟨z, hz, rfl⟩ := List.mem_map.mp hp
    exact c.out z hz
  · obtain ⟨z, hz, rfl⟩ := List.mem_map.mp hp
    exact PySem.W.codeHd_of_K X (c.hd z hz)
end Wk
namespace Wk
open PySem PySem.Spec PyProof.Rows L2
abbrev R : PySem.W.OpenRow := PySem.W.OpenLaw.row PySem.Challenge.rw_phonestack_k15_who_is_heard
abbrev hk : PySem.W.Hook := He.hookX 6 faD fnD [] tfD exD
def obD (s : PySem.W.SharedT) : He.AlX := He.obsX 6 faD fnD [] tfD exD (HandSHeadRun.getT s)
theorem ob_eq (s : PySem.W.SharedT) : obD s = hk.obs s.abs := He.obsX_eq (HandSHeadRun.getT_eq s)
def loose_0 : List PySem.Str := ["PhoneError", "SoundFault", "ASKS", "Player", "Call", "Sounds", "_law_dice", "_law_roll", "_law_rounds", "_law_told", "_law_states", "_law_deed"]
def loose : List PySem.Str := loose_0
theorem run (w : World) : HandSHeadRun.RunEq R (PySem.W.view R.prog [15]) hk obD 20000 loose w := by
  intro os
  kernel_rfl
end Wk
open PySem PySem.W PySem.Calls PyProof.Rows
theorem PySem.Challenge.cw_phonestack_k15_who_is_heard_holds : PySem.Challenge.rw_phonestack_k15_who_is_heard.Holds := by
  w_on; o_law
  refine HandSHeadRun.head_any (r := OpenLaw.row PySem.Challenge.rw_phonestack_k15_who_is_heard) (q := view (OpenLaw.row PySem.Challenge.rw_phonestack_k15_who_is_heard).prog [15]) (H := Wk.hk) (ob := Wk.obD) (M := 20000) (loose := Wk.loose) (d := HandSHeadRun.topDef (OpenLaw.row PySem.Challenge.rw_phonestack_k15_who_is_heard).prog 15) (kwd := []) Wk.ob_eq
    (by kernel_rfl) (fun s => by kernel_rfl) Wk.run (by kernel_rfl) (by kernel_rfl) (by kernel_rfl) (by rfl) (by first | assumption | decide +kernel) (by decide +kernel) ⟨rfl, rfl, rfl, rfl, rfl, by decide +kernel⟩ ?hw ?hc
  case hw => w_witness2
  case hc =>
    refine LamX.walk_ofTsE (l := PySem.Challenge.rw_phonestack_k15_who_is_heard) (n := 63) (k := 15) (x := "script") (CX := fun w => L2.CX (PySem.Challenge.rw_phonestack_k15_who_is_heard).prog w) rfl (by decide) (by kernel_rfl) ⟨rfl, by decide, by decide⟩ ?F (fun _ _ _ _ _ z => by
      obtain ⟨_, _, _, _, _, _, _, _, _, _, _, _, z⟩ := z
      exact z)
    intro w mg fa h Y G hmg0
    obtain ⟨K, KX, c⟩ := Y
    have hmg : mg ("law" : PySem.Str) = some (.ref fa) := by
      have e : (HandSHeadRun.topDef (OpenLaw.row PySem.Challenge.rw_phonestack_k15_who_is_heard).prog 15).name = ("law" : PySem.Str) := by kernel_rfl
      rw [← e]
      exact hmg0
    exact ⟨K, KX, Wk.fin KX G hmg c⟩
