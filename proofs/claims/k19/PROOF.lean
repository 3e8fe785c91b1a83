import PyProof.Rows.All
import Wide.All
import OpenK.AllK
import Wide.FinOn
import HandS.ForMost
import HandS.Style
import HandS.Lambda
import HandS.EndTab
import HandS.WordsExc
import HandS.CallSlots
import HandS.Flow
import HandS.Defaults
import HandS.AnyAll
import HandS.IsInst
import HandS.GenList
import PyProof.GenArm
import PyProof.TupleOfGen
import HandS.NoneIn
import HandS.Walk
import PySem.Challenge.RW_phonestack_k19_time_that_apps_may_be_use
import KE.KStateDown
import Lean
import HandS.Head0
import HandS.Head1
import HandS.Head2
import HandS.HeadEnd
import HandS.HeadHook1
import HandS.HeadHook2
import HandS.HeadHook3
import HandS.HeadHook4
import HandS.HeadWalk
set_option Elab.async false
set_option autoImplicit false
set_option linter.all false
set_option maxRecDepth 100000
set_option maxHeartbeats 4000000
namespace Ph
open PySem PySem.Spec PyProof.Rows L2
/-! ### texts -/
theorem char_toNat_inj {a b : Char} (h : a.toNat = b.toNat) : a = b := by
  apply Char.ext
  apply UInt32.toNat_inj.mp
  exact h
theorem map_toNat_inj : forall {a b : List Char}, a.map Char.toNat = b.map Char.toNat -> a = b
  | [], [], _ => rfl
  | [], _ :: _, h => by simp at h
  | _ :: _, [], h => by simp at h
  | x :: r, y :: t, h => by
    simp only [List.map_cons, List.cons.injEq] at h
    rw [char_toNat_inj h.1, map_toNat_inj h.2]
theorem ofString_inj {a b : String} : (PySem.Str.ofString a = PySem.Str.ofString b) = (a = b) := by
  apply propext
  constructor
  · intro h
    rw [PySem.Str.ofString_eq_toList, PySem.Str.ofString_eq_toList] at h
    injection h with h
    have h2 : a.toList.map Char.toNat = b.toList.map Char.toNat := by
      have := congrArg Array.toList h
      simpa using this
    exact String.toList_inj.mp (map_toNat_inj h2)
  · intro h
    rw [h]
theorem ofString_beq {a b : String} : (PySem.Str.ofString a == PySem.Str.ofString b) = (a == b) := by
  rw [Bool.eq_iff_iff]
  simp [ofString_inj]
/-! ### mutable objects -/
def mutO : HO -> Bool
  | .lst _ => true
  | .dK _ => true
  | .dT _ => true
  | .set _ _ => true
  | .ins _ _ _ => true
  | .tbl _ => true
  | _ => false
/-- all that is not a list, a dict, a set, an instance stays -/
def Stb (H H' : Hp) : Prop := forall a o, H a = some o -> mutO o = false -> H' a = some o
theorem Stb.refl (H : Hp) : Stb H H := fun _ _ h _ => h
theorem Stb.trans {H H1 H2 : Hp} (a : Stb H H1) (b : Stb H1 H2) : Stb H H2 := fun x o h m => b x o (a x o h m) m
theorem Stb.new {H : Hp} {p : Addr} {o : HO} (n : H p = none) : Stb H (upd H p o) := fun a u e _ => by
  rw [upd_ne (ne_of_none e n)]
  exact e
theorem Stb.put {H : Hp} {p : Addr} {o u : HO} (e : H p = some u) (m : mutO u = true) : Stb H (upd H p o) := fun a w ea ma => by
  rw [upd_ne ?_]
  · exact ea
  · intro q
    rw [q, e] at ea
    cases ea
    rw [m] at ma
    cases ma
theorem Stb.sqt {K : PySem.W.Frag} {H H' : Hp} {a : Addr} {xs : List V} (s : Stb H H') (h : SqT K H a xs) : SqT K H' a xs := by
  rcases h with (h | ⟨o, h⟩) | h
  · exact .inl (.inl (s _ _ h rfl))
  · exact .inl (.inr ⟨o, s _ _ h rfl⟩)
  · exact .inr h
structure Lay (H : Hp) (L : List (Addr × HO)) : Prop where
  nd : (L.map (fun p => p.1)).Nodup
  at_ : forall p, p ∈ L -> H p.1 = some p.2 ∧ mutO p.2 = true
theorem Lay.nil {H : Hp} : Lay H [] := ⟨List.nodup_nil, fun p h => by cases h⟩
theorem Lay.get {H : Hp} {L : List (Addr × HO)} {a : Addr} {o : HO} (h : Lay H L) (m : (a, o) ∈ L) : H a = some o := (h.at_ _ m).1
theorem Lay.mu {H : Hp} {L : List (Addr × HO)} {a : Addr} {o : HO} (h : Lay H L) (m : (a, o) ∈ L) : mutO o = true := (h.at_ _ m).2
theorem Lay.keep {H : Hp} {L : List (Addr × HO)} {p : Addr} {o : HO} (h : Lay H L) (n : H p = none) : Lay (upd H p o) L :=
  ⟨h.nd, fun q hq => ⟨by rw [upd_ne (ne_of_none (h.at_ q hq).1 n)]; exact (h.at_ q hq).1, (h.at_ q hq).2⟩⟩
theorem Lay.new {H : Hp} {L : List (Addr × HO)} {p : Addr} {o : HO} (h : Lay H L) (n : H p = none) (m : mutO o = true) : Lay (upd H p o) ((p, o) :: L) := by
  refine ⟨?_, fun q hq => ?_⟩
  · rw [List.map_cons, List.nodup_cons]
    refine ⟨fun z => ?_, h.nd⟩
    obtain ⟨q, hq, e⟩ := List.mem_map.mp z
    have z2 := (h.at_ q hq).1
    rw [e, n] at z2
    cases z2
  · rcases List.mem_cons.mp hq with e | hq
    · subst e
      exact ⟨upd_same, m⟩
    · exact (h.keep n).at_ q hq
/-- x stands in L at a place; the rest is L' -/
inductive Pick (x : Addr × HO) : List (Addr × HO) -> List (Addr × HO) -> Prop
  | here {L : List (Addr × HO)} : Pick x (x :: L) L
  | there {y : Addr × HO} {L L' : List (Addr × HO)} : Pick x L L' -> Pick x (y :: L) (y :: L')
theorem Pick.perm {x : Addr × HO} : forall {L L'}, Pick x L L' -> L.Perm (x :: L')
  | _, _, .here => List.Perm.refl _
  | _, _, .there h => (List.Perm.cons _ h.perm).trans (List.Perm.swap _ _ _)
theorem Lay.perm {H : Hp} {L L' : List (Addr × HO)} (h : Lay H L) (p : L.Perm L') : Lay H L' :=
  ⟨(p.map _).nodup_iff.mp h.nd, fun q hq => h.at_ q (p.mem_iff.mpr hq)⟩
theorem Lay.pick {H : Hp} {x : Addr × HO} {L L' : List (Addr × HO)} (p : Pick x L L') (h : Lay H L) : Lay H (x :: L') := h.perm p.perm
theorem Lay.tail {H : Hp} {x : Addr × HO} {L : List (Addr × HO)} (h : Lay H (x :: L)) : Lay H L :=
  ⟨(List.nodup_cons.mp h.nd).2, fun q hq => h.at_ q (List.mem_cons_of_mem _ hq)⟩
/-- the object at a becomes o' -/
inductive Up (a : Addr) (o' : HO) : List (Addr × HO) -> List (Addr × HO) -> Prop
  | here {o : HO} {L : List (Addr × HO)} : Up a o' ((a, o) :: L) ((a, o') :: L)
  | there {y : Addr × HO} {L L' : List (Addr × HO)} : Up a o' L L' -> Up a o' (y :: L) (y :: L')
theorem Up.keys {a : Addr} {o' : HO} : forall {L L'}, Up a o' L L' -> L'.map (fun p => p.1) = L.map (fun p => p.1)
  | _, _, .here => rfl
  | _, _, .there h => by rw [List.map_cons, List.map_cons, h.keys]
theorem Up.old {a : Addr} {o' : HO} : forall {L L'}, Up a o' L L' -> exists o, (a, o) ∈ L
  | _, _, .here => ⟨_, List.mem_cons_self⟩
  | _, _, .there h => let ⟨o, z⟩ := h.old; ⟨o, List.mem_cons_of_mem _ z⟩
theorem Up.mem {a : Addr} {o' : HO} : forall {L L'}, Up a o' L L' -> (L.map (fun p => p.1)).Nodup -> forall q, q ∈ L' -> q = (a, o') ∨ (q ∈ L ∧ q.1 ≠ a)
  | _, _, .here, nd, q, hq => by
    rcases List.mem_cons.mp hq with e | hq
    · exact .inl e
    · refine .inr ⟨List.mem_cons_of_mem _ hq, fun z => ?_⟩
      exact (List.nodup_cons.mp nd).1 (List.mem_map.mpr ⟨q, hq, z⟩)
  | _, _, .there h, nd, q, hq => by
    rcases List.mem_cons.mp hq with e | hq
    · subst e
      refine .inr ⟨List.mem_cons_self, fun z => ?_⟩
      obtain ⟨o, ho⟩ := h.old
      exact (List.nodup_cons.mp nd).1 (List.mem_map.mpr ⟨(a, o), ho, z.symm⟩)
    · rcases h.mem (List.nodup_cons.mp nd).2 q hq with e | ⟨e, n⟩
      · exact .inl e
      · exact .inr ⟨List.mem_cons_of_mem _ e, n⟩
theorem Lay.put {H : Hp} {L L' : List (Addr × HO)} {a : Addr} {o' : HO} (h : Lay H L) (u : Up a o' L L') (m : mutO o' = true) : Lay (upd H a o') L' := by
  refine ⟨by rw [u.keys]; exact h.nd, fun q hq => ?_⟩
  rcases u.mem h.nd q hq with e | ⟨e, n⟩
  · subst e
    exact ⟨upd_same, m⟩
  · exact ⟨by rw [upd_ne n]; exact (h.at_ q e).1, (h.at_ q e).2⟩
theorem Lay.ne {H : Hp} {L : List (Addr × HO)} {a b : Addr} {o u : HO} (h : Lay H ((a, o) :: L)) (m : (b, u) ∈ L) : b ≠ a := fun z =>
  (List.nodup_cons.mp h.nd).1 (List.mem_map.mpr ⟨(b, u), m, z⟩)
/-! ### data made of scalars and tuples -/
mutual
inductive TD (K : PySem.W.Frag) (H : Hp) : V -> PyData -> Prop
  | non : TD K H .non .none
  | bl (b : Bool) : TD K H (.bl b) (.bool b)
  | int (i : Int) : TD K H (.int i) (.int i)
  | str (x : Str) : TD K H (.str x) (.str x)
  | tup {a : Addr} {xs : List V} {ds : List PyData} : SqT K H a xs -> TDs K H xs ds -> TD K H (.ref a) (.tuple ds)
inductive TDs (K : PySem.W.Frag) (H : Hp) : List V -> List PyData -> Prop
  | nil : TDs K H [] []
  | cons {v : V} {vs : List V} {d : PyData} {ds : List PyData} : TD K H v d -> TDs K H vs ds -> TDs K H (v :: vs) (d :: ds)
end
mutual
theorem TD.mono {K : PySem.W.Frag} {H H' : Hp} (s : Stb H H') : forall {v : V} {d : PyData}, TD K H v d -> TD K H' v d
  | _, _, .non => .non
  | _, _, .bl b => .bl b
  | _, _, .int i => .int i
  | _, _, .str x => .str x
  | _, _, .tup h t => .tup (s.sqt h) (TDs.mono s t)
theorem TDs.mono {K : PySem.W.Frag} {H H' : Hp} (s : Stb H H') : forall {vs : List V} {ds : List PyData}, TDs K H vs ds -> TDs K H' vs ds
  | _, _, .nil => .nil
  | _, _, .cons h t => .cons (TD.mono s h) (TDs.mono s t)
end
mutual
theorem TD.dp {K : PySem.W.Frag} {H : Hp} : forall {v : V} {d : PyData}, TD K H v d -> Dp K H v d
  | _, _, .non => .non
  | _, _, .bl b => .bl b
  | _, _, .int i => .int i
  | _, _, .str x => .str x
  | _, _, .tup h t => .tup h (TDs.dp t)
theorem TDs.dp {K : PySem.W.Frag} {H : Hp} : forall {vs : List V} {ds : List PyData}, TDs K H vs ds -> DpAll K H vs ds
  | _, _, .nil => .nil
  | _, _, .cons h t => .cons (TD.dp h) (TDs.dp t)
end
theorem TDs.snoc {K : PySem.W.Frag} {H : Hp} {v : V} {d : PyData} : forall {vs : List V} {ds : List PyData}, TDs K H vs ds -> TD K H v d -> TDs K H (vs ++ [v]) (ds ++ [d])
  | _, _, .nil, h => .cons h .nil
  | _, _, .cons h t, q => .cons h (TDs.snoc t q)
theorem TDs.append {K : PySem.W.Frag} {H : Hp} {us : List V} {es : List PyData} : forall {vs : List V} {ds : List PyData}, TDs K H vs ds -> TDs K H us es -> TDs K H (vs ++ us) (ds ++ es)
  | _, _, .nil, h => h
  | _, _, .cons h t, q => .cons h (TDs.append t q)
theorem TDs.length {K : PySem.W.Frag} {H : Hp} : forall {vs : List V} {ds : List PyData}, TDs K H vs ds -> vs.length = ds.length
  | _, _, .nil => rfl
  | _, _, .cons _ t => by rw [List.length_cons, List.length_cons, TDs.length t]
/-! ### what is known of things that don't change -/
/-- each code object that the table's triples tell bears the name q -/
def TabOK (q : Str) (ps : Array Value) (H : Hp) : Prop := TriplesOk ps.toList ∧ forall (pos : Pos) (cv : Value), codeAmong pos ps.toList = some cv -> exists c, cv = .ref c ∧ H c = some (LamX.CodeO c q)
theorem TabOK.mono {q : Str} {ps : Array Value} {H H' : Hp} (s : Stb H H') (h : TabOK q ps H) : TabOK q ps H' := ⟨h.1, fun pos cv e => by
  obtain ⟨c, e1, e2⟩ := h.2 pos cv e
  exact ⟨c, e1, s _ _ e2 rfl⟩⟩
inductive Im where
  | tab (q : Str) (ps : Array Value)
  | tri (ps : Array Value)
  | tup (a : Addr) (xs : List V)
  | dat (v : V) (d : PyData)
  | dats (vs : List V) (ds : List PyData)
  | pr (P : Hp → Prop) (m : ∀ H H', Stb H H' → P H → P H')
def Im.ok (K : PySem.W.Frag) (H : Hp) : Im -> Prop
  | .tab q ps => TabOK q ps H
  | .tri ps => TriplesOk ps.toList
  | .tup a xs => SqT K H a xs
  | .dat v d => TD K H v d
  | .dats vs ds => TDs K H vs ds
  | .pr P _ => P H
theorem Im.mono {K : PySem.W.Frag} {H H' : Hp} (s : Stb H H') : forall {i : Im}, i.ok K H -> i.ok K H'
  | .tab _ _, h => TabOK.mono s h
  | .tri _, h => h
  | .tup _ _, h => s.sqt h
  | .dat _ _, h => TD.mono s h
  | .dats _ _, h => TDs.mono s h
  | .pr _ m, h => m _ _ s h
/-- B: where the def was entered -/
structure Ctx (K : PySem.W.Frag) (B H : Hp) (L : List (Addr × HO)) (I : List Im) : Prop where
  lay : Lay H L
  im : forall i, i ∈ I -> i.ok K H
  sb : Stb B H
section
variable {K : PySem.W.Frag} {B H H' : Hp} {L L' : List (Addr × HO)} {I : List Im} {a : Addr} {o : HO} {xs : List V}
theorem Ctx.tup (h : Ctx K B H L I) (m : Im.tup a xs ∈ I) : SqT K H a xs := h.im _ m
theorem Ctx.dat {v : V} {d : PyData} (h : Ctx K B H L I) (m : Im.dat v d ∈ I) : TD K H v d := h.im _ m
theorem Ctx.dats {vs : List V} {ds : List PyData} (h : Ctx K B H L I) (m : Im.dats vs ds ∈ I) : TDs K H vs ds := h.im _ m
theorem Ctx.pr {P : Hp → Prop} {w : ∀ H H', Stb H H' → P H → P H'} (h : Ctx K B H L I) (m : Im.pr P w ∈ I) : P H := h.im _ m
theorem Ctx.tab {q : Str} {ps : Array Value} (h : Ctx K B H L I) (m : Im.tab q ps ∈ I) : TabOK q ps H := h.im _ m
theorem Ctx.tri {ps : Array Value} (h : Ctx K B H L I) (m : Im.tri ps ∈ I) : TriplesOk ps.toList := h.im _ m
theorem Ctx.get (h : Ctx K B H L I) (m : (a, o) ∈ L) : H a = some o := h.lay.get m
theorem Ctx.add {i : Im} (h : Ctx K B H L I) (m : i.ok K H) : Ctx K B H L (i :: I) :=
  ⟨h.lay, fun j hj => (List.mem_cons.mp hj).elim (fun e => by rw [e]; exact m) (h.im j), h.sb⟩
theorem Ctx.moved (h : Ctx K B H L I) (s : Stb H H') (l : Lay H' L') : Ctx K B H' L' I := ⟨l, fun i hi => Im.mono s (h.im i hi), h.sb.trans s⟩
theorem Ctx.newM (h : Ctx K B H L I) (n : H a = none) (m : mutO o = true) : Ctx K B (upd H a o) ((a, o) :: L) I := h.moved (Stb.new n) (h.lay.new n m)
theorem Ctx.newT (h : Ctx K B H L I) (n : H a = none) : Ctx K B (upd H a (.tup xs)) L (.tup a xs :: I) := by
  have h1 := h.moved (Stb.new (o := .tup xs) n) (h.lay.keep n)
  exact h1.add (SqT.of upd_same)
theorem Ctx.put {o' : HO} (h : Ctx K B H L I) (u : Up a o' L L') (m : mutO o' = true) : Ctx K B (upd H a o') L' I := by
  obtain ⟨o, ho⟩ := u.old
  exact h.moved (Stb.put (h.lay.get ho) (h.lay.mu ho)) (h.lay.put u m)
theorem Ctx.start (l : Lay H L) : Ctx K H H L [] := ⟨l, fun i hi => (by cases hi), Stb.refl H⟩
theorem Ctx.but {H1 : Hp} {P : Addr} {o o' : HO} (h : Ctx K B H L I) (m : (P, o) ∈ L) (u : Up P o' L L') (mo : mutO o' = true) (e : forall b u, b ≠ P -> H b = some u -> H1 b = some u) (e' : H1 P = some o') : Ctx K B H1 L' I := by
  have y := h.lay
  have sb : Stb H H1 := fun b w hb mw => e b w (fun z => by
    have q := (y.at_ _ m)
    rw [z, q.1] at hb
    cases hb
    rw [q.2] at mw
    cases mw) hb
  refine h.moved sb ⟨by rw [u.keys]; exact y.nd, fun p hp => ?_⟩
  rcases u.mem y.nd p hp with q | ⟨q, n⟩
  · rw [q]
    exact ⟨e', mo⟩
  · exact ⟨e _ _ n (y.at_ p q).1, (y.at_ p q).2⟩
theorem Ctx.rebase (h : Ctx K B H L I) : Ctx K H H L I := ⟨h.lay, h.im, Stb.refl _⟩
theorem Ctx.pick {x : Addr × HO} (p : Pick x L L') (h : Ctx K B H L I) : Ctx K B H (x :: L') I := ⟨h.lay.pick p, h.im, h.sb⟩
theorem Ctx.drop {x : Addr × HO} (h : Ctx K B H (x :: L) I) : Ctx K B H L I := ⟨h.lay.tail, h.im, h.sb⟩
theorem Ctx.perm (h : Ctx K B H L I) (p : L.Perm L') : Ctx K B H L' I := ⟨h.lay.perm p, h.im, h.sb⟩
end
end Ph
namespace Ph
open PySem PySem.Spec PyProof.Rows L2
def rAddU (K : PySem.W.Frag) : R2 := fun x y H Q => match x, y with
  | .int i, .int j => Q (.int (i + j)) H
  | .int i, .bl k => Q (.int (i + b2i k)) H
  | .str i, .str j => i.length + j.length ≤ sizeLine ∧ Q (.str (i ++ j)) H
  | .ref l, .ref b => (∃ xs zs, H l = some (.lst xs) ∧ H b = some (.lst zs) ∧ xs.length + zs.length ≤ sizeLine ∧ ∀ p, H p = none → Q (.ref p) (upd H p (.lst (xs ++ zs)))) ∨ rCatT K (.ref l) (.ref b) H Q
  | _, _ => False
def rSubU : R2 := fun x y H Q => match x, y with
  | .int i, .int j => Q (.int (i - j)) H
  | _, _ => False
theorem fits_of {n : Nat} (h : n ≤ sizeLine) : Builtin.Str.tooLong n = false := by
  cases e : Builtin.Str.tooLong n with
  | false => rfl
  | true =>
    have : ¬ n ≤ sizeLine := by simpa [Builtin.Str.tooLong, sizeLine] using e
    exact absurd h this
/-- x written n times -/
def repS (x : Str) (n : Nat) : Str := ⟨(List.replicate n x.cps).foldl (· ++ ·) #[]⟩
def rMulU : R2 := fun x y H Q => match x, y with
  | .int i, .int j => CMul i j ∧ Q (.int (i * j)) H
  | .ref l, .int k => rRep (.ref l) (.int k) H Q
  | .str x, .int k => 2 ≤ k ∧ k ≤ 1000 ∧ 1 ≤ x.length ∧ x.length ≤ 1000 ∧ Q (.str (repS x k.toNat)) H
  | _, _ => False
def rDivU : R2 := fun x y H Q => match x, y with
  | .int i, .int j => CDiv i j ∧ Q (.int (i / j)) H
  | _, _ => False
def rModU : R2 := fun x y H Q => match x, y with
  | .int i, .int j => 0 < j ∧ Q (.int (i % j)) H
  | _, _ => False
def rPowU : R2 := fun x y H Q => match x, y with
  | .int i, .int j => CPow i j ∧ Q (.int (i ^ j.toNat)) H
  | _, _ => False
def rLtU (f : Int → Int → Bool) (g : Str → Str → Bool) : R2 := fun x y H Q => match x, y with
  | .int i, .int j => Q (.bl (f i j)) H
  | .str i, .str j => Q (.bl (g i j)) H
  | _, _ => False
abbrev rLt : R2 := rLtU (fun i j => decide (i < j)) (fun i j => decide (i.cps.toList < j.cps.toList))
def rCmpI (f : Int → Int → Bool) : R2 := fun x y H Q => match x, y with
  | .int i, .int j => Q (.bl (f i j)) H
  | _, _ => False
abbrev rLe : R2 := rCmpI fun i j => decide (i ≤ j)
abbrev rGt : R2 := rCmpI fun i j => decide (j < i)
abbrev rGe : R2 := rCmpI fun i j => decide (j ≤ i)
def rIsN : R2 := fun x y H Q => y = .non ∧ Q (.bl (decide (x = .non))) H
def rNotN : R2 := fun x y H Q => y = .non ∧ Q (.bl (!decide (x = .non))) H
def rEqU (K : PySem.W.Frag) : R2 := fun x y H Q => rEq x y H Q ∨ rEqD K x y H Q
def rNeU (K : PySem.W.Frag) : R2 := fun x y H Q => rNe x y H Q ∨ rNeD K x y H Q
def rIxD : R2 := fun x y H Q => ∃ a v, x = .ref a ∧ DGet H a y (some v) ∧ Q v H
def rIxU (K : PySem.W.Frag) : R2 := fun x y H Q => rIxL K x y H Q ∨ rIxT K x y H Q ∨ rIxS x y H Q ∨ rIxD x y H Q
def rInD : R2 := fun y x H Q => ∃ a o, x = .ref a ∧ DGet H a y o ∧ Q (.bl o.isSome) H
def rNotInD : R2 := fun y x H Q => ∃ a o, x = .ref a ∧ DGet H a y o ∧ Q (.bl (!o.isSome)) H
def rInS : R2 := fun x y H Q => ∃ i j, x = .str i ∧ y = .str j ∧ Q (.bl (!(Builtin.Str.occurrences j i 0 j.length 1).isEmpty)) H
def rNotInS : R2 := fun x y H Q => ∃ i j, x = .str i ∧ y = .str j ∧ Q (.bl (!(!(Builtin.Str.occurrences j i 0 j.length 1).isEmpty))) H
def rInU (K : PySem.W.Frag) : R2 := fun x y H Q => rIn K false x y H Q ∨ rInD x y H Q ∨ rInS x y H Q
def rNotInU (K : PySem.W.Frag) : R2 := fun x y H Q => rIn K true x y H Q ∨ rNotInD x y H Q ∨ rNotInS x y H Q
def rSetD : V → V → V → Hp → (Hp → Prop) → Prop := fun o i v H Q => ∃ a H', o = .ref a ∧ DPut H a i v H' ∧ Q H'
def rSetU : V → V → V → Hp → (Hp → Prop) → Prop := fun o i v H Q => rSetL o i v H Q ∨ rSetD o i v H Q
def rIAddU : R2 := fun x y H Q => match x, y with
  | .int i, .int j => Q (.int (i + j)) H
  | .str i, .str j => i.length + j.length ≤ sizeLine ∧ Q (.str (i ++ j)) H
  | .ref l, .ref b => rExt2 (.ref l) (.ref b) H Q
  | _, _ => False
def tTruth (K : PySem.W.Frag) (ta : TE) : TT := fun σ H Q => ta σ H fun x H' => ∃ k, TruV K x H' k ∧ Q k H'
section
variable {X : Cx}
theorem u_add : OpR X (binaryOp .Add) (rAddU X.K) := by
  intro pins s σ H x y v u Q I rx ry h
  cases x with
  | int i =>
    cases y with
    | int j => exact op_add pins s σ H _ _ v u Q I rx ry ⟨i, j, rfl, rfl, h⟩
    | bl k => exact op_add_ib pins s σ H _ _ v u Q I rx ry ⟨i, k, rfl, rfl, h⟩
    | _ => exact (show False from h).elim
  | str i =>
    cases y with
    | str j => exact op_add_str pins s σ H _ _ v u Q I rx ry ⟨i, j, rfl, rfl, h.1, h.2⟩
    | _ => exact (show False from h).elim
  | ref l =>
    cases y with
    | ref b =>
      rcases h with ⟨xs, zs, h1, h2, h3, h4⟩ | h
      · exact op_cat pins s σ H _ _ v u Q I rx ry ⟨l, b, xs, zs, rfl, rfl, h1, h2, h3, h4⟩
      · exact op_catT pins s σ H _ _ v u Q I rx ry h
    | _ => exact (show False from h).elim
  | _ => exact (show False from (by cases y <;> exact h)).elim
theorem u_sub : OpR X (binaryOp .Sub) rSubU := by
  intro pins s σ H x y v u Q I rx ry h
  cases x with
  | int i =>
    cases y with
    | int j => exact op_sub pins s σ H _ _ v u Q I rx ry ⟨i, j, rfl, rfl, h⟩
    | _ => exact (show False from h).elim
  | _ => exact (show False from (by cases y <;> exact h)).elim
theorem foldl_cps : ∀ (n : Nat) (a c : Array Nat), ((List.replicate n a).foldl (· ++ ·) c).toList = c.toList ++ (List.replicate n a.toList).flatten
  | 0, a, c => by simp
  | n + 1, a, c => by
    rw [List.replicate_succ, List.foldl_cons, foldl_cps n a (c ++ a), List.replicate_succ, List.flatten_cons, Array.toList_append, List.append_assoc]
theorem repS_list (x : Str) (n : Nat) : (repS x n).cps.toList = (List.replicate n x.cps.toList).flatten := by
  have h := foldl_cps n x.cps #[]
  simpa [repS] using h
theorem repS_length (x : Str) (n : Nat) : (repS x n).length = n * x.length := by
  show (repS x n).cps.size = n * x.cps.size
  rw [← Array.length_toList, repS_list]
  simp [List.length_flatten]
theorem u_mul : OpR X (binaryOp .Mult) rMulU := by
  intro pins s σ H x y v u Q I rx ry h
  cases x with
  | int i =>
    cases y with
    | int j => exact op_mul pins s σ H _ _ v u Q I rx ry ⟨i, j, rfl, rfl, h.1, h.2⟩
    | _ => exact (show False from h).elim
  | ref l =>
    cases y with
    | int j => exact op_rep pins s σ H _ _ v u Q I rx ry h
    | _ => exact (show False from h).elim
  | str i =>
    cases y with
    | int k =>
      obtain ⟨h2, h3, h4, h5, q⟩ := h
      obtain ⟨t, rfl⟩ := rx
      obtain ⟨t2, rfl⟩ := ry
      have hz : i.length * k.toNat ≤ sizeLine := by
        rw [sizeLine_eq]
        have a1 : i.length * k.toNat ≤ 1000 * 1000 := Nat.mul_le_mul h5 (by omega)
        omega
      have l1 : (repS i k.toNat).length ≤ sizeLine := by
        rw [repS_length, Nat.mul_comm]
        exact hz
      refine PySem.P.mul_str ?_ (fun _ _ => ?_) (fun _ _ => fits_of hz) ?_
      · rw [decide_eq_false (by omega), decide_eq_false (by omega)]
        rfl
      · have hd : (1000 : Int) ≤ (2 ^ 63 - 1) / k := (Int.le_ediv_iff_mul_le (by omega)).mpr (by omega)
        omega
      · rw [if_neg (by omega), if_neg (by
          rw [beq_eq_false_iff_ne.mpr (by omega), beq_eq_false_iff_ne.mpr (by omega)]
          exact Bool.false_ne_true)]
        exact ⟨l1, ⟨.str _, H, I.tok _, ⟨_, rfl⟩, q⟩⟩
    | _ => exact (show False from h).elim
  | _ => exact (show False from (by cases y <;> exact h)).elim
theorem u_div : OpR X (binaryOp .FloorDiv) rDivU := by
  intro pins s σ H x y v u Q I rx ry h
  cases x with
  | int i =>
    cases y with
    | int j => exact op_fdiv pins s σ H _ _ v u Q I rx ry ⟨i, j, rfl, rfl, h.1, h.2⟩
    | _ => exact (show False from h).elim
  | _ => exact (show False from (by cases y <;> exact h)).elim
theorem u_mod : OpR X (binaryOp .Mod) rModU := by
  intro pins s σ H x y v u Q I rx ry h
  cases x with
  | int i =>
    cases y with
    | int j => exact op_mod pins s σ H _ _ v u Q I rx ry ⟨i, j, rfl, rfl, h.1, h.2⟩
    | _ => exact (show False from h).elim
  | _ => exact (show False from (by cases y <;> exact h)).elim
theorem u_pow : OpR X (binaryOp .Pow) rPowU := by
  intro pins s σ H x y v u Q I rx ry h
  cases x with
  | int i =>
    cases y with
    | int j => exact op_pow pins s σ H _ _ v u Q I rx ry ⟨i, j, rfl, rfl, h.1, h.2⟩
    | _ => exact (show False from h).elim
  | _ => exact (show False from (by cases y <;> exact h)).elim
theorem u_lt : OpR X (compareOp .Lt) rLt := by
  intro pins s σ H x y v u Q I rx ry h
  cases x with
  | int i =>
    cases y with
    | int j => exact op_lt pins s σ H _ _ v u Q I rx ry ⟨i, j, rfl, rfl, h⟩
    | _ => exact (show False from h).elim
  | str i =>
    cases y with
    | str j => exact op_lt_str pins s σ H _ _ v u Q I rx ry ⟨i, j, rfl, rfl, h⟩
    | _ => exact (show False from h).elim
  | _ => exact (show False from (by cases y <;> exact h)).elim
theorem u_le : OpR X (compareOp .LtE) rLe := by
  intro pins s σ H x y v u Q I rx ry h
  cases x with
  | int i =>
    cases y with
    | int j => exact op_le pins s σ H _ _ v u Q I rx ry ⟨i, j, rfl, rfl, h⟩
    | _ => exact (show False from h).elim
  | _ => exact (show False from (by cases y <;> exact h)).elim
theorem u_gt : OpR X (compareOp .Gt) rGt := by
  intro pins s σ H x y v u Q I rx ry h
  cases x with
  | int i =>
    cases y with
    | int j => exact op_gt pins s σ H _ _ v u Q I rx ry ⟨i, j, rfl, rfl, h⟩
    | _ => exact (show False from h).elim
  | _ => exact (show False from (by cases y <;> exact h)).elim
theorem u_ge : OpR X (compareOp .GtE) rGe := by
  intro pins s σ H x y v u Q I rx ry h
  cases x with
  | int i =>
    cases y with
    | int j => exact op_ge pins s σ H _ _ v u Q I rx ry ⟨i, j, rfl, rfl, h⟩
    | _ => exact (show False from h).elim
  | _ => exact (show False from (by cases y <;> exact h)).elim
theorem u_isN : OpR X (compareOp .Is) rIsN := op_isN
theorem u_notN : OpR X (compareOp .IsNot) rNotN := op_notN
theorem u_eq (hu : X.A.units + 64 < cLine) : OpR X (compareOp .Eq) (rEqU X.K) := op_eq.or (op_eqD hu)
theorem u_ne (hu : X.A.units + 64 < cLine) : OpR X (compareOp .NotEq) (rNeU X.K) := op_ne.or (op_neD hu)
theorem ix_dict (hu : X.A.units + 64 < cLine) : IxR X rIxD := by
  intro value slice pins s σ H x y v u Q I rx ry h hs
  obtain ⟨a, z, rfl, g, q⟩ := h
  cases rx
  have hu1 : X.A.units + 1 < cLine := by omega
  exact tail_any (dict_typeIs I g) PySem.F.slot_dict_getitem.lookup (d_getItem hu1 I g ry fun w' s3 I3 rw' => ⟨z, H, I3, rw', q⟩) hs
theorem u_ix (hu : X.A.units + 64 < cLine) : IxR X (rIxU X.K) := ix_list.or (ix_tup.or (ix_str.or (ix_dict hu)))
theorem op_inD (hu : X.A.units + 64 < cLine) : OpR X (compareOp .In) rInD := by
  intro pins s σ H x y v u Q I rx ry h
  obtain ⟨a, o, rfl, g, q⟩ := h
  cases ry
  have hu1 : X.A.units + 1 < cLine := by omega
  exact d_in hu1 I g rx fun s3 I3 => ⟨.bl o.isSome, H, I3, rfl, q⟩
theorem op_notinD (hu : X.A.units + 64 < cLine) : OpR X (compareOp .NotIn) rNotInD := by
  intro pins s σ H x y v u Q I rx ry h
  obtain ⟨a, o, rfl, g, q⟩ := h
  cases ry
  have hu1 : X.A.units + 1 < cLine := by omega
  exact d_notIn hu1 I g rx fun s3 I3 => ⟨.bl (!o.isSome), H, I3, rfl, q⟩
theorem u_in (hu : X.A.units + 64 < cLine) : OpR X (compareOp .In) (rInU X.K) := op_in_seq.or ((op_inD hu).or op_in_str)
theorem u_notin (hu : X.A.units + 64 < cLine) : OpR X (compareOp .NotIn) (rNotInU X.K) := op_notIn_seq.or ((op_notinD hu).or op_notin_str)
theorem set_dict (hu : X.A.units + 64 < cLine) : PSet X rSetD := by
  intro pins s σ H o i v ov iv u Q I ro ri rv h
  obtain ⟨a, H', rfl, g, q⟩ := h
  cases ro
  have hu1 : X.A.units + 1 < cLine := by omega
  exact d_setItem hu1 I g ri rv fun s4 I4 => ⟨H', I4, q⟩
theorem u_set (hu : X.A.units + 64 < cLine) : PSet X rSetU := by
  intro pins s σ H o i v ov iv u Q I ro ri rv h
  rcases h with h | h
  · exact set_list pins s σ H o i v ov iv u Q I ro ri rv h
  · exact set_dict hu pins s σ H o i v ov iv u Q I ro ri rv h
theorem u_iadd : OpR X (inplaceOp .Add) rIAddU := by
  intro pins s σ H x y v u Q I rx ry h
  cases x with
  | int i =>
    cases y with
    | int j => exact iop_add pins s σ H _ _ v u Q I rx ry ⟨i, j, rfl, rfl, h⟩
    | _ => exact (show False from h).elim
  | str i =>
    cases y with
    | str j => exact iop_add_str pins s σ H _ _ v u Q I rx ry ⟨i, j, rfl, rfl, h.1, h.2⟩
    | _ => exact (show False from h).elim
  | ref l =>
    cases y with
    | ref b => exact iop_ext pins s σ H _ _ v u Q I rx ry h
    | _ => exact (show False from h).elim
  | _ => exact (show False from (by cases y <;> exact h)).elim
theorem u_isub : OpR X (inplaceOp .Sub) rSubU := by
  intro pins s σ H x y v u Q I rx ry h
  cases x with
  | int i =>
    cases y with
    | int j => exact iop_sub pins s σ H _ _ v u Q I rx ry ⟨i, j, rfl, rfl, h⟩
    | _ => exact (show False from h).elim
  | _ => exact (show False from (by cases y <;> exact h)).elim
theorem in_of {op : Operator} {r : R2} (h : OpR X (inplaceOp op) r) : InOp X op r := fun pins s σ H x y u v Q I rx ry q => h pins s σ H x y u v Q I rx ry q
theorem ip_of {op : Operator} {r : R2} (h : OpR X (inplaceOp op) r) : PIp X op r := fun pins s σ H x y u v Q I rx ry q => h pins s σ H x y u v Q I rx ry q
theorem pt_tru {a : Expr} {ta : TE} (ha : PE X a ta) (he : ∀ whole, isTrue a X.env whole = (do let v ← whole; standAt a.pos; holding [v] (truthy v)) := by intro _; rfl) : PT X a (tTruth X.K ta) := pt_truth ha he
/-- what leaves a def -/
theorem passX {P : Program} {w : World} {K : PySem.W.Frag} {mg : Str → Option Value} {base : Heap} {N : List Str} {q : Str} {sc : Scope} {f : Addr} {cd : Value} {A : Around} {outer : List Env} {s : Shared} {H : Hp} {E : XK} :
    Passes (L2.CX P w) (cxOf (L2.CX P w) P w K mg base N q sc f cd A outer s H E) E := passes_call (takes_of rfl rfl rfl rfl) fun _ _ _ _ h => h
theorem pe_gint {x : Str} {i : Int} {pos : Pos} (hg : Gl X x) (hm : ∃ t, X.mg x = some (.int i t)) (hd : (x == ("__debug__" : Str)) = false := by decide) : PE X (.Name x pos) (tC (.int i)) := by
  obtain ⟨t, h⟩ := hm
  exact pe_glob hg h ⟨t, rfl⟩ hd
theorem pe_gstr {x z : Str} {pos : Pos} (hg : Gl X x) (hm : ∃ t, X.mg x = some (.str z t)) (hd : (x == ("__debug__" : Str)) = false := by decide) : PE X (.Name x pos) (tC (.str z)) := by
  obtain ⟨t, h⟩ := hm
  exact pe_glob hg h ⟨t, rfl⟩ hd
end
end Ph
namespace Ph
open PySem PySem.Spec PyProof.Rows L2
/-! ### more rules by values -/
def rSlU (K : PySem.W.Frag) : V → Option Int → Option Int → Hp → VK → Prop := fun x lo hi H Q => rSlL K x lo hi H Q ∨ rSlS x lo hi H Q ∨ rSlT K x lo hi H Q
theorem u_sl {X : Cx} : SlR X (rSlU X.K) := sl_list.or (sl_str.or sl_tup)
def rLenU (K : PySem.W.Frag) : List V → Hp → VK → Prop := fun xs H Q => (∃ x n, xs = [x] ∧ LenV K x H n ∧ Q (.int n) H) ∨ ∃ a kvs, xs = [V.ref a] ∧ H a = some (.dK kvs) ∧ Q (.int kvs.length) H
theorem u_len {X : Cx} : CallR X (.builtin "len") (rLenU X.K) := call_len.or call_lenD
def rAbs : List V → Hp → VK → Prop := fun xs H Q => ∃ i, xs = [.int i] ∧ Q (.int (if i < 0 then -i else i)) H
def rMax2 : List V → Hp → VK → Prop := fun xs H Q => ∃ i j, xs = [.int i, .int j] ∧ Q (.int (if j > i then j else i)) H
def rMin2 : List V → Hp → VK → Prop := fun xs H Q => ∃ i j, xs = [.int i, .int j] ∧ Q (.int (if j < i then j else i)) H
def rInt1 : List V → Hp → VK → Prop := fun xs H Q => (∃ i, xs = [.int i] ∧ Q (.int i) H) ∨ ∃ k, xs = [.bl k] ∧ Q (.int (if k then 1 else 0)) H
def rNeg : V → Hp → VK → Prop := rU fun i => .int (-i)
def tRaiseE (C : Addr) (E : XK) : TS := fun _ _ H => E (.ref C) none H
abbrev lamq (q : Str) : Str := q ++ ".<locals>." ++ "<lambda>"
/-! ### by places -/
inductive SetAt (v : V) : Nat → L2.St → L2.St → Prop
  | here {x : Option V} {σ : L2.St} : SetAt v 0 (x :: σ) (some v :: σ)
  | there {i : Nat} {x : Option V} {σ σ' : L2.St} : SetAt v i σ σ' → SetAt v (i + 1) (x :: σ) (x :: σ')
theorem SetAt.ok {v : V} : ∀ {i σ σ'}, SetAt v i σ σ' → σ.set i (some v) = σ'
  | _, _, _, .here => rfl
  | _, _, _, .there h => by rw [List.set_cons_succ, h.ok]
inductive LSet (v : V) : Nat → List V → List V → Prop
  | here {x : V} {r : List V} : LSet v 0 (x :: r) (v :: r)
  | there {i : Nat} {x : V} {r r' : List V} : LSet v i r r' → LSet v (i + 1) (x :: r) (x :: r')
theorem LSet.ok {v : V} : ∀ {i r r'}, LSet v i r r' → r.set i v = r'
  | _, _, _, .here => rfl
  | _, _, _, .there h => by rw [List.set_cons_succ, h.ok]
inductive Lk (f : Str) : List (Str × V) → V → Prop
  | here {v : V} {fs : List (Str × V)} : Lk f ((f, v) :: fs) v
  | there {g : Str} {x : V} {fs : List (Str × V)} {v : V} : f ≠ g → Lk f fs v → Lk f ((g, x) :: fs) v
theorem Lk.ok {f : Str} : ∀ {fs v}, Lk f fs v → fs.lookup f = some v
  | _, _, .here => by simp [List.lookup]
  | _, _, .there n h => by
    rw [List.lookup_cons, show (f == _) = false from beq_eq_false_iff_ne.mpr n]
    exact h.ok
inductive NoLk (f : Str) : List (Str × V) → Prop
  | nil : NoLk f []
  | there {g : Str} {x : V} {fs : List (Str × V)} : f ≠ g → NoLk f fs → NoLk f ((g, x) :: fs)
theorem NoLk.ok {f : Str} : ∀ {fs}, NoLk f fs → fs.lookup f = none
  | _, .nil => rfl
  | _, .there n h => by
    rw [List.lookup_cons, show (f == _) = false from beq_eq_false_iff_ne.mpr n]
    exact h.ok
inductive Put (f : Str) (v : V) : List (Str × V) → List (Str × V) → Prop
  | nil : Put f v [] [(f, v)]
  | here {x : V} {fs : List (Str × V)} : Put f v ((f, x) :: fs) ((f, v) :: fs)
  | there {g : Str} {x : V} {fs fs' : List (Str × V)} : g ≠ f → Put f v fs fs' → Put f v ((g, x) :: fs) ((g, x) :: fs')
theorem Put.ok {f : Str} {v : V} : ∀ {fs fs'}, Put f v fs fs' → putF f v fs = fs'
  | _, _, .nil => rfl
  | _, _, .here => if_pos rfl
  | _, _, .there (g := g) (x := x) (fs := fs) n h => by
    have e : putF f v ((g, x) :: fs) = if g = f then (g, v) :: fs else (g, x) :: putF f v fs := rfl
    rw [e, if_neg n, h.ok]
/-- a dict's entry -/
inductive Dk (k : Key) : List (Key × V) → V → Prop
  | here {v : V} {r : List (Key × V)} : Dk k ((k, v) :: r) v
  | there {g : Key} {x : V} {r : List (Key × V)} {v : V} : g ≠ k → Dk k r v → Dk k ((g, x) :: r) v
theorem Dk.ok {k : Key} : ∀ {r v}, Dk k r v → valV r k = some v
  | _, _, .here => valV_pos rfl
  | _, _, .there n h => by rw [valV_neg n]; exact h.ok
inductive DNo (k : Key) : List (Key × V) → Prop
  | nil : DNo k []
  | there {g : Key} {x : V} {r : List (Key × V)} : g ≠ k → DNo k r → DNo k ((g, x) :: r)
theorem DNo.ok {k : Key} : ∀ {r}, DNo k r → valV r k = none
  | _, .nil => rfl
  | _, .there n h => by rw [valV_neg n]; exact h.ok
/-- put where it is there -/
inductive DPt (k : Key) (v : V) : List (Key × V) → List (Key × V) → Prop
  | here {x : V} {r : List (Key × V)} : DNo k r → DPt k v ((k, x) :: r) ((k, v) :: r)
  | there {g : Key} {x : V} {r r' : List (Key × V)} : g ≠ k → DPt k v r r' → DPt k v ((g, x) :: r) ((g, x) :: r')
theorem DNo.map {k : Key} {v : V} : ∀ {r}, DNo k r → (r.map fun kv => if kv.1 = k then (kv.1, v) else kv) = r
  | _, .nil => rfl
  | _, .there n h => by rw [List.map_cons, h.map, if_neg n]
theorem DPt.map {k : Key} {v : V} : ∀ {r r'}, DPt k v r r' → (r.map fun kv => if kv.1 = k then (kv.1, v) else kv) = r'
  | _, _, .here h => by rw [List.map_cons, h.map, if_pos rfl]
  | _, _, .there n h => by rw [List.map_cons, h.map, if_neg n]
theorem DPt.any {k : Key} {v : V} : ∀ {r r'}, DPt k v r r' → (r.any fun kv => decide (kv.1 = k)) = true
  | _, _, .here _ => by simp
  | _, _, .there _ h => by rw [List.any_cons, h.any, Bool.or_true]
theorem DPt.ok {k : Key} {v : V} {r r' : List (Key × V)} (h : DPt k v r r') : putK r k v = r' := by
  unfold putK
  rw [if_pos h.any, h.map]
theorem DPt.length {k : Key} {v : V} : ∀ {r r'}, DPt k v r r' → r'.length = r.length
  | _, _, .here _ => rfl
  | _, _, .there _ h => by rw [List.length_cons, List.length_cons, h.length]
/-! ### what waits for a value -/
section
variable (K : PySem.W.Frag)
def kTup (Q : VK) : List V → Hp → Prop := fun xs H1 => xs.length ≤ sizeLine ∧ ∀ p, H1 p = none → Q (.ref p) (upd H1 p (.tup xs))
def kLst (Q : VK) : List V → Hp → Prop := fun xs H1 => xs.length ≤ sizeLine ∧ ∀ p, H1 p = none → Q (.ref p) (upd H1 p (.lst xs))
def kFld (f : Str) (Q : VK) : VK := fun x H1 => ∃ a C dx fs v, x = .ref a ∧ H1 a = some (.ins C dx fs) ∧ Cls K C ∧ NoAttr K C f ∧ fs.lookup f = some v ∧ Q v H1
def kSetF (f : Str) (A : L2.St → Hp → Prop) (σ : L2.St) (y : V) : VK := fun x H2 => ∃ a C dx fs, x = .ref a ∧ H2 a = some (.ins C dx fs) ∧ Cls K C ∧ NoAttr K C f ∧ fs.length < 1000 ∧ A σ (upd H2 a (.ins C dx (putF f y fs)))
def kAugG (f : Str) (a C : Addr) (A : L2.St → Hp → Prop) (σ : L2.St) : VK := fun z H3 => ∃ dx' fs', H3 a = some (.ins C dx' fs') ∧ fs'.length < 1000 ∧ A σ (upd H3 a (.ins C dx' (putF f z fs')))
def kAugF (f : Str) (tv : TE) (rd : R2) (A : L2.St → Hp → Prop) (σ : L2.St) : VK := fun x H1 => ∃ a C dx fs v, x = .ref a ∧ H1 a = some (.ins C dx fs) ∧ Cls K C ∧ NoAttr K C f ∧ fs.lookup f = some v ∧
    tv σ H1 fun y H2 => rd v y H2 (kAugG f a C A σ)
def kTest (Qb : Bool → Hp → Prop) : VK := fun x H1 => ∃ k, x = .bl k ∧ Qb k H1
def kTru (Qb : Bool → Hp → Prop) : VK := fun x H1 => ∃ k, TruV K x H1 k ∧ Qb k H1
def kAndV (σ : L2.St) (tb : TE) (Q : VK) : VK := fun x H1 => ∃ c, x = .bl c ∧ if c = true then tb σ H1 Q else Q (.bl false) H1
def kOrV (σ : L2.St) (tb : TE) (Q : VK) : VK := fun x H1 => ∃ c, x = .bl c ∧ if c = true then Q (.bl true) H1 else tb σ H1 Q
def kNotV (Q : VK) : VK := fun x H1 => ∃ c, x = .bl c ∧ Q (.bl (!c)) H1
def kChain (r' : R2) (σ : L2.St) (tc : TE) (y : V) (Q : VK) : VK := fun z H3 => ∃ k, z = .bl k ∧ (if k = true then tc σ H3 fun w' H4 => r' y w' H4 Q else Q (.bl false) H3)
def kMeth (C : Addr) (m : Str) (σ : L2.St) (tr : TA) (Z : V → List V → Hp → Prop) : VK := fun x H1 => ∃ a dx fs, x = .ref a ∧ H1 a = some (.ins C dx fs) ∧ fs.lookup m = none ∧ tr σ H1 fun vs H2 => Z x vs H2
def kInit (Q : VK) (x : Addr) : VK := fun v H2 => v = .non ∧ Q (.ref x) H2
def kMake (C : Addr) (sp : Sp) (dvs : List V) (E : XK) (Q : VK) : List V → Hp → Prop := fun vs H1 => ∀ x dx, H1 x = none → H1 dx = none → dx ≠ x → sp (.ref x :: (vs ++ dvs)) (upd (upd H1 dx (.own x)) x (.ins C dx [])) (kInit Q x) E
def kBm (T : String) (r : V → List V → Hp → VK → Prop) (σ : L2.St) (tr : TA) (Q : VK) : VK := fun x H1 => tyV K T x H1 ∧ tr σ H1 fun xs H2 => r x xs H2 Q
def kPar2 (i j : Nat) (σ : L2.St) (A : L2.St → Hp → Prop) : List V → Hp → Prop := fun vs H1 => ∃ v w, vs = [v, w] ∧ gName i v σ H1 fun σ1 H2 => gName j w σ1 H2 A
def kPar3 (i j l : Nat) (σ : L2.St) (A : L2.St → Hp → Prop) : List V → Hp → Prop := fun vs H1 => ∃ u v w, vs = [u, v, w] ∧ gName i u σ H1 fun σ1 H2 => gName j v σ1 H2 fun σ2 H3 => gName l w σ2 H3 A
def kCall (sp : Sp) (dvs : List V) (E : XK) (Q : VK) : List V → Hp → Prop := fun vs H1 => sp (vs ++ dvs) H1 Q E
end
/-! ### statements -/
section
variable {K : PySem.W.Frag} {A : L2.St → Hp → Prop} {Bt : VK} {Cb Dc : L2.St → Hp → Prop} {σ σ' : L2.St} {B H : Hp} {Q : VK} {R : L2.St → Hp → Prop} {L L' : List (Addr × HO)} {I : List Im}
theorem s_nx (h : A σ H) : Ends.nx ⟨A, Bt, Cb, Dc⟩ σ H := h
theorem s_rt {v : V} (h : Bt v H) : Ends.rt ⟨A, Bt, Cb, Dc⟩ v H := h
theorem s_bk (h : Cb σ H) : Ends.bk ⟨A, Bt, Cb, Dc⟩ σ H := h
theorem s_ct (h : Dc σ H) : Ends.ct ⟨A, Bt, Cb, Dc⟩ σ H := h
theorem s_seq {t u : TS} (h : t ⟨u ⟨A, Bt, Cb, Dc⟩, Bt, Cb, Dc⟩ σ H) : tSeq t u ⟨A, Bt, Cb, Dc⟩ σ H := h
theorem s_next (h : A σ H) : tNext ⟨A, Bt, Cb, Dc⟩ σ H := h
theorem s_break (h : Cb σ H) : tBreak ⟨A, Bt, Cb, Dc⟩ σ H := h
theorem s_cont (h : Dc σ H) : tCont ⟨A, Bt, Cb, Dc⟩ σ H := h
theorem s_asg {te : TE} {g : TG} (h : te σ H fun x H1 => g x σ H1 A) : tAsg te g ⟨A, Bt, Cb, Dc⟩ σ H := h
theorem s_asg2 {te : TE} {g g2 : TG} (h : te σ H fun x H1 => g x σ H1 fun σ1 H2 => g2 x σ1 H2 A) : tAsg2 te g g2 ⟨A, Bt, Cb, Dc⟩ σ H := h
theorem s_name {i : Nat} {v : V} (h : SetAt v i σ σ') (q : R σ' H) : gName i v σ H R := by
  show R (σ.set i (some v)) H
  rw [h.ok]
  exact q
theorem s_ret {te : TE} (h : te σ H Bt) : tRet te ⟨A, Bt, Cb, Dc⟩ σ H := h
theorem s_retN (h : Bt .non H) : tRetN ⟨A, Bt, Cb, Dc⟩ σ H := h
theorem s_drop {te : TE} (h : te σ H fun _ H1 => A σ H1) : tDrop te ⟨A, Bt, Cb, Dc⟩ σ H := h
theorem s_if {c : TT} {t u : TS} (h : c σ H fun b H1 => if b = true then t ⟨A, Bt, Cb, Dc⟩ σ H1 else u ⟨A, Bt, Cb, Dc⟩ σ H1) : tIfS c t u ⟨A, Bt, Cb, Dc⟩ σ H := h
theorem s_aug {i : Nat} {te : TE} {ti : TIp} {x : V} (e : σ[i]? = some (some x)) (h : te σ H fun y H1 => ti x y H1 fun z H2 => gName i z σ H2 A) : tAug i te ti ⟨A, Bt, Cb, Dc⟩ σ H := ⟨x, e, h⟩
theorem s_par {i j : Nat} {ta : TA} (h : ta σ H (kPar2 i j σ A)) : tPar i j ta ⟨A, Bt, Cb, Dc⟩ σ H := h
theorem s_par3 {i j l : Nat} {ta : TA} (h : ta σ H (kPar3 i j l σ A)) : tPar3 i j l ta ⟨A, Bt, Cb, Dc⟩ σ H := h
theorem s_par2V {i j : Nat} {v w : V} (h : gName i v σ H fun σ1 H2 => gName j w σ1 H2 A) : kPar2 i j σ A [v, w] H := ⟨v, w, rfl, h⟩
theorem s_par3V {i j l : Nat} {u v w : V} (h : gName i u σ H fun σ1 H2 => gName j v σ1 H2 fun σ2 H3 => gName l w σ2 H3 A) : kPar3 i j l σ A [u, v, w] H := ⟨u, v, w, rfl, h⟩
theorem s_raise {C : Addr} {E : XK} (h : E (.ref C) none H) : tRaiseE C E ⟨A, Bt, Cb, Dc⟩ σ H := h
/-! ### expressions -/
variable {ta tb te : TE} {tr : TA} {v x y : V}
theorem s_var {i : Nat} (e : σ[i]? = some (some v)) (h : Q v H) : tVar i σ H Q := ⟨v, e, h⟩
theorem s_c (h : Q v H) : tC v σ H Q := h
theorem s_op {r : R2} (h : ta σ H fun x H1 => tb σ H1 fun y H2 => r x y H2 Q) : tOp r ta tb σ H Q := h
theorem s_un {r : V → Hp → VK → Prop} (h : ta σ H fun x H1 => r x H1 Q) : tUn r ta σ H Q := h
theorem s_cons {Qa : List V → Hp → Prop} (h : te σ H fun x H1 => tr σ H1 fun xs H2 => Qa (x :: xs) H2) : tCons te tr σ H Qa := h
theorem s_nil {Qa : List V → Hp → Prop} (h : Qa [] H) : tNil σ H Qa := h
theorem s_tup (h : tr σ H (kTup Q)) : tTup tr σ H Q := h
theorem s_lst (h : tr σ H (kLst Q)) : tLst tr σ H Q := h
theorem s_tupN {xs : List V} (hC : Ctx K B H L I) (hz : xs.length ≤ 1000) (k : ∀ p H1, Ctx K B H1 L (.tup p xs :: I) → Q (.ref p) H1) : kTup Q xs H :=
  ⟨Nat.le_trans hz (by decide), fun p hp => k p _ (hC.newT hp)⟩
theorem s_lstN {xs : List V} (hC : Ctx K B H L I) (hz : xs.length ≤ 1000) (k : ∀ p H1, Ctx K B H1 ((p, .lst xs) :: L) I → Q (.ref p) H1) : kLst Q xs H :=
  ⟨Nat.le_trans hz (by decide), fun p hp => k p _ (hC.newM hp rfl)⟩
theorem s_dnewK (hC : Ctx K B H L I) (k : ∀ p H1, Ctx K B H1 ((p, .dK []) :: L) I → Q (.ref p) H1) : tDNewK σ H Q := fun p hp => k p _ (hC.newM hp rfl)
theorem s_dnewT (hC : Ctx K B H L I) (k : ∀ p H1, Ctx K B H1 ((p, .dT []) :: L) I → Q (.ref p) H1) : tDNewT σ H Q := fun p hp => k p _ (hC.newM hp rfl)
theorem s_fld {f : Str} (h : ta σ H (kFld K f Q)) : tFld K ta f σ H Q := h
theorem s_fldV {f : Str} {a C dx : Addr} {fs : List (Str × V)} (m : H a = some (.ins C dx fs)) (c : Cls K C) (n : NoAttr K C f) (l : Lk f fs v) (q : Q v H) : kFld K f Q (.ref a) H := ⟨a, C, dx, fs, v, rfl, m, c, n, l.ok, q⟩
theorem s_setF {f : Str} {tv : TE} (h : tv σ H fun y H1 => ta σ H1 (kSetF K f A σ y)) : sFld K ta tv f ⟨A, Bt, Cb, Dc⟩ σ H := h
theorem s_setV {f : Str} {a C dx : Addr} {fs fs' : List (Str × V)} (hC : Ctx K B H L I) (m : H a = some (.ins C dx fs)) (c : Cls K C) (n : NoAttr K C f) (z : fs.length < 1000) (p : Put f y fs fs') (u : Up a (.ins C dx fs') L L')
    (k : ∀ H1, Ctx K B H1 L' I → A σ H1) : kSetF K f A σ y (.ref a) H :=
  ⟨a, C, dx, fs, rfl, m, c, n, z, by rw [p.ok]; exact k _ (hC.put u rfl)⟩
theorem s_augF {f : Str} {tv : TE} {rd : R2} (h : ta σ H (kAugF K f tv rd A σ)) : sFldAug K ta tv rd f ⟨A, Bt, Cb, Dc⟩ σ H := h
theorem s_augV {f : Str} {a C dx : Addr} {fs : List (Str × V)} {tv : TE} {rd : R2} (m : H a = some (.ins C dx fs)) (c : Cls K C) (n : NoAttr K C f) (l : Lk f fs v) (q : tv σ H fun y H2 => rd v y H2 (kAugG f a C A σ)) : kAugF K f tv rd A σ (.ref a) H := ⟨a, C, dx, fs, v, rfl, m, c, n, l.ok, q⟩
theorem s_augW {f : Str} {a C dx : Addr} {fs fs' : List (Str × V)} (hC : Ctx K B H L I) (m : H a = some (.ins C dx fs)) (z : fs.length < 1000) (p : Put f y fs fs') (u : Up a (.ins C dx fs') L L')
    (k : ∀ H1, Ctx K B H1 L' I → A σ H1) : kAugG f a C A σ y H := ⟨dx, fs, m, z, by rw [p.ok]; exact k _ (hC.put u rfl)⟩
theorem s_addI {i j : Int} (h : Q (.int (i + j)) H) : rAddU K (.int i) (.int j) H Q := h
theorem s_addS {i j : Str} (z : i.length + j.length ≤ sizeLine) (h : Q (.str (i ++ j)) H) : rAddU K (.str i) (.str j) H Q := ⟨z, h⟩
theorem s_addL {l b : Addr} {xs zs : List V} (hC : Ctx K B H L I) (h1 : H l = some (.lst xs)) (h2 : H b = some (.lst zs)) (z : xs.length + zs.length ≤ 100000) (k : ∀ p H1, Ctx K B H1 ((p, .lst (xs ++ zs)) :: L) I → Q (.ref p) H1) :
    rAddU K (.ref l) (.ref b) H Q := .inl ⟨xs, zs, h1, h2, Nat.le_trans z (by decide), fun p hp => k p _ (hC.newM hp rfl)⟩
theorem s_subI {i j : Int} (h : Q (.int (i - j)) H) : rSubU (.int i) (.int j) H Q := h
theorem s_mulI {i j : Int} (c : CMul i j) (h : Q (.int (i * j)) H) : rMulU (.int i) (.int j) H Q := ⟨c, h⟩
theorem s_divI {i j : Int} (c : CDiv i j) (h : Q (.int (i / j)) H) : rDivU (.int i) (.int j) H Q := ⟨c, h⟩
theorem s_modI {i j : Int} (c : 0 < j) (h : Q (.int (i % j)) H) : rModU (.int i) (.int j) H Q := ⟨c, h⟩
theorem s_powI {i j : Int} (c : CPow i j) (h : Q (.int (i ^ j.toNat)) H) : rPowU (.int i) (.int j) H Q := ⟨c, h⟩
theorem s_negI {i : Int} (h : Q (.int (-i)) H) : rNeg (.int i) H Q := ⟨i, rfl, h⟩
theorem s_iaddI {i j : Int} (h : Q (.int (i + j)) H) : rIAddU (.int i) (.int j) H Q := h
theorem s_ltI {i j : Int} (h : Q (.bl (decide (i < j))) H) : rLt (.int i) (.int j) H Q := h
theorem s_leI {i j : Int} (h : Q (.bl (decide (i ≤ j))) H) : rLe (.int i) (.int j) H Q := h
theorem s_gtI {i j : Int} (h : Q (.bl (decide (j < i))) H) : rGt (.int i) (.int j) H Q := h
theorem s_geI {i j : Int} (h : Q (.bl (decide (j ≤ i))) H) : rGe (.int i) (.int j) H Q := h
theorem s_isN_non (h : Q (.bl true) H) : rIsN .non .non H Q := ⟨rfl, h⟩
theorem s_isN_ref {a : Addr} (h : Q (.bl false) H) : rIsN (.ref a) .non H Q := ⟨rfl, h⟩
theorem s_isN_int {i : Int} (h : Q (.bl false) H) : rIsN (.int i) .non H Q := ⟨rfl, h⟩
theorem s_isN_str {i : Str} (h : Q (.bl false) H) : rIsN (.str i) .non H Q := ⟨rfl, h⟩
theorem s_isN_bl {i : Bool} (h : Q (.bl false) H) : rIsN (.bl i) .non H Q := ⟨rfl, h⟩
theorem s_notN_non (h : Q (.bl false) H) : rNotN .non .non H Q := ⟨rfl, h⟩
theorem s_notN_ref {a : Addr} (h : Q (.bl true) H) : rNotN (.ref a) .non H Q := ⟨rfl, h⟩
theorem s_notN_int {i : Int} (h : Q (.bl true) H) : rNotN (.int i) .non H Q := ⟨rfl, h⟩
theorem s_notN_str {i : Str} (h : Q (.bl true) H) : rNotN (.str i) .non H Q := ⟨rfl, h⟩
theorem s_notN_bl {i : Bool} (h : Q (.bl true) H) : rNotN (.bl i) .non H Q := ⟨rfl, h⟩
theorem s_eqI {i j : Int} (h : Q (.bl (decide (i = j))) H) : rEqU K (.int i) (.int j) H Q := .inl ⟨rfl, by rw [show decide (V.int i = V.int j) = decide (i = j) from by simp]; exact h⟩
theorem s_neI {i j : Int} (h : Q (.bl (!decide (i = j))) H) : rNeU K (.int i) (.int j) H Q := .inl ⟨rfl, by rw [show decide (V.int i = V.int j) = decide (i = j) from by simp]; exact h⟩
theorem s_eqS {i j : Str} (h : Q (.bl (decide (i = j))) H) : rEqU K (.str i) (.str j) H Q := .inl ⟨rfl, by rw [show decide (V.str i = V.str j) = decide (i = j) from by simp]; exact h⟩
theorem s_neS {i j : Str} (h : Q (.bl (!decide (i = j))) H) : rNeU K (.str i) (.str j) H Q := .inl ⟨rfl, by rw [show decide (V.str i = V.str j) = decide (i = j) from by simp]; exact h⟩
theorem s_eqB {i j : Bool} (h : Q (.bl (i == j)) H) : rEqU K (.bl i) (.bl j) H Q := .inl ⟨rfl, by rw [show decide (V.bl i = V.bl j) = (i == j) from by cases i <;> cases j <;> rfl]; exact h⟩
theorem s_neB {i j : Bool} (h : Q (.bl (i != j)) H) : rNeU K (.bl i) (.bl j) H Q := .inl ⟨rfl, by rw [show (!decide (V.bl i = V.bl j)) = (i != j) from by cases i <;> cases j <;> rfl]; exact h⟩
theorem s_eqNS {j : Str} (h : Q (.bl false) H) : rEqU K .non (.str j) H Q := .inl ⟨rfl, h⟩
theorem s_neNS {j : Str} (h : Q (.bl true) H) : rNeU K .non (.str j) H Q := .inl ⟨rfl, h⟩
theorem s_eqD {d e : PyData} (h1 : Dp K H x d) (h2 : Dp K H y e) (s1 : SeqAt.shaped d = true) (s2 : SeqAt.shaped e = true) (h : Q (.bl (PyData.eqv d e)) H) : rEqU K x y H Q := .inr ⟨d, e, h1, h2, s1, s2, h⟩
theorem s_neD {d e : PyData} (h1 : Dp K H x d) (h2 : Dp K H y e) (s1 : SeqAt.shaped d = true) (s2 : SeqAt.shaped e = true) (h : Q (.bl (!PyData.eqv d e)) H) : rNeU K x y H Q := .inr ⟨d, e, h1, h2, s1, s2, h⟩
/-- an item of a tuple, of a list, at a place -/
theorem s_ixT {a : Addr} {xs : List V} {j : Nat} (h : SqT K H a xs) (e : xs[j]? = some v) (q : Q v H) : rIxU K (.ref a) (.int (j : Nat)) H Q := .inr (.inl ⟨a, xs, j, v, rfl, rfl, h, atI_nat e, q⟩)
theorem s_ixL {a : Addr} {xs : List V} {i : Int} (h : H a = some (.lst xs)) (e : atI xs i = some v) (q : Q v H) : rIxU K (.ref a) (.int i) H Q := .inl ⟨a, xs, i, v, rfl, rfl, SqL.of h, e, q⟩
theorem s_ixD {a : Addr} {r : List (Key × V)} {k : Str} (h : H a = some (.dK r)) (e : Dk (Sum.inr k) r v) (q : Q v H) : rIxU K (.ref a) (.str k) H Q :=
  .inr (.inr (.inr ⟨a, v, rfl, by rw [← e.ok]; exact DGet.k (k := Sum.inr k) h, q⟩))
theorem s_subG {to ti : TE} {t : TSet} (h : to σ H fun o H1 => ti σ H1 fun i H2 => t o i v H2 fun H3 => R σ H3) : gSub to ti t v σ H R := h
theorem s_putD {a : Addr} {r r' : List (Key × V)} {k : Str} {Z : Hp → Prop} (hC : Ctx K B H L I) (h : H a = some (.dK r)) (z : r.length < 1000) (e : DPt (Sum.inr k) v r r') (u : Up a (.dK r') L L') (q : ∀ H1, Ctx K B H1 L' I → Z H1) : rSetU (.ref a) (.str k) v H Z :=
  .inr ⟨a, upd H a (.dK (putK r (Sum.inr k) v)), rfl, DPut.k (k := Sum.inr k) h (Nat.lt_of_lt_of_le z (by decide)), by rw [e.ok]; exact q _ (hC.put u rfl)⟩
theorem s_putL {a : Addr} {xs xs' : List V} {i : Int} {j : Nat} {Z : Hp → Prop} (hC : Ctx K B H L I) (h : H a = some (.lst xs)) (e : ixN xs.length i = some j) (w : LSet v j xs xs') (u : Up a (.lst xs') L L') (q : ∀ H1, Ctx K B H1 L' I → Z H1) : rSetU (.ref a) (.int i) v H Z :=
  .inl ⟨a, xs, i, j, rfl, rfl, h, e, by rw [w.ok]; exact q _ (hC.put u rfl)⟩
theorem s_gtup {n : Nat} {t : TGs} {a : Addr} {xs : List V} (h : SqT K H a xs) (z : xs.length = n) (q : t xs σ H R) : gTup K n t (.ref a) σ H R := ⟨a, xs, rfl, h, z, q⟩
theorem s_gcons {t : TG} {u : TGs} {r : List V} (q : t v σ H fun σ1 H1 => u r σ1 H1 R) : gCons t u (v :: r) σ H R := ⟨v, r, rfl, q⟩
theorem s_gnil (q : R σ H) : gNil [] σ H R := ⟨rfl, q⟩
/-! ### tests -/
variable {t u : TT} {Qb : Bool → Hp → Prop} {b : Bool}
theorem s_test (h : te σ H (kTest Qb)) : tTest te σ H Qb := h
theorem s_bl (h : Qb b H) : kTest Qb (.bl b) H := ⟨b, rfl, h⟩
theorem s_and (h : t σ H fun c H1 => if c = true then u σ H1 Qb else Qb false H1) : tAnd t u σ H Qb := h
theorem s_or (h : t σ H fun c H1 => if c = true then Qb true H1 else u σ H1 Qb) : tOr t u σ H Qb := h
theorem s_not (h : t σ H fun c H1 => Qb (!c) H1) : tNot t σ H Qb := h
theorem s_tru (h : ta σ H (kTru K Qb)) : tTruth K ta σ H Qb := h
theorem s_truB (h : Qb b H) : kTru K Qb (.bl b) H := ⟨b, rfl, h⟩
theorem s_truN (h : Qb false H) : kTru K Qb .non H := ⟨false, rfl, h⟩
theorem s_andB (h : if b = true then tb σ H Q else Q (.bl false) H) : kAndV σ tb Q (.bl b) H := ⟨b, rfl, h⟩
theorem s_orB (h : if b = true then Q (.bl true) H else tb σ H Q) : kOrV σ tb Q (.bl b) H := ⟨b, rfl, h⟩
theorem s_notB (h : Q (.bl (!b)) H) : kNotV Q (.bl b) H := ⟨b, rfl, h⟩
theorem s_andV (h : ta σ H (kAndV σ tb Q)) : tAndV ta tb σ H Q := h
theorem s_orV (h : ta σ H (kOrV σ tb Q)) : tOrV ta tb σ H Q := h
theorem s_notV (h : ta σ H (kNotV Q)) : tNotV ta σ H Q := h
theorem s_ifE (h : t σ H fun c H1 => if c = true then ta σ H1 Q else tb σ H1 Q) : tIf t ta tb σ H Q := h
theorem s_chain {r r' : R2} {tc : TE} (h : ta σ H fun x H1 => tb σ H1 fun y H2 => r x y H2 (kChain r' σ tc y Q)) : tChain r r' ta tb tc σ H Q := h
theorem s_chainB {r' : R2} {tc : TE} (h : if b = true then tc σ H fun w' H4 => r' y w' H4 Q else Q (.bl false) H) : kChain r' σ tc y Q (.bl b) H := ⟨b, rfl, h⟩
theorem s_iteD {p : Prop} [Decidable p] {X Y : Prop} (h1 : p → X) (h2 : ¬ p → Y) : if decide p = true then X else Y := by
  by_cases h : p
  · rw [if_pos (decide_eq_true h)]
    exact h1 h
  · rw [if_neg (by rw [decide_eq_false h]; exact Bool.false_ne_true)]
    exact h2 h
theorem s_iteND {p : Prop} [Decidable p] {X Y : Prop} (h1 : ¬ p → X) (h2 : p → Y) : if (!decide p) = true then X else Y := by
  by_cases h : p
  · rw [decide_eq_true h]
    exact iteF (h2 h)
  · rw [decide_eq_false h]
    exact iteT (h1 h)
theorem s_iteB {X Y : Prop} (h1 : b = true → X) (h2 : b = false → Y) : if b = true then X else Y := by
  cases b with
  | true => exact iteT (h1 rfl)
  | false => exact iteF (h2 rfl)
theorem s_iteNB {X Y : Prop} (h1 : b = false → X) (h2 : b = true → Y) : if (!b) = true then X else Y := by
  cases b with
  | true => exact iteF (h2 rfl)
  | false => exact iteT (h1 rfl)
theorem s_iteNT {X Y : Prop} (h : Y) : if (!true) = true then X else Y := iteF h
theorem s_iteNF {X Y : Prop} (h : X) : if (!false) = true then X else Y := iteT h
theorem s_iteDT {p : Prop} [Decidable p] {X Y : Prop} (hp : p) (h : X) : if decide p = true then X else Y := by
  rw [decide_eq_true hp]
  exact iteT h
theorem s_iteDF {p : Prop} [Decidable p] {X Y : Prop} (hp : ¬ p) (h : Y) : if decide p = true then X else Y := by
  rw [decide_eq_false hp]
  exact iteF h
/-! ### calls -/
theorem s_cb {r : List V → Hp → VK → Prop} (h : tr σ H fun vs H1 => r vs H1 Q) : tCB r tr σ H Q := h
theorem s_abs {i : Int} (h : Q (.int (if i < 0 then -i else i)) H) : rAbs [.int i] H Q := ⟨i, rfl, h⟩
theorem s_max2 {i j : Int} (h : Q (.int (if j > i then j else i)) H) : rMax2 [.int i, .int j] H Q := ⟨i, j, rfl, h⟩
theorem s_min2 {i j : Int} (h : Q (.int (if j < i then j else i)) H) : rMin2 [.int i, .int j] H Q := ⟨i, j, rfl, h⟩
theorem s_int1 {i : Int} (h : Q (.int i) H) : rInt1 [.int i] H Q := .inl ⟨i, rfl, h⟩
theorem s_int1b (h : Q (.int (if b then 1 else 0)) H) : rInt1 [.bl b] H Q := .inr ⟨b, rfl, h⟩
theorem s_lenL {l : Addr} {xs : List V} (m : H l = some (.lst xs)) (h : Q (.int xs.length) H) : rLenU K [.ref l] H Q := .inl ⟨_, _, rfl, .inl ⟨xs, SqL.of m, rfl⟩, h⟩
theorem s_lenT {l : Addr} {xs : List V} (m : SqT K H l xs) (h : Q (.int xs.length) H) : rLenU K [.ref l] H Q := .inl ⟨_, _, rfl, .inr ⟨xs, m, rfl⟩, h⟩
theorem s_lenS {z : Str} (m : z.length ≤ sizeLine) (h : Q (.int z.length) H) : rLenU K [.str z] H Q := .inl ⟨_, _, rfl, ⟨m, rfl⟩, h⟩
theorem s_lenD {l : Addr} {r : List (Key × V)} (m : H l = some (.dK r)) (h : Q (.int r.length) H) : rLenU K [.ref l] H Q := .inr ⟨_, _, rfl, m, h⟩
theorem s_call {sp : Sp} {dvs : List V} {E : XK} (h : tr σ H (kCall sp dvs E Q)) : tCall sp dvs E tr σ H Q := h
theorem s_meth {C : Addr} {m : Str} {sp : Sp} {dvs : List V} {E : XK} (h : ta σ H (kMeth C m σ tr fun x vs H2 => kCall sp dvs E Q (x :: vs) H2)) : tMeth C m sp dvs E ta tr σ H Q := h
theorem s_methV {a C dx : Addr} {fs : List (Str × V)} {m : Str} {Z : V → List V → Hp → Prop} (e : H a = some (.ins C dx fs)) (n : NoLk m fs) (h : tr σ H fun vs H2 => Z (.ref a) vs H2) : kMeth C m σ tr Z (.ref a) H := ⟨a, dx, fs, rfl, e, n.ok, h⟩
theorem s_callV {sp : Sp} {vs : List V} {E : XK} (h : sp vs H Q E) : kCall sp [] E Q vs H := by
  unfold kCall
  rw [List.append_nil]
  exact h
theorem s_make {C : Addr} {sp : Sp} {dvs : List V} {E : XK} (h : tr σ H (kMake C sp dvs E Q)) : tMake C sp dvs E tr σ H Q := h
theorem s_makeV {C : Addr} {sp : Sp} {vs : List V} {E : XK} (hC : Ctx K B H L I) (k : ∀ x dx H1, Ctx K B H1 ((x, .ins C dx []) :: L) I → sp (.ref x :: vs) H1 (kInit Q x) E) : kMake C sp [] E Q vs H := fun x dx hx hd ne => by
  rw [List.append_nil]
  refine k x dx _ ?_
  have h1 : Ctx K B (upd H dx (.own x)) L I := hC.moved (Stb.new hd) (hC.lay.keep hd)
  exact h1.newM (by rw [upd_ne (fun z => ne z.symm)]; exact hx) rfl
theorem s_bm {T : String} {r : V → List V → Hp → VK → Prop} {to : TE} (h : to σ H (kBm K T r σ tr Q)) : tBM K T r to tr σ H Q := h
theorem s_tyL {l : Addr} {xs : List V} {r : V → List V → Hp → VK → Prop} (m : H l = some (.lst xs)) (h : tr σ H fun xs H2 => r (.ref l) xs H2 Q) : kBm K "list" r σ tr Q (.ref l) H := ⟨.inl ⟨rfl, _, SqL.of m⟩, h⟩
theorem s_append {l : Addr} {xs : List V} (hC : Ctx K B H L I) (m : H l = some (.lst xs)) (z : xs.length < 100000) (u : Up l (.lst (xs ++ [y])) L L') (k : ∀ H1, Ctx K B H1 L' I → Q .non H1) : rAppend (.ref l) [y] H Q :=
  ⟨l, xs, y, rfl, rfl, m, Nat.lt_of_lt_of_le z (by decide), k _ (hC.put u rfl)⟩
end
end Ph
namespace Ph
open PySem PySem.Spec PyProof.Rows L2
/-- no dict within, texts sound, n deep at most -/
def Sh (n : Nat) (d : PyData) : Prop := d.canLay0 = true ∧ d.depth ≤ n
def ShL (n : Nat) (ds : List PyData) : Prop := ∀ d, d ∈ ds → Sh n d
theorem Sh.shaped {n : Nat} {d : PyData} (h : Sh n d) (z : n ≤ 64) : SeqAt.shaped d = true := by
  unfold SeqAt.shaped
  rw [h.1, Bool.true_and]
  exact decide_eq_true (Nat.le_trans h.2 z)
theorem Sh.mono {n m : Nat} {d : PyData} (h : Sh n d) (z : n ≤ m) : Sh m d := ⟨h.1, Nat.le_trans h.2 z⟩
theorem Sh.int {n : Nat} (i : Int) : Sh n (.int i) := ⟨by simp [PyData.canLay0], by simp [PyData.depth]⟩
theorem Sh.bl {n : Nat} (i : Bool) : Sh n (.bool i) := ⟨by simp [PyData.canLay0], by simp [PyData.depth]⟩
theorem Sh.non {n : Nat} : Sh n .none := ⟨by simp [PyData.canLay0], by simp [PyData.depth]⟩
theorem Sh.str {n : Nat} {x : Str} (h : PyData.strOk x = true) : Sh n (.str x) := ⟨by simp [PyData.canLay0, h], by simp [PyData.depth]⟩
theorem canAll {ds : List PyData} (h : ∀ d, d ∈ ds → d.canLay0 = true) : PyData.canLayAll0 ds = true := by
  induction ds with
  | nil => simp [PyData.canLayAll0]
  | cons d r ih =>
    rw [PyData.canLayAll0, h d List.mem_cons_self, ih (fun e he => h e (List.mem_cons_of_mem _ he))]
    rfl
theorem depAll {n : Nat} {ds : List PyData} (h : ∀ d, d ∈ ds → d.depth ≤ n) : PyData.depthAll ds ≤ n := by
  induction ds with
  | nil => simp [PyData.depthAll]
  | cons d r ih =>
    have h1 := h d List.mem_cons_self
    have h2 := ih (fun e he => h e (List.mem_cons_of_mem _ he))
    rw [PyData.depthAll]
    omega
theorem ShL.list {n : Nat} {ds : List PyData} (h : ShL n ds) : Sh (n + 1) (.list ds) := by
  refine ⟨by rw [PyData.canLay0]; exact canAll fun d hd => (h d hd).1, ?_⟩
  have := depAll fun d hd => (h d hd).2
  rw [PyData.depth]
  omega
theorem ShL.tuple {n : Nat} {ds : List PyData} (h : ShL n ds) : Sh (n + 1) (.tuple ds) := by
  refine ⟨by rw [PyData.canLay0]; exact canAll fun d hd => (h d hd).1, ?_⟩
  have := depAll fun d hd => (h d hd).2
  rw [PyData.depth]
  omega
theorem ShL.nil {n : Nat} : ShL n [] := fun d h => by cases h
theorem ShL.cons {n : Nat} {d : PyData} {ds : List PyData} (h : Sh n d) (t : ShL n ds) : ShL n (d :: ds) := fun e he => (List.mem_cons.mp he).elim (fun q => by rw [q]; exact h) (t e)
theorem ShL.append {n : Nat} {ds es : List PyData} (h : ShL n ds) (t : ShL n es) : ShL n (ds ++ es) := fun e he => (List.mem_append.mp he).elim (h e) (t e)
/-- L has what T tells, in another order -/
inductive Perm2 (F : List (Addr × HO)) : List (Addr × HO) → List (Addr × HO) → Prop
  | nil : Perm2 F F F
  | cons {x : Addr × HO} {L L' T : List (Addr × HO)} : Pick x L L' → Perm2 F L' T → Perm2 F L (x :: T)
theorem Perm2.lay {F : List (Addr × HO)} : ∀ {L T : List (Addr × HO)}, Perm2 F L T → L.Perm T
  | _, _, .nil => List.Perm.refl _
  | _, _, .cons p h => p.perm.trans (List.Perm.cons _ h.lay)
theorem Lay.perm2 {H : Hp} {F L T : List (Addr × HO)} (h : Lay H L) (p : Perm2 F L T) : Lay H T := h.perm p.lay
theorem TD.tupR {K : PySem.W.Frag} {H : Hp} {a : Addr} {xs : List V} {ds : List PyData} (t : TDs K H xs ds) (h : SqT K H a xs) : TD K H (.ref a) (.tuple ds) := .tup h t
theorem eqv_self {n : Nat} {d : PyData} (h : Sh n d) : PyData.eqv d d = true := SeqAt.eqv_refl d h.1
end Ph
namespace Ph
open PySem PySem.Spec PyProof.Rows L2
section
variable {K : PySem.W.Frag} {B H : Hp} {L L' F : List (Addr × HO)} {I : List Im} {Q : VK} {σ : L2.St} {A Cb Dc : L2.St → Hp → Prop} {Bt : VK}
/-! slices -/
def kPart (Qo : Option Int → Hp → Prop) : VK := fun x H1 => ∃ i, x = .int i ∧ Qo (some i) H1
theorem s_sl {r : V → Option Int → Option Int → Hp → VK → Prop} {te : TE} {tl th : TO} (h : te σ H fun x H1 => tl σ H1 fun l H2 => th σ H2 fun u H3 => r x l u H3 Q) : tSl r te tl th σ H Q := h
theorem s_noPart {Qo : Option Int → Hp → Prop} (h : Qo none H) : tNoPart σ H Qo := h
theorem s_partE {t : TE} {Qo : Option Int → Hp → Prop} (h : t σ H (kPart Qo)) : tPart t σ H Qo := h
theorem s_partV {i : Int} {Qo : Option Int → Hp → Prop} (h : Qo (some i) H) : kPart Qo (.int i) H := ⟨i, rfl, h⟩
theorem s_slL {a : Addr} {xs : List V} {lo hi : Option Int} (hC : Ctx K B H L I) (h : SqL K H a xs) (k : ∀ p H1, Ctx K B H1 ((p, .lst (cutV xs lo hi)) :: L) I → Q (.ref p) H1) : rSlU K (.ref a) lo hi H Q :=
  .inl ⟨a, xs, rfl, h, fun p hp => k p _ (hC.newM hp rfl)⟩
/-! for -/
def kIl (K : PySem.W.Frag) (R : It → Hp → Prop) : VK := fun x H1 => ∃ a, x = .ref a ∧ (∃ xs, SqL K H1 a xs) ∧ R (Itl K a) H1
def kRng (R : It → Hp → Prop) : List V → Hp → Prop := fun vs H1 => ∃ j : Int, vs = [.int j] ∧ -(2 ^ 62) ≤ j ∧ j < 2 ^ 62 ∧ R (Itr 0 j.toNat) H1
def kFor (g : TG) (tb : TS) (D : Ends) (σ : L2.St) : It → Hp → Prop := fun J H1 => ∃ W : Nat → Nat → L2.St → Hp → Prop, (∃ m, W 0 m σ H1) ∧ ∀ i m σ H, W i m σ H →
  (J.stop i H ∧ D.nx σ H) ∨ (J.go i H ∧ ∃ N : L2.St → Hp → Prop, (∀ σ' H', N σ' H' → ∃ m', m' < m ∧ W (i + 1) m' σ' H') ∧ ∀ x H', J.yld i H x H' → g x σ H' fun σ2 H2 => tb { D with nx := N, ct := N, bk := D.nx } σ2 H2)
theorem s_for {wi : TI} {g : TG} {tb : TS} (h : wi σ H (kFor g tb ⟨A, Bt, Cb, Dc⟩ σ)) : tFor wi g tb ⟨A, Bt, Cb, Dc⟩ σ H := h
theorem s_il {tl : TE} {R : It → Hp → Prop} (h : tl σ H (kIl K R)) : iList K tl σ H R := h
theorem s_ilV {a : Addr} {xs : List V} {R : It → Hp → Prop} (m : H a = some (.lst xs)) (h : R (Itl K a) H) : kIl K R (.ref a) H := ⟨a, rfl, ⟨xs, SqL.of m⟩, h⟩
theorem s_rng {ta : TA} {R : It → Hp → Prop} (h : ta σ H (kRng R)) : iRng1 ta σ H R := h
theorem s_rngV {j : Int} {R : It → Hp → Prop} (h1 : -(2 ^ 62) ≤ j) (h2 : j < 2 ^ 62) (h : R (Itr 0 j.toNat) H) : kRng R [.int j] H := ⟨j, rfl, h1, h2, h⟩
theorem for_rng {n : Nat} {g : TG} {tb : TS} (Pv : Nat → L2.St → Hp → Prop) (h0 : Pv 0 σ H)
    (hs : ∀ i σ H, i < n → Pv i σ H → g (.int i) σ H fun σ2 H2 => tb ⟨Pv (i + 1), Bt, A, Pv (i + 1)⟩ σ2 H2) (hd : ∀ σ H, Pv n σ H → A σ H) : kFor g tb ⟨A, Bt, Cb, Dc⟩ σ (Itr 0 n) H :=
  for_range (lo := 0) (n := n) (g := g) (tb := tb) (D := ⟨A, Bt, Cb, Dc⟩) Pv h0 (fun i σ H hi p => by
    rw [Int.zero_add]
    exact hs i σ H hi p) hd
theorem for_lst {a : Addr} {xs : List V} {g : TG} {tb : TS} (Pv : Nat → L2.St → Hp → Prop) (h0 : Pv 0 σ H) (hl : ∀ i σ H, i ≤ xs.length → Pv i σ H → H a = some (.lst xs))
    (hs : ∀ i x σ H, xs[i]? = some x → Pv i σ H → g x σ H fun σ2 H2 => tb ⟨Pv (i + 1), Bt, A, Pv (i + 1)⟩ σ2 H2) (hd : ∀ σ H, Pv xs.length σ H → A σ H) : kFor g tb ⟨A, Bt, Cb, Dc⟩ σ (Itl K a) H :=
  for_list (K := K) (xs := xs) (g := g) (tb := tb) (D := ⟨A, Bt, Cb, Dc⟩) Pv h0 (fun i σ H hi p => SqL.of (hl i σ H hi p)) hs hd
/-! comprehensions -/
def kLc (g : TG) (tt : TT) (te : TE) (vs : List Nat) (σ : L2.St) (Q : VK) : It → Hp → Prop := fun J H1 => ∀ D, H1 D = none → ∃ W : Nat → Nat → Hp → Prop, (∃ m, W 0 m (upd H1 D (.lst []))) ∧ ∀ i m H, W i m H →
  (J.stop i H ∧ Q (.ref D) H) ∨ (J.go i H ∧ ∃ Nx : Hp → Prop, (∀ H', Nx H' → ∃ m', m' < m ∧ W (i + 1) m' H') ∧ ∀ x H', J.yld i H x H' → g x (wipe σ vs) H' fun σ2 H2 => wipe σ2 vs = wipe σ vs ∧ tt σ2 H2 fun b H3 =>
    if b = true then te σ2 H3 fun y H4 => ∃ acc, H4 D = some (.lst acc) ∧ acc.length < sizeLine ∧ Nx (upd H4 D (.lst (acc ++ [y]))) else Nx H3)
theorem s_lc {wi : TI} {g : TG} {tt : TT} {te : TE} {vs : List Nat} (h : wi σ H (kLc g tt te vs σ Q)) : tLc wi g tt te vs σ H Q := h
def kApp (D : Addr) (Pn : Hp → Prop) : VK := fun y H4 => ∃ acc, H4 D = some (.lst acc) ∧ acc.length < sizeLine ∧ Pn (upd H4 D (.lst (acc ++ [y])))
theorem s_app {D : Addr} {Pn : Hp → Prop} {acc : List V} {y : V} (hC : Ctx K B H L I) (m : H D = some (.lst acc)) (z : acc.length < 100000) (u : Up D (.lst (acc ++ [y])) L L') (k : ∀ H1, Ctx K B H1 L' I → Pn H1) : kApp D Pn y H :=
  ⟨acc, m, Nat.lt_of_lt_of_le z (by rw [sizeLine_eq]; omega), k _ (hC.put u rfl)⟩
theorem lc_lst {a : Addr} {xs : List V} {g : TG} {te : TE} {vs : List Nat} (hC : Ctx K B H L I) (Pv : Addr → Nat → Hp → Prop) (h0 : ∀ D H1, Ctx K B H1 ((D, .lst []) :: L) I → Pv D 0 H1) (hl : ∀ i D H, i ≤ xs.length → Pv D i H → H a = some (.lst xs))
    (hs : ∀ i x D H, xs[i]? = some x → Pv D i H → g x (wipe σ vs) H fun σ2 H2 => wipe σ2 vs = wipe σ vs ∧ te σ2 H2 (kApp D (Pv D (i + 1))))
    (hd : ∀ D H, Pv D xs.length H → Q (.ref D) H) : kLc g tYes te vs σ Q (Itl K a) H := fun D hD =>
  lc_list (K := K) (xs := xs) (g := g) (tt := tYes) (te := te) (vs := vs) (σ := σ) (H1 := H) (D := D) (Qd := fun H => Q (.ref D) H) (fun i H => Pv D i H) (h0 D _ (hC.newM hD rfl)) (fun i H hi p => SqL.of (hl i D H hi p))
    (fun i x H hx p => by
      have e : (fun σ2 H2 => wipe σ2 vs = wipe σ vs ∧ tYes σ2 H2 fun b H3 => if b = true then te σ2 H3 fun y H4 => ∃ acc, H4 D = some (.lst acc) ∧ acc.length < sizeLine ∧ Pv D (i + 1) (upd H4 D (.lst (acc ++ [y]))) else Pv D (i + 1) H3)
          = fun σ2 H2 => wipe σ2 vs = wipe σ vs ∧ te σ2 H2 (kApp D (Pv D (i + 1))) := by
        funext σ2 H2
        unfold tYes
        simp only [if_true]
        rfl
      rw [e]
      exact hs i x D H hx p) (fun H p => hd D H p)
/-! dict displays -/
def kDisp (p : Addr) (Q : VK) : List (V × V) → Hp → Prop := fun ps H2 => H2 p = some (.dK []) ∧ ∃ kvs : List (Key × V), ps = kvs.map (fun kv => (kV kv.1, kv.2)) ∧ kvs.length ≤ 15 ∧ Q (.ref p) (upd H2 p (.dK (mergeK [] kvs)))
theorem s_disp {trs : List (TE × TE)} (hC : Ctx K B H L I) (k : ∀ p H1, Ctx K B H1 ((p, .dK []) :: L) I → tPairs trs σ H1 (kDisp p Q)) : tDisp trs σ H Q := fun p hp => k p _ (hC.newM hp rfl)
theorem s_pair {tk tv : TE} {r : List (TE × TE)} {Qp : List (V × V) → Hp → Prop} (h : tk σ H fun x H1 => tv σ H1 fun y H2 => tPairs r σ H2 fun ps H3 => Qp ((x, y) :: ps) H3) : tPairs ((tk, tv) :: r) σ H Qp := h
theorem s_pnil {Qp : List (V × V) → Hp → Prop} (h : Qp [] H) : tPairs [] σ H Qp := h
/-- pairs of values as entries -/
inductive ToK : List (V × V) → List (Key × V) → Prop
  | nil : ToK [] []
  | str {s : Str} {v : V} {r : List (V × V)} {q : List (Key × V)} : ToK r q → ToK ((.str s, v) :: r) ((Sum.inr s, v) :: q)
  | int {s : Int} {v : V} {r : List (V × V)} {q : List (Key × V)} : ToK r q → ToK ((.int s, v) :: r) ((Sum.inl s, v) :: q)
theorem ToK.ok : ∀ {r q}, ToK r q → r = q.map (fun kv => (kV kv.1, kv.2))
  | _, _, .nil => rfl
  | _, _, .str h => by rw [List.map_cons, ← h.ok]; rfl
  | _, _, .int h => by rw [List.map_cons, ← h.ok]; rfl
/-- keys all different -/
inductive RDis : List (Key × V) → List (Key × V) → Prop
  | nil {acc : List (Key × V)} : RDis acc []
  | cons {acc r : List (Key × V)} {k : Key} {v : V} : DNo k acc → RDis ((k, v) :: acc) r → RDis acc ((k, v) :: r)
theorem DNo.any {k : Key} : ∀ {r : List (Key × V)}, DNo k r → ∀ x, x ∈ r → ¬ x.1 = k
  | _, .nil, x, h => by cases h
  | _, .there n t, x, h => by
    rcases List.mem_cons.mp h with e | h
    · rw [e]; exact n
    · exact t.any x h
theorem RDis.ok : ∀ {acc r : List (Key × V)}, RDis acc r → mergeK acc.reverse r = acc.reverse ++ r
  | acc, _, .nil => by rw [List.append_nil]; rfl
  | acc, (k, v) :: r, .cons n t => by
    have e : putK acc.reverse k v = acc.reverse ++ [(k, v)] := by
      unfold putK
      rw [if_neg]
      intro h
      obtain ⟨x, hx, hk⟩ := List.any_eq_true.mp h
      exact n.any x (List.mem_reverse.mp hx) (of_decide_eq_true hk)
    have ih := t.ok
    rw [List.reverse_cons] at ih
    show mergeK (putK acc.reverse k v) r = _
    rw [e, ih, List.append_assoc]
    rfl
theorem s_dispV {p : Addr} {ps : List (V × V)} {kvs : List (Key × V)} (hC : Ctx K B H L I) (m : H p = some (.dK [])) (h : ToK ps kvs) (n : RDis [] kvs) (z : kvs.length ≤ 15) (u : Up p (.dK kvs) L L') (k : ∀ H1, Ctx K B H1 L' I → Q (.ref p) H1) : kDisp p Q ps H :=
  ⟨m, kvs, h.ok, z, by
    have e := n.ok
    rw [List.reverse_nil, List.nil_append] at e
    rw [e]
    exact k _ (hC.put u rfl)⟩
/-! lambdas handed to the teller -/
def kTold (K : PySem.W.Frag) (C : Addr) (ret : Str) (Q : VK) : XK := fun cls _ H' => ∃ b, PySem.W.exmOne K cls (.ref C) = some b ∧ (b = true → Q (.str ret) H') ∧ (b = false → False)
theorem s_toldE {C D : Addr} {ret : Str} {d : Option Addr} (e : PySem.W.exmOne K (.ref D) (.ref C) = some true) (h : Q (.str ret) H) : kTold K C ret Q (.ref D) d H := ⟨true, e, fun _ => h, fun q => by cases q⟩
/-! a list of ints, an index not known -/
inductive AllI : List V → List Int → Prop
  | nil : AllI [] []
  | cons {i : Int} {r : List V} {q : List Int} : AllI r q → AllI (.int i :: r) (i :: q)
theorem AllI.get : ∀ {r : List V} {q : List Int} {j : Nat}, AllI r q → j < r.length → ∃ i : Int, r[j]? = some (.int i) ∧ i ∈ q
  | _, _, 0, .cons h, _ => ⟨_, rfl, List.mem_cons_self⟩
  | _, _, j + 1, .cons h, z => by
    obtain ⟨i, e, m⟩ := h.get (j := j) (by rw [List.length_cons] at z; omega)
    exact ⟨i, by rw [List.getElem?_cons_succ]; exact e, List.mem_cons_of_mem _ m⟩
theorem s_ixAny {l : Addr} {vs : List V} {zs : List Int} {r : Int} (m : H l = some (.lst vs)) (h : AllI vs zs) (h0 : 0 ≤ r) (h1 : r < vs.length) (q : ∀ z : Int, z ∈ zs → Q (.int z) H) : rIxU K (.ref l) (.int r) H Q := by
  obtain ⟨i, e, w⟩ := h.get (j := r.toNat) (by omega)
  have e2 := atI_nat e
  rw [Int.toNat_of_nonneg h0] at e2
  exact s_ixL m e2 (q i w)
/-! more of values -/
theorem s_eqIT {i j : Int} (p : i = j) (h : Q (.bl true) H) : rEqU K (.int i) (.int j) H Q := s_eqI (by rw [decide_eq_true p]; exact h)
theorem s_eqIF {i j : Int} (p : ¬ i = j) (h : Q (.bl false) H) : rEqU K (.int i) (.int j) H Q := s_eqI (by rw [decide_eq_false p]; exact h)
theorem s_int1T (h : Q (.int 1) H) : rInt1 [.bl true] H Q := .inr ⟨true, rfl, h⟩
theorem s_int1F (h : Q (.int 0) H) : rInt1 [.bl false] H Q := .inr ⟨false, rfl, h⟩
theorem s_eqSN {j : Str} (h : Q (.bl false) H) : rEqU K (.str j) .non H Q := .inl ⟨rfl, h⟩
theorem s_eqST {i j : Str} (p : i = j) (h : Q (.bl true) H) : rEqU K (.str i) (.str j) H Q := s_eqS (by rw [decide_eq_true p]; exact h)
theorem s_neIF {i : Int} (h : Q (.bl false) H) : rNeU K (.int i) (.int i) H Q := s_neI (by rw [decide_eq_true rfl]; exact h)
theorem s_neBs {b : Bool} (h : Q (.bl false) H) : rNeU K (.bl b) (.bl b) H Q := s_neB (by rw [show (b != b) = false from by cases b <;> rfl]; exact h)
theorem s_neTF (h : Q (.bl true) H) : rNeU K (.bl true) (.bl false) H Q := s_neB h
theorem s_neFT (h : Q (.bl true) H) : rNeU K (.bl false) (.bl true) H Q := s_neB h
theorem s_eqBs {b : Bool} (h : Q (.bl true) H) : rEqU K (.bl b) (.bl b) H Q := s_eqB (by rw [show (b == b) = true from by cases b <;> rfl]; exact h)
theorem s_eqTF (h : Q (.bl false) H) : rEqU K (.bl true) (.bl false) H Q := s_eqB h
theorem s_eqFT (h : Q (.bl false) H) : rEqU K (.bl false) (.bl true) H Q := s_eqB h
/-! a block of the layout that another hand keeps -/
inductive Pull (O : List (Addr × HO)) : List (Addr × HO) → List (Addr × HO) → Prop
  | here {F : List (Addr × HO)} : Pull O (F ++ O) F
  | there {x : Addr × HO} {L F : List (Addr × HO)} : Pull O L F → Pull O (x :: L) (x :: F)
theorem Pull.perm {O : List (Addr × HO)} : ∀ {L F}, Pull O L F → L.Perm (O ++ F)
  | _, _, .here => List.perm_append_comm
  | _, _, .there p => (List.Perm.cons _ p.perm).trans List.perm_middle.symm
/-- some of the layout, in another order -/
inductive Sel : List (Addr × HO) → List (Addr × HO) → Prop
  | refl {L : List (Addr × HO)} : Sel L L
  | cons {x : Addr × HO} {L L' T : List (Addr × HO)} : Pick x L L' → Sel L' T → Sel L (x :: T)
  | skip {x : Addr × HO} {L T : List (Addr × HO)} : Sel L T → Sel (x :: L) T
theorem Sel.perm : ∀ {L T}, Sel L T → ∃ J, L.Perm (T ++ J)
  | L, _, .refl => ⟨[], by rw [List.append_nil]⟩
  | _, _, .cons p s => by
    obtain ⟨J, h⟩ := s.perm
    exact ⟨J, p.perm.trans (List.Perm.cons _ h)⟩
  | _, _, .skip s => by
    obtain ⟨J, h⟩ := s.perm
    exact ⟨_ :: J, (List.Perm.cons _ h).trans List.perm_middle.symm⟩
theorem Sel.lay {T : List (Addr × HO)} (s : Sel L T) (y : Lay H L) : Lay H T := by
  obtain ⟨J, h⟩ := s.perm
  have y := y.perm h
  exact ⟨(List.nodup_append.mp (by rw [← List.map_append]; exact y.nd)).1, fun p hp => y.at_ p (List.mem_append_left _ hp)⟩
end
end Ph
namespace Ph
open PySem PySem.Spec PyProof.Rows L2 LamX
/-- at f stands the lambda of these words -/
def LamC (f c : Addr) (q : Str) (ps : Arguments) (body : Expr) (sc : Scope) (cl : List (Str × Addr)) : HO := .ext fun h => ∃ pm ctv : Value, h.get? f = some (PySem.W.kla_obj "<lambda>" q ps body sc cl pm c ctv)
abbrev LamO (f c : Addr) (q : Str) (ps : Arguments) (body : Expr) (sc : Scope) : HO := LamC f c q ps body sc []
/-- all but the object at P stays -/
def ExtP (P : Addr) (H H' : Hp) : Prop := ∀ b o, b ≠ P → H b = some o → H' b = some o
theorem ExtP.refl (P : Addr) (H : Hp) : ExtP P H H := fun _ _ _ h => h
theorem ExtP.trans {P : Addr} {H H1 H2 : Hp} (a : ExtP P H H1) (b : ExtP P H1 H2) : ExtP P H H2 := fun c o n h => b c o n (a c o n h)
theorem ExtP.of {P : Addr} {H H' : Hp} (e : ∀ b o, H b = some o → H' b = some o) : ExtP P H H' := fun b o _ h => e b o h
structure LamD where
  ps : Arguments
  body : Expr
  sc : Scope
/-- only globals -/
def noOwn (sc : Scope) : Bool := decide (sc.kind = .function) && !sc.isCoroutine && !sc.isGenerator && sc.names.all fun y => !decide (y.2 = .local) && !decide (y.2 = .cell) && !decide (y.2 = .free)
structure NoOwn (sc : Scope) : Prop where
  kind : sc.kind = .function
  co : sc.isCoroutine = false
  gen : sc.isGenerator = false
  own : ∀ y, y ∈ sc.names → y.2 ≠ .local ∧ y.2 ≠ .cell ∧ y.2 ≠ .free
theorem noOwn_by {sc : Scope} (h : noOwn sc = true) : NoOwn sc := by
  unfold noOwn at h
  simp only [Bool.and_eq_true, Bool.not_eq_true', decide_eq_true_eq, decide_eq_false_iff_not, List.all_eq_true] at h
  obtain ⟨⟨⟨a, b⟩, c⟩, d⟩ := h
  exact ⟨a, b, c, fun y hy => ⟨(d y hy).1.1, (d y hy).1.2, (d y hy).2⟩⟩
theorem clo_nil {cells : List (Str × Addr)} : ∀ {names : List (Str × NameKind)}, (∀ y, y ∈ names → y.2 ≠ .free) → cloFrom cells names [] = []
  | [], _ => rfl
  | (n, k) :: r, h => by
    unfold cloFrom
    have e : (k == NameKind.free) = false := by
      have := h (n, k) List.mem_cons_self
      simpa using this
    rw [if_neg (by rw [e]; decide)]
    exact clo_nil fun y hy => h y (List.mem_cons_of_mem _ hy)
section
variable {X : Cx} {pins : List (Addr × Obj)} {σ : L2.St} {H : Hp} {s : Shared}
theorem inv_lamC {q : Str} {ps : Arguments} {body : Expr} {sc : Scope} {cl : List (Str × Addr)} {c : Addr} {pm ctv : Value} {t' : Nat} (I : Inv X pins σ H s) :
    Inv X pins σ (upd H s.heap.objs.size (LamC s.heap.objs.size c q ps body sc cl)) { s with heap := s.heap.push (PySem.W.kla_obj "<lambda>" q ps body sc cl pm c ctv), toks := t' } := by
  refine I.laid (a := s.heap.objs.size) (fun b u e => Heap.get?_push_of_some _ e) (Nat.le_refl _) ?_
  have e : (s.heap.push (PySem.W.kla_obj "<lambda>" q ps body sc cl pm c ctv)).get? s.heap.objs.size = some (PySem.W.kla_obj "<lambda>" q ps body sc cl pm c ctv) := Heap.get?_push_size _ rfl
  exact ⟨⟨pm, ctv, e⟩, ⟨_, e⟩, fun h1 h2 ⟨p, t, z⟩ st => ⟨p, t, st _ z⟩⟩
theorem lamC_make {c P : Addr} {ps : Arguments} {body : Expr} {sc : Scope} {pos : Pos} {E Q : Value → Shared → Prop} (I : Inv X pins σ H s) (TB : LamX.TabB X.base X.mg c P) (hcode : X.env.code = .ref c)
    (hT : TabS H P (X.env.qual ++ "<lambda>")) (hdef : defaultsOf ps X.env = ([], [])) (hfree : ∀ y ∈ sc.names, y.2 = .free → ∃ c, X.env.cells.lookup y.1 = some c)
    (h : ∀ (f c' : Addr) (H1 : Hp) (s' : Shared), Inv X pins σ H1 s' → ExtP P H H1 → TabS H1 P (X.env.qual ++ "<lambda>") → H1 f = some (LamC f c' (X.env.qual ++ "<lambda>") ps body sc (cloFrom X.env.cells sc.names [])) → H1 c' = some (CodeO c' (X.env.qual ++ "<lambda>")) → Q (.ref f) s') :
    wpAny (model X.prog X.w) X.A (eval (.Lambda ps body sc pos) X.env) Q E s := by
  obtain ⟨tb, hP, ht, ha⟩ := hT
  refine PySem.W.kla_eval hdef ?_
  have bP : s.heap.BuiltinsAt X.mg P := TB.bm.keeps I.bk
  have hP' : s.heap.get? P = some { cls := .none, data := .fields tb } := I.hok P _ hP
  cases hc : codeAmong pos tb.toList with
  | none =>
    refine PySem.W.kla_makeFunction (mg := X.mg) (c := c) (P := P) (ps := tb) (closure_ok hfree) I.ok.glob (I.mod.glob.keeps I.bk) hcode (TB.code.keeps I.bk) hP' ht hc TB.gP bP fun c' ctv h' tk hx hge hlt hrec htb => ?_
    obtain ⟨c2, oc, vs, t, e2, hoc, hd, hv⟩ := hrec
    cases e2
    have nC : H c' = none := I.hok.fresh hge
    have I1 := inv_table (t' := tk) (more := #[rawInt pos.line, rawInt pos.col, .ref c']) (h' := h') I hP (fun b o hb e => hx b o hb e) htb hge ⟨oc, vs, t, hoc, hd, hv⟩
    have hE : ExtP P H (upd (upd H P (.tbl (tb ++ #[rawInt pos.line, rawInt pos.col, .ref c']))) c' (CodeO c' (X.env.qual ++ "<lambda>"))) := fun b o n e => by
      rw [upd_ne (ne_of_none e nC), upd_ne n]
      exact e
    have eL : (tb ++ #[rawInt pos.line, rawInt pos.col, .ref c']).toList = tb.toList ++ [rawInt pos.line, rawInt pos.col, .ref c'] := by simp
    have nPo : ∀ {b : Addr} {q : Str}, H b = some (CodeO b q) → b ≠ P := fun e z => by
      rw [z, hP] at e
      cases e
    have T1 : TabS (upd (upd H P (.tbl (tb ++ #[rawInt pos.line, rawInt pos.col, .ref c']))) c' (CodeO c' (X.env.qual ++ "<lambda>"))) P (X.env.qual ++ "<lambda>") := by
      refine ⟨_, by rw [upd_ne (ne_of_none hP nC), upd_same], by rw [eL]; exact PySem.TriplesOk_snoc _ _ _ _ ht, fun p' cv hcv => ?_⟩
      rw [eL] at hcv
      rcases among_app _ ht hcv with z | z
      · obtain ⟨c0, e1, e2⟩ := ha p' cv z
        exact ⟨c0, e1, hE _ _ (nPo e2) e2⟩
      · exact ⟨c', z, upd_same⟩
    have nF := I1.hok.fresh (Nat.le_refl _)
    have I2 := inv_lamC (cl := cloFrom X.env.cells sc.names []) (q := X.env.qual ++ "<lambda>") (ps := ps) (body := body) (sc := sc) (c := c') (pm := (X.mg "__name__").getD .none) (ctv := ctv) (t' := tk) I1
    have grow : ∀ b o, upd (upd H P (.tbl (tb ++ #[rawInt pos.line, rawInt pos.col, .ref c']))) c' (CodeO c' (X.env.qual ++ "<lambda>")) b = some o → upd (upd (upd H P (.tbl (tb ++ #[rawInt pos.line, rawInt pos.col, .ref c']))) c' (CodeO c' (X.env.qual ++ "<lambda>"))) h'.objs.size (LamC h'.objs.size c' (X.env.qual ++ "<lambda>") ps body sc (cloFrom X.env.cells sc.names [])) b = some o := fun b o e => (upd_ne (ne_of_none e nF)).trans e
    exact h h'.objs.size c' _ _ I2 (hE.trans (ExtP.of grow)) (T1.ext grow) upd_same (grow _ _ upd_same)
  | some cv =>
    obtain ⟨c', e, hco⟩ := ha pos cv hc
    subst e
    refine PySem.W.kla_makeFunctionHit (mg := X.mg) (c := c) (P := P) (ps := tb) (closure_ok hfree) I.ok.glob (I.mod.glob.keeps I.bk) hcode (TB.code.keeps I.bk) hP' ht hc bP fun ctv h' tk hx hsz => ?_
    have I1 : Inv X pins σ H { s with heap := h', toks := tk } := I.kept hx
    have nF : H h'.objs.size = none := I1.hok.fresh (Nat.le_refl _)
    have I2 := inv_lamC (cl := cloFrom X.env.cells sc.names []) (q := X.env.qual ++ "<lambda>") (ps := ps) (body := body) (sc := sc) (c := c') (pm := (X.mg "__name__").getD .none) (ctv := ctv) (t' := tk) I1
    have grow : ∀ b o, H b = some o → upd H h'.objs.size (LamC h'.objs.size c' (X.env.qual ++ "<lambda>") ps body sc (cloFrom X.env.cells sc.names [])) b = some o := fun b o e => (upd_ne (ne_of_none e nF)).trans e
    exact h h'.objs.size c' _ _ I2 (ExtP.of grow) (TabS.ext ⟨tb, hP, ht, ha⟩ grow) upd_same (grow _ _ hco)
end
/-- the lambda as a value -/
def tLamV (P : Addr) (q : Str) (d : LamD) : TE := fun _ H Q => TabS H P q ∧ ∀ (f c : Addr) (H1 : Hp), ExtP P H H1 → TabS H1 P q → H1 f = some (LamO f c q d.ps d.body d.sc) → H1 c = some (CodeO c q) → Q (.ref f) H1
theorem pe_lamV {X : Cx} {c P : Addr} {d : LamD} {pos : Pos} (TB : LamX.TabB X.base X.mg c P) (hcode : X.env.code = .ref c)
    (hdef : defaultsOf d.ps X.env = ([], [])) (hno : noOwn d.sc = true) : PE X (.Lambda d.ps d.body d.sc pos) (tLamV P (X.env.qual ++ "<lambda>") d) := by
  refine ⟨fun pins s σ H Q I h => ?_⟩
  obtain ⟨hT, h⟩ := h
  have hno := noOwn_by hno
  have ecl : cloFrom X.env.cells d.sc.names [] = [] := clo_nil fun y hy => (hno.own y hy).2.2
  exact lamC_make I TB hcode hT hdef (fun y hy e => absurd e (hno.own y hy).2.2) fun f c' H1 s' I1 e t1 h1 h2 => ⟨.ref f, H1, I1, rfl, h f c' H1 e t1 (by rw [ecl] at h1; exact h1) h2⟩
/-- where the lambda's body runs -/
def lamCx0 (X : Cx) (q : Str) (A : Around) (outer : List Env) (s : Shared) (H : Hp) (E : XK) (sc : Scope) (f c : Addr) : Cx where
  prog := X.prog
  w := X.w
  K := X.K
  mg := X.mg
  base := X.base
  A := A.deeper (PySem.W.envX q sc s.heap.objs.size f (.ref c) [])
  N := X.N
  s_0 := s
  H_0 := H
  env := PySem.W.envX q sc s.heap.objs.size f (.ref c) []
  outer := outer
  stack := PySem.W.envX q sc s.heap.objs.size f (.ref c) [] :: outer
  ex := []
  fn := fun _ => false
  calm := true
  pn := []
  xe := fun e s' => wpAny (model X.prog X.w) (A.deeper (PySem.W.envX q sc s.heap.objs.size f (.ref c) [])) (leaving (PySem.W.envX q sc s.heap.objs.size f (.ref c) []) e) (fun _ s'' => L2.CX X.prog X.w outer H s E e s'') (fun e' s'' => L2.CX X.prog X.w outer H s E e' s'') s'
theorem lam_start0 {X : Cx} {q : Str} {HZ : Hp} {s1 : Shared} {A : Around} {outer : List Env} {E : XK} {sc : Scope} {f c : Addr} {h₁ : Heap} {tk : Nat} (L : NoOwn sc) (e0 : Env0 X.prog X.w X.K X.mg X.base A outer s1 HZ) (hd : A.handled = none)
    (hns : h₁.Ns s1.heap.objs.size fun y => ([] : List (Str × Value)).reverse.lookup y) (kp : ∀ b o, s1.heap.get? b = some o → h₁.get? b = some o) :
    Inv (lamCx0 X q A outer s1 HZ E sc f c) [] (List.replicate X.N.length none) HZ { s1 with heap := h₁, toks := tk } := by
  have noA : ∀ b : Addr, b ∉ (lamCx0 X q A outer s1 HZ E sc f c).ex := fun b z => absurd (show b ∈ ([] : List Addr) from z) (by simp)
  refine ⟨⟨e0.mod, L.kind, rfl, rfl, Nat.le_refl _, fun y z c e1 e2 => ?_, fun y hy => ?_, fun y c z _ => ?_, fun _ => hd, Around.frames_deeper e0.frames, .inr ⟨rfl, rfl⟩, fun b z => absurd z (noA b), e0.bs, e0.bsz, fun b _ _ => noA b,
      fun b z => absurd z (noA b), e0.funs, e0.frf⟩,
    rfl, e0.bare, Un.kept kp, ⟨_, hns, fun i y v e1 e2 e3 => ?_⟩, fun y c e => ?_, e0.hok.fresh (Nat.le_refl _), fun y c e => ?_, fun q hq => absurd (show q ∈ ([] : List (Addr × Obj)) ++ [] from hq) (by simp), e0.hok.kept kp, List.length_replicate⟩
  · cases (show List.lookup y ([] : List (Str × Addr)) = some c from e1)
  · have hy : sc.names.lookup y = some .cell ∨ sc.names.lookup y = some .free := hy
    rcases hy with hy | hy
    · exact absurd rfl (L.own _ (PySem.mem_of_lookup hy)).2.1
    · exact absurd rfl (L.own _ (PySem.mem_of_lookup hy)).2.2
  · cases (show false = true from z)
  · have e3 : Vis sc y := e3
    rcases e3 with k | k | k
    · exact absurd rfl (L.own _ (PySem.mem_of_lookup k)).1
    · exact absurd rfl (L.own _ (PySem.mem_of_lookup k)).2.1
    · exact absurd rfl (L.own _ (PySem.mem_of_lookup k)).2.2
  · cases (show List.lookup y ([] : List (Str × Addr)) = some c from e)
  · cases (show List.lookup y ([] : List (Str × Addr)) = some c from e)
theorem pe_act0 {X : Cx} {H : Hp} {s : Shared} {CXg : CXT} {Eg : XK} {Ng : List Str} {q qg : Str} {sg : Scope} {g f c' : Addr} {cdg : Value} {ps : Arguments} {body : Expr} {sc : Scope} {k i : Nat} {a : Str} {pn : List (Addr × Obj)} {xe : Value → Shared → Prop} {W : WX} {E : XK} {tb : TE} {p1 p2 : Pos}
    (L : NoOwn sc) (hbind : ∀ pm ctv : Value, bindArgs (PySem.W.kla_fn "<lambda>" q ps body sc [] pm (.ref c') ctv) ⟨[], []⟩ = pure [])
    (tk : Takes ((cxOf CXg X.prog X.w X.K X.mg X.base Ng qg sg g cdg X.A X.stack s H Eg).tr pn xe) W) (hW : ∀ cls d σ' H', E cls d H' → W cls d σ' H') (hr : Room (k + 1) (X.A.deeper (envOfC qg sg s.heap.objs.size g cdg)))
    (hbody : ∀ (A : Around) (outer : List Env) (s : Shared) (H : Hp), Room k (A.deeper (PySem.W.envX q sc s.heap.objs.size f (.ref c') [])) → PE (lamCx0 X q A outer s H E sc f c') body tb)
    (hN : Ng[i]? = some a) (hv : Vis sg a) (hd : (a == ("__debug__" : Str)) = false := by decide) (hcd : (a == ("__classdict__" : Str)) = false := by decide) :
    PE ((cxOf CXg X.prog X.w X.K X.mg X.base Ng qg sg g cdg X.A X.stack s H Eg).tr pn xe) (.Call (.Name a p1) [] [] p2)
      (fun σZ HZ Q => σZ[i]? = some (some (.ref f)) ∧ HZ c' = some (CodeO c' q) ∧ HZ f = some (LamO f c' q ps body sc) ∧ tb (List.replicate X.N.length none) HZ Q) := by
  refine ⟨fun pinsZ sZ σZ HZ Q IZ h => ?_⟩
  obtain ⟨hs, hc, hf, ht⟩ := h
  refine wpAny_Call_Name_kw (thn ((pe_var (pos := p1) (i := i) hN hv hd hcd).run pinsZ sZ σZ HZ (fun v H1 => v = .ref f ∧ H1 = HZ) IZ ⟨.ref f, hs, rfl, rfl⟩) fun u s1 ⟨v, H1, I1, r1, q1⟩ => ?_)
  obtain ⟨ev, eH⟩ := q1
  subst ev
  rw [eH] at I1
  obtain rfl : u = Value.ref f := r1
  obtain ⟨⟨pm, ctv, of1⟩, _, _⟩ := I1.hok f _ hf
  refine PySem.W.callWith_F0 ⟨_, _, _, _, of1⟩ ?_
  obtain ⟨⟨oc, vs, t, hoc, hdc, hvc⟩, _, _⟩ := I1.hok c' _ hc
  have rc : codeAny (model X.prog X.w) (X.A.deeper (envOfC qg sg s.heap.objs.size g cdg)) (.call (.ref f) ⟨[], []⟩) (CR (L2.CX X.prog X.w) (envOfC qg sg s.heap.objs.size g cdg :: X.stack) X.prog X.w HZ s1 Q E) s1 := by
    refine PySem.W.kla_callFunE hr.depth of1 rfl L.co L.gen rfl ⟨c', oc, vs, t, rfl, hoc, hdc, hvc⟩ ?_
    rw [hbind]
    refine wpAny_pure (wpAny_newFunctionEnv (fun y hy => (L.own y hy).2.1) (fun y hy => absurd hy (by simp)) (fun h₁ hns hsb => ⟨I1.nolimit.fresh _ hsb, ?_⟩) L.kind)
    show codeAny _ _ (.expr body (PySem.W.envX q sc s1.heap.objs.size f (.ref c') [])) _ _
    have kp : ∀ b o, s1.heap.get? b = some o → h₁.get? b = some o := fun b o e => hsb.extBut b o (Nat.ne_of_lt (Heap.lt_size e)) (Heap.get?_push_of_some _ e)
    have J : Inv (lamCx0 X q (X.A.deeper (envOfC qg sg s.heap.objs.size g cdg)) (envOfC qg sg s.heap.objs.size g cdg :: X.stack) s1 HZ E sc f c') [] (List.replicate X.N.length none) HZ { s1 with heap := h₁, toks := s1.toks + ([] : List (Str × Value)).length } :=
      lam_start0 L I1.env0 hr.hd hns kp
    refine PySem.W.kla_codeExpr (wpAny_mono ((hbody _ _ s1 HZ (hr.deeper _)).run [] _ _ HZ Q J ht) (fun v s' hq => ?_) fun e s' hq => hq)
    obtain ⟨w', H', J', rv, q⟩ := hq
    exact ⟨w', H', J'.os, J'.bare, J'.base, J'.hok, rv, q⟩
  have hx : Passes (L2.CX X.prog X.w) ((cxOf CXg X.prog X.w X.K X.mg X.base Ng qg sg g cdg X.A X.stack s H Eg).tr pn xe) E := passes_call tk hW
  refine wpAny_call (codeAny_mono rc fun r s' hq => ?_)
  cases r with
  | error e => exact hx pinsZ σZ HZ s1 e s' I1 hq
  | ok fl =>
    cases fl with
    | ret u => exact I1.after hq
    | next => exact False.elim hq
    | brk => exact False.elim hq
    | cont => exact False.elim hq
/-- the i-th slot holds one of the lambdas of fam: it is told -/
def tToldV (K : PySem.W.Frag) (CS : Addr) (ret q : Str) (n i : Nat) (fam : List LamD) (t : Nat → XK → TE) : TE := fun σ H Q => ∃ (f c : Addr) (k : Nat) (d : LamD), σ[i]? = some (some (.ref f)) ∧ fam[k]? = some d ∧
  H f = some (LamO f c q d.ps d.body d.sc) ∧ H c = some (CodeO c q) ∧ t k (kTold K CS ret Q) (List.replicate n none) H Q
theorem pe_toldV {X : Cx} {x a y q ret : Str} {g CS : Addr} {k i : Nat} {pg : Arguments} {bg : List Stmt} {sg : Scope} {dV kV doc pm cdv ct oc : Value} {an od : Option Addr} {osl : Array (Option Value)} {Ng : List Str}
    {fam : List LamD} {t : Nat → XK → TE} {p py pos : Pos} (hg : Gl X x) (hm : X.mg x = some (.ref g)) (hk : PySem.W.keepIn X.K (.ref g) = true)
    (lk : X.K.lookup g = some ⟨oc, od, .func (PySem.W.fnOf x x pg bg sg dV kV doc pm an cdv ct), osl⟩) (hcg : PySem.W.codeIn X.K cdv x = true) (hb : L2.Binds X.K (PySem.W.fnOf x x pg bg sg dV kV doc pm an cdv ct) [a] []) (Sg : FnScope Ng [a] sg) (hNg : Ng[0]? = some a) (hva : Vis sg a)
    (hG : GivesTo X Ng x sg g cdv bg a q (TTold X.K CS ret)) (hi : X.N[i]? = some y) (hv : Vis X.env.scope y) (hr : Room (k + 2) X.A)
    (hno : ∀ (j : Nat) (d : LamD), fam[j]? = some d → noOwn d.sc = true) (hbind : ∀ (j : Nat) (d : LamD), fam[j]? = some d → ∀ (c' : Addr) (pm ctv : Value), bindArgs (PySem.W.kla_fn "<lambda>" q d.ps d.body d.sc [] pm (.ref c') ctv) ⟨[], []⟩ = pure [])
    (hbody : ∀ (j : Nat) (d : LamD), fam[j]? = some d → ∀ (A : Around) (outer : List Env) (s : Shared) (H : Hp) (E : XK) (f c' : Addr), Room k (A.deeper (PySem.W.envX q d.sc s.heap.objs.size f (.ref c') [])) → PE (lamCx0 X q A outer s H E d.sc f c') d.body (t j E))
    (hdb : (x == ("__debug__" : Str)) = false := by decide) (hd : (a == ("__debug__" : Str)) = false := by decide) (hcd : (a == ("__classdict__" : Str)) = false := by decide) (hyd : (y == ("__debug__" : Str)) = false := by decide) (hyc : (y == ("__classdict__" : Str)) = false := by decide) :
    PE X (.Call (.Name x p) [.Name y py] [] pos) (tToldV X.K CS ret q X.N.length i fam t) := by
  refine ⟨fun pins s σ H Q I h => ?_⟩
  obtain ⟨f, c', j, d, hs, hj, hf, hc, ht⟩ := h
  refine wpAny_Call_Name_kw (ld_glob I hg hm ?_ hdb)
  refine PySem.W.callWith_K (h₀ := X.base) I.ok.mod.kin hk ?_ (by rfl) (by rfl)
  show wpAny _ _ (spliced ((false, eval (.Name y py) X.env) :: backTo pos (starEach [] X.env))) _ _ s
  refine Calls.spliced_cons (thn ((pe_var (pos := py) (i := i) hi hv hyd hyc).run pins s σ H (fun v H1 => v = .ref f ∧ H1 = H) I ⟨.ref f, hs, rfl, rfl⟩) fun u s' ⟨v, H1, I1, r1, q1⟩ => ?_)
  obtain ⟨ev, eH⟩ := q1
  subst ev
  rw [eH] at I1
  obtain rfl : u = Value.ref f := r1
  refine Calls.spliced_nil ⟨I1.kIn, ?_⟩
  have rc : codeAny (model X.prog X.w) X.A (.call (.ref g) ⟨[.ref f], []⟩) (CR C8.CX0 X.stack X.prog X.w H s' Q C8.E0) s' := by
    refine run_ofS (N := Ng) (ps := [a]) (us := [.ref f]) (vs := [.ref f]) lk hcg Sg hr I1.env0 (hb s' [.ref f] I1.kIn rfl) (.cons rfl .nil) rfl fun hr' => ?_
    obtain ⟨t', ht', hq'⟩ := hG f c' s' H Q (fun E H' Q' => H' f = some (LamO f c' q d.ps d.body d.sc) ∧ t j E (List.replicate X.N.length none) H' Q')
      (fun W pn xe E p1 p2 tk hW => pe_act0 (i := 0) (noOwn_by (hno j d hj)) (hbind j d hj c') tk hW hr' (fun A outer s H hr2 => hbody j d hj A outer s H E f c' hr2) hNg hva hd hcd) hc ⟨hf, ht⟩
    exact ⟨t', ht'.nox, hq'⟩
  refine wpAny_call (codeAny_mono rc fun r s2 hq => ?_)
  cases r with
  | error e => exact (show False from hq).elim
  | ok fl =>
    cases fl with
    | ret u => exact I1.after hq
    | next => exact False.elim hq
    | brk => exact False.elim hq
    | cont => exact False.elim hq
/-- a lambda handed to the teller at once -/
def tLamP (P : Addr) (q : Str) (TT : (XK → Hp → VK → Prop) → Hp → VK → Prop) (t : XK → TE) : TE := fun σ H Q => TabS H P q ∧ ∀ H1, ExtP P H H1 → TabS H1 P q → TT (fun E H' Q' => t E σ H' Q') H1 Q
theorem pe_actC {X : Cx} {pins : List (Addr × Obj)} {σ : L2.St} {H : Hp} {s : Shared} {CXg : CXT} {Eg : XK} {Ng : List Str} {qg : Str} {sg : Scope} {g f c' : Addr} {cdg : Value} {ps : Arguments} {body : Expr} {sc : Scope} {k i : Nat} {a : Str} {pn : List (Addr × Obj)} {xe : Value → Shared → Prop} {W : WX} {E : XK} {tb : TE} {p1 p2 : Pos}
    (I : Inv X pins σ H s) (L : LamS X.env.scope sc)
    (hbind : ∀ pm ctv : Value, bindArgs (PySem.W.kla_fn "<lambda>" (X.env.qual ++ "<lambda>") ps body sc (cloFrom X.env.cells sc.names []) pm (.ref c') ctv) ⟨[], []⟩ = pure [])
    (tk : Takes ((cxOf CXg X.prog X.w X.K X.mg X.base Ng qg sg g cdg X.A X.stack s H Eg).tr pn xe) W) (hW : ∀ cls d σ' H', E cls d H' → W cls d σ' H') (hr : Room (k + 1) (X.A.deeper (envOfC qg sg s.heap.objs.size g cdg)))
    (hbody : ∀ (A : Around) (outer : List Env) (s : Shared) (H : Hp), Room k (A.deeper (lamEnv X sc s.heap.objs.size f c')) → PE (lamCx X A outer s H E sc f c') body tb)
    (hN : Ng[i]? = some a) (hv : Vis sg a) (hd : (a == ("__debug__" : Str)) = false := by decide) (hcd : (a == ("__classdict__" : Str)) = false := by decide) :
    PE ((cxOf CXg X.prog X.w X.K X.mg X.base Ng qg sg g cdg X.A X.stack s H Eg).tr pn xe) (.Call (.Name a p1) [] [] p2)
      (fun σZ HZ Q => σZ[i]? = some (some (.ref f)) ∧ HZ c' = some (CodeO c' (X.env.qual ++ "<lambda>")) ∧ HZ f = some (LamC f c' (X.env.qual ++ "<lambda>") ps body sc (cloFrom X.env.cells sc.names [])) ∧ tb σ HZ Q) := by
  refine ⟨fun pinsZ sZ σZ HZ Q IZ h => ?_⟩
  obtain ⟨hs, hc, hf, ht⟩ := h
  refine wpAny_Call_Name_kw (thn ((pe_var (pos := p1) (i := i) hN hv hd hcd).run pinsZ sZ σZ HZ (fun v H1 => v = .ref f ∧ H1 = HZ) IZ ⟨.ref f, hs, rfl, rfl⟩) fun u s1 ⟨v, H1, I1, r1, q1⟩ => ?_)
  obtain ⟨ev, eH⟩ := q1
  subst ev
  rw [eH] at I1
  obtain rfl : u = Value.ref f := r1
  obtain ⟨⟨pm, ctv, of1⟩, _, _⟩ := I1.hok f _ hf
  refine PySem.W.callWith_F0 ⟨_, _, _, _, of1⟩ ?_
  obtain ⟨⟨oc, vs, t, hoc, hdc, hvc⟩, _, _⟩ := I1.hok c' _ hc
  have rc : codeAny (model X.prog X.w) (X.A.deeper (envOfC qg sg s.heap.objs.size g cdg)) (.call (.ref f) ⟨[], []⟩) (CR (L2.CX X.prog X.w) (envOfC qg sg s.heap.objs.size g cdg :: X.stack) X.prog X.w HZ s1 Q E) s1 := by
    refine PySem.W.kla_callFunE hr.depth of1 rfl L.co L.gen rfl ⟨c', oc, vs, t, rfl, hoc, hdc, hvc⟩ ?_
    rw [hbind]
    refine wpAny_pure (wpAny_newFunctionEnv (fun y hy => (L.own y hy).2) (fun y hy => absurd hy (by simp)) (fun h₁ hns hsb => ⟨I1.nolimit.fresh _ hsb, ?_⟩) L.kind)
    show codeAny _ _ (.expr body (lamEnv X sc s1.heap.objs.size f c')) _ _
    have J : Inv (lamCx X (X.A.deeper (envOfC qg sg s.heap.objs.size g cdg)) (envOfC qg sg s.heap.objs.size g cdg :: X.stack) s1 HZ E sc f c') [] σ HZ { s1 with heap := h₁, toks := s1.toks + ([] : List (Str × Value)).length } :=
      lam_start2 I L I1.env0 hr.hd I1.base hns (fun b o e => hsb.extBut b o (Nat.ne_of_lt (Heap.lt_size e)) (Heap.get?_push_of_some _ e))
    refine PySem.W.kla_codeExpr (wpAny_mono ((hbody _ _ s1 HZ (hr.deeper _)).run [] _ _ HZ Q J ht) (fun v s' hq => ?_) fun e s' hq => hq)
    obtain ⟨w', H', J', rv, q⟩ := hq
    exact ⟨w', H', J'.os, J'.bare, J'.base, J'.hok, rv, q⟩
  have hx : Passes (L2.CX X.prog X.w) ((cxOf CXg X.prog X.w X.K X.mg X.base Ng qg sg g cdg X.A X.stack s H Eg).tr pn xe) E := passes_call tk hW
  refine wpAny_call (codeAny_mono rc fun r s' hq => ?_)
  cases r with
  | error e => exact hx pinsZ σZ HZ s1 e s' I1 hq
  | ok fl =>
    cases fl with
    | ret u => exact I1.after hq
    | next => exact False.elim hq
    | brk => exact False.elim hq
    | cont => exact False.elim hq
/-- x(lambda: body), x the teller -/
theorem pe_lamP {X : Cx} {x a ret : Str} {g c P CS : Addr} {k : Nat} {pg : Arguments} {bg : List Stmt} {sg : Scope} {dV kV doc pm cdv ct oc : Value} {an od : Option Addr} {osl : Array (Option Value)} {Ng : List Str}
    {ps : Arguments} {body : Expr} {sc : Scope} {t : XK → TE} {p lpos pos : Pos} (hg : Gl X x) (hm : X.mg x = some (.ref g)) (hk : PySem.W.keepIn X.K (.ref g) = true)
    (lk : X.K.lookup g = some ⟨oc, od, .func (PySem.W.fnOf x x pg bg sg dV kV doc pm an cdv ct), osl⟩) (hcg : PySem.W.codeIn X.K cdv x = true) (hb : L2.Binds X.K (PySem.W.fnOf x x pg bg sg dV kV doc pm an cdv ct) [a] []) (Sg : FnScope Ng [a] sg) (hNg : Ng[0]? = some a) (hva : Vis sg a)
    (hG : GivesTo X Ng x sg g cdv bg a (X.env.qual ++ "<lambda>") (TTold X.K CS ret))
    (TB : LamX.TabB X.base X.mg c P) (hcode : X.env.code = .ref c) (hr : Room (k + 2) X.A) (L : LamS X.env.scope sc) (hdef : defaultsOf ps X.env = ([], []))
    (hbind : ∀ (q : Str) (cl : List (Str × Addr)) (pm cv ctv : Value), bindArgs (PySem.W.kla_fn "<lambda>" q ps body sc cl pm cv ctv) ⟨[], []⟩ = pure [])
    (hbody : ∀ (A : Around) (outer : List Env) (s : Shared) (H : Hp) (E : XK) (f c' : Addr), Room k (A.deeper (lamEnv X sc s.heap.objs.size f c')) → PE (lamCx X A outer s H E sc f c') body (t E))
    (hdb : (x == ("__debug__" : Str)) = false := by decide) (hd : (a == ("__debug__" : Str)) = false := by decide) (hcd : (a == ("__classdict__" : Str)) = false := by decide) :
    PE X (.Call (.Name x p) [.Lambda ps body sc lpos] [] pos) (tLamP P (X.env.qual ++ "<lambda>") (TTold X.K CS ret) t) := by
  refine ⟨fun pins s σ H Q I h => ?_⟩
  obtain ⟨hT, h⟩ := h
  refine wpAny_Call_Name_kw (ld_glob I hg hm ?_ hdb)
  refine PySem.W.callWith_K (h₀ := X.base) I.ok.mod.kin hk ?_ (by rfl) (by rfl)
  show wpAny _ _ (spliced ((false, eval (.Lambda ps body sc lpos) X.env) :: backTo pos (starEach [] X.env))) _ _ s
  refine Calls.spliced_cons (lamC_make I TB hcode hT hdef (L.has I.ok) fun f c' H1 s' I1 eP T1 hf hco => ?_)
  refine Calls.spliced_nil ⟨I1.kIn, ?_⟩
  have rc : codeAny (model X.prog X.w) X.A (.call (.ref g) ⟨[.ref f], []⟩) (CR C8.CX0 X.stack X.prog X.w H1 s' Q C8.E0) s' := by
    refine run_ofS (N := Ng) (ps := [a]) (us := [.ref f]) (vs := [.ref f]) lk hcg Sg hr I1.env0 (hb s' [.ref f] I1.kIn rfl) (.cons rfl .nil) rfl fun hr' => ?_
    obtain ⟨t', ht', hq'⟩ := hG f c' s' H1 Q (fun E H' Q' => H' f = some (LamC f c' (X.env.qual ++ "<lambda>") ps body sc (cloFrom X.env.cells sc.names [])) ∧ t E σ H' Q')
      (fun W pn xe E p1 p2 tk hW => pe_actC (i := 0) I1 L (hbind _ _ · _ ·) tk hW hr' (fun A outer s H hr2 => hbody A outer s H E f c' hr2) hNg hva hd hcd) hco ⟨hf, h H1 eP T1⟩
    exact ⟨t', ht'.nox, hq'⟩
  refine wpAny_call (codeAny_mono rc fun r s2 hq => ?_)
  cases r with
  | error e => exact (show False from hq).elim
  | ok fl =>
    cases fl with
    | ret u => exact I1.after hq
    | next => exact False.elim hq
    | brk => exact False.elim hq
    | cont => exact False.elim hq
/-! ### the steps -/
theorem TabOK.tabS {q : Str} {tb : Array Value} {H : Hp} {P : Addr} (h : TabOK q tb H) (e : H P = some (.tbl tb)) : TabS H P q := ⟨tb, e, h.1, h.2⟩
section
variable {K : PySem.W.Frag} {B H : Hp} {L L' : List (Addr × HO)} {I : List Im} {Q : VK} {σ : L2.St} {P C : Addr} {q ret : Str} {tb : Array Value}
theorem s_lam {t : XK → TE} (hC : Ctx K B H L I) (m : Pick (P, .tbl tb) L L') (f : Im.tab q tb ∈ I) (k : ∀ tb' H1, Ctx K B H1 ((P, .tbl tb') :: L') (.tab q tb' :: I) → t (kTold K C ret Q) σ H1 Q) : tLamP P q (TTold K C ret) t σ H Q := by
  have hC := hC.pick m
  have e0 := hC.get List.mem_cons_self
  refine ⟨(hC.tab f).tabS e0, fun H1 e t1 => ?_⟩
  obtain ⟨tb', h1, h2, h3⟩ := t1
  exact k tb' H1 ((hC.but List.mem_cons_self .here rfl e h1).add (i := .tab q tb') ⟨h2, h3⟩)
theorem s_lamV {d : LamD} (hC : Ctx K B H L I) (m : Pick (P, .tbl tb) L L') (f : Im.tab q tb ∈ I)
    (k : ∀ f c tb' H1, Ctx K B H1 ((P, .tbl tb') :: L') (.pr (fun H => H f = some (LamO f c q d.ps d.body d.sc)) (fun _ _ s h => s _ _ h rfl) :: .pr (fun H => H c = some (CodeO c q)) (fun _ _ s h => s _ _ h rfl) :: .tab q tb' :: I) → Q (.ref f) H1) : tLamV P q d σ H Q := by
  have hC := hC.pick m
  have e0 := hC.get List.mem_cons_self
  refine ⟨(hC.tab f).tabS e0, fun f c H1 e t1 hf hc => ?_⟩
  obtain ⟨tb', h1, h2, h3⟩ := t1
  exact k f c tb' H1 ((((hC.but List.mem_cons_self .here rfl e h1).add (i := .tab q tb') ⟨h2, h3⟩).add (i := .pr (fun H => H c = some (CodeO c q)) (fun _ _ s h => s _ _ h rfl)) hc).add (i := .pr (fun H => H f = some (LamO f c q d.ps d.body d.sc)) (fun _ _ s h => s _ _ h rfl)) hf)
end
/-! ### words by place; defs whose code is named -/
def lamOf : Expr → LamD
  | .Lambda ps body sc _ => ⟨ps, body, sc⟩
  | e => ⟨defArgs (.Pass ⟨0, 0, 0, 0⟩), e, defScope (.Pass ⟨0, 0, 0, 0⟩)⟩
def eltOf (e : Expr) (i : Nat) : Expr := match e with
  | .List es _ => es.getD i e
  | _ => e
def asgOf : Stmt → Expr
  | .Assign _ e _ => e
  | _ => .Name "" ⟨0, 0, 0, 0⟩
theorem _root_.L2.FunD.okC {P : Program} {w : World} {K : PySem.W.Frag} {mg : Str → Option Value} {base : Heap} {x qual : Str} {params : Arguments} {body : List Stmt} {scope : Scope} {dvs : List V} {kws : List (Str × V)} {f : Addr} {fd : FuncData}
    {CX : CXT} {N ps : List Str} {k : Nat} {sp : Sp} (F : FunD K x qual params body scope dvs kws f fd) (S : FnScope N ps scope) (len : ∀ vs H Q E, sp vs H Q E → vs.length = ps.length)
    (hbody : ∀ (cdv : Value) (A : Around) (outer : List Env) (s : Shared) (H : Hp) (vs : List V) (Q : VK) (E : XK), Room k (A.deeper (envOfC qual scope s.heap.objs.size f cdv)) → fd.code = cdv → sp vs H Q E →
      ∃ t, PSs (cxOf CX P w K mg base N qual scope f cdv A outer s H E) body t ∧ t { nx := fun _ H' => Q .non H', rt := Q } (L2.start N vs) H) : FnOk P w K mg base CX (k + 1) f fd ps sp := by
  obtain ⟨oc, od, dV, kV, doc, pm, an, cdv, ct, osl, rfl, lk, hcd, _, _⟩ := F.ex
  exact fn_of lk hcd S len fun A outer s H vs Q E hr hsp => hbody cdv A outer s H vs Q E hr rfl hsp
end Ph
namespace Ph
open PySem PySem.Spec PyProof.Rows L2 GxR
/-- the element: a test of the sign, the globals known -/
def EltG (X : Cx) (sc : Scope) (x : Str) (elt : Expr) (pb : Nat → Bool) : Prop :=
  ∀ (ce : Env) (A' : Around) (E' : Value → Shared → Prop) (c : Nat) (t : Tok) (z : Shared) (m : Str → Option Value), A'.handled = none → ce.scope = sc → ce.globals = mainGlobals → z.heap.Ns mainGlobals X.mg → z.heap.Ns ce.locals m → m x = some (.str ⟨#[c]⟩ t) →
    wpAny (model X.prog X.w) A' (eval elt ce) (fun y z' => y = .bool (pb c) ∧ Keeps z z') E' z
section
variable {X : Cx} {pins : List (Addr × Obj)} {σ : L2.St} {H : Hp} {s : Shared}
theorem gen_strG {c P : Addr} {elt iter : Expr} {x : Str} {px gpos : Pos} {sc : Scope} {pb : Nat → Bool} {te : TE} {k : Nat} {Qz : Value → Shared → Prop} {R : Str → Hp → Prop}
    (hr : Room k X.A) (TB : GxR.TabB X.base X.mg c P) (hcode : X.env.code = .ref c) (S : GenS X.env sc x) (hi : PE X iter te) (hel : EltG X sc x elt pb)
    (hs : ∀ v, genFold iter X.env v = pure v) (I : Inv X pins σ H s) (h : te σ H fun v Ha => ∃ a : Str, v = .str a ∧ TabG Ha P ∧ R a Ha)
    (hQ : ∀ a Ha g z, R a Ha → Ready X pins σ Ha P a pb g z → Qz (.ref g) z) :
    wpAny (model X.prog X.w) X.A (eval (.GeneratorExp elt [⟨.Name x px, iter, [], 0⟩] sc gpos) X.env) Qz X.xe s := by
  refine wpAny_GeneratorExp_walksQ hr.hd S.co (closure_ok S.free) S.cell S.dot S.loc S.kind (by have := hr.dp; omega) ?_ hs
  refine thn (hi.run pins s σ H _ I h) fun xv sa ⟨v, Ha, Ia, ra, qa⟩ => ?_
  obtain ⟨a, rfl, ⟨tb, hP, ht⟩, qa⟩ := qa
  obtain ⟨t, rfl⟩ := _root_.id ra
  refine wpAny_pyIter_str fun oi St W hst => ?_
  have hPs : sa.heap.get? P = some { cls := .none, data := .fields tb } := Ia.hok P _ hP
  have hPlt : P < sa.heap.objs.size := Heap.lt_size hPs
  have hP2 : (sa.heap.push oi).get? P = some { cls := .none, data := .fields tb } := Heap.get?_push_of_some _ hPs
  have cd : PySem.W.CodeHd (sa.heap.push oi) c P := TB.code.keeps fun b u e => Heap.get?_push_of_some _ (Ia.bk b u e)
  have lim2 : (sa.heap.push oi).NoLimit := Ia.nolimit.push oi
  have cont : ∀ (code : Value) (hb3 : Heap) (tk : Nat) (tb2 : Array Value), Heap.ExtBut P (sa.heap.push oi) hb3 → (sa.heap.push oi).objs.size ≤ hb3.objs.size → hb3.get? P = some { cls := .none, data := .fields tb2 } → (∃ more, tb2 = tb ++ more) → TriplesOk tb2.toList →
      wpAny (model X.prog X.w) X.A (builtinsFor X.env.globals X.env.builtins) (fun bi sd =>
        ∃ Ia fp wr n₀ Pf St₀ pz F, Value.ref sa.heap.objs.size = .ref Ia ∧ (∀ A' : Around, A'.handled = none → Walks X.prog X.w A' Ia fp wr n₀ Pf St₀) ∧ St₀ 0 sd.heap ∧ (∀ b ∈ fp, b < sd.heap.objs.size) ∧ sd.heap.NoLimit ∧ cStatics ∉ wr ∧
          (∀ href : Heap, (∀ b o, sd.heap.get? b = some o → href.get? b = some o) →
            QuietGen X.prog X.w (genEnv sc (cloFrom X.env.cells sc.names []) sd.heap.objs.size code bi X.env) x [] elt (List.range sd.heap.objs.size) wr Pf pz F href) ∧
          (∀ a hb5 tk gs, gs.bare = true → sd.heap.objs.size < a → hb5.objs.size = a + 1 → (∀ b o, sd.heap.get? b = some o → hb5.get? b = some o) →
            WalksS X.prog X.w X.A.in4 a (a :: sd.heap.objs.size :: List.range sd.heap.objs.size) (sd.heap.objs.size :: wr) (GenOnlyQ sd.gens.size) (passing pz n₀ 0).length
              (fun j y => ∃ i, (passing pz n₀ 0)[j]? = some i ∧ F i y) (GenAt X.prog X.w X.A.in4 a sd.gens.size sd.heap.objs.size (List.range sd.heap.objs.size) wr pz n₀ F) →
            GenAt X.prog X.w X.A.in4 a sd.gens.size sd.heap.objs.size (List.range sd.heap.objs.size) wr pz n₀ F 0 { sd with gens := sd.gens.push gs, toks := tk, heap := hb5 } →
            Qz (.ref a) { sd with gens := sd.gens.push gs, toks := tk, heap := hb5 })) X.xe { sa with heap := hb3, toks := tk } := by
    intro code hb3 tk tb2 hx hsz hP3 hmore ht3
    obtain ⟨bm, ob, e1, e2, e3, e4, e5, e6, e7, e8⟩ := TB.bm
    have hcP : cStatics ≠ P := fun e => by
      obtain ⟨_, hns, _⟩ := Ia.nolimit
      obtain ⟨ow, es, ep, ho, hd, _⟩ := hns
      rw [e, hPs] at ho
      cases ho
      cases hd
    have hcl : cStatics < sa.heap.objs.size := let ⟨_, hns, _⟩ := Ia.nolimit; hns.lt
    have sz2 : (sa.heap.push oi).objs.size = sa.heap.objs.size + 1 := Heap.size_push ..
    have keep3 : ∀ b u, b ≠ P → sa.heap.get? b = some u → hb3.get? b = some u := fun b u hb e => hx b u hb (Heap.get?_push_of_some _ e)
    have nsA : sa.heap.Ns mainGlobals X.mg := Ia.mod.glob.keeps Ia.bk
    have ns3 : hb3.Ns mainGlobals X.mg := (nsA.push oi).extBut hx TB.gP
    refine wpAny_builtinsFor (m := X.mg) (by rw [Ia.ok.glob]; exact ns3) e1 e2 (keep3 _ _ e4 (Ia.bk _ _ e5)) e6 e7 e8 ?_
    refine ⟨sa.heap.objs.size, [sa.heap.objs.size], [sa.heap.objs.size], a.cps.size, SignAt a, St, (fun _ => true), (fun i y => ∃ cc, a.cps[i]? = some cc ∧ y = .bool (pb cc)), rfl, W, ?_, ?_, lim2.extBut hx hcP, ?_, ?_, ?_⟩
    · refine (W X.A hr.hd).frame _ _ _ hst fun b hb u e => hx b u (fun z => ?_) e
      rcases List.mem_cons.mp hb with zz | zz
      · exact Nat.ne_of_lt hPlt (z.symm.trans zz)
      · cases zz
    · intro b hb
      rcases List.mem_cons.mp hb with z | z
      · rw [z]
        show sa.heap.objs.size < hb3.objs.size
        omega
      · cases z
    · intro z
      rcases List.mem_cons.mp z with z | z
      · exact Nat.ne_of_lt hcl z
      · cases z
    · intro href hhref
      refine ⟨fun A' E' i v sx m₂ hA hPv hn hm hk => ?_, fun A' E' i v sx m₂ hA hPv hp hn hm hk => ?_⟩
      · simp only [List.forIn_nil]
        exact wpAny_pure ⟨rfl, keeps_refl _⟩
      · obtain ⟨cc, u, hcc, rfl⟩ := hPv
        have nsx : sx.heap.Ns mainGlobals X.mg := by
          have hlt : mainGlobals < sa.heap.objs.size := nsA.lt
          obtain ⟨og, es, ep, hg, rr⟩ := ns3
          refine ⟨og, es, ep, hk mainGlobals (List.mem_range.mpr (Heap.lt_size hg)) (fun z => ?_) og (hhref _ _ hg), rr⟩
          rcases List.mem_cons.mp z with z | z
          · exact Nat.ne_of_lt hlt z
          · cases z
        exact wpAny_mono (hel _ A' E' cc u sx m₂ hA rfl Ia.ok.glob nsx hn hm) (fun y sy r => ⟨⟨cc, hcc, r.1⟩, r.2⟩) fun _ _ e => e
    · intro g hb5 tk5 gs hgb hag hsz5 hk5 W5 hat
      simp only [GxR.passing_true, List.length_range] at W5
      refine hQ a Ha g _ qa ⟨_, _, _, _, _, W5.in4_1, hat, ?_, fun sw hm => ?_⟩
      · intro j y sj Qj Ej hy hQj
        obtain ⟨i, hij, cc, hcc, rfl⟩ := hy
        obtain ⟨hj, ej⟩ := List.getElem?_eq_some_iff.mp hij
        rw [List.getElem_range] at ej
        subst ej
        have e9 : a.cps.toList[j]? = some cc := by rw [Array.getElem?_toList]; exact hcc
        have hQ2 : Qj (trF pb a.cps.toList j) sj := hQj
        rw [trF_some e9] at hQ2
        exact wpAny_truthy_bool hQ2
      · obtain ⟨more, em⟩ := hmore
        have nwr : ∀ b u, sa.heap.get? b = some u → b ∉ hb3.objs.size :: [sa.heap.objs.size] := fun b u e hb => by
          have hl := Heap.lt_size e
          rcases List.mem_cons.mp hb with z | z
          · rw [z] at hl
            have h9 : (hb3.objs.size : Nat) < sa.heap.objs.size := hl
            omega
          · rcases List.mem_cons.mp z with z | z
            · rw [z] at hl
              exact Nat.lt_irrefl _ hl
            · cases z
        have J := inv_tab (more := more) (h' := sw.heap) (g' := sw.gens) (d' := sw.drawn) (t' := sw.toks) Ia hP (fun b u hb e => hm.heap b u (nwr b u e) (hk5 b u (keep3 b u hb e)))
          (by rw [← em]; exact hm.heap P _ (nwr P _ hPs) (hk5 P _ hP3)) (AllBare.movedS (Ia.bare.push hgb) hm)
        rw [sh_eta sa sw hm.os] at J
        refine ⟨upd Ha P (.tbl (tb ++ more)), ⟨⟨tb ++ more, upd_same, by rw [← em]; exact ht3⟩, fun b hb => upd_ne hb⟩, J⟩
  refine ⟨lim2, ?_⟩
  cases hf : codeAmong gpos tb.toList with
  | none =>
    refine wpAny_genexprCodeX hcode (cd.code hP2 ht) (cd.tab hP2) hf fun c' h' tk hx hge hlt hco' _ htab' _ => ?_
    obtain ⟨_, _, _, _, _, _, _, _, _, _, _, _, _, _, _, _, _, _, _, htr, _⟩ := hco'
    exact cont _ h' tk _ hx (Nat.le_trans hge (Nat.le_of_lt hlt)) htab'.2 ⟨_, rfl⟩ htr
  | some cv =>
    refine wpAny_genexprCode_hit hcode (cd.code hP2 ht) hf ?_
    exact cont cv (sa.heap.push oi) sa.toks tb (Heap.ExtBut.refl _ _) (Nat.le_refl _) hP2 ⟨#[], by simp⟩ ht
theorem pe_anyG {c P : Addr} {elt iter : Expr} {x : Str} {px p pos gpos : Pos} {sc : Scope} {pb : Nat → Bool} {te : TE} {k : Nat}
    (hr : Room k X.A) (hg : Gl X "any") (hm : X.mg "any" = none) (TB : GxR.TabB X.base X.mg c P) (hcode : X.env.code = .ref c) (S : GenS X.env sc x) (hi : PE X iter te) (hel : EltG X sc x elt pb)
    (hs : ∀ v, genFold iter X.env v = pure v)
    (he : starEach [.GeneratorExp elt [⟨.Name x px, iter, [], 0⟩] sc gpos] X.env = (false, eval (.GeneratorExp elt [⟨.Name x px, iter, [], 0⟩] sc gpos) X.env) :: starEach [] X.env := by rfl) :
    PE X (.Call (.Name "any" p) [.GeneratorExp elt [⟨.Name x px, iter, [], 0⟩] sc gpos] [] pos) (tAnyS P pb te) := by
  refine ⟨fun pins s σ H Q I h => ?_⟩
  refine wpAny_Call_Name_kw (ld_blt I hg hm boot_any (PyProof.Rows.callWith_builtin1 ?_ he (by rfl)))
  rw [he]
  show wpAny _ _ (spliced ((false, eval (.GeneratorExp elt [⟨.Name x px, iter, [], 0⟩] sc gpos) X.env) :: backTo pos (starEach [] X.env))) _ _ s
  refine Calls.spliced_cons (gen_strG (R := fun a Ha => ∀ Hb, Tabbed P Ha Hb → Q (.bl (a.cps.toList.any pb)) Hb) hr TB hcode S hi hel hs I h fun a Ha g z hR hG => ?_)
  obtain ⟨fp, wr, G, F, St, W, hst, htr, hI⟩ := hG
  refine Calls.spliced_nil (call_any_walkS (W.self 0 _ _ _ hst ⟨g, fp, wr, G, _, F, St, _, rfl, W, hst, htr, fun sw hmv => ?_⟩))
  obtain ⟨Hb, hT, J⟩ := hI sw hmv
  refine ⟨.bl _, Hb, J, rfl, ?_⟩
  rw [any_signs a pb]
  exact hR Hb hT
end
/-- x not in G, G a text of the module -/
theorem elt_ninG {X : Cx} {sc : Scope} {x g z : Str} {p1 p2 p3 : Pos} (hk : sc.kind = .function) (hl : sc.names.lookup x = some .local) (hg : sc.names.lookup g = some .globalImplicit) (hm : ∃ t, X.mg g = some (.str z t))
    (hd : (x == ("__debug__" : Str)) = false := by decide) (hd2 : (g == ("__debug__" : Str)) = false := by decide) : EltG X sc x (.Compare (.Name x p1) [.NotIn] [.Name g p2] p3) (fun c => !decide (c ∈ z.cps.toList)) := by
  intro ce A' E' c t zz m hA hsc hglo hns hn hx
  obtain ⟨tz, hm⟩ := hm
  refine wpAny_Compare1 ?_
  refine wpAny_Name (wpAny_loadName_local (by rw [hsc]; exact hk) (show ce.scope.names.lookup x = some .local by rw [hsc]; exact hl) hn hx ?_) hd
  refine Calls.Name_function_global (by rw [hsc]; exact hk) (show ce.scope.names.lookup g = some .globalImplicit by rw [hsc]; exact hg) (Calls.loadGlobal_global (by rw [hglo]; exact hns) hm ?_) hd2
  refine PySem.P.notIn_str ⟨?_, keeps_refl _⟩
  show Value.bool _ = Value.bool _
  rw [PySem.StrLaws.found_one]
/-! ### the steps -/
section
variable {K : PySem.W.Frag} {B H : Hp} {L L' : List (Addr × HO)} {I : List Im} {Q : VK} {σ : L2.St} {P : Addr} {tb : Array Value} {pb : Nat → Bool}
def kAny (P : Addr) (pb : Nat → Bool) (Q : VK) : VK := fun v Ha => ∃ a : Str, v = .str a ∧ TabG Ha P ∧ ∀ Hb, Tabbed P Ha Hb → Q (.bl (a.cps.toList.any pb)) Hb
theorem s_anyS {te : TE} (h : te σ H (kAny P pb Q)) : tAnyS P pb te σ H Q := h
theorem s_anyV {x : Str} (hC : Ctx K B H L I) (m : Pick (P, .tbl tb) L L') (f : Im.tri tb ∈ I) (k : ∀ tb' H1, Ctx K B H1 ((P, .tbl tb') :: L') (.tri tb' :: I) → Q (.bl (x.cps.toList.any pb)) H1) : kAny P pb Q (.str x) H := by
  have hC := hC.pick m
  refine ⟨x, rfl, ⟨tb, hC.get List.mem_cons_self, hC.tri f⟩, fun Hb hT => ?_⟩
  obtain ⟨⟨tb', h1, h2⟩, h3⟩ := hT
  exact k tb' Hb ((hC.but List.mem_cons_self .here rfl (fun b u n e => by rw [h3 b n]; exact e) h1).add (i := .tri tb') h2)
end
theorem tabG {base : Heap} {mg : Str → Option Value} {c P : Addr} (h : LamX.TabB base mg c P) : GxR.TabB base mg c P := ⟨h.code, h.bm, h.gP⟩
def genSB (sc : Scope) (x : Str) : Bool := decide (sc.kind = .function) && !sc.isCoroutine && sc.names.all (fun y => !decide (y.2 = .cell) && !decide (y.2 = .free)) && decide (sc.names.lookup (".0" : Str) = some NameKind.local) && decide (sc.names.lookup x = some .local)
theorem genS_by {env : Env} {sc : Scope} {x : Str} (h : genSB sc x = true) : GenS env sc x := by
  unfold genSB at h
  simp only [Bool.and_eq_true, Bool.not_eq_true', decide_eq_true_eq, decide_eq_false_iff_not, List.all_eq_true] at h
  obtain ⟨⟨⟨⟨h1, h2⟩, h3⟩, h4⟩, h5⟩ := h
  exact ⟨h1, h2, fun y hy => (h3 y hy).1, h4, h5, fun y hy e => absurd e (h3 y hy).2⟩
end Ph
namespace Ph
open PySem PySem.Spec PyProof.Rows L2
def gFld (K : PySem.W.Frag) (to : TE) (f : Str) : TG := fun v σ H Q => to σ H (kSetF K f Q σ v)
theorem pg_fld {X : Cx} {o : Expr} {ta : TE} {f : Str} {pos : Pos} (ha : PE X o ta) : PG X (.Attribute o f pos) (gFld X.K ta f) := by
  refine ⟨fun pins s σ H v u Q I r h => ?_⟩
  rw [assign_Attribute]
  refine wpAny_bind (wpAny_holding (thn (ha.run pins s σ H _ I h) fun ov s1 ⟨x, H1, I1, r1, q1⟩ => ?_))
  obtain ⟨a, C, dx, fs, rfl, ea, c, n, l, q2⟩ := q1
  obtain rfl : ov = Value.ref a := r1
  exact wpAny_bind (wpAny_standAt (wpAny_bind (wpAny_holding (setattr_ok I1 ea c n l r fun s3 I3 => wpAny_release ⟨σ, _, I3, q2⟩))))
section
variable {K : PySem.W.Frag} {B H : Hp} {L L' F : List (Addr × HO)} {I : List Im} {Q : VK} {σ : L2.St} {A Cb Dc : L2.St → Hp → Prop} {Bt : VK} {R : L2.St → Hp → Prop} {v : V}
theorem s_gfld {to : TE} {f : Str} (h : to σ H (kSetF K f R σ v)) : gFld K to f v σ H R := h
/-! pop -/
def kBm0 (K : PySem.W.Frag) (T : String) (r : V → List V → Hp → VK → Prop) (Q : VK) : VK := fun x H1 => tyV K T x H1 ∧ r x [] H1 Q
theorem s_bm0 {T : String} {r : V → List V → Hp → VK → Prop} {to : TE} (h : to σ H (kBm0 K T r Q)) : tBM0 K T r to σ H Q := h
theorem s_popL {l : Addr} {xs : List V} {y : V} (hC : Ctx K B H L I) (m : H l = some (.lst (xs ++ [y]))) (u : Up l (.lst xs) L L') (k : ∀ H1, Ctx K B H1 L' I → Q y H1) : kBm0 K "list" rPop Q (.ref l) H := by
  refine ⟨.inl ⟨rfl, _, SqL.of m⟩, l, xs ++ [y], y, rfl, rfl, m, by simp, ?_⟩
  rw [List.dropLast_concat]
  exact k _ (hC.put u rfl)
/-! split -/
abbrev rSplit1 : V → List V → Hp → VK → Prop := fun x xs H Q => ∃ a b, x = .str a ∧ xs = [.str b] ∧ (b.length == 0) = false ∧ a.length + 2 ≤ sizeLine ∧ rNewStrs (Txt.split a b) H Q
def kM1 (r : V → List V → Hp → VK → Prop) (te : TE) (σ : L2.St) (Q : VK) : VK := fun x H1 => (∃ a, x = .str a) ∧ te σ H1 fun y H2 => r x [y] H2 Q
theorem s_m1 {r : V → List V → Hp → VK → Prop} {to te : TE} (h : to σ H (kM1 r te σ Q)) : tM1 r to te σ H Q := h
theorem s_m1V {r : V → List V → Hp → VK → Prop} {te : TE} {a : Str} (h : te σ H fun y H2 => r (.str a) [y] H2 Q) : kM1 r te σ Q (.str a) H := ⟨⟨a, rfl⟩, h⟩
theorem s_split {a b : Str} (hC : Ctx K B H L I) (hb : (b.length == 0) = false) (hz : a.length ≤ 100000) (k : ∀ p H1, Ctx K B H1 ((p, .lst ((Txt.split a b).map V.str)) :: L) I → Q (.ref p) H1) : rSplit1 (.str a) [.str b] H Q :=
  ⟨a, b, rfl, rfl, hb, by rw [sizeLine_eq]; omega, fun p hp => k p _ (hC.newM hp rfl)⟩
/-! isinstance(x, str) -/
theorem s_isStrS {x : Str} (h : Q (.bl true) H) : rIsi K [.str x, .ty "str"] H Q := ⟨_, _, _, _, true, rfl, .ty _, .base (.str x), by rfl, h⟩
theorem s_isStrI {i : Int} (h : Q (.bl false) H) : rIsi K [.int i, .ty "str"] H Q := ⟨_, _, _, _, false, rfl, .ty _, .base (.int i), by rfl, h⟩
/-! cuts -/
theorem s_slS {z : Str} {lo hi : Option Int} (hz : z.length ≤ 100000) (h : Q (.str (cutS z lo hi)) H) : rSlU K (.str z) lo hi H Q := .inr (.inl ⟨z, rfl, Nat.le_trans hz (by decide), h⟩)
theorem s_slT1 {a : Addr} {x : V} {r : List V} (hC : Ctx K B H L I) (h : SqT K H a (x :: r)) (z : (x :: r).length ≤ 1000) (k : ∀ p H1, Ctx K B H1 L (.tup p r :: I) → Q (.ref p) H1) : rSlU K (.ref a) (some 1) none H Q := by
  have e1 : HT.sIx (x :: r).length 0 (some 1) = 1 := by
    unfold HT.sIx
    simp
  have e2 : HT.sIx (x :: r).length (x :: r).length none = (x :: r).length := by rfl
  have e : cutV (x :: r) (some 1) none = r := by
    unfold cutV
    rw [e1, e2, List.drop_succ_cons, List.drop_zero, List.length_cons, Nat.add_sub_cancel, List.take_length]
  refine .inr (.inr ⟨a, x :: r, rfl, h, fun z => ?_, fun p hp => ?_⟩)
  · rw [e1] at z
    exact absurd z.1 (by decide)
  · rw [e]
    exact k p _ (hC.newT hp)
theorem s_mulS {x : Str} {k : Int} (h1 : 2 ≤ k) (h2 : k ≤ 1000) (h3 : 1 ≤ x.length) (h4 : x.length ≤ 1000) (h : Q (.str (repS x k.toNat)) H) : rMulU (.str x) (.int k) H Q := ⟨h1, h2, h3, h4, h⟩
theorem s_ixS {z : Str} {i : Int} {c : Nat} (e : rIxS (.str z) (.int i) H Q) : rIxU K (.str z) (.int i) H Q := .inr (.inr (.inl e))
/-! an item of a list, the place not known -/
theorem atI_at {xs : List V} {r : Int} (h0 : 0 ≤ r) (h1 : r < xs.length) : ∃ v, atI xs r = some v ∧ v ∈ xs := by
  have hr : r.toNat < xs.length := by omega
  have e := atI_nat (xs := xs) (j := r.toNat) (v := xs[r.toNat]) (List.getElem?_eq_getElem hr)
  rw [Int.toNat_of_nonneg h0] at e
  exact ⟨_, e, List.getElem_mem hr⟩
theorem s_ixOne {l : Addr} {xs : List V} {r : Int} (m : H l = some (.lst xs)) (h0 : 0 ≤ r) (h1 : r < xs.length) (q : ∀ v, v ∈ xs → Q v H) : rIxU K (.ref l) (.int r) H Q := by
  obtain ⟨v, e, w⟩ := atI_at h0 h1
  exact s_ixL m e (q v w)
/-! while -/
theorem s_while {c : TT} {tb : TS} (Pv : L2.St → Hp → Prop) (μ : L2.St → Hp → Nat) (h0 : Pv σ H)
    (hs : ∀ σ H, Pv σ H → c σ H fun b H1 => if b = true then tb ⟨fun σ' H' => Pv σ' H' ∧ μ σ' H' < μ σ H, Bt, A, fun σ' H' => Pv σ' H' ∧ μ σ' H' < μ σ H⟩ σ H1 else A σ H1)
    (mono : ∀ σ H Q Q', (∀ b H1, Q b H1 → Q' b H1) → c σ H Q → c σ H Q') : tWhile c tb ⟨A, Bt, Cb, Dc⟩ σ H := while_by (D := ⟨A, Bt, Cb, Dc⟩) Pv μ h0 hs mono
/-! the teller at a lambda of a list -/
theorem s_toldV {CS : Addr} {ret q : Str} {n i : Nat} {fam : List LamD} {t : Nat → XK → TE} (f c : Addr) (k : Nat) (d : LamD) (hs : σ[i]? = some (some (.ref f))) (hj : fam[k]? = some d)
    (hf : H f = some (LamO f c q d.ps d.body d.sc)) (hc : H c = some (LamX.CodeO c q)) (h : t k (kTold K CS ret Q) (List.replicate n none) H Q) : tToldV K CS ret q n i fam t σ H Q := ⟨f, c, k, d, hs, hj, hf, hc, h⟩
end
theorem passLam {X : Cx} {A : Around} {outer : List Env} {s : Shared} {H : Hp} {E : XK} {scope : Scope} {f c' : Addr} : Passes (L2.CX X.prog X.w) (LamX.lamCx X A outer s H E scope f c') E := passes_call (takes_of rfl rfl rfl rfl) fun _ _ _ _ h => h
theorem passLam0 {X : Cx} {q : Str} {A : Around} {outer : List Env} {s : Shared} {H : Hp} {E : XK} {sc : Scope} {f c : Addr} : Passes (L2.CX X.prog X.w) (lamCx0 X q A outer s H E sc f c) E := passes_call (takes_of rfl rfl rfl rfl) fun _ _ _ _ h => h
section
variable {K : PySem.W.Frag} {H : Hp} {Q : VK}
theorem app_le10 {x y : Str} (hx : x.length ≤ 50000) (hy : y.length ≤ 50000) : (x ++ y).length ≤ 100000 := by
  rw [Str.length_append]
  omega
theorem app_le5 {x y : Str} (hx : x.length ≤ 20000) (hy : y.length ≤ 20000) : (x ++ y).length ≤ 50000 := by
  rw [Str.length_append]
  omega
theorem app_le2 {x y : Str} (hx : x.length ≤ 10000) (hy : y.length ≤ 10000) : (x ++ y).length ≤ 20000 := by
  rw [Str.length_append]
  omega
theorem app_le1 {x y : Str} (hx : x.length ≤ 5000) (hy : y.length ≤ 5000) : (x ++ y).length ≤ 10000 := by
  rw [Str.length_append]
  omega
theorem app_le05 {x y : Str} (hx : x.length ≤ 2500) (hy : y.length ≤ 2500) : (x ++ y).length ≤ 5000 := by
  rw [Str.length_append]
  omega
theorem s_addSS {i j : Str} (z1 : i.length ≤ 100000) (z2 : j.length ≤ 100000) (h : Q (.str (i ++ j)) H) : rAddU K (.str i) (.str j) H Q := ⟨Nat.le_trans (Nat.add_le_add z1 z2) (by decide), h⟩
theorem s_lenSS {z : Str} (m : z.length ≤ 100000) (h : Q (.int z.length) H) : rLenU K [.str z] H Q := s_lenS (Nat.le_trans m (by decide)) h
end
/-! lists: the last ones, all but the last -/
theorem TDs.drop {K : PySem.W.Frag} {H : Hp} : ∀ {vs : List V} {ds : List PyData} (n : Nat), TDs K H vs ds → TDs K H (vs.drop n) (ds.drop n)
  | _, _, 0, h => by rw [List.drop_zero, List.drop_zero]; exact h
  | _, _, _ + 1, .nil => .nil
  | _, _, n + 1, .cons _ t => by rw [List.drop_succ_cons, List.drop_succ_cons]; exact TDs.drop n t
theorem TDs.unsnoc {K : PySem.W.Frag} {H : Hp} {d : PyData} : ∀ {vs : List V} {ds : List PyData}, TDs K H vs (ds ++ [d]) → ∃ us v, vs = us ++ [v] ∧ TDs K H us ds ∧ TD K H v d
  | _, [], .cons h .nil => ⟨[], _, rfl, .nil, h⟩
  | _, e :: ds, .cons h t => by
    obtain ⟨us, v, rfl, q1, q2⟩ := TDs.unsnoc (ds := ds) t
    exact ⟨_ :: us, v, rfl, .cons h q1, q2⟩
theorem cutV_last {xs : List V} {k : Nat} (hk : 0 < k) : cutV xs (some (-(k : Int))) none = xs.drop (xs.length - k) := by
  have e1 : HT.sIx xs.length 0 (some (-(k : Int))) = xs.length - k := by
    show (if (-(k : Int)) < 0 then ((-(k : Int)) + (xs.length : Int)).toNat else min (-(k : Int)).toNat xs.length) = _
    rw [if_pos (by omega)]
    omega
  have e2 : HT.sIx xs.length xs.length none = xs.length := rfl
  unfold cutV
  rw [e1, e2]
  exact List.take_of_length_le (by rw [List.length_drop]; omega)
theorem cutV_init {xs : List V} {y : V} : cutV (xs ++ [y]) none (some (-1)) = xs := by
  have e1 : HT.sIx (xs ++ [y]).length 0 none = 0 := rfl
  have e2 : HT.sIx (xs ++ [y]).length (xs ++ [y]).length (some (-1)) = xs.length := by
    show (if ((-1 : Int)) < 0 then ((-1 : Int) + ((xs ++ [y]).length : Int)).toNat else min (-1 : Int).toNat (xs ++ [y]).length) = _
    rw [if_pos (by decide), List.length_append, List.length_singleton]
    omega
  unfold cutV
  rw [e1, e2, List.drop_zero, Nat.sub_zero, List.take_left]
/-! == of data -/
section
variable {K : PySem.W.Frag} {H : Hp} {Q : VK}
theorem eqv_nil {ds : List PyData} : PyData.eqv (.list ds) (.list []) = ds.isEmpty := by
  cases ds <;> simp [PyData.eqv, PyData.eqvAll]
theorem s_eqE {l m : Addr} {vs : List V} {ds : List PyData} (hl : H l = some (.lst vs)) (hm : H m = some (.lst [])) (h : TDs K H vs ds) (sh : ShL 50 ds) (k : Q (.bl ds.isEmpty) H) : rEqU K (.ref l) (.ref m) H Q :=
  s_eqD (Dp.lst (SqL.of hl) h.dp) (Dp.lst (SqL.of hm) .nil) (sh.list.shaped (by decide)) (by decide) (by rw [eqv_nil]; exact k)
theorem s_neE {l m : Addr} {vs : List V} {ds : List PyData} (hl : H l = some (.lst vs)) (hm : H m = some (.lst [])) (h : TDs K H vs ds) (sh : ShL 50 ds) (k : Q (.bl (!ds.isEmpty)) H) : rNeU K (.ref l) (.ref m) H Q :=
  s_neD (Dp.lst (SqL.of hl) h.dp) (Dp.lst (SqL.of hm) .nil) (sh.list.shaped (by decide)) (by decide) (by rw [eqv_nil]; exact k)
theorem s_neSame {x y : V} {d : PyData} (h1 : TD K H x d) (h2 : TD K H y d) (s : Sh 50 d) (k : Q (.bl false) H) : rNeU K x y H Q :=
  s_neD h1.dp h2.dp (s.shaped (by decide)) (s.shaped (by decide)) (by rw [eqv_self s]; exact k)
theorem s_eqSame {x y : V} {d : PyData} (h1 : TD K H x d) (h2 : TD K H y d) (s : Sh 50 d) (k : Q (.bl true) H) : rEqU K x y H Q :=
  s_eqD h1.dp h2.dp (s.shaped (by decide)) (s.shaped (by decide)) (by rw [eqv_self s]; exact k)
theorem s_neSameL {l m : Addr} {us vs : List V} {ds : List PyData} (hl : H l = some (.lst us)) (hm : H m = some (.lst vs)) (h1 : TDs K H us ds) (h2 : TDs K H vs ds) (s : ShL 50 ds) (k : Q (.bl false) H) : rNeU K (.ref l) (.ref m) H Q :=
  s_neD (Dp.lst (SqL.of hl) h1.dp) (Dp.lst (SqL.of hm) h2.dp) (s.list.shaped (by decide)) (s.list.shaped (by decide)) (by rw [eqv_self s.list]; exact k)
theorem ShL.mono {n m : Nat} {ds : List PyData} (h : ShL n ds) (z : n ≤ m) : ShL m ds := fun d hd => (h d hd).mono z
end
def mnI (i j : Int) : Int := if j < i then j else i
def mxI (i j : Int) : Int := if j > i then j else i
section
variable {H : Hp} {Q : VK} {i j : Int}
theorem s_max2N (h : Q (.int (mxI i j)) H) : rMax2 [.int i, .int j] H Q := s_max2 h
theorem s_min2N (h : Q (.int (mnI i j)) H) : rMin2 [.int i, .int j] H Q := s_min2 h
theorem mnI_le : mnI i j ≤ i ∧ mnI i j ≤ j ∧ (mnI i j = i ∨ mnI i j = j) := by
  unfold mnI
  split <;> omega
theorem mxI_ge : i ≤ mxI i j ∧ j ≤ mxI i j ∧ (mxI i j = i ∨ mxI i j = j) := by
  unfold mxI
  split <;> omega
end
section
variable {H : Hp} {σ : L2.St} {A Cb Dc : L2.St → Hp → Prop} {Bt : VK}
def kBody (W : Nat → L2.St → Hp → Prop) (m : Nat) (tb : TS) (A : L2.St → Hp → Prop) (Bt : VK) (σ : L2.St) (H : Hp) : Prop := ∃ N : L2.St → Hp → Prop, (∀ σ' H', N σ' H' → ∃ m', m' < m ∧ W m' σ' H') ∧ tb ⟨N, Bt, A, N⟩ σ H
theorem s_body {W : Nat → L2.St → Hp → Prop} {m : Nat} {tb : TS} (h : tb ⟨fun σ' H' => ∃ m', m' < m ∧ W m' σ' H', Bt, A, fun σ' H' => ∃ m', m' < m ∧ W m' σ' H'⟩ σ H) : kBody W m tb A Bt σ H := ⟨_, fun _ _ h => h, h⟩
theorem s_whileN {c : TT} {tb : TS} (W : Nat → L2.St → Hp → Prop) (m : Nat) (h0 : W m σ H) (hs : ∀ m σ H, W m σ H → c σ H fun b H1 => if b = true then kBody W m tb A Bt σ H1 else A σ H1) : tWhile c tb ⟨A, Bt, Cb, Dc⟩ σ H :=
  ⟨W, ⟨m, h0⟩, hs⟩
end
theorem s_iteNDT {p : Prop} [Decidable p] {X Y : Prop} (hp : ¬ p) (h : X) : if (!decide p) = true then X else Y := by
  rw [decide_eq_false hp]
  exact iteT h
theorem s_iteNDF {p : Prop} [Decidable p] {X Y : Prop} (hp : p) (h : Y) : if (!decide p) = true then X else Y := by
  rw [decide_eq_true hp]
  exact iteF h
theorem atI_last {us : List V} {v : V} : atI (us ++ [v]) (((us ++ [v]).length : Int) - 1) = some v := by
  have e : (((us ++ [v]).length : Int) - 1) = (us.length : Int) := by
    rw [List.length_append, List.length_singleton]
    omega
  rw [e]
  exact atI_nat (by simp)
theorem s_ixLast {K : PySem.W.Frag} {H : Hp} {Q : VK} {a : Addr} {us : List V} {v : V} (m : H a = some (.lst (us ++ [v]))) (q : Q v H) : rIxU K (.ref a) (.int (((us ++ [v]).length : Int) - 1)) H Q := s_ixL m atI_last q
theorem atI_head {us : List V} {v : V} : atI (v :: us) (0 : Int) = some v := atI_nat (j := 0) rfl
theorem s_ixHead {K : PySem.W.Frag} {H : Hp} {Q : VK} {a : Addr} {us : List V} {v : V} (m : H a = some (.lst (v :: us))) (q : Q v H) : rIxU K (.ref a) (.int 0) H Q := s_ixL m atI_head q
section
variable {K : PySem.W.Frag} {B H : Hp} {Q : VK} {σ : L2.St} {L : List (Addr × HO)} {I : List Im}
theorem s_neSs {i : Str} (h : Q (.bl false) H) : rNeU K (.str i) (.str i) H Q := s_neS (by rw [decide_eq_true rfl]; exact h)
theorem s_callD {sp : Sp} {vs dvs : List V} {E : XK} (h : sp (vs ++ dvs) H Q E) : kCall sp dvs E Q vs H := h
/-- a comprehension with a test over a list -/
theorem lc_lstT {a : Addr} {xs : List V} {g : TG} {tt : TT} {te : TE} {vs : List Nat} (hC : Ctx K B H L I) (Pv : Addr → Nat → Hp → Prop) (h0 : ∀ D H1, Ctx K B H1 ((D, .lst []) :: L) I → Pv D 0 H1) (hl : ∀ i D H, i ≤ xs.length → Pv D i H → H a = some (.lst xs))
    (hs : ∀ i x D H, xs[i]? = some x → Pv D i H → g x (wipe σ vs) H fun σ2 H2 => wipe σ2 vs = wipe σ vs ∧ tt σ2 H2 fun b H3 => if b = true then te σ2 H3 (kApp D (Pv D (i + 1))) else Pv D (i + 1) H3)
    (hd : ∀ D H, Pv D xs.length H → Q (.ref D) H) : kLc g tt te vs σ Q (Itl K a) H := fun D hD =>
  lc_list (K := K) (xs := xs) (g := g) (tt := tt) (te := te) (vs := vs) (σ := σ) (H1 := H) (D := D) (Qd := fun H => Q (.ref D) H) (fun i H => Pv D i H) (h0 D _ (hC.newM hD rfl)) (fun i H hi p => SqL.of (hl i D H hi p))
    (fun i x H hx p => hs i x D H hx p) (fun H p => hd D H p)
end
/-- some of what is known -/
inductive Subs (I : List Im) : List Im → Prop
  | nil : Subs I []
  | cons {x : Im} {r : List Im} : x ∈ I → Subs I r → Subs I (x :: r)
theorem Subs.sub {I : List Im} : ∀ {J : List Im}, Subs I J → ∀ j, j ∈ J → j ∈ I
  | _, .nil, j, h => by cases h
  | _, .cons m s, j, h => (List.mem_cons.mp h).elim (fun e => by rw [e]; exact m) (s.sub j)
theorem Ctx.sub {K : PySem.W.Frag} {B H : Hp} {L L' : List (Addr × HO)} {I J : List Im} (h : Ctx K B H L I) (y : Lay H L') (s : Subs I J) : Ctx K B H L' J := ⟨y, fun j hj => h.im j (s.sub j hj), h.sb⟩
theorem te_eq {t t' : TE} (e : t = t') {σ : L2.St} {H : Hp} {Q : VK} (h : t' σ H Q) : t σ H Q := by
  rw [e]
  exact h
end Ph
namespace Ph
open PySem PySem.Spec PyProof.Rows L2 GenW
/-- the context of a generator expression's frame -/
abbrev gxOf (X : Cx) (A : Around) (s : Shared) (H : Hp) (ce : Env) (fp : List Addr) (pn : List (Addr × Obj)) : Cx :=
  { X with A := A, s_0 := s, H_0 := H, env := ce, outer := X.stack, stack := ce :: X.stack, ex := fp, fn := fun _ => false, pn := pn, xe := fun _ _ => False }
abbrev gxEnv (X : Cx) (scope : Scope) (C : Addr) (code : Value) : Env := genEnv scope (cloFrom X.env.cells scope.names []) C code builtinsNs X.env
section
variable {X : Cx} {pins : List (Addr × Obj)} {σ : L2.St} {H : Hp} {s s2 : Shared}
theorem gx_start {scope : Scope} {own : List (Str × Nat)} {fp : List Addr} {A : Around} {code : Value} {m0 : Str → Option Value}
    (I : Inv X pins σ H s) (ok : BlkOk X.N X.env.scope scope own) (hnc : ∀ y ∈ scope.names, y.2 ≠ .cell) (hN : X.N.Nodup) (hfp : ∀ b ∈ fp, FpOk X pins H b ∧ b < s.heap.objs.size)
    (hA : A.handled = none) (hfr : A.frames = some (gxEnv X scope s.heap.objs.size code :: X.stack)) (hns : s2.heap.Ns s.heap.objs.size m0) (hk : ∀ b o, s.heap.get? b = some o → s2.heap.get? b = some o) (hos : s2.os = s.os) (hb : AllBare s2.gens) :
    Inv (gxOf X A s H (gxEnv X scope s.heap.objs.size code) fp []) [] (wipe σ (own.map (·.2))) H s2 := by
  have hfree : ∀ y ∈ scope.names, y.2 = .free → ∃ c, X.env.cells.lookup y.1 = some c := fun y hy e => by
    rcases ok.free y hy e with k | k
    · exact I.ok.has _ (.inl k)
    · exact I.ok.has _ (.inr k)
  generalize hcenv : gxEnv X scope s.heap.objs.size code = cenv
  have hL : cenv.locals = s.heap.objs.size := by rw [← hcenv]; rfl
  have hcl : cenv.cells = cloFrom X.env.cells scope.names [] := by rw [← hcenv]; rfl
  have hsc : cenv.scope = scope := by rw [← hcenv]; rfl
  have hfrm : cenv.frame = some s.heap.objs.size := by rw [← hcenv]; rfl
  have cm : ∀ {y c}, (y, c) ∈ cloFrom X.env.cells scope.names [] → X.env.cells.lookup y = some c ∧ c < s.heap.objs.size := fun {y c} hm => by
    rcases cloFrom_mem hm with hm | ⟨h1, rfl⟩
    · cases hm
    · obtain ⟨c, hc⟩ := hfree _ h1 rfl
      rw [hc]
      obtain ⟨w, z⟩ := I.cell _ _ hc
      exact ⟨rfl, z.lt⟩
  have mem : ∀ {y c}, cenv.cells.lookup y = some c → X.env.cells.lookup y = some c ∧ c < s.heap.objs.size := fun {y c} e => by
    rw [hcl] at e
    exact cm (PySem.mem_of_lookup e)
  have look : ∀ {y}, scope.names.lookup y = some .free → ∃ c, cenv.cells.lookup y = some c ∧ X.env.cells.lookup y = some c := fun {y} hl => by
    have hy : (y, NameKind.free) ∈ scope.names := PySem.mem_of_lookup hl
    obtain ⟨c', e'⟩ := mem_lookup (cloFrom_has (cells := X.env.cells) (acc := []) hy)
    rw [← hcl] at e'
    exact ⟨c', e', (mem e').1⟩
  have okB : (gxOf X A s H cenv fp []).Ok := by
    refine ⟨I.ok.mod, by show cenv.scope.kind = _; rw [hsc]; exact ok.kind, by show cenv.globals = _; rw [← hcenv]; exact I.ok.glob, by show cenv.builtins = _; rw [← hcenv]; rfl, by show s.heap.objs.size ≤ cenv.locals; rw [hL]; exact Nat.le_refl _,
      fun y z c e1 e2 => I.ok.inj y z c (mem e1).1 (mem e2).1, fun y hy => ?_, fun y c z e => (by cases z), fun _ => hA, by rw [← hcenv]; exact hfr, .inr ⟨rfl, by show cenv.frame = some cenv.locals; rw [hfrm, hL]⟩, fun b hb => ⟨?_, fun y c e z => ?_⟩, I.bs, Nat.le_trans I.ok.bsz I.sz, fun b o e hb => ?_, fun b hb z => ?_, I.stack, I.stkFree⟩
    · show ∃ c, cenv.cells.lookup y = some c
      have hy : cenv.scope.names.lookup y = some .cell ∨ cenv.scope.names.lookup y = some .free := hy
      rw [hsc] at hy
      rcases hy with hy | hy
      · exact absurd rfl (hnc _ (PySem.mem_of_lookup hy))
      · obtain ⟨c, h1, _⟩ := look hy
        exact ⟨c, h1⟩
    · show b ≠ cenv.locals
      rw [hL]; exact Nat.ne_of_lt (hfp b hb).2
    · have e : cenv.cells.lookup y = some c := e
      exact (hfp b hb).1.2.2.2.2.1 y c (mem e).1 z
    · rcases (hfp b hb).1.2.2.2.1 with z | z
      · exact I.ok.noex b o e z
      · exact absurd (Nat.lt_of_lt_of_le (Heap.lt_size e) (Nat.le_trans I.ok.bsz z)) (Nat.lt_irrefl _)
    · rcases List.mem_cons.mp (I.stkSub b z) with z | z
      · exact (hfp b hb).1.2.1 z
      · exact (hfp b hb).1.2.2.1 z
  refine ⟨okB, hos, hb, Un.kept hk, ⟨m0, by show s2.heap.Ns cenv.locals m0; rw [hL]; exact hns, fun i y av e1 e2 e3 => ?_⟩, fun y c e => ?_, ?_, fun y c e => ?_, fun p hp => ?_, I.hok.kept hk, by rw [wipe_length]; exact I.len⟩
  · obtain ⟨e2, hne⟩ := wipe_some e2
    have e3 : Vis cenv.scope y := e3
    rw [hsc] at e3
    have hfr : scope.names.lookup y = some .free := by
      rcases e3 with e3 | e3 | e3
      · rcases ok.own _ (PySem.mem_of_lookup e3) (.inl rfl) with e' | e'
        · obtain ⟨p, hp, hpy⟩ := List.mem_map.mp e'
          have e3 := ok.ix p hp
          have : p.1 = y := hpy
          rw [this] at e3
          exact absurd (List.mem_map.mpr ⟨p, hp, nodup_ix hN e3 e1⟩) hne
        · exact absurd (List.mem_of_getElem? e1) e'
      · exact absurd rfl (hnc _ (PySem.mem_of_lookup e3))
      · exact e3
    obtain ⟨m, hn, hl⟩ := I.loc
    have hvis : Vis X.env.scope y := (ok.free _ (PySem.mem_of_lookup hfr) rfl).elim (fun k => .inr (.inl k)) (fun k => .inr (.inr k))
    obtain ⟨w, r, q⟩ := hl i y av e1 e2 hvis
    refine ⟨w, r, .inr ⟨.inr (by show cenv.scope.names.lookup y = _; rw [hsc]; exact hfr), ?_⟩⟩
    obtain ⟨c, h1, h2⟩ := look hfr
    rcases q with ⟨k, _⟩ | ⟨_, c', e', z⟩
    · have k : X.env.scope.names.lookup y = some .local := k
      rcases ok.free _ (PySem.mem_of_lookup hfr) rfl with k' | k' <;> rw [show X.env.scope.names.lookup y = _ from k'] at k <;> cases k
    · rw [h2] at e'; cases e'
      exact ⟨c, h1, z.keeps hk⟩
  · have e : cenv.cells.lookup y = some c := e
    obtain ⟨w, z⟩ := I.cell y c (mem e).1
    exact ⟨w, z.keeps hk⟩
  · show H cenv.locals = none
    rw [hL]; exact I.hok.fresh (Nat.le_refl _)
  · have e : cenv.cells.lookup y = some c := e
    exact I.freeC y c (mem e).1
  · exact absurd (show p ∈ ([] : List (Addr × Obj)) ++ [] from hp) (by simp)
theorem gx_pinned {X : Cx} {A : Around} {s s1 : Shared} {H H' : Hp} {ce : Env} {fp : List Addr} {pn pins : List (Addr × Obj)} {σ : L2.St} (I : Inv (gxOf X A s H ce fp []) [] σ H' s1)
    (h : ∀ p ∈ pn ++ pins, s1.heap.get? p.1 = some p.2 ∧ H' p.1 = none ∧ p.1 ≠ ce.locals ∧ p.1 ∉ frs X.stack ∧ ∀ v, p.2.data ≠ .cell v) : Inv (gxOf X A s H ce fp pn) pins σ H' s1 :=
  ⟨⟨I.ok.mod, I.ok.kind, I.ok.glob, I.ok.blt, I.ok.above, I.ok.inj, I.ok.has, I.ok.cab, I.ok.hd, I.ok.frames, I.ok.stk, I.ok.exf, I.ok.bs, I.ok.bsz, I.ok.noex, I.ok.exfs, I.ok.funs, I.ok.frf⟩, I.os, I.bare, I.base, I.loc, I.cell, I.free, I.freeC, h, I.hok, I.len⟩
end
/-! ### the consumer's own object -/
/-- what is out stands in the consumer's object -/
abbrev OwnR := List V → Obj → Prop
structure SleptR (S : Addr) (RS : OwnR) (Cy : V → Prop) (y : V) (s s' : Shared) : Prop where
  go : Cy y
  os : s'.os = s.os
  bare : AllBare s'.gens
  keep : ∀ b o, b ≠ S → s.heap.get? b = some o → s'.heap.get? b = some o
  own : ∀ ys o, RS ys o → s.heap.get? S = some o → ∃ o', s'.heap.get? S = some o' ∧ RS (ys ++ [y]) o'
def GIR (X : Cx) (S : Addr) (RS : OwnR) (ip : List (Addr × Obj)) (ys : List V) (σ : L2.St) (H : Hp) (s : Shared) : Prop :=
  ∃ o, RS ys o ∧ Inv X ((S, o) :: ip) σ H s
theorem GIR.woken {X : Cx} {S : Addr} {RS : OwnR} {Cy : V → Prop} {ip : List (Addr × Obj)} {ys : List V} {y : V} {σ : L2.St} {H : Hp} {s s' : Shared} (hRS : ∀ ys o, RS ys o → ∀ v, o.data ≠ .cell v) (hpn : ∀ p ∈ X.pn, p.1 ≠ S) (hip : ∀ p ∈ ip, p.1 ≠ S) (hA : Apart X S)
    (h : GIR X S RS ip ys σ H s) (z : SleptR S RS Cy y s s') : GIR X S RS ip (ys ++ [y]) σ H s' := by
  obtain ⟨ob, r, I⟩ := h
  obtain ⟨eS, hS0, hSL, hSf, _⟩ := I.pin (S, ob) (List.mem_append_right _ List.mem_cons_self)
  have I0 : Inv X ip σ H s := I.pins_of fun p hp => I.pin p (List.mem_append_right _ (List.mem_cons_of_mem _ hp))
  have nt : ∀ b u, H b = some u → b ≠ S := fun b u q hb => by rw [hb, hS0] at q; cases q
  obtain ⟨_, z1, z2, z3, z4⟩ := z
  obtain ⟨ob', eS', r'⟩ := z4 ys ob r eS
  obtain ⟨hh, g, d, t, o⟩ := s'
  have ho : o = s.os := z1
  subst ho
  have nc : ∀ b, b ∉ [S] → b ≠ S := fun b hb e => hb (by rw [e]; exact List.mem_singleton.mpr rfl)
  have J : Inv X ip σ H { s with heap := hh, gens := g, drawn := d, toks := t } := by
    refine I0.step (g' := g) (t' := t) (d' := d) (ch := [S]) (fun b hb => ?_)
      (fun b ob _ _ hc q _ => z3 b ob (nc b hc) q) (fun b ob _ _ hc q _ => ⟨ob.slots, z3 b ob (nc b hc) q⟩) (fun _ _ _ _ n => n) (fun b ob hc q => ⟨ob, z3 b ob (nc b hc) q⟩)
      (fun _ _ q => q) (fun _ _ _ q => q) (fun b ps q => ⟨#[], by rw [q]; simp⟩) (fun m hm => ?_) (fun b u q => ?_) z2
    · rw [List.mem_singleton.mp hb]
      refine ⟨.inr hA.1, hA.2.1, hA.2.2, fun p hp => ?_⟩
      rcases List.mem_append.mp hp with hp | hp
      · exact hpn p hp
      · exact hip p hp
    · obtain ⟨ob, es, ep, ho, r⟩ := hm
      exact ⟨ob, es, ep, z3 _ ob (Ne.symm hSL) ho, r⟩
    · refine (I0.hok b u q).stay (fun c v hc y => z3 c v ?_ y) (fun _ y => y) fun _ _ y => y
      rcases hc with y | y
      · rw [y]; exact nt b u q
      · exact nt c _ y
  refine ⟨ob', r', J.pins_of fun p hp => ?_⟩
  rcases List.mem_cons.mp hp with hp | hp
  · rw [hp]
    exact ⟨eS', hS0, hSL, hSf, hRS _ _ r'⟩
  · exact J.pin p (List.mem_append_right _ hp)
/-! ### the turns -/
/-- what a turn of the generator does: Pf what is out is known of by the consumer as it goes on, Pd at the end -/
def GW (J : It) (g : TG) (tt : TT) (te : TE) (vs : List Nat) (σ : L2.St) (Cy : V → Prop) (Py : List V → V → Hp → Prop) (Pd : List V → Hp → Prop) (W : Nat → Nat → List V → Hp → Prop) : Prop :=
  ∀ i m ys H, W i m ys H → (J.stop i H ∧ Pd ys H) ∨ (J.go i H ∧ ∃ Nx : List V → Hp → Prop, (∀ ys' H', Nx ys' H' → ∃ m', m' < m ∧ W (i + 1) m' ys' H') ∧ ∀ x H', J.yld i H x H' → g x (wipe σ vs) H' fun σ2 H2 => wipe σ2 vs = wipe σ vs ∧ tt σ2 H2 fun b H3 =>
    if b = true then te σ2 H3 fun y H4 => ys.length < sizeLine ∧ Py ys y H4 ∧ (Cy y → Nx (ys ++ [y]) H4) else Nx ys H3)
abbrev gexp (elt tg iter : Expr) (ifs : List Expr) (scope : Scope) (pos : Pos) : Expr := .GeneratorExp elt [⟨tg, iter, ifs, 0⟩] scope pos
abbrev gexN (elt tg iter : Expr) (ifs : List Expr) (rest : List Comprehension) (scope : Scope) (pos : Pos) : Expr := .GeneratorExp elt (⟨tg, iter, ifs, 0⟩ :: rest) scope pos
theorem over_gen {A : Around} {elt tg iter : Expr} {ifs : List Expr} {rest : List Comprehension} {scope : Scope} {pos : Pos} {it : Value} {ce : Env} : A.over (.compLoop (gexN elt tg iter ifs rest scope pos) 0 it .none ce) [] = A.deeper ce := by
  first
    | rfl
    | (obtain ⟨hd, d, fr, gs, u⟩ := A; simp [Around.over, Around.deeper, marksOver, frameCount, unitsOf, envsOf, guardsOf, pushEnvs, pushGuards, Code.envs, Code.env?, Code.isFrame, Code.guards, Code.isGuard, Code.weight, Code.frames, Code.isCreation, Code.isCaller, Code.cUnits])
section
variable {X : Cx} {S : Addr} {RS : OwnR} {s3 : Shared} {H3 : Hp} {ce : Env} {fp : List Addr} {pn : List (Addr × Obj)} {Aw : Around} {elt tg iter : Expr} {ifs : List Expr} {scope : Scope} {pos : Pos} {it : Addr} {tn : Nat → Heap → Prop} {J : It} {g : TG} {tt : TT} {te : TE} {vs : List Nat} {σ : L2.St}
  {Cy : V → Prop} {Py : List V → V → Hp → Prop} {Pd : List V → Hp → Prop} {W : Nat → Nat → List V → Hp → Prop} {R : GenEnd} {YP : Protocol}
theorem seg_gx (hc : X.calm = true) (hco : ce.scope.isCoroutine = false) (T : Turn X.prog X.w X.K tg J fp it tn) (pg : PG (gxOf X (Aw.deeper ce) s3 H3 ce fp pn) tg g) (pt : PTs (gxOf X (Aw.deeper ce) s3 H3 ce fp pn) ifs tt) (pe : PE (gxOf X (Aw.deeper ce) s3 H3 ce fp pn) elt te)
    (hturn : GW J g tt te vs σ Cy Py Pd W) (hRS : ∀ ys o, RS ys o → ∀ v, o.data ≠ .cell v) (hpn : ∀ p ∈ pn, p.1 ≠ S ∧ ∀ b ∈ fp, p.1 ≠ b) (hS : ∀ b ∈ fp, b ≠ S) (hA : Apart (gxOf X (Aw.deeper ce) s3 H3 ce fp pn) S)
    (hR : ∀ n s₀ ys ip σ' H' s', n + ys.length = sizeLine → GIR (gxOf X (Aw.deeper ce) s3 H3 ce fp pn) S RS ip ys σ' H' s' → Pd ys H' → R n s₀ (.ok .next) s')
    (hY : ∀ n s₀ ys y v ip σ' H' s' kap, n + 1 + ys.length = sizeLine → RelV y v → GIR (gxOf X (Aw.deeper ce) s3 H3 ce fp pn) S RS ip ys σ' H' s' → Py ys y H' → (∀ s'', SleptR S RS Cy y s' s'' → kap (.send .none) s'') → YP n s₀ v s' kap) :
    ∀ (m i n : Nat) (ys : List V) (s₀ s : Shared) (H : Hp), n + ys.length = sizeLine → W i m ys H → tn i s.heap → (∀ b ∈ fp, H b = none) → GIR (gxOf X (Aw.deeper ce) s3 H3 ce fp pn) S RS [] ys (wipe σ vs) H s →
      Seg (model X.prog X.w) Aw R YP n s₀ (.compLoop (gexp elt tg iter ifs scope pos) 0 (.ref it) .none ce) ((model X.prog X.w).den (.compLoop (gexp elt tg iter ifs scope pos) 0 (.ref it) .none ce)) [] s := by
  intro m
  induction m using Nat.strongRecOn with
  | ind m ih =>
    intro i n ys s₀ s H hn w5 st5 n5 hG
    obtain ⟨ob, rs, I5⟩ := hG
    have stat : ∀ {σ' : L2.St} {H' : Hp} {s' : Shared} {o' : Obj}, Inv (gxOf X (Aw.deeper ce) s3 H3 ce fp pn) [(S, o')] σ' H' s' → (∀ b ∈ fp, H' b = none) → ∀ b ∈ fp, FpOk (gxOf X (Aw.deeper ce) s3 H3 ce fp pn) [(S, o')] H' b := fun {σ' H' s' o'} I' hn b hb =>
      ⟨hn b hb, (I'.ok.exf b hb).1, I'.ok.exfs b hb, .inl hb, fun x c e => (I'.ok.exf b hb).2 x c e, fun p hp => by
        rcases List.mem_append.mp hp with z | z
        · exact (hpn p z).2 b hb
        · rw [List.mem_singleton.mp z]
          exact Ne.symm (hS b hb)⟩
    show Seg _ Aw _ _ _ s₀ _ ((compTurn (gexp elt tg iter ifs scope pos) 0 (.ref it) .none ce).onRaise (leaving ce)) [] s
    rw [compTurn_gen, Sem.onRaise_eq_wrap]
    refine seg_bind_wrap (wpAny_standAt ?_)
    rcases hturn i m ys H w5 with ⟨stop, qq⟩ | ⟨go, Nx, hNx, step⟩
    · refine seg_bind_wrap ?_
      rw [over_gen]
      have td := T.done (gxOf X (Aw.deeper ce) s3 H3 ce fp pn) rfl rfl rfl hc i _ s _ H (fun _ _ => False) I5 (stat I5 n5) st5 stop
      refine thnF td fun r s6 ⟨hr, I6⟩ => ?_
      subst hr
      exact seg_end (.ok .next) (hR n s₀ ys [] _ H s6 hn ⟨ob, rs, I6⟩ qq)
    · refine seg_bind_wrap ?_
      rw [over_gen]
      have ti := T.item (gxOf X (Aw.deeper ce) s3 H3 ce fp pn) rfl rfl rfl hc i _ s _ H (fun _ _ => False) I5 (stat I5 n5) st5 go
      refine thnF ti fun r s6 ⟨u, hr, h6⟩ => ?_
      subst hr
      refine seg_bind_wrap ?_
      rw [over_gen]
      refine thnF h6 fun _ s7 ⟨x, H7, I7, r7, y7, st7, n7⟩ => ?_
      have I7' := I7.pinned (stat I7 n7) (T.obj _ _ st7)
      refine seg_bind_wrap ?_
      rw [over_gen]
      refine thnF (pg.run _ s7 _ H7 x u _ I7' r7 (step x H7 y7)) fun _ s8 ⟨σ8, H8, I8, hw8, q8⟩ => ?_
      refine seg_bind_wrap ?_
      rw [over_gen]
      refine thnF (pt.run _ s8 σ8 H8 _ I8 q8) fun b s9 ⟨H9, I9, q9⟩ => ?_
      have fin : ∀ {s₀ s' : Shared} {H' : Hp} {o' : Obj} {ys' : List V} {n' : Nat}, n' + ys'.length = sizeLine → RS ys' o' → Inv (gxOf X (Aw.deeper ce) s3 H3 ce fp pn) ([(S, o')] ++ pinsAt fp s7.heap) σ8 H' s' → Nx ys' H' →
          Seg (model X.prog X.w) Aw R YP n' s₀ (.compLoop (gexp elt tg iter ifs scope pos) 0 (.ref it) .none ce) ((model X.prog X.w).den (.compLoop (gexp elt tg iter ifs scope pos) 0 (.ref it) .none ce)) [] s' := fun {s₀ s' H' o' ys' n'} hn' rs' I' nx => by
        obtain ⟨m', hm, w'⟩ := hNx ys' H' nx
        have pin' : ∀ b ∈ fp, ∀ o, s7.heap.get? b = some o → s'.heap.get? b = some o ∧ H' b = none := fun b hb o e =>
          let z := I'.pin (b, o) (List.mem_append_right _ (List.mem_append_right _ (mem_pinsAt hb e)))
          ⟨z.1, z.2.1⟩
        have hl : (wipe σ vs).length = σ8.length := by rw [← hw8, wipe_length]
        refine ih m' hm (i + 1) n' ys' s₀ s' H' hn' w' (T.keep _ _ _ st7 fun b hb o e => (pin' b hb o e).1) (fun b hb => ?_) ⟨o', rs', (I'.unpinned (pins := [(S, o')])).weak hl (fun j v e => ?_)⟩
        · obtain ⟨o, e, _⟩ := T.obj _ _ st7 b hb
          exact (pin' b hb o e).2
        · rw [← hw8] at e
          exact (wipe_some e).1
      cases b with
      | false =>
        simp only [Bool.false_eq_true, if_false] at q9 ⊢
        exact seg_again rfl (fin hn rs I9 q9)
      | true =>
        simp only [if_true] at q9 ⊢
        have hy : ∀ v, yieldOut ce v = yieldValue v := fun v => by simp only [yieldOut, hco, Bool.false_eq_true, if_false]
        simp only [hy]
        rw [Sem.bind_eq_wrap', Sem.bind_eq_wrap', Sem.wrap_wrap, Sem.wrap_wrap]
        refine seg_wrap ?_
        rw [over_gen]
        refine thnF (pe.run _ s9 σ8 H9 _ I9 q9) fun z s10 ⟨yv, H10, I10, r10, hlt, py, nx⟩ => ?_
        obtain ⟨n, rfl⟩ : ∃ k, n = k + 1 := ⟨n - 1, by omega⟩
        have G10 : GIR (gxOf X (Aw.deeper ce) s3 H3 ce fp pn) S RS (pinsAt fp s7.heap) ys σ8 H10 s10 := ⟨ob, rs, I10⟩
        refine seg_at (seg_yield rfl rfl rfl (hY n s₀ ys yv z _ σ8 H10 s10 _ hn r10 G10 py fun s'' zz => ?_))
        obtain ⟨o', rs', I''⟩ := G10.woken hRS (fun p hp => (hpn p hp).1) (fun p hp => hS _ (of_pinsAt hp).1) hA zz
        refine seg_again rfl (fin (by rw [List.length_append, List.length_singleton]; omega) rs' I'' (nx zz.go))
end
end Ph
namespace Ph
open PySem PySem.Spec PyProof.Rows L2 GenW
/-- the end, as the frame that made it sees it -/
def REG (X : Cx) (pins : List (Addr × Obj)) (σ : L2.St) (S a : Addr) (gi : Nat) (RS : OwnR) (Pd : List V → Hp → Prop) : GenEnd := fun n s₀ r s1 =>
  r = .ok .next ∧ ∃ ys H' o, n + ys.length = sizeLine ∧ Inv X pins σ H' s1 ∧ s1.heap.get? S = some o ∧ RS ys o ∧ H' S = none ∧ s1.heap.IsGen a gi ∧ Pd ys H'
/-- an item is handed out -/
def YEG (X : Cx) (pins : List (Addr × Obj)) (σ : L2.St) (S a : Addr) (gi : Nat) (RS : OwnR) (Cy : V → Prop) (Py : List V → V → Hp → Prop) : Protocol := fun n s₀ v s1 kap =>
  ∃ ys y H' o, n + 1 + ys.length = sizeLine ∧ RelV y v ∧ Inv X pins σ H' s1 ∧ s1.heap.get? S = some o ∧ RS ys o ∧ H' S = none ∧ s1.heap.IsGen a gi ∧ Py ys y H' ∧ ∀ s', SleptR S RS Cy y s1 s' → kap (.send .none) s'
/-- a generator that has not begun -/
def MadeX (X : Cx) (k : Nat) (pins : List (Addr × Obj)) (σ : L2.St) (Cy : V → Prop) (Py : List V → V → Hp → Prop) (Pd : List V → Hp → Prop) (u : Value) (s' : Shared) : Prop :=
  ∃ (a : Addr) (gi : Nat) (c : Code) (go : Obj) (H' : Hp), u = .ref a ∧ Inv X pins σ H' s' ∧ s'.heap.get? a = some go ∧ (∀ h : Heap, h.get? a = some go → h.IsGen a gi) ∧ (∀ v, go.data ≠ .cell v) ∧ s'.gens[gi]? = some (.fresh c) ∧ H' a = none ∧
    ∀ (A : Around) (S : Addr) (RS : OwnR) (s2 : Shared) (o : Obj), Room k A → A.frames = some X.stack → ((S = a ∧ ∀ ys o, RS ys o → o = go) ∨ s'.heap.objs.size ≤ S) → (∀ ys o, RS ys o → ∀ v, o.data ≠ .cell v) → (∀ b o, s'.heap.get? b = some o → s2.heap.get? b = some o) →
      s2.heap.get? S = some o → RS [] o → s2.os = s'.os → AllBare s2.gens →
      Seg (model X.prog X.w) A (REG X pins σ S a gi RS Pd) (YEG X pins σ S a gi RS Cy Py) sizeLine s2 c ((model X.prog X.w).den c) [] s2
/-- the names of a generator expression's block -/
structure GenSX (sc : Scope) : Prop where
  co : sc.isCoroutine = false
  cell : ∀ y ∈ sc.names, y.2 ≠ .cell
  dot : sc.names.lookup (".0" : Str) = some NameKind.local
def tGenX (P : Addr) (wi : TI) (g : TG) (tt : TT) (te : TE) (vs : List Nat) (Cy : V → Prop) (Py : List V → V → Hp → Prop) (Pd : List V → Hp → Prop) (σ : L2.St) (H : Hp) : Prop :=
  wi σ H fun J H1 => GxR.TabG H1 P ∧ ∀ H2, GxR.Tabbed P H1 H2 → ∃ W : Nat → Nat → List V → Hp → Prop, (∃ m, W 0 m [] H2) ∧ GW J g tt te vs σ Cy Py Pd W
theorem eval_GeneratorExpN (elt target iter : Expr) (ifs : List Expr) (rest : List Comprehension) (scope : Scope) (pos : Pos) (env : Env) (hco : scope.isCoroutine = false) :
    eval (.GeneratorExp elt (⟨target, iter, ifs, 0⟩ :: rest) scope pos) env = (do
      let x ← eval iter env
      standAt iter.pos
      let x ← genFold iter env x
      let it ← holding [x] (pyIter x)
      enterFrame
      let cl ← closureFor scope env
      let code ← genexprCode env pos (env.qual ++ "<genexpr>") scope
      let bi ← builtinsFor env.globals env.builtins
      let cenv ← newFunctionEnv scope env.globals cl [(".0", it)] (env.qual ++ "<genexpr>.") none code none bi
      newGenerator (.compStart (.GeneratorExp elt (⟨target, iter, ifs, 0⟩ :: rest) scope pos) 0 it .none cenv) "<genexpr>" (env.qual ++ "<genexpr>")) := by
  rw [arm_eval_GeneratorExp]
  simp only [hco, Bool.false_eq_true, if_false]
  cases iter <;> rfl
theorem wpAny_GeneratorExp_makeN {M : Model} {A : Around} {E : Value → Shared → Prop} {s : Shared} {env : Env} {elt target iter : Expr} {ifs : List Expr} {rest : List Comprehension} {scope : Scope} {cl : List (Str × Addr)} {pos : Pos} {Q : Value → Shared → Prop}
    (hco : scope.isCoroutine = false) (hclos : closureFor scope env = pure cl) (hcell : ∀ y ∈ scope.names, y.2 ≠ .cell) (h0 : scope.names.lookup (".0" : Str) = some NameKind.local) (hkind : scope.kind = .function)
    (hroom : A.depth < recursionLimit)
    (h : wpAny M A (eval iter env) (fun xv s₁ => wpAny M A (pyIter xv) (fun it s₂ => s₂.heap.NoLimit ∧
      wpAny M A (genexprCode env pos (env.qual ++ "<genexpr>") scope) (fun code s₃ => wpAny M A (builtinsFor env.globals env.builtins) (fun bi s₄ =>
        ∀ h', h'.Ns s₄.heap.objs.size (fun y => if y = ".0" then some it else none) → Heap.SameBut s₄.heap.objs.size (s₄.heap.push { cls := .type "frame", data := .dict #[] }) h' →
          Q (.ref h'.objs.size) { s₄ with
            gens := s₄.gens.push (.fresh (.compStart (.GeneratorExp elt (⟨target, iter, ifs, 0⟩ :: rest) scope pos) 0 it .none (genEnv scope cl s₄.heap.objs.size code bi env))),
            toks := s₄.toks + 1 + 1 + 1,
            heap := h'.push { cls := .type "generator", data := .fields #[.int s₄.gens.size 0, .str "<genexpr>" (s₄.toks + 1), .str (env.qual ++ "<genexpr>") (s₄.toks + 1 + 1)] } }) E s₃) E s₂) E s₁) E s)
    (hs : ∀ x, genFold iter env x = pure x) :
    wpAny M A (eval (.GeneratorExp elt (⟨target, iter, ifs, 0⟩ :: rest) scope pos) env) Q E s := by
  rw [eval_GeneratorExpN _ _ _ _ _ _ _ _ hco, hclos]
  refine wpAny_bind (wpAny_mono h (fun xv s₁ h₁ => ?_) fun _ _ e => e)
  refine wpAny_bind (wpAny_standAt ?_)
  refine wpAny_bind (wpAny_of_eq (hs xv) ?_)
  refine wpAny_bind (wpAny_holding (wpAny_mono h₁ (fun it s₂ h₂ => ?_) fun _ _ e => e))
  refine wpAny_bind (wpAny_enterFrame h₂.1 hroom ?_)
  refine wpAny_bind (wpAny_pure ?_)
  refine wpAny_bind (wpAny_mono h₂.2 (fun code s₃ h₃ => ?_) fun _ _ e => e)
  refine wpAny_bind (wpAny_mono h₃ (fun bi s₄ h₄ => ?_) fun _ _ e => e)
  have hbinds : ∀ y ∈ ([((".0" : Str), it)] : List (Str × Value)), scope.names.lookup y.1 = some NameKind.local := by
    intro y hy
    rcases List.mem_cons.mp hy with rfl | hy
    · exact h0
    · cases hy
  refine wpAny_bind (wpAny_newFunctionEnv hcell hbinds (fun h' hn' hs' => ?_) hkind)
  have e : (fun y : Str => ([((".0" : Str), it)] : List (Str × Value)).reverse.lookup y) = fun y : Str => if y = (".0" : Str) then some it else none := by
    funext y
    by_cases hy : y = ".0"
    · subst hy; simp
    · have : (y == (".0" : Str)) = false := by simpa using hy
      simp [List.lookup, this, hy]
  rw [e] at hn'
  simp only [newGenerator, newFields]
  refine wpAny_bind (wpAny_newGen (wpAny_bind (wpAny_mkText (wpAny_bind (wpAny_mkText (wpAny_newObj_type ?_ (by size_fits)))))))
  exact h₄ h' hn' hs'
/-- the loop of a generator's block, from its first turn: Gj what is known of its iterator -/
def LoopX (X : Cx) (k : Nat) (σ : L2.St) (elt tg iter : Expr) (ifs : List Expr) (rest : List Comprehension) (scope : Scope) (gpos : Pos) (vs : List Nat) (Gj : It → Hp → Prop) (Cy : V → Prop) (Py : List V → V → Hp → Prop) (Pd : List V → Hp → Prop) : Prop :=
  ∀ (Aw : Around) (S : Addr) (RS : OwnR) (s3 : Shared) (H3 : Hp) (C : Addr) (code : Value) (fp : List Addr) (pn : List (Addr × Obj)) (it : Addr) (tn : Nat → Heap → Prop) (J : It) (R : GenEnd) (YP : Protocol), Room k (Aw.deeper (gxEnv X scope C code)) → Turn X.prog X.w X.K tg J fp it tn →
    (∀ ys o, RS ys o → ∀ v, o.data ≠ .cell v) → (∀ p ∈ pn, p.1 ≠ S ∧ ∀ b ∈ fp, p.1 ≠ b) → (∀ b ∈ fp, b ≠ S) → Apart (gxOf X (Aw.deeper (gxEnv X scope C code)) s3 H3 (gxEnv X scope C code) fp pn) S →
    (∀ n s₀ ys ip σ' H' s', n + ys.length = sizeLine → GIR (gxOf X (Aw.deeper (gxEnv X scope C code)) s3 H3 (gxEnv X scope C code) fp pn) S RS ip ys σ' H' s' → Pd ys H' → R n s₀ (.ok .next) s') →
    (∀ n s₀ ys y v ip σ' H' s' kap, n + 1 + ys.length = sizeLine → RelV y v → GIR (gxOf X (Aw.deeper (gxEnv X scope C code)) s3 H3 (gxEnv X scope C code) fp pn) S RS ip ys σ' H' s' → Py ys y H' → (∀ s'', SleptR S RS Cy y s' s'' → kap (.send .none) s'') → YP n s₀ v s' kap) →
    ∀ (s₀ s : Shared) (H : Hp), Gj J H → tn 0 s.heap → (∀ b ∈ fp, H b = none) → GIR (gxOf X (Aw.deeper (gxEnv X scope C code)) s3 H3 (gxEnv X scope C code) fp pn) S RS [] [] (wipe σ vs) H s →
      Seg (model X.prog X.w) Aw R YP sizeLine s₀ (.compLoop (gexN elt tg iter ifs rest scope gpos) 0 (.ref it) .none (gxEnv X scope C code)) ((model X.prog X.w).den (.compLoop (gexN elt tg iter ifs rest scope gpos) 0 (.ref it) .none (gxEnv X scope C code))) [] s
section
variable {X : Cx} {pins : List (Addr × Obj)} {σ : L2.St} {H : Hp} {s : Shared}
theorem gen_madeN {c P : Addr} {elt tg iter : Expr} {ifs : List Expr} {rest : List Comprehension} {scope : Scope} {own : List (Str × Nat)} {gpos : Pos} {wi : TI} {Gj : It → Hp → Prop} {k : Nat} {Cy : V → Prop} {Py : List V → V → Hp → Prop} {Pd : List V → Hp → Prop} {Qz : Value → Shared → Prop}
    (hr : Room k X.A) (hN : X.N.Nodup) (TB : GxR.TabB X.base X.mg c P) (hcode : X.env.code = .ref c) (S : GenSX scope) (hi : PI X tg iter wi) (ok : BlkOk X.N X.env.scope scope own)
    (hl : LoopX X k σ elt tg iter ifs rest scope gpos (own.map (·.2)) Gj Cy Py Pd)
    (hs : ∀ v, genFold iter X.env v = pure v) (I : Inv X pins σ H s) (h : wi σ H fun J H1 => GxR.TabG H1 P ∧ ∀ H2, GxR.Tabbed P H1 H2 → Gj J H2)
    (hQ : ∀ u z, MadeX X (k + 1) pins σ Cy Py Pd u z → Qz u z) :
    wpAny (model X.prog X.w) X.A (eval (gexN elt tg iter ifs rest scope gpos) X.env) Qz X.xe s := by
  have hfree : ∀ y ∈ scope.names, y.2 = .free → ∃ c, X.env.cells.lookup y.1 = some c := fun y hy e => by
    rcases ok.free y hy e with k | k
    · exact I.ok.has _ (.inl k)
    · exact I.ok.has _ (.inr k)
  refine wpAny_GeneratorExp_makeN S.co (closure_ok hfree) S.cell S.dot ok.kind (by have := hr.dp; omega) ?_ hs
  refine thn (hi.run pins s σ H _ I h) fun xv s1 hx => thn hx fun itv s2 h2 => ?_
  obtain ⟨it, fp, tn, J, H2, rfl, I2, T, st2, f2, ⟨tb, hP, ht0⟩, q⟩ := h2
  have hPs : s2.heap.get? P = some { cls := .none, data := .fields tb } := I2.hok P _ hP
  have hPlt : P < s2.heap.objs.size := Heap.lt_size hPs
  have cd : PySem.W.CodeHd s2.heap c P := TB.code.keeps fun b u e => I2.bk b u e
  have lim2 : s2.heap.NoLimit := I2.nolimit
  have cont : ∀ (code : Value) (h3 : Heap) (tk : Nat) (tb2 : Array Value), Heap.ExtBut P s2.heap h3 → s2.heap.objs.size ≤ h3.objs.size → h3.get? P = some { cls := .none, data := .fields tb2 } → (∃ more, tb2 = tb ++ more) → TriplesOk tb2.toList →
      wpAny (model X.prog X.w) X.A (builtinsFor X.env.globals X.env.builtins) (fun bi s₄ =>
        ∀ h', h'.Ns s₄.heap.objs.size (fun y => if y = ".0" then some (.ref it) else none) → Heap.SameBut s₄.heap.objs.size (s₄.heap.push { cls := .type "frame", data := .dict #[] }) h' →
          Qz (.ref h'.objs.size) { s₄ with
            gens := s₄.gens.push (.fresh (.compStart (gexN elt tg iter ifs rest scope gpos) 0 (.ref it) .none (genEnv scope (cloFrom X.env.cells scope.names []) s₄.heap.objs.size code bi X.env))),
            toks := s₄.toks + 1 + 1 + 1,
            heap := h'.push { cls := .type "generator", data := .fields #[.int s₄.gens.size 0, .str "<genexpr>" (s₄.toks + 1), .str (X.env.qual ++ "<genexpr>") (s₄.toks + 1 + 1)] } }) X.xe { s2 with heap := h3, toks := tk } := by
    intro code h3 tk tb2 hx hsz hP3 hmore ht3
    obtain ⟨more, em⟩ := hmore
    obtain ⟨bm, ob, e1, e2, e3, e4, e5, e6, e7, e8⟩ := TB.bm
    have ns3 : h3.Ns mainGlobals X.mg := (I2.mod.glob.keeps I2.bk).extBut hx TB.gP
    refine wpAny_builtinsFor (m := X.mg) (by rw [I2.ok.glob]; exact ns3) e1 e2 (hx _ _ e4 (I2.bk _ _ e5)) e6 e7 e8 ?_
    have I3 : Inv X pins σ (upd H2 P (.tbl (tb ++ more))) { s2 with heap := h3, toks := tk } :=
      GxR.inv_tab (more := more) (h' := h3) (g' := s2.gens) (d' := s2.drawn) (t' := tk) I2 hP (fun b u hb e => hx b u hb e) (by rw [← em]; exact hP3) I2.bare
    have hT : GxR.Tabbed P H2 (upd H2 P (.tbl (tb ++ more))) := ⟨⟨tb ++ more, upd_same, by rw [← em]; exact ht3⟩, fun b hb => upd_ne hb⟩
    have w0 := q _ hT
    have hfpP : ∀ b ∈ fp, b ≠ P := fun b hb z => by
      have := (f2 b hb).1
      rw [z, hP] at this; cases this
    have st3 : tn 0 h3 := T.keep _ _ _ st2 fun b hb o e => hx b o (hfpP b hb) e
    have f3 : ∀ b ∈ fp, FpOk X pins (upd H2 P (.tbl (tb ++ more))) b ∧ b < h3.objs.size := fun b hb => by
      obtain ⟨o, e, _⟩ := T.obj _ _ st2 b hb
      exact ⟨⟨by rw [upd_ne (hfpP b hb)]; exact (f2 b hb).1, (f2 b hb).2⟩, Nat.lt_of_lt_of_le (Heap.lt_size e) hsz⟩
    generalize hs3 : ({ s2 with heap := h3, toks := tk } : Shared) = s3 at I3
    generalize hH3 : upd H2 P (.tbl (tb ++ more)) = H3 at I3 w0 f3
    have eh : s3.heap = h3 := by rw [← hs3]
    rw [← eh] at st3 f3
    intro h' hn' hs'
    have keep' : ∀ b o, s3.heap.get? b = some o → h'.get? b = some o := fun b o e => hs'.extBut b o (Nat.ne_of_lt (Heap.lt_size e)) (Heap.get?_push_of_some _ e)
    have sz' : h'.objs.size = s3.heap.objs.size + 1 := by rw [hs'.1, Heap.size_push]
    have main : ∀ (go : Obj) (tk2 : Nat), (∀ h : Heap, h.get? h'.objs.size = some go → h.IsGen h'.objs.size s3.gens.size) → (∀ v, go.data ≠ .cell v) → (h'.push go).get? h'.objs.size = some go →
        Qz (.ref h'.objs.size) { s3 with gens := s3.gens.push (.fresh (.compStart (gexN elt tg iter ifs rest scope gpos) 0 (.ref it) .none (gxEnv X scope s3.heap.objs.size code))), toks := tk2, heap := h'.push go } := by
      intro go tk2 hgen hcell hpushed
      have keep5 : ∀ b o, s3.heap.get? b = some o → (h'.push go).get? b = some o := fun b o e => Heap.get?_push_of_some _ (keep' b o e)
      have I5 : Inv X pins σ H3 { s3 with gens := s3.gens.push (.fresh (.compStart (gexN elt tg iter ifs rest scope gpos) 0 (.ref it) .none (gxEnv X scope s3.heap.objs.size code))), toks := tk2, heap := h'.push go } :=
        I3.call' (ch := []) rfl (Un.kept keep5) (I3.hok.kept keep5) (AllBare.push I3.bare rfl) fun b z => by simp at z
      have young : ∀ b, s3.heap.objs.size < b → H3 b = none ∧ b ≠ s3.heap.objs.size ∧ b ∉ frs X.stack := fun b hb => ⟨I3.hok.fresh (Nat.le_of_lt hb), Nat.ne_of_gt hb, fun z => by
        rcases List.mem_cons.mp (I3.stkSub b z) with z | z
        · rw [z] at hb
          exact absurd (Nat.lt_trans hb I3.lt) (Nat.lt_irrefl _)
        · exact I3.nofs (Nat.le_of_lt hb) z⟩
      have hza : s3.heap.objs.size < h'.objs.size := by rw [sz']; exact Nat.lt_succ_self _
      refine hQ _ _ ⟨h'.objs.size, s3.gens.size, _, go, H3, rfl, I5, hpushed, hgen, hcell, Array.getElem?_push_size .., (young _ hza).1, ?_⟩
      intro A Sx RS sw o hrA hfrA hSx hRS hkw hSo hRS0 hosw hbw
      have hkw3 : ∀ b o, s3.heap.get? b = some o → sw.heap.get? b = some o := fun b o e => hkw b o (keep5 b o e)
      have hSy : s3.heap.objs.size < Sx := by
        rcases hSx with ⟨z, _⟩ | z
        · rw [z]; exact hza
        · have z : (h'.push go).objs.size ≤ Sx := z
          rw [Heap.size_push] at z
          omega
      have I6 := gx_start (s := s3) (s2 := sw) (A := A.deeper (gxEnv X scope s3.heap.objs.size code)) (code := code) (m0 := fun y => if y = ".0" then some (.ref it) else none) I3 ok S.cell hN f3 hrA.hd (by show (A.frames.map _) = _; rw [hfrA]; rfl)
        ((hn'.push go).keeps hkw) hkw3 hosw hbw
      have hcell' : ∀ v, o.data ≠ .cell v := hRS _ _ hRS0
      have hea : sw.heap.get? h'.objs.size = some go := hkw _ go hpushed
      -- what is pinned beside the consumer's object
      obtain ⟨pn, hpn1, hpn2, hgp⟩ : ∃ pn : List (Addr × Obj), (∀ p ∈ pn, p = (h'.objs.size, go)) ∧ (∀ p ∈ pn, p.1 ≠ Sx) ∧
          (∀ {ip : List (Addr × Obj)} {ys : List V} {s' : Shared} {σ' : L2.St} {H' : Hp}, GIR (gxOf X (A.deeper (gxEnv X scope s3.heap.objs.size code)) s3 H3 (gxEnv X scope s3.heap.objs.size code) fp pn) Sx RS ip ys σ' H' s' → s'.heap.IsGen h'.objs.size s3.gens.size) := by
        rcases hSx with ⟨z, hz⟩ | z
        · refine ⟨[], fun p hp => absurd hp (by simp), fun p hp => absurd hp (by simp), fun {ip ys s' σ' H'} hI => ?_⟩
          obtain ⟨o', r', J'⟩ := hI
          have e := (J'.pin (Sx, o') (List.mem_append_right _ List.mem_cons_self)).1
          rw [hz _ _ r', z] at e
          exact hgen _ e
        · refine ⟨[(h'.objs.size, go)], fun p hp => List.mem_singleton.mp hp, fun p hp => ?_, fun {ip ys s' σ' H'} hI => ?_⟩
          · rw [List.mem_singleton.mp hp]
            have z : (h'.push go).objs.size ≤ Sx := z
            rw [Heap.size_push] at z
            exact Nat.ne_of_lt z
          · obtain ⟨o', r', J'⟩ := hI
            exact hgen _ (J'.pin (h'.objs.size, go) (List.mem_append_left _ (List.mem_singleton.mpr rfl))).1
      have hG : GIR (gxOf X (A.deeper (gxEnv X scope s3.heap.objs.size code)) s3 H3 (gxEnv X scope s3.heap.objs.size code) fp pn) Sx RS [] [] (wipe σ (own.map (·.2))) H3 sw := by
        refine ⟨o, hRS0, gx_pinned I6 fun p hp => ?_⟩
        rcases List.mem_append.mp hp with z | z
        · rw [hpn1 p z]
          obtain ⟨y1, y2, y3⟩ := young _ hza
          exact ⟨hea, y1, y2, y3, hcell⟩
        · rw [List.mem_singleton.mp z]
          obtain ⟨y1, y2, y3⟩ := young _ hSy
          exact ⟨hSo, y1, y2, y3, hcell'⟩
      have hAp : Apart (gxOf X (A.deeper (gxEnv X scope s3.heap.objs.size code)) s3 H3 (gxEnv X scope s3.heap.objs.size code) fp pn) Sx :=
        ⟨Nat.le_of_lt hSy, (young _ hSy).2.1, fun x cc e z => by
          obtain ⟨v, ob, ho, _⟩ := I6.cell x cc e
          have hl : ∃ v, s3.heap.IsCell cc v := by
            have e : (cloFrom X.env.cells scope.names []).lookup x = some cc := e
            rcases cloFrom_mem (PySem.mem_of_lookup e) with hm | ⟨h1, h2⟩
            · cases hm
            · obtain ⟨c2, hc2⟩ := hfree _ h1 rfl
              have hc2 : X.env.cells.lookup x = some c2 := hc2
              rw [hc2] at h2
              have h2 : cc = c2 := h2
              rw [h2]
              exact I3.cell _ _ hc2
          obtain ⟨v2, z2⟩ := hl
          have := z2.lt
          rw [z] at this
          exact absurd (Nat.lt_trans this hSy) (Nat.lt_irrefl _)⟩
      have back : ∀ {ip : List (Addr × Obj)} {ys : List V} {s' : Shared} {σ' : L2.St} {H' : Hp}, GIR (gxOf X (A.deeper (gxEnv X scope s3.heap.objs.size code)) s3 H3 (gxEnv X scope s3.heap.objs.size code) fp pn) Sx RS ip ys σ' H' s' →
          ∃ o, Inv X pins σ H' s' ∧ s'.heap.get? Sx = some o ∧ RS ys o ∧ H' Sx = none := fun {ip ys s' σ' H'} hI => by
        obtain ⟨o', r', J'⟩ := hI
        obtain ⟨p1, p2, _⟩ := J'.pin (Sx, o') (List.mem_append_right _ List.mem_cons_self)
        exact ⟨o', I3.call' (ch := fp) J'.os J'.base J'.hok J'.bare fun b hb => ⟨(f3 b hb).1.2.2.2.1, (f3 b hb).1.2.1, (f3 b hb).1.2.2.2.2.1, (f3 b hb).1.2.2.2.2.2⟩, p1, r', p2⟩
      have hfa : ∀ b ∈ fp, b ≠ h'.objs.size := fun b hb => Nat.ne_of_lt (Nat.lt_trans (f3 b hb).2 hza)
      have rd : Room k (A.deeper (gxEnv X scope s3.heap.objs.size code)) := hrA.deeper _
      have loop : ∀ s₀, Seg (model X.prog X.w) A (REG X pins σ Sx h'.objs.size s3.gens.size RS Pd) (YEG X pins σ Sx h'.objs.size s3.gens.size RS Cy Py) sizeLine s₀ (.compLoop (gexN elt tg iter ifs rest scope gpos) 0 (.ref it) .none (gxEnv X scope s3.heap.objs.size code)) ((model X.prog X.w).den (.compLoop (gexN elt tg iter ifs rest scope gpos) 0 (.ref it) .none (gxEnv X scope s3.heap.objs.size code))) [] sw := fun s₀ =>
        hl A Sx RS s3 H3 s3.heap.objs.size code fp pn it tn J _ _ rd T hRS (fun p hp => ⟨hpn2 p hp, fun b hb => by rw [hpn1 p hp]; exact Ne.symm (hfa b hb)⟩)
          (fun b hb => Nat.ne_of_lt (Nat.lt_trans (f3 b hb).2 hSy)) hAp
          (fun n s₀ ys ip σ' H' s' hn hI hd => by
            obtain ⟨o', j1, j2, j3, j4⟩ := back hI
            exact ⟨rfl, ys, H', o', hn, j1, j2, j3, j4, hgp hI, hd⟩)
          (fun n s₀ ys y v ip σ' H' s' kap hn rv hI hp hk => by
            obtain ⟨o', j1, j2, j3, j4⟩ := back hI
            exact ⟨ys, y, H', o', hn, rv, j1, j2, j3, j4, hgp hI, hp, hk⟩)
          s₀ sw H3 w0 (T.keep _ _ _ st3 fun b _ o e => hkw3 b o e) (fun b hb => (f3 b hb).1.1) hG
      show Seg _ A _ _ _ sw _ ((compStart (gexN elt tg iter ifs rest scope gpos) 0 (.ref it) .none (gxEnv X scope s3.heap.objs.size code)).onRaise (leaving (gxEnv X scope s3.heap.objs.size code))) [] sw
      unfold compStart
      rw [Sem.onRaise_eq_wrap]
      show Seg _ A _ _ _ sw _ ((ask >>= _).wrap _ _ _ _) [] sw
      refine seg_bind_wrap (wpAny_askSetting ?_)
      have stw : tn 0 sw.heap := T.keep _ _ _ st3 fun b _ o e => hkw3 b o e
      split
      · exact seg_again rfl (loop sw)
      · first
          | exact seg_bind_wrap (wpAny_rule (seg_bind_wrap (wpAny_standAt (seg_bind_wrap (T.self _ 0 sw _ _ stw (seg_again rfl (loop sw)))))))
          | (refine seg_bind_wrap (wpAny_rule ?_); show Seg _ A _ _ _ sw _ ((standAt iter.pos >>= _).wrap _ _ _ _) [] sw; exact seg_bind_wrap (wpAny_standAt (seg_bind_wrap (T.self _ 0 sw _ _ stw (seg_again rfl (loop sw))))))
    exact main _ _ (fun h e => ⟨_, _, _, e, rfl, rfl, rfl⟩) (fun v z => by cases z) (Heap.get?_push_size _ rfl)
  refine ⟨lim2, ?_⟩
  cases hf : codeAmong gpos tb.toList with
  | none =>
    refine wpAny_genexprCodeX hcode (cd.code hPs ht0) (cd.tab hPs) hf fun c' h' tk hx hge hlt hco' _ htab' _ => ?_
    obtain ⟨_, _, _, _, _, _, _, _, _, _, _, _, _, _, _, _, _, _, _, htr, _⟩ := hco'
    exact cont _ h' tk _ hx (Nat.le_trans hge (Nat.le_of_lt hlt)) htab'.2 ⟨_, rfl⟩ htr
  | some cv =>
    refine wpAny_genexprCode_hit hcode (cd.code hPs ht0) hf ?_
    exact cont cv s2.heap s2.toks tb (Heap.ExtBut.refl _ _) (Nat.le_refl _) hPs ⟨#[], by simp⟩ ht0
theorem loop1 {elt tg iter : Expr} {ifs : List Expr} {scope : Scope} {gpos : Pos} {g : TG} {tt : TT} {te : TE} {vs : List Nat} {k : Nat} {Cy : V → Prop} {Py : List V → V → Hp → Prop} {Pd : List V → Hp → Prop} (hc : X.calm = true) (hco : scope.isCoroutine = false)
    (hg : ∀ (A : Around) (s : Shared) (H : Hp) (C : Addr) (code : Value) (fp : List Addr) (pn : List (Addr × Obj)), Room k A → PG (gxOf X A s H (gxEnv X scope C code) fp pn) tg g)
    (ht : ∀ (A : Around) (s : Shared) (H : Hp) (C : Addr) (code : Value) (fp : List Addr) (pn : List (Addr × Obj)), Room k A → PTs (gxOf X A s H (gxEnv X scope C code) fp pn) ifs tt)
    (he : ∀ (A : Around) (s : Shared) (H : Hp) (C : Addr) (code : Value) (fp : List Addr) (pn : List (Addr × Obj)), Room k A → PE (gxOf X A s H (gxEnv X scope C code) fp pn) elt te) :
    LoopX X k σ elt tg iter ifs [] scope gpos vs (fun J H2 => ∃ W : Nat → Nat → List V → Hp → Prop, (∃ m, W 0 m [] H2) ∧ GW J g tt te vs σ Cy Py Pd W) Cy Py Pd := by
  intro Aw S RS s3 H3 C code fp pn it tn J R YP rd T hRS hpn hS hA hR hY s₀ s H ⟨W, ⟨m0, w0⟩, hW⟩ st hn hG
  exact seg_gx (X := X) (S := S) (RS := RS) (s3 := s3) (H3 := H3) (fp := fp) (pn := pn) hc hco T (hg _ s3 H3 _ code fp pn rd) (ht _ s3 H3 _ code fp pn rd) (he _ s3 H3 _ code fp pn rd) hW hRS hpn hS hA hR hY m0 0 sizeLine [] s₀ s H rfl w0 st hn hG
theorem gen_made {c P : Addr} {elt tg iter : Expr} {ifs : List Expr} {scope : Scope} {own : List (Str × Nat)} {gpos : Pos} {wi : TI} {g : TG} {tt : TT} {te : TE} {k : Nat} {Cy : V → Prop} {Py : List V → V → Hp → Prop} {Pd : List V → Hp → Prop} {Qz : Value → Shared → Prop}
    (hr : Room k X.A) (hc : X.calm = true) (hN : X.N.Nodup) (TB : GxR.TabB X.base X.mg c P) (hcode : X.env.code = .ref c) (S : GenSX scope) (hi : PI X tg iter wi) (ok : BlkOk X.N X.env.scope scope own)
    (hg : ∀ (A : Around) (s : Shared) (H : Hp) (C : Addr) (code : Value) (fp : List Addr) (pn : List (Addr × Obj)), Room k A → PG (gxOf X A s H (gxEnv X scope C code) fp pn) tg g)
    (ht : ∀ (A : Around) (s : Shared) (H : Hp) (C : Addr) (code : Value) (fp : List Addr) (pn : List (Addr × Obj)), Room k A → PTs (gxOf X A s H (gxEnv X scope C code) fp pn) ifs tt)
    (he : ∀ (A : Around) (s : Shared) (H : Hp) (C : Addr) (code : Value) (fp : List Addr) (pn : List (Addr × Obj)), Room k A → PE (gxOf X A s H (gxEnv X scope C code) fp pn) elt te)
    (hs : ∀ v, genFold iter X.env v = pure v) (I : Inv X pins σ H s) (h : tGenX P wi g tt te (own.map (·.2)) Cy Py Pd σ H)
    (hQ : ∀ u z, MadeX X (k + 1) pins σ Cy Py Pd u z → Qz u z) :
    wpAny (model X.prog X.w) X.A (eval (gexp elt tg iter ifs scope gpos) X.env) Qz X.xe s :=
  gen_madeN hr hN TB hcode S hi ok (loop1 hc S.co hg ht he) hs I h hQ
end
end Ph
namespace Ph
open PySem PySem.Spec PyProof.Rows L2 GenW
section
variable {X : Cx} {pins : List (Addr × Obj)} {σ : L2.St} {S a : Addr} {gi : Nat} {RS : OwnR} {Cy : V → Prop} {Py : List V → V → Hp → Prop} {Pd : List V → Hp → Prop} {A : Around} {E : Value → Shared → Prop}
theorem Inv.gens' {H : Hp} {s : Shared} {h' : Heap} {G : Array GenState} {tk : Nat} (I : Inv X pins σ H s) (hk : ∀ b o, s.heap.get? b = some o → h'.get? b = some o) (hG : AllBare G) : Inv X pins σ H { s with gens := G, heap := h', toks := tk } :=
  I.call' (ch := []) rfl (Un.kept hk) (I.hok.kept hk) hG fun b z => by simp at z
abbrev GoesX (X : Cx) (A : Around) (pins : List (Addr × Obj)) (σ : L2.St) (S a : Addr) (gi : Nat) (RS : OwnR) (Cy : V → Prop) (Py : List V → V → Hp → Prop) (Pd : List V → Hp → Prop) (gs : GenState) (n : Nat) (s : Shared) : Prop :=
  gs.Goes (model X.prog X.w) A (REG X pins σ S a gi RS Pd) (YEG X pins σ S a gi RS Cy Py) n (.send .none) (s.setGen gi .running)
theorem next_X {n : Nat} {s : Shared} {gs : GenState} {Q : Option Value → Shared → Prop} (hh : A.handled = none) (hd : A.depth < recursionLimit) (hl : s.heap.NoLimit) (hg : s.heap.IsGen a gi) (hgs : s.gens[gi]? = some gs)
    (hgo : GoesX X A.in1 pins σ S a gi RS Cy Py Pd gs n s)
    (hY : ∀ ys y v H' o s1 gs', n + ys.length = sizeLine ∨ n = 0 → RelV y v → Inv X pins σ H' s1 → s1.heap.get? S = some o → RS ys o → H' S = none → s1.heap.IsGen a gi → s1.gens[gi]? = some gs' → Py ys y H' →
      (∀ s2, SleptR S RS Cy y s1 s2 → ∃ m, n = m + 1 ∧ GoesX X A.in1 pins σ S a gi RS Cy Py Pd gs' m s2) → Q (some v) s1)
    (hP : ∀ ys H' o s1, ys.length ≤ sizeLine → Inv X pins σ H' s1 → s1.heap.get? S = some o → RS ys o → H' S = none → Pd ys H' → Q none s1) :
    wpAny (model X.prog X.w) A (pyNext (.ref a)) Q E s := by
  have hgl : gi < s.gens.size := (Array.getElem?_eq_some_iff.mp hgs).1
  refine wpAny_gsz (n := gi + 1) hgl (wpAny_pyNext_genexpQ (P := fun n _ s1 => ∃ (ys : List V) (H' : Hp) (o : Obj), n + ys.length = sizeLine ∧ Inv X pins σ H' s1 ∧ s1.heap.get? S = some o ∧ RS ys o ∧ H' S = none ∧ s1.heap.IsGen a gi ∧ Pd ys H') hh hl hd hg hgs hgo (fun v s1 gs' hb hv => ?_) fun s1 hp h' hk => ?_)
  · intro hsz
    obtain ⟨ys, y, H', o, hn, rv, I1, eS, rs, hS0, hg1, py, hk⟩ := hv
    have hsz1 : gi < s1.gens.size := by
      have q : (s1.setGen gi gs').gens.size = s1.gens.size := setGen_size _ _ _
      have hsz' : gi + 1 ≤ (s1.setGen gi gs').gens.size := hsz
      omega
    have I2 : Inv X pins σ H' (s1.setGen gi gs') := Inv.gens' (tk := s1.toks) I1 (fun _ _ e => e) (allBare_setGen I1.bare hb)
    refine hY ys y v H' o (s1.setGen gi gs') gs' (by omega) rv I2 eS rs hS0 hg1 (setGen_at hsz1) py fun s2 z => ?_
    have z' : SleptR S RS Cy y s1 (s2.setGen gi .running) := ⟨z.go, z.os, allBare_setGen z.bare rfl, z.keep, z.own⟩
    have q := hk _ z'
    cases n with
    | zero => exact False.elim q
    | succ m => exact ⟨m, rfl, q⟩
  · intro hsz
    obtain ⟨ys, H', o, hn, I1, eS, rs, hS0, hg1, pd⟩ := hp
    exact hP ys H' o _ (by omega) (Inv.gens' (s := s1) (h' := h') (G := (s1.setGen gi .finished).gens) (tk := s1.toks) I1 hk (allBare_setGen I1.bare rfl)) (hk _ _ eS) rs hS0 pd
/-! ### any, all -/
theorem any_loopX {R : Result → Shared → Prop} {go : Obj} {b0 : Bool} {nm : String} (hnm : (b0 = true ∧ nm = "any.loop") ∨ (b0 = false ∧ nm = "all.loop")) (hh : A.handled = none) (hd : A.depth < recursionLimit)
    (hR : ∀ b H' s', Inv X pins σ H' s' → ((b = b0 ∧ ∃ ys, Py ys (.bl b) H') ∨ (b = !b0 ∧ ∃ ys, Pd ys H')) → R (.ok (.ret (.bool b))) s')
    (hPy : ∀ ys y H', Py ys y H' → ∃ b, y = .bl b) :
    ∀ (m : Nat) (s : Shared), s.heap.IsGen a gi → s.heap.get? a = some go → s.heap.NoLimit →
      (∃ gs, s.gens[gi]? = some gs ∧ GoesX X A.in1.in1 pins σ a a gi (fun _ o => o = go) (fun y => y = .bl (!b0)) Py Pd gs m s) →
      codeAny (model X.prog X.w) A (.builtin nm ⟨[.ref a], []⟩) R s := by
  intro m
  induction m with
  | zero =>
    intro s hg ha hl ⟨gs, hgs, hgo⟩
    have key : ∀ (Q : Option Value → Shared → Prop) (E : Value → Shared → Prop), (∀ v s1, (∃ b ys H', v = .bool b ∧ Inv X pins σ H' s1 ∧ Py ys (.bl b) H' ∧ b = b0) → Q (some v) s1) → (∀ s1, (∃ ys H', Inv X pins σ H' s1 ∧ Pd ys H') → Q none s1) → wpAny (model X.prog X.w) A.in1 (pyNext (.ref a)) Q E s := fun Q E h1 h2 => by
      refine next_X (A := A.in1) hh hd hl hg hgs hgo (fun ys y v H' o s1 gs' _ rv I1 eS rs _ _ _ py hk => ?_) fun ys H' o s1 _ I1 _ _ _ pd => h2 s1 ⟨ys, H', I1, pd⟩
      obtain ⟨b, rfl⟩ := hPy ys y H' py
      have rv' : v = .bool b := rv
      by_cases hb : b = b0
      · exact h1 v s1 ⟨b, ys, H', rv', I1, py, hb⟩
      · obtain ⟨m, hm, _⟩ := hk s1 ⟨by cases b <;> cases b0 <;> simp_all, rfl, I1.bare, fun _ _ _ e => e, fun ys o r e => ⟨o, e, r⟩⟩
        cases hm
    rcases hnm with ⟨rfl, rfl⟩ | ⟨rfl, rfl⟩
    · refine codeAny_builtin F.entry_any_loop ?_
      rw [Around.under_plainId F.plain_any_loop _]
      show wpAny _ A.in1 (pyNext (.ref a) >>= _) _ _ s
      refine wpAny_bind (key _ _ (fun v s1 ⟨b, ys, H', e, I1, py, hb⟩ => ?_) fun s1 ⟨ys, H', I1, pd⟩ => ?_)
      · subst e; subst hb
        refine wpAny_bind (wpAny_holding (wpAny_truthy_bool ?_))
        refine wpAny_bind (wpAny_letGo ?_)
        simp only [if_true]
        exact wpAny_bind (wpAny_rule (wpAny_pure (hR true H' s1 I1 (.inl ⟨rfl, ys, py⟩))))
      · exact wpAny_bind (wpAny_rule (wpAny_pure (hR false H' s1 I1 (.inr ⟨rfl, ys, pd⟩))))
    · refine codeAny_builtin F.entry_all_loop ?_
      rw [Around.under_plainId F.plain_all_loop _]
      show wpAny _ A.in1 (pyNext (.ref a) >>= _) _ _ s
      refine wpAny_bind (key _ _ (fun v s1 ⟨b, ys, H', e, I1, py, hb⟩ => ?_) fun s1 ⟨ys, H', I1, pd⟩ => ?_)
      · subst e; subst hb
        refine wpAny_bind (wpAny_holding (wpAny_truthy_bool ?_))
        refine wpAny_bind (wpAny_letGo ?_)
        simp only [Bool.false_eq_true, if_false]
        exact wpAny_bind (wpAny_rule (wpAny_pure (hR false H' s1 I1 (.inl ⟨rfl, ys, py⟩))))
      · exact wpAny_bind (wpAny_rule (wpAny_pure (hR true H' s1 I1 (.inr ⟨rfl, ys, pd⟩))))
  | succ m ih =>
    intro s hg ha hl ⟨gs, hgs, hgo⟩
    have key : ∀ (Q : Option Value → Shared → Prop) (E : Value → Shared → Prop), (∀ v s1, (∃ b ys H', v = .bool b ∧ Inv X pins σ H' s1 ∧ Py ys (.bl b) H' ∧ (b = b0 ∨ (b = (!b0) ∧ codeAny (model X.prog X.w) A (.builtin nm ⟨[.ref a], []⟩) R s1))) → Q (some v) s1) → (∀ s1, (∃ ys H', Inv X pins σ H' s1 ∧ Pd ys H') → Q none s1) → wpAny (model X.prog X.w) A.in1 (pyNext (.ref a)) Q E s := fun Q E h1 h2 => by
      refine next_X (A := A.in1) hh hd hl hg hgs hgo (fun ys y v H' o s1 gs' _ rv I1 eS rs _ hg1 hgs1 py hk => ?_) fun ys H' o s1 _ I1 _ _ _ pd => h2 s1 ⟨ys, H', I1, pd⟩
      obtain ⟨b, rfl⟩ := hPy ys y H' py
      have rv' : v = .bool b := rv
      by_cases hb : b = b0
      · exact h1 v s1 ⟨b, ys, H', rv', I1, py, .inl hb⟩
      · have hb' : b = (!b0) := by cases b <;> cases b0 <;> simp_all
        obtain ⟨m', hm, hgo'⟩ := hk s1 ⟨by rw [hb'], rfl, I1.bare, fun _ _ _ e => e, fun ys o r e => ⟨o, e, r⟩⟩
        cases hm
        exact h1 v s1 ⟨b, ys, H', rv', I1, py, .inr ⟨hb', ih s1 hg1 (by rw [eS, rs]) I1.nolimit ⟨gs', hgs1, hgo'⟩⟩⟩
    rcases hnm with ⟨rfl, rfl⟩ | ⟨rfl, rfl⟩
    · refine codeAny_builtin F.entry_any_loop ?_
      rw [Around.under_plainId F.plain_any_loop _]
      show wpAny _ A.in1 (pyNext (.ref a) >>= _) _ _ s
      refine wpAny_bind (key _ _ (fun v s1 ⟨b, ys, H', e, I1, py, hb⟩ => ?_) fun s1 ⟨ys, H', I1, pd⟩ => ?_)
      · subst e
        refine wpAny_bind (wpAny_holding (wpAny_truthy_bool ?_))
        refine wpAny_bind (wpAny_letGo ?_)
        rcases hb with hb | ⟨hb, again⟩
        · subst hb
          simp only [if_true]
          exact wpAny_bind (wpAny_rule (wpAny_pure (hR true H' s1 I1 (.inl ⟨rfl, ys, py⟩))))
        · subst hb
          simp only [Bool.not_true, Bool.false_eq_true, if_false]
          exact wpAny_pure ⟨plainId_quiet F.plain_any_loop _, again⟩
      · exact wpAny_bind (wpAny_rule (wpAny_pure (hR false H' s1 I1 (.inr ⟨rfl, ys, pd⟩))))
    · refine codeAny_builtin F.entry_all_loop ?_
      rw [Around.under_plainId F.plain_all_loop _]
      show wpAny _ A.in1 (pyNext (.ref a) >>= _) _ _ s
      refine wpAny_bind (key _ _ (fun v s1 ⟨b, ys, H', e, I1, py, hb⟩ => ?_) fun s1 ⟨ys, H', I1, pd⟩ => ?_)
      · subst e
        refine wpAny_bind (wpAny_holding (wpAny_truthy_bool ?_))
        refine wpAny_bind (wpAny_letGo ?_)
        rcases hb with hb | ⟨hb, again⟩
        · subst hb
          simp only [Bool.false_eq_true, if_false]
          exact wpAny_bind (wpAny_rule (wpAny_pure (hR false H' s1 I1 (.inl ⟨rfl, ys, py⟩))))
        · subst hb
          simp only [Bool.not_false, if_true]
          exact wpAny_pure ⟨plainId_quiet F.plain_all_loop _, again⟩
      · exact wpAny_bind (wpAny_rule (wpAny_pure (hR true H' s1 I1 (.inr ⟨rfl, ys, pd⟩))))
theorem call_anyX {k : Nat} {u : Value} {z : Shared} {Q : Value → Shared → Prop} (hr : Room (k + 3) A) (hfr : A.frames = some X.stack) (hPy : ∀ ys y H', Py ys y H' → ∃ b, y = .bl b) (M : MadeX X k pins σ (fun y => y = .bl false) Py Pd u z)
    (hQ : ∀ b H' s', Inv X pins σ H' s' → ((b = true ∧ ∃ ys, Py ys (.bl true) H') ∨ (b = false ∧ ∃ ys, Pd ys H')) → Q (.bool b) s') : wpAny (model X.prog X.w) A (call (.builtin "any") [u]) Q E z := by
  obtain ⟨a, gi, c, go, H0, rfl, I0, ha, hgen, hcell, hgs, hn, wake⟩ := M
  refine call_function_tree F.kind_any F.plain_any F.entry_any (F.args_any1 _) ?_
  unfold Builtin.«any»
  refine wpAny_bind (m := oneArg "any" _) (wpAny_pure ?_)
  refine wpAny_bind (wpAny_pyIter_gen (hgen _ ha) ?_)
  refine wpAny_pure ⟨plainId_quiet F.plain_any_loop _, any_loopX (X := X) (A := A) (pins := pins) (σ := σ) (gi := gi) (go := go) (b0 := true) (Py := Py) (Pd := Pd) (.inl ⟨rfl, rfl⟩) hr.hd (by have := hr.dp; omega) (fun b H' s' I' h => hQ b H' s' I' ?_) hPy sizeLine z (hgen _ ha) ha I0.nolimit ⟨_, hgs, ?_⟩⟩
  · rcases h with ⟨h1, ys, h2⟩ | ⟨h1, h2⟩
    · subst h1; exact .inl ⟨rfl, ys, h2⟩
    · exact .inr ⟨h1, h2⟩
  · refine ⟨rfl, wake A.in1.in1 a (fun _ o => o = go) (z.setGen gi .running) go ((hr.mono (by omega : k + 2 ≤ k + 3)).in1.in1) hfr (.inl ⟨rfl, fun _ _ h => h⟩) (fun _ o h => by rw [h]; exact hcell) (fun _ _ e => e) ha rfl rfl (allBare_setGen I0.bare rfl)⟩
theorem call_allX {k : Nat} {u : Value} {z : Shared} {Q : Value → Shared → Prop} (hr : Room (k + 3) A) (hfr : A.frames = some X.stack) (hPy : ∀ ys y H', Py ys y H' → ∃ b, y = .bl b) (M : MadeX X k pins σ (fun y => y = .bl true) Py Pd u z)
    (hQ : ∀ b H' s', Inv X pins σ H' s' → ((b = false ∧ ∃ ys, Py ys (.bl false) H') ∨ (b = true ∧ ∃ ys, Pd ys H')) → Q (.bool b) s') : wpAny (model X.prog X.w) A (call (.builtin "all") [u]) Q E z := by
  obtain ⟨a, gi, c, go, H0, rfl, I0, ha, hgen, hcell, hgs, hn, wake⟩ := M
  refine call_function_tree F.kind_all F.plain_all F.entry_all (F.args_all1 _) ?_
  unfold Builtin.«all»
  refine wpAny_bind (m := oneArg "all" _) (wpAny_pure ?_)
  refine wpAny_bind (wpAny_pyIter_gen (hgen _ ha) ?_)
  refine wpAny_pure ⟨plainId_quiet F.plain_all_loop _, any_loopX (X := X) (A := A) (pins := pins) (σ := σ) (gi := gi) (go := go) (b0 := false) (Py := Py) (Pd := Pd) (.inr ⟨rfl, rfl⟩) hr.hd (by have := hr.dp; omega) (fun b H' s' I' h => hQ b H' s' I' ?_) hPy sizeLine z (hgen _ ha) ha I0.nolimit ⟨_, hgs, ?_⟩⟩
  · rcases h with ⟨h1, ys, h2⟩ | ⟨h1, h2⟩
    · subst h1; exact .inl ⟨rfl, ys, h2⟩
    · exact .inr ⟨h1, h2⟩
  · refine ⟨rfl, wake A.in1.in1 a (fun _ o => o = go) (z.setGen gi .running) go ((hr.mono (by omega : k + 2 ≤ k + 3)).in1.in1) hfr (.inl ⟨rfl, fun _ _ h => h⟩) (fun _ o h => by rw [h]; exact hcell) (fun _ _ e => e) ha rfl rfl (allBare_setGen I0.bare rfl)⟩
/-! ### drained into a list -/
def RSL : OwnR := fun ys o => ∃ (acc : Array Value) (c : Nat), o = lstObj acc c ∧ Vals ys acc.toList
theorem drainX {R : Result → Shared → Prop} {S : Addr} {res : Value} (hh : A.handled = none) (hd : A.depth < recursionLimit) (hSa : S ≠ a)
    (hend : ∀ s' acc c H' ys, s'.heap.get? S = some (lstObj acc c) → Vals ys acc.toList → ys.length ≤ sizeLine → Inv X pins σ H' s' → H' S = none → Pd ys H' → R (.ok (.ret res)) s') :
    ∀ (m : Nat) (s : Shared), s.heap.IsGen a gi → s.heap.NoLimit →
      (∃ gs, s.gens[gi]? = some gs ∧ GoesX X A.in1.in1 pins σ S a gi RSL (fun _ => True) Py Pd gs m s) →
      codeAny (model X.prog X.w) A (.builtin "list.extend.loop" ⟨[.ref S, .ref a, res], []⟩) R s := by
  intro m
  induction m with
  | zero =>
    intro s hg hl ⟨gs, hgs, hgo⟩
    refine codeAny_builtin F.entry_extend_loop ?_
    rw [Around.under_plainId F.plain_extend_loop _]
    show wpAny _ A.in1 (pyNext (.ref a) >>= _) _ _ s
    refine wpAny_bind (next_X (A := A.in1) hh hd hl hg hgs hgo (fun ys y v H' o s1 gs' _ rv I1 eS rs _ _ _ py hk => ?_) fun ys H' o s1 hle I1 eS rs hS0 pd => ?_)
    · obtain ⟨acc, c, rfl, r⟩ := rs
      have I2 := I1
      obtain ⟨m, hm, _⟩ := hk { s1 with heap := s1.heap.update S (Obj.mapSeq (·.push v)) } ⟨trivial, rfl, I1.bare, fun b o hb e => (Heap.get?_update_other _ _ (Ne.symm hb)).trans e, fun ys o r e => by
        obtain ⟨acc', c', rfl, r'⟩ := r
        exact ⟨_, Heap.get?_update_self _ e rfl, acc'.push v, _, rfl, by rw [Array.toList_push]; exact r'.append (.cons rv .nil)⟩⟩
      cases hm
    · obtain ⟨acc, c, rfl, r⟩ := rs
      exact wpAny_pure (hend s1 acc c H' ys eS r hle I1 hS0 pd)
  | succ m ih =>
    intro s hg hl ⟨gs, hgs, hgo⟩
    refine codeAny_builtin F.entry_extend_loop ?_
    rw [Around.under_plainId F.plain_extend_loop _]
    show wpAny _ A.in1 (pyNext (.ref a) >>= _) _ _ s
    refine wpAny_bind (next_X (A := A.in1) hh hd hl hg hgs hgo (fun ys y v H' o s1 gs' hn rv I1 eS rs hS0 hg1 hgs1 py hk => ?_) fun ys H' o s1 hle I1 eS rs hS0 pd => ?_)
    · obtain ⟨acc, c, rfl, r⟩ := rs
      have hsz : acc.size < sizeLine := by
        have e1 := r.length
        have e2 : acc.toList.length = acc.size := by simp
        omega
      obtain ⟨m', hm, hgo'⟩ := hk { s1 with heap := s1.heap.update S (Obj.mapSeq (·.push v)) } ⟨trivial, rfl, I1.bare, fun b o hb e => (Heap.get?_update_other _ _ (Ne.symm hb)).trans e, fun ys o r e => by
        obtain ⟨acc', c', rfl, r'⟩ := r
        exact ⟨_, Heap.get?_update_self _ e rfl, acc'.push v, _, rfl, by rw [Array.toList_push]; exact r'.append (.cons rv .nil)⟩⟩
      cases hm
      show wpAny _ A.in1 (updateSeq S (·.push v) >>= _) _ _ _
      refine wpAny_bind ?_
      have keep3 : ∀ b o, b ≠ S → s1.heap.get? b = some o → (s1.heap.update S (Obj.mapSeq (·.push v))).get? b = some o := fun b o hbS e => (Heap.get?_update_other _ _ (Ne.symm hbS)).trans e
      refine wpAny_updateSeq eS rfl (wpAny_pure ⟨plainId_quiet F.plain_extend_loop _, ih _ ?_ ?_ ⟨gs', hgs1, hgo'⟩⟩) (Nat.le_of_lt hsz) (by show (acc.push v).size ≤ sizeLine + 1; rw [Array.size_push]; omega)
      · obtain ⟨o, nm, qn, ho, r⟩ := hg1
        exact ⟨o, nm, qn, keep3 a o (Ne.symm hSa) ho, r⟩
      · have hcS : cStatics ≠ S := fun z => by
          obtain ⟨mc, ⟨ow, es, ep, ho, hdd, _⟩, _⟩ := I1.nolimit
          rw [z, eS] at ho
          cases ho
          cases hdd
        obtain ⟨mc, hns, hnn⟩ := I1.nolimit
        exact ⟨mc, hns.at' fun o e => keep3 _ o hcS e, hnn⟩
    · obtain ⟨acc, c, rfl, r⟩ := rs
      exact wpAny_pure (hend s1 acc c H' ys eS r hle I1 hS0 pd)
/-- the generator's items, in order -/
theorem collectX {k : Nat} {u : Value} {z : Shared} {Q : List Value → Shared → Prop} (hr : Room (k + 4) A) (hfr : A.frames = some X.stack) (M : MadeX X k pins σ (fun _ => True) Py Pd u z)
    (hQ : ∀ us H' ys s', Inv X pins σ H' s' → Vals ys us → ys.length ≤ sizeLine → Pd ys H' → Q us s') : wpAny (model X.prog X.w) A (collect u) Q E z := by
  obtain ⟨a, gi, c, go, H0, rfl, I0, ha, hgen, hcell, hgs, hn, wake⟩ := M
  have hlt : a < z.heap.objs.size := Heap.lt_size ha
  have hSa : z.heap.objs.size ≠ a := Nat.ne_of_gt hlt
  unfold collect
  refine wpAny_bind (wpAny_runValue (codeAny_builtin F.entry_proto_collect ?_))
  rw [Around.under_plainId F.plain_proto_collect _]
  show wpAny _ A.in1 (newList [] >>= fun l => again (.builtin "list.__iadd__" ⟨[l, .ref a], []⟩)) _ _ z
  refine wpAny_bind (wpAny_newObj_type ?_)
  refine wpAny_pure ⟨plainId_quiet F.plain_list_iadd _, codeAny_builtin F.entry_list_iadd ?_⟩
  rw [Around.under_plainId F.plain_list_iadd _]
  have k1 : ∀ b o, z.heap.get? b = some o → (z.heap.push { cls := .type "list", data := .seq ([] : List Value).toArray }).get? b = some o := fun b o e => Heap.get?_push_of_some _ e
  have hg1 := hgen _ (k1 _ _ ha)
  show wpAny _ A.in1 (Builtin.List.listExtendWith (.ref z.heap.objs.size) (.ref a) (.ref z.heap.objs.size)) _ _ _
  unfold Builtin.List.listExtendWith
  refine wpAny_bind (wpAny_typeOf (Heap.IsGen.typeIs (s := { z with heap := _ }) hg1) ?_)
  have h1 : Builtin.List.listSameRef (.ref z.heap.objs.size) (.ref a) = false := by simp [Builtin.List.listSameRef, hSa]
  have h2 : (Value.type "generator" == Value.type "list") = false := by decide
  have h3 : (Value.type "generator" == Value.type "tuple") = false := by decide
  simp only [h1, h2, h3, Bool.or_false, Bool.false_eq_true, if_false]
  refine wpAny_bind (wpAny_pyIter_gen (s := { z with heap := _ }) hg1 ?_)
  refine wpAny_bind (wpAny_holding ?_)
  unfold Builtin.List.listLengthHint
  refine wpAny_bind (wpAny_specialOf (Heap.IsGen.typeIs (s := { z with heap := _ }) hg1) F.gen_no_len ?_)
  show wpAny _ A.in1 (specialOf (Value.ref a) (Str.ofString "__length_hint__") >>= _) _ _ _
  refine wpAny_bind (wpAny_specialOf (Heap.IsGen.typeIs (s := { z with heap := _ }) hg1) F.gen_no_hint ?_)
  refine wpAny_pure ?_
  show wpAny _ A.in1 (rule "list.extend.makes-room" >>= fun _ => Builtin.List.listTouch (.ref z.heap.objs.size) >>= fun _ =>
    again (.builtin "list.extend.loop" ⟨[.ref z.heap.objs.size, .ref a, .ref z.heap.objs.size], []⟩)) _ _ _
  refine wpAny_bind (wpAny_rule ?_)
  have hS₁ : (z.heap.push { cls := .type "list", data := .seq ([] : List Value).toArray }).get? z.heap.objs.size = some { cls := .type "list", data := .seq ([] : List Value).toArray } := Heap.get?_push_size _ rfl
  refine wpAny_bind ?_
  show wpAny _ A.in1 (updateSeq z.heap.objs.size (·.push .none) >>= fun _ => updateSeq z.heap.objs.size (·.pop)) _ _ _
  refine wpAny_bind (wpAny_updateSeq hS₁ rfl ?_)
  have hS₂ := Heap.get?_update_self (Obj.mapSeq (·.push Value.none)) hS₁ rfl
  refine wpAny_updateSeq hS₂ rfl ?_
  have hS₃ := Heap.get?_update_self (Obj.mapSeq (·.pop)) hS₂ rfl
  have oth : ∀ b o, z.heap.get? b = some o →
      (((z.heap.push { cls := .type "list", data := .seq ([] : List Value).toArray }).update z.heap.objs.size (Obj.mapSeq (·.push Value.none))).update z.heap.objs.size (Obj.mapSeq (·.pop))).get? b = some o :=
    fun b o e => by
      have hb : b ≠ z.heap.objs.size := Nat.ne_of_lt (Heap.lt_size e)
      exact (Heap.get?_update_other _ _ (Ne.symm hb)).trans ((Heap.get?_update_other _ _ (Ne.symm hb)).trans (k1 b o e))
  refine wpAny_pure ⟨plainId_quiet F.plain_extend_loop _, drainX (X := X) (A := A) (pins := pins) (σ := σ) (gi := gi) (a := a) (Py := Py) (Pd := Pd) (S := z.heap.objs.size) hr.hd (by have := hr.dp; omega) hSa (fun s' acc cc H' ys hS' hv hle I' hS0 pd => ?_) sizeLine _ (hgen _ (oth _ _ ha)) (I0.nolimit.keeps oth) ⟨_, hgs, rfl, ?_⟩⟩
  · show wpAny _ A (load z.heap.objs.size >>= _) _ _ s'
    refine wpAny_bind (wpAny_load hS' ?_)
    exact wpAny_pure (hQ acc.toList H' ys s' I' hv hle pd)
  · exact wake A.in1.in1 z.heap.objs.size RSL _ _ ((hr.mono (by omega : k + 2 ≤ k + 4)).in1.in1) hfr (.inr (Nat.le_refl _)) (fun ys o h v => by obtain ⟨acc, c, rfl, _⟩ := h; intro q; cases q) oth hS₃ ⟨#[], _, rfl, .nil⟩ rfl (allBare_setGen I0.bare rfl)
end
end Ph
namespace Ph
open PySem PySem.Spec PyProof.Rows L2 GenW
section
variable {X : Cx} {pins : List (Addr × Obj)} {σ : L2.St}
theorem call_tupX {A : Around} {E : Value → Shared → Prop} {k : Nat} {u : Value} {z : Shared} {Py : List V → V → Hp → Prop} {Pd : List V → Hp → Prop} {Q : Value → Shared → Prop} (hr : Room (k + 6) A) (hfr : A.frames = some X.stack) (M : MadeX X k pins σ (fun _ => True) Py Pd u z)
    (hQ : ∀ l H' ys s', H' l = none → Inv X pins σ (upd H' l (.tup ys)) s' → ys.length ≤ sizeLine → Pd ys H' → Q (.ref l) s') : wpAny (model X.prog X.w) A (call (.type "tuple") [u]) Q E z := by
  have M' := M
  obtain ⟨a, gi, c, go, H0, rfl, I0, ha, hgen, hcell, hgs, hn, wake⟩ := M'
  have code : codeAny (model X.prog X.w) A.in1 (.call (.builtin "tuple.__new__") ⟨[.type "tuple", .ref a], []⟩) (wants (fun obj s₁ => s₁.TypeIs obj "tuple" ∧ Q obj s₁) E) z := by
    refine codeAny_of_tree ?_
    show wpAny _ A.in1.in1 (do checkBuiltinCall "tuple.__new__" ⟨[.type "tuple", .ref a], []⟩; again (.builtin "tuple.__new__" ⟨[.type "tuple", .ref a], []⟩)) _ _ z
    refine wpAny_bind (wpAny_of_eq (F.newCall_tuple_1 _) (wpAny_pure ⟨plainId_quiet F.plain_tuple_new _, codeAny_builtin F.entry_tuple_new ?_⟩))
    rw [Around.under_plainId F.plain_tuple_new _]
    have hsub := sub_tuple_self
    have hinit := init_tuple_lookup
    have hmh := madeHere_tuple
    have hTI : z.TypeIs (.ref a) "generator" := Heap.IsGen.typeIs (hgen _ ha)
    wp_walk using wpAny_typeOf hTI, collectX (X := X) (pins := pins) (σ := σ) (k := k) (Py := Py) (Pd := Pd) (show Room (k + 4) A.in1.in1 from hr.in1.in1) hfr M
    intro us H' ys s' I' hv hle pd
    show wpAny _ _ (Builtin.Tuple.tupleExact us.toArray >>= fun v => ret v) _ _ _
    unfold Builtin.Tuple.tupleExact
    refine wpAny_bind (wpAny_newObj_type ?_ (by show us.toArray.size ≤ sizeLine; rw [List.size_toArray, ← hv.length]; exact hle))
    refine wpAny_pure ?_
    refine ⟨⟨_, Heap.get?_push_size _ rfl, rfl⟩, hQ s'.heap.objs.size H' ys _ (I'.hok.fresh (Nat.le_refl _)) (I'.laid (t' := s'.toks) (fun b o e => Heap.get?_push_of_some _ e) (Nat.le_refl _) (show ObjOk X.prog X.w _ _ _ (.tup ys) from ⟨hle, us, hv, IsTup.new _ _⟩)) hle pd⟩
  refine callType_codes (Q₁ := fun obj s₁ => s₁.TypeIs obj "tuple" ∧ Q obj s₁) F.called_tuple (F.typeCall_tuple_1 _) F.entry_object_init code fun obj s₁ h₁ => ?_
  exact ⟨h₁.1, F.args_object_init_2 obj _, object_init_meets F.called_tuple.init.lookup F.called_tuple.made (by decide) X.prog X.w A.in1 _ s₁ ⟨h₁.1, rfl, h₁.2⟩⟩
end
/-- any (b0 = true), all (b0 = false) -/
def tAnyX (b0 : Bool) (P : Addr) (wi : TI) (g : TG) (tt : TT) (te : TE) (vs : List Nat) : TE := fun σ H Q =>
  tGenX P wi g tt te vs (fun y => y = .bl (!b0)) (fun _ y H' => ∃ b, y = .bl b ∧ (b = b0 → Q (.bl b0) H')) (fun _ H' => Q (.bl (!b0)) H') σ H
def tTupX (P : Addr) (wi : TI) (g : TG) (tt : TT) (te : TE) (vs : List Nat) : TE := fun σ H Q =>
  tGenX P wi g tt te vs (fun _ => True) (fun _ _ _ => True) (fun ys H' => ∀ l, H' l = none → Q (.ref l) (upd H' l (.tup ys))) σ H
section
variable {X : Cx} {c P : Addr} {elt tg iter : Expr} {ifs : List Expr} {scope : Scope} {own : List (Str × Nat)} {p pos gpos : Pos} {wi : TI} {g : TG} {tt : TT} {te : TE} {k : Nat}
/-- the parts of a generator expression within X -/
structure GenP (X : Cx) (k : Nat) (c P : Addr) (elt tg iter : Expr) (ifs : List Expr) (scope : Scope) (own : List (Str × Nat)) (wi : TI) (g : TG) (tt : TT) (te : TE) : Prop where
  hr : Room (k + 7) X.A
  hc : X.calm = true
  hN : X.N.Nodup
  TB : GxR.TabB X.base X.mg c P
  hcode : X.env.code = .ref c
  S : GenSX scope
  hi : PI X tg iter wi
  ok : BlkOk X.N X.env.scope scope own
  hg : ∀ (A : Around) (s : Shared) (H : Hp) (C : Addr) (code : Value) (fp : List Addr) (pn : List (Addr × Obj)), Room k A → PG (gxOf X A s H (gxEnv X scope C code) fp pn) tg g
  ht : ∀ (A : Around) (s : Shared) (H : Hp) (C : Addr) (code : Value) (fp : List Addr) (pn : List (Addr × Obj)), Room k A → PTs (gxOf X A s H (gxEnv X scope C code) fp pn) ifs tt
  he : ∀ (A : Around) (s : Shared) (H : Hp) (C : Addr) (code : Value) (fp : List Addr) (pn : List (Addr × Obj)), Room k A → PE (gxOf X A s H (gxEnv X scope C code) fp pn) elt te
  hs : ∀ v, genFold iter X.env v = pure v
theorem Inv.frames {pins : List (Addr × Obj)} {σ : L2.St} {H : Hp} {s : Shared} (I : Inv X pins σ H s) : X.A.frames = some X.stack := I.ok.frames
theorem pe_anyX (G : GenP X k c P elt tg iter ifs scope own wi g tt te) (hg : Gl X "any") (hm : X.mg "any" = none)
    (he : starEach [gexp elt tg iter ifs scope gpos] X.env = (false, eval (gexp elt tg iter ifs scope gpos) X.env) :: starEach [] X.env := by rfl) :
    PE X (.Call (.Name "any" p) [gexp elt tg iter ifs scope gpos] [] pos) (tAnyX true P wi g tt te (own.map (·.2))) := by
  refine ⟨fun pins s σ H Q I h => ?_⟩
  refine wpAny_Call_Name_kw (ld_blt I hg hm boot_any (PyProof.Rows.callWith_builtin1 ?_ he (by rfl)))
  rw [he]
  show wpAny _ _ (spliced ((false, eval (gexp elt tg iter ifs scope gpos) X.env) :: backTo pos (starEach [] X.env))) _ _ s
  refine Calls.spliced_cons (gen_made (k := k) (G.hr.mono (by omega)) G.hc G.hN G.TB G.hcode G.S G.hi G.ok G.hg G.ht G.he G.hs I h fun u z M => ?_)
  refine Calls.spliced_nil (call_anyX (X := X) (A := X.A) (k := k + 1) (G.hr.mono (by omega)) I.ok.frames (fun ys y H' h => h.imp fun _ z => z.1) M fun b H' s' I' h => ?_)
  rcases h with ⟨rfl, ys, b, e, h2⟩ | ⟨rfl, ys, h2⟩
  · cases e
    exact ⟨.bl true, H', I', rfl, h2 rfl⟩
  · exact ⟨.bl false, H', I', rfl, h2⟩
theorem pe_allX (G : GenP X k c P elt tg iter ifs scope own wi g tt te) (hg : Gl X "all") (hm : X.mg "all" = none)
    (he : starEach [gexp elt tg iter ifs scope gpos] X.env = (false, eval (gexp elt tg iter ifs scope gpos) X.env) :: starEach [] X.env := by rfl) :
    PE X (.Call (.Name "all" p) [gexp elt tg iter ifs scope gpos] [] pos) (tAnyX false P wi g tt te (own.map (·.2))) := by
  refine ⟨fun pins s σ H Q I h => ?_⟩
  refine wpAny_Call_Name_kw (ld_blt I hg hm (show bootBuiltins "all" = some (.builtin "all") from by kernel_rfl) (PyProof.Rows.callWith_builtin1 ?_ he (by rfl)))
  rw [he]
  show wpAny _ _ (spliced ((false, eval (gexp elt tg iter ifs scope gpos) X.env) :: backTo pos (starEach [] X.env))) _ _ s
  refine Calls.spliced_cons (gen_made (k := k) (G.hr.mono (by omega)) G.hc G.hN G.TB G.hcode G.S G.hi G.ok G.hg G.ht G.he G.hs I h fun u z M => ?_)
  refine Calls.spliced_nil (call_allX (X := X) (A := X.A) (k := k + 1) (G.hr.mono (by omega)) I.ok.frames (fun ys y H' h => h.imp fun _ z => z.1) M fun b H' s' I' h => ?_)
  rcases h with ⟨rfl, ys, b, e, h2⟩ | ⟨rfl, ys, h2⟩
  · cases e
    exact ⟨.bl false, H', I', rfl, h2 rfl⟩
  · exact ⟨.bl true, H', I', rfl, h2⟩
theorem pe_tupX (G : GenP X k c P elt tg iter ifs scope own wi g tt te) (hg : Gl X "tuple") (hm : X.mg "tuple" = none)
    (he : starEach [gexp elt tg iter ifs scope gpos] X.env = (false, eval (gexp elt tg iter ifs scope gpos) X.env) :: starEach [] X.env := by rfl) :
    PE X (.Call (.Name "tuple" p) [gexp elt tg iter ifs scope gpos] [] pos) (tTupX P wi g tt te (own.map (·.2))) := by
  refine ⟨fun pins s σ H Q I h => ?_⟩
  refine wpAny_Call_Name_kw (ld_blt I hg hm (show bootBuiltins "tuple" = some (.type "tuple") from by kernel_rfl) (PyProof.Rows.callWith_type1 ?_ he rfl))
  rw [he]
  show wpAny _ _ (spliced ((false, eval (gexp elt tg iter ifs scope gpos) X.env) :: backTo pos (starEach [] X.env))) _ _ s
  refine Calls.spliced_cons (gen_made (k := k) (G.hr.mono (by omega)) G.hc G.hN G.TB G.hcode G.S G.hi G.ok G.hg G.ht G.he G.hs I h fun u z M => ?_)
  exact Calls.spliced_nil (call_tupX (X := X) (A := X.A) (k := k + 1) G.hr I.ok.frames M fun l H' ys s' hl I' hle h => ⟨.ref l, _, I', rfl, h l hl⟩)
end
end Ph
namespace Ph
open PySem PySem.Spec PyProof.Rows L2 GenW
theorem wipe_keep {σ : L2.St} {j : Nat} : ∀ {vs : List Nat}, j ∉ vs → (wipe σ vs)[j]? = σ[j]?
  | [], _ => rfl
  | v :: vs, h => by
    unfold wipe
    rw [List.getElem?_set_ne (fun e => h (by rw [e]; exact List.mem_cons_self))]
    exact wipe_keep fun m => h (List.mem_cons_of_mem _ m)
abbrev gex2 (elt t0 i0 t1 i1 : Expr) (ifs0 ifs1 : List Expr) (scope : Scope) (pos : Pos) : Expr := gexN elt t0 i0 ifs0 [⟨t1, i1, ifs1, 0⟩] scope pos
theorem genTurn2_out (elt t0 i0 t1 i1 : Expr) (ifs0 ifs1 : List Expr) (scope : Scope) (pos : Pos) (it acc : Value) (env : Env) :
    compTurn (gex2 elt t0 i0 t1 i1 ifs0 ifs1 scope pos) 0 it acc env = (do
      standAt i0.pos
      match ← pyNext it with
      | none => pure (.done .next)
      | some v =>
        letOwnedTupleGo t0 it v
        assign t0 env v
        let mut ok := true
        for c in ifs0 do
          if ok then ok ← isTrue c env (eval c env)
        if ok then
          let x ← eval i1 env
          standAt i1.pos
          let x ← foldedSetIterable i1 env x
          let _ ← runOwn (.compStart (gex2 elt t0 i0 t1 i1 ifs0 ifs1 scope pos) 1 (← holding [x] (pyIter x)) acc env) env
        again (.compLoop (gex2 elt t0 i0 t1 i1 ifs0 ifs1 scope pos) 0 it acc env)) := by rfl
theorem genTurn2_in (elt t0 i0 t1 i1 : Expr) (ifs0 ifs1 : List Expr) (scope : Scope) (pos : Pos) (it acc : Value) (env : Env) :
    compTurn (gex2 elt t0 i0 t1 i1 ifs0 ifs1 scope pos) 1 it acc env = (do
      standAt i1.pos
      match ← pyNext it with
      | none => pure (.done .next)
      | some v =>
        letOwnedTupleGo t1 it v
        assign t1 env v
        let mut ok := true
        for c in ifs1 do
          if ok then ok ← isTrue c env (eval c env)
        if ok then
          (do let v ← eval elt env; standAt elt.pos; let _ ← yieldOut env v)
        again (.compLoop (gex2 elt t0 i0 t1 i1 ifs0 ifs1 scope pos) 1 it acc env)) := by rfl
section
variable {Y : Cx} {S : Addr} {RS : OwnR} {ip : List (Addr × Obj)} {fp : List Addr} {Aw : Around} {elt t0 i0 t1 i1 : Expr} {ifs0 ifs1 : List Expr} {scope : Scope} {pos : Pos} {it : Addr} {tn : Nat → Heap → Prop} {J : It} {g : TG} {tt : TT} {te : TE} {vs : List Nat} {σ : L2.St}
  {Cy : V → Prop} {Py : List V → V → Hp → Prop} {Pd : List V → Hp → Prop} {W : Nat → Nat → List V → Hp → Prop} {R : GenEnd} {YP : Protocol}
/-- the loop of the second for, over the first one's frame -/
theorem seg_g1 {k1 : Result → Sem PySem.Fin} {c0 : Code} {p0 : Pos} (hY0 : Y.xe = fun _ _ => False) (hov : Aw.over (.compLoop (gex2 elt t0 i0 t1 i1 ifs0 ifs1 scope pos) 1 (.ref it) .none Y.env) [.ret k1 none false [] c0 p0 []] = Y.A) (hc : Y.calm = true) (hco : Y.env.scope.isCoroutine = false) (T : Turn Y.prog Y.w Y.K t1 J fp it tn) (pg : PG Y t1 g) (pt : PTs Y ifs1 tt) (pe : PE Y elt te)
    (hturn : GW J g tt te vs σ Cy Py Pd W) (hRS : ∀ ys o, RS ys o → ∀ v, o.data ≠ .cell v) (hpn : ∀ p ∈ Y.pn ++ ip, p.1 ≠ S) (hA : Apart Y S)
    (hfp : ∀ b ∈ fp, b ≠ S ∧ b ≠ Y.env.locals ∧ b ∉ Y.fs ∧ (b ∈ Y.ex ∨ Y.s_0.heap.objs.size ≤ b) ∧ (∀ x c, Y.env.cells.lookup x = some c → c ≠ b) ∧ ∀ p ∈ Y.pn ++ ip, p.1 ≠ b)
    (hR : ∀ n s₀ ys H' s', n + ys.length = sizeLine → GIR Y S RS ip ys (wipe σ vs) H' s' → Pd ys H' → Seg (model Y.prog Y.w) Aw R YP n s₀ c0 (k1 (.ok .next)) [] s')
    (hY : ∀ n s₀ ys y v ip σ' H' s' kap, n + 1 + ys.length = sizeLine → RelV y v → GIR Y S RS ip ys σ' H' s' → Py ys y H' → (∀ s'', SleptR S RS Cy y s' s'' → kap (.send .none) s'') → YP n s₀ v s' kap) :
    ∀ (m i n : Nat) (ys : List V) (s₀ s : Shared) (H : Hp), n + ys.length = sizeLine → W i m ys H → tn i s.heap → (∀ b ∈ fp, H b = none) → GIR Y S RS ip ys (wipe σ vs) H s →
      Seg (model Y.prog Y.w) Aw R YP n s₀ (.compLoop (gex2 elt t0 i0 t1 i1 ifs0 ifs1 scope pos) 1 (.ref it) .none Y.env) ((model Y.prog Y.w).den (.compLoop (gex2 elt t0 i0 t1 i1 ifs0 ifs1 scope pos) 1 (.ref it) .none Y.env)) [.ret k1 none false [] c0 p0 []] s := by
  intro m
  induction m using Nat.strongRecOn with
  | ind m ih =>
    intro i n ys s₀ s H hn w5 st5 n5 hG
    obtain ⟨ob, rs, I5⟩ := hG
    have stat : ∀ {σ' : L2.St} {H' : Hp} {s' : Shared} {o' : Obj}, Inv Y ((S, o') :: ip) σ' H' s' → (∀ b ∈ fp, H' b = none) → ∀ b ∈ fp, FpOk Y ((S, o') :: ip) H' b := fun {σ' H' s' o'} I' hn b hb => by
      obtain ⟨q1, q2, q3, q4, q5, q6⟩ := hfp b hb
      refine ⟨hn b hb, q2, q3, q4, q5, fun p hp => ?_⟩
      rcases List.mem_append.mp hp with z | z
      · exact q6 p (List.mem_append_left _ z)
      · rcases List.mem_cons.mp z with z | z
        · rw [z]; exact Ne.symm q1
        · exact q6 p (List.mem_append_right _ z)
    show Seg _ Aw _ _ _ s₀ _ ((compTurn (gex2 elt t0 i0 t1 i1 ifs0 ifs1 scope pos) 1 (.ref it) .none Y.env).onRaise (fun x => do noteFrame x Y.env; theTreesLotGoes x)) [.ret k1 none false [] c0 p0 []] s
    rw [genTurn2_in, Sem.onRaise_eq_wrap]
    refine seg_bind_wrap (wpAny_standAt ?_)
    rcases hturn i m ys H w5 with ⟨stop, qq⟩ | ⟨go, Nx, hNx, step⟩
    · refine seg_bind_wrap ?_
      rw [hov]
      have td := T.done Y rfl rfl rfl hc i _ s _ H (fun _ _ => False) I5 (stat I5 n5) st5 stop
      refine thnF td fun r s6 ⟨hr, I6⟩ => ?_
      subst hr
      exact seg_leaf (.ok .next) (hR n s₀ ys H s6 hn ⟨ob, rs, I6⟩ qq)
    · refine seg_bind_wrap ?_
      rw [hov]
      have ti := T.item Y rfl rfl rfl hc i _ s _ H (fun _ _ => False) I5 (stat I5 n5) st5 go
      refine thnF ti fun r s6 ⟨u, hr, h6⟩ => ?_
      subst hr
      refine seg_bind_wrap ?_
      rw [hov]
      refine thnF h6 fun _ s7 ⟨x, H7, I7, r7, y7, st7, n7⟩ => ?_
      have I7' := I7.pinned (stat I7 n7) (T.obj _ _ st7)
      have run1 := pg.run _ s7 _ H7 x u _ I7' r7 (step x H7 y7)
      rw [hY0] at run1
      refine seg_bind_wrap ?_
      rw [hov]
      refine thnF run1 fun _ s8 ⟨σ8, H8, I8, hw8, q8⟩ => ?_
      have run2 := pt.run _ s8 σ8 H8 _ I8 q8
      rw [hY0] at run2
      refine seg_bind_wrap ?_
      rw [hov]
      refine thnF run2 fun b s9 ⟨H9, I9, q9⟩ => ?_
      have fin : ∀ {s₀ s' : Shared} {H' : Hp} {o' : Obj} {ys' : List V} {n' : Nat}, n' + ys'.length = sizeLine → RS ys' o' → Inv Y (((S, o') :: ip) ++ pinsAt fp s7.heap) σ8 H' s' → Nx ys' H' →
          Seg (model Y.prog Y.w) Aw R YP n' s₀ (.compLoop (gex2 elt t0 i0 t1 i1 ifs0 ifs1 scope pos) 1 (.ref it) .none Y.env) ((model Y.prog Y.w).den (.compLoop (gex2 elt t0 i0 t1 i1 ifs0 ifs1 scope pos) 1 (.ref it) .none Y.env)) [.ret k1 none false [] c0 p0 []] s' := fun {s₀ s' H' o' ys' n'} hn' rs' I' nx => by
        obtain ⟨m', hm, w'⟩ := hNx ys' H' nx
        have pin' : ∀ b ∈ fp, ∀ o, s7.heap.get? b = some o → s'.heap.get? b = some o ∧ H' b = none := fun b hb o e =>
          let z := I'.pin (b, o) (List.mem_append_right _ (List.mem_append_right _ (mem_pinsAt hb e)))
          ⟨z.1, z.2.1⟩
        have hl : (wipe σ vs).length = σ8.length := by rw [← hw8, wipe_length]
        refine ih m' hm (i + 1) n' ys' s₀ s' H' hn' w' (T.keep _ _ _ st7 fun b hb o e => (pin' b hb o e).1) (fun b hb => ?_) ⟨o', rs', (I'.unpinned (pins := (S, o') :: ip)).weak hl (fun j v e => ?_)⟩
        · obtain ⟨o, e, _⟩ := T.obj _ _ st7 b hb
          exact (pin' b hb o e).2
        · rw [← hw8] at e
          exact (wipe_some e).1
      cases b with
      | false =>
        simp only [Bool.false_eq_true, if_false] at q9 ⊢
        exact seg_again rfl (fin hn rs I9 q9)
      | true =>
        simp only [if_true] at q9 ⊢
        have hy : ∀ v, yieldOut Y.env v = yieldValue v := fun v => by simp only [yieldOut, hco, Bool.false_eq_true, if_false]
        simp only [hy]
        rw [Sem.bind_eq_wrap', Sem.bind_eq_wrap', Sem.wrap_wrap, Sem.wrap_wrap]
        have run3 := pe.run _ s9 σ8 H9 _ I9 q9
        rw [hY0] at run3
        refine seg_wrap ?_
        rw [hov]
        refine thnF run3 fun z s10 ⟨yv, H10, I10, r10, hlt, py, nx⟩ => ?_
        obtain ⟨n, rfl⟩ : ∃ k, n = k + 1 := ⟨n - 1, by omega⟩
        have G10 : GIR Y S RS (ip ++ pinsAt fp s7.heap) ys σ8 H10 s10 := ⟨ob, rs, I10⟩
        refine seg_at (seg_yield rfl rfl rfl (hY n s₀ ys yv z _ σ8 H10 s10 _ hn r10 G10 py fun s'' zz => ?_))
        obtain ⟨o', rs', I''⟩ := G10.woken hRS (fun p hp => hpn p (List.mem_append_left _ hp)) (fun p hp => (List.mem_append.mp hp).elim (fun z => hpn p (List.mem_append_right _ z)) fun z => (hfp _ (of_pinsAt z).1).1) hA zz
        refine seg_again rfl (fin (by rw [List.length_append, List.length_singleton]; omega) rs' I'' (nx zz.go))
end
/-- what a turn of the first for does -/
def GW2 (J : It) (g0 : TG) (tt0 : TT) (wi1 : TI) (g1 : TG) (tt1 : TT) (te : TE) (vs vs1 : List Nat) (σ : L2.St) (Cy : V → Prop) (Py : List V → V → Hp → Prop) (Pd : List V → Hp → Prop) (W : Nat → Nat → List V → Hp → Prop) : Prop :=
  ∀ i m ys H, W i m ys H → (J.stop i H ∧ Pd ys H) ∨ (J.go i H ∧ ∃ Nx : List V → Hp → Prop, (∀ ys' H', Nx ys' H' → ∃ m', m' < m ∧ W (i + 1) m' ys' H') ∧ ∀ x H', J.yld i H x H' → g0 x (wipe σ vs) H' fun σ2 H2 => wipe σ2 vs = wipe σ vs ∧ tt0 σ2 H2 fun b H3 =>
    if b = true then wi1 σ2 H3 fun J1 H4 => ∃ W1 : Nat → Nat → List V → Hp → Prop, (∃ m, W1 0 m ys H4) ∧ GW J1 g1 tt1 te vs1 σ2 Cy Py Nx W1 else Nx ys H3)
section
variable {X : Cx} {σ : L2.St} {elt t0 i0 t1 i1 : Expr} {ifs0 ifs1 : List Expr} {scope : Scope} {gpos : Pos} {g0 g1 : TG} {tt0 tt1 : TT} {wi1 : TI} {te : TE} {vs vs1 : List Nat} {k : Nat} {Cy : V → Prop} {Py : List V → V → Hp → Prop} {Pd : List V → Hp → Prop}
theorem loop2 (hc : X.calm = true) (hco : scope.isCoroutine = false) (hsub : ∀ j, j ∈ vs1 → j ∈ vs)
    (hg0 : ∀ (A : Around) (s : Shared) (H : Hp) (C : Addr) (code : Value) (fp : List Addr) (pn : List (Addr × Obj)), Room k A → PG (gxOf X A s H (gxEnv X scope C code) fp pn) t0 g0)
    (ht0 : ∀ (A : Around) (s : Shared) (H : Hp) (C : Addr) (code : Value) (fp : List Addr) (pn : List (Addr × Obj)), Room k A → PTs (gxOf X A s H (gxEnv X scope C code) fp pn) ifs0 tt0)
    (hi1 : ∀ (A : Around) (s : Shared) (H : Hp) (C : Addr) (code : Value) (fp : List Addr) (pn : List (Addr × Obj)), Room k A → PI (gxOf X A s H (gxEnv X scope C code) fp pn) t1 i1 wi1)
    (hg1 : ∀ (A : Around) (s : Shared) (H : Hp) (C : Addr) (code : Value) (fp : List Addr) (pn : List (Addr × Obj)), Room k A → PG (gxOf X A s H (gxEnv X scope C code) fp pn) t1 g1)
    (ht1 : ∀ (A : Around) (s : Shared) (H : Hp) (C : Addr) (code : Value) (fp : List Addr) (pn : List (Addr × Obj)), Room k A → PTs (gxOf X A s H (gxEnv X scope C code) fp pn) ifs1 tt1)
    (he : ∀ (A : Around) (s : Shared) (H : Hp) (C : Addr) (code : Value) (fp : List Addr) (pn : List (Addr × Obj)), Room k A → PE (gxOf X A s H (gxEnv X scope C code) fp pn) elt te)
    (hs1 : ∀ (env : Env) x, foldedSetIterable i1 env x = pure x) :
    LoopX X k σ elt t0 i0 ifs0 [⟨t1, i1, ifs1, 0⟩] scope gpos vs (fun J H2 => ∃ W : Nat → Nat → List V → Hp → Prop, (∃ m, W 0 m [] H2) ∧ GW2 J g0 tt0 wi1 g1 tt1 te vs vs1 σ Cy Py Pd W) Cy Py Pd := by
  intro Aw S RS s3 H3 C code fp pn it tn J R YP rd T hRS hpn hS hA hR hY s₀ s H ⟨W, ⟨m0, w0⟩, hturn⟩ st hn hG
  have pg0 := hg0 _ s3 H3 C code fp pn rd
  have pt0 := ht0 _ s3 H3 C code fp pn rd
  have pi1 := hi1 _ s3 H3 C code fp pn rd
  have pg1 := hg1 _ s3 H3 C code fp pn rd
  have pt1 := ht1 _ s3 H3 C code fp pn rd
  have pe1 := he _ s3 H3 C code fp pn rd
  have hce : (gxEnv X scope C code).scope.isCoroutine = false := hco
  generalize gxEnv X scope C code = ce at *
  have stat : ∀ {σ' : L2.St} {H' : Hp} {s' : Shared} {o' : Obj}, Inv (gxOf X (Aw.deeper ce) s3 H3 ce fp pn) [(S, o')] σ' H' s' → (∀ b ∈ fp, H' b = none) → ∀ b ∈ fp, FpOk (gxOf X (Aw.deeper ce) s3 H3 ce fp pn) [(S, o')] H' b := fun {σ' H' s' o'} I' hn b hb =>
    ⟨hn b hb, (I'.ok.exf b hb).1, I'.ok.exfs b hb, .inl hb, fun x c e => (I'.ok.exf b hb).2 x c e, fun p hp => by
      rcases List.mem_append.mp hp with z | z
      · exact (hpn p z).2 b hb
      · rw [List.mem_singleton.mp z]
        exact Ne.symm (hS b hb)⟩
  have main : ∀ (m i n : Nat) (ys : List V) (s₀ s : Shared) (H : Hp), n + ys.length = sizeLine → W i m ys H → tn i s.heap → (∀ b ∈ fp, H b = none) → GIR (gxOf X (Aw.deeper ce) s3 H3 ce fp pn) S RS [] ys (wipe σ vs) H s →
      Seg (model X.prog X.w) Aw R YP n s₀ (.compLoop (gex2 elt t0 i0 t1 i1 ifs0 ifs1 scope gpos) 0 (.ref it) .none ce) ((model X.prog X.w).den (.compLoop (gex2 elt t0 i0 t1 i1 ifs0 ifs1 scope gpos) 0 (.ref it) .none ce)) [] s := by
    intro m
    induction m using Nat.strongRecOn with
    | ind m ih =>
      intro i n ys s₀ s H hn w5 st5 n5 hG
      obtain ⟨ob, rs, I5⟩ := hG
      show Seg _ Aw _ _ _ s₀ _ ((compTurn (gex2 elt t0 i0 t1 i1 ifs0 ifs1 scope gpos) 0 (.ref it) .none ce).onRaise (leaving ce)) [] s
      rw [genTurn2_out, Sem.onRaise_eq_wrap]
      refine seg_bind_wrap (wpAny_standAt ?_)
      rcases hturn i m ys H w5 with ⟨stop, qq⟩ | ⟨go, Nx, hNx, step⟩
      · refine seg_bind_wrap ?_
        rw [over_gen]
        have td := T.done (gxOf X (Aw.deeper ce) s3 H3 ce fp pn) rfl rfl rfl hc i _ s _ H (fun _ _ => False) I5 (stat I5 n5) st5 stop
        refine thnF td fun r s6 ⟨hr, I6⟩ => ?_
        subst hr
        exact seg_end (.ok .next) (hR n s₀ ys [] _ H s6 hn ⟨ob, rs, I6⟩ qq)
      · refine seg_bind_wrap ?_
        rw [over_gen]
        have ti := T.item (gxOf X (Aw.deeper ce) s3 H3 ce fp pn) rfl rfl rfl hc i _ s _ H (fun _ _ => False) I5 (stat I5 n5) st5 go
        refine thnF ti fun r s6 ⟨u, hr, h6⟩ => ?_
        subst hr
        refine seg_bind_wrap ?_
        rw [over_gen]
        refine thnF h6 fun _ s7 ⟨x, H7, I7, r7, y7, st7, n7⟩ => ?_
        have I7' := I7.pinned (stat I7 n7) (T.obj _ _ st7)
        refine seg_bind_wrap ?_
        rw [over_gen]
        refine thnF (pg0.run _ s7 _ H7 x u _ I7' r7 (step x H7 y7)) fun _ s8 ⟨σ8, H8, I8, hw8, q8⟩ => ?_
        refine seg_bind_wrap ?_
        rw [over_gen]
        refine thnF (pt0.run _ s8 σ8 H8 _ I8 q8) fun b s9 ⟨H9, I9, q9⟩ => ?_
        have hl : (wipe σ vs).length = σ8.length := by rw [← hw8, wipe_length]
        have fin : ∀ {s₀ s' : Shared} {H' : Hp} {o' : Obj} {ys' : List V} {n' : Nat} {σ' : L2.St}, n' + ys'.length = sizeLine → RS ys' o' → Inv (gxOf X (Aw.deeper ce) s3 H3 ce fp pn) ([(S, o')] ++ pinsAt fp s7.heap) σ' H' s' → σ'.length = σ8.length → (∀ j v, σ8[j]? = some (some v) → j ∉ vs → σ'[j]? = some (some v)) → Nx ys' H' →
            Seg (model X.prog X.w) Aw R YP n' s₀ (.compLoop (gex2 elt t0 i0 t1 i1 ifs0 ifs1 scope gpos) 0 (.ref it) .none ce) ((model X.prog X.w).den (.compLoop (gex2 elt t0 i0 t1 i1 ifs0 ifs1 scope gpos) 0 (.ref it) .none ce)) [] s' := fun {s₀ s' H' o' ys' n' σ'} hn' rs' I' hl' hk' nx => by
          obtain ⟨m', hm, w'⟩ := hNx ys' H' nx
          have pin' : ∀ b ∈ fp, ∀ o, s7.heap.get? b = some o → s'.heap.get? b = some o ∧ H' b = none := fun b hb o e =>
            let z := I'.pin (b, o) (List.mem_append_right _ (List.mem_append_right _ (mem_pinsAt hb e)))
            ⟨z.1, z.2.1⟩
          refine ih m' hm (i + 1) n' ys' s₀ s' H' hn' w' (T.keep _ _ _ st7 fun b hb o e => (pin' b hb o e).1) (fun b hb => ?_) ⟨o', rs', (I'.unpinned (pins := [(S, o')])).weak (hl.trans hl'.symm) (fun j v e => ?_)⟩
          · obtain ⟨o, e, _⟩ := T.obj _ _ st7 b hb
            exact (pin' b hb o e).2
          · rw [← hw8] at e
            obtain ⟨e1, e2⟩ := wipe_some e
            exact hk' j v e1 e2
        cases b with
        | false =>
          simp only [Bool.false_eq_true, if_false] at q9 ⊢
          exact seg_again rfl (fin hn rs I9 rfl (fun _ _ e _ => e) q9)
        | true =>
          simp only [if_true] at q9 ⊢
          refine seg_bind_wrap ?_
          rw [over_gen]
          refine thnF (pi1.run _ s9 σ8 H9 _ I9 q9) fun xv s10 hx => ?_
          refine seg_bind_wrap (wpAny_standAt ?_)
          refine seg_bind_wrap (wpAny_of_eq (hs1 _ xv) ?_)
          refine seg_bind_wrap (wpAny_holding ?_)
          rw [over_gen]
          refine thnF hx fun itv s11 h11 => ?_
          obtain ⟨it1, fp1, tn1, J1, H11, rfl, I11, T1, st11, f11, W1, ⟨m1, w1⟩, hW1⟩ := h11
          rw [Sem.bind_eq_wrap', Sem.wrap_wrap]
          refine seg_call fun p => ?_
          have hov : ∀ (kk : Result → Sem PySem.Fin), Aw.over (.compLoop (gex2 elt t0 i0 t1 i1 ifs0 ifs1 scope gpos) 1 (.ref it1) .none ce) [.ret kk none false [] (.compLoop (gex2 elt t0 i0 t1 i1 ifs0 ifs1 scope gpos) 0 (.ref it) .none ce) p []] = Aw.deeper ce := fun kk => (over_loop rfl rfl).trans over_gen
          have loop : ∀ (kk : Result → Sem PySem.Fin), kk (.ok .next) = .pure (.again (.compLoop (gex2 elt t0 i0 t1 i1 ifs0 ifs1 scope gpos) 0 (.ref it) .none ce)) → ∀ s₀, Seg (model X.prog X.w) Aw R YP n s₀ (.compLoop (gex2 elt t0 i0 t1 i1 ifs0 ifs1 scope gpos) 1 (.ref it1) .none ce) ((model X.prog X.w).den (.compLoop (gex2 elt t0 i0 t1 i1 ifs0 ifs1 scope gpos) 1 (.ref it1) .none ce)) [.ret kk none false [] (.compLoop (gex2 elt t0 i0 t1 i1 ifs0 ifs1 scope gpos) 0 (.ref it) .none ce) p []] s11 := fun kk hkk s₀ => seg_g1 (k1 := kk) (Y := gxOf X (Aw.deeper ce) s3 H3 ce fp pn) (S := S) (RS := RS) (ip := pinsAt fp s7.heap) (fp := fp1) (Aw := Aw) (vs := vs1) (σ := σ8) (pos := gpos) (R := R) (YP := YP) rfl (hov _) hc hce T1 pg1 pt1 pe1 hW1 hRS
            (fun p hp => (List.mem_append.mp hp).elim (fun z => (hpn p z).1) fun z => hS _ (of_pinsAt z).1) hA
            (fun b hb => by
              obtain ⟨_, q2, q3, q4, q5, q6⟩ := f11 b hb
              exact ⟨fun e => q6 (S, ob) (List.mem_append_right _ List.mem_cons_self) e.symm, q2, q3, q4, q5, fun p hp => q6 p ((List.mem_append.mp hp).elim (fun z => List.mem_append_left _ z) fun z => List.mem_append_right _ (List.mem_cons_of_mem _ z))⟩)
            (fun n' s₀' ys' H' s' hn' hG' nx => by
              obtain ⟨o', rs', J'⟩ := hG'
              rw [hkk]
              exact seg_again rfl (fin hn' rs' J' (wipe_length _ _) (fun j v e hj => by rw [wipe_keep fun z => hj (hsub j z)]; exact e) nx))
            hY m1 0 n ys s₀ s11 H11 hn w1 st11 (fun b hb => (f11 b hb).1) ⟨ob, rs, I11.weak (wipe_length _ _) (fun j v e => (wipe_some e).1)⟩
          show Seg _ Aw _ _ _ s₀ _ ((compStart (gex2 elt t0 i0 t1 i1 ifs0 ifs1 scope gpos) 1 (.ref it1) .none ce).onRaise (fun x => do noteFrame x ce; standAt theWindowsPlace)) _ s11
          unfold compStart
          rw [Sem.onRaise_eq_wrap]
          show Seg _ Aw _ _ _ s₀ _ ((ask >>= _).wrap _ _ _ _) _ s11
          refine seg_bind_wrap (wpAny_askSetting ?_)
          split
          · exact seg_again rfl (loop _ rfl s₀)
          · first
              | exact seg_bind_wrap (wpAny_rule (seg_bind_wrap (wpAny_standAt (seg_bind_wrap (T1.self _ 0 s11 _ _ st11 (seg_again rfl (loop _ rfl s₀)))))))
              | (refine seg_bind_wrap (wpAny_rule ?_); show Seg _ Aw _ _ _ s₀ _ ((standAt i1.pos >>= _).wrap _ _ _ _) _ s11; exact seg_bind_wrap (wpAny_standAt (seg_bind_wrap (T1.self _ 0 s11 _ _ st11 (seg_again rfl (loop _ rfl s₀))))))
  exact main m0 0 sizeLine [] s₀ s H rfl w0 st hn hG
end
/-- any (b0 = true), all (b0 = false) of two fors -/
def tAnyX2 (b0 : Bool) (P : Addr) (wi : TI) (g0 : TG) (tt0 : TT) (wi1 : TI) (g1 : TG) (tt1 : TT) (te : TE) (vs vs1 : List Nat) : TE := fun σ H Q =>
  wi σ H fun J H1 => GxR.TabG H1 P ∧ ∀ H2, GxR.Tabbed P H1 H2 → ∃ W : Nat → Nat → List V → Hp → Prop, (∃ m, W 0 m [] H2) ∧
    GW2 J g0 tt0 wi1 g1 tt1 te vs vs1 σ (fun y => y = .bl (!b0)) (fun _ y H' => ∃ b, y = .bl b ∧ (b = b0 → Q (.bl b0) H')) (fun _ H' => Q (.bl (!b0)) H') W
section
variable {X : Cx} {c P : Addr} {elt t0 i0 t1 i1 : Expr} {ifs0 ifs1 : List Expr} {scope : Scope} {own own1 : List (Str × Nat)} {p pos gpos : Pos} {wi wi1 : TI} {g0 g1 : TG} {tt0 tt1 : TT} {te : TE} {k : Nat}
structure GenP2 (X : Cx) (k : Nat) (c P : Addr) (elt t0 i0 t1 i1 : Expr) (ifs0 ifs1 : List Expr) (scope : Scope) (own own1 : List (Str × Nat)) (wi : TI) (g0 : TG) (tt0 : TT) (wi1 : TI) (g1 : TG) (tt1 : TT) (te : TE) : Prop where
  hr : Room (k + 7) X.A
  hc : X.calm = true
  hN : X.N.Nodup
  TB : GxR.TabB X.base X.mg c P
  hcode : X.env.code = .ref c
  S : GenSX scope
  hi : PI X t0 i0 wi
  ok : BlkOk X.N X.env.scope scope own
  sub : ∀ j, j ∈ own1.map (·.2) → j ∈ own.map (·.2)
  hg0 : ∀ (A : Around) (s : Shared) (H : Hp) (C : Addr) (code : Value) (fp : List Addr) (pn : List (Addr × Obj)), Room k A → PG (gxOf X A s H (gxEnv X scope C code) fp pn) t0 g0
  ht0 : ∀ (A : Around) (s : Shared) (H : Hp) (C : Addr) (code : Value) (fp : List Addr) (pn : List (Addr × Obj)), Room k A → PTs (gxOf X A s H (gxEnv X scope C code) fp pn) ifs0 tt0
  hi1 : ∀ (A : Around) (s : Shared) (H : Hp) (C : Addr) (code : Value) (fp : List Addr) (pn : List (Addr × Obj)), Room k A → PI (gxOf X A s H (gxEnv X scope C code) fp pn) t1 i1 wi1
  hg1 : ∀ (A : Around) (s : Shared) (H : Hp) (C : Addr) (code : Value) (fp : List Addr) (pn : List (Addr × Obj)), Room k A → PG (gxOf X A s H (gxEnv X scope C code) fp pn) t1 g1
  ht1 : ∀ (A : Around) (s : Shared) (H : Hp) (C : Addr) (code : Value) (fp : List Addr) (pn : List (Addr × Obj)), Room k A → PTs (gxOf X A s H (gxEnv X scope C code) fp pn) ifs1 tt1
  he : ∀ (A : Around) (s : Shared) (H : Hp) (C : Addr) (code : Value) (fp : List Addr) (pn : List (Addr × Obj)), Room k A → PE (gxOf X A s H (gxEnv X scope C code) fp pn) elt te
  hs : ∀ v, genFold i0 X.env v = pure v
  hs1 : ∀ (env : Env) x, foldedSetIterable i1 env x = pure x
theorem pe_anyX2 (G : GenP2 X k c P elt t0 i0 t1 i1 ifs0 ifs1 scope own own1 wi g0 tt0 wi1 g1 tt1 te) (hg : Gl X "any") (hm : X.mg "any" = none)
    (he : starEach [gex2 elt t0 i0 t1 i1 ifs0 ifs1 scope gpos] X.env = (false, eval (gex2 elt t0 i0 t1 i1 ifs0 ifs1 scope gpos) X.env) :: starEach [] X.env := by rfl) :
    PE X (.Call (.Name "any" p) [gex2 elt t0 i0 t1 i1 ifs0 ifs1 scope gpos] [] pos) (tAnyX2 true P wi g0 tt0 wi1 g1 tt1 te (own.map (·.2)) (own1.map (·.2))) := by
  refine ⟨fun pins s σ H Q I h => ?_⟩
  refine wpAny_Call_Name_kw (ld_blt I hg hm boot_any (PyProof.Rows.callWith_builtin1 ?_ he (by rfl)))
  rw [he]
  show wpAny _ _ (spliced ((false, eval (gex2 elt t0 i0 t1 i1 ifs0 ifs1 scope gpos) X.env) :: backTo pos (starEach [] X.env))) _ _ s
  refine Calls.spliced_cons (gen_madeN (k := k) (G.hr.mono (by omega)) G.hN G.TB G.hcode G.S G.hi G.ok (loop2 (X := X) (σ := σ) G.hc G.S.co G.sub G.hg0 G.ht0 G.hi1 G.hg1 G.ht1 G.he G.hs1) G.hs I h fun u z M => ?_)
  refine Calls.spliced_nil (call_anyX (X := X) (A := X.A) (k := k + 1) (G.hr.mono (by omega)) I.ok.frames (fun ys y H' h => h.imp fun _ z => z.1) M fun b H' s' I' h => ?_)
  rcases h with ⟨rfl, ys, b, e, h2⟩ | ⟨rfl, ys, h2⟩
  · cases e
    exact ⟨.bl true, H', I', rfl, h2 rfl⟩
  · exact ⟨.bl false, H', I', rfl, h2⟩
end
end Ph
namespace Ph
open PySem PySem.Spec PyProof.Rows L2 LamX
theorem lc_coreS {X : Cx} {pins : List (Addr × Obj)} {s : Shared} {σ : L2.St} {H : Hp} {Q : VK} {elt tg iter : Expr} {ifs : List Expr} {scope : Scope} {own : List (Str × Nat)} {pos pos' : Pos} {wi : TI} {g : TG} {ttS : L2.St → TT} {te : TE} {use : Option (Value → Sem Unit)} {Qf : Value → Shared → Prop}
    (hc : X.calm = true) (hN : X.N.Nodup) (I : Inv X pins σ H s) (hi : PI X tg iter wi) (ok : BlkOk X.N X.env.scope scope own)
    (hg : ∀ (s : Shared) (H : Hp) (C : Addr) (cl : List (Str × Addr)) (fp : List Addr), PG (X.blk s H scope (compEnvC scope cl C X.env) fp) tg g) (ht : ∀ (s : Shared) (H : Hp) (C : Addr) (cl : List (Str × Addr)) (fp : List Addr) (pinsX : List (Addr × Obj)) (σX : L2.St), Inv X pinsX σX H s → (∀ b ∈ fp, FpOk X pinsX H b) → PTs (X.blk s H scope (compEnvC scope cl C X.env) fp) ifs (ttS σX))
    (he : ∀ (s : Shared) (H : Hp) (C : Addr) (cl : List (Str × Addr)) (fp : List Addr), PE (X.blk s H scope (compEnvC scope cl C X.env) fp) elt te) (hs : ∀ x, foldedSetIterable iter X.env x = pure x)
    (h : tLc wi g (ttS σ) te (own.map (·.2)) σ H Q)
    (hRR : ∀ D C s' m H', Inv X pins σ H' s' → Q (.ref D) H' → s'.heap.Ns C m → FpOk X pins H' C → compPost (model X.prog X.w) X.A X.xe use Qf (.ref D) C (.ok .next) s') :
    wpAny (model X.prog X.w) X.A (comprehension (.ListComp elt [⟨tg, iter, ifs, 0⟩] scope pos) scope X.env pos' (newList []) false (eval iter X.env) use) Qf X.xe s := by
  have hfree : ∀ y ∈ scope.names, y.2 = .free → ∃ c, X.env.cells.lookup y.1 = some c := fun y hy e => by
    rcases ok.free y hy e with k | k
    · exact I.ok.has _ (.inl k)
    · exact I.ok.has _ (.inr k)
  refine wpAny_comprehension_free (use := use) rfl hs (closure_ok hfree) ok.kind (fun y hy e => by rw [ok.uniq y hy, e])
    (thn (hi.run pins s σ H _ I h) fun xv s1 hx => thn hx fun itv s2 h2 => ?_)
  obtain ⟨it, fp, tn, J, H2, e, I2, T, st2, f2, q⟩ := h2
  subst e
  refine wpAny_newObj_type (newEnv_comp ?_) (by show 0 ≤ sizeLine; decide)
  generalize hD : s2.heap.objs.size = D
  have hDn : H2 D = none := I2.hok.fresh (Nat.le_of_eq hD)
  obtain ⟨W, ⟨m0, w0⟩, turn⟩ := q D hDn
  -- the new list
  generalize hs3 : ({ s2 with heap := s2.heap.push { cls := .type "list", data := .seq ([] : List Value).toArray } } : Shared) = s3
  have I3 : Inv X pins σ (upd H2 D (.lst [])) s3 := by
    rw [← hs3]
    refine I2.laid (t' := s2.toks) (fun b o e => Heap.get?_push_of_some _ e) (Nat.le_of_eq hD) ⟨Nat.zero_le _, [], 0, .nil, ?_⟩
    rw [← hD]
    exact Heap.get?_push_size _ rfl
  have h3 : s3.heap = s2.heap.push { cls := .type "list", data := .seq ([] : List Value).toArray } := by rw [← hs3]
  have sz : ∀ b ∈ fp, b < s2.heap.objs.size := fun b hb => by
    obtain ⟨o, e, _⟩ := T.obj _ _ st2 b hb
    exact Heap.lt_size e
  have f3 : ∀ b ∈ fp, FpOk X pins (upd H2 D (.lst [])) b ∧ b < s3.heap.objs.size := fun b hb => by
    have hlt := sz b hb
    refine ⟨⟨?_, (f2 b hb).2⟩, by rw [h3, Heap.size_push]; exact Nat.lt_succ_of_lt hlt⟩
    rw [upd_ne (by rw [← hD]; exact Nat.ne_of_lt hlt)]
    exact (f2 b hb).1
  have st3 : tn 0 s3.heap := T.keep _ _ _ st2 fun b _ o e => by rw [h3]; exact Heap.get?_push_of_some _ e
  have I4 := block_start I3 ok hN f3
  have pg := hg s3 (upd H2 D (.lst [])) s3.heap.objs.size (cellsFrom (s3.heap.objs.size + 1) scope.names (cloFrom X.env.cells scope.names [])) fp
  have pt := ht s3 (upd H2 D (.lst [])) s3.heap.objs.size (cellsFrom (s3.heap.objs.size + 1) scope.names (cloFrom X.env.cells scope.names [])) fp pins σ I3 fun b hb => (f3 b hb).1
  have pe := he s3 (upd H2 D (.lst [])) s3.heap.objs.size (cellsFrom (s3.heap.objs.size + 1) scope.names (cloFrom X.env.cells scope.names [])) fp
  show codeAny _ _ (.compStart (.ListComp elt [⟨tg, iter, ifs, 0⟩] scope pos) 0 (.ref it) (.ref D) (compEnvC scope (cellsFrom (s3.heap.objs.size + 1) scope.names (cloFrom X.env.cells scope.names [])) s3.heap.objs.size X.env)) (compPost (model X.prog X.w) X.A X.xe use Qf (.ref D) s3.heap.objs.size) { s3 with heap := pushCells (s3.heap.push { cls := .type "dict", data := .dict #[] }) scope.names }
  have nfp : ∀ b ∈ fp, (upd H2 D (.lst [])) b = none := fun b hb => (f3 b hb).1.1
  generalize hce : compEnvC scope (cellsFrom (s3.heap.objs.size + 1) scope.names (cloFrom X.env.cells scope.names [])) s3.heap.objs.size X.env = ce at I4 pg pt pe ⊢
  have cL : ce.locals = s3.heap.objs.size := by subst hce; rfl
  generalize hH3 : upd H2 D (.lst []) = H3 at I3 I4 pg pt pe w0 nfp f3
  generalize hs4 : ({ s3 with heap := pushCells (s3.heap.push { cls := .type "dict", data := .dict #[] }) scope.names } : Shared) = s4 at I4 ⊢
  have st4 : tn 0 s4.heap := T.keep _ _ _ st3 fun b _ o e => by rw [← hs4]; exact pushCells_keeps _ _ _ _ (Heap.get?_push_of_some _ e)
  have stat : ∀ {σ' : L2.St} {H' : Hp} {s' : Shared}, Inv (X.blk s3 H3 scope ce fp) [] σ' H' s' → (∀ b ∈ fp, H' b = none) → ∀ b ∈ fp, FpOk (X.blk s3 H3 scope ce fp) [] H' b := fun {σ' H' s'} I' hn b hb =>
    ⟨hn b hb, (I'.ok.exf b hb).1, I'.ok.exfs b hb, .inl hb, fun x c e => (I'.ok.exf b hb).2 x c e, fun p hp => absurd (show p ∈ ([] : List (Addr × Obj)) ++ [] from hp) (by simp)⟩
  have loop : codeAny (model X.prog X.w) X.A (.compLoop (.ListComp elt [⟨tg, iter, ifs, 0⟩] scope pos) 0 (.ref it) (.ref D) ce) (compPost (model X.prog X.w) X.A X.xe use Qf (.ref D) s3.heap.objs.size) s4 := by
    refine compLoop_any (fun n s' => ∃ i H', Inv (X.blk s3 H3 scope ce fp) [] (wipe σ (own.map (·.2))) H' s' ∧ tn i s'.heap ∧ (∀ b ∈ fp, H' b = none) ∧ W i n H') ?_ m0 ⟨0, H3, I4, st4, nfp, w0⟩
    rintro n s5 ⟨i, H5, I5, st5, n5, w5⟩
    rcases turn i n H5 w5 with ⟨stop, qq⟩ | ⟨go, Nx, hNx, step⟩
    · have td := T.done (X.blk s3 H3 scope ce fp) rfl rfl rfl hc i [] s5 _ H5 (fun _ _ => False) I5 (stat I5 n5) st5 stop
      refine thnF td fun r s6 ⟨hr, I6⟩ => ?_
      subst hr
      -- back in the def's context
      have I7 : Inv X pins σ H5 s6 := I3.call' (ch := fp) I6.os I6.base I6.hok I6.bare fun b hb => ⟨(f3 b hb).1.2.2.2.1, (f3 b hb).1.2.1, (f3 b hb).1.2.2.2.2.1, (f3 b hb).1.2.2.2.2.2⟩
      have nC : H5 s3.heap.objs.size = none := by
        have z : H5 ce.locals = none := I6.free
        rw [cL] at z
        exact z
      obtain ⟨m, hn, _⟩ := I6.loc
      have hn : s6.heap.Ns ce.locals m := hn
      rw [cL] at hn
      exact hRR D s3.heap.objs.size s6 m H5 I7 qq hn (I3.fpOk (Nat.le_refl _) nC)
    · have ti := T.item (X.blk s3 H3 scope ce fp) rfl rfl rfl hc i [] s5 _ H5 (fun _ _ => False) I5 (stat I5 n5) st5 go
      refine thnF ti fun r s6 ⟨u, hr, h6⟩ => ?_
      subst hr
      refine thnF h6 fun _ s7 ⟨x, H7, I7, r7, y7, st7, n7⟩ => ?_
      have I7' := I7.pinned (stat I7 n7) (T.obj _ _ st7)
      refine thnF (pg.run _ s7 _ H7 x u _ I7' r7 (step x H7 y7)) fun _ s8 ⟨σ8, H8, I8, hw8, q8⟩ => ?_
      refine thnF (pt.run _ s8 σ8 H8 _ I8 q8) fun b s9 ⟨H9, I9, q9⟩ => ?_
      -- the turn's end
      have fin : ∀ {s' : Shared} {H' : Hp}, Inv (X.blk s3 H3 scope ce fp) ([] ++ pinsAt fp s7.heap) σ8 H' s' → Nx H' → ∃ m, m < n ∧ ∃ i H', Inv (X.blk s3 H3 scope ce fp) [] (wipe σ (own.map (·.2))) H' s' ∧ tn i s'.heap ∧ (∀ b ∈ fp, H' b = none) ∧ W i m H' := fun {s' H'} I' nx => by
        obtain ⟨m', hm, w'⟩ := hNx H' nx
        have pin' : ∀ b ∈ fp, ∀ o, s7.heap.get? b = some o → s'.heap.get? b = some o ∧ H' b = none := fun b hb o e =>
          let z := I'.pin (b, o) (List.mem_append_right _ (List.mem_append_right _ (mem_pinsAt hb e)))
          ⟨z.1, z.2.1⟩
        have hl : (wipe σ (own.map (·.2))).length = σ8.length := by rw [← hw8, wipe_length]
        refine ⟨m', hm, i + 1, H', (I'.unpinned (pins := [])).weak hl (fun j v e => ?_), T.keep _ _ _ st7 fun b hb o e => (pin' b hb o e).1, fun b hb => ?_, w'⟩
        · rw [← hw8] at e
          exact (wipe_some e).1
        · obtain ⟨o, e, _⟩ := T.obj _ _ st7 b hb
          exact (pin' b hb o e).2
      cases b with
      | false =>
        simp only [Bool.false_eq_true, if_false] at q9 ⊢
        exact fin I9 q9
      | true =>
        simp only [if_true] at q9 ⊢
        refine thnF (pe.run _ s9 σ8 H9 _ I9 q9) fun z s10 ⟨yv, H10, I10, r10, acc, hD10, hz10, nx⟩ => ?_
        exact app_ok (X := X.blk s3 H3 scope ce fp) I10 hD10 hz10 r10 fun s11 I11 => fin I11 nx
  exact codeAny_compStart_list loop (T.self X.A 0 _ _ _ st4 loop)
def tLcS (wi : TI) (g : TG) (ttS : L2.St → TT) (te : TE) (vs : List Nat) : TE := fun σ H Q => tLc wi g (ttS σ) te vs σ H Q
theorem pe_lcS {X : Cx} {elt tg iter : Expr} {ifs : List Expr} {scope : Scope} {own : List (Str × Nat)} {pos : Pos} {wi : TI} {g : TG} {ttS : L2.St → TT} {te : TE} (hc : X.calm = true) (hN : X.N.Nodup) (hi : PI X tg iter wi) (ok : BlkOk X.N X.env.scope scope own)
    (hg : ∀ (s : Shared) (H : Hp) (C : Addr) (cl : List (Str × Addr)) (fp : List Addr), PG (X.blk s H scope (compEnvC scope cl C X.env) fp) tg g)
    (ht : ∀ (s : Shared) (H : Hp) (C : Addr) (cl : List (Str × Addr)) (fp : List Addr) (pinsX : List (Addr × Obj)) (σX : L2.St), Inv X pinsX σX H s → (∀ b ∈ fp, FpOk X pinsX H b) → PTs (X.blk s H scope (compEnvC scope cl C X.env) fp) ifs (ttS σX))
    (he : ∀ (s : Shared) (H : Hp) (C : Addr) (cl : List (Str × Addr)) (fp : List Addr), PE (X.blk s H scope (compEnvC scope cl C X.env) fp) elt te) (hs : ∀ x, foldedSetIterable iter X.env x = pure x := by intro _; rfl) :
    PE X (.ListComp elt [⟨tg, iter, ifs, 0⟩] scope pos) (tLcS wi g ttS te (own.map (·.2))) := by
  refine ⟨fun pins s σ H Q I h => ?_⟩
  rw [eval_ListComp]
  refine lc_coreS hc hN I hi ok hg ht he hs h fun D C s' m H' I' q hn f => ⟨m, hn, fun h'' sb => ?_⟩
  obtain ⟨f0, f1, f2, f3, f4, f5⟩ := f
  exact ⟨.ref D, H', I'.turned (t' := s'.toks) (fun b o hb e => (sb.2 b hb).trans e) f0 f1 f3 f4 f5, rfl, q⟩
/-- the lambda as a value; cs: the def's cells -/
def tLamC (P : Addr) (q : Str) (cs : List (Str × Addr)) (d : LamD) : TE := fun _ H Q => TabS H P q ∧ ∀ (f c : Addr) (H1 : Hp), ExtP P H H1 → TabS H1 P q → H1 f = some (LamC f c q d.ps d.body d.sc (cloFrom cs d.sc.names [])) → H1 c = some (CodeO c q) → Q (.ref f) H1
theorem pe_lamC {X : Cx} {c P : Addr} {d : LamD} {pos : Pos} (TB : LamX.TabB X.base X.mg c P) (hcode : X.env.code = .ref c)
    (hdef : defaultsOf d.ps X.env = ([], [])) (L : LamS X.env.scope d.sc) : PE X (.Lambda d.ps d.body d.sc pos) (tLamC P (X.env.qual ++ "<lambda>") X.env.cells d) := by
  refine ⟨fun pins s σ H Q I h => ?_⟩
  obtain ⟨hT, h⟩ := h
  exact lamC_make I TB hcode hT hdef (L.has I.ok) fun f c' H1 s' I1 e t1 h1 h2 => ⟨.ref f, H1, I1, rfl, h f c' H1 e t1 h1 h2⟩
/-- the i-th slot holds one of the lambdas of fam: it is told; σX: the def's names at the block's entry -/
def tToldC (K : PySem.W.Frag) (CS : Addr) (ret q : Str) (cs : List (Str × Addr)) (i : Nat) (fam : List LamD) (t : Nat → XK → TE) (σX : L2.St) : TE := fun σ H Q => ∃ (f c : Addr) (k : Nat) (d : LamD), σ[i]? = some (some (.ref f)) ∧ fam[k]? = some d ∧
  H f = some (LamC f c q d.ps d.body d.sc (cloFrom cs d.sc.names [])) ∧ H c = some (CodeO c q) ∧ t k (kTold K CS ret Q) σX H Q
theorem pe_toldC {X : Cx} {sB : Shared} {HB : Hp} {scope : Scope} {ceB : Env} {fp : List Addr} {pinsX : List (Addr × Obj)} {σX : L2.St} {x a y ret : Str} {g CS : Addr} {k i : Nat} {pg : Arguments} {bg : List Stmt} {sg : Scope} {dV kV doc pm cdv ct oc : Value} {an od : Option Addr} {osl : Array (Option Value)} {Ng : List Str}
    {fam : List LamD} {t : Nat → XK → TE} {p py pos : Pos} (IX : Inv X pinsX σX HB sB) (fX : ∀ b ∈ fp, FpOk X pinsX HB b) (hg : Gl (X.blk sB HB scope ceB fp) x) (hm : X.mg x = some (.ref g)) (hk : PySem.W.keepIn X.K (.ref g) = true)
    (lk : X.K.lookup g = some ⟨oc, od, .func (PySem.W.fnOf x x pg bg sg dV kV doc pm an cdv ct), osl⟩) (hcg : PySem.W.codeIn X.K cdv x = true) (hb : L2.Binds X.K (PySem.W.fnOf x x pg bg sg dV kV doc pm an cdv ct) [a] []) (Sg : FnScope Ng [a] sg) (hNg : Ng[0]? = some a) (hva : Vis sg a)
    (hG : GivesTo X Ng x sg g cdv bg a (X.env.qual ++ "<lambda>") (TTold X.K CS ret)) (hi : X.N[i]? = some y) (hv : Vis ceB.scope y) (hr : Room (k + 2) X.A)
    (hno : ∀ (j : Nat) (d : LamD), fam[j]? = some d → LamS X.env.scope d.sc) (hbind : ∀ (j : Nat) (d : LamD), fam[j]? = some d → ∀ (cl : List (Str × Addr)) (c' : Addr) (pm ctv : Value), bindArgs (PySem.W.kla_fn "<lambda>" (X.env.qual ++ "<lambda>") d.ps d.body d.sc cl pm (.ref c') ctv) ⟨[], []⟩ = pure [])
    (hbody : ∀ (j : Nat) (d : LamD), fam[j]? = some d → ∀ (A : Around) (outer : List Env) (s : Shared) (H : Hp) (E : XK) (f c' : Addr), Room k (A.deeper (lamEnv X d.sc s.heap.objs.size f c')) → PE (lamCx X A outer s H E d.sc f c') d.body (t j E))
    (hdb : (x == ("__debug__" : Str)) = false := by decide) (hd : (a == ("__debug__" : Str)) = false := by decide) (hcd : (a == ("__classdict__" : Str)) = false := by decide) (hyd : (y == ("__debug__" : Str)) = false := by decide) (hyc : (y == ("__classdict__" : Str)) = false := by decide) :
    PE (X.blk sB HB scope ceB fp) (.Call (.Name x p) [.Name y py] [] pos) (tToldC X.K CS ret (X.env.qual ++ "<lambda>") X.env.cells i fam t σX) := by
  refine ⟨fun pins s σ H Q I h => ?_⟩
  obtain ⟨f, c', j, d, hs, hj, hf, hc, ht⟩ := h
  refine wpAny_Call_Name_kw (ld_glob I hg hm ?_ hdb)
  refine PySem.W.callWith_K (h₀ := X.base) I.ok.mod.kin hk ?_ (by rfl) (by rfl)
  show wpAny _ _ (spliced ((false, eval (.Name y py) ceB) :: backTo pos (starEach [] ceB))) _ _ s
  refine Calls.spliced_cons (thn ((pe_var (X := X.blk sB HB scope ceB fp) (pos := py) (i := i) hi hv hyd hyc).run pins s σ H (fun v H1 => v = .ref f ∧ H1 = H) I ⟨.ref f, hs, rfl, rfl⟩) fun u s' ⟨v, H1, I1, r1, q1⟩ => ?_)
  obtain ⟨ev, eH⟩ := q1
  subst ev
  rw [eH] at I1
  obtain rfl : u = Value.ref f := r1
  have J1 : Inv X pinsX σX H s' := IX.call' (ch := fp) I1.os I1.base I1.hok I1.bare fun b hb => ⟨(fX b hb).2.2.2.1, (fX b hb).2.1, (fX b hb).2.2.2.2.1, (fX b hb).2.2.2.2.2⟩
  refine Calls.spliced_nil ⟨I1.kIn, ?_⟩
  have rc : codeAny (model X.prog X.w) X.A (.call (.ref g) ⟨[.ref f], []⟩) (CR C8.CX0 X.stack X.prog X.w H s' Q C8.E0) s' := by
    refine run_ofS (N := Ng) (ps := [a]) (us := [.ref f]) (vs := [.ref f]) lk hcg Sg hr J1.env0 (hb s' [.ref f] J1.kIn rfl) (.cons rfl .nil) rfl fun hr' => ?_
    obtain ⟨t', ht', hq'⟩ := hG f c' s' H Q (fun E H' Q' => H' f = some (LamC f c' (X.env.qual ++ "<lambda>") d.ps d.body d.sc (cloFrom X.env.cells d.sc.names [])) ∧ t j E σX H' Q')
      (fun W pn xe E p1 p2 tk hW => pe_actC (i := 0) J1 (hno j d hj) (hbind j d hj _ c') tk hW hr' (fun A outer s H hr2 => hbody j d hj A outer s H E f c' hr2) hNg hva hd hcd) hc ⟨hf, ht⟩
    exact ⟨t', ht'.nox, hq'⟩
  refine wpAny_call (codeAny_mono rc fun r s2 hq => ?_)
  cases r with
  | error e => exact (show False from hq).elim
  | ok fl =>
    cases fl with
    | ret u => exact I1.after hq
    | next => exact False.elim hq
    | brk => exact False.elim hq
    | cont => exact False.elim hq
end Ph
namespace Ph
open PySem PySem.Spec PyProof.Rows L2
/-- what stands at a key that may be None -/
def DGetN (H : Hp) (a : Addr) (y : V) (r : Option V) : Prop := DGet H a y r ∨ (y = .non ∧ r = none ∧ ∃ kvs, Rd H a (.dK kvs))
def tGet1 (td ty : TE) : TE := fun σ H Q => td σ H fun x H1 => ∃ a, x = .ref a ∧ IsD H1 a ∧ ty σ H1 fun y H2 => ∃ o, DGetN H2 a y o ∧ Q (o.getD .non) H2
def tGet2 (td ty tx : TE) : TE := fun σ H Q => td σ H fun x H1 => ∃ a, x = .ref a ∧ IsD H1 a ∧ ty σ H1 fun y H2 => tx σ H2 fun z H3 => ∃ o, DGetN H3 a y o ∧ Q (o.getD z) H3
section
variable {X : Cx} {pins : List (Addr × Obj)} {σ : L2.St} {H : Hp} {s : Shared} {a : Addr} {y d : V} {u r : Value} {o : Option V} {A : Around} {E : Value → Shared → Prop}
theorem d_get1N {Q : Value → Shared → Prop} (hu : A.units + 1 < cLine) (I : Inv X pins σ H s) (g : DGetN H a y o) (ry : RelV y u) (h : ∀ w' s', Inv X pins σ H s' → RelV (o.getD .non) w' → Q w' s') :
    wpAny (model X.prog X.w) A (call (.builtin "dict.get") [.ref a, u]) Q E s := by
  rcases g with g | ⟨rfl, rfl, kvs, e⟩
  · exact d_get1 hu I g ry h
  · obtain rfl : u = Value.none := ry
    obtain ⟨_, hd, vs, _, dd⟩ := dk_rd I.hok e
    obtain ⟨f, hm, hf⟩ := none_map dd
    refine call_meetsIn PySem.F.slot_dict_get dd.typeIs PySem.F.entry_dict_get (PySem.F.args_dict_get_2 _ _) (meets_dict_get (noneKind X.prog X.w) a (k := none) rfl hd) ⟨_, hm, h _ _ (I.tok _) ?_⟩
    rw [hf]
    rfl
theorem d_get2N {Q : Value → Shared → Prop} (hu : A.units + 1 < cLine) (I : Inv X pins σ H s) (g : DGetN H a y o) (ry : RelV y u) (rd : RelV d r) (h : ∀ w' s', Inv X pins σ H s' → RelV (o.getD d) w' → Q w' s') :
    wpAny (model X.prog X.w) A (call (.builtin "dict.get") [.ref a, u, r]) Q E s := by
  rcases g with g | ⟨rfl, rfl, kvs, e⟩
  · exact d_get2 hu I g ry rd h
  · obtain rfl : u = Value.none := ry
    obtain ⟨_, hd, vs, _, dd⟩ := dk_rd I.hok e
    obtain ⟨f, hm, hf⟩ := none_map dd
    refine call_meetsIn PySem.F.slot_dict_get dd.typeIs PySem.F.entry_dict_get (PySem.F.args_dict_get_3 _ _ _) (meets_dict_get_default (noneKind X.prog X.w) a (k := none) rfl hd r) ⟨_, hm, h _ _ (I.tok _) ?_⟩
    rw [hf]
    exact rd
end
section
variable {X : Cx} {o e f : Expr} {apos cpos : Pos} {td ty tx : TE}
theorem pe_get1 (hu : X.A.units + 64 < cLine) (ho : PE X o td) (he : PE X e ty) (m : M1 X o "get" apos e cpos) : PE X (.Call (.Attribute o "get" apos) [e] [] cpos) (tGet1 td ty) := by
  refine ⟨fun pins s σ H Q I h => ?_⟩
  refine wpAny_Call_method m.base m.few m.line PySem.F.plainAttrs_dict PySem.F.slot_dict_get PySem.F.type_dict_get (thn (ho.run pins s σ H _ I h) fun u s1 ⟨x, H1, I1, rx, a, ex, d, q1⟩ => ?_)
  subst ex
  obtain rfl : u = Value.ref a := rx
  obtain ⟨t1, t2, _⟩ := isD_at I1 d
  refine ⟨t1, t2, ?_⟩
  rw [m.trees]
  refine Calls.callWith_builtin rfl (Calls.evalArgs_plain (Calls.spliced_cons (thn (he.run pins s1 σ H1 _ I1 q1) fun iv s2 ⟨y, H2, I2, ry, ov, g, q2⟩ => Calls.spliced_nil ?_)))
  exact d_get1N (by omega) I2 g ry fun w' s3 I3 rw' => ⟨_, H2, I3, rw', q2⟩
theorem pe_get2 (hu : X.A.units + 64 < cLine) (ho : PE X o td) (he : PE X e ty) (hf : PE X f tx) (m : M2 X o "get" apos e f cpos) : PE X (.Call (.Attribute o "get" apos) [e, f] [] cpos) (tGet2 td ty tx) := by
  refine ⟨fun pins s σ H Q I h => ?_⟩
  refine wpAny_Call_method m.base m.few m.line PySem.F.plainAttrs_dict PySem.F.slot_dict_get PySem.F.type_dict_get (thn (ho.run pins s σ H _ I h) fun u s1 ⟨x, H1, I1, rx, a, ex, d, q1⟩ => ?_)
  subst ex
  obtain rfl : u = Value.ref a := rx
  obtain ⟨t1, t2, _⟩ := isD_at I1 d
  refine ⟨t1, t2, ?_⟩
  rw [m.trees]
  refine Calls.callWith_builtin rfl (Calls.evalArgs_plain (Calls.spliced_cons (thn (he.run pins s1 σ H1 _ I1 q1) fun iv s2 ⟨y, H2, I2, ry, q2⟩ =>
    Calls.spliced_cons (thn (hf.run pins s2 σ H2 _ I2 q2) fun fv s3 ⟨z, H3, I3, rz, ov, g, q3⟩ => Calls.spliced_nil ?_))))
  exact d_get2N (by omega) I3 g ry rz fun w' s4 I4 rw' => ⟨_, H3, I4, rw', q3⟩
end
def rInV (K : PySem.W.Frag) : R2 := fun x y H Q => rInU K x y H Q ∨ ∃ a kvs, x = .non ∧ y = .ref a ∧ Rd H a (.dK kvs) ∧ Q (.bl false) H
def rNotInV (K : PySem.W.Frag) : R2 := fun x y H Q => rNotInU K x y H Q ∨ ∃ a kvs, x = .non ∧ y = .ref a ∧ Rd H a (.dK kvs) ∧ Q (.bl true) H
section
variable {X : Cx}
theorem op_inNon : OpR X (compareOp .In) (fun x y H Q => ∃ a kvs, x = .non ∧ y = .ref a ∧ Rd H a (.dK kvs) ∧ Q (.bl false) H) := by
  intro pins s σ H x y v u Q I rx ry h
  obtain ⟨a, kvs, rfl, rfl, e, q⟩ := h
  cases ry
  obtain rfl : v = Value.none := rx
  exact d_inNone I e fun s3 I3 => ⟨.bl false, H, I3, rfl, q⟩
theorem op_notinNon : OpR X (compareOp .NotIn) (fun x y H Q => ∃ a kvs, x = .non ∧ y = .ref a ∧ Rd H a (.dK kvs) ∧ Q (.bl true) H) := by
  intro pins s σ H x y v u Q I rx ry h
  obtain ⟨a, kvs, rfl, rfl, e, q⟩ := h
  cases ry
  obtain rfl : v = Value.none := rx
  exact d_notInNone I e fun s3 I3 => ⟨.bl true, H, I3, rfl, q⟩
theorem u_inV (hu : X.A.units + 64 < cLine) : OpR X (compareOp .In) (rInV X.K) := (u_in hu).or op_inNon
theorem u_notinV (hu : X.A.units + 64 < cLine) : OpR X (compareOp .NotIn) (rNotInV X.K) := (u_notin hu).or op_notinNon
end
/-! ### a list or a tuple walked; more calls -/
def iSeq (K : PySem.W.Frag) (tl : TE) : TI := fun σ H R => tl σ H fun x H1 => ∃ a, x = .ref a ∧ (((∃ xs, SqL K H1 a xs) ∧ R (Itl K a) H1) ∨ ((∃ xs, SqT K H1 a xs) ∧ R (Itt K a) H1))
theorem pi_seq {X : Cx} {tg l : Expr} {tl : TE} (hl : PE X l tl) : PI X tg l (iSeq X.K tl) := by
  refine ⟨fun pins s σ H R I h => ?_⟩
  refine thn (hl.run pins s σ H _ I h) fun v s1 ⟨x, H1, I1, r1, q1⟩ => ?_
  obtain ⟨a, rfl, q1⟩ := q1
  cases r1
  have fr : ∀ {o : Obj}, ∀ b ∈ [s1.heap.objs.size], FpOk X pins H1 b := fun {o} b hb => by
    rw [List.mem_singleton.mp hb]
    exact I1.fpOk (Nat.le_refl _) (I1.hok.fresh (Nat.le_refl _))
  rcases q1 with ⟨⟨xs, hq⟩, q⟩ | ⟨⟨xs, hq⟩, q⟩
  · obtain ⟨its, rv, p, hz⟩ := I1.list hq
    refine wpAny_pyIter_list p.isList ?_
    exact ⟨s1.heap.objs.size, [s1.heap.objs.size], _, _, H1, rfl, I1.kept (t' := s1.toks) fun b o e => Heap.get?_push_of_some _ e, turn_list a _, ⟨_, Heap.get?_push_size _ rfl, rfl, rfl⟩, fr (o := ⟨.none, none, .plain, #[]⟩), q⟩
  · obtain ⟨its, rv, p, hz⟩ := I1.tuple hq
    refine wpAny_pyIter_tuple (show s1.heap.IsTuple a its.toArray from p) ?_
    exact ⟨s1.heap.objs.size, [s1.heap.objs.size], _, _, H1, rfl, I1.kept (t' := s1.toks) fun b o e => Heap.get?_push_of_some _ e, turn_tuple a _, ⟨_, Heap.get?_push_size _ rfl, rfl, rfl⟩, fr (o := ⟨.none, none, .plain, #[]⟩), q⟩
def rStrI : List V → Hp → VK → Prop := fun xs H Q => ∃ i, xs = [.int i] ∧ i.natAbs.log2 < 1920 ∧ Q (.str (toString i)) H
def rListOf (K : PySem.W.Frag) : List V → Hp → VK → Prop := fun xs H Q => ∃ p ys, xs = [.ref p] ∧ (SqL K H p ys ∨ SqT K H p ys) ∧ ∀ l, H l = none → Q (.ref l) (upd H l (.lst ys))
def rTupOf (K : PySem.W.Frag) : List V → Hp → VK → Prop := fun xs H Q => ∃ p ys, xs = [.ref p] ∧ ((SqL K H p ys ∧ ∀ l, H l = none → Q (.ref l) (upd H l (.tup ys))) ∨ (SqT K H p ys ∧ Q (.ref p) H))
def genSXB (sc : Scope) : Bool := !sc.isCoroutine && sc.names.all (fun y => !decide (y.2 = .cell)) && decide (sc.names.lookup (".0" : Str) = some NameKind.local)
theorem gensx_by {sc : Scope} (h : genSXB sc = true) : GenSX sc := by
  unfold genSXB at h
  simp only [Bool.and_eq_true, Bool.not_eq_true', decide_eq_true_eq, decide_eq_false_iff_not, List.all_eq_true] at h
  obtain ⟨⟨h1, h2⟩, h3⟩ := h
  exact ⟨h1, h2, h3⟩
/-! ### steps -/
section
variable {K : PySem.W.Frag} {B H : Hp} {L L' : List (Addr × HO)} {I : List Im} {Q : VK} {σ : L2.St} {P : Addr} {tb : Array Value} {q : Str} {cs : List (Str × Addr)}
theorem s_lamC {d : LamD} (hC : Ctx K B H L I) (m : Pick (P, .tbl tb) L L') (f : Im.tab q tb ∈ I)
    (k : ∀ f c tb' H1, Ctx K B H1 ((P, .tbl tb') :: L') (.pr (fun H => H f = some (LamC f c q d.ps d.body d.sc (cloFrom cs d.sc.names []))) (fun _ _ s h => s _ _ h rfl) :: .pr (fun H => H c = some (LamX.CodeO c q)) (fun _ _ s h => s _ _ h rfl) :: .tab q tb' :: I) → Q (.ref f) H1) : tLamC P q cs d σ H Q := by
  have hC := hC.pick m
  have e0 := hC.get List.mem_cons_self
  refine ⟨(hC.tab f).tabS e0, fun f c H1 e t1 hf hc => ?_⟩
  obtain ⟨tb', h1, h2, h3⟩ := t1
  exact k f c tb' H1 ((((hC.but List.mem_cons_self .here rfl e h1).add (i := .tab q tb') ⟨h2, h3⟩).add (i := .pr (fun H => H c = some (LamX.CodeO c q)) (fun _ _ s h => s _ _ h rfl)) hc).add (i := .pr (fun H => H f = some (LamC f c q d.ps d.body d.sc (cloFrom cs d.sc.names []))) (fun _ _ s h => s _ _ h rfl)) hf)
theorem s_toldC {CS : Addr} {ret : Str} {i : Nat} {fam : List LamD} {t : Nat → XK → TE} {σX : L2.St} (f c : Addr) (k : Nat) (d : LamD) (hs : σ[i]? = some (some (.ref f))) (hj : fam[k]? = some d)
    (hf : H f = some (LamC f c q d.ps d.body d.sc (cloFrom cs d.sc.names []))) (hc : H c = some (LamX.CodeO c q)) (h : t k (kTold K CS ret Q) σX H Q) : tToldC K CS ret q cs i fam t σX σ H Q := ⟨f, c, k, d, hs, hj, hf, hc, h⟩
/-- get, the dict and its rows known -/
theorem s_get1 {td ty : TE} (h : td σ H fun x H1 => ∃ a, x = .ref a ∧ IsD H1 a ∧ ty σ H1 fun y H2 => ∃ o, DGetN H2 a y o ∧ Q (o.getD .non) H2) : tGet1 td ty σ H Q := h
theorem s_get2 {td ty tx : TE} (h : td σ H fun x H1 => ∃ a, x = .ref a ∧ IsD H1 a ∧ ty σ H1 fun y H2 => tx σ H2 fun z H3 => ∃ o, DGetN H3 a y o ∧ Q (o.getD z) H3) : tGet2 td ty tx σ H Q := h
end
end Ph
namespace Ph
open PySem PySem.Spec PyProof.Rows L2
section
variable {κ α β : Type} [DecidableEq κ]
def look (l : List (κ × α)) (k : κ) : Option α := (l.find? fun p => decide (p.1 = k)).map (·.2)
def putR (l : List (κ × α)) (k : κ) (v : α) : List (κ × α) := if (l.any fun p => decide (p.1 = k)) = true then l.map (fun p => if p.1 = k then (p.1, v) else p) else l ++ [(k, v)]
theorem look_nil {k : κ} : look ([] : List (κ × α)) k = none := rfl
theorem look_cons {p : κ × α} {r : List (κ × α)} {k : κ} : look (p :: r) k = if p.1 = k then some p.2 else look r k := by
  unfold look
  rw [List.find?_cons]
  by_cases h : p.1 = k <;> simp [h]
theorem look_any (k : κ) : ∀ l : List (κ × α), (l.any fun p => decide (p.1 = k)) = (look l k).isSome
  | [] => rfl
  | p :: r => by
    rw [List.any_cons, look_cons, look_any k r]
    by_cases h : p.1 = k <;> simp [h]
theorem look_app {k : κ} : ∀ {l m : List (κ × α)}, look (l ++ m) k = (look l k).or (look m k)
  | [], m => by simp [look_nil]
  | p :: r, m => by
    rw [List.cons_append, look_cons, look_cons, look_app]
    by_cases h : p.1 = k <;> simp [h]
theorem look_map_put {k j : κ} {v : α} : ∀ {l : List (κ × α)}, look (l.map fun p => if p.1 = k then (p.1, v) else p) j = if j = k then (look l j).map (fun _ => v) else look l j
  | [] => by simp [look_nil]
  | p :: r => by
    rw [List.map_cons, look_cons, look_map_put, look_cons]
    by_cases h : p.1 = k
    · by_cases h2 : j = k
      · subst h2; simp [h]
      · have h3 : ¬ p.1 = j := fun e => h2 (e.symm.trans h)
        have h4 : ¬ k = j := fun e => h2 e.symm
        simp [h, h2, h4]
    · by_cases h2 : j = k
      · subst h2; simp [h]
      · simp [h, h2]
theorem look_put {l : List (κ × α)} {k j : κ} {v : α} : look (putR l k v) j = if j = k then some v else look l j := by
  unfold putR
  rw [look_any]
  by_cases hs : (look l k).isSome = true
  · rw [if_pos hs, look_map_put]
    by_cases h : j = k
    · subst h
      rw [if_pos rfl, if_pos rfl]
      cases e : look l j with
      | none => rw [e] at hs; cases hs
      | some x => rfl
    · rw [if_neg h, if_neg h]
  · rw [if_neg hs, look_app, look_cons, look_nil]
    by_cases h : j = k
    · subst h
      have : look l j = none := by
        cases e : look l j with
        | none => rfl
        | some x => rw [e] at hs; exact absurd rfl hs
      rw [this]; simp
    · have h2 : ¬ k = j := fun e => h e.symm
      rw [if_neg h, if_neg h2]; simp
theorem putR_len {l : List (κ × α)} {k : κ} {v : α} : (putR l k v).length ≤ l.length + 1 := by
  unfold putR
  split
  · rw [List.length_map]; exact Nat.le_succ _
  · rw [List.length_append]; exact Nat.le_refl _
end
/-- rows with keys that are texts -/
def mK {α : Type} (f : α → V) (l : List (Str × α)) : List (Key × V) := l.map fun p => (.inr p.1, f p.2)
/-- rows with keys (text, int) -/
def mT {α : Type} (f : α → V) (l : List ((Str × Int) × α)) : List (List Key × V) := l.map fun p => ([.inr p.1.1, .inl p.1.2], f p.2)
section
variable {α : Type} {f : α → V}
theorem mK_len {l : List (Str × α)} : (mK f l).length = l.length := by unfold mK; rw [List.length_map]
theorem mT_len {l : List ((Str × Int) × α)} : (mT f l).length = l.length := by unfold mT; rw [List.length_map]
theorem valV_mK {k : Str} : ∀ {l : List (Str × α)}, valV (mK f l) (.inr k) = (look l k).map f
  | [] => rfl
  | p :: r => by
    show valV ((Sum.inr p.1, f p.2) :: mK f r) (.inr k) = _
    rw [look_cons]
    by_cases h : p.1 = k
    · rw [valV_pos (by simp [h]), if_pos h]; rfl
    · rw [valV_neg (by simpa using h), if_neg h, valV_mK]
theorem keyT_inj {a b : Str × Int} : ([Sum.inr a.1, Sum.inl a.2] : List Key) = [.inr b.1, .inl b.2] ↔ a = b := by
  obtain ⟨a1, a2⟩ := a
  obtain ⟨b1, b2⟩ := b
  constructor
  · intro h
    injection h with h1 h2
    injection h2 with h2 _
    injection h1 with h1
    injection h2 with h2
    exact Prod.ext h1 h2
  · intro h; cases h; rfl
theorem valV_mT {k : Str × Int} : ∀ {l : List ((Str × Int) × α)}, valV (mT f l) [.inr k.1, .inl k.2] = (look l k).map f
  | [] => rfl
  | p :: r => by
    show valV (([Sum.inr p.1.1, Sum.inl p.1.2], f p.2) :: mT f r) [.inr k.1, .inl k.2] = _
    rw [look_cons]
    by_cases h : p.1 = k
    · rw [valV_pos (keyT_inj.mpr h), if_pos h]; rfl
    · rw [valV_neg (fun e => h (keyT_inj.mp e)), if_neg h, valV_mT]
theorem putK_mK {l : List (Str × α)} {k : Str} {v : α} : putK (mK f l) (.inr k) (f v) = mK f (putR l k v) := by
  unfold putK putR
  rw [valV_any, valV_mK, look_any, Option.isSome_map]
  split
  · unfold mK
    rw [List.map_map, List.map_map]
    refine List.map_congr_left fun p _ => ?_
    by_cases h : p.1 = k <;> simp [h]
  · unfold mK
    rw [List.map_append]; rfl
theorem putK_mT {l : List ((Str × Int) × α)} {k : Str × Int} {v : α} : putK (mT f l) [.inr k.1, .inl k.2] (f v) = mT f (putR l k v) := by
  unfold putK putR
  rw [valV_any, valV_mT, look_any, Option.isSome_map]
  split
  · unfold mT
    rw [List.map_map, List.map_map]
    refine List.map_congr_left fun p _ => ?_
    by_cases h : p.1 = k
    · have e := keyT_inj.mpr h
      simp only [Function.comp, e, h, if_true]
    · have e : ¬ ([Sum.inr p.1.1, Sum.inl p.1.2] : List Key) = [.inr k.1, .inl k.2] := fun e => h (keyT_inj.mp e)
      simp only [Function.comp, e, h, if_false]
  · unfold mT
    rw [List.map_append]; rfl
end
/-! ### steps: reads and puts -/
section
variable {K : PySem.W.Frag} {B H : Hp} {L L' : List (Addr × HO)} {I : List Im} {Q : VK} {σ : L2.St} {d b : Addr} {α : Type} {f : α → V}
def kGet1 (ty : TE) (σ : L2.St) (Q : VK) : VK := fun x H1 => ∃ a, x = .ref a ∧ IsD H1 a ∧ ty σ H1 fun y H2 => ∃ o, DGetN H2 a y o ∧ Q (o.getD .non) H2
def kGetK1 (a : Addr) (Q : VK) : VK := fun y H2 => ∃ o, DGetN H2 a y o ∧ Q (o.getD .non) H2
def kGet2 (ty tx : TE) (σ : L2.St) (Q : VK) : VK := fun x H1 => ∃ a, x = .ref a ∧ IsD H1 a ∧ ty σ H1 fun y H2 => tx σ H2 fun z H3 => ∃ o, DGetN H3 a y o ∧ Q (o.getD z) H3
def kGetY2 (a : Addr) (tx : TE) (σ : L2.St) (Q : VK) : VK := fun y H2 => tx σ H2 fun z H3 => ∃ o, DGetN H3 a y o ∧ Q (o.getD z) H3
def kGetZ2 (a : Addr) (y : V) (Q : VK) : VK := fun z H3 => ∃ o, DGetN H3 a y o ∧ Q (o.getD z) H3
theorem s_g1 {td ty : TE} (h : td σ H (kGet1 ty σ Q)) : tGet1 td ty σ H Q := h
theorem s_g2 {td ty tx : TE} (h : td σ H (kGet2 ty tx σ Q)) : tGet2 td ty tx σ H Q := h
theorem s_g1K {ty : TE} {l : List (Key × V)} (m : H d = some (.dK l)) (h : ty σ H (kGetK1 d Q)) : kGet1 ty σ Q (.ref d) H := ⟨d, rfl, .inl ⟨l, .inl m⟩, h⟩
theorem s_g1T {ty : TE} {l : List (List Key × V)} (m : H d = some (.dT l)) (h : ty σ H (kGetK1 d Q)) : kGet1 ty σ Q (.ref d) H := ⟨d, rfl, .inr ⟨l, .inl m⟩, h⟩
theorem s_g2K {ty tx : TE} {l : List (Key × V)} (m : H d = some (.dK l)) (h : ty σ H (kGetY2 d tx σ Q)) : kGet2 ty tx σ Q (.ref d) H := ⟨d, rfl, .inl ⟨l, .inl m⟩, h⟩
theorem s_g2T {ty tx : TE} {l : List (List Key × V)} (m : H d = some (.dT l)) (h : ty σ H (kGetY2 d tx σ Q)) : kGet2 ty tx σ Q (.ref d) H := ⟨d, rfl, .inr ⟨l, .inl m⟩, h⟩
theorem s_g2y {tx : TE} {y : V} (h : tx σ H (kGetZ2 d y Q)) : kGetY2 d tx σ Q y H := h
theorem s_g1Kv {l : List (Str × α)} {x : Str} (m : H d = some (.dK (mK f l))) (q : Q (((look l x).map f).getD .non) H) : kGetK1 d Q (.str x) H := ⟨_, .inl (.inl ⟨_, .inr x, .inl m, rfl, rfl⟩), by rw [valV_mK]; exact q⟩
theorem s_g1Kn {l : List (Key × V)} (m : H d = some (.dK l)) (q : Q .non H) : kGetK1 d Q .non H := ⟨none, .inr ⟨rfl, rfl, l, .inl m⟩, q⟩
theorem s_g2Kv {l : List (Str × α)} {x : Str} {z : V} (m : H d = some (.dK (mK f l))) (q : Q (((look l x).map f).getD z) H) : kGetZ2 d (.str x) Q z H := ⟨_, .inl (.inl ⟨_, .inr x, .inl m, rfl, rfl⟩), by rw [valV_mK]; exact q⟩
theorem s_g2Kn {l : List (Key × V)} {z : V} (m : H d = some (.dK l)) (q : Q z H) : kGetZ2 d .non Q z H := ⟨none, .inr ⟨rfl, rfl, l, .inl m⟩, q⟩
theorem s_g2Tv {l : List ((Str × Int) × α)} {x : Str} {i : Int} {z : V} (m : H d = some (.dT (mT f l))) (mb : H b = some (.tup [.str x, .int i])) (q : Q (((look l (x, i)).map f).getD z) H) : kGetZ2 d (.ref b) Q z H :=
  ⟨_, .inl (.inr ⟨_, [.inr x, .inl i], b, .inl m, rfl, mb, rfl⟩), by rw [valV_mT (k := (x, i))]; exact q⟩
theorem s_g1Ke {l : List (Str × α)} {x : Str} {v : α} (m : H d = some (.dK (mK f l))) (e : look l x = some v) (q : Q (f v) H) : kGetK1 d Q (.str x) H := s_g1Kv m (by rw [e]; exact q)
theorem s_g1Kz {l : List (Str × α)} {x : Str} (m : H d = some (.dK (mK f l))) (e : look l x = none) (q : Q .non H) : kGetK1 d Q (.str x) H := s_g1Kv m (by rw [e]; exact q)
theorem s_g2Ke {l : List (Str × α)} {x : Str} {v : α} {z : V} (m : H d = some (.dK (mK f l))) (e : look l x = some v) (q : Q (f v) H) : kGetZ2 d (.str x) Q z H := s_g2Kv m (by rw [e]; exact q)
theorem s_g2Kz {l : List (Str × α)} {x : Str} {z : V} (m : H d = some (.dK (mK f l))) (e : look l x = none) (q : Q z H) : kGetZ2 d (.str x) Q z H := s_g2Kv m (by rw [e]; exact q)
theorem s_g2TI {l : List ((Str × Int) × Int)} {x : Str} {i z : Int} (m : H d = some (.dT (mT V.int l))) (mb : H b = some (.tup [.str x, .int i])) (q : Q (.int ((look l (x, i)).getD z)) H) : kGetZ2 d (.ref b) Q (.int z) H :=
  s_g2Tv m mb (by cases e : look l (x, i) with
    | none => rw [e] at q; exact q
    | some v => rw [e] at q; exact q)
theorem s_ninKe {l : List (Str × α)} {x : Str} {v : α} (m : H d = some (.dK (mK f l))) (e : look l x = some v) (q : Q (.bl false) H) : rNotInV K (.str x) (.ref d) H Q :=
  .inl (.inr (.inl ⟨d, _, rfl, .inl ⟨_, .inr x, .inl m, rfl, rfl⟩, by rw [valV_mK, Option.isSome_map, e]; exact q⟩))
theorem s_ninKz {l : List (Str × α)} {x : Str} (m : H d = some (.dK (mK f l))) (e : look l x = none) (q : Q (.bl true) H) : rNotInV K (.str x) (.ref d) H Q :=
  .inl (.inr (.inl ⟨d, _, rfl, .inl ⟨_, .inr x, .inl m, rfl, rfl⟩, by rw [valV_mK, Option.isSome_map, e]; exact q⟩))
/-- a tuple made, tracked -/
theorem s_tupP {xs : List V} (hC : Ctx K B H L I) (hz : xs.length ≤ 1000) (k : ∀ p H1, Ctx K B H1 L (.pr (fun H => H p = some (.tup xs)) (fun _ _ s h => s _ _ h rfl) :: .tup p xs :: I) → Q (.ref p) H1) : kTup Q xs H :=
  ⟨Nat.le_trans hz (by decide), fun p hp => k p _ ((hC.newT hp).add (i := .pr (fun H => H p = some (.tup xs)) (fun _ _ s h => s _ _ h rfl)) upd_same)⟩
/-- d[x] -/
theorem s_ixKv {l : List (Str × α)} {x : Str} {v : α} (m : H d = some (.dK (mK f l))) (e : look l x = some v) (q : Q (f v) H) : rIxU K (.ref d) (.str x) H Q :=
  .inr (.inr (.inr ⟨d, f v, rfl, .inl ⟨_, .inr x, .inl m, rfl, by rw [valV_mK, e]; rfl⟩, q⟩))
theorem s_ixTv {l : List ((Str × Int) × α)} {x : Str} {i : Int} {v : α} (m : H d = some (.dT (mT f l))) (mb : H b = some (.tup [.str x, .int i])) (e : look l (x, i) = some v) (q : Q (f v) H) : rIxU K (.ref d) (.ref b) H Q :=
  .inr (.inr (.inr ⟨d, f v, rfl, .inr ⟨_, [.inr x, .inl i], b, .inl m, rfl, mb, by rw [valV_mT (k := (x, i)), e]; rfl⟩, q⟩))
/-- x in d, x not in d -/
theorem s_inKv {l : List (Str × α)} {x : Str} (m : H d = some (.dK (mK f l))) (q : Q (.bl (look l x).isSome) H) : rInV K (.str x) (.ref d) H Q :=
  .inl (.inr (.inl ⟨d, _, rfl, .inl ⟨_, .inr x, .inl m, rfl, rfl⟩, by rw [valV_mK, Option.isSome_map]; exact q⟩))
theorem s_ninKv {l : List (Str × α)} {x : Str} (m : H d = some (.dK (mK f l))) (q : Q (.bl (!(look l x).isSome)) H) : rNotInV K (.str x) (.ref d) H Q :=
  .inl (.inr (.inl ⟨d, _, rfl, .inl ⟨_, .inr x, .inl m, rfl, rfl⟩, by rw [valV_mK, Option.isSome_map]; exact q⟩))
theorem s_inKn {l : List (Key × V)} (m : H d = some (.dK l)) (q : Q (.bl false) H) : rInV K .non (.ref d) H Q := .inr ⟨d, l, rfl, rfl, .inl m, q⟩
theorem s_ninKn {l : List (Key × V)} (m : H d = some (.dK l)) (q : Q (.bl true) H) : rNotInV K .non (.ref d) H Q := .inr ⟨d, l, rfl, rfl, .inl m, q⟩
/-- d[x] = v -/
theorem s_putKv {R : Hp → Prop} {l : List (Str × α)} {x : Str} {v : α} (hC : Ctx K B H L I) (m : H d = some (.dK (mK f l))) (z : l.length < 100000) (u : Up d (.dK (mK f (putR l x v))) L L') (q : ∀ H1, Ctx K B H1 L' I → R H1) : rSetU (.ref d) (.str x) (f v) H R :=
  .inr ⟨d, _, rfl, DPut.k (k := Sum.inr x) m (by rw [mK_len]; exact Nat.lt_of_lt_of_le z (by decide)), by rw [putK_mK]; exact q _ (hC.put u rfl)⟩
theorem s_putTv {R : Hp → Prop} {l : List ((Str × Int) × α)} {x : Str} {i : Int} {v : α} (hC : Ctx K B H L I) (m : H d = some (.dT (mT f l))) (mb : H b = some (.tup [.str x, .int i])) (z : l.length < 100000) (u : Up d (.dT (mT f (putR l (x, i) v))) L L') (q : ∀ H1, Ctx K B H1 L' I → R H1) : rSetU (.ref d) (.ref b) (f v) H R :=
  .inr ⟨d, _, rfl, DPut.t (k := [Sum.inr x, Sum.inl i]) m mb (by rw [mT_len]; exact Nat.lt_of_lt_of_le z (by decide)), by rw [putK_mT (k := (x, i))]; exact q _ (hC.put u rfl)⟩
end
theorem TDs_at {K : PySem.W.Frag} {H : Hp} {d : PyData} : ∀ {vs : List V} {ds : List PyData} {i : Nat}, TDs K H vs ds → ds[i]? = some d → ∃ v, vs[i]? = some v ∧ TD K H v d
  | _, _, 0, .cons a b, h => by
    have e : _ = d := Option.some.inj h
    exact ⟨_, rfl, e ▸ a⟩
  | _, _, i + 1, .cons a b, h => by
    obtain ⟨v, e, q⟩ := TDs_at (i := i) b (by simpa using h)
    exact ⟨v, by simpa using e, q⟩
  | _, _, _, .nil, h => by simp at h
theorem TDs_set {K : PySem.W.Frag} {H : Hp} {v : V} {d : PyData} : ∀ {vs : List V} {ds : List PyData} {i : Nat}, TDs K H vs ds → TD K H v d → TDs K H (vs.set i v) (ds.set i d)
  | _, _, 0, .cons a b, q => .cons q b
  | _, _, i + 1, .cons a b, q => .cons a (TDs_set (i := i) b q)
  | _, _, _, .nil, q => .nil
end Ph
namespace Ph
open PySem PySem.Spec PyProof.Rows L2
section
variable {K : PySem.W.Frag} {B H : Hp} {L L' F : List (Addr × HO)} {I : List Im} {Q : VK} {σ : L2.St} {A Cb Dc : L2.St → Hp → Prop} {Bt : VK}
variable {J : It} {n : Nat} {G : Hp → Prop} {Y : Nat → Hp → V → Hp → Prop}
theorem s_yes {Qb : Bool → Hp → Prop} (h : Qb true H) : tYes σ H Qb := h
/-! the walked thing -/
def kIt (K : PySem.W.Frag) (R : It → Hp → Prop) : VK := fun x H1 => ∃ a, x = .ref a ∧ (∃ xs, SqT K H1 a xs) ∧ R (Itt K a) H1
theorem s_it {tl : TE} {R : It → Hp → Prop} (h : tl σ H (kIt K R)) : iTup K tl σ H R := h
theorem s_itV {a : Addr} {xs : List V} {R : It → Hp → Prop} (m : SqT K H a xs) (h : R (Itt K a) H) : kIt K R (.ref a) H := ⟨a, rfl, ⟨xs, m⟩, h⟩
def kSeq (K : PySem.W.Frag) (R : It → Hp → Prop) : VK := fun x H1 => ∃ a, x = .ref a ∧ (((∃ xs, SqL K H1 a xs) ∧ R (Itl K a) H1) ∨ ((∃ xs, SqT K H1 a xs) ∧ R (Itt K a) H1))
theorem s_seqI {tl : TE} {R : It → Hp → Prop} (h : tl σ H (kSeq K R)) : iSeq K tl σ H R := h
theorem s_seqL {a : Addr} {xs : List V} {R : It → Hp → Prop} (m : H a = some (.lst xs)) (h : R (Itl K a) H) : kSeq K R (.ref a) H := ⟨a, rfl, .inl ⟨⟨xs, SqL.of m⟩, h⟩⟩
theorem s_seqT {a : Addr} {xs : List V} {R : It → Hp → Prop} (m : SqT K H a xs) (h : R (Itt K a) H) : kSeq K R (.ref a) H := ⟨a, rfl, .inr ⟨⟨xs, m⟩, h⟩⟩
def kKeys (R : It → Hp → Prop) : VK := fun x H1 => ∃ d o, x = .ref d ∧ ((∃ kvs, H1 d = some (.frz o (.dK kvs)) ∧ R (Itk d o kvs) H1) ∨ ∃ kvs, H1 d = some (.frz o (.dT kvs)) ∧ R (Itkt d o kvs) H1)
theorem s_keys {td : TE} {R : It → Hp → Prop} (h : td σ H (kKeys R)) : iKeys td σ H R := h
theorem s_keysK {d : Addr} {o : Obj} {kvs : List (Key × V)} {R : It → Hp → Prop} (m : H d = some (.frz o (.dK kvs))) (h : R (Itk d o kvs) H) : kKeys R (.ref d) H := ⟨d, o, rfl, .inl ⟨kvs, m, h⟩⟩
theorem s_keysT {d : Addr} {o : Obj} {kvs : List (List Key × V)} {R : It → Hp → Prop} (m : H d = some (.frz o (.dT kvs))) (h : R (Itkt d o kvs) H) : kKeys R (.ref d) H := ⟨d, o, rfl, .inr ⟨kvs, m, h⟩⟩
/-! for -/
theorem for_w (w : Walk J n G Y) {g : TG} {tb : TS} (Pv : Nat → L2.St → Hp → Prop) (h0 : Pv 0 σ H) (hG : ∀ i σ H, i ≤ n → Pv i σ H → G H)
    (hs : ∀ i x σ H H', i < n → Pv i σ H → Y i H x H' → g x σ H' fun σ2 H2 => tb ⟨Pv (i + 1), Bt, A, Pv (i + 1)⟩ σ2 H2) (hd : ∀ σ H, Pv n σ H → A σ H) : kFor g tb ⟨A, Bt, Cb, Dc⟩ σ J H :=
  for_it w (g := g) (tb := tb) (D := ⟨A, Bt, Cb, Dc⟩) Pv h0 hG hs hd
/-! comprehensions -/
theorem lc_w (w : Walk J n G Y) {g : TG} {tt : TT} {te : TE} {vs : List Nat} (hC : Ctx K B H L I) (Pv : Addr → Nat → Hp → Prop) (h0 : ∀ D H1, Ctx K B H1 ((D, .lst []) :: L) I → Pv D 0 H1) (hG : ∀ D i H, i ≤ n → Pv D i H → G H)
    (hs : ∀ i x D H H', i < n → Pv D i H → Y i H x H' → g x (wipe σ vs) H' fun σ2 H2 => wipe σ2 vs = wipe σ vs ∧ tt σ2 H2 fun b H3 => if b = true then te σ2 H3 (kApp D (Pv D (i + 1))) else Pv D (i + 1) H3)
    (hd : ∀ D H, Pv D n H → Q (.ref D) H) : kLc g tt te vs σ Q J H := fun D hD =>
  lc_it w (g := g) (tt := tt) (te := te) (vs := vs) (σ := σ) (H1 := H) (D := D) (Qd := fun H => Q (.ref D) H) (fun i H => Pv D i H) (h0 D _ (hC.newM hD rfl)) (fun i H hi p => hG D i H hi p)
    (fun i x H H' hi p y => hs i x D H H' hi p y) (fun H p => hd D H p)
/-! any, all -/
section
variable {b0 : Bool} {g g0 g1 : TG} {tt tt0 tt1 : TT} {te : TE} {vs vs1 : List Nat} {P : Addr} {wi wi1 : TI} {tb : Array Value}
abbrev cyA (b0 : Bool) : V → Prop := fun y => y = .bl (!b0)
abbrev pyA (b0 : Bool) (Q : VK) : List V → V → Hp → Prop := fun _ y H' => ∃ b, y = .bl b ∧ (b = b0 → Q (.bl b0) H')
def kAnyW (b0 : Bool) (g : TG) (tt : TT) (te : TE) (vs : List Nat) (σ : L2.St) (Q : VK) : It → Hp → Prop := fun J H2 => ∃ W : Nat → Nat → List V → Hp → Prop, (∃ m, W 0 m [] H2) ∧ GW J g tt te vs σ (cyA b0) (pyA b0 Q) (fun _ H' => Q (.bl (!b0)) H') W
def kAnyG (P : Addr) (b0 : Bool) (g : TG) (tt : TT) (te : TE) (vs : List Nat) (σ : L2.St) (Q : VK) : It → Hp → Prop := fun J H1 => GxR.TabG H1 P ∧ ∀ H2, GxR.Tabbed P H1 H2 → kAnyW b0 g tt te vs σ Q J H2
theorem s_anyX (h : wi σ H (kAnyG P b0 g tt te vs σ Q)) : tAnyX b0 P wi g tt te vs σ H Q := h
theorem tabbed_ctx {R : Hp → Prop} (hC : Ctx K B H L I) (m : Pick (P, .tbl tb) L L') (f : Im.tri tb ∈ I) (k : ∀ tb' H1, Ctx K B H1 ((P, .tbl tb') :: L') (.tri tb' :: I) → R H1) : GxR.TabG H P ∧ ∀ H2, GxR.Tabbed P H H2 → R H2 := by
  have hC := hC.pick m
  refine ⟨⟨tb, hC.get List.mem_cons_self, hC.tri f⟩, fun Hb hT => ?_⟩
  obtain ⟨⟨tb', h1, h2⟩, h3⟩ := hT
  exact k tb' Hb ((hC.but List.mem_cons_self .here rfl (fun b u n e => by rw [h3 b n]; exact e) h1).add (i := .tri tb') h2)
theorem s_anyGV (hC : Ctx K B H L I) (m : Pick (P, .tbl tb) L L') (f : Im.tri tb ∈ I) (k : ∀ tb' H1, Ctx K B H1 ((P, .tbl tb') :: L') (.tri tb' :: I) → kAnyW b0 g tt te vs σ Q J H1) : kAnyG P b0 g tt te vs σ Q J H := tabbed_ctx hC m f k
/-- one value of the generator: either it ends here, or on -/
def kAnyE (b0 : Bool) (ys : List V) (c : Nat) (Pn : Hp → Prop) (Q : VK) : VK := fun y H4 => ys.length < sizeLine ∧ pyA b0 Q ys y H4 ∧ (cyA b0 y → (ys ++ [y]).length ≤ c ∧ Pn H4)
theorem s_anyE {ys : List V} {c : Nat} {b : Bool} {Pn : Hp → Prop} (z : ys.length < c) (z2 : c ≤ 1000000) (h : if b = b0 then Q (.bl b0) H else Pn H) : kAnyE b0 ys c Pn Q (.bl b) H := by
  refine ⟨by rw [sizeLine_eq]; omega, ⟨b, rfl, fun e => ?_⟩, fun e => ⟨by rw [List.length_append]; exact z, ?_⟩⟩
  · rw [if_pos e] at h
    exact h
  · have e2 : b = !b0 := V.bl.inj e
    rw [if_neg (by rw [e2]; cases b0 <;> simp)] at h
    exact h
theorem any_w (w : Walk J n G Y) (hn : n ≤ 100000) (Pv : Nat → Hp → Prop) (h0 : Pv 0 H) (hG : ∀ i H, i ≤ n → Pv i H → G H)
    (hs : ∀ i x H H' (ys : List V), i < n → ys.length < i + 1 → i + 1 ≤ 1000000 → Pv i H → Y i H x H' → g x (wipe σ vs) H' fun σ2 H2 => wipe σ2 vs = wipe σ vs ∧ tt σ2 H2 fun b H3 => if b = true then te σ2 H3 (kAnyE b0 ys (i + 1) (Pv (i + 1)) Q) else ys.length ≤ i + 1 ∧ Pv (i + 1) H3)
    (hd : ∀ H, Pv n H → Q (.bl (!b0)) H) : kAnyW b0 g tt te vs σ Q J H := by
  refine ⟨fun i m ys H => m = n - i ∧ i ≤ n ∧ ys.length ≤ i ∧ Pv i H, ⟨n, by simp, Nat.zero_le _, Nat.le_refl _, h0⟩, ?_⟩
  rintro i m ys H ⟨rfl, hi, hy, p⟩
  by_cases hlt : i < n
  · refine .inr ⟨w.goes i H hlt (hG i H hi p), fun ys H => ys.length ≤ i + 1 ∧ Pv (i + 1) H, fun ys' H' p' => ⟨n - (i + 1), by omega, rfl, hlt, p'.1, p'.2⟩, fun x H' y => ?_⟩
    exact hs i x H H' ys hlt (by omega) (by omega) p (w.yields i H x H' hlt (hG i H hi p) y)
  · have e : i = n := by omega
    subst e
    exact .inl ⟨w.stops H (hG _ H hi p), hd H p⟩
/-! two fors -/
def kAnyW2 (b0 : Bool) (g0 : TG) (tt0 : TT) (wi1 : TI) (g1 : TG) (tt1 : TT) (te : TE) (vs vs1 : List Nat) (σ : L2.St) (Q : VK) : It → Hp → Prop := fun J H2 => ∃ W : Nat → Nat → List V → Hp → Prop, (∃ m, W 0 m [] H2) ∧ GW2 J g0 tt0 wi1 g1 tt1 te vs vs1 σ (cyA b0) (pyA b0 Q) (fun _ H' => Q (.bl (!b0)) H') W
def kAnyG2 (P : Addr) (b0 : Bool) (g0 : TG) (tt0 : TT) (wi1 : TI) (g1 : TG) (tt1 : TT) (te : TE) (vs vs1 : List Nat) (σ : L2.St) (Q : VK) : It → Hp → Prop := fun J H1 => GxR.TabG H1 P ∧ ∀ H2, GxR.Tabbed P H1 H2 → kAnyW2 b0 g0 tt0 wi1 g1 tt1 te vs vs1 σ Q J H2
theorem s_anyX2 (h : wi σ H (kAnyG2 P b0 g0 tt0 wi1 g1 tt1 te vs vs1 σ Q)) : tAnyX2 b0 P wi g0 tt0 wi1 g1 tt1 te vs vs1 σ H Q := h
theorem s_anyGV2 (hC : Ctx K B H L I) (m : Pick (P, .tbl tb) L L') (f : Im.tri tb ∈ I) (k : ∀ tb' H1, Ctx K B H1 ((P, .tbl tb') :: L') (.tri tb' :: I) → kAnyW2 b0 g0 tt0 wi1 g1 tt1 te vs vs1 σ Q J H1) : kAnyG2 P b0 g0 tt0 wi1 g1 tt1 te vs vs1 σ Q J H := tabbed_ctx hC m f k
/-- the inner for: at most 1000 turns -/
def kAnyIn (b0 : Bool) (g1 : TG) (tt1 : TT) (te : TE) (vs1 : List Nat) (σ : L2.St) (Q : VK) (ys : List V) (c : Nat) (Pn : Hp → Prop) : It → Hp → Prop := fun J1 H4 => ∃ W1 : Nat → Nat → List V → Hp → Prop, (∃ m, W1 0 m ys H4) ∧ GW J1 g1 tt1 te vs1 σ (cyA b0) (pyA b0 Q) (fun ys H => ys.length ≤ c ∧ Pn H) W1
theorem any_w2 (w : Walk J n G Y) (hn : n ≤ 100) (Pv : Nat → Hp → Prop) (h0 : Pv 0 H) (hG : ∀ i H, i ≤ n → Pv i H → G H)
    (hs : ∀ i x H H' (ys : List V), i < n → ys.length ≤ 1000 * i → i ≤ 100 → Pv i H → Y i H x H' → g0 x (wipe σ vs) H' fun σ2 H2 => wipe σ2 vs = wipe σ vs ∧ tt0 σ2 H2 fun b H3 =>
      if b = true then wi1 σ2 H3 (kAnyIn b0 g1 tt1 te vs1 σ2 Q ys (1000 * (i + 1)) (Pv (i + 1))) else ys.length ≤ 1000 * (i + 1) ∧ Pv (i + 1) H3)
    (hd : ∀ H, Pv n H → Q (.bl (!b0)) H) : kAnyW2 b0 g0 tt0 wi1 g1 tt1 te vs vs1 σ Q J H := by
  refine ⟨fun i m ys H => m = n - i ∧ i ≤ n ∧ ys.length ≤ 1000 * i ∧ Pv i H, ⟨n, by simp, Nat.zero_le _, Nat.le_refl _, h0⟩, ?_⟩
  rintro i m ys H ⟨rfl, hi, hy, p⟩
  by_cases hlt : i < n
  · refine .inr ⟨w.goes i H hlt (hG i H hi p), fun ys H => ys.length ≤ 1000 * (i + 1) ∧ Pv (i + 1) H, fun ys' H' p' => ⟨n - (i + 1), by omega, rfl, hlt, p'.1, p'.2⟩, fun x H' y => ?_⟩
    exact hs i x H H' ys hlt hy (by omega) p (w.yields i H x H' hlt (hG i H hi p) y)
  · have e : i = n := by omega
    subst e
    exact .inl ⟨w.stops H (hG _ H hi p), hd H p⟩
theorem any_in {ys : List V} {c : Nat} {Pn : Hp → Prop} (w : Walk J n G Y) (hn : n ≤ 1000) (hy : ys.length + 1000 ≤ c) (hc : c ≤ 1000000) (Pv : Nat → Hp → Prop) (h0 : Pv 0 H) (hG : ∀ i H, i ≤ n → Pv i H → G H)
    (hs : ∀ i x H H' (ys : List V) (c' : Nat), i < n → ys.length < c' → c' ≤ 1000000 → Pv i H → Y i H x H' → g1 x (wipe σ vs1) H' fun σ2 H2 => wipe σ2 vs1 = wipe σ vs1 ∧ tt1 σ2 H2 fun b H3 => if b = true then te σ2 H3 (kAnyE b0 ys c' (Pv (i + 1)) Q) else ys.length ≤ c' ∧ Pv (i + 1) H3)
    (hd : ∀ H, Pv n H → Pn H) : kAnyIn b0 g1 tt1 te vs1 σ Q ys c Pn J H := by
  refine ⟨fun i m zs H => m = n - i ∧ i ≤ n ∧ zs.length ≤ ys.length + i ∧ Pv i H, ⟨n, by simp, Nat.zero_le _, Nat.le_refl _, h0⟩, ?_⟩
  rintro i m zs H ⟨rfl, hi, hz, p⟩
  by_cases hlt : i < n
  · refine .inr ⟨w.goes i H hlt (hG i H hi p), fun zs H => zs.length ≤ ys.length + i + 1 ∧ Pv (i + 1) H, fun ys' H' p' => ⟨n - (i + 1), by omega, rfl, hlt, p'.1, p'.2⟩, fun x H' y => ?_⟩
    exact hs i x H H' zs (ys.length + i + 1) hlt (by omega) (by omega) p (w.yields i H x H' hlt (hG i H hi p) y)
  · have e : i = n := by omega
    subst e
    exact .inl ⟨w.stops H (hG _ H hi p), by omega, hd H p⟩
end
/-! locks -/
def kUnl (d : Addr) (od : Obj) (u : HO) (Q : VK) : VK := fun v H' => H' d = some (.frz od u) ∧ Q v (upd H' d u)
theorem s_lock {t : TE} {d : Addr} {u : HO} (hC : Ctx K B H L I) (m : Pick (d, u) L L') (mu : Mut (some u))
    (k : ∀ od H1, Stb H H1 → Ctx K H1 H1 L' (.pr (fun H => H d = some (.frz od u)) (fun _ _ s h => s _ _ h rfl) :: I) → t σ H1 (kUnl d od u Q)) : tLockE t σ H Q := by
  have hC := hC.pick m
  have e := hC.lay.at_ _ List.mem_cons_self
  refine ⟨d, u, hC.get List.mem_cons_self, mu, fun od => ?_⟩
  have s : Stb H (upd H d (.frz od u)) := Stb.put e.1 e.2
  refine k od _ s ?_
  refine ⟨⟨(List.nodup_cons.mp hC.lay.nd).2, fun p hp => ?_⟩, fun i hi => ?_, Stb.refl _⟩
  · have q := hC.lay.at_ p (List.mem_cons_of_mem _ hp)
    have ne : p.1 ≠ d := hC.lay.ne (u := p.2) hp
    exact ⟨by rw [upd_ne ne]; exact q.1, q.2⟩
  · rcases List.mem_cons.mp hi with rfl | hi
    · exact upd_same
    · exact Im.mono s (hC.im i hi)
/-- the lock goes: hC0 from before it -/
theorem unlock {d : Addr} {od : Obj} {u : HO} {H1 H2 : Hp} {L2' : List (Addr × HO)} {J : List Im} (hC0 : Ctx K B H L I) (m : Pick (d, u) L L') (e1 : Stb H H1) (hC : Ctx K H1 H2 L2' J) (f : H2 d = some (.frz od u)) :
    Ctx K B (upd H2 d u) ((d, u) :: L2') I := by
  have h0 := hC0.pick m
  have e := h0.lay.at_ _ List.mem_cons_self
  have s : Stb H (upd H2 d u) := fun b w hb mw => by
    have ne : b ≠ d := fun z => by
      rw [z, e.1] at hb
      cases hb
      rw [e.2] at mw
      cases mw
    rw [upd_ne ne]
    exact hC.sb b w (e1 b w hb mw) mw
  refine h0.moved s ⟨?_, fun p hp => ?_⟩
  · rw [List.map_cons, List.nodup_cons]
    refine ⟨fun z => ?_, hC.lay.nd⟩
    obtain ⟨q, hq, eq⟩ := List.mem_map.mp z
    have z2 := hC.lay.at_ q hq
    rw [eq, f] at z2
    have z3 := Option.some.inj z2.1
    have z4 := z2.2
    rw [← z3] at z4
    cases z4
  · rcases List.mem_cons.mp hp with rfl | hp
    · exact ⟨upd_same, e.2⟩
    · have q := hC.lay.at_ p hp
      have ne : p.1 ≠ d := fun z => by
        rw [z, f] at q
        have z3 := Option.some.inj q.1
        have z4 := q.2
        rw [← z3] at z4
        cases z4
      exact ⟨by rw [upd_ne ne]; exact q.1, q.2⟩
theorem s_unl {d : Addr} {od : Obj} {u : HO} {v : V} {H1 H2 : Hp} {L2' : List (Addr × HO)} {J : List Im} (hC0 : Ctx K B H L I) (m : Pick (d, u) L L') (e1 : Stb H H1) (hC : Ctx K H1 H2 L2' J) (f : H2 d = some (.frz od u)) (k : ∀ H3, Ctx K B H3 ((d, u) :: L2') I → Q v H3) : kUnl d od u Q v H2 := ⟨f, k _ (unlock hC0 m e1 hC f)⟩
end
/-- a dict's rows of plain data: both lists by the same keys -/
theorem look_TDs {K : PySem.W.Frag} {H : Hp} {κ α : Type} [DecidableEq κ] {d : α → PyData} {k : κ} : ∀ {vc : List (κ × V)} {cl : List (κ × α)}, vc.map (·.1) = cl.map (·.1) → TDs K H (vc.map (·.2)) (cl.map fun p => d p.2) →
    (look cl k = none ∧ look vc k = none) ∨ ∃ r v, look cl k = some r ∧ look vc k = some v ∧ TD K H v (d r)
  | [], [], _, _ => .inl ⟨rfl, rfl⟩
  | [], _ :: _, h, _ => by simp at h
  | _ :: _, [], h, _ => by simp at h
  | p :: r, q :: s, h1, h2 => by
    simp only [List.map_cons, List.cons.injEq] at h1 h2
    cases h2 with
    | cons a b =>
      rw [look_cons, look_cons]
      by_cases e : q.1 = k
      · rw [if_pos e, if_pos (h1.1.trans e)]
        exact .inr ⟨_, _, rfl, rfl, a⟩
      · rw [if_neg e, if_neg (fun z => e (h1.1.symm.trans z))]
        exact look_TDs h1.2 b
theorem any_keys {κ α : Type} [DecidableEq κ] {k : κ} (l : List (κ × α)) : (l.any fun p => decide (p.1 = k)) = ((l.map (·.1)).any fun x => decide (x = k)) := by
  rw [List.any_map]; rfl
theorem put_keys {κ α β : Type} [DecidableEq κ] {k : κ} {v : α} {w : β} {l : List (κ × α)} {m : List (κ × β)} (h : l.map (·.1) = m.map (·.1)) : (putR l k v).map (·.1) = (putR m k w).map (·.1) := by
  have e : ∀ {γ : Type} (u : γ) (l : List (κ × γ)), (l.map fun p => if p.1 = k then (p.1, u) else p).map (·.1) = l.map (·.1) := fun u l => by
    rw [List.map_map]
    refine List.map_congr_left fun p _ => ?_
    by_cases h : p.1 = k <;> simp [h]
  unfold putR
  rw [any_keys l, any_keys m, h]
  split
  · rw [e, e, h]
  · rw [List.map_append, List.map_append, h]; rfl
theorem mapput_TDs {K : PySem.W.Frag} {H : Hp} {κ α : Type} [DecidableEq κ] {d : α → PyData} {k : κ} {v : V} {x : α} (q : TD K H v (d x)) : ∀ {vc : List (κ × V)} {cl : List (κ × α)}, vc.map (·.1) = cl.map (·.1) → TDs K H (vc.map (·.2)) (cl.map fun p => d p.2) →
    TDs K H ((vc.map fun p => if p.1 = k then (p.1, v) else p).map (·.2)) ((cl.map fun p => if p.1 = k then (p.1, x) else p).map fun p => d p.2)
  | [], [], _, _ => .nil
  | [], _ :: _, h, _ => by simp at h
  | _ :: _, [], h, _ => by simp at h
  | p :: r, c :: s, h1, h2 => by
    simp only [List.map_cons, List.cons.injEq] at h1 h2
    cases h2 with
    | cons a b =>
      have ih := mapput_TDs (k := k) q h1.2 b
      simp only [List.map_cons]
      by_cases e : c.1 = k
      · rw [if_pos e, if_pos (h1.1.trans e)]
        exact .cons q ih
      · rw [if_neg e, if_neg (fun z => e (h1.1.symm.trans z))]
        exact .cons a ih
theorem put_TDs {K : PySem.W.Frag} {H : Hp} {κ α : Type} [DecidableEq κ] {d : α → PyData} {k : κ} {v : V} {x : α} {vc : List (κ × V)} {cl : List (κ × α)} (h1 : vc.map (·.1) = cl.map (·.1)) (h2 : TDs K H (vc.map (·.2)) (cl.map fun p => d p.2)) (q : TD K H v (d x)) :
    TDs K H ((putR vc k v).map (·.2)) ((putR cl k x).map fun p => d p.2) := by
  unfold putR
  rw [any_keys vc, any_keys cl, h1]
  split
  · exact mapput_TDs q h1 h2
  · rw [List.map_append, List.map_append]
    exact TDs.snoc h2 q
section
variable {K : PySem.W.Frag} {B H : Hp} {L L' : List (Addr × HO)} {I : List Im} {Q : VK} {d : Addr}
/-- tuple(..), list(..) -/
theorem s_tupOfL {p : Addr} {ys : List V} (hC : Ctx K B H L I) (m : H p = some (.lst ys)) (k : ∀ l H1, Ctx K B H1 L (.tup l ys :: I) → Q (.ref l) H1) : rTupOf K [.ref p] H Q := ⟨p, ys, rfl, .inl ⟨SqL.of m, fun l hl => k l _ (hC.newT hl)⟩⟩
theorem s_tupOfT {p : Addr} {ys : List V} (m : SqT K H p ys) (k : Q (.ref p) H) : rTupOf K [.ref p] H Q := ⟨p, ys, rfl, .inr ⟨m, k⟩⟩
theorem s_listOfL {p : Addr} {ys : List V} (hC : Ctx K B H L I) (m : H p = some (.lst ys)) (k : ∀ l H1, Ctx K B H1 ((l, .lst ys) :: L) I → Q (.ref l) H1) : rListOf K [.ref p] H Q := ⟨p, ys, rfl, .inl (SqL.of m), fun l hl => k l _ (hC.newM hl rfl)⟩
theorem s_listOfT {p : Addr} {ys : List V} (hC : Ctx K B H L I) (m : SqT K H p ys) (k : ∀ l H1, Ctx K B H1 ((l, .lst ys) :: L) I → Q (.ref l) H1) : rListOf K [.ref p] H Q := ⟨p, ys, rfl, .inr m, fun l hl => k l _ (hC.newM hl rfl)⟩
theorem s_putKi {R : Hp → Prop} {l : List (Str × V)} {x : Str} {v : V} (hC : Ctx K B H L I) (m : H d = some (.dK (mK id l))) (z : l.length < 100000) (u : Up d (.dK (mK id (putR l x v))) L L') (q : ∀ H1, Ctx K B H1 L' I → R H1) : rSetU (.ref d) (.str x) v H R := s_putKv (f := id) hC m z u q
end
theorem ints_dats (K : PySem.W.Frag) (H : Hp) : ∀ ns : List Int, TDs K H (ns.map V.int) (ns.map PyData.int)
  | [] => .nil
  | n :: r => .cons (.int n) (ints_dats K H r)
theorem ints_sh {n : Nat} : ∀ ns : List Int, ShL n (ns.map PyData.int)
  | [] => ShL.nil
  | i :: r => ShL.cons (Sh.int i) (ints_sh r)
theorem take_get {α : Type} {r : List α} {i : Nat} {p : α} (h : r[i]? = some p) : r.take (i + 1) = r.take i ++ [p] := by
  rw [List.take_succ, h]; rfl
end Ph
namespace Ph
open PySem PySem.Spec PyProof.Rows L2
def nS (i : Int) : Str := Str.ofString (toString i)
theorem nS_len {i : Int} (h0 : 0 ≤ i) (h1 : i < 1000) : (nS i).length ≤ 3 := by
  obtain ⟨n, rfl⟩ := Int.eq_ofNat_of_zero_le h0
  have h : ∀ n : Fin 1000, (nS (n.val : Int)).length ≤ 3 := by decide +kernel
  exact h ⟨n, by omega⟩
section
variable {K : PySem.W.Frag} {B H : Hp} {L L' : List (Addr × HO)} {I : List Im} {Q : VK} {σ : L2.St} {d b : Addr}
theorem s_strI {i : Int} (h0 : 0 ≤ i) (h1 : i < 1000) (h : Q (.str (nS i)) H) : rStrI [.int i] H Q :=
  ⟨i, rfl, Nat.lt_of_le_of_lt (Nat.log2_le_self _) (by omega), h⟩
theorem s_neNN (h : Q (.bl false) H) : rNeU K .non .non H Q := .inl ⟨rfl, by rw [show (!decide (V.non = V.non)) = false from by simp]; exact h⟩
theorem s_eqNN (h : Q (.bl true) H) : rEqU K .non .non H Q := .inl ⟨rfl, by rw [show (decide (V.non = V.non)) = true from by simp]; exact h⟩
theorem s_neNI {i : Int} (h : Q (.bl true) H) : rNeU K .non (.int i) H Q := .inl ⟨rfl, by rw [show (!decide (V.non = V.int i)) = true from by simp]; exact h⟩
theorem s_rep1 {l : Addr} {xs : List V} (hC : Ctx K B H L I) (m : H l = some (.lst xs)) (z : xs.length ≤ 1000) (k : ∀ p H1, Ctx K B H1 ((p, .lst xs) :: L) I → Q (.ref p) H1) : rMulU (.ref l) (.int 1) H Q :=
  ⟨l, 1, xs, rfl, rfl, m, by decide, by decide, by rw [sizeLine_eq]; show xs.length * 1 ≤ _; omega, fun p hp => by
    have e : (List.replicate (1 : Int).toNat xs).flatten = xs := by simp
    rw [e]
    exact k p _ (hC.newM hp rfl)⟩
theorem s_rep0 {l : Addr} {xs : List V} (hC : Ctx K B H L I) (m : H l = some (.lst xs)) (k : ∀ p H1, Ctx K B H1 ((p, .lst []) :: L) I → Q (.ref p) H1) : rMulU (.ref l) (.int 0) H Q :=
  ⟨l, 0, xs, rfl, rfl, m, by decide, by decide, by rw [sizeLine_eq]; show xs.length * 0 ≤ _; omega, fun p hp => by
    have e : (List.replicate (0 : Int).toNat xs).flatten = [] := by simp
    rw [e]
    exact k p _ (hC.newM hp rfl)⟩
theorem s_ixTF {α : Type} {f : α → V} {o : Obj} {l : List ((Str × Int) × α)} {x : Str} {i : Int} {v : α} (m : H d = some (.frz o (.dT (mT f l)))) (mb : H b = some (.tup [.str x, .int i])) (e : look l (x, i) = some v) (q : Q (f v) H) : rIxU K (.ref d) (.ref b) H Q :=
  .inr (.inr (.inr ⟨d, f v, rfl, .inr ⟨_, [.inr x, .inl i], b, .inr ⟨o, m⟩, rfl, mb, by rw [valV_mT (k := (x, i)), e]; rfl⟩, q⟩))
theorem s_ixStr {l : Addr} {xs : List V} {i : Int} (hm : H l = some (.lst xs)) (h0 : 0 ≤ i) (h1 : i < xs.length) (q : ∀ v, v ∈ xs → Q v H) : rIxU K (.ref l) (.int i) H Q := s_ixOne hm h0 h1 q
theorem s_inKe {α : Type} {f : α → V} {l : List (Str × α)} {x : Str} {v : α} (m : H d = some (.dK (mK f l))) (e : look l x = some v) (q : Q (.bl true) H) : rInV K (.str x) (.ref d) H Q := s_inKv m (by rw [e]; exact q)
theorem s_inKz {α : Type} {f : α → V} {l : List (Str × α)} {x : Str} (m : H d = some (.dK (mK f l))) (e : look l x = none) (q : Q (.bl false) H) : rInV K (.str x) (.ref d) H Q := s_inKv m (by rw [e]; exact q)
theorem s_ne00 {l m : Addr} (hl : H l = some (.lst [])) (hm : H m = some (.lst [])) (k : Q (.bl false) H) : rNeU K (.ref l) (.ref m) H Q := s_neE hl hm .nil .nil k
theorem s_eq00 {l m : Addr} (hl : H l = some (.lst [])) (hm : H m = some (.lst [])) (k : Q (.bl true) H) : rEqU K (.ref l) (.ref m) H Q := s_eqE hl hm .nil .nil k
theorem _root_.Ph.Lay.subl (y : Lay H L) (s : L'.Sublist L) : Lay H L' := ⟨(s.map _).nodup y.nd, fun p hp => y.at_ p (s.subset hp)⟩
theorem s_neSameD {x y : V} {d : PyData} {n : Nat} (h1 : Dp K H x d) (h2 : Dp K H y d) (s : Sh n d) (z : n ≤ 50) (k : Q (.bl false) H) : rNeU K x y H Q :=
  s_neD h1 h2 (s.shaped (by omega)) (s.shaped (by omega)) (by rw [eqv_self s]; exact k)
theorem s_eqSameD {x y : V} {d : PyData} {n : Nat} (h1 : Dp K H x d) (h2 : Dp K H y d) (s : Sh n d) (z : n ≤ 50) (k : Q (.bl true) H) : rEqU K x y H Q :=
  s_eqD h1 h2 (s.shaped (by omega)) (s.shaped (by omega)) (by rw [eqv_self s]; exact k)
theorem s_ltT {i j : Int} (p : i < j) (h : Q (.bl true) H) : rLt (.int i) (.int j) H Q := s_ltI (by rw [decide_eq_true p]; exact h)
theorem s_ltF {i j : Int} (p : ¬ i < j) (h : Q (.bl false) H) : rLt (.int i) (.int j) H Q := s_ltI (by rw [decide_eq_false p]; exact h)
theorem s_leT {i j : Int} (p : i ≤ j) (h : Q (.bl true) H) : rLe (.int i) (.int j) H Q := s_leI (by rw [decide_eq_true p]; exact h)
theorem s_leF {i j : Int} (p : ¬ i ≤ j) (h : Q (.bl false) H) : rLe (.int i) (.int j) H Q := s_leI (by rw [decide_eq_false p]; exact h)
theorem s_gtT {i j : Int} (p : j < i) (h : Q (.bl true) H) : rGt (.int i) (.int j) H Q := s_gtI (by rw [decide_eq_true p]; exact h)
theorem s_gtF {i j : Int} (p : ¬ j < i) (h : Q (.bl false) H) : rGt (.int i) (.int j) H Q := s_gtI (by rw [decide_eq_false p]; exact h)
theorem s_geT {i j : Int} (p : j ≤ i) (h : Q (.bl true) H) : rGe (.int i) (.int j) H Q := s_geI (by rw [decide_eq_true p]; exact h)
theorem s_geF {i j : Int} (p : ¬ j ≤ i) (h : Q (.bl false) H) : rGe (.int i) (.int j) H Q := s_geI (by rw [decide_eq_false p]; exact h)
theorem s_ixSet {l : Addr} {xs : List V} {n : Nat} {v : V} (m : H l = some (.lst (xs.set n v))) (h : n < xs.length) (q : Q v H) : rIxU K (.ref l) (.int (n : Nat)) H Q := s_ixL m (atI_nat (by rw [List.getElem?_set]; simp [h])) q
theorem cut3 (a b c d : V) : cutV [a, b, c, d] none (some 3) = [a, b, c] := rfl
theorem s_g1Kei {l : List (Str × V)} {x : Str} {v : V} (m : H d = some (.dK (mK id l))) (e : look l x = some v) (q : Q v H) : kGetK1 d Q (.str x) H := s_g1Ke m e q
theorem s_g2Kei {l : List (Str × V)} {x : Str} {v z : V} (m : H d = some (.dK (mK id l))) (e : look l x = some v) (q : Q v H) : kGetZ2 d (.str x) Q z H := s_g2Ke m e q
theorem s_ixKvi {l : List (Str × V)} {x : Str} {v : V} (m : H d = some (.dK (mK id l))) (e : look l x = some v) (q : Q v H) : rIxU K (.ref d) (.str x) H Q := s_ixKv m e q
theorem s_ixPut {α : Type} {f : α → V} {l : List (Str × α)} {x : Str} {v : α} (m : H d = some (.dK (mK f (putR l x v)))) (q : Q (f v) H) : rIxU K (.ref d) (.str x) H Q := s_ixKv m (by rw [look_put, if_pos rfl]) q
theorem s_ixPuti {l : List (Str × V)} {x : Str} {v : V} (m : H d = some (.dK (mK id (putR l x v)))) (q : Q v H) : rIxU K (.ref d) (.str x) H Q := s_ixPut m q
theorem s_dnewKm {α : Type} (f : α → V) (hC : Ctx K B H L I) (k : ∀ p H1, Ctx K B H1 ((p, .dK (mK f [])) :: L) I → Q (.ref p) H1) : tDNewK σ H Q := s_dnewK hC k
theorem _root_.Ph.Sel.toNil : ∀ L : List (Addr × HO), Sel L []
  | [] => .refl
  | _ :: r => .skip (Sel.toNil r)
theorem look_mem {κ α : Type} [DecidableEq κ] {k : κ} {v : α} {l : List (κ × α)} (h : (k, v) ∈ l) : ∃ w, look l k = some w := by
  have e := look_any k l
  have : (l.any fun p => decide (p.1 = k)) = true := List.any_eq_true.mpr ⟨_, h, decide_eq_true rfl⟩
  rw [this] at e
  exact Option.isSome_iff_exists.mp e.symm
theorem look_some {κ α : Type} [DecidableEq κ] {k : κ} {v : α} : ∀ {l : List (κ × α)}, look l k = some v → (k, v) ∈ l
  | p :: r, h => by
    rw [look_cons] at h
    by_cases e : p.1 = k
    · rw [if_pos e] at h
      cases h
      subst e
      exact List.mem_cons_self
    · rw [if_neg e] at h
      exact List.mem_cons_of_mem _ (look_some h)
end
end Ph
namespace Wk
open PySem PySem.Spec PyProof.Rows L2 Ph
def top (i : Nat) : Stmt := PySem.Challenge.pw_phonestack_k19_time_that_apps_may_be_use.main.body.getD i (.Pass ⟨0, 0, 0, 0⟩)
abbrev s_Budgets__init : Stmt := inClass (top 5) 0
abbrev N_Budgets__init : List Str := ["self"]
theorem sc_Budgets__init : FnScope N_Budgets__init ["self"] (defScope s_Budgets__init) := ⟨rfl, rfl, rfl, by decide +kernel, rfl, by decide +kernel, by decide +kernel⟩
abbrev s_Budgets_put_app : Stmt := inClass (top 5) 1
abbrev N_Budgets_put_app : List Str := ["self", "app", "kind"]
theorem sc_Budgets_put_app : FnScope N_Budgets_put_app ["self", "app", "kind"] (defScope s_Budgets_put_app) := ⟨rfl, rfl, rfl, by decide +kernel, rfl, by decide +kernel, by decide +kernel⟩
abbrev s_Budgets_put_kind : Stmt := inClass (top 5) 2
abbrev N_Budgets_put_kind : List Str := ["self", "kind", "minutes", "closed", "row", "one"]
theorem sc_Budgets_put_kind : FnScope N_Budgets_put_kind ["self", "kind", "minutes", "closed"] (defScope s_Budgets_put_kind) := ⟨rfl, rfl, rfl, by decide +kernel, rfl, by decide +kernel, by decide +kernel⟩
abbrev s_Budgets_is_closed : Stmt := inClass (top 5) 3
abbrev N_Budgets_is_closed : List Str := ["self", "kind", "time", "here", "first", "end"]
theorem sc_Budgets_is_closed : FnScope N_Budgets_is_closed ["self", "kind", "time"] (defScope s_Budgets_is_closed) := ⟨rfl, rfl, rfl, by decide +kernel, rfl, by decide +kernel, by decide +kernel⟩
abbrev s_Budgets_left : Stmt := inClass (top 5) 4
abbrev N_Budgets_left : List Str := ["self", "app", "time", "kind", "day", "whole"]
theorem sc_Budgets_left : FnScope N_Budgets_left ["self", "app", "time"] (defScope s_Budgets_left) := ⟨rfl, rfl, rfl, by decide +kernel, rfl, by decide +kernel, by decide +kernel⟩
abbrev s_Budgets_may_use : Stmt := inClass (top 5) 5
abbrev N_Budgets_may_use : List Str := ["self", "app", "time", "kind", "left"]
theorem sc_Budgets_may_use : FnScope N_Budgets_may_use ["self", "app", "time"] (defScope s_Budgets_may_use) := ⟨rfl, rfl, rfl, by decide +kernel, rfl, by decide +kernel, by decide +kernel⟩
abbrev s_Budgets_use : Stmt := inClass (top 5) 6
abbrev N_Budgets_use : List Str := ["self", "app", "time", "kind", "key"]
theorem sc_Budgets_use : FnScope N_Budgets_use ["self", "app", "time"] (defScope s_Budgets_use) := ⟨rfl, rfl, rfl, by decide +kernel, rfl, by decide +kernel, by decide +kernel⟩
abbrev s_Budgets_wish : Stmt := inClass (top 5) 7
abbrev N_Budgets_wish : List Str := ["self", "app", "minutes", "time"]
theorem sc_Budgets_wish : FnScope N_Budgets_wish ["self", "app", "minutes", "time"] (defScope s_Budgets_wish) := ⟨rfl, rfl, rfl, by decide +kernel, rfl, by decide +kernel, by decide +kernel⟩
abbrev s_Budgets_answer : Stmt := inClass (top 5) 8
abbrev N_Budgets_answer : List Str := ["self", "number", "good", "time", "kind", "minutes", "day", "word"]
theorem sc_Budgets_answer : FnScope N_Budgets_answer ["self", "number", "good", "time"] (defScope s_Budgets_answer) := ⟨rfl, rfl, rfl, by decide +kernel, rfl, by decide +kernel, by decide +kernel⟩
abbrev s_law_dice : Stmt := top 7
abbrev N_law_dice : List Str := ["cell"]
theorem sc_law_dice : FnScope N_law_dice ["cell"] (defScope s_law_dice) := ⟨rfl, rfl, rfl, by decide +kernel, rfl, by decide +kernel, by decide +kernel⟩
abbrev s_law_roll : Stmt := top 8
abbrev N_law_roll : List Str := ["dice", "many", "found"]
theorem sc_law_roll : FnScope N_law_roll ["dice", "many"] (defScope s_law_roll) := ⟨rfl, rfl, rfl, by decide +kernel, rfl, by decide +kernel, by decide +kernel⟩
abbrev s_law_rounds : Stmt := top 9
abbrev N_law_rounds : List Str := ["script", "most", "cells", "cell"]
theorem sc_law_rounds : FnScope N_law_rounds ["script", "most"] (defScope s_law_rounds) := ⟨rfl, rfl, rfl, by decide +kernel, rfl, by decide +kernel, by decide +kernel⟩
abbrev s_law_told : Stmt := top 10
abbrev N_law_told : List Str := ["what"]
theorem sc_law_told : FnScope N_law_told ["what"] (defScope s_law_told) := ⟨rfl, rfl, rfl, by decide +kernel, rfl, by decide +kernel, by decide +kernel⟩
abbrev s_law_closed : Stmt := top 11
abbrev N_law_closed : List Str := ["rows", "time", "here", "first", "end"]
theorem sc_law_closed : FnScope N_law_closed ["rows", "time"] (defScope s_law_closed) := ⟨rfl, rfl, rfl, by decide +kernel, rfl, by decide +kernel, by decide +kernel⟩
abbrev s_law : Stmt := top 12
abbrev N_law : List Str := ["script", "dice", "budgets", "kinds", "closed", "spent", "extra", "wishes", "time", "minutes", "kind", "k", "step", "app", "sort", "day", "left", "may", "many", "good", "place", "word", "key", "row", "night", "bad", "f"]
theorem sc_law : FnScope N_law ["script"] (defScope s_law) := ⟨rfl, rfl, rfl, by decide +kernel, rfl, by decide +kernel, by decide +kernel⟩
structure Adr where
  c_Budgets : Addr
  c_RightFault : Addr
  f_Budgets__init : Addr
  fd_Budgets__init : FuncData
  f_Budgets_put_app : Addr
  fd_Budgets_put_app : FuncData
  f_Budgets_put_kind : Addr
  fd_Budgets_put_kind : FuncData
  dt_Budgets_put_kind_0 : Addr
  f_Budgets_is_closed : Addr
  fd_Budgets_is_closed : FuncData
  f_Budgets_left : Addr
  fd_Budgets_left : FuncData
  f_Budgets_may_use : Addr
  fd_Budgets_may_use : FuncData
  f_Budgets_use : Addr
  fd_Budgets_use : FuncData
  f_Budgets_wish : Addr
  fd_Budgets_wish : FuncData
  f_Budgets_answer : Addr
  fd_Budgets_answer : FuncData
  f_law_dice : Addr
  fd_law_dice : FuncData
  f_law_roll : Addr
  fd_law_roll : FuncData
  f_law_rounds : Addr
  fd_law_rounds : FuncData
  f_law_told : Addr
  fd_law_told : FuncData
  f_law_closed : Addr
  fd_law_closed : FuncData
  f_law : Addr
  fd_law : FuncData
  cc_Budgets_put_kind : Addr
  tb_Budgets_put_kind : Addr
  cc_law : Addr
  tb_law : Addr
structure Txt (K : PySem.W.Frag) (mg : Str → Option Value) (a : Adr) : Prop where
  cl_Budgets : Cls K a.c_Budgets
  na_Budgets_kinds : NoAttr K a.c_Budgets "kinds"
  na_Budgets_minutes : NoAttr K a.c_Budgets "minutes"
  na_Budgets_closed : NoAttr K a.c_Budgets "closed"
  na_Budgets_spent : NoAttr K a.c_Budgets "spent"
  na_Budgets_extra : NoAttr K a.c_Budgets "extra"
  na_Budgets_wishes : NoAttr K a.c_Budgets "wishes"
  mgc_Budgets : mg "Budgets" = some (.ref a.c_Budgets)
  mk_Budgets : Mk K a.c_Budgets a.f_Budgets__init
  fn_Budgets__init : FunD K "__init__" "Budgets.__init__" (defArgs s_Budgets__init) (defBody s_Budgets__init) (defScope s_Budgets__init) [] [] a.f_Budgets__init a.fd_Budgets__init
  bi_Budgets__init : Binds K a.fd_Budgets__init ["self"] []
  me_Budgets_put_app : Meth K a.c_Budgets "put_app" a.f_Budgets_put_app
  fn_Budgets_put_app : FunD K "put_app" "Budgets.put_app" (defArgs s_Budgets_put_app) (defBody s_Budgets_put_app) (defScope s_Budgets_put_app) [] [] a.f_Budgets_put_app a.fd_Budgets_put_app
  bi_Budgets_put_app : Binds K a.fd_Budgets_put_app ["self", "app", "kind"] []
  me_Budgets_put_kind : Meth K a.c_Budgets "put_kind" a.f_Budgets_put_kind
  dt_Budgets_put_kind_0 : ∃ (o : Obj) (n : Nat), K.lookup a.dt_Budgets_put_kind_0 = some o ∧ o.cls = .type "tuple" ∧ o.data = .seq #[] n
  fn_Budgets_put_kind : FunD K "put_kind" "Budgets.put_kind" (defArgs s_Budgets_put_kind) (defBody s_Budgets_put_kind) (defScope s_Budgets_put_kind) [(.ref a.dt_Budgets_put_kind_0)] [] a.f_Budgets_put_kind a.fd_Budgets_put_kind
  bi_Budgets_put_kind : Binds K a.fd_Budgets_put_kind ["self", "kind", "minutes", "closed"] []
  bi_Budgets_put_kind_3 : ∃ ds, Vals [(.ref a.dt_Budgets_put_kind_0)] ds ∧ Binds K a.fd_Budgets_put_kind ["self", "kind", "minutes", "closed"] ds
  me_Budgets_is_closed : Meth K a.c_Budgets "is_closed" a.f_Budgets_is_closed
  fn_Budgets_is_closed : FunD K "is_closed" "Budgets.is_closed" (defArgs s_Budgets_is_closed) (defBody s_Budgets_is_closed) (defScope s_Budgets_is_closed) [] [] a.f_Budgets_is_closed a.fd_Budgets_is_closed
  bi_Budgets_is_closed : Binds K a.fd_Budgets_is_closed ["self", "kind", "time"] []
  me_Budgets_left : Meth K a.c_Budgets "left" a.f_Budgets_left
  fn_Budgets_left : FunD K "left" "Budgets.left" (defArgs s_Budgets_left) (defBody s_Budgets_left) (defScope s_Budgets_left) [] [] a.f_Budgets_left a.fd_Budgets_left
  bi_Budgets_left : Binds K a.fd_Budgets_left ["self", "app", "time"] []
  me_Budgets_may_use : Meth K a.c_Budgets "may_use" a.f_Budgets_may_use
  fn_Budgets_may_use : FunD K "may_use" "Budgets.may_use" (defArgs s_Budgets_may_use) (defBody s_Budgets_may_use) (defScope s_Budgets_may_use) [] [] a.f_Budgets_may_use a.fd_Budgets_may_use
  bi_Budgets_may_use : Binds K a.fd_Budgets_may_use ["self", "app", "time"] []
  me_Budgets_use : Meth K a.c_Budgets "use" a.f_Budgets_use
  fn_Budgets_use : FunD K "use" "Budgets.use" (defArgs s_Budgets_use) (defBody s_Budgets_use) (defScope s_Budgets_use) [] [] a.f_Budgets_use a.fd_Budgets_use
  bi_Budgets_use : Binds K a.fd_Budgets_use ["self", "app", "time"] []
  me_Budgets_wish : Meth K a.c_Budgets "wish" a.f_Budgets_wish
  fn_Budgets_wish : FunD K "wish" "Budgets.wish" (defArgs s_Budgets_wish) (defBody s_Budgets_wish) (defScope s_Budgets_wish) [] [] a.f_Budgets_wish a.fd_Budgets_wish
  bi_Budgets_wish : Binds K a.fd_Budgets_wish ["self", "app", "minutes", "time"] []
  me_Budgets_answer : Meth K a.c_Budgets "answer" a.f_Budgets_answer
  fn_Budgets_answer : FunD K "answer" "Budgets.answer" (defArgs s_Budgets_answer) (defBody s_Budgets_answer) (defScope s_Budgets_answer) [] [] a.f_Budgets_answer a.fd_Budgets_answer
  bi_Budgets_answer : Binds K a.fd_Budgets_answer ["self", "number", "good", "time"] []
  mg_law_dice : mg "_law_dice" = some (.ref a.f_law_dice)
  fn_law_dice : FunD K "_law_dice" "_law_dice" (defArgs s_law_dice) (defBody s_law_dice) (defScope s_law_dice) [] [] a.f_law_dice a.fd_law_dice
  bi_law_dice : Binds K a.fd_law_dice ["cell"] []
  mg_law_roll : mg "_law_roll" = some (.ref a.f_law_roll)
  fn_law_roll : FunD K "_law_roll" "_law_roll" (defArgs s_law_roll) (defBody s_law_roll) (defScope s_law_roll) [] [] a.f_law_roll a.fd_law_roll
  bi_law_roll : Binds K a.fd_law_roll ["dice", "many"] []
  mg_law_rounds : mg "_law_rounds" = some (.ref a.f_law_rounds)
  fn_law_rounds : FunD K "_law_rounds" "_law_rounds" (defArgs s_law_rounds) (defBody s_law_rounds) (defScope s_law_rounds) [] [] a.f_law_rounds a.fd_law_rounds
  bi_law_rounds : Binds K a.fd_law_rounds ["script", "most"] []
  mg_law_told : mg "_law_told" = some (.ref a.f_law_told)
  fn_law_told : FunD K "_law_told" "_law_told" (defArgs s_law_told) (defBody s_law_told) (defScope s_law_told) [] [] a.f_law_told a.fd_law_told
  bi_law_told : Binds K a.fd_law_told ["what"] []
  mg_law_closed : mg "_law_closed" = some (.ref a.f_law_closed)
  fn_law_closed : FunD K "_law_closed" "_law_closed" (defArgs s_law_closed) (defBody s_law_closed) (defScope s_law_closed) [] [] a.f_law_closed a.fd_law_closed
  bi_law_closed : Binds K a.fd_law_closed ["rows", "time"] []
  mg_law : mg "law" = some (.ref a.f_law)
  fn_law : FunD K "law" "law" (defArgs s_law) (defBody s_law) (defScope s_law) [] [] a.f_law a.fd_law
  bi_law : Binds K a.fd_law ["script"] []
  no_abs : mg "abs" = none
  no_any : mg "any" = none
  no_int : mg "int" = none
  no_len : mg "len" = none
  no_list : mg "list" = none
  no_max : mg "max" = none
  no_range : mg "range" = none
  no_str : mg "str" = none
  no_tuple : mg "tuple" = none
  gl_MINUTES_A_DAY : ∃ t, mg "MINUTES_A_DAY" = some (.int 1440 t)
  mgc_RightFault : mg "RightFault" = some (.ref a.c_RightFault)
  xc_RightFault : PySem.W.excIn K a.c_RightFault [.type "ValueError", .type "Exception", .type "BaseException", .type "object"] "ValueError.__new__" = true
  kc_RightFault : PySem.W.keepIn K (.ref a.c_RightFault) = true
  bc_RightFault : PySem.W.subIn K (.ref a.c_RightFault) (.type "BaseException") = some true
  tc_RightFault : PySem.W.typeIn K (.ref a.c_RightFault) = some (.type "type")
  ec_RightFault : PySem.W.exmOne K (.ref a.c_RightFault) (.ref a.c_RightFault) = some true
  cd_Budgets_put_kind : a.fd_Budgets_put_kind.code = .ref a.cc_Budgets_put_kind
  cd_law : a.fd_law.code = .ref a.cc_law
end Wk
namespace Wk
open PySem PySem.Spec PyProof.Rows L2 Ph
abbrev Rows := List (Int × Int)
structure WS where
  kind : Str
  many : Int
  day : Int
  word : Option Bool
structure BS where
  kinds : List (Str × Str)
  minutes : List (Str × Int)
  closed : List (Str × Rows)
  spent : List ((Str × Int) × Int)
  extra : List ((Str × Int) × Int)
  wishes : List WS
def wordD : Option Bool → PyData
  | none => .none
  | some b => .bool b
def wordV : Option Bool → V
  | none => .non
  | some b => .bl b
def wD (w : WS) : PyData := .tuple [.str w.kind, .int w.many, .int w.day, wordD w.word]
def rowD (p : Int × Int) : PyData := .tuple [.int p.1, .int p.2]
def rowsD (r : Rows) : PyData := .tuple (r.map rowD)
def optI : Option Int → V
  | none => .non
  | some i => .int i
def optS : Option Str → V
  | none => .non
  | some s => .str s
/-- one row is closed at a minute of the day -/
abbrev rowC (here : Int) (p : Int × Int) : Prop := (p.1 < p.2 ∧ p.1 ≤ here ∧ here < p.2) ∨ (p.1 ≥ p.2 ∧ (here ≥ p.1 ∨ here < p.2))
def closedAt (r : Rows) (time : Int) : Bool := r.any fun p => decide (rowC (time % 1440) p)
def rowsOf (g : BS) (k : Option Str) : Rows := match k with
  | none => []
  | some k => (look g.closed k).getD []
def isClosed (g : BS) (k : Option Str) (time : Int) : Bool := closedAt (rowsOf g k) time
def leftK (g : BS) (k : Option Str) (day : Int) : Option Int := match k with
  | none => none
  | some k => (look g.minutes k).map fun m => mxI 0 (m + (look g.extra (k, day)).getD 0 - (look g.spent (k, day)).getD 0)
def leftG (g : BS) (app : Str) (time : Int) : Option Int := leftK g (look g.kinds app) (time / 1440)
def some0 : Option Int → Bool
  | none => true
  | some i => decide (i > 0)
def mayG (g : BS) (app : Str) (time : Int) : Bool := !isClosed g (look g.kinds app) time && some0 (leftG g app time)
def spendK (g : BS) (k : Option Str) (day : Int) : BS := match k with
  | none => g
  | some k => { g with spent := putR g.spent (k, day) ((look g.spent (k, day)).getD 0 + 1) }
def useG (g : BS) (app : Str) (time : Int) : BS := if mayG g app time = true then spendK g (look g.kinds app) (time / 1440) else g
def minOk (p : Int) : Prop := 0 ≤ p ∧ p < 1440
instance (p : Int) : Decidable (minOk p) := by unfold minOk; infer_instance
def rowOk (p : Int × Int) : Prop := minOk p.1 ∧ minOk p.2
def rowsOk (r : Rows) : Prop := ∀ p, p ∈ r → rowOk p
def putKind (g : BS) (k : Str) (m : Int) (r : Rows) : BS := { g with minutes := putR g.minutes k m, closed := putR g.closed k r }
/-! ### in the heap -/
inductive HRep (K : PySem.W.Frag) (H : Hp) (a : Adr) (bu : Addr) (g : BS) : List (Addr × HO) → Prop
  | mk {dx pk pm pc ps pe pw : Addr} {vc : List (Str × V)} {vw : List V} : vc.map (·.1) = g.closed.map (·.1) → TDs K H (vc.map (·.2)) (g.closed.map fun p => rowsD p.2) → TDs K H vw (g.wishes.map wD) →
      HRep K H a bu g [(bu, .ins a.c_Budgets dx [("kinds", .ref pk), ("minutes", .ref pm), ("closed", .ref pc), ("spent", .ref ps), ("extra", .ref pe), ("wishes", .ref pw)]),
        (pk, .dK (mK V.str g.kinds)), (pm, .dK (mK V.int g.minutes)), (pc, .dK (mK id vc)), (ps, .dT (mT V.int g.spent)), (pe, .dT (mT V.int g.extra)), (pw, .lst vw)]
theorem HRep.mono {K : PySem.W.Frag} {H H' : Hp} {a : Adr} {bu : Addr} {g : BS} {O : List (Addr × HO)} (s : Stb H H') (h : HRep K H a bu g O) : HRep K H' a bu g O := by
  cases h with
  | mk h1 h2 h3 => exact .mk h1 (TDs.mono s h2) (TDs.mono s h3)
/-! ### the promises -/
def sp_Budgets__init (K : PySem.W.Frag) (a : Adr) : Sp := fun vs H Q E => vs.length = 1 ∧ ∃ (x dx : Addr) (F : List (Addr × HO)), vs = [.ref x] ∧ Lay H ((x, .ins a.c_Budgets dx []) :: F) ∧
  ∀ H' O', Stb H H' → HRep K H' a x ⟨[], [], [], [], [], []⟩ O' → Lay H' (O' ++ F) → Q .non H'
def sp_Budgets_put_app (K : PySem.W.Frag) (a : Adr) : Sp := fun vs H Q E => vs.length = 3 ∧ ∃ (b : Addr) (app kind : Str) (g : BS) (O F : List (Addr × HO)), vs = [.ref b, .str app, .str kind] ∧ HRep K H a b g O ∧ Lay H (O ++ F) ∧ g.kinds.length ≤ 1000 ∧
  ∀ H' O', Stb H H' → HRep K H' a b { g with kinds := putR g.kinds app kind } O' → Lay H' (O' ++ F) → Q .non H'
def sp_Budgets_is_closed (K : PySem.W.Frag) (a : Adr) : Sp := fun vs H Q E => vs.length = 3 ∧ ∃ (b : Addr) (k : Option Str) (t : Int) (g : BS) (O F : List (Addr × HO)), vs = [.ref b, optS k, .int t] ∧ HRep K H a b g O ∧ Lay H (O ++ F) ∧
  ∀ H', Stb H H' → Lay H' (O ++ F) → Q (.bl (isClosed g k t)) H'
def sp_Budgets_left (K : PySem.W.Frag) (a : Adr) : Sp := fun vs H Q E => vs.length = 3 ∧ ∃ (b : Addr) (app : Str) (t : Int) (g : BS) (O F : List (Addr × HO)), vs = [.ref b, .str app, .int t] ∧ HRep K H a b g O ∧ Lay H (O ++ F) ∧
  ∀ H', Stb H H' → Lay H' (O ++ F) → Q (optI (leftG g app t)) H'
def sp_Budgets_may_use (K : PySem.W.Frag) (a : Adr) : Sp := fun vs H Q E => vs.length = 3 ∧ ∃ (b : Addr) (app : Str) (t : Int) (g : BS) (O F : List (Addr × HO)), vs = [.ref b, .str app, .int t] ∧ HRep K H a b g O ∧ Lay H (O ++ F) ∧
  ∀ H', Stb H H' → Lay H' (O ++ F) → Q (.bl (mayG g app t)) H'
def sp_Budgets_use (K : PySem.W.Frag) (a : Adr) : Sp := fun vs H Q E => vs.length = 3 ∧ ∃ (b : Addr) (app : Str) (t : Int) (g : BS) (O F : List (Addr × HO)), vs = [.ref b, .str app, .int t] ∧ HRep K H a b g O ∧ Lay H (O ++ F) ∧ g.spent.length ≤ 1000 ∧
  ∀ H' O', Stb H H' → HRep K H' a b (useG g app t) O' → Lay H' (O' ++ F) → Q (.bl (mayG g app t)) H'
def sp_Budgets_wish (K : PySem.W.Frag) (a : Adr) : Sp := fun vs H Q E => vs.length = 4 ∧ ∃ (b : Addr) (app : Str) (m t : Int) (g : BS) (O F : List (Addr × HO)), vs = [.ref b, .str app, .int m, .int t] ∧ HRep K H a b g O ∧ Lay H (O ++ F) ∧ g.wishes.length ≤ 1000 ∧
  (∀ k l, look g.kinds app = some k → leftG g app t = some l → 1 ≤ m → m ≤ 120 → ∀ H' O', Stb H H' → HRep K H' a b { g with wishes := g.wishes ++ [⟨k, m, t / 1440, none⟩] } O' → Lay H' (O' ++ F) → Q (.int g.wishes.length) H') ∧
  (¬ ((leftG g app t).isSome = true ∧ 1 ≤ m ∧ m ≤ 120) → ∀ H', Stb H H' → Lay H' (O ++ F) → E (.ref a.c_RightFault) none H')
def answerG (g : BS) (i : Nat) (w : WS) (good : Bool) : BS := { g with wishes := g.wishes.set i { w with word := some good }, extra := if good = true then putR g.extra (w.kind, w.day) ((look g.extra (w.kind, w.day)).getD 0 + w.many) else g.extra }
def sp_Budgets_answer (K : PySem.W.Frag) (a : Adr) : Sp := fun vs H Q E => vs.length = 4 ∧ ∃ (b : Addr) (i : Int) (good : Bool) (t : Int) (g : BS) (O F : List (Addr × HO)), vs = [.ref b, .int i, .bl good, .int t] ∧ HRep K H a b g O ∧ Lay H (O ++ F) ∧ g.wishes.length ≤ 1000 ∧ g.extra.length ≤ 1000 ∧ 0 ≤ i ∧
  (∀ w, g.wishes[i.toNat]? = some w → w.word = none → w.day = t / 1440 → ∀ H' O', Stb H H' → HRep K H' a b (answerG g i.toNat w good) O' → Lay H' (O' ++ F) → Q .non H') ∧
  ((∀ w, g.wishes[i.toNat]? = some w → ¬ (w.word = none ∧ w.day = t / 1440)) → ∀ H', Stb H H' → Lay H' (O ++ F) → E (.ref a.c_RightFault) none H')
/-- the hours: a list or a tuple of rows -/
def SeqRows (K : PySem.W.Frag) (H : Hp) (v : V) (r : Rows) (L : List (Addr × HO)) : Prop := (∃ p vs, v = .ref p ∧ (p, HO.lst vs) ∈ L ∧ TDs K H vs (r.map rowD)) ∨ TD K H v (rowsD r)
def sp_Budgets_put_kind (K : PySem.W.Frag) (a : Adr) : Sp := fun vs H Q E => vs.length = 4 ∧ ∃ (b : Addr) (k : Str) (m : Int) (v : V) (g : BS) (tb : Array Value) (O F : List (Addr × HO)), vs = [.ref b, .str k, .int m, v] ∧ HRep K H a b g O ∧ Lay H (O ++ ((a.tb_Budgets_put_kind, .tbl tb) :: F)) ∧ TriplesOk tb.toList ∧
  g.minutes.length ≤ 1000 ∧ g.closed.length ≤ 1000 ∧
  ((0 ≤ m ∧ m ≤ 1440 ∧ ∃ r : Rows, r.length ≤ 100 ∧ SeqRows K H v r F ∧ (rowsOk r → ∀ H' O' tb', Stb H H' → TriplesOk tb'.toList → HRep K H' a b (putKind g k m r) O' → Lay H' (O' ++ ((a.tb_Budgets_put_kind, .tbl tb') :: F)) → Q .non H') ∧
      (¬ rowsOk r → ∀ H' tb', Stb H H' → TriplesOk tb'.toList → Lay H' (O ++ ((a.tb_Budgets_put_kind, .tbl tb') :: F)) → E (.ref a.c_RightFault) none H')) ∨
    (¬ (0 ≤ m ∧ m ≤ 1440) ∧ ∀ H', Stb H H' → Lay H' (O ++ ((a.tb_Budgets_put_kind, .tbl tb) :: F)) → E (.ref a.c_RightFault) none H'))
def sp_law_dice (K : PySem.W.Frag) (a : Adr) : Sp := fun vs H Q E => vs.length = 1 ∧ ∃ (c : Int) (L : List (Addr × HO)), vs = [.int c] ∧ Lay H L ∧ ∀ p H' (i j k : Int), Stb H H' → Lay H' ((p, .lst [.int i, .int j, .int k]) :: L) → Q (.ref p) H'
def sp_law_roll (K : PySem.W.Frag) (a : Adr) : Sp := fun vs H Q E => vs.length = 2 ∧ ∃ (d : Addr) (m i j k : Int) (F : List (Addr × HO)), vs = [.ref d, .int m] ∧ Lay H ((d, .lst [.int i, .int j, .int k]) :: F) ∧ 0 < m ∧ m ≤ 100000000 ∧
  ∀ (r i' j' k' : Int) H', 0 ≤ r → r < m → Stb H H' → Lay H' ((d, .lst [.int i', .int j', .int k']) :: F) → Q (.int r) H'
def DL (ds : List (Addr × Int × Int × Int)) : List (Addr × HO) := ds.map fun d => (d.1, HO.lst [.int d.2.1, .int d.2.2.1, .int d.2.2.2])
def sp_law_rounds (K : PySem.W.Frag) (a : Adr) : Sp := fun vs H Q E => vs.length = 2 ∧ ∃ (s : Addr) (m : Int) (ns : List Int) (L : List (Addr × HO)), vs = [.ref s, .int m] ∧ SqL K H s (ns.map V.int) ∧ Lay H L ∧ 0 ≤ m ∧ m ≤ 1000 ∧
  ∀ p (ds : List (Addr × Int × Int × Int)) H', Stb H H' → Lay H' ((p, .lst (ds.map fun d => V.ref d.1)) :: (DL ds ++ L)) → Q (.ref p) H'
def sp_law_told (K : PySem.W.Frag) (a : Adr) : Sp := fun vs H Q E => vs.length = 1 ∧ False
def sp_law_closed (K : PySem.W.Frag) (a : Adr) : Sp := fun vs H Q E => vs.length = 2 ∧ ∃ (p : Addr) (t : Int) (r : Rows) (ws : List V) (L : List (Addr × HO)), vs = [.ref p, .int t] ∧ Lay H L ∧ (p, HO.lst ws) ∈ L ∧ TDs K H ws (r.map rowD) ∧ r.length ≤ 1000 ∧
  ∀ H', Stb H H' → Lay H' L → Q (.bl (closedAt r t)) H'
def sp_law (K : PySem.W.Frag) (a : Adr) : Sp := fun vs H Q E => vs.length = 1 ∧ ∃ (s : Addr) (ns : List Int), vs = [.ref s] ∧ SqL K H s (ns.map V.int) ∧ Lay H [(a.tb_Budgets_put_kind, .tbl #[]), (a.tb_law, .tbl #[])] ∧ ∀ H', Q (.bl true) H'
end Wk
namespace Wk
open PySem PySem.Spec PyProof.Rows L2 Ph
open LamX (TTold)
open GxR (tAnyS)
def t_Budgets__init (K : PySem.W.Frag) (a : Adr) (E : XK) : TS :=
  (tSeq (sFld K (tVar 0) tDNewK "kinds") (tSeq (sFld K (tVar 0) tDNewK "minutes") (tSeq (sFld K (tVar 0) tDNewK "closed") (tSeq (sFld K (tVar 0) tDNewT "spent") (tSeq (sFld K (tVar 0) tDNewT "extra") (sFld K (tVar 0) (tLst tNil) "wishes"))))))
def t_Budgets_put_app (K : PySem.W.Frag) (a : Adr) (E : XK) : TS :=
  (tAsg (tVar 2) (gSub (tFld K (tVar 0) "kinds") (tVar 1) rSetU))
def t_Budgets_put_kind (K : PySem.W.Frag) (a : Adr) (E : XK) : TS :=
  (tSeq (tIfS (tOr (tNot (tTest (tChain rLe rLe (tC (.int 0)) (tVar 2) (tC (.int 1440))))) (tTruth K (tAnyX2 true a.tb_Budgets_put_kind (iSeq K (tVar 3)) (gName 4) tYes (iSeq K (tVar 4)) (gName 5) tYes (tNotV (tChain rLe rLt (tC (.int 0)) (tVar 5) (tC (.int 1440)))) [4, 5] [5]))) (tRaiseE a.c_RightFault E) tNext) (tSeq (tAsg (tVar 2) (gSub (tFld K (tVar 0) "minutes") (tVar 1) rSetU)) (tAsg (tCB (rTupOf K) (tCons (tVar 3) tNil)) (gSub (tFld K (tVar 0) "closed") (tVar 1) rSetU))))
def t_Budgets_is_closed_for0 (K : PySem.W.Frag) (a : Adr) (E : XK) : TS :=
  (tIfS (tOr (tAnd (tTest (tOp rLt (tVar 4) (tVar 5))) (tTest (tChain rLe rLt (tVar 4) (tVar 3) (tVar 5)))) (tAnd (tTest (tOp rGe (tVar 4) (tVar 5))) (tOr (tTest (tOp rGe (tVar 3) (tVar 4))) (tTest (tOp rLt (tVar 3) (tVar 5)))))) (tRet (tC (.bl true))) tNext)
def t_Budgets_is_closed (K : PySem.W.Frag) (a : Adr) (E : XK) : TS :=
  (tSeq (tAsg (tOp rModU (tVar 2) (tC (.int 1440))) (gName 3)) (tSeq (tFor (iTup K (tGet2 (tFld K (tVar 0) "closed") (tVar 1) (tTup tNil))) (gTup K 2 (gCons (gName 4) (gCons (gName 5) gNil))) (t_Budgets_is_closed_for0 K a E)) (tRet (tC (.bl false)))))
def t_Budgets_left (K : PySem.W.Frag) (a : Adr) (E : XK) : TS :=
  (tSeq (tAsg (tGet1 (tFld K (tVar 0) "kinds") (tVar 1)) (gName 3)) (tSeq (tIfS (tOr (tTest (tOp rIsN (tVar 3) (tC .non))) (tTest (tOp (rNotInV K) (tVar 3) (tFld K (tVar 0) "minutes")))) (tRet (tC .non)) tNext) (tSeq (tAsg (tOp rDivU (tVar 2) (tC (.int 1440))) (gName 4)) (tSeq (tAsg (tOp (rAddU K) (tOp (rIxU K) (tFld K (tVar 0) "minutes") (tVar 3)) (tGet2 (tFld K (tVar 0) "extra") (tTup (tCons (tVar 3) (tCons (tVar 4) tNil))) (tC (.int 0)))) (gName 5)) (tRet (tCB (rMax2) (tCons (tC (.int 0)) (tCons (tOp rSubU (tVar 5) (tGet2 (tFld K (tVar 0) "spent") (tTup (tCons (tVar 3) (tCons (tVar 4) tNil))) (tC (.int 0)))) tNil))))))))
def t_Budgets_may_use (K : PySem.W.Frag) (a : Adr) (E : XK) : TS :=
  (tSeq (tAsg (tGet1 (tFld K (tVar 0) "kinds") (tVar 1)) (gName 3)) (tSeq (tIfS (tAnd (tTest (tOp rNotN (tVar 3) (tC .non))) (tTruth K (tMeth a.c_Budgets "is_closed" (sp_Budgets_is_closed K a) [] E (tVar 0) (tCons (tVar 3) (tCons (tVar 2) tNil))))) (tRet (tC (.bl false))) tNext) (tSeq (tAsg (tMeth a.c_Budgets "left" (sp_Budgets_left K a) [] E (tVar 0) (tCons (tVar 1) (tCons (tVar 2) tNil))) (gName 4)) (tRet (tOrV (tOp rIsN (tVar 4) (tC .non)) (tOp rGt (tVar 4) (tC (.int 0))))))))
def t_Budgets_use (K : PySem.W.Frag) (a : Adr) (E : XK) : TS :=
  (tSeq (tIfS (tNot (tTruth K (tMeth a.c_Budgets "may_use" (sp_Budgets_may_use K a) [] E (tVar 0) (tCons (tVar 1) (tCons (tVar 2) tNil))))) (tRet (tC (.bl false))) tNext) (tSeq (tAsg (tGet1 (tFld K (tVar 0) "kinds") (tVar 1)) (gName 3)) (tSeq (tIfS (tTest (tOp rNotN (tVar 3) (tC .non))) (tSeq (tAsg (tTup (tCons (tVar 3) (tCons (tOp rDivU (tVar 2) (tC (.int 1440))) tNil))) (gName 4)) (tAsg (tOp (rAddU K) (tGet2 (tFld K (tVar 0) "spent") (tVar 4) (tC (.int 0))) (tC (.int 1))) (gSub (tFld K (tVar 0) "spent") (tVar 4) rSetU))) tNext) (tRet (tC (.bl true))))))
def t_Budgets_wish (K : PySem.W.Frag) (a : Adr) (E : XK) : TS :=
  (tSeq (tIfS (tOr (tTest (tOp rIsN (tMeth a.c_Budgets "left" (sp_Budgets_left K a) [] E (tVar 0) (tCons (tVar 1) (tCons (tVar 3) tNil))) (tC .non))) (tNot (tTest (tChain rLe rLe (tC (.int 1)) (tVar 2) (tC (.int 120)))))) (tRaiseE a.c_RightFault E) tNext) (tSeq (tDrop (tBM K "list" rAppend (tFld K (tVar 0) "wishes") (tCons (tTup (tCons (tOp (rIxU K) (tFld K (tVar 0) "kinds") (tVar 1)) (tCons (tVar 2) (tCons (tOp rDivU (tVar 3) (tC (.int 1440))) (tCons (tC .non) tNil))))) tNil))) (tRet (tOp rSubU (tCB (rLenU K) (tCons (tFld K (tVar 0) "wishes") tNil)) (tC (.int 1))))))
def t_Budgets_answer (K : PySem.W.Frag) (a : Adr) (E : XK) : TS :=
  (tSeq (tIfS (tOr (tNot (tTest (tChain rLe rLt (tC (.int 0)) (tVar 1) (tCB (rLenU K) (tCons (tFld K (tVar 0) "wishes") tNil))))) (tTest (tOp rNotN (tOp (rIxU K) (tOp (rIxU K) (tFld K (tVar 0) "wishes") (tVar 1)) (tC (.int 3))) (tC .non)))) (tRaiseE a.c_RightFault E) tNext) (tSeq (tAsg (tOp (rIxU K) (tFld K (tVar 0) "wishes") (tVar 1)) (gTup K 4 (gCons (gName 4) (gCons (gName 5) (gCons (gName 6) (gCons (gName 7) gNil)))))) (tSeq (tIfS (tTest (tOp (rNeU K) (tVar 6) (tOp rDivU (tVar 3) (tC (.int 1440))))) (tRaiseE a.c_RightFault E) tNext) (tSeq (tAsg (tTup (tCons (tVar 4) (tCons (tVar 5) (tCons (tVar 6) (tCons (tVar 2) tNil))))) (gSub (tFld K (tVar 0) "wishes") (tVar 1) rSetU)) (tIfS (tTruth K (tVar 2)) (tAsg (tOp (rAddU K) (tGet2 (tFld K (tVar 0) "extra") (tTup (tCons (tVar 4) (tCons (tVar 6) tNil))) (tC (.int 0))) (tVar 5)) (gSub (tFld K (tVar 0) "extra") (tTup (tCons (tVar 4) (tCons (tVar 6) tNil))) rSetU)) tNext)))))
def t_law_dice (K : PySem.W.Frag) (a : Adr) (E : XK) : TS :=
  (tSeq (tIfS (tTest (tChain rLt rLt (tOp rSubU (tC (.int 0)) (tC (.int 10))) (tVar 0) (tC (.int 10)))) (tRet (tLst (tCons (tCB (rAbs) (tCons (tVar 0) tNil)) (tCons (tC (.int 0)) (tCons (tC (.int 2)) tNil))))) tNext) (tRet (tLst (tCons (tVar 0) (tCons (tOp (rAddU K) (tC (.int 1)) (tOp rModU (tCB (rInt1) (tCons (tVar 0) tNil)) (tC (.int 1009)))) (tCons (tCB (rInt1) (tCons (tOp rGe (tVar 0) (tOp rPowU (tC (.int 10)) (tC (.int 18)))) tNil)) tNil))))))
def t_law_roll (K : PySem.W.Frag) (a : Adr) (E : XK) : TS :=
  (tSeq (tIfS (tOr (tTest (tOp (rEqU K) (tOp (rIxU K) (tVar 0) (tC (.int 2))) (tC (.int 2)))) (tAnd (tTest (tOp (rEqU K) (tOp (rIxU K) (tVar 0) (tC (.int 2))) (tC (.int 1)))) (tTest (tOp rGt (tOp (rIxU K) (tVar 0) (tC (.int 0))) (tC (.int 0)))))) (tSeq (tAsg (tOp rModU (tCB (rInt1) (tCons (tOp (rIxU K) (tVar 0) (tC (.int 0))) tNil)) (tVar 1)) (gName 2)) (tSeq (tAsg (tOp rDivU (tOp (rIxU K) (tVar 0) (tC (.int 0))) (tVar 1)) (gSub (tVar 0) (tC (.int 0)) rSetU)) (tRet (tVar 2)))) tNext) (tSeq (tAsg (tC (.int 0)) (gSub (tVar 0) (tC (.int 2)) rSetU)) (tSeq (tIfS (tTest (tOp rGt (tVar 1) (tC (.int 100000000)))) tNever tNext) (tSeq (tAsg (tOp rModU (tCB (rInt1) (tCons (tOp (rAddU K) (tOp (rAddU K) (tOp rMulU (tOp (rIxU K) (tVar 0) (tC (.int 0))) (tC (.int 48271))) (tOp rMulU (tOp (rIxU K) (tVar 0) (tC (.int 1))) (tC (.int 69621)))) (tC (.int 11))) tNil)) (tC (.int 2147483647))) (gSub (tVar 0) (tC (.int 0)) rSetU)) (tSeq (tAsg (tOp (rAddU K) (tOp (rIxU K) (tVar 0) (tC (.int 1))) (tC (.int 1))) (gSub (tVar 0) (tC (.int 1)) rSetU)) (tRet (tOp rModU (tCB (rInt1) (tCons (tOp rDivU (tOp (rIxU K) (tVar 0) (tC (.int 0))) (tC (.int 7))) tNil)) (tVar 1))))))))
def t_law_rounds (K : PySem.W.Frag) (a : Adr) (E : XK) : TS :=
  (tSeq (tAsg (tSl (rSlU K) (tVar 0) tNoPart (tPart (tVar 1))) (gName 2)) (tSeq (tIfS (tTest (tOp (rEqU K) (tVar 2) (tLst tNil))) (tAsg (tLst (tCons (tC (.int 0)) tNil)) (gName 2)) tNext) (tRet (tLc (iList K (tVar 2)) (gName 3) tYes (tCall (sp_law_dice K a) [] E0 (tCons (tVar 3) tNil)) [3]))))
def t_law_closed (K : PySem.W.Frag) (a : Adr) (E : XK) : TS :=
  (tSeq (tAsg (tOp rModU (tVar 1) (tC (.int 1440))) (gName 2)) (tRet (tOp (rNeU K) (tLc (iList K (tVar 0)) (gTup K 2 (gCons (gName 3) (gCons (gName 4) gNil))) (tOr (tAnd (tTest (tOp rLt (tVar 3) (tVar 4))) (tTest (tChain rLe rLt (tVar 3) (tVar 2) (tVar 4)))) (tAnd (tTest (tOp rGe (tVar 3) (tVar 4))) (tOr (tTest (tOp rGe (tVar 2) (tVar 3))) (tTest (tOp rLt (tVar 2) (tVar 4)))))) (tC (.int 1)) [3, 4]) (tLst tNil))))
def D_law_0 : LamD := (lamOf (eltOf (asgOf ((defBody s_law).getD 4 (.Pass ⟨0, 0, 0, 0⟩))) 4))
def D_law_1 : LamD := (lamOf (eltOf (asgOf ((defBody s_law).getD 4 (.Pass ⟨0, 0, 0, 0⟩))) 3))
def D_law_2 : LamD := (lamOf (eltOf (asgOf ((defBody s_law).getD 4 (.Pass ⟨0, 0, 0, 0⟩))) 2))
def D_law_3 : LamD := (lamOf (eltOf (asgOf ((defBody s_law).getD 4 (.Pass ⟨0, 0, 0, 0⟩))) 1))
def D_law_4 : LamD := (lamOf (eltOf (asgOf ((defBody s_law).getD 4 (.Pass ⟨0, 0, 0, 0⟩))) 0))
abbrev F_law : List LamD := [D_law_0, D_law_1, D_law_2, D_law_3, D_law_4]
def TF_law (K : PySem.W.Frag) (a : Adr) (j : Nat) (E : XK) : TE := match j with
  | 0 => (tMeth a.c_Budgets "wish" (sp_Budgets_wish K a) [] E (tVar 24) (tCons (tC (.str "zz")) (tCons (tC (.int 5)) (tCons (tC (.int 0)) tNil))))
  | 1 => (tMeth a.c_Budgets "answer" (sp_Budgets_answer K a) [] E (tVar 24) (tCons (tC (.int 0)) (tCons (tC (.bl true)) (tCons (tC (.int 0)) tNil))))
  | 2 => (tMeth a.c_Budgets "put_kind" (sp_Budgets_put_kind K a) [] E (tVar 24) (tCons (tC (.str "x")) (tCons (tC (.int 5)) (tCons (tTup (tCons (tTup (tCons (tC (.int 0)) (tCons (tC (.int 1440)) tNil))) tNil)) tNil))))
  | 3 => (tMeth a.c_Budgets "put_kind" (sp_Budgets_put_kind K a) [(.ref a.dt_Budgets_put_kind_0)] E (tVar 24) (tCons (tC (.str "x")) (tCons (tC (.int 1441)) tNil)))
  | 4 => (tMeth a.c_Budgets "put_kind" (sp_Budgets_put_kind K a) [(.ref a.dt_Budgets_put_kind_0)] E (tVar 24) (tCons (tC (.str "x")) (tCons (tUn rNeg (tC (.int 1))) tNil)))
  | _ => fun _ _ _ => False
theorem TF_law_0 {K : PySem.W.Frag} {a : Adr} {E : XK} : TF_law K a 0 E = (tMeth a.c_Budgets "wish" (sp_Budgets_wish K a) [] E (tVar 24) (tCons (tC (.str "zz")) (tCons (tC (.int 5)) (tCons (tC (.int 0)) tNil)))) := rfl
theorem TF_law_1 {K : PySem.W.Frag} {a : Adr} {E : XK} : TF_law K a 1 E = (tMeth a.c_Budgets "answer" (sp_Budgets_answer K a) [] E (tVar 24) (tCons (tC (.int 0)) (tCons (tC (.bl true)) (tCons (tC (.int 0)) tNil)))) := rfl
theorem TF_law_2 {K : PySem.W.Frag} {a : Adr} {E : XK} : TF_law K a 2 E = (tMeth a.c_Budgets "put_kind" (sp_Budgets_put_kind K a) [] E (tVar 24) (tCons (tC (.str "x")) (tCons (tC (.int 5)) (tCons (tTup (tCons (tTup (tCons (tC (.int 0)) (tCons (tC (.int 1440)) tNil))) tNil)) tNil)))) := rfl
theorem TF_law_3 {K : PySem.W.Frag} {a : Adr} {E : XK} : TF_law K a 3 E = (tMeth a.c_Budgets "put_kind" (sp_Budgets_put_kind K a) [(.ref a.dt_Budgets_put_kind_0)] E (tVar 24) (tCons (tC (.str "x")) (tCons (tC (.int 1441)) tNil))) := rfl
theorem TF_law_4 {K : PySem.W.Frag} {a : Adr} {E : XK} : TF_law K a 4 E = (tMeth a.c_Budgets "put_kind" (sp_Budgets_put_kind K a) [(.ref a.dt_Budgets_put_kind_0)] E (tVar 24) (tCons (tC (.str "x")) (tCons (tUn rNeg (tC (.int 1))) tNil))) := rfl
def t_law_for0 (K : PySem.W.Frag) (a : Adr) (E : XK) (cs : List (Str × Addr)) : TS :=
  (tIfS (tTest (tOp rGt (tCall (sp_law_roll K a) [] E (tCons (tVar 1) (tCons (tC (.int 3)) tNil))) (tC (.int 0)))) (tSeq (tAsg (tCall (sp_law_roll K a) [] E (tCons (tVar 1) (tCons (tC (.int 20)) tNil))) (gSub (tVar 9) (tVar 10) rSetU)) (tSeq (tAsg (tLc (iRng1 (tCons (tCall (sp_law_roll K a) [] E (tCons (tVar 1) (tCons (tC (.int 3)) tNil))) tNil)) (gName 11) tYes (tTup (tCons (tCall (sp_law_roll K a) [] E0 (tCons (tVar 1) (tCons (tC (.int 1440)) tNil))) (tCons (tCall (sp_law_roll K a) [] E0 (tCons (tVar 1) (tCons (tC (.int 1440)) tNil))) tNil))) [11]) (gSub (tVar 4) (tVar 10) rSetU)) (tDrop (tMeth a.c_Budgets "put_kind" (sp_Budgets_put_kind K a) [] E (tVar 2) (tCons (tVar 10) (tCons (tOp (rIxU K) (tVar 9) (tVar 10)) (tCons (tOp (rIxU K) (tVar 4) (tVar 10)) tNil))))))) tNext)
def t_law_for1 (K : PySem.W.Frag) (a : Adr) (E : XK) (cs : List (Str × Addr)) : TS :=
  (tIfS (tTest (tOp rGt (tCall (sp_law_roll K a) [] E (tCons (tVar 1) (tCons (tC (.int 4)) tNil))) (tC (.int 0)))) (tSeq (tAsg (tOp (rIxU K) (tLst (tCons (tC (.str "game")) (tCons (tC (.str "talk")) (tCons (tC (.str "work")) tNil)))) (tCall (sp_law_roll K a) [] E (tCons (tVar 1) (tCons (tC (.int 3)) tNil)))) (gSub (tVar 3) (tOp (rAddU K) (tC (.str "app")) (tCB (rStrI) (tCons (tVar 11) tNil))) rSetU)) (tDrop (tMeth a.c_Budgets "put_app" (sp_Budgets_put_app K a) [] E (tVar 2) (tCons (tOp (rAddU K) (tC (.str "app")) (tCB (rStrI) (tCons (tVar 11) tNil))) (tCons (tOp (rIxU K) (tVar 3) (tOp (rAddU K) (tC (.str "app")) (tCB (rStrI) (tCons (tVar 11) tNil)))) tNil))))) tNext)
def t_law_if2 (K : PySem.W.Frag) (a : Adr) (E : XK) (cs : List (Str × Addr)) : TS :=
  (tRet (tC (.bl false)))
def t_law_if3 (K : PySem.W.Frag) (a : Adr) (E : XK) (cs : List (Str × Addr)) : TS :=
  (tSeq (tIfS (tTest (tOp (rNeU K) (tMeth a.c_Budgets "use" (sp_Budgets_use K a) [] E (tVar 2) (tCons (tVar 13) (tCons (tVar 8) tNil))) (tVar 17))) (tRet (tC (.bl false))) tNext) (tIfS (tAnd (tTruth K (tVar 17)) (tTest (tOp rNotN (tVar 10) (tC .non)))) (tAsg (tOp (rAddU K) (tGet2 (tVar 5) (tTup (tCons (tVar 10) (tCons (tVar 15) tNil))) (tC (.int 0))) (tC (.int 1))) (gSub (tVar 5) (tTup (tCons (tVar 10) (tCons (tVar 15) tNil))) rSetU)) tNext))
def t_law_if4 (K : PySem.W.Frag) (a : Adr) (E : XK) (cs : List (Str × Addr)) : TS :=
  (tSeq (tAsg (tCall (sp_law_roll K a) [] E (tCons (tVar 1) (tCons (tC (.int 130)) tNil))) (gName 18)) (tSeq (tAsg (tAndV (tOp rNotN (tVar 16) (tC .non)) (tChain rLe rLe (tC (.int 1)) (tVar 18) (tC (.int 120)))) (gName 19)) (tSeq (tIfS (tTest (tOp (rNeU K) (tLamP a.tb_law (lamq "law") (TTold K a.c_RightFault "RightFault") (fun E => (tMeth a.c_Budgets "wish" (sp_Budgets_wish K a) [] E (tVar 2) (tCons (tVar 13) (tCons (tVar 18) (tCons (tVar 8) tNil)))))) (tIf (tTruth K (tVar 19)) (tCB (rLenU K) (tCons (tVar 7) tNil)) (tC (.str "RightFault"))))) (tRet (tC (.bl false))) tNext) (tAsg (tOp (rAddU K) (tVar 7) (tOp rMulU (tLst (tCons (tLst (tCons (tVar 10) (tCons (tVar 18) (tCons (tVar 15) (tCons (tC .non) tNil))))) tNil)) (tCB (rInt1) (tCons (tVar 19) tNil)))) (gName 7)))))
def t_law_if5 (K : PySem.W.Frag) (a : Adr) (E : XK) (cs : List (Str × Addr)) : TS :=
  (tSeq (tAsg (tTup (tCons (tCall (sp_law_roll K a) [] E (tCons (tVar 1) (tCons (tOp (rAddU K) (tCB (rLenU K) (tCons (tVar 7) tNil)) (tC (.int 1))) tNil))) (tCons (tOp (rEqU K) (tCall (sp_law_roll K a) [] E (tCons (tVar 1) (tCons (tC (.int 2)) tNil))) (tC (.int 0))) tNil))) (gTup K 2 (gCons (gName 20) (gCons (gName 21) gNil)))) (tSeq (tAsg (tAndV (tOp rLt (tVar 20) (tCB (rLenU K) (tCons (tVar 7) tNil))) (tAndV (tOp rIsN (tOp (rIxU K) (tOp (rIxU K) (tVar 7) (tVar 20)) (tC (.int 3))) (tC .non)) (tOp (rEqU K) (tOp (rIxU K) (tOp (rIxU K) (tVar 7) (tVar 20)) (tC (.int 2))) (tVar 15)))) (gName 19)) (tSeq (tIfS (tTest (tOp (rEqU K) (tOp (rEqU K) (tLamP a.tb_law (lamq "law") (TTold K a.c_RightFault "RightFault") (fun E => (tMeth a.c_Budgets "answer" (sp_Budgets_answer K a) [] E (tVar 2) (tCons (tVar 20) (tCons (tVar 21) (tCons (tVar 8) tNil)))))) (tC (.str "RightFault"))) (tVar 19))) (tRet (tC (.bl false))) tNext) (tIfS (tTruth K (tVar 19)) (tSeq (tAsg (tOp (rAddU K) (tSl (rSlU K) (tOp (rIxU K) (tVar 7) (tVar 20)) tNoPart (tPart (tC (.int 3)))) (tLst (tCons (tVar 21) tNil))) (gSub (tVar 7) (tVar 20) rSetU)) (tAsg (tOp (rAddU K) (tGet2 (tVar 6) (tTup (tCons (tOp (rIxU K) (tOp (rIxU K) (tVar 7) (tVar 20)) (tC (.int 0))) (tCons (tVar 15) tNil))) (tC (.int 0))) (tOp rMulU (tOp (rIxU K) (tOp (rIxU K) (tVar 7) (tVar 20)) (tC (.int 1))) (tCB (rInt1) (tCons (tVar 21) tNil)))) (gSub (tVar 6) (tTup (tCons (tOp (rIxU K) (tOp (rIxU K) (tVar 7) (tVar 20)) (tC (.int 0))) (tCons (tVar 15) tNil))) rSetU))) tNext))))
def t_law_tail6 (K : PySem.W.Frag) (a : Adr) (E : XK) (cs : List (Str × Addr)) : TS :=
  (tIfS (tOr (tTest (tOp (rNeU K) (tLockE (tLc (iKeys (tVar 5)) (gName 22) (tAnd (tTest (tOp (rInV K) (tOp (rIxU K) (tVar 22) (tC (.int 0))) (tVar 9))) (tTest (tOp rGt (tOp (rIxU K) (tVar 5) (tVar 22)) (tOp (rAddU K) (tOp (rIxU K) (tVar 9) (tOp (rIxU K) (tVar 22) (tC (.int 0)))) (tGet2 (tVar 6) (tVar 22) (tC (.int 0))))))) (tVar 22) [22])) (tLst tNil))) (tTest (tOp (rNeU K) (tLc (iList K (tFld K (tVar 2) "wishes")) (gName 23) tYes (tCB (rListOf K) (tCons (tVar 23) tNil)) [23]) (tVar 7)))) (tRet (tC (.bl false))) tNext)
def t_law_tail7 (K : PySem.W.Frag) (a : Adr) (E : XK) (cs : List (Str × Addr)) : TS :=
  (tSeq (tIfS (tTest (tOp rLt (tVar 14) (tC (.int 5)))) (t_law_if3 K a E cs) (tIfS (tTest (tOp rLt (tVar 14) (tC (.int 7)))) (t_law_if4 K a E cs) (tIfS (tTest (tOp (rNeU K) (tVar 7) (tLst tNil))) (t_law_if5 K a E cs) tNext))) (t_law_tail6 K a E cs))
def t_law_tail8 (K : PySem.W.Frag) (a : Adr) (E : XK) (cs : List (Str × Addr)) : TS :=
  (tSeq (tIfS (tOr (tTest (tOp (rNeU K) (tMeth a.c_Budgets "left" (sp_Budgets_left K a) [] E (tVar 2) (tCons (tVar 13) (tCons (tVar 8) tNil))) (tVar 16))) (tOr (tTest (tOp (rNeU K) (tMeth a.c_Budgets "may_use" (sp_Budgets_may_use K a) [] E (tVar 2) (tCons (tVar 13) (tCons (tVar 8) tNil))) (tVar 17))) (tTest (tOp (rNeU K) (tMeth a.c_Budgets "is_closed" (sp_Budgets_is_closed K a) [] E (tVar 2) (tCons (tVar 10) (tCons (tVar 8) tNil))) (tCall (sp_law_closed K a) [] E (tCons (tGet2 (tVar 4) (tVar 10) (tLst tNil)) (tCons (tVar 8) tNil))))))) (t_law_if2 K a E cs) tNext) (t_law_tail7 K a E cs))
def t_law_tail9 (K : PySem.W.Frag) (a : Adr) (E : XK) (cs : List (Str × Addr)) : TS :=
  (tSeq (tAsg (tGet1 (tVar 3) (tVar 13)) (gName 10)) (tSeq (tAsg (tIf (tTest (tOp (rNotInV K) (tVar 10) (tVar 9))) (tC .non) (tCB (rMax2) (tCons (tC (.int 0)) (tCons (tOp rSubU (tOp (rAddU K) (tOp (rIxU K) (tVar 9) (tVar 10)) (tGet2 (tVar 6) (tTup (tCons (tVar 10) (tCons (tVar 15) tNil))) (tC (.int 0)))) (tGet2 (tVar 5) (tTup (tCons (tVar 10) (tCons (tVar 15) tNil))) (tC (.int 0)))) tNil)))) (gName 16)) (tSeq (tAsg (tAndV (tNotV (tCall (sp_law_closed K a) [] E (tCons (tGet2 (tVar 4) (tVar 10) (tLst tNil)) (tCons (tVar 8) tNil)))) (tOrV (tOp rIsN (tVar 16) (tC .non)) (tOp rGt (tVar 16) (tC (.int 0))))) (gName 17)) (t_law_tail8 K a E cs))))
def t_law_for10 (K : PySem.W.Frag) (a : Adr) (E : XK) (cs : List (Str × Addr)) : TS :=
  (tSeq (tAsg (tOp (rAddU K) (tVar 8) (tOp (rIxU K) (tLst (tCons (tC (.int 0)) (tCons (tC (.int 1)) (tCons (tCall (sp_law_roll K a) [] E (tCons (tVar 1) (tCons (tC (.int 30)) tNil))) (tCons (tCall (sp_law_roll K a) [] E (tCons (tVar 1) (tCons (tC (.int 900)) tNil))) tNil))))) (tCall (sp_law_roll K a) [] E (tCons (tVar 1) (tCons (tC (.int 4)) tNil))))) (gName 8)) (tSeq (tAsg (tTup (tCons (tOp (rAddU K) (tC (.str "app")) (tCB (rStrI) (tCons (tCall (sp_law_roll K a) [] E (tCons (tVar 1) (tCons (tC (.int 4)) tNil))) tNil))) (tCons (tCall (sp_law_roll K a) [] E (tCons (tVar 1) (tCons (tC (.int 8)) tNil))) (tCons (tOp rDivU (tVar 8) (tC (.int 1440))) tNil)))) (gTup K 3 (gCons (gName 13) (gCons (gName 14) (gCons (gName 15) gNil))))) (t_law_tail9 K a E cs)))
def t_law_tail11 (K : PySem.W.Frag) (a : Adr) (E : XK) (cs : List (Str × Addr)) : TS :=
  (tFor (iRng1 (tCons (tCall (sp_law_roll K a) [] E (tCons (tVar 1) (tCons (tC (.int 81)) tNil))) tNil)) (gName 12) (t_law_for10 K a E cs))
def t_law_tail12 (K : PySem.W.Frag) (a : Adr) (E : XK) (cs : List (Str × Addr)) : TS :=
  (tSeq (tFor (iRng1 (tCons (tC (.int 4)) tNil)) (gName 11) (t_law_for1 K a E cs)) (t_law_tail11 K a E cs))
def t_law_tail13 (K : PySem.W.Frag) (a : Adr) (E : XK) (cs : List (Str × Addr)) : TS :=
  (tSeq (tFor (iList K (tLst (tCons (tC (.str "game")) (tCons (tC (.str "talk")) tNil)))) (gName 10) (t_law_for0 K a E cs)) (t_law_tail12 K a E cs))
def t_law_for14 (K : PySem.W.Frag) (a : Adr) (E : XK) (cs : List (Str × Addr)) : TS :=
  (tSeq (tAsg (tTup (tCons (tMake a.c_Budgets (sp_Budgets__init K a) [] E tNil) (tCons tDNewK (tCons tDNewK (tCons tDNewT (tCons tDNewT (tCons (tLst tNil) (tCons (tCall (sp_law_roll K a) [] E (tCons (tVar 1) (tCons (tC (.int 1440)) tNil))) tNil)))))))) (gTup K 7 (gCons (gName 2) (gCons (gName 3) (gCons (gName 4) (gCons (gName 5) (gCons (gName 6) (gCons (gName 7) (gCons (gName 8) gNil))))))))) (tSeq (tAsg tDNewK (gName 9)) (t_law_tail13 K a E cs)))
def t_law_tail15 (K : PySem.W.Frag) (a : Adr) (E : XK) (cs : List (Str × Addr)) : TS :=
  (tSeq (tAsg (tMake a.c_Budgets (sp_Budgets__init K a) [] E tNil) (gName 24)) (tSeq (tDrop (tMeth a.c_Budgets "put_kind" (sp_Budgets_put_kind K a) [] E (tVar 24) (tCons (tC (.str "game")) (tCons (tC (.int 1440)) (tCons (tTup (tCons (tTup (tCons (tC (.int 1380)) (tCons (tC (.int 420)) tNil))) tNil)) tNil))))) (tSeq (tDrop (tMeth a.c_Budgets "put_app" (sp_Budgets_put_app K a) [] E (tVar 24) (tCons (tC (.str "a")) (tCons (tC (.str "game")) tNil)))) (tSeq (tAsg (tLst (tCons (tLamC a.tb_law (lamq "law") cs D_law_4) (tCons (tLamC a.tb_law (lamq "law") cs D_law_3) (tCons (tLamC a.tb_law (lamq "law") cs D_law_2) (tCons (tLamC a.tb_law (lamq "law") cs D_law_1) (tCons (tLamC a.tb_law (lamq "law") cs D_law_0) tNil)))))) (gName 25)) (tRet (tAndV (tOp (rEqU K) (tLcS (iList K (tVar 25)) (gName 26) (fun σX => (tTest (tOp (rNeU K) (tToldC K a.c_RightFault "RightFault" (lamq "law") cs 26 F_law (TF_law K a) σX) (tC (.str "RightFault"))))) (tC (.int 1)) [26]) (tLst tNil)) (tAndV (tOp (rEqU K) (tLc (iList K (tLst (tCons (tC (.int 1379)) (tCons (tC (.int 1380)) (tCons (tC (.int 1859)) (tCons (tC (.int 1860)) tNil)))))) (gName 8) tYes (tMeth a.c_Budgets "may_use" (sp_Budgets_may_use K a) [] E0 (tVar 24) (tCons (tC (.str "a")) (tCons (tVar 8) tNil))) [8]) (tLst (tCons (tC (.bl true)) (tCons (tC (.bl false)) (tCons (tC (.bl false)) (tCons (tC (.bl true)) tNil)))))) (tMeth a.c_Budgets "use" (sp_Budgets_use K a) [] E (tVar 24) (tCons (tC (.str "b")) (tCons (tC (.int 0)) tNil))))))))))
def t_law (K : PySem.W.Frag) (a : Adr) (E : XK) (cs : List (Str × Addr)) : TS :=
  (tSeq (tFor (iList K (tCall (sp_law_rounds K a) [] E (tCons (tVar 0) (tCons (tC (.int 1)) tNil)))) (gName 1) (t_law_for14 K a E cs)) (t_law_tail15 K a E cs))
end Wk
namespace Wk
open PySem PySem.Spec PyProof.Rows L2 Ph
section
variable {K : PySem.W.Frag} {a : Adr} {B H : Hp} {Q : VK} {E : XK} {L F O : List (Addr × HO)} {I : List Im} {tb : Array Value}
theorem c_dice {c : Int} (hC : Ctx K B H L I) (k : ∀ p i j l H1, Ctx K B H1 ((p, .lst [.int i, .int j, .int l]) :: L) I → Q (.ref p) H1) : sp_law_dice K a [.int c] H Q E :=
  ⟨rfl, c, L, rfl, hC.lay, fun p H' i j l s y => k p i j l H' (hC.moved s y)⟩
theorem c_roll {d : Addr} {m i j l : Int} (hC : Ctx K B H L I) (pk : Pick (d, .lst [.int i, .int j, .int l]) L F) (h0 : 0 < m) (h1 : m ≤ 100000000)
    (k : ∀ r i' j' l' H1, 0 ≤ r → r < m → Ctx K B H1 ((d, .lst [.int i', .int j', .int l']) :: F) I → Q (.int r) H1) : sp_law_roll K a [.ref d, .int m] H Q E :=
  ⟨rfl, d, m, i, j, l, F, rfl, hC.lay.pick pk, h0, h1, fun r i' j' k' H' r0 r1 s y => k r i' j' k' H' r0 r1 (hC.moved s y)⟩
abbrev bL (a : Adr) (b dx pk pm pc ps pe pw : Addr) (ki : List (Str × Str)) (mi : List (Str × Int)) (vc : List (Str × V)) (sp ex : List ((Str × Int) × Int)) (vw : List V) (F : List (Addr × HO)) : List (Addr × HO) :=
  (b, .ins a.c_Budgets dx [("kinds", .ref pk), ("minutes", .ref pm), ("closed", .ref pc), ("spent", .ref ps), ("extra", .ref pe), ("wishes", .ref pw)]) ::
    (pk, .dK (mK V.str ki)) :: (pm, .dK (mK V.int mi)) :: (pc, .dK (mK id vc)) :: (ps, .dT (mT V.int sp)) :: (pe, .dT (mT V.int ex)) :: (pw, .lst vw) :: F
theorem ixN_nat {n i : Nat} (h : i < n) : ixN n (i : Int) = some i := by
  unfold ixN
  rw [if_pos (Int.natCast_nonneg i), if_pos (Int.ofNat_lt.mpr h)]
  rfl
theorem s_putN {R : Hp → Prop} {l : Addr} {xs : List V} {i : Nat} {v : V} {L' : List (Addr × HO)} (hC : Ctx K B H L I) (m : H l = some (.lst xs)) (h : i < xs.length) (u : Up l (.lst (xs.set i v)) L L') (q : ∀ H1, Ctx K B H1 L' I → R H1) : rSetU (.ref l) (.int (i : Int)) v H R :=
  .inl ⟨l, xs, i, i, rfl, rfl, m, ixN_nat h, q _ (hC.put u rfl)⟩
theorem wish_inv {v : V} {w : WS} (h : TD K H v (wD w)) : ∃ p, v = .ref p ∧ SqT K H p [.str w.kind, .int w.many, .int w.day, wordV w.word] := by
  obtain ⟨kd, m, dy, wo⟩ := w
  unfold wD at h
  cases h with
  | tup q t =>
    cases t with
    | cons a1 t => cases t with
      | cons a2 t => cases t with
        | cons a3 t => cases t with
          | cons a4 t =>
            cases t
            cases a1
            cases a2
            cases a3
            cases wo with
            | none => cases a4; exact ⟨_, rfl, q⟩
            | some bb => cases a4; exact ⟨_, rfl, q⟩
section
variable {b dx pk pm pc ps pe pw : Addr} {ki : List (Str × Str)} {mi : List (Str × Int)} {cl : List (Str × Rows)} {vc : List (Str × V)} {sp ex : List ((Str × Int) × Int)} {wi : List WS} {vw : List V} {app kd : Str} {t m : Int}
theorem c_left_none (hC : Ctx K B H L I) (p : Perm2 F L (bL a b dx pk pm pc ps pe pw ki mi vc sp ex vw F)) (h1 : vc.map (·.1) = cl.map (·.1)) (hb : TDs K H (vc.map (·.2)) (cl.map fun p => rowsD p.2)) (hw : TDs K H vw (wi.map wD))
    (e : leftG ⟨ki, mi, cl, sp, ex, wi⟩ app t = none) (k : ∀ H1, Ctx K B H1 L I → Q .non H1) : sp_Budgets_left K a [.ref b, .str app, .int t] H Q E :=
  ⟨rfl, b, app, t, ⟨ki, mi, cl, sp, ex, wi⟩, _, F, rfl, .mk h1 hb hw, hC.lay.perm2 p, fun H1 s y' => by rw [e]; exact k H1 (hC.moved s (y'.perm p.lay.symm))⟩
theorem c_left_some {l : Int} (hC : Ctx K B H L I) (p : Perm2 F L (bL a b dx pk pm pc ps pe pw ki mi vc sp ex vw F)) (h1 : vc.map (·.1) = cl.map (·.1)) (hb : TDs K H (vc.map (·.2)) (cl.map fun p => rowsD p.2)) (hw : TDs K H vw (wi.map wD))
    (e : leftG ⟨ki, mi, cl, sp, ex, wi⟩ app t = some l) (k : ∀ H1, Ctx K B H1 L I → Q (.int l) H1) : sp_Budgets_left K a [.ref b, .str app, .int t] H Q E :=
  ⟨rfl, b, app, t, ⟨ki, mi, cl, sp, ex, wi⟩, _, F, rfl, .mk h1 hb hw, hC.lay.perm2 p, fun H1 s y' => by rw [e]; exact k H1 (hC.moved s (y'.perm p.lay.symm))⟩
theorem c_isc (hC : Ctx K B H L I) (p : Perm2 F L (bL a b dx pk pm pc ps pe pw ki mi vc sp ex vw F)) (h1 : vc.map (·.1) = cl.map (·.1)) (hb : TDs K H (vc.map (·.2)) (cl.map fun p => rowsD p.2)) (hw : TDs K H vw (wi.map wD))
    {bv : Bool} (e : isClosed ⟨ki, mi, cl, sp, ex, wi⟩ (some kd) t = bv) (k : ∀ H1, Ctx K B H1 L I → Q (.bl bv) H1) : sp_Budgets_is_closed K a [.ref b, .str kd, .int t] H Q E :=
  ⟨rfl, b, some kd, t, ⟨ki, mi, cl, sp, ex, wi⟩, _, F, rfl, .mk h1 hb hw, hC.lay.perm2 p, fun H1 s y' => by rw [e]; exact k H1 (hC.moved s (y'.perm p.lay.symm))⟩
theorem c_iscN (hC : Ctx K B H L I) (p : Perm2 F L (bL a b dx pk pm pc ps pe pw ki mi vc sp ex vw F)) (h1 : vc.map (·.1) = cl.map (·.1)) (hb : TDs K H (vc.map (·.2)) (cl.map fun p => rowsD p.2)) (hw : TDs K H vw (wi.map wD))
    (k : ∀ H1, Ctx K B H1 L I → Q (.bl false) H1) : sp_Budgets_is_closed K a [.ref b, .non, .int t] H Q E :=
  ⟨rfl, b, none, t, ⟨ki, mi, cl, sp, ex, wi⟩, _, F, rfl, .mk h1 hb hw, hC.lay.perm2 p, fun H1 s y' => k H1 (hC.moved s (y'.perm p.lay.symm))⟩
theorem c_may (hC : Ctx K B H L I) (p : Perm2 F L (bL a b dx pk pm pc ps pe pw ki mi vc sp ex vw F)) (h1 : vc.map (·.1) = cl.map (·.1)) (hb : TDs K H (vc.map (·.2)) (cl.map fun p => rowsD p.2)) (hw : TDs K H vw (wi.map wD))
    {bv : Bool} (e : mayG ⟨ki, mi, cl, sp, ex, wi⟩ app t = bv) (k : ∀ H1, Ctx K B H1 L I → Q (.bl bv) H1) : sp_Budgets_may_use K a [.ref b, .str app, .int t] H Q E :=
  ⟨rfl, b, app, t, ⟨ki, mi, cl, sp, ex, wi⟩, _, F, rfl, .mk h1 hb hw, hC.lay.perm2 p, fun H1 s y' => by rw [e]; exact k H1 (hC.moved s (y'.perm p.lay.symm))⟩
abbrev bU (a : Adr) (b dx pk pm pc ps pe pw : Addr) (g : BS) (vc : List (Str × V)) (vw : List V) (F : List (Addr × HO)) : List (Addr × HO) := bL a b dx pk pm pc ps pe pw g.kinds g.minutes vc g.spent g.extra vw F
theorem c_closed {p : Addr} {r : Rows} {ws : List V} {bv : Bool} (hC : Ctx K B H L I) (mm : (p, HO.lst ws) ∈ L) (hd : TDs K H ws (r.map rowD)) (hz : r.length ≤ 100) (e : closedAt r t = bv) (k : ∀ H1, Ctx K B H1 L I → Q (.bl bv) H1) : sp_law_closed K a [.ref p, .int t] H Q E :=
  ⟨rfl, p, t, r, ws, L, rfl, hC.lay, mm, hd, Nat.le_trans hz (by decide), fun H1 s y' => by rw [e]; exact k H1 (hC.moved s y')⟩
theorem c_closed0 {p : Addr} (hC : Ctx K B H L I) (mm : (p, HO.lst []) ∈ L) (k : ∀ H1, Ctx K B H1 L I → Q (.bl false) H1) : sp_law_closed K a [.ref p, .int t] H Q E :=
  ⟨rfl, p, t, [], [], L, rfl, hC.lay, mm, .nil, by decide, fun H1 s y' => k H1 (hC.moved s y')⟩
theorem c_use {b : Addr} (hC : Ctx K B H L I) (p : Perm2 F L (bL a b dx pk pm pc ps pe pw ki mi vc sp ex vw F)) (h1 : vc.map (·.1) = cl.map (·.1)) (hb : TDs K H (vc.map (·.2)) (cl.map fun p => rowsD p.2)) (hw : TDs K H vw (wi.map wD)) (hz : sp.length ≤ 1000)
    {bv : Bool} {sp' : List ((Str × Int) × Int)} (e : mayG ⟨ki, mi, cl, sp, ex, wi⟩ app t = bv) (e2 : useG ⟨ki, mi, cl, sp, ex, wi⟩ app t = ⟨ki, mi, cl, sp', ex, wi⟩)
    (k : ∀ H1 dx pk pm pc ps pe pw vc vw, vc.map (·.1) = cl.map (·.1) → Ctx K B H1 (bL a b dx pk pm pc ps pe pw ki mi vc sp' ex vw F) (.dats (vc.map (·.2)) (cl.map fun p => rowsD p.2) :: .dats vw (wi.map wD) :: I) → Q (.bl bv) H1) : sp_Budgets_use K a [.ref b, .str app, .int t] H Q E :=
  ⟨rfl, b, app, t, ⟨ki, mi, cl, sp, ex, wi⟩, _, F, rfl, .mk h1 hb hw, hC.lay.perm2 p, hz, fun H1 O' s R y' => by
    rw [e]
    rw [e2] at R
    cases R with
    | mk h1 h2 h3 => exact k H1 _ _ _ _ _ _ _ _ _ h1 (((hC.moved s y').add (i := .dats _ _) h3).add (i := .dats _ _) h2)⟩
theorem c_wish {b : Addr} {kd : Str} {l : Int} (hC : Ctx K B H L I) (p : Perm2 F L (bL a b dx pk pm pc ps pe pw ki mi vc sp ex vw F)) (h1 : vc.map (·.1) = cl.map (·.1)) (hb : TDs K H (vc.map (·.2)) (cl.map fun p => rowsD p.2)) (hw : TDs K H vw (wi.map wD)) (hz : wi.length ≤ 1000)
    (ek : look ki app = some kd) (el : leftG ⟨ki, mi, cl, sp, ex, wi⟩ app t = some l) (m1 : 1 ≤ m) (m2 : m ≤ 120)
    (k : ∀ H1 dx pk pm pc ps pe pw vc vw, vc.map (·.1) = cl.map (·.1) → Ctx K B H1 (bL a b dx pk pm pc ps pe pw ki mi vc sp ex vw F) (.dats (vc.map (·.2)) (cl.map fun p => rowsD p.2) :: .dats vw ((wi ++ [(⟨kd, m, t / 1440, none⟩ : WS)]).map wD) :: I) → Q (.int wi.length) H1) : sp_Budgets_wish K a [.ref b, .str app, .int m, .int t] H Q E :=
  ⟨rfl, b, app, m, t, ⟨ki, mi, cl, sp, ex, wi⟩, _, F, rfl, .mk h1 hb hw, hC.lay.perm2 p, hz, fun kd' l' ek' el' _ _ H1 O' s R y' => by
    have z := ek.symm.trans ek'
    cases z
    cases R with
    | mk h1 h2 h3 => exact k H1 _ _ _ _ _ _ _ _ _ h1 (((hC.moved s y').add (i := .dats _ _) h3).add (i := .dats _ _) h2), fun n => absurd ⟨by rw [el]; rfl, m1, m2⟩ n⟩
theorem c_wish_bad {b : Addr} (hC : Ctx K B H L I) (p : Perm2 F L (bL a b dx pk pm pc ps pe pw ki mi vc sp ex vw F)) (h1 : vc.map (·.1) = cl.map (·.1)) (hb : TDs K H (vc.map (·.2)) (cl.map fun p => rowsD p.2)) (hw : TDs K H vw (wi.map wD)) (hz : wi.length ≤ 1000)
    (n : ¬ ((leftG ⟨ki, mi, cl, sp, ex, wi⟩ app t).isSome = true ∧ 1 ≤ m ∧ m ≤ 120)) (k : ∀ H1, Ctx K B H1 L I → E (.ref a.c_RightFault) none H1) : sp_Budgets_wish K a [.ref b, .str app, .int m, .int t] H Q E :=
  ⟨rfl, b, app, m, t, ⟨ki, mi, cl, sp, ex, wi⟩, _, F, rfl, .mk h1 hb hw, hC.lay.perm2 p, hz, fun kd' l' ek' el' m1 m2 => absurd ⟨by rw [el']; rfl, m1, m2⟩ n, fun _ H1 s y' => k H1 (hC.moved s (y'.perm p.lay.symm))⟩
theorem c_answer {b : Addr} {i : Nat} {w : WS} {good : Bool} (hC : Ctx K B H L I) (p : Perm2 F L (bL a b dx pk pm pc ps pe pw ki mi vc sp ex vw F)) (h1 : vc.map (·.1) = cl.map (·.1)) (hb : TDs K H (vc.map (·.2)) (cl.map fun p => rowsD p.2)) (hw : TDs K H vw (wi.map wD)) (hz : wi.length ≤ 1000) (hz2 : ex.length ≤ 1000)
    (ew : wi[i]? = some w) (en : w.word = none) (ed : w.day = t / 1440)
    (k : ∀ H1 dx pk pm pc ps pe pw vc vw, vc.map (·.1) = cl.map (·.1) → Ctx K B H1 (bL a b dx pk pm pc ps pe pw ki mi vc sp (answerG ⟨ki, mi, cl, sp, ex, wi⟩ i w good).extra vw F) (.dats (vc.map (·.2)) (cl.map fun p => rowsD p.2) :: .dats vw ((wi.set i ({ w with word := some good } : WS)).map wD) :: I) → Q .non H1) : sp_Budgets_answer K a [.ref b, .int (i : Nat), .bl good, .int t] H Q E :=
  ⟨rfl, b, i, good, t, ⟨ki, mi, cl, sp, ex, wi⟩, _, F, rfl, .mk h1 hb hw, hC.lay.perm2 p, hz, hz2, Int.natCast_nonneg i, fun w' ew' _ _ H1 O' s R y' => by
    rw [Int.toNat_natCast] at ew' R
    have z := ew.symm.trans ew'
    cases z
    cases R with
    | mk h1 h2 h3 => exact k H1 _ _ _ _ _ _ _ _ _ h1 (((hC.moved s y').add (i := .dats _ _) h3).add (i := .dats _ _) h2), fun n => absurd ⟨en, ed⟩ (n w (by rw [Int.toNat_natCast]; exact ew))⟩
theorem c_answer_bad {b : Addr} {i : Nat} {good : Bool} (hC : Ctx K B H L I) (p : Perm2 F L (bL a b dx pk pm pc ps pe pw ki mi vc sp ex vw F)) (h1 : vc.map (·.1) = cl.map (·.1)) (hb : TDs K H (vc.map (·.2)) (cl.map fun p => rowsD p.2)) (hw : TDs K H vw (wi.map wD)) (hz : wi.length ≤ 1000) (hz2 : ex.length ≤ 1000)
    (n : ∀ w, wi[i]? = some w → ¬ (w.word = none ∧ w.day = t / 1440)) (k : ∀ H1, Ctx K B H1 L I → E (.ref a.c_RightFault) none H1) : sp_Budgets_answer K a [.ref b, .int (i : Nat), .bl good, .int t] H Q E :=
  ⟨rfl, b, i, good, t, ⟨ki, mi, cl, sp, ex, wi⟩, _, F, rfl, .mk h1 hb hw, hC.lay.perm2 p, hz, hz2, Int.natCast_nonneg i, fun w' ew' en ed => absurd ⟨en, ed⟩ (n w' (by rw [Int.toNat_natCast] at ew'; exact ew')), fun _ H1 s y' => k H1 (hC.moved s (y'.perm p.lay.symm))⟩
theorem c_init (k : ∀ H1 dx pk pm pc ps pe pw, Ctx K B H1 (bL a b dx pk pm pc ps pe pw [] [] [] [] [] [] F) I → Q .non H1) {dx0 : Addr} (hC : Ctx K B H ((b, .ins a.c_Budgets dx0 []) :: F) I) : sp_Budgets__init K a [.ref b] H Q E :=
  ⟨rfl, b, dx0, F, rfl, hC.lay, fun H1 O' s R y' => by
    cases R with
    | @mk _ _ _ _ _ _ _ vc vw h1 h2 h3 =>
      have e1 : vc = [] := List.map_eq_nil_iff.mp h1
      have e2 : vw = [] := by cases h3; rfl
      subst e1 e2
      exact k H1 _ _ _ _ _ _ _ (hC.moved s y')⟩
theorem c_putapp {b : Addr} {kd : Str} (hC : Ctx K B H L I) (p : Perm2 F L (bL a b dx pk pm pc ps pe pw ki mi vc sp ex vw F)) (h1 : vc.map (·.1) = cl.map (·.1)) (hb : TDs K H (vc.map (·.2)) (cl.map fun p => rowsD p.2)) (hw : TDs K H vw (wi.map wD)) (hz : ki.length ≤ 1000)
    (k : ∀ H1 dx pk pm pc ps pe pw vc vw, vc.map (·.1) = cl.map (·.1) → Ctx K B H1 (bL a b dx pk pm pc ps pe pw (putR ki app kd) mi vc sp ex vw F) (.dats (vc.map (·.2)) (cl.map fun p => rowsD p.2) :: .dats vw (wi.map wD) :: I) → Q .non H1) : sp_Budgets_put_app K a [.ref b, .str app, .str kd] H Q E :=
  ⟨rfl, b, app, kd, ⟨ki, mi, cl, sp, ex, wi⟩, _, F, rfl, .mk h1 hb hw, hC.lay.perm2 p, hz, fun H1 O' s R y' => by
    cases R with
    | mk h1 h2 h3 => exact k H1 _ _ _ _ _ _ _ _ _ h1 (((hC.moved s y').add (i := .dats _ _) h3).add (i := .dats _ _) h2)⟩
theorem c_putkind {b : Addr} {v : V} {r : Rows} (hC : Ctx K B H L I) (p : Perm2 F L (bL a b dx pk pm pc ps pe pw ki mi vc sp ex vw ((a.tb_Budgets_put_kind, .tbl tb) :: F))) (ht : Im.tri tb ∈ I) (h1 : vc.map (·.1) = cl.map (·.1)) (hb : TDs K H (vc.map (·.2)) (cl.map fun p => rowsD p.2)) (hw : TDs K H vw (wi.map wD)) (hz : mi.length ≤ 1000) (hz2 : cl.length ≤ 1000)
    (m0 : 0 ≤ m) (m1 : m ≤ 1440) (hr : r.length ≤ 100) (sq : SeqRows K H v r F) (ok : rowsOk r)
    (k : ∀ H1 tb dx pk pm pc ps pe pw vc vw, vc.map (·.1) = (putR cl kd r).map (·.1) → Ctx K B H1 (bL a b dx pk pm pc ps pe pw ki (putR mi kd m) vc sp ex vw ((a.tb_Budgets_put_kind, .tbl tb) :: F)) (.tri tb :: .dats (vc.map (·.2)) ((putR cl kd r).map fun p => rowsD p.2) :: .dats vw (wi.map wD) :: I) → Q .non H1) : sp_Budgets_put_kind K a [.ref b, .str kd, .int m, v] H Q E :=
  ⟨rfl, b, kd, m, v, ⟨ki, mi, cl, sp, ex, wi⟩, tb, _, F, rfl, .mk h1 hb hw, hC.lay.perm2 p, hC.tri ht, hz, hz2, .inl ⟨m0, m1, r, hr, sq, fun _ H1 O' tb' s t' R y' => by
    cases R with
    | mk h1 h2 h3 => exact k H1 tb' _ _ _ _ _ _ _ _ _ h1 ((((hC.moved s y').add (i := .dats _ _) h3).add (i := .dats _ _) h2).add (i := .tri tb') t'), fun n => absurd ok n⟩⟩
end
end
end Wk
namespace Wk
open PySem PySem.Spec PyProof.Rows L2 Ph
open LamX (TTold)
open GxR (tAnyS)
set_option hygiene false in
local macro_rules | `(tactic| walk_at "cls") => `(tactic| first | with_reducible exact T.cl_Budgets)
set_option hygiene false in
local macro_rules | `(tactic| walk_at "na") => `(tactic| first | with_reducible exact T.na_Budgets_kinds | with_reducible exact T.na_Budgets_minutes | with_reducible exact T.na_Budgets_closed | with_reducible exact T.na_Budgets_spent | with_reducible exact T.na_Budgets_extra | with_reducible exact T.na_Budgets_wishes)
set_option hygiene false in
local macro_rules | `(tactic| walk_at "exc") => `(tactic| first | with_reducible exact T.ec_RightFault)
set_option hygiene false in
local macro_rules | `(tactic| walk_at "mem") => `(tactic| first | with_reducible assumption | with_reducible exact List.mem_cons_self | ((with_reducible apply List.mem_cons_of_mem); walk_at "mem"))
set_option hygiene false in
local macro_rules | `(tactic| walk_at "up") => `(tactic| first | with_reducible exact Up.here | ((with_reducible apply Up.there); walk_at "up"))
set_option hygiene false in
local macro_rules | `(tactic| walk_at "pick") => `(tactic| first | with_reducible exact Pick.here | ((with_reducible apply Pick.there); walk_at "pick"))
set_option hygiene false in
local macro_rules | `(tactic| walk_at "set") => `(tactic| first | with_reducible exact SetAt.here | ((with_reducible apply SetAt.there); walk_at "set"))
set_option hygiene false in
local macro_rules | `(tactic| walk_at "lset") => `(tactic| first | with_reducible exact LSet.here | ((with_reducible apply LSet.there); walk_at "lset"))
set_option hygiene false in
local macro_rules | `(tactic| walk_at "sne") => `(tactic| first | (intro hq; exact absurd (Sum.inr.inj hq) (by decide +kernel)) | decide +kernel)
set_option hygiene false in
local macro_rules | `(tactic| walk_at "lk") => `(tactic| first | with_reducible exact Lk.here | ((with_reducible apply Lk.there); (walk_at "sne"); walk_at "lk"))
set_option hygiene false in
local macro_rules | `(tactic| walk_at "nolk") => `(tactic| first | with_reducible exact NoLk.nil | ((with_reducible apply NoLk.there); (walk_at "sne"); walk_at "nolk"))
set_option hygiene false in
local macro_rules | `(tactic| walk_at "put") => `(tactic| first | with_reducible exact Put.nil | with_reducible exact Put.here | ((with_reducible apply Put.there); (walk_at "sne"); walk_at "put"))
set_option hygiene false in
local macro_rules | `(tactic| walk_at "dk") => `(tactic| first | with_reducible exact Dk.here | ((with_reducible apply Dk.there); (walk_at "sne"); walk_at "dk"))
set_option hygiene false in
local macro_rules | `(tactic| walk_at "dno") => `(tactic| first | with_reducible exact DNo.nil | ((with_reducible apply DNo.there); (walk_at "sne"); walk_at "dno"))
set_option hygiene false in
local macro_rules | `(tactic| walk_at "dpt") => `(tactic| first | ((with_reducible apply DPt.here); walk_at "dno") | ((with_reducible apply DPt.there); (walk_at "sne"); walk_at "dpt"))
set_option hygiene false in
local macro_rules | `(tactic| walk_at "get") => `(tactic| exact hC.get (by walk_at "mem"))
set_option hygiene false in
local macro_rules | `(tactic| walk_at "sqt") => `(tactic| exact hC.tup (by walk_at "mem"))
set_option hygiene false in
local macro_rules | `(tactic| walk_at "len") => `(tactic| first | (simp; done) | (simp only [List.length_append, List.length_cons, List.length_nil]; omega) | omega)
set_option hygiene false in
local macro_rules | `(tactic| walk_at "alli") => `(tactic| first | exact AllI.nil | (apply AllI.cons; walk_at "alli"))
set_option hygiene false in
local macro_rules | `(tactic| walk_at "tok") => `(tactic| first | with_reducible exact ToK.nil | ((with_reducible apply ToK.str); walk_at "tok") | ((with_reducible apply ToK.int); walk_at "tok"))
set_option hygiene false in
local macro_rules | `(tactic| walk_at "rdis") => `(tactic| first | with_reducible exact RDis.nil | ((with_reducible apply RDis.cons); (walk_at "dno"); walk_at "rdis"))
set_option hygiene false in
local macro_rules | `(tactic| walk_at "pull") => `(tactic| first | with_reducible exact Pull.here | ((with_reducible apply Pull.there); walk_at "pull"))
set_option hygiene false in
local macro_rules | `(tactic| walk_at "st3") => `(tactic| first
  | with_reducible refine s_for ?_
  | with_reducible refine s_il ?_
  | ((with_reducible refine' s_ilV ?sm ?_); (case sm => walk_at "get"))
  | with_reducible refine s_rng ?_
  | ((with_reducible refine' s_rngV ?s1 ?s2 ?_); (case s1 => omega); (case s2 => omega))
  | with_reducible refine s_sl ?_
  | with_reducible refine s_noPart ?_
  | with_reducible refine s_partE ?_
  | with_reducible refine s_partV ?_
  | ((with_reducible refine' s_slL hC ?sm ?_); (case sm => first | assumption | exact SqL.of (by walk_at "get")); clear hC; intro sp H hC)
  | with_reducible refine s_lc ?_
  | ((with_reducible refine' s_app hC ?sm ?sz ?su ?_); (case sm => walk_at "get"); (case sz => walk_at "len"); (case su => walk_at "up"); clear hC; intro H hC)
  | ((with_reducible refine' s_disp hC ?_); clear hC; intro dp H hC)
  | with_reducible refine s_pair ?_
  | with_reducible refine s_pnil ?_
  | ((with_reducible refine' s_dispV hC ?sm ?sh ?sn ?sz ?su ?_); (case sm => walk_at "get"); (case sh => walk_at "tok"); (case sn => walk_at "rdis"); (case sz => walk_at "len"); (case su => walk_at "up"); clear hC; intro H hC)
  | ((with_reducible refine' s_toldE ?se ?_); (case se => walk_at "exc"))
  | ((with_reducible refine' s_addL hC ?s1 ?s2 ?sz ?_); (case s1 => walk_at "get"); (case s2 => walk_at "get"); (case sz => walk_at "len"); clear hC; intro lp H hC)
  | ((with_reducible refine' s_ixAny ?sm ?sa ?s0 ?s1 ?_); (case sm => walk_at "get"); (case sa => walk_at "alli"); (case s0 => omega); (case s1 => walk_at "len"); intro iz hiz; simp only [List.mem_cons, List.not_mem_nil, or_false] at hiz))
-- a step of no choice
set_option hygiene false in
local macro_rules | `(tactic| walk_at "st0") => `(tactic| first
  | ((with_reducible refine' s_var ?sa ?_); (case sa => first | rfl | assumption))
  | with_reducible refine s_c ?_
  | with_reducible refine s_op ?_
  | with_reducible refine s_fld ?_
  | ((with_reducible refine' s_fldV ?sm ?sc ?sn ?sl ?_); (case sm => walk_at "get"); (case sc => walk_at "cls"); (case sn => walk_at "na"); (case sl => walk_at "lk"))
  | with_reducible refine s_cons ?_
  | with_reducible refine s_nil ?_
  | with_reducible refine s_seq ?_
  | with_reducible refine s_asg ?_
  | ((with_reducible refine' s_name ?sa ?_); (case sa => walk_at "set"))
  | with_reducible refine s_nx ?_
  | with_reducible refine s_next ?_
  | with_reducible refine s_test ?_
  | with_reducible refine s_bl ?_
  | with_reducible refine s_tru ?_
  | with_reducible refine s_truB ?_
  | with_reducible refine s_truN ?_
  | with_reducible refine s_if ?_
  | with_reducible refine s_and ?_
  | with_reducible refine s_or ?_
  | with_reducible refine s_not ?_
  | with_reducible refine s_ifE ?_
  | with_reducible refine iteT ?_
  | with_reducible refine iteF ?_
  | with_reducible refine s_iteNT ?_
  | with_reducible refine s_iteNF ?_)
set_option hygiene false in
local macro_rules | `(tactic| walk_at "st1") => `(tactic| first
  | with_reducible refine s_addI ?_
  | with_reducible refine s_subI ?_
  | with_reducible refine s_iaddI ?_
  | ((with_reducible refine' s_ltT ?sq ?_); (case sq => assumption))
  | ((with_reducible refine' s_ltF ?sq ?_); (case sq => assumption))
  | with_reducible refine s_ltI ?_
  | ((with_reducible refine' s_leT ?sq ?_); (case sq => assumption))
  | ((with_reducible refine' s_leF ?sq ?_); (case sq => assumption))
  | with_reducible refine s_leI ?_
  | ((with_reducible refine' s_gtT ?sq ?_); (case sq => assumption))
  | ((with_reducible refine' s_gtF ?sq ?_); (case sq => assumption))
  | with_reducible refine s_gtI ?_
  | ((with_reducible refine' s_geT ?sq ?_); (case sq => assumption))
  | ((with_reducible refine' s_geF ?sq ?_); (case sq => assumption))
  | with_reducible refine s_geI ?_
  | ((with_reducible refine' s_eqIT ?sq ?_); (case sq => assumption))
  | ((with_reducible refine' s_eqIF ?sq ?_); (case sq => assumption))
  | with_reducible refine s_eqI ?_
  | with_reducible refine s_neIF ?_
  | with_reducible refine s_neI ?_
  | with_reducible refine s_isN_non ?_
  | with_reducible refine s_isN_ref ?_
  | with_reducible refine s_isN_int ?_
  | with_reducible refine s_isN_str ?_
  | with_reducible refine s_notN_non ?_
  | with_reducible refine s_notN_ref ?_
  | with_reducible refine s_notN_int ?_
  | with_reducible refine s_notN_str ?_
  | ((with_reducible refine' s_eqST ?sq ?_); (case sq => with_reducible rfl))
  | with_reducible refine s_eqS ?_
  | with_reducible refine s_neSs ?_
  | with_reducible refine s_neS ?_
  | with_reducible refine s_eqBs ?_
  | with_reducible refine s_eqTF ?_
  | with_reducible refine s_eqFT ?_
  | with_reducible refine s_eqB ?_
  | with_reducible refine s_neBs ?_
  | with_reducible refine s_neTF ?_
  | with_reducible refine s_neFT ?_
  | with_reducible refine s_neB ?_
  | with_reducible refine s_eqNS ?_
  | with_reducible refine s_eqSN ?_
  | with_reducible refine s_neNS ?_
  | ((with_reducible refine' s_mulI ?sc ?_); (case sc => first | exact .inr ⟨by decide, by decide⟩ | exact .inl ⟨by decide, by decide⟩ | exact .inr ⟨by omega, by omega⟩ | exact .inl ⟨by omega, by omega⟩))
  | ((with_reducible refine' s_modI ?sc ?_); (case sc => first | decide | omega))
  | ((with_reducible refine' s_divI ?sc ?_); (case sc => exact ⟨by first | decide | omega, by first | decide | omega⟩))
  | ((with_reducible refine' s_powI ?sc ?_); (case sc => exact ⟨by decide, by decide, by decide⟩))
  | (refine' s_ixT (j := 0) ?sm ?se ?_; (case sm => walk_at "sqt"); (case se => rfl))
  | (refine' s_ixT (j := 1) ?sm ?se ?_; (case sm => walk_at "sqt"); (case se => rfl))
  | ((with_reducible refine' s_ixD ?sm ?se ?_); (case sm => walk_at "get"); (case se => walk_at "dk"))
  | ((with_reducible refine' s_ixHead ?sm ?_); (case sm => walk_at "get"))
  | ((with_reducible refine' s_ixLast ?sm ?_); (case sm => walk_at "get"))
  | ((with_reducible refine' s_ixL ?sm ?se ?_); (case sm => walk_at "get"); (case se => rfl)))
set_option hygiene false in
local macro_rules | `(tactic| walk_at "st2") => `(tactic| first
  | with_reducible refine s_setF ?_
  | ((with_reducible refine' s_setV hC ?sm ?sc ?sn ?sz ?sp ?su ?_); (case sm => walk_at "get"); (case sc => walk_at "cls"); (case sn => walk_at "na"); (case sz => walk_at "len"); (case sp => walk_at "put"); (case su => walk_at "up"); clear hC; intro H hC)
  | with_reducible refine s_augF ?_
  | ((with_reducible refine' s_augV ?sm ?sc ?sn ?sl ?_); (case sm => walk_at "get"); (case sc => walk_at "cls"); (case sn => walk_at "na"); (case sl => walk_at "lk"))
  | ((with_reducible refine' s_augW hC ?sm ?sz ?sp ?su ?_); (case sm => walk_at "get"); (case sz => walk_at "len"); (case sp => walk_at "put"); (case su => walk_at "up"); clear hC; intro H hC)
  | with_reducible refine s_tup ?_
  | ((with_reducible refine' s_tupP hC ?sz ?_); (case sz => walk_at "len"); clear hC; intro tp H hC)
  | with_reducible refine s_lst ?_
  | ((with_reducible refine' s_lstN hC ?sz ?_); (case sz => walk_at "len"); clear hC; intro lp H hC)
  | with_reducible refine s_ret ?_
  | with_reducible refine s_retN ?_
  | with_reducible refine s_drop ?_
  | with_reducible refine s_bm ?_
  | ((with_reducible refine' s_tyL ?sm ?_); (case sm => walk_at "get"))
  | ((with_reducible refine' s_append hC ?sm ?sz ?su ?_); (case sm => walk_at "get"); (case sz => walk_at "len"); (case su => walk_at "up"); clear hC; intro H hC)
  | with_reducible refine s_cb ?_
  | with_reducible refine s_abs ?_
  | with_reducible refine s_max2N ?_
  | with_reducible refine s_min2N ?_
  | with_reducible refine s_int1 ?_
  | with_reducible refine s_int1T ?_
  | with_reducible refine s_int1F ?_
  | with_reducible refine s_int1b ?_
  | with_reducible refine s_par ?_
  | with_reducible refine s_par2V ?_
  | with_reducible refine s_par3 ?_
  | with_reducible refine s_par3V ?_
  | with_reducible refine s_subG ?_
  | ((with_reducible refine' s_putD hC ?sm ?sz ?sp ?su ?_); (case sm => walk_at "get"); (case sz => walk_at "len"); (case sp => walk_at "dpt"); (case su => walk_at "up"); clear hC; intro H hC)
  | ((with_reducible refine' s_putL (j := 0) hC ?sm ?se ?sw ?su ?_); (case sm => walk_at "get"); (case se => rfl); (case sw => walk_at "lset"); (case su => walk_at "up"); clear hC; intro H hC)
  | ((with_reducible refine' s_putL (j := 1) hC ?sm ?se ?sw ?su ?_); (case sm => walk_at "get"); (case se => rfl); (case sw => walk_at "lset"); (case su => walk_at "up"); clear hC; intro H hC)
  | ((with_reducible refine' s_putL (j := 2) hC ?sm ?se ?sw ?su ?_); (case sm => walk_at "get"); (case se => rfl); (case sw => walk_at "lset"); (case su => walk_at "up"); clear hC; intro H hC)
  | ((with_reducible refine' s_gtup ?sm ?sz ?_); (case sm => walk_at "sqt"); (case sz => rfl))
  | with_reducible refine s_gcons ?_
  | with_reducible refine s_gnil ?_
  | with_reducible refine s_call ?_
  | with_reducible refine s_callV ?_
  | ((with_reducible refine s_callD ?_); dsimp only [List.cons_append, List.nil_append])
  | with_reducible refine s_meth ?_
  | ((with_reducible refine' s_methV ?sm ?sn ?_); (case sm => walk_at "get"); (case sn => walk_at "nolk"))
  | with_reducible refine s_make ?_
  | ((with_reducible refine s_makeV hC ?_); clear hC; intro mx mdx H hC)
  | with_reducible refine s_raise ?_
  | with_reducible refine s_chain ?_
  | with_reducible refine s_chainB ?_
  | with_reducible refine s_andV ?_
  | with_reducible refine s_andB ?_
  | with_reducible refine s_orV ?_
  | with_reducible refine s_orB ?_
  | with_reducible refine s_notV ?_
  | with_reducible refine s_notB ?_
  | with_reducible refine s_un ?_
  | with_reducible refine s_negI ?_
  | with_reducible refine s_asg2 ?_
  | with_reducible refine s_break ?_
  | with_reducible refine s_cont ?_)
set_option hygiene false in
local macro_rules | `(tactic| walk_at "sl") => `(tactic| first | exact Nat.le_trans (nS_len (by omega) (by omega)) (by decide) | exact Nat.le_trans (by assumption) (by decide) | (refine Nat.le_trans (cutS_length _ _ _) ?_; walk_at "sl") | (refine app_le10 ?_ ?_ <;> walk_at "sl") | (refine app_le5 ?_ ?_ <;> walk_at "sl") | (refine app_le2 ?_ ?_ <;> walk_at "sl") | (refine app_le1 ?_ ?_ <;> walk_at "sl") | (refine app_le05 ?_ ?_ <;> walk_at "sl") | (rw [repS_length]; decide) | decide | omega)
set_option hygiene false in
local macro_rules | `(tactic| walk_at "st4") => `(tactic| first
  | with_reducible refine s_gfld ?_
  | with_reducible refine s_bm0 ?_
  | ((with_reducible refine' s_popL hC ?sm ?su ?_); (case sm => walk_at "get"); (case su => walk_at "up"); clear hC; intro H hC)
  | with_reducible refine s_m1 ?_
  | with_reducible refine s_m1V ?_
  | ((with_reducible refine' s_split hC ?sb ?sz ?_); (case sb => rfl); (case sz => walk_at "sl"); clear hC; intro sp H hC)
  | with_reducible refine s_isStrS ?_
  | with_reducible refine s_isStrI ?_
  | ((with_reducible refine' s_slS ?sz ?_); (case sz => walk_at "sl"))
  | ((with_reducible refine' s_slT1 hC ?sm ?sz ?_); (case sm => walk_at "sqt"); (case sz => walk_at "len"); clear hC; intro sp H hC)
  | ((with_reducible refine' s_mulS ?s1 ?s2 ?s3 ?s4 ?_); (case s1 => decide); (case s2 => decide); (case s3 => decide); (case s4 => decide))
  | ((with_reducible refine' s_addSS ?s1 ?s2 ?_); (case s1 => walk_at "sl"); (case s2 => walk_at "sl"))
  | ((with_reducible refine' s_lenL ?sm ?_); (case sm => walk_at "get"))
  | ((with_reducible refine' s_lenSS ?s1 ?_); (case s1 => walk_at "sl"))
  | with_reducible refine s_anyS ?_
  | ((with_reducible refine' s_anyV hC ?sp ?sm ?_); (case sp => walk_at "pick"); (case sm => walk_at "mem"); clear hC; intro tb H hC)
  | ((with_reducible refine' s_lam hC ?sp ?sm ?_); (case sp => walk_at "pick"); (case sm => walk_at "mem"); clear hC; intro tb H hC; try dsimp only)
  | ((with_reducible refine' s_lamV hC ?sp ?sm ?_); (case sp => walk_at "pick"); (case sm => walk_at "mem"); clear hC; intro lf lc tb H hC)
  | with_reducible refine s_yes ?_
  | ((with_reducible refine' s_ixSet ?sm ?sz ?_); (case sm => walk_at "get"); (case sz => assumption))
  | ((with_reducible refine' s_ne00 ?s1 ?s2 ?_); (case s1 => walk_at "get"); (case s2 => walk_at "get"))
  | ((with_reducible refine' s_eq00 ?s1 ?s2 ?_); (case s1 => walk_at "get"); (case s2 => walk_at "get"))
  | with_reducible refine s_neNN ?_
  | with_reducible refine s_eqNN ?_
  | ((with_reducible refine' s_strI ?s0 ?s1 ?_); (case s0 => omega); (case s1 => omega))
  | ((with_reducible refine' s_rep1 hC ?sm ?sz ?_); (case sm => walk_at "get"); (case sz => walk_at "len"); clear hC; intro lp H hC)
  | ((with_reducible refine' s_rep0 hC ?sm ?_); (case sm => walk_at "get"); clear hC; intro lp H hC)
  | with_reducible refine s_it ?_
  | ((with_reducible refine' s_itV ?sm ?_); (case sm => walk_at "sqt"))
  | with_reducible refine s_seqI ?_
  | ((with_reducible refine' s_seqL ?sm ?_); (case sm => walk_at "get"))
  | ((with_reducible refine' s_seqT ?sm ?_); (case sm => walk_at "sqt"))
  | with_reducible refine s_keys ?_
  | with_reducible refine s_anyX ?_
  | ((with_reducible refine' s_anyGV hC ?sp ?sm ?_); (case sp => walk_at "pick"); (case sm => walk_at "mem"); clear hC; intro tb H hC)
  | with_reducible refine s_anyX2 ?_
  | ((with_reducible refine' s_anyGV2 hC ?sp ?sm ?_); (case sp => walk_at "pick"); (case sm => walk_at "mem"); clear hC; intro tb H hC)
  | ((with_reducible refine' s_anyE ?s1 ?s2 ?_); (case s1 => omega); (case s2 => omega))
  | ((with_reducible refine' s_tupOfL hC ?sm ?_); (case sm => walk_at "get"); clear hC; intro tp H hC)
  | ((with_reducible refine' s_tupOfT ?sm ?_); (case sm => walk_at "sqt"))
  | ((with_reducible refine' s_listOfL hC ?sm ?_); (case sm => walk_at "get"); clear hC; intro lp H hC)
  | ((with_reducible refine' s_listOfT hC ?sm ?_); (case sm => walk_at "sqt"); clear hC; intro lp H hC))
set_option hygiene false in
local macro_rules | `(tactic| walk_at "st") => `(tactic| first | walk_at "st0" | walk_at "st1" | walk_at "st2" | walk_at "stc" | walk_at "st3" | walk_at "st4")
set_option hygiene false in
local macro_rules | `(tactic| walk_at "go") => `(tactic| repeat walk_at "st")
set_option hygiene false in
local macro_rules | `(tactic| walk_at "start") => `(tactic| simp only [L2.start, List.length_cons, List.length_nil, List.map_cons, List.map_nil, List.cons_append, List.nil_append, List.replicate, Nat.reduceAdd, Nat.reduceSub, List.range, List.range.loop, List.getElem?_cons_zero, List.getElem?_cons_succ])
set_option hygiene false in
local macro_rules | `(tactic| walk_at "perm2") => `(tactic| first | exact Perm2.nil | (apply Perm2.cons; (walk_at "pick"); walk_at "perm2"))
set_option hygiene false in
local macro_rules | `(tactic| walk_at "lay") => `(tactic| (apply Lay.perm2 hC.lay; walk_at "perm2"))
set_option hygiene false in
local macro_rules | `(tactic| walk_at "sp") => `(tactic| first | refine s_iteDT (by first | assumption | omega) ?_ | refine s_iteDF (by first | assumption | omega) ?_ | refine s_iteNDT (by first | assumption | omega) ?_ | refine s_iteNDF (by first | assumption | omega) ?_ | refine s_iteD (fun c => ?_) (fun c => ?_) | refine s_iteND (fun c => ?_) (fun c => ?_) | refine s_iteB (fun c => ?_) (fun c => ?_) | refine s_iteNB (fun c => ?_) (fun c => ?_))
set_option hygiene false in
local macro_rules | `(tactic| walk_at "all") => `(tactic| ((walk_at "go"); (try ((walk_at "sp") <;> walk_at "all"))))
set_option hygiene false in
local macro_rules | `(tactic| walk_at "tds") => `(tactic| first | exact TDs.nil | exact hC.dats (by walk_at "mem") | exact TDs.mono hC.sb (by assumption) | (apply TDs.cons; (walk_at "td"); walk_at "tds") | (apply TDs.snoc; (walk_at "tds"); walk_at "td") | (apply TDs.append; (walk_at "tds"); walk_at "tds"))
set_option hygiene false in
local macro_rules | `(tactic| walk_at "td") => `(tactic| first | exact TD.non | exact TD.int _ | exact TD.str _ | exact TD.bl _ | exact hC.dat (by walk_at "mem") | (apply TD.tupR; (walk_at "tds"); walk_at "sqt"))
set_option hygiene false in
local macro_rules | `(tactic| walk_at "dsl") => `(tactic| (try dsimp only [List.nil_append, List.cons_append] at hC))
set_option hygiene false in
local macro_rules | `(tactic| walk_at "subs") => `(tactic| first | with_reducible exact Subs.nil | ((with_reducible apply Subs.cons); (walk_at "mem"); walk_at "subs"))
set_option hygiene false in
local macro_rules | `(tactic| walk_at "selT") => `(tactic| first | with_reducible exact Sel.refl | with_reducible exact Sel.toNil _ | ((with_reducible apply Sel.skip); walk_at "selT"))
set_option hygiene false in
local macro_rules | `(tactic| walk_at "sel") => `(tactic| first | ((with_reducible apply Sel.cons); (walk_at "pick"); walk_at "sel") | walk_at "selT")
set_option hygiene false in
local macro_rules | `(tactic| walk_at "lay2") => `(tactic| first | exact hC.lay | ((try simp only [List.nil_append, List.cons_append]); (refine Sel.lay ?_ hC.lay); walk_at "sel"))
set_option hygiene false in
local macro_rules | `(tactic| walk_at "ctx") => `(tactic| ((refine' Ctx.sub hC ?cly ?csu); (case cly => walk_at "lay2"); (case csu => walk_at "subs")))
set_option hygiene false in
local macro_rules | `(tactic| walk_at "lay2") => `(tactic| first | exact hC.lay | ((try simp only [List.nil_append, List.cons_append]); (refine Sel.lay ?_ hC.lay); walk_at "sel"))
set_option hygiene false in
local macro_rules | `(tactic| walk_at "tdm") => `(tactic| first | exact hC.dats (by walk_at "mem") | exact TDs.nil)
set_option hygiene false in
local macro_rules | `(tactic| walk_at "prm") => `(tactic| exact hC.pr (by walk_at "mem"))
set_option hygiene false in
local macro_rules | `(tactic| walk_at "stg") => `(tactic| first
  | with_reducible refine s_g1 ?_
  | with_reducible refine s_notN_bl ?_
  | with_reducible refine s_isN_bl ?_
  | ((with_reducible refine' s_tupP hC ?sz ?_); (case sz => walk_at "len"); clear hC; intro tp H hC)
  | ((with_reducible refine' s_dnewK hC ?_); clear hC; intro dp H hC)
  | ((with_reducible refine' s_dnewT hC ?_); clear hC; intro dp H hC)
  | with_reducible refine s_g2 ?_
  | ((with_reducible refine' s_g1K ?sm ?_); (case sm => walk_at "get"))
  | ((with_reducible refine' s_g1T ?sm ?_); (case sm => walk_at "get"))
  | ((with_reducible refine' s_g2K ?sm ?_); (case sm => walk_at "get"))
  | ((with_reducible refine' s_g2T ?sm ?_); (case sm => walk_at "get"))
  | with_reducible refine s_g2y ?_
  | ((with_reducible refine' s_g1Kei ?sm ?se ?_); (case sm => walk_at "get"); (case se => assumption))
  | ((with_reducible refine' s_g1Ke ?sm ?se ?_); (case sm => walk_at "get"); (case se => assumption))
  | ((with_reducible refine' s_g1Kz ?sm ?se ?_); (case sm => walk_at "get"); (case se => assumption))
  | ((with_reducible refine' s_g2Kei ?sm ?se ?_); (case sm => walk_at "get"); (case se => assumption))
  | ((with_reducible refine' s_g2Ke ?sm ?se ?_); (case sm => walk_at "get"); (case se => assumption))
  | ((with_reducible refine' s_g2Kz ?sm ?se ?_); (case sm => walk_at "get"); (case se => assumption))
  | ((with_reducible refine' s_g2TI ?sm ?sb ?_); (case sm => walk_at "get"); (case sb => walk_at "prm"))
  | ((with_reducible refine' s_ixL ?sm ?se ?_); (case sm => walk_at "get"); (case se => assumption))
  | (refine' s_ixT (j := 3) ?sm ?se ?_; (case sm => walk_at "sqt"); (case se => rfl))
  | ((with_reducible refine' s_putN hC ?sm ?sz ?su ?_); (case sm => walk_at "get"); (case sz => assumption); (case su => walk_at "up"); clear hC; intro H hC)
  | ((with_reducible refine' s_ixPuti ?sm ?_); (case sm => walk_at "get"))
  | ((with_reducible refine' s_ixPut ?sm ?_); (case sm => walk_at "get"))
  | ((with_reducible refine' s_ixKvi ?sm ?se ?_); (case sm => walk_at "get"); (case se => assumption))
  | ((with_reducible refine' s_ixKv ?sm ?se ?_); (case sm => walk_at "get"); (case se => assumption))
  | ((with_reducible refine' s_ninKe ?sm ?se ?_); (case sm => walk_at "get"); (case se => assumption))
  | ((with_reducible refine' s_ninKz ?sm ?se ?_); (case sm => walk_at "get"); (case se => assumption))
  | ((with_reducible refine' s_g1Kv ?sm ?_); (case sm => walk_at "get"))
  | ((with_reducible refine' s_g1Kn ?sm ?_); (case sm => walk_at "get"))
  | ((with_reducible refine' s_g2Kv ?sm ?_); (case sm => walk_at "get"))
  | ((with_reducible refine' s_g2Kn ?sm ?_); (case sm => walk_at "get"))
  | ((with_reducible refine' s_g2Tv ?sm ?sb ?_); (case sm => walk_at "get"); (case sb => walk_at "prm"))
  | ((with_reducible refine' s_putKv (f := V.str) hC ?sm ?sz ?su ?_); (case sm => walk_at "get"); (case sz => omega); (case su => walk_at "up"); clear hC; intro H hC)
  | ((with_reducible refine' s_putKv (f := V.int) hC ?sm ?sz ?su ?_); (case sm => walk_at "get"); (case sz => omega); (case su => walk_at "up"); clear hC; intro H hC)
  | ((with_reducible refine' s_putKi hC ?sm ?sz ?su ?_); (case sm => walk_at "get"); (case sz => omega); (case su => walk_at "up"); clear hC; intro H hC)
  | ((with_reducible refine' s_putTv (f := V.int) hC ?sm ?sb ?sz ?su ?_); (case sm => walk_at "get"); (case sb => walk_at "prm"); (case sz => omega); (case su => walk_at "up"); clear hC; intro H hC)
  | ((with_reducible refine' s_inKe ?sm ?se ?_); (case sm => walk_at "get"); (case se => assumption))
  | ((with_reducible refine' s_inKz ?sm ?se ?_); (case sm => walk_at "get"); (case se => assumption))
  | ((with_reducible refine' s_inKv ?sm ?_); (case sm => walk_at "get"))
  | ((with_reducible refine' s_ninKv ?sm ?_); (case sm => walk_at "get"))
  | ((with_reducible refine' s_inKn ?sm ?_); (case sm => walk_at "get"))
  | ((with_reducible refine' s_ninKn ?sm ?_); (case sm => walk_at "get")))
set_option hygiene false in
local macro_rules | `(tactic| walk_at "stc") => `(tactic| first
  | ((with_reducible refine' c_left_none hC ?sp ?s1 ?s2 ?s3 ?se ?_); (case sp => walk_at "perm2"); (case s1 => assumption); (case s2 => walk_at "tdm"); (case s3 => walk_at "tdm"); (case se => assumption); clear hC; intro H hC)
  | ((with_reducible refine' c_left_some hC ?sp ?s1 ?s2 ?s3 ?se ?_); (case sp => walk_at "perm2"); (case s1 => assumption); (case s2 => walk_at "tdm"); (case s3 => walk_at "tdm"); (case se => assumption); clear hC; intro H hC)
  | ((with_reducible refine' c_isc hC ?sp ?s1 ?s2 ?s3 ?se ?_); (case sp => walk_at "perm2"); (case s1 => assumption); (case s2 => walk_at "tdm"); (case s3 => walk_at "tdm"); (case se => first | assumption | rfl); clear hC; intro H hC)
  | ((with_reducible refine' c_iscN hC ?sp ?s1 ?s2 ?s3 ?_); (case sp => walk_at "perm2"); (case s1 => assumption); (case s2 => walk_at "tdm"); (case s3 => walk_at "tdm"); clear hC; intro H hC)
  | ((with_reducible refine' c_may hC ?sp ?s1 ?s2 ?s3 ?se ?_); (case sp => walk_at "perm2"); (case s1 => assumption); (case s2 => walk_at "tdm"); (case s3 => walk_at "tdm"); (case se => first | assumption | rfl); clear hC; intro H hC)
  | ((with_reducible refine' c_closed0 hC ?sm ?_); (case sm => walk_at "mem"); clear hC; intro H hC)
  | ((with_reducible refine' c_closed hC ?sm ?sd ?sz ?se ?_); (case sm => walk_at "mem"); (case sd => exact hC.dats (by walk_at "mem")); (case sz => assumption); (case se => assumption); clear hC; intro H hC)
  | ((with_reducible refine' c_use hC ?sp ?s1 ?s2 ?s3 ?sz ?se ?se2 ?_); (case sp => walk_at "perm2"); (case s1 => assumption); (case s2 => walk_at "tdm"); (case s3 => walk_at "tdm"); (case sz => omega); (case se => assumption); (case se2 => assumption); clear hC; intro H dx pk pm pc ps pe pw vc vw h1 hC)
  | ((with_reducible refine' c_wish hC ?sp ?s1 ?s2 ?s3 ?sz ?sk ?sl ?sm1 ?sm2 ?_); (case sp => walk_at "perm2"); (case s1 => assumption); (case s2 => walk_at "tdm"); (case s3 => walk_at "tdm"); (case sz => omega); (case sk => assumption); (case sl => assumption); (case sm1 => omega); (case sm2 => omega); clear hC; intro H dx pk pm pc ps pe pw vc vw h1 hC)
  | ((with_reducible refine' c_wish_bad hC ?sp ?s1 ?s2 ?s3 ?sz ?sn ?_); (case sp => walk_at "perm2"); (case s1 => assumption); (case s2 => walk_at "tdm"); (case s3 => walk_at "tdm"); (case sz => omega); (case sn => first | assumption | exact nB _ | (intro nz; omega)); clear hC; intro H hC)
  | ((with_reducible refine' c_answer hC ?sp ?s1 ?s2 ?s3 ?sz ?sz2 ?sw ?sn ?sd ?_); (case sp => walk_at "perm2"); (case s1 => assumption); (case s2 => walk_at "tdm"); (case s3 => walk_at "tdm"); (case sz => omega); (case sz2 => omega); (case sw => assumption); (case sn => rfl); (case sd => first | assumption | rfl); clear hC; intro H dx pk pm pc ps pe pw vc vw h1 hC)
  | ((with_reducible refine' c_answer_bad hC ?sp ?s1 ?s2 ?s3 ?sz ?sz2 ?sn ?_); (case sp => walk_at "perm2"); (case s1 => assumption); (case s2 => walk_at "tdm"); (case s3 => walk_at "tdm"); (case sz => omega); (case sz2 => omega); (case sn => assumption); clear hC; intro H hC)
  | ((with_reducible refine' c_putapp hC ?sp ?s1 ?s2 ?s3 ?sz ?_); (case sp => walk_at "perm2"); (case s1 => assumption); (case s2 => walk_at "tdm"); (case s3 => walk_at "tdm"); (case sz => omega); clear hC; intro H dx pk pm pc ps pe pw vc vw h1 hC)
  | ((with_reducible refine' c_putkind hC ?sp ?st ?s1 ?s2 ?s3 ?sz ?sz2 ?m0 ?m1 ?sr ?sq ?so ?_); (case sp => walk_at "perm2"); (case st => walk_at "mem"); (case s1 => assumption); (case s2 => walk_at "tdm"); (case s3 => walk_at "tdm"); (case sz => omega); (case sz2 => omega); (case m0 => omega); (case m1 => omega); (case sr => assumption); (case sq => exact .inl ⟨_, _, rfl, (by walk_at "mem"), hC.dats (by walk_at "mem")⟩); (case so => assumption); clear hC; intro H tbp dx pk pm pc ps pe pw vc vw h1 hC)
  | ((with_reducible refine' s_lamC hC ?sp ?sm ?_); (case sp => walk_at "pick"); (case sm => walk_at "mem"); clear hC; intro lf lc tb H hC)
  | ((with_reducible refine' c_init ?_ hC); clear hC; intro H dx pk pm pc ps pe pw hC)
  | ((with_reducible refine' c_dice hC ?_); clear hC; intro dd di dj dl H hC)
  | ((with_reducible refine' c_roll hC ?sp ?s0 ?s1 ?_); (case sp => walk_at "pick"); (case s0 => omega); (case s1 => omega); clear hC; intro rr di dj dl H hr0 hr1 hC)
  | walk_at "stg")
section
variable {K : PySem.W.Frag} {mg : Str → Option Value} {a : Adr} {vs : List V} {H : Hp} {Q : VK} {E : XK}
theorem pure_Budgets__init (T : Txt K mg a) (h : sp_Budgets__init K a vs H Q E) : t_Budgets__init K a E { nx := fun _ H' => Q .non H', rt := Q } (L2.start N_Budgets__init vs) H := by
  obtain ⟨_, x, dx, F, rfl, y, k⟩ := h
  have hC := Ctx.start (K := K) y
  unfold t_Budgets__init
  walk_at "start"
  walk_at "go"
  apply k _ _ hC.sb (HRep.mk (vc := []) (vw := []) rfl .nil .nil)
  simp only [mK, mT, List.map_nil]
  walk_at "lay"
theorem pure_Budgets_put_app (T : Txt K mg a) (h : sp_Budgets_put_app K a vs H Q E) : t_Budgets_put_app K a E { nx := fun _ H' => Q .non H', rt := Q } (L2.start N_Budgets_put_app vs) H := by
  obtain ⟨_, b, app, kind, g, O, F, rfl, R, y, hz, k⟩ := h
  cases R with
  | mk h1 h2 h3 =>
    have hC := Ctx.start (K := K) y
    simp only [List.cons_append, List.nil_append] at hC
    unfold t_Budgets_put_app
    walk_at "start"
    walk_at "go"
    apply k _ _ hC.sb (HRep.mk h1 (TDs.mono hC.sb h2) (TDs.mono hC.sb h3))
    exact hC.lay
theorem isC_none {g : BS} {t : Int} : isClosed g none t = false := rfl
theorem pure_Budgets_left (T : Txt K mg a) (h : sp_Budgets_left K a vs H Q E) : t_Budgets_left K a E { nx := fun _ H' => Q .non H', rt := Q } (L2.start N_Budgets_left vs) H := by
  obtain ⟨_, b, app, t, g, O, F, rfl, R, y, k⟩ := h
  cases R with
  | mk h1 h2 h3 =>
    have hC := Ctx.start (K := K) y
    simp only [List.cons_append, List.nil_append] at hC
    unfold t_Budgets_left
    cases ek : look g.kinds app with
    | none =>
      have e0 : leftG g app t = none := by unfold leftG; rw [ek]; rfl
      rw [e0] at k
      walk_at "start"
      walk_at "go"
      exact k _ hC.sb hC.lay
    | some kd =>
      cases em : look g.minutes kd with
      | none =>
        have e0 : leftG g app t = none := by
          unfold leftG leftK
          rw [ek]
          show Option.map _ (look g.minutes kd) = none
          rw [em]
          rfl
        rw [e0] at k
        walk_at "start"
        walk_at "go"
        exact k _ hC.sb hC.lay
      | some m =>
        have e0 : leftG g app t = some (mxI 0 (m + (look g.extra (kd, t / 1440)).getD 0 - (look g.spent (kd, t / 1440)).getD 0)) := by
          unfold leftG leftK
          rw [ek]
          show Option.map _ (look g.minutes kd) = _
          rw [em]
          rfl
        rw [e0] at k
        walk_at "start"
        walk_at "go"
        exact k _ hC.sb hC.lay
end
section
variable {K : PySem.W.Frag} {mg : Str → Option Value} {a : Adr} {vs : List V} {H : Hp} {Q : VK} {E : XK}
theorem pure_Budgets_may_use (T : Txt K mg a) (h : sp_Budgets_may_use K a vs H Q E) : t_Budgets_may_use K a E { nx := fun _ H' => Q .non H', rt := Q } (L2.start N_Budgets_may_use vs) H := by
  obtain ⟨_, b, app, t, g, O, F, rfl, R, y, k⟩ := h
  cases R with
  | mk h1 h2 h3 =>
    have hC := ((Ctx.start (K := K) y).add (i := .dats _ _) h2).add (i := .dats _ _) h3
    simp only [List.cons_append, List.nil_append] at hC
    unfold t_Budgets_may_use
    have em : mayG g app t = (!isClosed g (look g.kinds app) t && some0 (leftG g app t)) := rfl
    rw [em] at k
    cases ek : look g.kinds app with
    | none =>
      rw [ek] at k
      cases el : leftG g app t with
      | none =>
        rw [el] at k
        walk_at "start"
        walk_at "go"
        exact k _ hC.sb hC.lay
      | some l =>
        rw [el] at k
        walk_at "start"
        walk_at "go"
        exact k _ hC.sb hC.lay
    | some kd =>
      rw [ek] at k
      cases ec : isClosed g (some kd) t with
      | true =>
        rw [ec] at k
        walk_at "start"
        walk_at "go"
        exact k _ hC.sb hC.lay
      | false =>
        rw [ec] at k
        cases el : leftG g app t with
        | none =>
          rw [el] at k
          walk_at "start"
          walk_at "go"
          exact k _ hC.sb hC.lay
        | some l =>
          rw [el] at k
          walk_at "start"
          walk_at "go"
          exact k _ hC.sb hC.lay
end
section
variable {K : PySem.W.Frag} {mg : Str → Option Value} {a : Adr} {vs : List V} {H : Hp} {Q : VK} {E : XK}
theorem pure_Budgets_use (T : Txt K mg a) (h : sp_Budgets_use K a vs H Q E) : t_Budgets_use K a E { nx := fun _ H' => Q .non H', rt := Q } (L2.start N_Budgets_use vs) H := by
  obtain ⟨_, b, app, t, g, O, F, rfl, R, y, hz, k⟩ := h
  cases R with
  | mk h1 h2 h3 =>
    have hC := ((Ctx.start (K := K) y).add (i := .dats _ _) h2).add (i := .dats _ _) h3
    simp only [List.cons_append, List.nil_append] at hC
    unfold t_Budgets_use
    have eu : useG g app t = if mayG g app t = true then spendK g (look g.kinds app) (t / 1440) else g := rfl
    rw [eu] at k
    cases em : mayG g app t with
    | false =>
      rw [em, if_neg Bool.false_ne_true] at k
      walk_at "start"
      walk_at "go"
      apply k _ _ hC.sb (HRep.mk h1 (TDs.mono hC.sb h2) (TDs.mono hC.sb h3))
      exact hC.lay
    | true =>
      rw [em, if_pos rfl] at k
      cases ek : look g.kinds app with
      | none =>
        rw [ek] at k
        walk_at "start"
        walk_at "go"
        apply k _ _ hC.sb (HRep.mk h1 (TDs.mono hC.sb h2) (TDs.mono hC.sb h3))
        exact hC.lay
      | some kd =>
        rw [ek] at k
        walk_at "start"
        walk_at "go"
        apply k _ _ hC.sb (HRep.mk (g := spendK g (some kd) (t / 1440)) h1 (TDs.mono hC.sb h2) (TDs.mono hC.sb h3))
        exact hC.lay
end
section
variable {K : PySem.W.Frag} {mg : Str → Option Value} {a : Adr} {vs : List V} {H : Hp} {Q : VK} {E : XK}
theorem pure_Budgets_wish (T : Txt K mg a) (h : sp_Budgets_wish K a vs H Q E) : t_Budgets_wish K a E { nx := fun _ H' => Q .non H', rt := Q } (L2.start N_Budgets_wish vs) H := by
  obtain ⟨_, b, app, m, t, g, O, F, rfl, R, y, hz, k1, k2⟩ := h
  cases R with
  | @mk dx pk pm pc ps pe pw vc vw h1 h2 h3 =>
    have hl := h3.length
    rw [List.length_map] at hl
    have hC := ((Ctx.start (K := K) y).add (i := .dats _ _) h2).add (i := .dats _ _) h3
    simp only [List.cons_append, List.nil_append] at hC
    unfold t_Budgets_wish
    cases el : leftG g app t with
    | none =>
      walk_at "start"
      walk_at "go"
      exact k2 (by rw [el]; simp) _ hC.sb hC.lay
    | some l =>
      have ⟨kd, ek⟩ : ∃ kd, look g.kinds app = some kd := by
        unfold leftG leftK at el
        cases e : look g.kinds app with
        | none => rw [e] at el; cases el
        | some kd => exact ⟨kd, rfl⟩
      by_cases hm : 1 ≤ m
      · by_cases hm2 : m ≤ 120
        · walk_at "start"
          walk_at "all"
          all_goals first | omega | skip
          have q := hC.tup (a := tp) (xs := [V.str kd, V.int m, V.int (t / 1440), V.non]) (by walk_at "mem")
          have e : (((vw ++ [V.ref tp]).length : Nat) : Int) - 1 = g.wishes.length := by
            rw [List.length_append, List.length_singleton, hl]
            omega
          rw [e]
          apply k1 kd l ek el hm hm2 _ _ hC.sb (HRep.mk (g := { g with wishes := g.wishes ++ [⟨kd, m, t / 1440, none⟩] }) (vw := vw ++ [V.ref tp]) h1 (TDs.mono hC.sb h2) ?_)
          · exact hC.lay
          · rw [List.map_append]
            exact TDs.snoc (TDs.mono hC.sb h3) (.tup q (.cons (.str _) (.cons (.int _) (.cons (.int _) (.cons .non .nil)))))
        · walk_at "start"
          walk_at "all"
          all_goals first | omega | exact k2 (fun z => hm2 z.2.2) _ hC.sb hC.lay
      · walk_at "start"
        walk_at "all"
        all_goals first | omega | exact k2 (fun z => hm z.2.1) _ hC.sb hC.lay
end
section
variable {K : PySem.W.Frag} {mg : Str → Option Value} {a : Adr} {vs : List V} {H : Hp} {Q : VK} {E : XK}
theorem pure_Budgets_answer (T : Txt K mg a) (h : sp_Budgets_answer K a vs H Q E) : t_Budgets_answer K a E { nx := fun _ H' => Q .non H', rt := Q } (L2.start N_Budgets_answer vs) H := by
  obtain ⟨_, b, i, good, t, g, O, F, rfl, R, y, hz, hz2, hi, k1, k2⟩ := h
  obtain ⟨n, rfl⟩ : ∃ n : Nat, i = n := ⟨i.toNat, (Int.toNat_of_nonneg hi).symm⟩
  rw [Int.toNat_natCast] at k1 k2
  cases R with
  | @mk dx pk pm pc ps pe pw vc vw h1 h2 h3 =>
    have hl := h3.length
    rw [List.length_map] at hl
    unfold t_Budgets_answer
    cases ew : g.wishes[n]? with
    | none =>
      have hn : ¬ n < g.wishes.length := fun z => by
        rw [List.getElem?_eq_getElem z] at ew
        cases ew
      have hC := ((Ctx.start (K := K) y).add (i := .dats _ _) h2).add (i := .dats _ _) h3
      simp only [List.cons_append, List.nil_append] at hC
      walk_at "start"
      walk_at "all"
      all_goals first | omega | exact k2 (fun w e => by rw [ew] at e; cases e) _ hC.sb hC.lay
    | some w =>
      obtain ⟨hn, _⟩ := List.getElem?_eq_some_iff.mp ew
      obtain ⟨v, ev, tv⟩ := TDs_at (i := n) h3 (by rw [List.getElem?_map, ew]; rfl)
      obtain ⟨p, rfl, q⟩ := wish_inv tv
      have ea : atI vw ((n : Nat) : Int) = some (.ref p) := atI_nat ev
      have hnv : n < vw.length := by omega
      obtain ⟨kd, m, dy, wo⟩ := w
      cases wo with
      | some bb =>
        have hC := (((Ctx.start (K := K) y).add (i := .dats _ _) h2).add (i := .dats _ _) h3).add (i := .tup p [.str kd, .int m, .int dy, .bl bb]) q
        simp only [List.cons_append, List.nil_append] at hC
        walk_at "start"
        walk_at "all"
        all_goals first | omega | exact k2 (fun w e => by rw [ew] at e; cases e; intro z; cases z.1) _ hC.sb hC.lay
      | none =>
        have hC := (((Ctx.start (K := K) y).add (i := .dats _ _) h2).add (i := .dats _ _) h3).add (i := .tup p [.str kd, .int m, .int dy, .non]) q
        simp only [List.cons_append, List.nil_append] at hC
        by_cases hd : dy = t / 1440
        · walk_at "start"
          walk_at "all"
          all_goals first | omega | skip
          all_goals
            subst c
            refine k1 _ ew rfl hd _ _ hC.sb (HRep.mk (g := answerG g n _ _) h1 (TDs.mono hC.sb h2) (vw := vw.set n _) ?_) hC.lay
            show TDs K _ (vw.set n _) ((g.wishes.set n _).map wD)
            rw [List.map_set]
            exact TDs_set (TDs.mono hC.sb h3) (.tup (hC.tup (by walk_at "mem")) (.cons (.str _) (.cons (.int _) (.cons (.int _) (.cons (.bl _) .nil)))))
        · walk_at "start"
          walk_at "all"
          all_goals first | omega | exact k2 (fun w e => by rw [ew] at e; cases e; intro z; exact hd z.2) _ hC.sb hC.lay
end
section
variable {K : PySem.W.Frag} {mg : Str → Option Value} {a : Adr} {vs : List V} {H : Hp} {Q : VK} {E : XK}
theorem row_inv {v : V} {p : Int × Int} (h : TD K H v (rowD p)) : ∃ q, v = .ref q ∧ SqT K H q [.int p.1, .int p.2] := by
  unfold rowD at h
  cases h with
  | tup q t => cases t with
    | cons a1 t => cases t with
      | cons a2 t =>
        cases t
        cases a1
        cases a2
        exact ⟨_, rfl, q⟩
theorem rows_inv {v : V} {r : Rows} (h : TD K H v (rowsD r)) : ∃ p xs, v = .ref p ∧ SqT K H p xs ∧ TDs K H xs (r.map rowD) := by
  unfold rowsD at h
  cases h with
  | tup q t => exact ⟨_, _, rfl, q, t⟩
theorem row_at {xs : List V} {r : Rows} {i : Nat} {x : V} (h : TDs K H xs (r.map rowD)) (hx : xs[i]? = some x) : ∃ p q, r[i]? = some p ∧ x = .ref q ∧ SqT K H q [.int p.1, .int p.2] := by
  have hl := h.length
  rw [List.length_map] at hl
  have hi := (List.getElem?_eq_some_iff.mp hx).1
  obtain ⟨v, e1, e2⟩ := TDs_at (i := i) h (by rw [List.getElem?_map, List.getElem?_eq_getElem (by omega)]; rfl)
  rw [hx] at e1
  cases e1
  obtain ⟨q, rfl, e3⟩ := row_inv e2
  exact ⟨_, q, List.getElem?_eq_getElem (by omega), rfl, e3⟩
theorem closed_t {r : Rows} {t : Int} {i : Nat} {p : Int × Int} (h : r[i]? = some p) (c : rowC (t % 1440) p) : closedAt r t = true :=
  List.any_eq_true.mpr ⟨p, List.mem_of_getElem? h, decide_eq_true c⟩
theorem closed_f {r : Rows} {t : Int} (h : ∀ (i : Nat) (p : Int × Int), r[i]? = some p → ¬ rowC (t % 1440) p) : closedAt r t = false := by
  unfold closedAt
  rw [List.any_eq_false]
  intro p hp
  obtain ⟨i, e⟩ := List.mem_iff_getElem?.mp hp
  rw [decide_eq_false (h i p e)]
  exact Bool.false_ne_true
theorem pure_Budgets_is_closed (T : Txt K mg a) (h : sp_Budgets_is_closed K a vs H Q E) : t_Budgets_is_closed K a E { nx := fun _ H' => Q .non H', rt := Q } (L2.start N_Budgets_is_closed vs) H := by
  obtain ⟨_, b, k, t, g, O, F, rfl, R, y, kq⟩ := h
  cases R with
  | @mk dx pk pm pc ps pe pw vc vw h1 h2 h3 =>
    have hC := Ctx.start (K := K) y
    simp only [List.cons_append, List.nil_append] at hC
    have key : ∀ (pr : Addr) (xs : List V) (r : Rows) (H1 : Hp) (v1 : Option V) (v4 v5 : Option V) (I : List Im), rowsOf g k = r → Ctx K H H1 (bL a b dx pk pm pc ps pe pw g.kinds g.minutes vc g.spent g.extra vw F) I → SqT K H1 pr xs → TDs K H1 xs (r.map rowD) →
        kFor (gTup K 2 (gCons (gName 4) (gCons (gName 5) gNil))) (t_Budgets_is_closed_for0 K a E) ⟨(tRet (tC (.bl false))) { nx := fun _ H' => Q .non H', rt := Q }, Q, fun _ _ => False, fun _ _ => False⟩ [some (.ref b), v1, some (.int t), some (.int (t % 1440)), v4, v5] (Itt K pr) H1 := by
      intro pr xs r H1 v1 v4 v5 I er hC q1 q2
      have hC := (hC.add (i := .tup pr xs) q1).add (i := .dats _ _) q2
      refine for_w (walk_tup (xs := xs)) (fun i σ H2 => ∃ x y I, σ = [some (.ref b), v1, some (.int t), some (.int (t % 1440)), x, y] ∧ Ctx K H H2 (bL a b dx pk pm pc ps pe pw g.kinds g.minutes vc g.spent g.extra vw F) (.dats xs (r.map rowD) :: .tup pr xs :: I) ∧ ∀ j p, j < i → r[j]? = some p → ¬ rowC (t % 1440) p) ⟨v4, v5, I, rfl, hC, fun j p z => absurd z (Nat.not_lt_zero _)⟩
        (fun i σ H2 _ ⟨x, y, I, _, hC, _⟩ => hC.tup (by walk_at "mem")) ?_ ?_
      · rintro i x σ H2 H3 hi ⟨x4, x5, I, rfl, hC, hj⟩ ⟨rfl, hx⟩
        obtain ⟨p, q, e1, rfl, e3⟩ := row_at (hC.dats (by walk_at "mem")) hx
        have hC := hC.add (i := .tup q [.int p.1, .int p.2]) e3
        unfold t_Budgets_is_closed_for0
        have T1 : rowC (t % 1440) p → Q (.bl true) H3 := fun c => by
          have := kq H3 hC.sb hC.lay
          unfold isClosed at this
          rw [er, closed_t e1 c] at this
          exact this
        have T2 : ¬ rowC (t % 1440) p → ∃ x y I, [some (V.ref b), v1, some (.int t), some (.int (t % 1440)), some (.int p.1), some (.int p.2)] = [some (V.ref b), v1, some (.int t), some (.int (t % 1440)), x, y] ∧ Ctx K H H3 (bL a b dx pk pm pc ps pe pw g.kinds g.minutes vc g.spent g.extra vw F) (.dats xs (r.map rowD) :: .tup pr xs :: I) ∧ ∀ j p, j < i + 1 → r[j]? = some p → ¬ rowC (t % 1440) p := fun c =>
          ⟨_, _, [], rfl, hC.sub hC.lay (by walk_at "subs"), fun j p' hj' ep => by
            by_cases e : j = i
            · subst e; rw [e1] at ep; cases ep; exact c
            · exact hj j p' (by omega) ep⟩
        walk_at "all"
        all_goals first
          | exact T1 (by unfold rowC; omega)
          | exact T2 (by unfold rowC; omega)
      · rintro σ H2 ⟨x4, x5, I, rfl, hC, hj⟩
        walk_at "go"
        have := kq H2 hC.sb hC.lay
        unfold isClosed at this
        rw [er, closed_f (fun i p e => hj i p (by
          have hl := (hC.dats (vs := xs) (ds := r.map rowD) (by walk_at "mem")).length
          rw [List.length_map] at hl
          rw [hl]
          exact (List.getElem?_eq_some_iff.mp e).1) e)] at this
        exact this
    unfold t_Budgets_is_closed
    cases k with
    | none =>
      simp only [optS]
      walk_at "start"
      walk_at "go"
      exact key _ [] [] _ _ _ _ _ rfl hC (hC.tup (xs := []) (by walk_at "mem")) .nil
    | some kd =>
      have hC := hC.add (i := .dats _ _) h2
      simp only [optS]
      rcases look_TDs (k := kd) h1 h2 with ⟨e1, e2⟩ | ⟨r, v, e1, e2, e3⟩
      · walk_at "start"
        walk_at "go"
        exact key _ [] [] _ _ _ _ _ (by unfold rowsOf; simp only [e1]; rfl) hC (hC.tup (xs := []) (by walk_at "mem")) .nil
      · obtain ⟨p, xs, rfl, q1, q2⟩ := rows_inv e3
        have hC := (hC.add (i := .dats _ _) q2).add (i := .tup p xs) q1
        walk_at "start"
        walk_at "go"
        exact key _ xs r _ _ _ _ _ (by unfold rowsOf; simp only [e1]; rfl) hC (hC.tup (xs := xs) (by walk_at "mem")) (hC.dats (by walk_at "mem"))
end
section
variable {K : PySem.W.Frag} {mg : Str → Option Value} {a : Adr} {vs : List V} {H : Hp} {Q : VK} {E : XK}
theorem two_at {xs : List V} {x u v : V} {j : Nat} (e : xs = [u, v]) (h : xs[j]? = some x) : (j = 0 ∧ x = u) ∨ (j = 1 ∧ x = v) := by
  subst e
  match j, h with
  | 0, h => exact .inl ⟨rfl, (Option.some.inj h).symm⟩
  | 1, h => exact .inr ⟨rfl, (Option.some.inj h).symm⟩
  | j + 2, h => simp at h
theorem pure_Budgets_put_kind (T : Txt K mg a) (h : sp_Budgets_put_kind K a vs H Q E) : t_Budgets_put_kind K a E { nx := fun _ H' => Q .non H', rt := Q } (L2.start N_Budgets_put_kind vs) H := by
  obtain ⟨_, b, k, m, v, g, tb, O, F, rfl, R, y, ht, hz1, hz2, cs⟩ := h
  cases R with
  | @mk dx pk pm pc ps pe pw vc vw h1 h2 h3 =>
    have hl : vc.length = g.closed.length := by
      have := congrArg List.length h1
      rwa [List.length_map, List.length_map] at this
    rcases cs with ⟨m0, m1, r, hr, sq, k1, k2⟩ | ⟨hm, k2⟩
    · have key : ∀ (p : Addr) (ws : List V) (J : It) (G : Hp → Prop) (H1 : Hp) (tb : Array Value) (Q' : VK) (L : List (Addr × HO)) (I0 : List Im), Walk J ws.length G (YAt ws) → Ctx K H H1 ((a.tb_Budgets_put_kind, .tbl tb) :: L) (.tri tb :: I0) → TDs K H ws (r.map rowD) →
          (∀ H2 (tb : Array Value) I, Ctx K H H2 ((a.tb_Budgets_put_kind, .tbl tb) :: L) (.tri tb :: (I ++ I0)) → G H2) →
          (¬ rowsOk r → ∀ H2 (tb : Array Value) I, Ctx K H H2 ((a.tb_Budgets_put_kind, .tbl tb) :: L) (.tri tb :: (I ++ I0)) → Q' (.bl true) H2) →
          (rowsOk r → ∀ H2 (tb : Array Value) I, Ctx K H H2 ((a.tb_Budgets_put_kind, .tbl tb) :: L) (.tri tb :: (I ++ I0)) → Q' (.bl false) H2) →
          kAnyW2 true (gName 4) tYes (iSeq K (tVar 4)) (gName 5) tYes (tNotV (tChain rLe rLt (tC (.int 0)) (tVar 5) (tC (.int 1440)))) [4, 5] [5] [some (.ref b), some (.str k), some (.int m), some (.ref p), none, none] Q' J H1 := by
        intro p ws J G H1 tb Q' L I0 w hC hd hG q1 q2
        have hl := hd.length
        rw [List.length_map] at hl
        refine any_w2 w (by omega) (fun i H2 => ∃ I, Ctx K H H2 ((a.tb_Budgets_put_kind, .tbl tb) :: L) (.tri tb :: (I ++ I0)) ∧ ∀ j p, j < i → r[j]? = some p → rowOk p) ⟨[], hC, fun j p z => absurd z (Nat.not_lt_zero _)⟩ (fun i H2 _ ⟨I, hC, _⟩ => hG _ _ I hC) ?_ ?_
        · rintro i x H2 H3 ys hi hy hi2 ⟨I, hC, hj⟩ ⟨rfl, hx⟩
          obtain ⟨pr, q, e1, rfl, e3⟩ := row_at hd hx
          have e4 := hC.sb.sqt e3
          simp only [wipe, List.set_cons_zero, List.set_cons_succ]
          have bad : ¬ rowOk pr → ¬ rowsOk r := fun n z => n (z pr (List.mem_of_getElem? e1))
          refine s_name (SetAt.there (SetAt.there (SetAt.there (SetAt.there SetAt.here)))) ?_
          refine ⟨rfl, ?_⟩
          refine s_yes (iteT ?_)
          refine s_seqI (s_var rfl (s_seqT e4 ?_))
          refine any_in (walk_tup (xs := [V.int pr.1, V.int pr.2])) (by simp) (by omega) (by omega) (fun j H4 => ∃ I, Ctx K H H4 ((a.tb_Budgets_put_kind, .tbl tb) :: L) (.tri tb :: (I ++ I0)) ∧ (0 < j → minOk pr.1) ∧ (1 < j → minOk pr.2)) ⟨I, hC, fun z => absurd z (by omega), fun z => absurd z (by omega)⟩ ?_ ?_ ?_
          · rintro j H4 _ ⟨I, hC, _⟩
            exact hC.sb.sqt e3
          · rintro j x H4 H5 zs c' hj1 hzs hc' ⟨I, hC, g1, g2⟩ ⟨rfl, hx⟩
            simp only [wipe, List.set_cons_zero, List.set_cons_succ]
            refine s_name (SetAt.there (SetAt.there (SetAt.there (SetAt.there (SetAt.there SetAt.here))))) ?_
            refine ⟨rfl, ?_⟩
            refine s_yes (iteT ?_)
            rcases two_at rfl hx with ⟨rfl, rfl⟩ | ⟨rfl, rfl⟩
            · walk_at "all"
              all_goals first
                | exact ⟨I, hC, fun _ => ⟨by omega, by omega⟩, fun z => absurd z (by omega)⟩
                | exact q1 (bad (fun z => by have := z.1; unfold minOk at this; omega)) _ _ I hC
                | skip
            · walk_at "all"
              all_goals first
                | exact ⟨I, hC, fun _ => g1 (by omega), fun _ => ⟨by omega, by omega⟩⟩
                | exact q1 (bad (fun z => by have := z.2; unfold minOk at this; omega)) _ _ I hC
                | skip
          · rintro H4 ⟨I, hC, g1, g2⟩
            refine ⟨I, hC, fun j p hj' ep => ?_⟩
            by_cases e : j = i
            · subst e; rw [e1] at ep; cases ep; exact ⟨g1 (by simp), g2 (by simp)⟩
            · exact hj j p (by omega) ep
        · rintro H2 ⟨I, hC, hj⟩
          refine q2 (fun p hp => ?_) _ _ I hC
          obtain ⟨i, e⟩ := List.mem_iff_getElem?.mp hp
          exact hj i p (by rw [hl]; exact (List.getElem?_eq_some_iff.mp e).1) e
      unfold t_Budgets_put_kind
      rcases sq with ⟨p, ws, rfl, hm, hd⟩ | hd
      · have hC := ((Ctx.start (K := K) y).add (i := .dats _ _) h3).add (i := .tri tb) ht
        simp only [List.cons_append, List.nil_append] at hC
        walk_at "start"
        walk_at "all"
        refine key p ws _ _ _ _ _ _ _ (walk_list (xs := ws)) hC hd (fun H2 tb I hC => SqL.of (hC.get (by walk_at "mem"))) (fun n H2 tb I hC => ?_) (fun n H2 tb I hC => ?_)
        · walk_at "go"
          exact k2 n _ tb hC.sb (hC.tri List.mem_cons_self) (hC.lay.perm2 (by simp only [List.cons_append, List.nil_append, putKind]; walk_at "perm2"))
        · have hC := hC.add (i := .dats ws (r.map rowD)) (TDs.mono hC.sb hd)
          walk_at "go"
          refine k1 n _ _ _ hC.sb (hC.tri (by walk_at "mem")) (HRep.mk (g := putKind g k m r) (vc := putR vc k (.ref tp)) (put_keys h1) (put_TDs (d := rowsD) h1 (TDs.mono hC.sb h2) (.tup (hC.tup (by walk_at "mem")) (hC.dats (by walk_at "mem")))) (TDs.mono hC.sb h3)) (hC.lay.perm2 (by simp only [List.cons_append, List.nil_append, putKind]; walk_at "perm2"))
      · obtain ⟨p, ws, rfl, hm, hd⟩ := rows_inv hd
        have hC := (((Ctx.start (K := K) y).add (i := .dats _ _) h3).add (i := .tup p ws) hm).add (i := .tri tb) ht
        simp only [List.cons_append, List.nil_append] at hC
        walk_at "start"
        walk_at "all"
        refine key p ws _ _ _ _ _ _ _ (walk_tup (xs := ws)) hC hd (fun H2 tb I hC => hC.tup (by first | walk_at "mem" | simp)) (fun n H2 tb I hC => ?_) (fun n H2 tb I hC => ?_)
        · walk_at "go"
          exact k2 n _ tb hC.sb (hC.tri List.mem_cons_self) (hC.lay.perm2 (by simp only [List.cons_append, List.nil_append, putKind]; walk_at "perm2"))
        · have hC := hC.add (i := .dats ws (r.map rowD)) (TDs.mono hC.sb hd)
          have hC := hC.add (i := .tup p ws) (hC.tup (by simp))
          walk_at "go"
          refine k1 n _ _ _ hC.sb (hC.tri (by walk_at "mem")) (HRep.mk (g := putKind g k m r) (vc := putR vc k (.ref p)) (put_keys h1) (put_TDs (d := rowsD) h1 (TDs.mono hC.sb h2) (.tup (hC.tup (by walk_at "mem")) (hC.dats (by walk_at "mem")))) (TDs.mono hC.sb h3)) (hC.lay.perm2 (by simp only [List.cons_append, List.nil_append, putKind]; walk_at "perm2"))
    · have hC := ((Ctx.start (K := K) y).add (i := .dats _ _) h3).add (i := .tri tb) ht
      simp only [List.cons_append, List.nil_append] at hC
      unfold t_Budgets_put_kind
      walk_at "start"
      walk_at "all"
      all_goals first | omega | exact k2 _ hC.sb hC.lay
end
section
variable {K : PySem.W.Frag} {mg : Str → Option Value} {a : Adr} {vs : List V} {H : Hp} {Q : VK} {E : XK}
theorem closed_len {r : Rows} {t : Int} : (!(((r.filter fun p => decide (rowC (t % 1440) p)).map fun _ => (1 : Int)).map PyData.int).isEmpty) = closedAt r t := by
  unfold closedAt
  induction r with
  | nil => rfl
  | cons p r ih =>
    rw [List.filter_cons, List.any_cons]
    by_cases c : rowC (t % 1440) p
    · rw [if_pos (decide_eq_true c), decide_eq_true c]; rfl
    · rw [if_neg (by rw [decide_eq_false c]; exact Bool.false_ne_true), decide_eq_false c, ih, Bool.false_or]
theorem pure_law_closed (T : Txt K mg a) (h : sp_law_closed K a vs H Q E) : t_law_closed K a E { nx := fun _ H' => Q .non H', rt := Q } (L2.start N_law_closed vs) H := by
  obtain ⟨_, p, t, r, ws, L, rfl, y, hm, hd, hz, k⟩ := h
  have hC := (Ctx.start (K := K) y).add (i := .dats _ _) hd
  have hl := hd.length
  rw [List.length_map] at hl
  unfold t_law_closed
  walk_at "start"
  walk_at "go"
  let f : Int × Int → Bool := fun p => decide (rowC (t % 1440) p)
  refine lc_w (walk_list (xs := ws)) hC (fun D i H1 => ∃ I, Ctx K H H1 ((D, .lst ((((r.take i).filter f).map fun _ => (1 : Int)).map V.int)) :: L) (.dats ws (r.map rowD) :: I)) (fun D H1 hC => ⟨_, hC⟩) (fun D i H1 _ ⟨I, hC⟩ => SqL.of (hC.get (by walk_at "mem"))) ?_ ?_
  · rintro i x D H1 H' hi ⟨I, hC⟩ ⟨rfl, hx⟩
    obtain ⟨pw, q, e1, rfl, e3⟩ := row_at (hC.dats (by walk_at "mem")) hx
    have hC := hC.add (i := .tup q [.int pw.1, .int pw.2]) e3
    rw [take_get e1]
    simp only [wipe, List.set_cons_zero, List.set_cons_succ]
    have T2 : ¬ rowC (t % 1440) pw → ∃ I, Ctx K H H' ((D, .lst ((((r.take i ++ [pw]).filter f).map fun _ => (1 : Int)).map V.int)) :: L) (.dats ws (r.map rowD) :: I) := fun n => by
      refine ⟨[], ?_⟩
      rw [List.filter_append, List.filter_cons, if_neg (by show ¬ decide _ = true; rw [decide_eq_false n]; exact Bool.false_ne_true), List.filter_nil, List.append_nil]
      exact hC.sub hC.lay (by walk_at "subs")
    walk_at "go"
    refine ⟨rfl, ?_⟩
    walk_at "all"
    all_goals first
      | exact T2 (by unfold rowC; omega)
      | skip
    all_goals
      have n : rowC (t % 1440) pw := by unfold rowC; omega
      refine s_app hC (hC.get (by walk_at "mem")) (by simp only [List.length_map]; exact Nat.lt_of_le_of_lt (List.length_filter_le _ _) (by rw [List.length_take]; omega)) .here (fun H2 hC => ⟨[], ?_⟩)
      rw [List.filter_append, List.filter_cons, if_pos (by show decide _ = true; exact decide_eq_true n), List.filter_nil, List.map_append, List.map_append]
      exact hC.sub hC.lay (by walk_at "subs")
  · rintro D H ⟨I, hC⟩
    rw [hl, List.take_length] at hC
    walk_at "go"
    refine s_neE (hC.get (by walk_at "mem")) (hC.get (by walk_at "mem")) (ints_dats K H _) (ints_sh _) ?_
    rw [closed_len]
    exact k _ hC.sb hC.lay.tail.tail
end
section
variable {K : PySem.W.Frag} {mg : Str → Option Value} {a : Adr} {vs : List V} {H : Hp} {Q : VK} {E : XK}
theorem pure_law_roll (T : Txt K mg a) (h : sp_law_roll K a vs H Q E) : t_law_roll K a E { nx := fun _ H' => Q .non H', rt := Q } (L2.start N_law_roll vs) H := by
  obtain ⟨_, d, m, i, j, l, F, rfl, h1, m0, m1, k⟩ := h
  have hC := Ctx.start (K := K) h1
  unfold t_law_roll
  walk_at "start"
  walk_at "all"
  all_goals first
    | exact k _ _ _ _ _ (Int.emod_nonneg _ (by omega)) (Int.emod_lt_of_pos _ m0) hC.sb hC.lay
theorem pure_law_dice (T : Txt K mg a) (h : sp_law_dice K a vs H Q E) : t_law_dice K a E { nx := fun _ H' => Q .non H', rt := Q } (L2.start N_law_dice vs) H := by
  obtain ⟨_, c0, L, rfl, h1, k⟩ := h
  have hC := Ctx.start (K := K) h1
  unfold t_law_dice
  walk_at "start"
  walk_at "all"
  all_goals first
    | exact k _ _ _ _ _ hC.sb hC.lay
    | trace_state
theorem DL.snoc {ds : List (Addr × Int × Int × Int)} {p : Addr} {i j l : Int} {x : Addr × HO} {L F : List (Addr × HO)} : ((p, HO.lst [.int i, .int j, .int l]) :: (x :: (F ++ (DL ds ++ L)))).Perm (x :: (F ++ (DL (ds ++ [(p, i, j, l)]) ++ L))) := by
  refine (List.Perm.swap _ _ _).trans (List.Perm.cons _ ?_)
  unfold DL
  rw [List.map_append, List.append_assoc]
  refine List.Perm.trans (List.perm_middle (l₁ := F)).symm ?_
  exact List.Perm.append_left F List.perm_middle.symm
theorem ints_cut {ns : List Int} {m : Int} (h0 : 0 ≤ m) (h1 : m ≤ 1000) : ∃ ms : List Int, cutV (ns.map V.int) none (some m) = ms.map V.int ∧ ms.length ≤ 1000 := by
  unfold cutV
  rw [← List.map_drop, ← List.map_take]
  refine ⟨_, rfl, ?_⟩
  rw [List.length_take]
  refine Nat.le_trans (Nat.min_le_left _ _) ?_
  obtain ⟨k, rfl⟩ := Int.eq_ofNat_of_zero_le h0
  show HT.sIx _ _ (some (k : Int)) - _ ≤ 1000
  rw [HT.sIx_nat]
  omega
theorem rounds_rest {B : Hp} {a : Adr} {v0 v1 : Option V} {q : Addr} {ms : List Int} {L F : List (Addr × HO)} (hC : Ctx K B H ((q, .lst (ms.map V.int)) :: (F ++ L)) []) (hm : ms.length ≤ 1000)
    (k : ∀ p (ds : List (Addr × Int × Int × Int)) H', Stb B H' → Lay H' ((p, .lst (ds.map fun d => V.ref d.1)) :: (DL ds ++ L)) → Q (.ref p) H') :
    kLc (gName 3) tYes (tCall (sp_law_dice K a) [] E0 (tCons (tVar 3) tNil)) [3] [v0, v1, some (.ref q), none] Q (Itl K q) H := by
  refine lc_lst (xs := ms.map V.int) hC (fun D i H1 => ∃ ds : List (Addr × Int × Int × Int), ds.length = i ∧ Ctx K B H1 ((D, .lst (ds.map fun d => V.ref d.1)) :: ((q, .lst (ms.map V.int)) :: (F ++ (DL ds ++ L)))) [])
    (fun D H1 hC => ⟨[], rfl, hC⟩) (fun i D H1 hi ⟨ds, e, hC⟩ => hC.get (by walk_at "mem")) ?_ ?_
  · rintro i x D H hx ⟨ds, e, hC⟩
    have hlt := (List.getElem?_eq_some_iff.mp hx).1
    rw [List.length_map] at hlt
    rw [List.getElem?_map] at hx
    obtain ⟨n, hn, rfl⟩ := Option.map_eq_some_iff.mp hx
    simp only [wipe, List.set_cons_zero, List.set_cons_succ]
    walk_at "go"
    refine ⟨rfl, ?_⟩
    walk_at "go"
    refine s_app hC (acc := ds.map fun d => V.ref d.1) (hC.get (by walk_at "mem")) (by rw [List.length_map]; omega) (.there .here) (fun H2 hC => ?_)
    refine ⟨ds ++ [(dd, di, dj, dl)], by rw [List.length_append, e]; rfl, ?_⟩
    rw [List.map_append]
    refine hC.perm ?_
    refine (List.Perm.swap _ _ _).trans (List.Perm.cons _ ?_)
    exact DL.snoc
  · rintro D H ⟨ds, e, hC⟩
    refine k D ds H hC.sb ?_
    have y := hC.lay.perm (List.Perm.swap _ _ _)
    have y := y.tail
    have z : ((D, HO.lst (ds.map fun d => V.ref d.1)) :: (F ++ (DL ds ++ L))).Perm (F ++ ((D, HO.lst (ds.map fun d => V.ref d.1)) :: (DL ds ++ L))) := List.perm_middle.symm
    have y := y.perm z
    exact ⟨(List.nodup_append.mp (by rw [← List.map_append]; exact y.nd)).2.1, fun p hp => y.at_ p (List.mem_append_right _ hp)⟩
theorem pure_law_rounds (T : Txt K mg a) (h : sp_law_rounds K a vs H Q E) : t_law_rounds K a E { nx := fun _ H' => Q .non H', rt := Q } (L2.start N_law_rounds vs) H := by
  obtain ⟨_, s, m, ns, L, rfl, hs, h1, m0, m1, k⟩ := h
  have hC := Ctx.start (K := K) h1
  unfold t_law_rounds
  walk_at "start"
  walk_at "go"
  obtain ⟨ms, e, hm⟩ := ints_cut (ns := ns) m0 m1
  rw [e] at hC
  refine s_eqD (Dp.lst (SqL.of (hC.get (by walk_at "mem"))) (ints_dats K _ ms).dp) (Dp.lst (SqL.of (hC.get (by walk_at "mem"))) .nil) ((ints_sh (n := 0) ms).list.shaped (by decide)) ((ShL.nil (n := 0)).list.shaped (by decide)) ?_
  walk_at "go"
  refine s_iteB (fun c => ?_) (fun c => ?_)
  · walk_at "go"
    exact rounds_rest (ms := [0]) (F := [_, _]) hC (by decide) k
  · walk_at "go"
    exact rounds_rest (ms := ms) (F := [_]) (hC.perm (List.Perm.swap _ _ _)) hm k
end
section
structure SI (g : BS) (ex2 : List ((Str × Int) × Int)) (n : Nat) : Prop where
  hs : g.spent.length ≤ n
  he : g.extra.length ≤ n
  he2 : ex2.length ≤ n
  hw : g.wishes.length ≤ n
  ee : ∀ k, (look ex2 k).getD 0 = (look g.extra k).getD 0
  bd : ∀ k m, look g.minutes k.1 = some m → ∀ s, look g.spent k = some s → s ≤ m + (look g.extra k).getD 0
  wm : ∀ w ∈ g.wishes, 1 ≤ w.many
  wk : ∀ w ∈ g.wishes, PyData.strOk w.kind = true
  kk : ∀ x k, look g.kinds x = some k → PyData.strOk k = true
theorem SI.use {g : BS} {ex2 : List ((Str × Int) × Int)} {n : Nat} {app : Str} {t : Int} (h : SI g ex2 n) : SI (useG g app t) ex2 (n + 1) := by
  unfold useG
  by_cases e : mayG g app t = true
  · rw [if_pos e]
    cases ek : look g.kinds app with
    | none => exact ⟨Nat.le_succ_of_le h.hs, Nat.le_succ_of_le h.he, Nat.le_succ_of_le h.he2, Nat.le_succ_of_le h.hw, h.ee, h.bd, h.wm, h.wk, h.kk⟩
    | some kd =>
      refine ⟨Nat.le_trans putR_len (Nat.succ_le_succ h.hs), Nat.le_succ_of_le h.he, Nat.le_succ_of_le h.he2, Nat.le_succ_of_le h.hw, h.ee, ?_, h.wm, h.wk, h.kk⟩
      intro k m hm s hs
      have hs : look (putR g.spent (kd, t / 1440) ((look g.spent (kd, t / 1440)).getD 0 + 1)) k = some s := hs
      rw [look_put] at hs
      by_cases q : k = (kd, t / 1440)
      · rw [if_pos q] at hs
        cases hs
        subst q
        have e2 : leftG g app t = some (mxI 0 (m + (look g.extra (kd, t / 1440)).getD 0 - (look g.spent (kd, t / 1440)).getD 0)) := by
          unfold leftG leftK
          rw [ek]
          show Option.map _ (look g.minutes kd) = _
          rw [show look g.minutes kd = some m from hm]
          rfl
        unfold mayG at e
        rw [Bool.and_eq_true, e2] at e
        have e3 : mxI 0 (m + (look g.extra (kd, t / 1440)).getD 0 - (look g.spent (kd, t / 1440)).getD 0) > 0 := of_decide_eq_true e.2
        unfold mxI at e3
        show _ ≤ m + (look g.extra (kd, t / 1440)).getD 0
        split at e3 <;> omega
      · rw [if_neg q] at hs
        exact h.bd k m hm s hs
  · rw [if_neg e]
    exact ⟨Nat.le_succ_of_le h.hs, Nat.le_succ_of_le h.he, Nat.le_succ_of_le h.he2, Nat.le_succ_of_le h.hw, h.ee, h.bd, h.wm, h.wk, h.kk⟩
theorem SI.up {g : BS} {ex2 : List ((Str × Int) × Int)} {n : Nat} (h : SI g ex2 n) : SI g ex2 (n + 1) :=
  ⟨Nat.le_succ_of_le h.hs, Nat.le_succ_of_le h.he, Nat.le_succ_of_le h.he2, Nat.le_succ_of_le h.hw, h.ee, h.bd, h.wm, h.wk, h.kk⟩
theorem SI.wish {g : BS} {ex2 : List ((Str × Int) × Int)} {n : Nat} {w : WS} (h : SI g ex2 n) (h1 : 1 ≤ w.many) (h2 : PyData.strOk w.kind = true) : SI { g with wishes := g.wishes ++ [w] } ex2 (n + 1) :=
  ⟨Nat.le_succ_of_le h.hs, Nat.le_succ_of_le h.he, Nat.le_succ_of_le h.he2, by
    show (g.wishes ++ [w]).length ≤ n + 1
    rw [List.length_append]
    exact Nat.succ_le_succ h.hw, h.ee, h.bd, fun v hv => by
    rcases List.mem_append.mp hv with q | q
    · exact h.wm v q
    · rw [List.mem_singleton.mp q]; exact h1, fun v hv => by
    rcases List.mem_append.mp hv with q | q
    · exact h.wk v q
    · rw [List.mem_singleton.mp q]; exact h2, h.kk⟩
theorem SI.answer {g : BS} {ex2 : List ((Str × Int) × Int)} {n i : Nat} {w : WS} {good : Bool} (h : SI g ex2 n) (e : g.wishes[i]? = some w) :
    SI (answerG g i w good) (putR ex2 (w.kind, w.day) ((look ex2 (w.kind, w.day)).getD 0 + w.many * (if good then 1 else 0))) (n + 1) := by
  have hw := h.wm w (List.mem_of_getElem? e)
  have hk := h.wk w (List.mem_of_getElem? e)
  have ms : ∀ (P : WS → Prop), (∀ v ∈ g.wishes, P v) → P { w with word := some good } → ∀ v ∈ g.wishes.set i { w with word := some good }, P v := fun P p q v hv => by
    rcases List.mem_or_eq_of_mem_set hv with z | z
    · exact p v z
    · rw [z]; exact q
  have hx : (answerG g i w good).extra.length ≤ n + 1 := by
    unfold answerG
    cases good
    · exact Nat.le_succ_of_le h.he
    · exact Nat.le_trans putR_len (Nat.succ_le_succ h.he)
  refine ⟨Nat.le_succ_of_le h.hs, hx, Nat.le_trans putR_len (Nat.succ_le_succ h.he2), by
    show (g.wishes.set i _).length ≤ n + 1
    rw [List.length_set]
    exact Nat.le_succ_of_le h.hw, ?_, ?_, ms _ h.wm hw, ms _ h.wk hk, h.kk⟩
  · intro k
    unfold answerG
    rw [look_put]
    cases good with
    | false =>
      show Option.getD (if k = (w.kind, w.day) then _ else _) 0 = (look g.extra k).getD 0
      by_cases q : k = (w.kind, w.day)
      · rw [if_pos q, q]
        show (look ex2 (w.kind, w.day)).getD 0 + w.many * 0 = _
        rw [Int.mul_zero, Int.add_zero, h.ee]
      · rw [if_neg q, h.ee]
    | true =>
      show _ = (look (putR g.extra (w.kind, w.day) _) k).getD 0
      rw [look_put]
      by_cases q : k = (w.kind, w.day)
      · rw [if_pos q, if_pos q]
        show (look ex2 (w.kind, w.day)).getD 0 + w.many * 1 = _
        rw [Int.mul_one, h.ee]
        rfl
      · rw [if_neg q, if_neg q, h.ee]
  · intro k m hm s hs
    have b := h.bd k m hm s hs
    unfold answerG
    cases good with
    | false => exact b
    | true =>
      show s ≤ m + (look (putR g.extra (w.kind, w.day) _) k).getD 0
      rw [look_put]
      by_cases q : k = (w.kind, w.day)
      · rw [if_pos q]
        subst q
        show s ≤ m + ((look g.extra (w.kind, w.day)).getD 0 + w.many)
        omega
      · rw [if_neg q]
        exact b
/-- the law's own rows -/
inductive LWs (F : List (Addr × HO)) : List V → List WS → Prop
  | nil : LWs F [] []
  | cons {p : Addr} {w : WS} {vs : List V} {ws : List WS} : (p, HO.lst [.str w.kind, .int w.many, .int w.day, wordV w.word]) ∈ F → LWs F vs ws → LWs F (.ref p :: vs) (w :: ws)
theorem LWs.mono {F F' : List (Addr × HO)} (s : ∀ x, x ∈ F → x ∈ F') : ∀ {vs ws}, LWs F vs ws → LWs F' vs ws
  | _, _, .nil => .nil
  | _, _, .cons h t => .cons (s _ h) (t.mono s)
theorem LWs.length {F : List (Addr × HO)} : ∀ {vs ws}, LWs F vs ws → vs.length = ws.length
  | _, _, .nil => rfl
  | _, _, .cons h t => congrArg Nat.succ t.length
theorem LWs.snoc {F : List (Addr × HO)} {p : Addr} {w : WS} (h : (p, HO.lst [.str w.kind, .int w.many, .int w.day, wordV w.word]) ∈ F) : ∀ {vs ws}, LWs F vs ws → LWs F (vs ++ [.ref p]) (ws ++ [w])
  | _, _, .nil => .cons h .nil
  | _, _, .cons g t => .cons g (t.snoc h)
theorem LWs.set {F : List (Addr × HO)} {p : Addr} {w : WS} (h : (p, HO.lst [.str w.kind, .int w.many, .int w.day, wordV w.word]) ∈ F) : ∀ {vs ws} (i : Nat), LWs F vs ws → LWs F (vs.set i (.ref p)) (ws.set i w)
  | _, _, _, .nil => .nil
  | _, _, 0, .cons g t => .cons h t
  | _, _, i + 1, .cons g t => .cons g (t.set h i)
theorem LWs.at_ {F : List (Addr × HO)} : ∀ {vs ws} {i : Nat} {w : WS}, LWs F vs ws → ws[i]? = some w → ∃ p, vs[i]? = some (.ref p) ∧ (p, HO.lst [.str w.kind, .int w.many, .int w.day, wordV w.word]) ∈ F
  | _, _, 0, _, .cons g t, h => by
    cases h
    exact ⟨_, rfl, g⟩
  | _, _, i + 1, _, .cons g t, h => t.at_ (i := i) h
  | _, _, _, _, .nil, h => by simp at h
def wL (w : WS) : PyData := .list [.str w.kind, .int w.many, .int w.day, wordD w.word]
theorem word_dp {K : PySem.W.Frag} {H : Hp} : ∀ w : Option Bool, TD K H (wordV w) (wordD w)
  | none => .non
  | some b => .bl b
theorem LWs.dp {K : PySem.W.Frag} {H : Hp} {F : List (Addr × HO)} (y : ∀ x, x ∈ F → H x.1 = some x.2) : ∀ {vs ws}, LWs F vs ws → DpAll K H vs (ws.map wL)
  | _, _, .nil => .nil
  | _, _, .cons h t => .cons (.lst (SqL.of (y _ h)) (.cons (.str _) (.cons (.int _) (.cons (.int _) (.cons (word_dp _).dp .nil))))) (t.dp y)
theorem wL_sh {w : WS} (h : PyData.strOk w.kind = true) : Sh 1 (wL w) :=
  ShL.list (.cons (.str h) (.cons (.int _) (.cons (.int _) (.cons (by cases w.word with | none => exact .non | some b => exact .bl b) .nil))))
/-- the law's closed hours -/
inductive LCs (K : PySem.W.Frag) (H : Hp) (F : List (Addr × HO)) : List (Str × V) → List (Str × Rows) → Prop
  | nil : LCs K H F [] []
  | cons {k : Str} {p : Addr} {ws : List V} {r : Rows} {vs : List (Str × V)} {cl : List (Str × Rows)} : (p, HO.lst ws) ∈ F → TDs K H ws (r.map rowD) → r.length ≤ 100 → LCs K H F vs cl → LCs K H F ((k, .ref p) :: vs) ((k, r) :: cl)
theorem LCs.mono {K : PySem.W.Frag} {H H' : Hp} {F F' : List (Addr × HO)} (s : ∀ x, x ∈ F → x ∈ F') (b : Stb H H') : ∀ {vs cl}, LCs K H F vs cl → LCs K H' F' vs cl
  | _, _, .nil => .nil
  | _, _, .cons h d z t => .cons (s _ h) (TDs.mono b d) z (t.mono s b)
theorem LCs.look {K : PySem.W.Frag} {H : Hp} {F : List (Addr × HO)} {k : Str} : ∀ {vs cl}, LCs K H F vs cl → (look cl k = none ∧ look vs k = none) ∨ ∃ r p ws, look cl k = some r ∧ look vs k = some (.ref p) ∧ (p, HO.lst ws) ∈ F ∧ TDs K H ws (r.map rowD) ∧ r.length ≤ 100
  | _, _, .nil => .inl ⟨rfl, rfl⟩
  | _, _, .cons (k := j) h d z t => by
    rw [look_cons, look_cons]
    by_cases e : j = k
    · rw [if_pos e, if_pos e]
      exact .inr ⟨_, _, _, rfl, rfl, h, d, z⟩
    · rw [if_neg e, if_neg e]
      exact t.look
end
section
variable {K : PySem.W.Frag} {mg : Str → Option Value} {a : Adr} {Q : VK} {E : XK} {cs : List (Str × Addr)}
variable {s dd bu dx pk pm pc ps pe pw pk2 pc2 ps2 pe2 pw2 pm2 : Addr} {ki : List (Str × Str)} {mi : List (Str × Int)} {cl : List (Str × Rows)} {vc vc2 : List (Str × V)} {vw vw2 : List V} {sp ex ex2 : List ((Str × Int) × Int)} {wi : List WS} {F J : List (Addr × HO)} {tb tbp : Array Value} {i j l time : Int}
abbrev wLay (a : Adr) (dd : Addr) (i j l : Int) (bu dx pk pm pc ps pe pw : Addr) (ki : List (Str × Str)) (mi : List (Str × Int)) (vc : List (Str × V)) (sp ex : List ((Str × Int) × Int)) (vw : List V) (pk2 pc2 ps2 pe2 pw2 pm2 : Addr) (vc2 : List (Str × V)) (ex2 : List ((Str × Int) × Int)) (vw2 : List V) (tb tbp : Array Value) (F : List (Addr × HO)) : List (Addr × HO) :=
  (dd, .lst [.int i, .int j, .int l]) :: bL a bu dx pk pm pc ps pe pw ki mi vc sp ex vw ((pk2, .dK (mK V.str ki)) :: (pc2, .dK (mK id vc2)) :: (ps2, .dT (mT V.int sp)) :: (pe2, .dT (mT V.int ex2)) :: (pw2, .lst vw2) :: (pm2, .dK (mK V.int mi)) :: (a.tb_law, .tbl tb) :: (a.tb_Budgets_put_kind, .tbl tbp) :: F)
abbrev wImI (vc : List (Str × V)) (cl : List (Str × Rows)) (vw : List V) (wi : List WS) (tb : Array Value) (I : List Im) : List Im :=
  .dats (vc.map (·.2)) (cl.map fun p => rowsD p.2) :: .dats vw (wi.map wD) :: .tab (lamq "law") tb :: I
abbrev wIm (K : PySem.W.Frag) (vc : List (Str × V)) (cl : List (Str × Rows)) (vw : List V) (wi : List WS) (tb : Array Value) : List Im := wImI vc cl vw wi tb []
/-- the whole state between two steps; F0 stays -/
def WInv (K : PySem.W.Frag) (a : Adr) (B : Hp) (s dd bu pk2 pc2 ps2 pe2 pm2 : Addr) (ki : List (Str × Str)) (mi : List (Str × Int)) (cl : List (Str × Rows)) (vc2 : List (Str × V)) (tbp : Array Value) (F0 : List (Addr × HO)) (n : Nat) (σ : L2.St) (H : Hp) : Prop :=
  ∃ (dx pk pm pc ps pe pw pw2 : Addr) (vc : List (Str × V)) (vw vw2 : List V) (sp ex ex2 : List ((Str × Int) × Int)) (wi : List WS) (J : List (Addr × HO)) (tb : Array Value) (i j l time : Int) (x10 x11 x12 x13 x14 x15 x16 x17 x18 x19 x20 x21 x22 x23 : Option V),
    σ = [some (.ref s), some (.ref dd), some (.ref bu), some (.ref pk2), some (.ref pc2), some (.ref ps2), some (.ref pe2), some (.ref pw2), some (.int time), some (.ref pm2), x10, x11, x12, x13, x14, x15, x16, x17, x18, x19, x20, x21, x22, x23, none, none, none] ∧
    vc.map (·.1) = cl.map (·.1) ∧ SI ⟨ki, mi, cl, sp, ex, wi⟩ ex2 n ∧ LWs (J ++ F0) vw2 wi ∧ Ctx K B H (wLay a dd i j l bu dx pk pm pc ps pe pw ki mi vc sp ex vw pk2 pc2 ps2 pe2 pw2 pm2 vc2 ex2 vw2 tb tbp (J ++ F0)) (wIm K vc cl vw wi tb)
theorem mT_at {sp : List ((Str × Int) × Int)} {i : Nat} {k : List Key} {v : V} (h : (mT V.int sp)[i]? = some (k, v)) : ∃ kd day n, ((kd, day), n) ∈ sp ∧ k = [.inr kd, .inl day] ∧ v = .int n := by
  unfold mT at h
  rw [List.getElem?_map] at h
  obtain ⟨p, e, q⟩ := Option.map_eq_some_iff.mp h
  cases q
  exact ⟨_, _, _, List.mem_of_getElem? e, rfl, rfl⟩
/-- the check that ends a step -/
theorem tail6_ok (T : Txt K mg a) {B H : Hp} {F0 : List (Addr × HO)} {n : Nat} {Rt : VK} {x10 x11 x12 x13 x14 x15 x16 x17 x18 x19 x20 x21 x22 x23 : Option V} {Bk Ct : L2.St → Hp → Prop}
    (h1 : vc.map (·.1) = cl.map (·.1)) (hS : SI ⟨ki, mi, cl, sp, ex, wi⟩ ex2 n) (hn : n ≤ 100) (hW : LWs (J ++ F0) vw2 wi) (hC : Ctx K B H (wLay a dd i j l bu dx pk pm pc ps pe pw ki mi vc sp ex vw pk2 pc2 ps2 pe2 pw2 pm2 vc2 ex2 vw2 tb tbp (J ++ F0)) (wIm K vc cl vw wi tb)) :
    t_law_tail6 K a E cs ⟨WInv K a B s dd bu pk2 pc2 ps2 pe2 pm2 ki mi cl vc2 tbp F0 n, Rt, Bk, Ct⟩ [some (.ref s), some (.ref dd), some (.ref bu), some (.ref pk2), some (.ref pc2), some (.ref ps2), some (.ref pe2), some (.ref pw2), some (.int time), some (.ref pm2), x10, x11, x12, x13, x14, x15, x16, x17, x18, x19, x20, x21, x22, x23, none, none, none] H := by
  have z1 := hS.hs
  have z2 := hS.hw
  dsimp only at z1 z2
  unfold t_law_tail6
  unfold wLay bL at hC
  walk_at "go"
  have hC0 := hC
  refine s_lock (d := ps2) (u := .dT (mT V.int sp)) hC (by walk_at "pick") trivial (fun od H1 s1 hC => ?_)
  walk_at "go"
  refine s_keysT (hC.pr (by walk_at "mem")) ?_
  refine lc_w walk_keysT hC (fun D i H2 => ∃ I, Ctx K H1 H2 ((D, .lst []) :: _) (.pr (fun H => H ps2 = some (.frz od (.dT (mT V.int sp)))) (fun _ _ s h => s _ _ h rfl) :: I)) (fun D H2 hC => ⟨_, hC⟩) (fun D i H2 _ ⟨I, hC⟩ => hC.pr (by walk_at "mem")) ?_ ?_
  · rintro i x D H2 H3 hi ⟨I, hC⟩ ⟨rfl, k, v, q, hk, rfl, hq⟩
    obtain ⟨kd, day, m, hm, rfl, rfl⟩ := mT_at hk
    have hC := (hC.add (i := .pr (fun H => H q = some (.tup [.str kd, .int day])) (fun _ _ s h => s _ _ h rfl)) hq).add (i := .tup q [.str kd, .int day]) (SqT.of hq)
    simp only [wipe, List.set_cons_zero, List.set_cons_succ]
    obtain ⟨m', e1⟩ := look_mem hm
    cases em : look mi kd with
    | none =>
      walk_at "go"
      refine ⟨rfl, ?_⟩
      walk_at "go"
      exact ⟨_, hC.sub hC.lay (.cons (by walk_at "mem") .nil)⟩
    | some mm =>
      have b : m' ≤ mm + (look ex (kd, day)).getD 0 := hS.bd (kd, day) mm em m' e1
      have e2 : (look ex2 (kd, day)).getD 0 = (look ex (kd, day)).getD 0 := hS.ee (kd, day)
      walk_at "go"
      refine ⟨rfl, ?_⟩
      walk_at "go"
      refine s_ixTF (hC.pr (P := fun H => H ps2 = some (.frz od (.dT (mT V.int sp)))) (by walk_at "mem")) (hC.pr (P := fun H => H q = some (.tup [.str kd, .int day])) (by walk_at "mem")) e1 ?_
      walk_at "go"
      refine s_iteDF (by omega) ?_
      exact ⟨_, hC.sub hC.lay (.cons (by walk_at "mem") .nil)⟩
  · rintro D H2 ⟨I, hC⟩
    refine s_unl hC0 (by walk_at "pick") s1 hC (hC.pr (by walk_at "mem")) (fun H3 hC => ?_)
    walk_at "go"
    obtain ⟨R, hp⟩ : ∃ R, R = ((dd, HO.lst [V.int i, V.int j, V.int l]) :: (bu, HO.ins a.c_Budgets dx [("kinds", .ref pk), ("minutes", .ref pm), ("closed", .ref pc), ("spent", .ref ps), ("extra", .ref pe), ("wishes", .ref pw)]) :: (pk, .dK (mK V.str ki)) :: (pm, .dK (mK V.int mi)) :: (pc, .dK (mK id vc)) :: (ps, .dT (mT V.int sp)) :: (pe, .dT (mT V.int ex)) ::
      (pk2, .dK (mK V.str ki)) :: (pc2, .dK (mK id vc2)) :: (ps2, .dT (mT V.int sp)) :: (pe2, .dT (mT V.int ex2)) :: (pm2, .dK (mK V.int mi)) :: (a.tb_law, .tbl tb) :: (a.tb_Budgets_put_kind, .tbl tbp) :: (J ++ F0)) := ⟨_, rfl⟩
    have hC : Ctx K B H ((pw, .lst vw) :: (pw2, .lst vw2) :: R) (wIm K vc cl vw wi tb) := hC.sub (by rw [hp]; walk_at "lay2") (by unfold wIm wImI; walk_at "subs")
    refine lc_w (walk_list (xs := vw)) hC (fun D i H2 => ∃ us J' I, LWs J' us (wi.take i) ∧ us.length = i ∧ Ctx K B H2 ((D, .lst us) :: (pw, .lst vw) :: (pw2, .lst vw2) :: (J' ++ R)) (wImI vc cl vw wi tb I)) (fun D H2 hC => ⟨[], [], [], .nil, rfl, hC⟩) (fun D i H2 _ ⟨us, J', I, _, _, hC⟩ => SqL.of (hC.get (by walk_at "mem"))) ?_ ?_
    · rintro i x D H2 H3 hi ⟨us, J', I, hU, hl, hC⟩ ⟨rfl, hx⟩
      have hd := hC.dats (vs := vw) (ds := wi.map wD) (by walk_at "mem")
      have hlw := hd.length
      rw [List.length_map] at hlw
      obtain ⟨v, e1, tv⟩ := TDs_at (i := i) (d := wD (wi[i]'(by omega))) hd (by rw [List.getElem?_map, List.getElem?_eq_getElem (by omega)]; rfl)
      rw [hx] at e1
      cases e1
      obtain ⟨p, rfl, q⟩ := wish_inv tv
      have hC := hC.add (i := .tup p _) q
      have hwi : wi[i]? = some (wi[i]'(by omega)) := List.getElem?_eq_getElem (by omega)
      generalize wi[i]'(by omega) = w at *
      simp only [wipe, List.set_cons_zero, List.set_cons_succ]
      walk_at "go"
      refine ⟨rfl, ?_⟩
      walk_at "go"
      refine ⟨us ++ [.ref lp], (lp, .lst [.str w.kind, .int w.many, .int w.day, wordV w.word]) :: J', [], ?_, by rw [List.length_append, hl]; rfl, hC.sub (hC.lay.perm2 (by simp only [List.cons_append]; walk_at "perm2")) (by unfold wImI; walk_at "subs")⟩
      rw [take_get hwi]
      exact LWs.snoc List.mem_cons_self (hU.mono fun x hx => List.mem_cons_of_mem _ hx)
    · rintro D H2 ⟨us, J', I, hU, hl, hC⟩
      have hlw := (hC.dats (vs := vw) (ds := wi.map wD) (by walk_at "mem")).length
      rw [List.length_map] at hlw
      rw [hlw, List.take_length] at hU
      walk_at "go"
      refine s_neSameD (d := .list (wi.map wL)) (n := 2) (.lst (SqL.of (hC.get (by walk_at "mem"))) (hU.dp (fun x hx => (hC.lay.at_ x (List.mem_cons_of_mem _ (List.mem_cons_of_mem _ (List.mem_cons_of_mem _ (List.mem_append_left _ hx))))).1)))
        (.lst (SqL.of (hC.get (by walk_at "mem"))) (hW.dp (fun x hx => (hC.lay.at_ x (List.mem_cons_of_mem _ (List.mem_cons_of_mem _ (List.mem_cons_of_mem _ (List.mem_append_right _ (by rw [hp]; simp only [List.mem_cons]; simp [List.mem_append.mp hx])))))).1)))
        (ShL.list (fun d hd => by obtain ⟨w, hw, rfl⟩ := List.mem_map.mp hd; exact wL_sh (hS.wk w hw))) (by decide) ?_
      walk_at "go"
      have y := hC.lay.subl (L' := (pw, .lst vw) :: (pw2, .lst vw2) :: R) (.cons _ (.cons₂ _ (.cons₂ _ (List.sublist_append_right J' R))))
      rw [hp] at y
      exact ⟨dx, pk, pm, pc, ps, pe, pw, pw2, vc, vw, vw2, sp, ex, ex2, wi, J, tb, i, j, l, time, x10, x11, x12, x13, x14, x15, x16, x17, x18, x19, x20, x21, x22, x23, rfl, h1, hS, hW, hC.sub (y.perm2 (by unfold wLay bL; walk_at "perm2")) (by unfold wIm wImI; walk_at "subs")⟩
end
section
variable {K : PySem.W.Frag} {mg : Str → Option Value} {a : Adr} {Q : VK} {E : XK} {cs : List (Str × Addr)}
variable {s dd bu dx pk pm pc ps pe pw pk2 pc2 ps2 pe2 pw2 pm2 : Addr} {ki : List (Str × Str)} {mi : List (Str × Int)} {cl : List (Str × Rows)} {vc vc2 : List (Str × V)} {vw vw2 : List V} {sp ex ex2 : List ((Str × Int) × Int)} {wi : List WS} {F J : List (Addr × HO)} {tb tbp : Array Value} {i j l time : Int}
theorem s_neEL {l m : Addr} {vs : List V} {ds : List PyData} {H : Hp} (hl : H l = some (.lst vs)) (hm : H m = some (.lst [])) (h : DpAll K H vs ds) (sh : ShL 50 ds) (k : Q (.bl (!ds.isEmpty)) H) : rNeU K (.ref l) (.ref m) H Q :=
  s_neD (Dp.lst (SqL.of hl) h) (Dp.lst (SqL.of hm) .nil) (sh.list.shaped (by decide)) ((ShL.nil (n := 0)).list.shaped (by decide)) (by rw [eqv_nil]; exact k)
theorem tail6_wish (T : Txt K mg a) {B H : Hp} {F0 : List (Addr × HO)} {n : Nat} {Rt : VK} {x10 x11 x12 x13 x14 x15 x16 x17 x18 x19 x20 x21 x22 x23 : Option V} {Bk Ct : L2.St → Hp → Prop} {p : Addr} {kd : Str} {m day : Int}
    (h1 : vc.map (·.1) = cl.map (·.1)) (hS : SI ⟨ki, mi, cl, sp, ex, wi⟩ ex2 n) (hm : 1 ≤ m) (hk : PyData.strOk kd = true) (hn : n + 1 ≤ 100) (hW : LWs (J ++ F0) vw2 wi)
    (hC : Ctx K B H (wLay a dd i j l bu dx pk pm pc ps pe pw ki mi vc sp ex vw pk2 pc2 ps2 pe2 pw2 pm2 vc2 ex2 (vw2 ++ [.ref p]) tb tbp ((p, .lst [.str kd, .int m, .int day, .non]) :: (J ++ F0))) (wIm K vc cl vw (wi ++ [(⟨kd, m, day, none⟩ : WS)]) tb)) :
    t_law_tail6 K a E cs ⟨WInv K a B s dd bu pk2 pc2 ps2 pe2 pm2 ki mi cl vc2 tbp F0 (n + 1), Rt, Bk, Ct⟩ [some (.ref s), some (.ref dd), some (.ref bu), some (.ref pk2), some (.ref pc2), some (.ref ps2), some (.ref pe2), some (.ref pw2), some (.int time), some (.ref pm2), x10, x11, x12, x13, x14, x15, x16, x17, x18, x19, x20, x21, x22, x23, none, none, none] H := by
  have hW' : LWs (((p, .lst [.str kd, .int m, .int day, .non]) :: J) ++ F0) (vw2 ++ [.ref p]) (wi ++ [(⟨kd, m, day, none⟩ : WS)]) := LWs.snoc (w := ⟨kd, m, day, none⟩) (F := (p, .lst [.str kd, .int m, .int day, .non]) :: (J ++ F0)) List.mem_cons_self (hW.mono fun x hx => List.mem_cons_of_mem _ hx)
  exact tail6_ok (J := (p, .lst [.str kd, .int m, .int day, .non]) :: J) T h1 (hS.wish (w := ⟨kd, m, day, none⟩) hm hk) hn hW' hC
theorem tail6_ans (T : Txt K mg a) {B H : Hp} {F0 : List (Addr × HO)} {n nn : Nat} {Rt : VK} {x10 x11 x12 x13 x14 x15 x16 x17 x18 x19 x20 x21 x22 x23 : Option V} {Bk Ct : L2.St → Hp → Prop} {p : Addr} {kd : Str} {m day v : Int} {word : Bool}
    (h1 : vc.map (·.1) = cl.map (·.1)) (hS : SI ⟨ki, mi, cl, sp, ex, wi⟩ ex2 n) (ew : wi[nn]? = some ⟨kd, m, day, none⟩) (hn : n + 1 ≤ 100) (hW : LWs (J ++ F0) vw2 wi) (hv : v = (look ex2 (kd, day)).getD 0 + m * (if word then 1 else 0))
    (hC : Ctx K B H (wLay a dd i j l bu dx pk pm pc ps pe pw ki mi vc sp (answerG ⟨ki, mi, cl, sp, ex, wi⟩ nn ⟨kd, m, day, none⟩ word).extra vw pk2 pc2 ps2 pe2 pw2 pm2 vc2 (putR ex2 (kd, day) v) (vw2.set nn (.ref p)) tb tbp ((p, .lst [.str kd, .int m, .int day, .bl word]) :: (J ++ F0))) (wIm K vc cl vw (wi.set nn (⟨kd, m, day, some word⟩ : WS)) tb)) :
    t_law_tail6 K a E cs ⟨WInv K a B s dd bu pk2 pc2 ps2 pe2 pm2 ki mi cl vc2 tbp F0 (n + 1), Rt, Bk, Ct⟩ [some (.ref s), some (.ref dd), some (.ref bu), some (.ref pk2), some (.ref pc2), some (.ref ps2), some (.ref pe2), some (.ref pw2), some (.int time), some (.ref pm2), x10, x11, x12, x13, x14, x15, x16, x17, x18, x19, x20, x21, x22, x23, none, none, none] H := by
  subst hv
  have hW' : LWs (((p, .lst [.str kd, .int m, .int day, .bl word]) :: J) ++ F0) (vw2.set nn (.ref p)) (wi.set nn ⟨kd, m, day, some word⟩) := LWs.set (w := ⟨kd, m, day, some word⟩) (F := (p, .lst [.str kd, .int m, .int day, .bl word]) :: (J ++ F0)) List.mem_cons_self nn (hW.mono fun x hx => List.mem_cons_of_mem _ hx)
  exact tail6_ok (J := (p, .lst [.str kd, .int m, .int day, .bl word]) :: J) T h1 (hS.answer (good := word) ew) hn hW' hC
theorem tail7_ok (T : Txt K mg a) {B H : Hp} {F0 : List (Addr × HO)} {n : Nat} {Rt : VK} {x11 x12 x18 x19 x20 x21 x22 x23 : Option V} {Bk Ct : L2.St → Hp → Prop} {app : Str} {sort : Int} {k : Option Str} {left : Option Int} {may : Bool}
    (ek : look ki app = k) (el : leftG ⟨ki, mi, cl, sp, ex, wi⟩ app time = left) (em : mayG ⟨ki, mi, cl, sp, ex, wi⟩ app time = may)
    (h1 : vc.map (·.1) = cl.map (·.1)) (hS : SI ⟨ki, mi, cl, sp, ex, wi⟩ ex2 n) (hn : n ≤ 99) (hW : LWs (J ++ F0) vw2 wi) (hC : Ctx K B H (wLay a dd i j l bu dx pk pm pc ps pe pw ki mi vc sp ex vw pk2 pc2 ps2 pe2 pw2 pm2 vc2 ex2 vw2 tb tbp (J ++ F0)) (wIm K vc cl vw wi tb)) :
    t_law_tail7 K a E cs ⟨WInv K a B s dd bu pk2 pc2 ps2 pe2 pm2 ki mi cl vc2 tbp F0 (n + 1), Rt, Bk, Ct⟩ [some (.ref s), some (.ref dd), some (.ref bu), some (.ref pk2), some (.ref pc2), some (.ref ps2), some (.ref pe2), some (.ref pw2), some (.int time), some (.ref pm2), some (optS k), x11, x12, some (.str app), some (.int sort), some (.int (time / 1440)), some (optI left), some (.bl may), x18, x19, x20, x21, x22, x23, none, none, none] H := by
  have z1 := hS.hs
  have z2 := hS.hw
  have z3 := hS.he
  have z4 := hS.he2
  dsimp only at z1 z2 z3 z4
  have z5 := hW.length
  unfold t_law_tail7
  unfold wLay bL at hC
  unfold wIm wImI at hC
  refine s_seq (s_if ?_)
  walk_at "go"
  refine s_iteD (fun c5 => ?_) (fun c5 => ?_)
  · -- used
    unfold t_law_if3
    have hS' := hS.use (app := app) (t := time)
    cases hm : may with
    | false =>
      rw [hm] at em
      have e2 : useG ⟨ki, mi, cl, sp, ex, wi⟩ app time = ⟨ki, mi, cl, sp, ex, wi⟩ := by unfold useG; rw [em]; rfl
      rw [e2] at hS'
      walk_at "go"
      exact tail6_ok T h1 hS' (by omega) hW (hC.sub (by unfold wLay bL; walk_at "lay2") (by unfold wIm wImI; walk_at "subs"))
    | true =>
      rw [hm] at em
      cases hk : k with
      | none =>
        rw [hk] at ek
        have e2 : useG ⟨ki, mi, cl, sp, ex, wi⟩ app time = ⟨ki, mi, cl, sp, ex, wi⟩ := by unfold useG; rw [em, if_pos rfl]; simp only [ek]; rfl
        rw [e2] at hS'
        simp only [optS]
        walk_at "go"
        exact tail6_ok T h1 hS' (by omega) hW (hC.sub (by unfold wLay bL; walk_at "lay2") (by unfold wIm wImI; walk_at "subs"))
      | some kd =>
        rw [hk] at ek
        have e2 : useG ⟨ki, mi, cl, sp, ex, wi⟩ app time = ⟨ki, mi, cl, putR sp (kd, time / 1440) ((look sp (kd, time / 1440)).getD 0 + 1), ex, wi⟩ := by unfold useG; rw [em, if_pos rfl]; simp only [ek]; rfl
        rw [e2] at hS'
        simp only [optS]
        walk_at "go"
        exact tail6_ok T h1 hS' (by omega) hW (hC.sub (by unfold wLay bL; walk_at "lay2") (by unfold wIm wImI; walk_at "subs"))
  · walk_at "go"
    refine s_iteD (fun c7 => ?_) (fun c7 => ?_)
    · -- wished
      unfold t_law_if4
      cases hl : left with
      | none =>
        rw [hl] at el
        have nB : ∀ m : Int, ¬ ((leftG ⟨ki, mi, cl, sp, ex, wi⟩ app time).isSome = true ∧ 1 ≤ m ∧ m ≤ 120) := fun m z => by rw [el] at z; exact Bool.false_ne_true z.1
        simp only [optI]
        walk_at "go"
        rw [List.append_nil] at hC
        exact tail6_ok T h1 hS.up (by omega) hW (hC.sub (by unfold wLay bL; walk_at "lay2") (by unfold wIm wImI; walk_at "subs"))
      | some lv =>
        rw [hl] at el
        simp only [optI]
        obtain ⟨kd, hk⟩ : ∃ kd, look ki app = some kd := by
          unfold leftG leftK at el
          cases e : look ki app with
          | none => simp only [e] at el; cases el
          | some kd => exact ⟨kd, rfl⟩
        have hkk := hS.kk app kd hk
        have ek2 : k = some kd := ek.symm.trans hk
        rw [ek2]
        simp only [optS]
        walk_at "go"
        by_cases c1 : 1 ≤ rr <;> by_cases c2 : rr ≤ 120
        all_goals walk_at "all"
        all_goals first
          | omega
          | (rw [List.append_nil] at hC; exact tail6_ok T h1 hS.up (by omega) hW (hC.sub (by unfold wLay bL; walk_at "lay2") (by unfold wIm wImI; walk_at "subs")))
          | exact tail6_wish (kd := kd) (m := rr) (day := time / 1440) T h1 hS c1 hkk (by omega) hW (hC.sub (by unfold wLay bL; walk_at "lay2") (by unfold wIm wImI; walk_at "subs"))
    · -- answered
      walk_at "go"
      refine s_neEL (hC.get (by walk_at "mem")) (hC.get (by walk_at "mem")) (hW.dp (fun x hx => (hC.lay.at_ x (by simp only [List.mem_cons]; simp [List.mem_append.mp hx])).1)) (fun d hd => by obtain ⟨w, hw, rfl⟩ := List.mem_map.mp hd; exact (wL_sh (hS.wk w hw)).mono (by decide)) ?_
      by_cases hw : wi = []
      · have e0 : (wi.map wL).isEmpty = true := by rw [hw]; rfl
        rw [e0]
        walk_at "go"
        exact tail6_ok T h1 hS.up (by omega) hW (hC.sub (by unfold wLay bL; walk_at "lay2") (by unfold wIm wImI; walk_at "subs"))
      · have e0 : (wi.map wL).isEmpty = false := by cases wi with | nil => exact absurd rfl hw | cons _ _ => rfl
        rw [e0]
        unfold t_law_if5
        walk_at "go"
        rename_i r1 d1 d2 d3 Hx p0 p1 Hy
        obtain ⟨nn, rfl⟩ := Int.eq_ofNat_of_zero_le p0
        generalize decide (rr = 0) = word at *
        have fin0 : ∀ {H : Hp} {J : List (Addr × HO)} {i j l : Int} {tb : Array Value} {x18 x19 x20 x21 : Option V}, LWs (J ++ F0) vw2 wi → Ctx K B H (wLay a dd i j l bu dx pk pm pc ps pe pw ki mi vc sp ex vw pk2 pc2 ps2 pe2 pw2 pm2 vc2 ex2 vw2 tb tbp (J ++ F0)) (wIm K vc cl vw wi tb) →
            t_law_tail6 K a E cs ⟨WInv K a B s dd bu pk2 pc2 ps2 pe2 pm2 ki mi cl vc2 tbp F0 (n + 1), Rt, Bk, Ct⟩ [some (.ref s), some (.ref dd), some (.ref bu), some (.ref pk2), some (.ref pc2), some (.ref ps2), some (.ref pe2), some (.ref pw2), some (.int time), some (.ref pm2), some (optS k), x11, x12, some (.str app), some (.int sort), some (.int (time / 1440)), some (optI left), some (.bl may), x18, x19, x20, x21, x22, x23, none, none, none] H := fun hW hC => tail6_ok T h1 hS.up (by omega) hW hC
        cases ew : wi[nn]? with
        | none =>
          have hl : ¬ ((nn : Int) < vw2.length) := fun z => by
            rw [List.getElem?_eq_none_iff] at ew
            omega
          have nB : ∀ w, wi[nn]? = some w → ¬ (w.word = none ∧ w.day = time / 1440) := fun w e => by rw [ew] at e; cases e
          refine s_iteDF hl ?_
          walk_at "go"
          exact fin0 hW (hC.sub (by unfold wLay bL; walk_at "lay2") (by unfold wIm wImI; walk_at "subs"))
        | some w =>
          have hl2 : nn < wi.length := (List.getElem?_eq_some_iff.mp ew).1
          have hl3 : nn < vw2.length := by omega
          have hl : (nn : Int) < vw2.length := by omega
          obtain ⟨p, e1, hm⟩ := hW.at_ ew
          have ea : atI vw2 ((nn : Nat) : Int) = some (.ref p) := atI_nat e1
          refine s_iteDT hl ?_
          obtain ⟨kd2, m2, dy, wo⟩ := w
          cases wo with
          | some wb =>
            have nB : ∀ w, wi[nn]? = some w → ¬ (w.word = none ∧ w.day = time / 1440) := fun w e => by rw [ew] at e; cases e; exact fun z => by cases z.1
            simp only [wordV] at hm
            walk_at "go"
            exact fin0 hW (hC.sub (by unfold wLay bL; walk_at "lay2") (by unfold wIm wImI; walk_at "subs"))
          | none =>
            simp only [wordV] at hm
            by_cases hd : dy = time / 1440
            · cases hwd : word with
              | false =>
                walk_at "go"
                subst hd
                rw [cut3] at hC
                walk_at "go"
                simp only [List.cons_append, List.nil_append] at hC
                exact tail6_ans (word := false) (v := (look ex2 (kd2, time / 1440)).getD 0 + m2 * 0) T h1 hS ew (by omega) hW (by simp) (hC.sub (by unfold wLay bL; walk_at "lay2") (by unfold wIm wImI; walk_at "subs"))
              | true =>
                walk_at "go"
                subst hd
                rw [cut3] at hC
                walk_at "go"
                simp only [List.cons_append, List.nil_append] at hC
                exact tail6_ans (word := true) (v := (look ex2 (kd2, time / 1440)).getD 0 + m2 * 1) T h1 hS ew (by omega) hW (by simp) (hC.sub (by unfold wLay bL; walk_at "lay2") (by unfold wIm wImI; walk_at "subs"))
            · have nB : ∀ w, wi[nn]? = some w → ¬ (w.word = none ∧ w.day = time / 1440) := fun w e => by rw [ew] at e; cases e; exact fun z => hd z.2
              walk_at "go"
              exact fin0 hW (hC.sub (by unfold wLay bL; walk_at "lay2") (by unfold wIm wImI; walk_at "subs"))
end
section
variable {K : PySem.W.Frag} {mg : Str → Option Value} {a : Adr} {Q : VK} {E : XK} {cs : List (Str × Addr)}
variable {s dd bu dx pk pm pc ps pe pw pk2 pc2 ps2 pe2 pw2 pm2 : Addr} {ki : List (Str × Str)} {mi : List (Str × Int)} {cl : List (Str × Rows)} {vc vc2 : List (Str × V)} {vw vw2 : List V} {sp ex ex2 : List ((Str × Int) × Int)} {wi : List WS} {F J : List (Addr × HO)} {tb tbp : Array Value} {i j l time : Int}
theorem tail9_ok (T : Txt K mg a) {B H : Hp} {F0 : List (Addr × HO)} {n : Nat} {Rt : VK} {x10 x11 x12 x16 x17 x18 x19 x20 x21 x22 x23 : Option V} {Bk Ct : L2.St → Hp → Prop} {app : Str} {sort : Int} (hL : LCs K B F0 vc2 cl)
    (h1 : vc.map (·.1) = cl.map (·.1)) (hS : SI ⟨ki, mi, cl, sp, ex, wi⟩ ex2 n) (hn : n ≤ 99) (hW : LWs (J ++ F0) vw2 wi) (hC : Ctx K B H (wLay a dd i j l bu dx pk pm pc ps pe pw ki mi vc sp ex vw pk2 pc2 ps2 pe2 pw2 pm2 vc2 ex2 vw2 tb tbp (J ++ F0)) (wIm K vc cl vw wi tb)) :
    t_law_tail9 K a E cs ⟨WInv K a B s dd bu pk2 pc2 ps2 pe2 pm2 ki mi cl vc2 tbp F0 (n + 1), Rt, Bk, Ct⟩ [some (.ref s), some (.ref dd), some (.ref bu), some (.ref pk2), some (.ref pc2), some (.ref ps2), some (.ref pe2), some (.ref pw2), some (.int time), some (.ref pm2), x10, x11, x12, some (.str app), some (.int sort), some (.int (time / 1440)), x16, x17, x18, x19, x20, x21, x22, x23, none, none, none] H := by
  have z1 := hS.hs
  dsimp only at z1
  unfold wLay bL at hC
  unfold wIm wImI at hC
  unfold t_law_tail9
  cases ek : look ki app with
  | none =>
    have el : leftG ⟨ki, mi, cl, sp, ex, wi⟩ app time = none := by unfold leftG; simp only [ek]; rfl
    have em : mayG ⟨ki, mi, cl, sp, ex, wi⟩ app time = true := by unfold mayG; rw [el]; simp only [ek]; rfl
    walk_at "go"
    unfold t_law_tail8
    walk_at "go"
    exact tail7_ok (k := none) (left := none) (may := true) T ek el em h1 hS hn hW (hC.sub (by unfold wLay bL; walk_at "lay2") (by unfold wIm wImI; walk_at "subs"))
  | some kd =>
    have ee : (look ex2 (kd, time / 1440)).getD 0 = (look ex (kd, time / 1440)).getD 0 := hS.ee (kd, time / 1440)
    rcases hL.look (k := kd) with ⟨e1, e2⟩ | ⟨r, p, ws, e1, e2, hm, hd, hz⟩
    · have ec : isClosed ⟨ki, mi, cl, sp, ex, wi⟩ (some kd) time = false := by unfold isClosed rowsOf; simp only [e1]; rfl
      cases emi : look mi kd with
      | none =>
        have el : leftG ⟨ki, mi, cl, sp, ex, wi⟩ app time = none := by unfold leftG leftK; simp only [ek, emi]; rfl
        have em : mayG ⟨ki, mi, cl, sp, ex, wi⟩ app time = true := by unfold mayG; rw [el]; simp only [ek, ec]; rfl
        walk_at "go"
        unfold t_law_tail8
        walk_at "go"
        exact tail7_ok (k := some kd) (left := none) (may := true) T ek el em h1 hS hn hW (hC.sub (by unfold wLay bL; walk_at "lay2") (by unfold wIm wImI; walk_at "subs"))
      | some m =>
        have el : leftG ⟨ki, mi, cl, sp, ex, wi⟩ app time = some (mxI 0 (m + (look ex2 (kd, time / 1440)).getD 0 - (look sp (kd, time / 1440)).getD 0)) := by unfold leftG leftK; simp only [ek, emi, ee]; rfl
        have em : mayG ⟨ki, mi, cl, sp, ex, wi⟩ app time = decide (0 < mxI 0 (m + (look ex2 (kd, time / 1440)).getD 0 - (look sp (kd, time / 1440)).getD 0)) := by unfold mayG; rw [el]; simp only [ek, ec]; rfl
        walk_at "go"
        unfold t_law_tail8
        walk_at "go"
        exact tail7_ok (k := some kd) (left := some _) T ek el em h1 hS hn hW (hC.sub (by unfold wLay bL; walk_at "lay2") (by unfold wIm wImI; walk_at "subs"))
    · have hmJ : (p, HO.lst ws) ∈ J ++ F0 := List.mem_append_right _ hm
      have hC := hC.add (i := .dats ws (r.map rowD)) (TDs.mono hC.sb hd)
      have ec0 : isClosed ⟨ki, mi, cl, sp, ex, wi⟩ (some kd) time = closedAt r time := by unfold isClosed rowsOf; simp only [e1]; rfl
      cases eb : closedAt r time with
      | true =>
        have ec : isClosed ⟨ki, mi, cl, sp, ex, wi⟩ (some kd) time = true := ec0.trans eb
        have em : mayG ⟨ki, mi, cl, sp, ex, wi⟩ app time = false := by unfold mayG; simp only [ek, ec]; rfl
        cases emi : look mi kd with
        | none =>
          have el : leftG ⟨ki, mi, cl, sp, ex, wi⟩ app time = none := by unfold leftG leftK; simp only [ek, emi]; rfl
          walk_at "go"
          unfold t_law_tail8
          walk_at "go"
          exact tail7_ok (k := some kd) (left := none) (may := false) T ek el em h1 hS hn hW (hC.sub (by unfold wLay bL; walk_at "lay2") (by unfold wIm wImI; walk_at "subs"))
        | some m =>
          have el : leftG ⟨ki, mi, cl, sp, ex, wi⟩ app time = some (mxI 0 (m + (look ex2 (kd, time / 1440)).getD 0 - (look sp (kd, time / 1440)).getD 0)) := by unfold leftG leftK; simp only [ek, emi, ee]; rfl
          walk_at "go"
          unfold t_law_tail8
          walk_at "go"
          exact tail7_ok (k := some kd) (left := some _) T ek el em h1 hS hn hW (hC.sub (by unfold wLay bL; walk_at "lay2") (by unfold wIm wImI; walk_at "subs"))
      | false =>
        have ec : isClosed ⟨ki, mi, cl, sp, ex, wi⟩ (some kd) time = false := ec0.trans eb
        cases emi : look mi kd with
        | none =>
          have el : leftG ⟨ki, mi, cl, sp, ex, wi⟩ app time = none := by unfold leftG leftK; simp only [ek, emi]; rfl
          have em : mayG ⟨ki, mi, cl, sp, ex, wi⟩ app time = true := by unfold mayG; rw [el]; simp only [ek, ec]; rfl
          walk_at "go"
          unfold t_law_tail8
          walk_at "go"
          exact tail7_ok (k := some kd) (left := none) (may := true) T ek el em h1 hS hn hW (hC.sub (by unfold wLay bL; walk_at "lay2") (by unfold wIm wImI; walk_at "subs"))
        | some m =>
          have el : leftG ⟨ki, mi, cl, sp, ex, wi⟩ app time = some (mxI 0 (m + (look ex2 (kd, time / 1440)).getD 0 - (look sp (kd, time / 1440)).getD 0)) := by unfold leftG leftK; simp only [ek, emi, ee]; rfl
          have em : mayG ⟨ki, mi, cl, sp, ex, wi⟩ app time = decide (0 < mxI 0 (m + (look ex2 (kd, time / 1440)).getD 0 - (look sp (kd, time / 1440)).getD 0)) := by unfold mayG; rw [el]; simp only [ek, ec]; rfl
          walk_at "go"
          unfold t_law_tail8
          walk_at "go"
          exact tail7_ok (k := some kd) (left := some _) T ek el em h1 hS hn hW (hC.sub (by unfold wLay bL; walk_at "lay2") (by unfold wIm wImI; walk_at "subs"))
theorem for10_ok (T : Txt K mg a) {B H : Hp} {F0 : List (Addr × HO)} {n : Nat} {Rt : VK} {Bk : L2.St → Hp → Prop} {σ : L2.St} {step : Int} (hL : LCs K B F0 vc2 cl) (hn : n ≤ 99) (hI : WInv K a B s dd bu pk2 pc2 ps2 pe2 pm2 ki mi cl vc2 tbp F0 n σ H) :
    gName 12 (.int step) σ H fun σ2 H2 => t_law_for10 K a E cs ⟨WInv K a B s dd bu pk2 pc2 ps2 pe2 pm2 ki mi cl vc2 tbp F0 (n + 1), Rt, Bk, WInv K a B s dd bu pk2 pc2 ps2 pe2 pm2 ki mi cl vc2 tbp F0 (n + 1)⟩ σ2 H2 := by
  obtain ⟨dx, pk, pm, pc, ps, pe, pw, pw2, vc, vw, vw2, sp, ex, ex2, wi, J, tb, i, j, l, time, x10, x11, x12, x13, x14, x15, x16, x17, x18, x19, x20, x21, x22, x23, rfl, h1, hS, hW, hC⟩ := hI
  unfold wLay bL at hC
  unfold wIm wImI at hC
  unfold t_law_for10
  walk_at "go"
  exact tail9_ok T hL h1 hS hn hW (hC.sub (by unfold wLay bL; walk_at "lay2") (by unfold wIm wImI; walk_at "subs"))
end
section
variable {K : PySem.W.Frag} {mg : Str → Option Value} {a : Adr} {Q : VK} {E : XK} {cs : List (Str × Addr)}
variable {s dd bu dx pk pm pc ps pe pw pk2 pc2 ps2 pe2 pw2 pm2 : Addr} {ki : List (Str × Str)} {mi : List (Str × Int)} {cl : List (Str × Rows)} {vc vc2 : List (Str × V)} {vw vw2 : List V} {sp ex ex2 : List ((Str × Int) × Int)} {wi : List WS} {F J : List (Addr × HO)} {tb tbp : Array Value} {i j l time : Int}
theorem LCs.keys {H : Hp} : ∀ {vs : List (Str × V)} {cl : List (Str × Rows)}, LCs K H F vs cl → vs.map (·.1) = cl.map (·.1)
  | _, _, .nil => rfl
  | _, _, .cons _ _ _ t => by rw [List.map_cons, List.map_cons, t.keys]
theorem LCs.snoc {H : Hp} {k : Str} {p : Addr} {ws : List V} {r : Rows} (hm : (p, HO.lst ws) ∈ F) (hd : TDs K H ws (r.map rowD)) (hz : r.length ≤ 100) : ∀ {vs : List (Str × V)} {cl : List (Str × Rows)}, LCs K H F vs cl → LCs K H F (vs ++ [(k, .ref p)]) (cl ++ [(k, r)])
  | _, _, .nil => .cons hm hd hz .nil
  | _, _, .cons a b c t => .cons a b c (t.snoc hm hd hz)
theorem LCs.mapput {H : Hp} {k : Str} {p : Addr} {ws : List V} {r : Rows} (hm : (p, HO.lst ws) ∈ F) (hd : TDs K H ws (r.map rowD)) (hz : r.length ≤ 100) : ∀ {vs : List (Str × V)} {cl : List (Str × Rows)}, LCs K H F vs cl →
    LCs K H F (vs.map fun q => if q.1 = k then (q.1, .ref p) else q) (cl.map fun q => if q.1 = k then (q.1, r) else q)
  | _, _, .nil => .nil
  | _, _, .cons (k := k') a b c t => by
    simp only [List.map_cons]
    by_cases e : k' = k
    · rw [if_pos e, if_pos e]
      exact .cons hm hd hz (t.mapput hm hd hz)
    · rw [if_neg e, if_neg e]
      exact .cons a b c (t.mapput hm hd hz)
theorem LCs.put {H : Hp} {k : Str} {p : Addr} {ws : List V} {r : Rows} (hm : (p, HO.lst ws) ∈ F) (hd : TDs K H ws (r.map rowD)) (hz : r.length ≤ 100) {vs : List (Str × V)} {cl : List (Str × Rows)} (h : LCs K H F vs cl) : LCs K H F (putR vs k (.ref p)) (putR cl k r) := by
  unfold putR
  rw [any_keys vs, any_keys cl, h.keys]
  split
  · exact h.mapput hm hd hz
  · exact h.snoc hm hd hz
abbrev imL (K : PySem.W.Frag) (F : List (Addr × HO)) (vc2 : List (Str × V)) (cl : List (Str × Rows)) : Im := .pr (fun H => LCs K H F vc2 cl) (fun _ _ s h => h.mono (fun _ h => h) s)
/-- the state while the kinds are put -/
def WInv0 (K : PySem.W.Frag) (a : Adr) (B : Hp) (s dd bu pk2 pc2 ps2 pe2 pw2 pm2 : Addr) (F0 : List (Addr × HO)) (n : Nat) (σ : L2.St) (H : Hp) : Prop :=
  ∃ (dx pk pm pc ps pe pw : Addr) (mi : List (Str × Int)) (cl : List (Str × Rows)) (vc vc2 : List (Str × V)) (vw : List V) (J : List (Addr × HO)) (tb tbp : Array Value) (i j l time : Int) (x10 x11 x12 x13 x14 x15 x16 x17 x18 x19 x20 x21 x22 x23 : Option V),
    σ = [some (.ref s), some (.ref dd), some (.ref bu), some (.ref pk2), some (.ref pc2), some (.ref ps2), some (.ref pe2), some (.ref pw2), some (.int time), some (.ref pm2), x10, x11, x12, x13, x14, x15, x16, x17, x18, x19, x20, x21, x22, x23, none, none, none] ∧
    vc.map (·.1) = cl.map (·.1) ∧ mi.length ≤ n ∧ cl.length ≤ n ∧ LCs K H (J ++ F0) vc2 cl ∧ Ctx K B H (wLay a dd i j l bu dx pk pm pc ps pe pw [] mi vc [] [] vw pk2 pc2 ps2 pe2 pw2 pm2 vc2 [] [] tb tbp (J ++ F0)) (wImI vc cl vw [] tb [.tri tbp])
theorem rows_lc {B H : Hp} {L : List (Addr × HO)} {i1 i2 i3 i4 i5 : Im} {n : Nat} {Q : VK} (T : Txt K mg a) (hC : Ctx K B H ((dd, .lst [.int i, .int j, .int l]) :: L) [i1, i2, i3, i4, i5]) (hn : n ≤ 100) {v0 v2 v3 v4 v5 v6 v7 v8 v9 x10 x11 x12 x13 x14 x15 x16 x17 x18 x19 x20 x21 x22 x23 x24 x25 x26 : Option V}
    (k : ∀ D H1 ws r i j l, rowsOk r → r.length ≤ 100 → Ctx K B H1 ((D, .lst ws) :: (dd, .lst [.int i, .int j, .int l]) :: L) (.dats ws (r.map rowD) :: [i1, i2, i3, i4, i5]) → Q (.ref D) H1) :
    kLc (gName 11) tYes (tTup (tCons (tCall (sp_law_roll K a) [] E0 (tCons (tVar 1) (tCons (tC (.int 1440)) tNil))) (tCons (tCall (sp_law_roll K a) [] E0 (tCons (tVar 1) (tCons (tC (.int 1440)) tNil))) tNil))) [11] [v0, some (.ref dd), v2, v3, v4, v5, v6, v7, v8, v9, x10, x11, x12, x13, x14, x15, x16, x17, x18, x19, x20, x21, x22, x23, x24, x25, x26] Q (Itr 0 n) H := by
  refine lc_w walk_range hC (fun D c H1 => ∃ r ws i j l, rowsOk r ∧ r.length = c ∧ Ctx K B H1 ((D, .lst ws) :: (dd, .lst [.int i, .int j, .int l]) :: L) (.dats ws (r.map rowD) :: [i1, i2, i3, i4, i5])) (fun D H1 hC => ⟨[], [], i, j, l, (fun p hp => nomatch hp), rfl, hC.add (i := .dats [] []) TDs.nil⟩) (fun D c H _ _ => trivial) ?_ ?_
  · rintro c x D H1 H2 hc ⟨r, ws, i, j, l, hr, hl, hC⟩ ⟨rfl, rfl⟩
    have hwl := (hC.dats (vs := ws) (ds := r.map rowD) (by walk_at "mem")).length
    rw [List.length_map] at hwl
    simp only [wipe, List.set_cons_zero, List.set_cons_succ]
    walk_at "go"
    refine ⟨rfl, ?_⟩
    walk_at "go"
    rename_i r1 e1 e2 e3 Hx p0 p1 Hy Hz
    have hC := hC.add (i := .dats (ws ++ [.ref tp]) ((r ++ [(r1, rr)]).map rowD)) (by rw [List.map_append]; exact TDs.snoc (hC.dats (by walk_at "mem")) (.tup (hC.tup (a := tp) (xs := [.int r1, .int rr]) (by walk_at "mem")) (.cons (.int _) (.cons (.int _) .nil))))
    refine ⟨r ++ [(r1, rr)], ws ++ [.ref tp], _, _, _, fun p hp => ?_, by rw [List.length_append, hl]; rfl, hC.sub (by walk_at "lay2") (by walk_at "subs")⟩
    rcases List.mem_append.mp hp with q | q
    · exact hr p q
    · rw [List.mem_singleton.mp q]
      exact ⟨⟨p0, p1⟩, ⟨hr0, hr1⟩⟩
  · rintro D H1 ⟨r, ws, i, j, l, hr, hl, hC⟩
    exact k D H1 ws r i j l hr (by omega) hC
theorem for0_ok (T : Txt K mg a) {B H : Hp} {F0 : List (Addr × HO)} {n : Nat} {Rt : VK} {Bk : L2.St → Hp → Prop} {σ : L2.St} {kd : Str} (hn : n ≤ 99) (hI : WInv0 K a B s dd bu pk2 pc2 ps2 pe2 pw2 pm2 F0 n σ H) :
    gName 10 (.str kd) σ H fun σ2 H2 => t_law_for0 K a E cs ⟨WInv0 K a B s dd bu pk2 pc2 ps2 pe2 pw2 pm2 F0 (n + 1), Rt, Bk, WInv0 K a B s dd bu pk2 pc2 ps2 pe2 pw2 pm2 F0 (n + 1)⟩ σ2 H2 := by
  obtain ⟨dx, pk, pm, pc, ps, pe, pw, mi, cl, vc, vc2, vw, J, tb, tbp, i, j, l, time, x10, x11, x12, x13, x14, x15, x16, x17, x18, x19, x20, x21, x22, x23, rfl, h1, z1, z2, hL, hC⟩ := hI
  unfold wLay bL at hC
  unfold wImI at hC
  have hC := hC.add (i := imL K (J ++ F0) vc2 cl) hL
  unfold t_law_for0
  walk_at "go"
  refine s_iteD (fun c => ?_) (fun c => ?_)
  · walk_at "go"
    refine rows_lc (n := rr.toNat) T hC (by omega) (fun D H1 ws r i j l hr hz hC => ?_)
    have hlv := congrArg List.length hL.keys
    rw [List.length_map, List.length_map] at hlv
    walk_at "go"
    have hL2 := hC.pr (P := fun H => LCs K H (J ++ F0) vc2 cl) (by walk_at "mem")
    have hd := hC.dats (vs := ws) (ds := r.map rowD) (by walk_at "mem")
    exact ⟨dx, pk, pm, pc, ps, pe, pw, _, putR cl kd r, vc, putR vc2 kd (.ref D), vw, (D, .lst ws) :: J, tb, tbp, _, _, _, time, _, _, _, _, _, _, _, _, _, _, _, _, _, _, rfl, h1, Nat.le_trans putR_len (Nat.succ_le_succ z1), Nat.le_trans putR_len (Nat.succ_le_succ z2), (hL2.mono (fun x h => List.mem_cons_of_mem _ h) (Stb.refl _)).put List.mem_cons_self hd hz, hC.sub (by unfold wLay bL; simp only [List.cons_append]; walk_at "lay2") (by unfold wImI; walk_at "subs")⟩
  · walk_at "go"
    exact ⟨dx, pk, pm, pc, ps, pe, pw, mi, cl, vc, vc2, vw, J, tb, tbp, _, _, _, time, _, _, _, _, _, _, _, _, _, _, _, _, _, _, rfl, h1, by omega, by omega, hC.pr (P := fun H => LCs K H (J ++ F0) vc2 cl) (by walk_at "mem"), hC.sub (by unfold wLay bL; walk_at "lay2") (by unfold wImI; walk_at "subs")⟩
/-- the state while the apps are put -/
def WInv1 (K : PySem.W.Frag) (a : Adr) (B : Hp) (s dd bu pk2 pc2 ps2 pe2 pw2 pm2 : Addr) (mi : List (Str × Int)) (cl : List (Str × Rows)) (vc2 : List (Str × V)) (tbp : Array Value) (F0 : List (Addr × HO)) (n : Nat) (σ : L2.St) (H : Hp) : Prop :=
  ∃ (dx pk pm pc ps pe pw : Addr) (ki : List (Str × Str)) (vc : List (Str × V)) (vw : List V) (tb : Array Value) (i j l time : Int) (x10 x11 x12 x13 x14 x15 x16 x17 x18 x19 x20 x21 x22 x23 : Option V),
    σ = [some (.ref s), some (.ref dd), some (.ref bu), some (.ref pk2), some (.ref pc2), some (.ref ps2), some (.ref pe2), some (.ref pw2), some (.int time), some (.ref pm2), x10, x11, x12, x13, x14, x15, x16, x17, x18, x19, x20, x21, x22, x23, none, none, none] ∧
    vc.map (·.1) = cl.map (·.1) ∧ ki.length ≤ n ∧ (∀ x k, look ki x = some k → PyData.strOk k = true) ∧ Ctx K B H (wLay a dd i j l bu dx pk pm pc ps pe pw ki mi vc [] [] vw pk2 pc2 ps2 pe2 pw2 pm2 vc2 [] [] tb tbp F0) (wImI vc cl vw [] tb [])
theorem for1_ok (T : Txt K mg a) {B H : Hp} {F0 : List (Addr × HO)} {n : Nat} {Rt : VK} {Bk : L2.St → Hp → Prop} {σ : L2.St} {c0 : Int} (hn : n ≤ 99) (g0 : 0 ≤ c0) (g1 : c0 < 4) (hI : WInv1 K a B s dd bu pk2 pc2 ps2 pe2 pw2 pm2 mi cl vc2 tbp F0 n σ H) :
    gName 11 (.int c0) σ H fun σ2 H2 => t_law_for1 K a E cs ⟨WInv1 K a B s dd bu pk2 pc2 ps2 pe2 pw2 pm2 mi cl vc2 tbp F0 (n + 1), Rt, Bk, WInv1 K a B s dd bu pk2 pc2 ps2 pe2 pw2 pm2 mi cl vc2 tbp F0 (n + 1)⟩ σ2 H2 := by
  obtain ⟨dx, pk, pm, pc, ps, pe, pw, ki, vc, vw, tb, i, j, l, time, x10, x11, x12, x13, x14, x15, x16, x17, x18, x19, x20, x21, x22, x23, rfl, h1, z1, hk, hC⟩ := hI
  unfold wLay bL at hC
  unfold wImI at hC
  unfold t_law_for1
  walk_at "go"
  refine s_iteD (fun c => ?_) (fun c => ?_)
  · walk_at "go"
    refine s_ixOne (xs := [.str "game", .str "talk", .str "work"]) (hC.get (by walk_at "mem")) hr0 (by simp; omega) (fun v hv => ?_)
    obtain ⟨kd, rfl, hkd⟩ : ∃ kd, v = .str kd ∧ PyData.strOk kd = true := by
      simp only [List.mem_cons, List.not_mem_nil, or_false] at hv
      rcases hv with rfl | rfl | rfl
      · exact ⟨_, rfl, by decide +kernel⟩
      · exact ⟨_, rfl, by decide +kernel⟩
      · exact ⟨_, rfl, by decide +kernel⟩
    walk_at "go"
    refine ⟨dx, pk, pm, pc, ps, pe, pw, _, vc, vw, tb, _, _, _, time, _, _, _, _, _, _, _, _, _, _, _, _, _, _, rfl, h1, Nat.le_trans putR_len (Nat.succ_le_succ z1), fun x k e => ?_, hC.sub (by unfold wLay bL; walk_at "lay2") (by unfold wImI; walk_at "subs")⟩
    rw [look_put] at e
    split at e
    · cases e; exact hkd
    · exact hk x k e
  · walk_at "go"
    exact ⟨dx, pk, pm, pc, ps, pe, pw, ki, vc, vw, tb, _, _, _, time, _, _, _, _, _, _, _, _, _, _, _, _, _, _, rfl, h1, by omega, hk, hC.sub (by unfold wLay bL; walk_at "lay2") (by unfold wImI; walk_at "subs")⟩
end
section
variable {K : PySem.W.Frag} {mg : Str → Option Value} {a : Adr} {Q : VK} {E : XK} {cs : List (Str × Addr)}
variable {s dd bu dx pk pm pc ps pe pw pk2 pc2 ps2 pe2 pw2 pm2 : Addr} {ki : List (Str × Str)} {mi : List (Str × Int)} {cl : List (Str × Rows)} {vc vc2 : List (Str × V)} {vw vw2 : List V} {sp ex ex2 : List ((Str × Int) × Int)} {wi : List WS} {F J : List (Addr × HO)} {tb tbp : Array Value} {i j l time : Int}
inductive S0 (s : Addr) : L2.St → Prop
  | mk {x1 x2 x3 x4 x5 x6 x7 x8 x9 x10 x11 x12 x13 x14 x15 x16 x17 x18 x19 x20 x21 x22 x23 : Option V} : S0 s [some (.ref s), x1, x2, x3, x4, x5, x6, x7, x8, x9, x10, x11, x12, x13, x14, x15, x16, x17, x18, x19, x20, x21, x22, x23, none, none, none]
theorem lay_appR {H : Hp} {L F : List (Addr × HO)} (y : Lay H (L ++ F)) : Lay H F := y.subl (List.sublist_append_right L F)
theorem tail11_ok (T : Txt K mg a) {B H : Hp} {F0 F00 : List (Addr × HO)} {A Bk Ct : L2.St → Hp → Prop} {Rt : VK} {σ : L2.St} (hL : LCs K H F0 vc2 cl) (ht : TriplesOk tbp.toList) (hF : F0 = J ++ F00)
    (hI : WInv1 K a B s dd bu pk2 pc2 ps2 pe2 pw2 pm2 mi cl vc2 tbp F0 4 σ H)
    (k : ∀ σ' tb' tb2' H', S0 s σ' → Lay H' ((a.tb_Budgets_put_kind, .tbl tb') :: (a.tb_law, .tbl tb2') :: F00) → TriplesOk tb'.toList → TabOK (lamq "law") tb2' H' → A σ' H') :
    t_law_tail11 K a E cs ⟨A, Rt, Bk, Ct⟩ σ H := by
  obtain ⟨dx, pk, pm, pc, ps, pe, pw, ki, vc, vw, tb, i, j, l, time, x10, x11, x12, x13, x14, x15, x16, x17, x18, x19, x20, x21, x22, x23, rfl, h1, z1, hk, hC⟩ := hI
  unfold wLay bL at hC
  unfold wImI at hC
  have hC := hC.add (i := imL K F0 vc2 cl) hL
  unfold t_law_tail11
  walk_at "go"
  have hL := hC.pr (P := fun H => LCs K H F0 vc2 cl) (by walk_at "mem")
  have hC := hC.rebase
  refine for_rng (n := rr.toNat) (fun n σ H1 => WInv K a H s dd bu pk2 pc2 ps2 pe2 pm2 ki mi cl vc2 tbp F0 n σ H1) ?_ ?_ ?_
  · exact ⟨dx, pk, pm, pc, ps, pe, pw, pw2, vc, vw, [], [], [], [], [], [], tb, _, _, _, time, _, _, _, _, _, _, _, _, _, _, _, _, _, _, rfl, h1, ⟨by simp, by simp, by simp, by simp, fun _ => rfl, fun _ _ _ _ e => (nomatch e), fun _ h => (nomatch h), fun _ h => (nomatch h), hk⟩, .nil, hC.sub (by unfold wLay bL; simp only [List.nil_append]; walk_at "lay2") (by unfold wIm wImI; walk_at "subs")⟩
  · intro n σ H1 hn hI
    exact for10_ok T hL (by omega) hI
  · rintro σ H1 ⟨dx, pk, pm, pc, ps, pe, pw, pw2, vc, vw, vw2, sp, ex, ex2, wi, J1, tb, i, j, l, time, x10, x11, x12, x13, x14, x15, x16, x17, x18, x19, x20, x21, x22, x23, rfl, h1, hS, hW, hC⟩
    refine k _ tbp tb H1 S0.mk ?_ ht (hC.tab (by unfold wIm wImI; walk_at "mem"))
    have y : Lay H1 ((a.tb_Budgets_put_kind, .tbl tbp) :: (a.tb_law, .tbl tb) :: (J1 ++ F0)) := Sel.lay (by unfold wLay bL; walk_at "sel") hC.lay
    subst hF
    refine y.subl (.cons₂ _ (.cons₂ _ ?_))
    rw [← List.append_assoc]
    exact List.sublist_append_right _ _
theorem tail12_ok (T : Txt K mg a) {B H : Hp} {F0 F00 : List (Addr × HO)} {A Bk Ct : L2.St → Hp → Prop} {Rt : VK} {σ : L2.St} (ht : TriplesOk tbp.toList) (hF : F0 = J ++ F00) (hL : LCs K B F0 vc2 cl)
    (hI : WInv1 K a B s dd bu pk2 pc2 ps2 pe2 pw2 pm2 mi cl vc2 tbp F0 0 σ H)
    (k : ∀ σ' tb' tb2' H', S0 s σ' → Lay H' ((a.tb_Budgets_put_kind, .tbl tb') :: (a.tb_law, .tbl tb2') :: F00) → TriplesOk tb'.toList → TabOK (lamq "law") tb2' H' → A σ' H') :
    t_law_tail12 K a E cs ⟨A, Rt, Bk, Ct⟩ σ H := by
  unfold t_law_tail12
  walk_at "go"
  refine for_rng (n := 4) (fun n σ H1 => WInv1 K a B s dd bu pk2 pc2 ps2 pe2 pw2 pm2 mi cl vc2 tbp F0 n σ H1) hI ?_ ?_
  · intro n σ H1 hn hI
    exact for1_ok T (by omega) (by omega) (by omega) hI
  · intro σ H1 hI
    refine tail11_ok T (hL.mono (fun _ h => h) ?_) ht hF hI k
    obtain ⟨_, _, _, _, _, _, _, _, _, _, _, _, _, _, _, _, _, _, _, _, _, _, _, _, _, _, _, _, _, _, _, _, _, hC⟩ := hI
    exact hC.sb
theorem tail13_ok (T : Txt K mg a) {B H : Hp} {F00 : List (Addr × HO)} {A Bk Ct : L2.St → Hp → Prop} {Rt : VK} {x10 x11 x12 x13 x14 x15 x16 x17 x18 x19 x20 x21 x22 x23 : Option V}
    (hC : Ctx K B H ((dd, .lst [.int i, .int j, .int l]) :: bL a bu dx pk pm pc ps pe pw [] [] [] [] [] [] ((pk2, .dK []) :: (pc2, .dK []) :: (ps2, .dT []) :: (pe2, .dT []) :: (pw2, .lst []) :: (pm2, .dK []) :: (a.tb_law, .tbl tb) :: (a.tb_Budgets_put_kind, .tbl tbp) :: F00)) [.tri tbp, .tab (lamq "law") tb])
    (k : ∀ σ' tb' tb2' H', S0 s σ' → Lay H' ((a.tb_Budgets_put_kind, .tbl tb') :: (a.tb_law, .tbl tb2') :: F00) → TriplesOk tb'.toList → TabOK (lamq "law") tb2' H' → A σ' H') :
    t_law_tail13 K a E cs ⟨A, Rt, Bk, Ct⟩ [some (.ref s), some (.ref dd), some (.ref bu), some (.ref pk2), some (.ref pc2), some (.ref ps2), some (.ref pe2), some (.ref pw2), some (.int time), some (.ref pm2), x10, x11, x12, x13, x14, x15, x16, x17, x18, x19, x20, x21, x22, x23, none, none, none] H := by
  unfold bL at hC
  unfold t_law_tail13
  walk_at "go"
  have hC := hC.rebase
  refine for_w (walk_list (xs := [V.str "game", V.str "talk"])) (fun n σ H1 => WInv0 K a H s dd bu pk2 pc2 ps2 pe2 pw2 pm2 ((lp, .lst [V.str "game", V.str "talk"]) :: F00) n σ H1) ?_ ?_ ?_ ?_
  · have y : Lay H ((dd, .lst [.int i, .int j, .int l]) :: bL a bu dx pk pm pc ps pe pw [] [] [] [] [] [] ((pk2, .dK []) :: (pc2, .dK []) :: (ps2, .dT []) :: (pe2, .dT []) :: (pw2, .lst []) :: (pm2, .dK []) :: (a.tb_law, .tbl tb) :: (a.tb_Budgets_put_kind, .tbl tbp) :: (lp, .lst [V.str "game", V.str "talk"]) :: F00)) := hC.lay.perm2 (by unfold bL; walk_at "perm2")
    refine ⟨dx, pk, pm, pc, ps, pe, pw, [], [], [], [], [], [], tb, tbp, i, j, l, time, _, _, _, _, _, _, _, _, _, _, _, _, _, _, rfl, rfl, Nat.le_refl _, Nat.le_refl _, .nil, ?_⟩
    have h3 := hC.sub y (J := [.tri tbp, .tab (lamq "law") tb]) (by walk_at "subs")
    exact ⟨h3.lay, fun i hi => by
      simp only [List.map_nil, List.mem_cons, List.not_mem_nil, or_false] at hi
      rcases hi with rfl | rfl | rfl | rfl
      · exact TDs.nil
      · exact TDs.nil
      · exact h3.im _ (by simp)
      · exact h3.im _ (by simp), h3.sb⟩
  · rintro n σ H1 hn ⟨dx, pk, pm, pc, ps, pe, pw, mi, cl, vc, vc2, vw, J, tb, tbp, i, j, l, time, x10, x11, x12, x13, x14, x15, x16, x17, x18, x19, x20, x21, x22, x23, rfl, h1, z1, z2, hL, hC⟩
    exact SqL.of (hC.get (by unfold wLay bL; simp))
  · rintro n x σ H1 H2 hn hI ⟨rfl, hx⟩
    rcases two_at rfl hx with ⟨rfl, rfl⟩ | ⟨rfl, rfl⟩
    · exact for0_ok T (by decide) hI
    · exact for0_ok T (by decide) hI
  · rintro σ H1 ⟨dx, pk, pm, pc, ps, pe, pw, mi, cl, vc, vc2, vw, J, tb, tbp, i, j, l, time, x10, x11, x12, x13, x14, x15, x16, x17, x18, x19, x20, x21, x22, x23, rfl, h1, z1, z2, hL, hC⟩
    have hC := hC.rebase
    refine tail12_ok (J := J ++ [(lp, .lst [V.str "game", V.str "talk"])]) (F0 := J ++ ((lp, .lst [V.str "game", V.str "talk"]) :: F00)) T (hC.tri (ps := tbp) (by unfold wImI; walk_at "mem")) (by simp) hL ⟨dx, pk, pm, pc, ps, pe, pw, [], vc, vw, tb, i, j, l, time, x10, x11, x12, x13, x14, x15, x16, x17, x18, x19, x20, x21, x22, x23, rfl, h1, Nat.le_refl _, fun _ _ e => (nomatch e), hC.sub hC.lay (by unfold wImI; walk_at "subs")⟩ k
inductive SD (s d : Addr) : L2.St → Prop
  | mk {x2 x3 x4 x5 x6 x7 x8 x9 x10 x11 x12 x13 x14 x15 x16 x17 x18 x19 x20 x21 x22 x23 : Option V} : SD s d [some (.ref s), some (.ref d), x2, x3, x4, x5, x6, x7, x8, x9, x10, x11, x12, x13, x14, x15, x16, x17, x18, x19, x20, x21, x22, x23, none, none, none]
theorem for14_ok (T : Txt K mg a) {H : Hp} {d : Addr} {tb2 : Array Value} {R : List (Addr × HO)} {A Bk Ct : L2.St → Hp → Prop} {Rt : VK} {σ : L2.St} (y : Lay H ((d, .lst [.int i, .int j, .int l]) :: (a.tb_Budgets_put_kind, .tbl tb) :: (a.tb_law, .tbl tb2) :: R)) (r : TriplesOk tb.toList) (sT : TabOK (lamq "law") tb2 H) (hs : SD s d σ)
    (k : ∀ σ' tb' tb2' H', S0 s σ' → Lay H' ((a.tb_Budgets_put_kind, .tbl tb') :: (a.tb_law, .tbl tb2') :: R) → TriplesOk tb'.toList → TabOK (lamq "law") tb2' H' → A σ' H') :
    t_law_for14 K a E cs ⟨A, Rt, Bk, Ct⟩ σ H := by
  cases hs with
  | mk =>
  have hC := ((Ctx.start (K := K) y).add (i := .tri tb) r).add (i := .tab _ tb2) sT
  unfold t_law_for14
  walk_at "go"
  refine ⟨rfl, ?_⟩
  walk_at "go"
  unfold bL at hC
  simp only [mK, mT, List.map_nil] at hC
  exact tail13_ok T (hC.sub (by unfold bL; simp only [mK, mT, List.map_nil]; walk_at "lay2") (by walk_at "subs")) k
end
section
variable {K : PySem.W.Frag} {mg : Str → Option Value} {a : Adr} {vs : List V} {B H : Hp} {Q : VK} {E : XK} {L F : List (Addr × HO)} {I : List Im} {tb : Array Value}
variable {b dx pk pm pc ps pe pw : Addr} {ki : List (Str × Str)} {mi : List (Str × Int)} {cl : List (Str × Rows)} {vc : List (Str × V)} {sp ex : List ((Str × Int) × Int)} {wi : List WS} {vw : List V} {app kd : Str} {t m : Int}
theorem s_initV {x : Addr} (h : Q (.ref x) H) : kInit Q x .non H := ⟨rfl, h⟩
theorem s_lcS {wi : TI} {g : TG} {ttS : L2.St → TT} {te : TE} {vs : List Nat} {σ : L2.St} (h : tLc wi g (ttS σ) te vs σ H Q) : tLcS wi g ttS te vs σ H Q := h
theorem c_putkind0 {v : V} (hC : Ctx K B H L I) (p : Perm2 F L (bL a b dx pk pm pc ps pe pw ki mi vc sp ex vw ((a.tb_Budgets_put_kind, .tbl tb) :: F))) (ht : Im.tri tb ∈ I) (h1 : vc.map (·.1) = cl.map (·.1)) (hb : TDs K H (vc.map (·.2)) (cl.map fun p => rowsD p.2)) (hw : TDs K H vw (wi.map wD)) (hz : mi.length ≤ 1000) (hz2 : cl.length ≤ 1000)
    (hm : ¬ (0 ≤ m ∧ m ≤ 1440)) (k : ∀ H1, Ctx K B H1 L I → E (.ref a.c_RightFault) none H1) : sp_Budgets_put_kind K a [.ref b, .str kd, .int m, v] H Q E :=
  ⟨rfl, b, kd, m, v, ⟨ki, mi, cl, sp, ex, wi⟩, tb, _, F, rfl, .mk h1 hb hw, hC.lay.perm2 p, hC.tri ht, hz, hz2, .inr ⟨hm, fun H1 s y' => k H1 (hC.moved s (y'.perm p.lay.symm))⟩⟩
theorem c_putkind1 {v : V} {r : Rows} (hC : Ctx K B H L I) (p : Perm2 F L (bL a b dx pk pm pc ps pe pw ki mi vc sp ex vw ((a.tb_Budgets_put_kind, .tbl tb) :: F))) (ht : Im.tri tb ∈ I) (h1 : vc.map (·.1) = cl.map (·.1)) (hb : TDs K H (vc.map (·.2)) (cl.map fun p => rowsD p.2)) (hw : TDs K H vw (wi.map wD)) (hz : mi.length ≤ 1000) (hz2 : cl.length ≤ 1000)
    (m0 : 0 ≤ m) (m1 : m ≤ 1440) (hr : r.length ≤ 100) (sq : SeqRows K H v r F) (ok : ¬ rowsOk r)
    (k : ∀ H1 tb, Ctx K B H1 (bL a b dx pk pm pc ps pe pw ki mi vc sp ex vw ((a.tb_Budgets_put_kind, .tbl tb) :: F)) (.tri tb :: I) → E (.ref a.c_RightFault) none H1) : sp_Budgets_put_kind K a [.ref b, .str kd, .int m, v] H Q E :=
  ⟨rfl, b, kd, m, v, ⟨ki, mi, cl, sp, ex, wi⟩, tb, _, F, rfl, .mk h1 hb hw, hC.lay.perm2 p, hC.tri ht, hz, hz2, .inl ⟨m0, m1, r, hr, sq, fun o => absurd o ok, fun _ H1 tb' s t' y' => k H1 tb' ((hC.moved s y').add (i := .tri tb') t')⟩⟩
theorem lay_appR' {L F : List (Addr × HO)} (y : Lay H (L ++ F)) : Lay H F := y.subl (List.sublist_append_right L F)
theorem tab0 {H : Hp} {q : Str} : TabOK q #[] H := ⟨True.intro, fun pos cv hc => by
  have z : codeAmong pos [] = some cv := hc
  simp [codeAmong] at z⟩
abbrev imF (f c : Addr) (q : Str) (cs : List (Str × Addr)) (d : LamD) : Im := .pr (fun H => H f = some (LamC f c q d.ps d.body d.sc (cloFrom cs d.sc.names []))) (fun _ _ s h => s _ _ h rfl)
abbrev imC (c : Addr) (q : Str) : Im := .pr (fun H => H c = some (LamX.CodeO c q)) (fun _ _ s h => s _ _ h rfl)
abbrev imDD (vc : List (Str × V)) (cl : List (Str × Rows)) (vw : List V) (wi : List WS) (I : List Im) : List Im := .dats (vc.map (·.2)) (cl.map fun p => rowsD p.2) :: .dats vw (wi.map wD) :: I
theorem pure_law (T : Txt K mg a) (cs : List (Str × Addr)) (h : sp_law K a vs H Q E) : t_law K a E cs { nx := fun _ H' => Q .non H', rt := Q } (L2.start N_law vs) H := by
  obtain ⟨_, s, ns, rfl, hs, y0, k⟩ := h
  unfold t_law
  walk_at "start"
  walk_at "go"
  refine ⟨rfl, s, 1, ns, _, rfl, hs, y0, by decide, by decide, fun p ds H1 s1 y => ?_⟩
  have hC := Ctx.start (K := K) y
  walk_at "go"
  refine for_lst (xs := ds.map fun d => V.ref d.1) (fun t σ H => ∃ (es : List (Addr × Int × Int × Int)) (tb tb2 : Array Value), S0 s σ ∧
      es.map (fun d => V.ref d.1) = (ds.map fun d => V.ref d.1).drop t ∧ Lay H ((p, .lst (ds.map fun d => V.ref d.1)) :: (DL es ++ [(a.tb_Budgets_put_kind, .tbl tb), (a.tb_law, .tbl tb2)])) ∧ TriplesOk tb.toList ∧ TabOK (lamq "law") tb2 H)
    ⟨ds, #[], #[], S0.mk, rfl, y, True.intro, tab0⟩ ?_ ?_ ?_
  · rintro t σ H ht ⟨es, tb, tb2, hs, he, y, r, s⟩
    exact y.get List.mem_cons_self
  · rintro t x σ H hx ⟨es, tb, tb2, hs, he, y, r, s⟩
    cases hs with
    | mk =>
    obtain ⟨hlt, hx⟩ := List.getElem?_eq_some_iff.mp hx
    rw [List.drop_eq_getElem_cons hlt, hx] at he
    cases es with
    | nil => cases he
    | cons e es =>
      rw [List.map_cons] at he
      obtain ⟨rfl, he2⟩ := List.cons.inj he
      obtain ⟨d, i, j, l⟩ := e
      walk_at "go"
      have y1 : Lay H ((d, .lst [.int i, .int j, .int l]) :: (a.tb_Budgets_put_kind, .tbl tb) :: (a.tb_law, .tbl tb2) :: ((p, .lst (ds.map fun d => V.ref d.1)) :: DL es)) := by
        refine y.perm ?_
        show (_ :: ((d, _) :: (DL es ++ [_, _]))).Perm _
        refine (List.Perm.swap _ _ _).trans (List.Perm.cons _ ?_)
        exact (List.perm_append_comm (l₁ := (p, HO.lst (ds.map fun d => V.ref d.1)) :: DL es) (l₂ := [(a.tb_Budgets_put_kind, HO.tbl tb), (a.tb_law, HO.tbl tb2)]))
      exact for14_ok (E := E) T y1 r s SD.mk (fun σ' tb' tb2' H' hs' y' r' s' => ⟨es, tb', tb2', hs', he2, y'.perm (show ([(a.tb_Budgets_put_kind, HO.tbl tb'), (a.tb_law, HO.tbl tb2')] ++ ((p, HO.lst (ds.map fun d => V.ref d.1)) :: DL es)).Perm (((p, HO.lst (ds.map fun d => V.ref d.1)) :: DL es) ++ [(a.tb_Budgets_put_kind, HO.tbl tb'), (a.tb_law, HO.tbl tb2')]) from List.perm_append_comm), r', s'⟩)
  · rintro σ H ⟨es, tb, tb2, hs, he, y, r, s⟩
    cases hs with
    | mk =>
    have y := lay_appR' (L := _ :: DL es) y
    have hC := ((Ctx.start (K := K) y).add (i := .tri tb) r).add (i := .tab _ tb2) s
    clear y y0 hs s1 he
    unfold t_law_tail15
    walk_at "go"
    refine s_initV ?_
    have hC := hC.add (i := .dats [] []) TDs.nil
    walk_at "go"
    have hd : TD K H (.ref tp) (rowsD [(1380, 420)]) := .tup (hC.tup (by walk_at "mem")) (.cons (.tup (hC.tup (by walk_at "mem")) (.cons (.int _) (.cons (.int _) .nil))) .nil)
    have ok : rowsOk [(1380, 420)] := fun p hp => by rw [List.mem_singleton.mp hp]; exact ⟨⟨by decide, by decide⟩, ⟨by decide, by decide⟩⟩
    refine c_putkind (r := [(1380, 420)]) (cl := []) (wi := []) hC (by unfold bL; walk_at "perm2") (by walk_at "mem") rfl TDs.nil TDs.nil (by decide) (by decide) (by decide) (by decide) (by decide) (.inr hd) ok ?_
    clear hC
    intro H tbp dx pk pm pc ps pe pw vc vw h1 hC
    unfold bL at hC
    walk_at "go"
    refine c_putapp (ki := []) (wi := []) hC (by unfold bL; walk_at "perm2") h1 (by walk_at "tdm") (by walk_at "tdm") (by decide) ?_
    clear hC h1
    intro H dx pk pm pc ps pe pw vc vw h1 hC
    unfold bL at hC
    have m1 : mayG ⟨putR [] "a" "game", putR [] "game" 1440, putR [] "game" [(1380, 420)], [], [], []⟩ "a" 1379 = true := by decide +kernel
    have m2 : mayG ⟨putR [] "a" "game", putR [] "game" 1440, putR [] "game" [(1380, 420)], [], [], []⟩ "a" 1380 = false := by decide +kernel
    have m3 : mayG ⟨putR [] "a" "game", putR [] "game" 1440, putR [] "game" [(1380, 420)], [], [], []⟩ "a" 1859 = false := by decide +kernel
    have m4 : mayG ⟨putR [] "a" "game", putR [] "game" 1440, putR [] "game" [(1380, 420)], [], [], []⟩ "a" 1860 = true := by decide +kernel
    have mb : mayG ⟨putR [] "a" "game", putR [] "game" 1440, putR [] "game" [(1380, 420)], [], [], []⟩ "b" 0 = true := by decide +kernel
    have ub : useG ⟨putR [] "a" "game", putR [] "game" 1440, putR [] "game" [(1380, 420)], [], [], []⟩ "b" 0 = ⟨putR [] "a" "game", putR [] "game" 1440, putR [] "game" [(1380, 420)], [], [], []⟩ := by
      unfold useG
      rw [mb, if_pos rfl]
      have e : look (putR ([] : List (Str × Str)) "a" "game") "b" = none := by decide +kernel
      simp only [e]
      rfl
    have lz : leftG ⟨putR [] "a" "game", putR [] "game" 1440, putR [] "game" [(1380, 420)], [], [], []⟩ "zz" 0 = none := by decide +kernel
    have z1 : (putR ([] : List (Str × Int)) "game" 1440).length ≤ 10 := by decide +kernel
    have z2 : (putR ([] : List (Str × Rows)) "game" [(1380, 420)]).length ≤ 10 := by decide +kernel
    have z3 : (([] : List WS)).length ≤ 10 := by decide +kernel
    have z4 : (([] : List ((Str × Int) × Int))).length ≤ 10 := by decide +kernel
    have w0 : ∀ (i : Nat) (w : WS), (([] : List WS))[i]? = some w → ¬ (w.word = none ∧ w.day = (0 : Int) / 1440) := fun i w e => by simp at e
    generalize putR ([] : List (Str × Str)) "a" "game" = ki at *
    generalize putR ([] : List (Str × Int)) "game" 1440 = mi at *
    generalize putR ([] : List (Str × Rows)) "game" [(1380, 420)] = cl at *
    generalize ([] : List WS) = wi at *
    generalize ([] : List ((Str × Int) × Int)) = sp at *
    have nB1 : ¬ ((leftG ⟨ki, mi, cl, sp, sp, wi⟩ "zz" 0).isSome = true ∧ (1 : Int) ≤ 5 ∧ (5 : Int) ≤ 120) := fun z => by rw [lz] at z; exact Bool.false_ne_true z.1
    walk_at "go"
    refine s_lcS ?_
    walk_at "go"
    rename_i f4 c4 t4 g4 f3 c3 t3 g3 f2 c2 t2 g2 f1 c1 t1 g1 g0
    have hC := hC.rebase
    refine lc_w (walk_list (xs := [V.ref f4, V.ref f3, V.ref f2, V.ref f1, V.ref lf])) hC (fun D i H1 => ∃ tbx, Ctx K H H1 ((D, .lst []) :: bL a mx dx pk pm pc ps pe pw ki mi vc sp sp vw ((a.tb_Budgets_put_kind, .tbl tbx) :: (lp, .lst [V.ref f4, V.ref f3, V.ref f2, V.ref f1, V.ref lf]) :: (a.tb_law, .tbl tb) :: []))
      [.tri tbx, .dats (vc.map (·.2)) (cl.map fun p => rowsD p.2), .dats vw (wi.map wD), imF f4 c4 (lamq "law") cs D_law_4, imC c4 (lamq "law"), imF f3 c3 (lamq "law") cs D_law_3, imC c3 (lamq "law"), imF f2 c2 (lamq "law") cs D_law_2, imC c2 (lamq "law"), imF f1 c1 (lamq "law") cs D_law_1, imC c1 (lamq "law"), imF lf lc (lamq "law") cs D_law_0, imC lc (lamq "law")]) ?_ ?_ ?_ ?_
    · intro D H1 hC
      exact ⟨tbp, hC.sub (by unfold bL; walk_at "lay2") (by walk_at "subs")⟩
    · rintro D i H1 hi ⟨tbx, hC⟩
      exact SqL.of (hC.get (by unfold bL; walk_at "mem"))
    · rintro i x D H1 H2 hi ⟨tbx, hC⟩ ⟨rfl, hx⟩
      unfold bL at hC
      rcases i with _ | _ | _ | _ | _ | i
      · cases hx
        simp only [wipe, List.set_cons_zero, List.set_cons_succ]
        walk_at "go"
        refine ⟨rfl, ?_⟩
        walk_at "go"
        refine s_toldC f4 c4 4 D_law_4 rfl rfl (hC.pr (P := fun H => H f4 = some (LamC f4 c4 (lamq "law") D_law_4.ps D_law_4.body D_law_4.sc (cloFrom cs D_law_4.sc.names []))) (by walk_at "mem")) (hC.pr (P := fun H => H c4 = some (LamX.CodeO c4 (lamq "law"))) (by walk_at "mem")) ?_
        refine te_eq TF_law_4 ?_
        walk_at "go"
        refine c_putkind0 hC (by unfold bL; walk_at "perm2") (by walk_at "mem") h1 (by walk_at "tdm") (by walk_at "tdm") (by omega) (by omega) (by decide) (fun H hC => ?_)
        walk_at "go"
        exact ⟨_, hC.sub (by unfold bL; walk_at "lay2") (by walk_at "subs")⟩
      · cases hx
        simp only [wipe, List.set_cons_zero, List.set_cons_succ]
        walk_at "go"
        refine ⟨rfl, ?_⟩
        walk_at "go"
        refine s_toldC f3 c3 3 D_law_3 rfl rfl (hC.pr (P := fun H => H f3 = some (LamC f3 c3 (lamq "law") D_law_3.ps D_law_3.body D_law_3.sc (cloFrom cs D_law_3.sc.names []))) (by walk_at "mem")) (hC.pr (P := fun H => H c3 = some (LamX.CodeO c3 (lamq "law"))) (by walk_at "mem")) ?_
        refine te_eq TF_law_3 ?_
        walk_at "go"
        refine c_putkind0 hC (by unfold bL; walk_at "perm2") (by walk_at "mem") h1 (by walk_at "tdm") (by walk_at "tdm") (by omega) (by omega) (by decide) (fun H hC => ?_)
        walk_at "go"
        exact ⟨_, hC.sub (by unfold bL; walk_at "lay2") (by walk_at "subs")⟩
      · cases hx
        simp only [wipe, List.set_cons_zero, List.set_cons_succ]
        walk_at "go"
        refine ⟨rfl, ?_⟩
        walk_at "go"
        refine s_toldC f2 c2 2 D_law_2 rfl rfl (hC.pr (P := fun H => H f2 = some (LamC f2 c2 (lamq "law") D_law_2.ps D_law_2.body D_law_2.sc (cloFrom cs D_law_2.sc.names []))) (by walk_at "mem")) (hC.pr (P := fun H => H c2 = some (LamX.CodeO c2 (lamq "law"))) (by walk_at "mem")) ?_
        refine te_eq TF_law_2 ?_
        walk_at "go"
        have hd : TD K H (.ref tp) (rowsD [(0, 1440)]) := .tup (hC.tup (by walk_at "mem")) (.cons (.tup (hC.tup (by walk_at "mem")) (.cons (.int _) (.cons (.int _) .nil))) .nil)
        refine c_putkind1 (r := [(0, 1440)]) hC (by unfold bL; walk_at "perm2") (by walk_at "mem") h1 (by walk_at "tdm") (by walk_at "tdm") (by omega) (by omega) (by decide) (by decide) (by decide) (.inr hd) (fun z => absurd (z _ List.mem_cons_self).2.2 (by decide)) (fun H tbx hC => ?_)
        unfold bL at hC
        walk_at "go"
        exact ⟨_, hC.sub (by unfold bL; walk_at "lay2") (by walk_at "subs")⟩
      · cases hx
        simp only [wipe, List.set_cons_zero, List.set_cons_succ]
        walk_at "go"
        refine ⟨rfl, ?_⟩
        walk_at "go"
        refine s_toldC f1 c1 1 D_law_1 rfl rfl (hC.pr (P := fun H => H f1 = some (LamC f1 c1 (lamq "law") D_law_1.ps D_law_1.body D_law_1.sc (cloFrom cs D_law_1.sc.names []))) (by walk_at "mem")) (hC.pr (P := fun H => H c1 = some (LamX.CodeO c1 (lamq "law"))) (by walk_at "mem")) ?_
        refine te_eq TF_law_1 ?_
        walk_at "go"
        refine c_answer_bad (i := 0) hC (by unfold bL; walk_at "perm2") h1 (by walk_at "tdm") (by walk_at "tdm") (by omega) (by omega) (w0 0) (fun H hC => ?_)
        walk_at "go"
        exact ⟨_, hC.sub (by unfold bL; walk_at "lay2") (by walk_at "subs")⟩
      · cases hx
        simp only [wipe, List.set_cons_zero, List.set_cons_succ]
        walk_at "go"
        refine ⟨rfl, ?_⟩
        walk_at "go"
        refine s_toldC lf lc 0 D_law_0 rfl rfl (hC.pr (P := fun H => H lf = some (LamC lf lc (lamq "law") D_law_0.ps D_law_0.body D_law_0.sc (cloFrom cs D_law_0.sc.names []))) (by walk_at "mem")) (hC.pr (P := fun H => H lc = some (LamX.CodeO lc (lamq "law"))) (by walk_at "mem")) ?_
        refine te_eq TF_law_0 ?_
        walk_at "go"
        exact ⟨_, hC.sub (by unfold bL; walk_at "lay2") (by walk_at "subs")⟩
      · cases hx
    · rintro D H1 ⟨tbx, hC⟩
      unfold bL at hC
      walk_at "go"
      have hC := hC.rebase
      have hC : Ctx K H H ((lp, .lst [V.int 1379, V.int 1380, V.int 1859, V.int 1860]) :: bL a mx dx pk pm pc ps pe pw ki mi vc sp sp vw []) (imDD vc cl vw wi []) := hC.sub (by unfold bL; walk_at "lay2") (by unfold imDD; walk_at "subs")
      refine lc_w (walk_list (xs := [V.int 1379, V.int 1380, V.int 1859, V.int 1860])) hC (fun D i H2 => ∃ I, Ctx K H H2 ((D, .lst (([V.bl true, V.bl false, V.bl false, V.bl true]).take i)) :: (lp, .lst [V.int 1379, V.int 1380, V.int 1859, V.int 1860]) :: bL a mx dx pk pm pc ps pe pw ki mi vc sp sp vw []) (imDD vc cl vw wi I)) (fun D H2 hC => ⟨[], hC⟩) (fun D i H2 _ ⟨I, hC⟩ => SqL.of (hC.get (by walk_at "mem"))) ?_ ?_
      · rintro i x D H2 H3 hi ⟨I, hC⟩ ⟨rfl, hx⟩
        unfold bL imDD at hC
        rcases i with _ | _ | _ | _ | i
        · cases hx
          simp only [wipe, List.set_cons_zero, List.set_cons_succ, List.take] at hC ⊢
          walk_at "go"
          refine ⟨rfl, ?_⟩
          walk_at "go"
          exact ⟨_, hC⟩
        · cases hx
          simp only [wipe, List.set_cons_zero, List.set_cons_succ, List.take] at hC ⊢
          walk_at "go"
          refine ⟨rfl, ?_⟩
          walk_at "go"
          exact ⟨_, hC⟩
        · cases hx
          simp only [wipe, List.set_cons_zero, List.set_cons_succ, List.take] at hC ⊢
          walk_at "go"
          refine ⟨rfl, ?_⟩
          walk_at "go"
          exact ⟨_, hC⟩
        · cases hx
          simp only [wipe, List.set_cons_zero, List.set_cons_succ, List.take] at hC ⊢
          walk_at "go"
          refine ⟨rfl, ?_⟩
          walk_at "go"
          exact ⟨_, hC⟩
        · cases hx
      · rintro D H2 ⟨I, hC⟩
        have hC : Ctx K H H2 ((D, .lst [V.bl true, V.bl false, V.bl false, V.bl true]) :: (lp, .lst [V.int 1379, V.int 1380, V.int 1859, V.int 1860]) :: bL a mx dx pk pm pc ps pe pw ki mi vc sp sp vw []) (imDD vc cl vw wi I) := hC
        unfold bL imDD at hC
        walk_at "go"
        have bb : ∀ {H : Hp}, DpAll K H [V.bl true, V.bl false, V.bl false, V.bl true] [.bool true, .bool false, .bool false, .bool true] := .cons (.bl _) (.cons (.bl _) (.cons (.bl _) (.cons (.bl _) .nil)))
        refine s_eqSameD (d := .list [.bool true, .bool false, .bool false, .bool true]) (n := 1) (.lst (SqL.of (hC.get (by walk_at "mem"))) bb) (.lst (SqL.of (hC.get (by walk_at "mem"))) bb) (ShL.list (.cons (.bl _) (.cons (.bl _) (.cons (.bl _) (.cons (.bl _) .nil))))) (by decide) ?_
        walk_at "go"
        exact k _
end
end Wk
namespace Wk
open PySem PySem.Spec PyProof.Rows L2 Ph
open LamX (TTold told_gives lamS_by TabB)
section
variable {P : Program} {w : World} {K : PySem.W.Frag} {mg : Str → Option Value} {base : Heap} {a : Adr}
theorem ok_Budgets__init (T : Txt K mg a) : FnOk P w K mg base (L2.CX P w) 1 a.f_Budgets__init a.fd_Budgets__init ["self"] (sp_Budgets__init K a) := by
  refine FunD.ok T.fn_Budgets__init sc_Budgets__init (fun _ _ _ _ h => h.1) (fun cdv A outer s H vs Q E hr h => ⟨t_Budgets__init K a E, ?_, pure_Budgets__init T h⟩)
  have hu := hr.units
  exact (pss_cons (ps_fld (pv 0) pe_dnewK rfl) (pss_cons (ps_fld (pv 0) pe_dnewK rfl) (pss_cons (ps_fld (pv 0) pe_dnewK rfl) (pss_cons (ps_fld (pv 0) pe_dnewT rfl) (pss_cons (ps_fld (pv 0) pe_dnewT rfl) (pss_one (ps_fld (pv 0) (pe_lst pa_nil) rfl)))))))
theorem ok_Budgets_put_app (T : Txt K mg a) : FnOk P w K mg base (L2.CX P w) 1 a.f_Budgets_put_app a.fd_Budgets_put_app ["self", "app", "kind"] (sp_Budgets_put_app K a) := by
  refine FunD.ok T.fn_Budgets_put_app sc_Budgets_put_app (fun _ _ _ _ h => h.1) (fun cdv A outer s H vs Q E hr h => ⟨t_Budgets_put_app K a E, ?_, pure_Budgets_put_app T h⟩)
  have hu := hr.units
  exact (pss_one (ps_asg (pv 2) (pg_sub (pe_fld (pv 0) rfl) (pv 1) (u_set hu))))
theorem ok_Budgets_put_kind (T : Txt K mg a) (TB_Budgets_put_kind : TabB base mg a.cc_Budgets_put_kind a.tb_Budgets_put_kind) : FnOk P w K mg base (L2.CX P w) 8 a.f_Budgets_put_kind a.fd_Budgets_put_kind ["self", "kind", "minutes", "closed"] (sp_Budgets_put_kind K a) := by
  refine FunD.okC T.fn_Budgets_put_kind sc_Budgets_put_kind (fun _ _ _ _ h => h.1) (fun cdv A outer s H vs Q E hr hcc h => ⟨t_Budgets_put_kind K a E, ?_, pure_Budgets_put_kind T h⟩)
  have hu := hr.units
  have hcode : cdv = .ref a.cc_Budgets_put_kind := hcc.symm.trans T.cd_Budgets_put_kind
  subst hcode
  have HR7 := hr.mono (show 7 ≤ 7 by decide)
  exact (pss_cons (ps_if (PW.pt (pw_or (pt_not (pt_chain u_le u_le pe_int (pv 2) (pe_gint rfl T.gl_MINUTES_A_DAY))) (pw_or1 (pt_tru (pe_anyX2 (own := [("row", 4), ("one", 5)]) (own1 := [("one", 5)]) (g0 := (gName 4)) (tt0 := tYes) (g1 := (gName 5)) (tt1 := tYes) (GenP2.mk HR7 rfl sc_Budgets_put_kind.nd (tabG TB_Budgets_put_kind) rfl (gensx_by (by decide +kernel)) (pi_seq (pv 3)) (blkOk_by (N := N_Budgets_put_kind) (sc := defScope s_Budgets_put_kind) (by decide +kernel)) (by decide) (fun _ _ _ _ _ _ _ hrg => (pg_name (i := 4) sc_Budgets_put_kind.nd rfl (by first | exact Or.inl rfl | exact Or.inr rfl))) (fun _ _ _ _ _ _ _ hrg => pts_nil) (fun _ _ _ _ _ _ _ hrg => (pi_seq (pv 4))) (fun _ _ _ _ _ _ _ hrg => (pg_name (i := 5) sc_Budgets_put_kind.nd rfl (by first | exact Or.inl rfl | exact Or.inr rfl))) (fun _ _ _ _ _ _ _ hrg => pts_nil) (fun _ _ _ _ _ _ _ hrg => (pe_not (pe_chain u_le u_lt pe_int (pv 5) (pe_gint rfl T.gl_MINUTES_A_DAY)))) (fun _ => rfl) (fun _ _ => rfl)) rfl T.no_any))))) (pss_one (ps_raise rfl (takes_of rfl rfl rfl rfl) (pmk_own PySem.F.excBase_ValueError T.xc_RightFault T.mgc_RightFault T.kc_RightFault (raises_own T.bc_RightFault T.tc_RightFault) (by rfl)))) pss_nil) (pss_cons (ps_asg (pv 2) (pg_sub (pe_fld (pv 0) rfl) (pv 1) (u_set hu))) (pss_one (ps_asg (pe_callTy call_tuple_of (by rfl) T.no_tuple (by decide +kernel) (pa_cons (pv 3) pa_nil)) (pg_sub (pe_fld (pv 0) rfl) (pv 1) (u_set hu))))))
theorem ok_Budgets_is_closed (T : Txt K mg a) : FnOk P w K mg base (L2.CX P w) 1 a.f_Budgets_is_closed a.fd_Budgets_is_closed ["self", "kind", "time"] (sp_Budgets_is_closed K a) := by
  refine FunD.ok T.fn_Budgets_is_closed sc_Budgets_is_closed (fun _ _ _ _ h => h.1) (fun cdv A outer s H vs Q E hr h => ⟨t_Budgets_is_closed K a E, ?_, pure_Budgets_is_closed T h⟩)
  have hu := hr.units
  exact (pss_cons (ps_set (i := 3) sc_Budgets_is_closed.nd rfl (by first | exact Or.inl rfl | exact Or.inr rfl) (pe_op u_mod (pv 2) (pe_gint rfl T.gl_MINUTES_A_DAY))) (pss_cons (ps_for (passes_of rfl) rfl (pi_tup (pe_get2 hu (pe_fld (pv 0) rfl) (pv 1) (pe_tup pa_nil) ⟨rfl, rfl, rfl, rfl⟩)) (pg_tup rfl (pgs_cons (pg_name (i := 4) sc_Budgets_is_closed.nd rfl (by first | exact Or.inl rfl | exact Or.inr rfl)) (pgs_cons (pg_name (i := 5) sc_Budgets_is_closed.nd rfl (by first | exact Or.inl rfl | exact Or.inr rfl)) pgs_nil))) (pss_one (ps_if (PW.pt (pw_or (PW.pt (pw_and (pt_cmpR u_lt (pv 4) (pv 5) (nomark _)) (pw_and1 (pt_chain u_le u_lt (pv 4) (pv 3) (pv 5))))) (pw_or1 (PW.pt (pw_and (pt_cmpR u_ge (pv 4) (pv 5) (nomark _)) (pw_and1 (PW.pt (pw_or (pt_cmpR u_ge (pv 3) (pv 4) (nomark _)) (pw_or1 (pt_cmpR u_lt (pv 3) (pv 5) (nomark _))))))))))) (pss_one (ps_ret pe_bl)) pss_nil))) (pss_one (ps_ret pe_bl))))
theorem ok_Budgets_left (T : Txt K mg a) : FnOk P w K mg base (L2.CX P w) 1 a.f_Budgets_left a.fd_Budgets_left ["self", "app", "time"] (sp_Budgets_left K a) := by
  refine FunD.ok T.fn_Budgets_left sc_Budgets_left (fun _ _ _ _ h => h.1) (fun cdv A outer s H vs Q E hr h => ⟨t_Budgets_left K a E, ?_, pure_Budgets_left T h⟩)
  have hu := hr.units
  exact (pss_cons (ps_set (i := 3) sc_Budgets_left.nd rfl (by first | exact Or.inl rfl | exact Or.inr rfl) (pe_get1 hu (pe_fld (pv 0) rfl) (pv 1) ⟨rfl, rfl, rfl, rfl⟩)) (pss_cons (ps_if (PW.pt (pw_or (pt_cmpR u_isN (pv 3) pe_non (nomark _)) (pw_or1 (pt_cmpR (u_notinV hu) (pv 3) (pe_fld (pv 0) rfl) (by rfl))))) (pss_one (ps_ret pe_non)) pss_nil) (pss_cons (ps_set (i := 4) sc_Budgets_left.nd rfl (by first | exact Or.inl rfl | exact Or.inr rfl) (pe_op u_div (pv 2) (pe_gint rfl T.gl_MINUTES_A_DAY))) (pss_cons (ps_set (i := 5) sc_Budgets_left.nd rfl (by first | exact Or.inl rfl | exact Or.inr rfl) (pe_op u_add (pe_ix (u_ix hu) (pe_fld (pv 0) rfl) (pv 3) (fun _ _ => rfl)) (pe_get2 hu (pe_fld (pv 0) rfl) (pe_tup (pa_cons (pv 3) (pa_cons (pv 4) pa_nil))) pe_int ⟨rfl, rfl, rfl, rfl⟩))) (pss_one (ps_ret (pe_callB (call_max2 rfl) (by rfl) T.no_max (by decide +kernel) (pa_cons pe_int (pa_cons (pe_op u_sub (pv 5) (pe_get2 hu (pe_fld (pv 0) rfl) (pe_tup (pa_cons (pv 3) (pa_cons (pv 4) pa_nil))) pe_int ⟨rfl, rfl, rfl, rfl⟩)) pa_nil)))))))))
theorem ok_Budgets_may_use (T : Txt K mg a) (G_Budgets_is_closed : FnOk P w K mg base (L2.CX P w) 1 a.f_Budgets_is_closed a.fd_Budgets_is_closed ["self", "kind", "time"] (sp_Budgets_is_closed K a)) (G_Budgets_left : FnOk P w K mg base (L2.CX P w) 1 a.f_Budgets_left a.fd_Budgets_left ["self", "app", "time"] (sp_Budgets_left K a)) : FnOk P w K mg base (L2.CX P w) 2 a.f_Budgets_may_use a.fd_Budgets_may_use ["self", "app", "time"] (sp_Budgets_may_use K a) := by
  refine FunD.ok T.fn_Budgets_may_use sc_Budgets_may_use (fun _ _ _ _ h => h.1) (fun cdv A outer s H vs Q E hr h => ⟨t_Budgets_may_use K a E, ?_, pure_Budgets_may_use T h⟩)
  have hu := hr.units
  have hr_Budgets_is_closed := hr.mono (show 1 ≤ 1 by decide)
  have hr_Budgets_left := hr.mono (show 1 ≤ 1 by decide)
  exact (pss_cons (ps_set (i := 3) sc_Budgets_may_use.nd rfl (by first | exact Or.inl rfl | exact Or.inr rfl) (pe_get1 hu (pe_fld (pv 0) rfl) (pv 1) ⟨rfl, rfl, rfl, rfl⟩)) (pss_cons (ps_if (PW.pt (pw_and (pt_cmpR u_notN (pv 3) pe_non (nomark _)) (pw_and1 (pt_tru (pe_meth (pv 0) T.cl_Budgets T.me_Budgets_is_closed G_Budgets_is_closed hr_Budgets_is_closed T.bi_Budgets_is_closed .nil passX (pa_cons (pv 3) (pa_cons (pv 2) pa_nil))))))) (pss_one (ps_ret pe_bl)) pss_nil) (pss_cons (ps_set (i := 4) sc_Budgets_may_use.nd rfl (by first | exact Or.inl rfl | exact Or.inr rfl) (pe_meth (pv 0) T.cl_Budgets T.me_Budgets_left G_Budgets_left hr_Budgets_left T.bi_Budgets_left .nil passX (pa_cons (pv 1) (pa_cons (pv 2) pa_nil)))) (pss_one (ps_ret (pe_or (pe_cmpR u_isN (pv 4) pe_non (nomark _)) (pe_one (pe_cmpR u_gt (pv 4) pe_int (nomark _)))))))))
theorem ok_Budgets_use (T : Txt K mg a) (G_Budgets_may_use : FnOk P w K mg base (L2.CX P w) 2 a.f_Budgets_may_use a.fd_Budgets_may_use ["self", "app", "time"] (sp_Budgets_may_use K a)) : FnOk P w K mg base (L2.CX P w) 3 a.f_Budgets_use a.fd_Budgets_use ["self", "app", "time"] (sp_Budgets_use K a) := by
  refine FunD.ok T.fn_Budgets_use sc_Budgets_use (fun _ _ _ _ h => h.1) (fun cdv A outer s H vs Q E hr h => ⟨t_Budgets_use K a E, ?_, pure_Budgets_use T h⟩)
  have hu := hr.units
  have hr_Budgets_may_use := hr.mono (show 2 ≤ 2 by decide)
  exact (pss_cons (ps_if (pt_not (pt_tru (pe_meth (pv 0) T.cl_Budgets T.me_Budgets_may_use G_Budgets_may_use hr_Budgets_may_use T.bi_Budgets_may_use .nil passX (pa_cons (pv 1) (pa_cons (pv 2) pa_nil))))) (pss_one (ps_ret pe_bl)) pss_nil) (pss_cons (ps_set (i := 3) sc_Budgets_use.nd rfl (by first | exact Or.inl rfl | exact Or.inr rfl) (pe_get1 hu (pe_fld (pv 0) rfl) (pv 1) ⟨rfl, rfl, rfl, rfl⟩)) (pss_cons (ps_if (pt_cmpR u_notN (pv 3) pe_non (nomark _)) (pss_cons (ps_set (i := 4) sc_Budgets_use.nd rfl (by first | exact Or.inl rfl | exact Or.inr rfl) (pe_tup (pa_cons (pv 3) (pa_cons (pe_op u_div (pv 2) (pe_gint rfl T.gl_MINUTES_A_DAY)) pa_nil)))) (pss_one (ps_asg (pe_op u_add (pe_get2 hu (pe_fld (pv 0) rfl) (pv 4) pe_int ⟨rfl, rfl, rfl, rfl⟩) pe_int) (pg_sub (pe_fld (pv 0) rfl) (pv 4) (u_set hu))))) pss_nil) (pss_one (ps_ret pe_bl)))))
theorem ok_Budgets_wish (T : Txt K mg a) (G_Budgets_left : FnOk P w K mg base (L2.CX P w) 1 a.f_Budgets_left a.fd_Budgets_left ["self", "app", "time"] (sp_Budgets_left K a)) : FnOk P w K mg base (L2.CX P w) 2 a.f_Budgets_wish a.fd_Budgets_wish ["self", "app", "minutes", "time"] (sp_Budgets_wish K a) := by
  refine FunD.ok T.fn_Budgets_wish sc_Budgets_wish (fun _ _ _ _ h => h.1) (fun cdv A outer s H vs Q E hr h => ⟨t_Budgets_wish K a E, ?_, pure_Budgets_wish T h⟩)
  have hu := hr.units
  have hr_Budgets_left := hr.mono (show 1 ≤ 1 by decide)
  exact (pss_cons (ps_if (PW.pt (pw_or (pt_cmpR u_isN (pe_meth (pv 0) T.cl_Budgets T.me_Budgets_left G_Budgets_left hr_Budgets_left T.bi_Budgets_left .nil passX (pa_cons (pv 1) (pa_cons (pv 3) pa_nil))) pe_non (nomark _)) (pw_or1 (pt_not (pt_chain u_le u_le pe_int (pv 2) pe_int))))) (pss_one (ps_raise rfl (takes_of rfl rfl rfl rfl) (pmk_own PySem.F.excBase_ValueError T.xc_RightFault T.mgc_RightFault T.kc_RightFault (raises_own T.bc_RightFault T.tc_RightFault) (by rfl)))) pss_nil) (pss_cons (ps_expr (pe_bm PySem.F.plainAttrs_list PySem.F.slot_list_append PySem.F.type_list_append mt_append (pe_fld (pv 0) rfl) (pa_cons (pe_tup (pa_cons (pe_ix (u_ix hu) (pe_fld (pv 0) rfl) (pv 1) (fun _ _ => rfl)) (pa_cons (pv 2) (pa_cons (pe_op u_div (pv 3) (pe_gint rfl T.gl_MINUTES_A_DAY)) (pa_cons pe_non pa_nil))))) pa_nil))) (pss_one (ps_ret (pe_op u_sub (pe_callB u_len (by rfl) T.no_len (by decide +kernel) (pa_cons (pe_fld (pv 0) rfl) pa_nil)) pe_int)))))
theorem ok_Budgets_answer (T : Txt K mg a) : FnOk P w K mg base (L2.CX P w) 1 a.f_Budgets_answer a.fd_Budgets_answer ["self", "number", "good", "time"] (sp_Budgets_answer K a) := by
  refine FunD.ok T.fn_Budgets_answer sc_Budgets_answer (fun _ _ _ _ h => h.1) (fun cdv A outer s H vs Q E hr h => ⟨t_Budgets_answer K a E, ?_, pure_Budgets_answer T h⟩)
  have hu := hr.units
  exact (pss_cons (ps_if (PW.pt (pw_or (pt_not (pt_chain u_le u_lt pe_int (pv 1) (pe_callB u_len (by rfl) T.no_len (by decide +kernel) (pa_cons (pe_fld (pv 0) rfl) pa_nil)))) (pw_or1 (pt_cmpR u_notN (pe_ix (u_ix hu) (pe_ix (u_ix hu) (pe_fld (pv 0) rfl) (pv 1) (fun _ _ => rfl)) pe_int (fun _ _ => rfl)) pe_non (nomark _))))) (pss_one (ps_raise rfl (takes_of rfl rfl rfl rfl) (pmk_own PySem.F.excBase_ValueError T.xc_RightFault T.mgc_RightFault T.kc_RightFault (raises_own T.bc_RightFault T.tc_RightFault) (by rfl)))) pss_nil) (pss_cons (ps_asg (pe_ix (u_ix hu) (pe_fld (pv 0) rfl) (pv 1) (fun _ _ => rfl)) (pg_tup rfl (pgs_cons (pg_name (i := 4) sc_Budgets_answer.nd rfl (by first | exact Or.inl rfl | exact Or.inr rfl)) (pgs_cons (pg_name (i := 5) sc_Budgets_answer.nd rfl (by first | exact Or.inl rfl | exact Or.inr rfl)) (pgs_cons (pg_name (i := 6) sc_Budgets_answer.nd rfl (by first | exact Or.inl rfl | exact Or.inr rfl)) (pgs_cons (pg_name (i := 7) sc_Budgets_answer.nd rfl (by first | exact Or.inl rfl | exact Or.inr rfl)) pgs_nil)))))) (pss_cons (ps_if (pt_cmpR (u_ne hu) (pv 6) (pe_op u_div (pv 3) (pe_gint rfl T.gl_MINUTES_A_DAY)) (nomark _)) (pss_one (ps_raise rfl (takes_of rfl rfl rfl rfl) (pmk_own PySem.F.excBase_ValueError T.xc_RightFault T.mgc_RightFault T.kc_RightFault (raises_own T.bc_RightFault T.tc_RightFault) (by rfl)))) pss_nil) (pss_cons (ps_asg (pe_tup (pa_cons (pv 4) (pa_cons (pv 5) (pa_cons (pv 6) (pa_cons (pv 2) pa_nil))))) (pg_sub (pe_fld (pv 0) rfl) (pv 1) (u_set hu))) (pss_one (ps_if (pt_tru (pv 2)) (pss_one (ps_asg (pe_op u_add (pe_get2 hu (pe_fld (pv 0) rfl) (pe_tup (pa_cons (pv 4) (pa_cons (pv 6) pa_nil))) pe_int ⟨rfl, rfl, rfl, rfl⟩) (pv 5)) (pg_sub (pe_fld (pv 0) rfl) (pe_tup (pa_cons (pv 4) (pa_cons (pv 6) pa_nil))) (u_set hu)))) pss_nil))))))
theorem ok_law_dice (T : Txt K mg a) : FnOk P w K mg base (L2.CX P w) 1 a.f_law_dice a.fd_law_dice ["cell"] (sp_law_dice K a) := by
  refine FunD.ok T.fn_law_dice sc_law_dice (fun _ _ _ _ h => h.1) (fun cdv A outer s H vs Q E hr h => ⟨t_law_dice K a E, ?_, pure_law_dice T h⟩)
  have hu := hr.units
  exact (pss_cons (ps_if (pt_chain u_lt u_lt (pe_op u_sub pe_int pe_int) (pv 0) pe_int) (pss_one (ps_ret (pe_lst (pa_cons (pe_callB call_abs (by rfl) T.no_abs (by decide +kernel) (pa_cons (pv 0) pa_nil)) (pa_cons pe_int (pa_cons pe_int pa_nil)))))) pss_nil) (pss_one (ps_ret (pe_lst (pa_cons (pv 0) (pa_cons (pe_op u_add pe_int (pe_op u_mod (pe_callTy call_int1 (by rfl) T.no_int (by decide +kernel) (pa_cons (pv 0) pa_nil)) pe_int)) (pa_cons (pe_callTy call_int1 (by rfl) T.no_int (by decide +kernel) (pa_cons (pe_cmpR u_ge (pv 0) (pe_op u_pow pe_int pe_int) (nomark _)) pa_nil)) pa_nil)))))))
theorem ok_law_roll (T : Txt K mg a) : FnOk P w K mg base (L2.CX P w) 1 a.f_law_roll a.fd_law_roll ["dice", "many"] (sp_law_roll K a) := by
  refine FunD.ok T.fn_law_roll sc_law_roll (fun _ _ _ _ h => h.1) (fun cdv A outer s H vs Q E hr h => ⟨t_law_roll K a E, ?_, pure_law_roll T h⟩)
  have hu := hr.units
  exact (pss_cons (ps_if (PW.pt (pw_or (pt_cmpR (u_eq hu) (pe_ix (u_ix hu) (pv 0) pe_int (fun _ _ => rfl)) pe_int (nomark _)) (pw_or1 (PW.pt (pw_and (pt_cmpR (u_eq hu) (pe_ix (u_ix hu) (pv 0) pe_int (fun _ _ => rfl)) pe_int (nomark _)) (pw_and1 (pt_cmpR u_gt (pe_ix (u_ix hu) (pv 0) pe_int (fun _ _ => rfl)) pe_int (nomark _)))))))) (pss_cons (ps_set (i := 2) sc_law_roll.nd rfl (by first | exact Or.inl rfl | exact Or.inr rfl) (pe_op u_mod (pe_callTy call_int1 (by rfl) T.no_int (by decide +kernel) (pa_cons (pe_ix (u_ix hu) (pv 0) pe_int (fun _ _ => rfl)) pa_nil)) (pv 1))) (pss_cons (ps_asg (pe_op u_div (pe_ix (u_ix hu) (pv 0) pe_int (fun _ _ => rfl)) (pv 1)) (pg_sub (pv 0) pe_int (u_set hu))) (pss_one (ps_ret (pv 2))))) pss_nil) (pss_cons (ps_asg pe_int (pg_sub (pv 0) pe_int (u_set hu))) (pss_cons (ps_if (pt_cmpR u_gt (pv 1) pe_int (nomark _)) pss_never pss_nil) (pss_cons (ps_asg (pe_op u_mod (pe_callTy call_int1 (by rfl) T.no_int (by decide +kernel) (pa_cons (pe_op u_add (pe_op u_add (pe_op u_mul (pe_ix (u_ix hu) (pv 0) pe_int (fun _ _ => rfl)) pe_int) (pe_op u_mul (pe_ix (u_ix hu) (pv 0) pe_int (fun _ _ => rfl)) pe_int)) pe_int) pa_nil)) pe_int) (pg_sub (pv 0) pe_int (u_set hu))) (pss_cons (ps_asg (pe_op u_add (pe_ix (u_ix hu) (pv 0) pe_int (fun _ _ => rfl)) pe_int) (pg_sub (pv 0) pe_int (u_set hu))) (pss_one (ps_ret (pe_op u_mod (pe_callTy call_int1 (by rfl) T.no_int (by decide +kernel) (pa_cons (pe_op u_div (pe_ix (u_ix hu) (pv 0) pe_int (fun _ _ => rfl)) pe_int) pa_nil)) (pv 1)))))))))
theorem ok_law_rounds (T : Txt K mg a) (G_law_dice : FnOk P w K mg base (L2.CX P w) 1 a.f_law_dice a.fd_law_dice ["cell"] (sp_law_dice K a)) : FnOk P w K mg base (L2.CX P w) 2 a.f_law_rounds a.fd_law_rounds ["script", "most"] (sp_law_rounds K a) := by
  refine FunD.ok T.fn_law_rounds sc_law_rounds (fun _ _ _ _ h => h.1) (fun cdv A outer s H vs Q E hr h => ⟨t_law_rounds K a E, ?_, pure_law_rounds T h⟩)
  have hu := hr.units
  have hr_law_dice := hr.mono (show 1 ≤ 1 by decide)
  exact (pss_cons (ps_set (i := 2) sc_law_rounds.nd rfl (by first | exact Or.inl rfl | exact Or.inr rfl) (pe_slice u_sl (pv 0) po_none (po_some (pv 1)))) (pss_cons (ps_if (pt_cmpR (u_eq hu) (pv 2) (pe_lst pa_nil) (nomark _)) (pss_one (ps_set (i := 2) sc_law_rounds.nd rfl (by first | exact Or.inl rfl | exact Or.inr rfl) (pe_lst (pa_cons pe_int pa_nil)))) pss_nil) (pss_one (ps_ret (pe_lc (own := [("cell", 3)]) (g := (gName 3)) (tt := tYes) rfl sc_law_rounds.nd (pi_list (pv 2)) (blkOk_by (N := N_law_rounds) (sc := defScope s_law_rounds) (by decide +kernel)) (fun _ _ _ _ _ => (pg_name (i := 3) sc_law_rounds.nd rfl (by first | exact Or.inl rfl | exact Or.inr rfl))) (fun _ _ _ _ _ => pts_nil) (fun _ _ _ _ _ => (pe_call G_law_dice hr_law_dice rfl T.mg_law_dice T.fn_law_dice.kp T.bi_law_dice .nil passL (pa_cons (pv 3) pa_nil))))))))
theorem ok_law_closed (T : Txt K mg a) : FnOk P w K mg base (L2.CX P w) 1 a.f_law_closed a.fd_law_closed ["rows", "time"] (sp_law_closed K a) := by
  refine FunD.ok T.fn_law_closed sc_law_closed (fun _ _ _ _ h => h.1) (fun cdv A outer s H vs Q E hr h => ⟨t_law_closed K a E, ?_, pure_law_closed T h⟩)
  have hu := hr.units
  exact (pss_cons (ps_set (i := 2) sc_law_closed.nd rfl (by first | exact Or.inl rfl | exact Or.inr rfl) (pe_op u_mod (pv 1) pe_int)) (pss_one (ps_ret (pe_cmpR (u_ne hu) (pe_lc (own := [("first", 3), ("end", 4)]) (g := (gTup K 2 (gCons (gName 3) (gCons (gName 4) gNil)))) (tt := (tOr (tAnd (tTest (tOp rLt (tVar 3) (tVar 4))) (tTest (tChain rLe rLt (tVar 3) (tVar 2) (tVar 4)))) (tAnd (tTest (tOp rGe (tVar 3) (tVar 4))) (tOr (tTest (tOp rGe (tVar 2) (tVar 3))) (tTest (tOp rLt (tVar 2) (tVar 4))))))) rfl sc_law_closed.nd (pi_list (pv 0)) (blkOk_by (N := N_law_closed) (sc := defScope s_law_closed) (by decide +kernel)) (fun _ _ _ _ _ => (pg_tup rfl (pgs_cons (pg_name (i := 3) sc_law_closed.nd rfl (by first | exact Or.inl rfl | exact Or.inr rfl)) (pgs_cons (pg_name (i := 4) sc_law_closed.nd rfl (by first | exact Or.inl rfl | exact Or.inr rfl)) pgs_nil)))) (fun _ _ _ _ _ => (pts_one (PW.pt (pw_or (PW.pt (pw_and (pt_cmpR u_lt (pv 3) (pv 4) (nomark _)) (pw_and1 (pt_chain u_le u_lt (pv 3) (pv 2) (pv 4))))) (pw_or1 (PW.pt (pw_and (pt_cmpR u_ge (pv 3) (pv 4) (nomark _)) (pw_and1 (PW.pt (pw_or (pt_cmpR u_ge (pv 2) (pv 3) (nomark _)) (pw_or1 (pt_cmpR u_lt (pv 2) (pv 4) (nomark _))))))))))))) (fun _ _ _ _ _ => pe_int)) (pe_lst pa_nil) (nomark _)))))
theorem fno_law : ∀ (j : Nat) (d : LamD), F_law[j]? = some d → LamX.LamS (defScope s_law) d.sc := by
  rintro (_|_|_|_|_|_) d hj <;> cases hj <;> exact lamS_by (by decide +kernel)
theorem fbi_law : ∀ (j : Nat) (d : LamD), F_law[j]? = some d → ∀ (cl : List (Str × Addr)) (c' : Addr) (pm ctv : Value), bindArgs (PySem.W.kla_fn "<lambda>" (lamq "law") d.ps d.body d.sc cl pm (.ref c') ctv) ⟨[], []⟩ = pure [] := by
  rintro (_|_|_|_|_|_) d hj <;> cases hj <;> (intros; rfl)
theorem ok_law (T : Txt K mg a) (G_Budgets__init : FnOk P w K mg base (L2.CX P w) 1 a.f_Budgets__init a.fd_Budgets__init ["self"] (sp_Budgets__init K a)) (G_Budgets_answer : FnOk P w K mg base (L2.CX P w) 1 a.f_Budgets_answer a.fd_Budgets_answer ["self", "number", "good", "time"] (sp_Budgets_answer K a)) (G_Budgets_is_closed : FnOk P w K mg base (L2.CX P w) 1 a.f_Budgets_is_closed a.fd_Budgets_is_closed ["self", "kind", "time"] (sp_Budgets_is_closed K a)) (G_Budgets_left : FnOk P w K mg base (L2.CX P w) 1 a.f_Budgets_left a.fd_Budgets_left ["self", "app", "time"] (sp_Budgets_left K a)) (G_Budgets_may_use : FnOk P w K mg base (L2.CX P w) 2 a.f_Budgets_may_use a.fd_Budgets_may_use ["self", "app", "time"] (sp_Budgets_may_use K a)) (G_Budgets_put_app : FnOk P w K mg base (L2.CX P w) 1 a.f_Budgets_put_app a.fd_Budgets_put_app ["self", "app", "kind"] (sp_Budgets_put_app K a)) (G_Budgets_put_kind : FnOk P w K mg base (L2.CX P w) 8 a.f_Budgets_put_kind a.fd_Budgets_put_kind ["self", "kind", "minutes", "closed"] (sp_Budgets_put_kind K a)) (G_Budgets_use : FnOk P w K mg base (L2.CX P w) 3 a.f_Budgets_use a.fd_Budgets_use ["self", "app", "time"] (sp_Budgets_use K a)) (G_Budgets_wish : FnOk P w K mg base (L2.CX P w) 2 a.f_Budgets_wish a.fd_Budgets_wish ["self", "app", "minutes", "time"] (sp_Budgets_wish K a)) (G_law_closed : FnOk P w K mg base (L2.CX P w) 1 a.f_law_closed a.fd_law_closed ["rows", "time"] (sp_law_closed K a)) (G_law_roll : FnOk P w K mg base (L2.CX P w) 1 a.f_law_roll a.fd_law_roll ["dice", "many"] (sp_law_roll K a)) (G_law_rounds : FnOk P w K mg base (L2.CX P w) 2 a.f_law_rounds a.fd_law_rounds ["script", "most"] (sp_law_rounds K a)) (TB_law : TabB base mg a.cc_law a.tb_law) : FnOk P w K mg base (L2.CX P w) 11 a.f_law a.fd_law ["script"] (sp_law K a) := by
  refine FunD.okC T.fn_law sc_law (fun _ _ _ _ h => h.1) (fun cdv A outer s H vs Q E hr hcc h => ⟨t_law K a E (envOfC "law" (defScope s_law) s.heap.objs.size a.f_law cdv).cells, ?_, pure_law T _ h⟩)
  have hu := hr.units
  have hm_Budgets__init := hr.mono (show 2 ≤ 10 by decide)
  have hr_Budgets_is_closed := hr.mono (show 1 ≤ 10 by decide)
  have hr_Budgets_left := hr.mono (show 1 ≤ 10 by decide)
  have hr_Budgets_may_use := hr.mono (show 2 ≤ 10 by decide)
  have hr_Budgets_put_app := hr.mono (show 1 ≤ 10 by decide)
  have hr_Budgets_put_kind := hr.mono (show 8 ≤ 10 by decide)
  have hr_Budgets_use := hr.mono (show 3 ≤ 10 by decide)
  have hr_law_closed := hr.mono (show 1 ≤ 10 by decide)
  have hr_law_roll := hr.mono (show 1 ≤ 10 by decide)
  have hr_law_rounds := hr.mono (show 2 ≤ 10 by decide)
  obtain ⟨ds_Budgets_put_kind_3, vd_Budgets_put_kind_3, bd_Budgets_put_kind_3⟩ := T.bi_Budgets_put_kind_3
  have hcode : cdv = .ref a.cc_law := hcc.symm.trans T.cd_law
  subst hcode
  have hr_lam := hr.mono (show 8 + 2 ≤ 10 by decide)
  obtain ⟨oc1, od1, dV1, kV1, doc1, pm1, an1, cd1, ct1, osl1, efd, lkT, hcdT, _, _⟩ := T.fn_law_told.ex
  have biT := T.bi_law_told
  rw [efd] at lkT biT
  have hfam : ∀ (j : Nat) (d : LamD), F_law[j]? = some d → ∀ (A1 : Around) (outer1 : List Env) (s1 : Shared) (H1 : Hp) (E1 : XK) (f c' : Addr), Room 8 (A1.deeper (LamX.lamEnv (cxOf (L2.CX P w) P w K mg base N_law "law" (defScope s_law) a.f_law (.ref a.cc_law) A outer s H E) d.sc s1.heap.objs.size f c')) → PE (LamX.lamCx (cxOf (L2.CX P w) P w K mg base N_law "law" (defScope s_law) a.f_law (.ref a.cc_law) A outer s H E) A1 outer1 s1 H1 E1 d.sc f c') d.body (TF_law K a j E1) := by
    rintro (_|_|_|_|_|_) d hj A1 outer1 s1 H1 E1 f c' hrl
    · cases hj; exact (pe_meth (pv 24) T.cl_Budgets T.me_Budgets_wish G_Budgets_wish (hrl.mono (by decide)) T.bi_Budgets_wish .nil passLam (pa_cons pe_str (pa_cons pe_int (pa_cons pe_int pa_nil))))
    · cases hj; exact (pe_meth (pv 24) T.cl_Budgets T.me_Budgets_answer G_Budgets_answer (hrl.mono (by decide)) T.bi_Budgets_answer .nil passLam (pa_cons pe_int (pa_cons pe_bl (pa_cons pe_int pa_nil))))
    · cases hj; exact (pe_meth (pv 24) T.cl_Budgets T.me_Budgets_put_kind G_Budgets_put_kind (hrl.mono (by decide)) T.bi_Budgets_put_kind .nil passLam (pa_cons pe_str (pa_cons pe_int (pa_cons (pe_tup (pa_cons (pe_tup (pa_cons pe_int (pa_cons pe_int pa_nil))) pa_nil)) pa_nil))))
    · cases hj; exact (pe_meth (pv 24) T.cl_Budgets T.me_Budgets_put_kind G_Budgets_put_kind (hrl.mono (by decide)) bd_Budgets_put_kind_3 vd_Budgets_put_kind_3 passLam (pa_cons pe_str (pa_cons pe_int pa_nil)))
    · cases hj; exact (pe_meth (pv 24) T.cl_Budgets T.me_Budgets_put_kind G_Budgets_put_kind (hrl.mono (by decide)) bd_Budgets_put_kind_3 vd_Budgets_put_kind_3 passLam (pa_cons pe_str (pa_cons (pe_un un_neg pe_int) pa_nil)))
    · cases hj
  exact (pss_cons (ps_for (passes_of rfl) rfl (pi_list (pe_call G_law_rounds hr_law_rounds rfl T.mg_law_rounds T.fn_law_rounds.kp T.bi_law_rounds .nil passX (pa_cons (pv 0) (pa_cons pe_int pa_nil)))) (pg_name (i := 1) sc_law.nd rfl (by first | exact Or.inl rfl | exact Or.inr rfl)) (pss_cons (ps_asg (pe_tup (pa_cons (pe_make0 T.mk_Budgets G_Budgets__init hm_Budgets__init rfl T.mgc_Budgets T.bi_Budgets__init .nil passX) (pa_cons pe_dnewK (pa_cons pe_dnewK (pa_cons pe_dnewT (pa_cons pe_dnewT (pa_cons (pe_lst pa_nil) (pa_cons (pe_call G_law_roll hr_law_roll rfl T.mg_law_roll T.fn_law_roll.kp T.bi_law_roll .nil passX (pa_cons (pv 1) (pa_cons pe_int pa_nil))) pa_nil)))))))) (pg_tup rfl (pgs_cons (pg_name (i := 2) sc_law.nd rfl (by first | exact Or.inl rfl | exact Or.inr rfl)) (pgs_cons (pg_name (i := 3) sc_law.nd rfl (by first | exact Or.inl rfl | exact Or.inr rfl)) (pgs_cons (pg_name (i := 4) sc_law.nd rfl (by first | exact Or.inl rfl | exact Or.inr rfl)) (pgs_cons (pg_name (i := 5) sc_law.nd rfl (by first | exact Or.inl rfl | exact Or.inr rfl)) (pgs_cons (pg_name (i := 6) sc_law.nd rfl (by first | exact Or.inl rfl | exact Or.inr rfl)) (pgs_cons (pg_name (i := 7) sc_law.nd rfl (by first | exact Or.inl rfl | exact Or.inr rfl)) (pgs_cons (pg_name (i := 8) sc_law.nd rfl (by first | exact Or.inl rfl | exact Or.inr rfl)) pgs_nil))))))))) (pss_cons (ps_set (i := 9) sc_law.nd rfl (by first | exact Or.inl rfl | exact Or.inr rfl) pe_dnewK) (pss_cons (ps_for (passes_of rfl) rfl (pi_list (pe_lst (pa_cons pe_str (pa_cons pe_str pa_nil)))) (pg_name (i := 10) sc_law.nd rfl (by first | exact Or.inl rfl | exact Or.inr rfl)) (pss_one (ps_if (pt_cmpR u_gt (pe_call G_law_roll hr_law_roll rfl T.mg_law_roll T.fn_law_roll.kp T.bi_law_roll .nil passX (pa_cons (pv 1) (pa_cons pe_int pa_nil))) pe_int (nomark _)) (pss_cons (ps_asg (pe_call G_law_roll hr_law_roll rfl T.mg_law_roll T.fn_law_roll.kp T.bi_law_roll .nil passX (pa_cons (pv 1) (pa_cons pe_int pa_nil))) (pg_sub (pv 9) (pv 10) (u_set hu))) (pss_cons (ps_asg (pe_lc (own := [("k", 11)]) (g := (gName 11)) (tt := tYes) rfl sc_law.nd (pi_range1 rfl T.no_range (pa_cons (pe_call G_law_roll hr_law_roll rfl T.mg_law_roll T.fn_law_roll.kp T.bi_law_roll .nil passX (pa_cons (pv 1) (pa_cons pe_int pa_nil))) pa_nil)) (blkOk_by (N := N_law) (sc := defScope s_law) (by decide +kernel)) (fun _ _ _ _ _ => (pg_name (i := 11) sc_law.nd rfl (by first | exact Or.inl rfl | exact Or.inr rfl))) (fun _ _ _ _ _ => pts_nil) (fun _ _ _ _ _ => (pe_tup (pa_cons (pe_call G_law_roll hr_law_roll rfl T.mg_law_roll T.fn_law_roll.kp T.bi_law_roll .nil passL (pa_cons (pv 1) (pa_cons pe_int pa_nil))) (pa_cons (pe_call G_law_roll hr_law_roll rfl T.mg_law_roll T.fn_law_roll.kp T.bi_law_roll .nil passL (pa_cons (pv 1) (pa_cons pe_int pa_nil))) pa_nil))))) (pg_sub (pv 4) (pv 10) (u_set hu))) (pss_one (ps_expr (pe_meth (pv 2) T.cl_Budgets T.me_Budgets_put_kind G_Budgets_put_kind hr_Budgets_put_kind T.bi_Budgets_put_kind .nil passX (pa_cons (pv 10) (pa_cons (pe_ix (u_ix hu) (pv 9) (pv 10) (fun _ _ => rfl)) (pa_cons (pe_ix (u_ix hu) (pv 4) (pv 10) (fun _ _ => rfl)) pa_nil)))))))) pss_nil))) (pss_cons (ps_for (passes_of rfl) rfl (pi_range1 rfl T.no_range (pa_cons pe_int pa_nil)) (pg_name (i := 11) sc_law.nd rfl (by first | exact Or.inl rfl | exact Or.inr rfl)) (pss_one (ps_if (pt_cmpR u_gt (pe_call G_law_roll hr_law_roll rfl T.mg_law_roll T.fn_law_roll.kp T.bi_law_roll .nil passX (pa_cons (pv 1) (pa_cons pe_int pa_nil))) pe_int (nomark _)) (pss_cons (ps_asg (pe_ix (u_ix hu) (pe_lst (pa_cons pe_str (pa_cons pe_str (pa_cons pe_str pa_nil)))) (pe_call G_law_roll hr_law_roll rfl T.mg_law_roll T.fn_law_roll.kp T.bi_law_roll .nil passX (pa_cons (pv 1) (pa_cons pe_int pa_nil))) (fun _ _ => rfl)) (pg_sub (pv 3) (pe_op u_add pe_str (pe_callTy call_str_int (by rfl) T.no_str (by decide +kernel) (pa_cons (pv 11) pa_nil))) (u_set hu))) (pss_one (ps_expr (pe_meth (pv 2) T.cl_Budgets T.me_Budgets_put_app G_Budgets_put_app hr_Budgets_put_app T.bi_Budgets_put_app .nil passX (pa_cons (pe_op u_add pe_str (pe_callTy call_str_int (by rfl) T.no_str (by decide +kernel) (pa_cons (pv 11) pa_nil))) (pa_cons (pe_ix (u_ix hu) (pv 3) (pe_op u_add pe_str (pe_callTy call_str_int (by rfl) T.no_str (by decide +kernel) (pa_cons (pv 11) pa_nil))) (fun _ _ => rfl)) pa_nil)))))) pss_nil))) (pss_one (ps_for (passes_of rfl) rfl (pi_range1 rfl T.no_range (pa_cons (pe_call G_law_roll hr_law_roll rfl T.mg_law_roll T.fn_law_roll.kp T.bi_law_roll .nil passX (pa_cons (pv 1) (pa_cons pe_int pa_nil))) pa_nil)) (pg_name (i := 12) sc_law.nd rfl (by first | exact Or.inl rfl | exact Or.inr rfl)) (pss_cons (ps_set (i := 8) sc_law.nd rfl (by first | exact Or.inl rfl | exact Or.inr rfl) (pe_op u_add (pv 8) (pe_ix (u_ix hu) (pe_lst (pa_cons pe_int (pa_cons pe_int (pa_cons (pe_call G_law_roll hr_law_roll rfl T.mg_law_roll T.fn_law_roll.kp T.bi_law_roll .nil passX (pa_cons (pv 1) (pa_cons pe_int pa_nil))) (pa_cons (pe_call G_law_roll hr_law_roll rfl T.mg_law_roll T.fn_law_roll.kp T.bi_law_roll .nil passX (pa_cons (pv 1) (pa_cons pe_int pa_nil))) pa_nil))))) (pe_call G_law_roll hr_law_roll rfl T.mg_law_roll T.fn_law_roll.kp T.bi_law_roll .nil passX (pa_cons (pv 1) (pa_cons pe_int pa_nil))) (fun _ _ => rfl)))) (pss_cons (ps_asg (pe_tup (pa_cons (pe_op u_add pe_str (pe_callTy call_str_int (by rfl) T.no_str (by decide +kernel) (pa_cons (pe_call G_law_roll hr_law_roll rfl T.mg_law_roll T.fn_law_roll.kp T.bi_law_roll .nil passX (pa_cons (pv 1) (pa_cons pe_int pa_nil))) pa_nil))) (pa_cons (pe_call G_law_roll hr_law_roll rfl T.mg_law_roll T.fn_law_roll.kp T.bi_law_roll .nil passX (pa_cons (pv 1) (pa_cons pe_int pa_nil))) (pa_cons (pe_op u_div (pv 8) pe_int) pa_nil)))) (pg_tup rfl (pgs_cons (pg_name (i := 13) sc_law.nd rfl (by first | exact Or.inl rfl | exact Or.inr rfl)) (pgs_cons (pg_name (i := 14) sc_law.nd rfl (by first | exact Or.inl rfl | exact Or.inr rfl)) (pgs_cons (pg_name (i := 15) sc_law.nd rfl (by first | exact Or.inl rfl | exact Or.inr rfl)) pgs_nil))))) (pss_cons (ps_set (i := 10) sc_law.nd rfl (by first | exact Or.inl rfl | exact Or.inr rfl) (pe_get1 hu (pv 3) (pv 13) ⟨rfl, rfl, rfl, rfl⟩)) (pss_cons (ps_set (i := 16) sc_law.nd rfl (by first | exact Or.inl rfl | exact Or.inr rfl) (pe_ifExp (pt_cmpR (u_notinV hu) (pv 10) (pv 9) (by rfl)) pe_non (pe_callB (call_max2 rfl) (by rfl) T.no_max (by decide +kernel) (pa_cons pe_int (pa_cons (pe_op u_sub (pe_op u_add (pe_ix (u_ix hu) (pv 9) (pv 10) (fun _ _ => rfl)) (pe_get2 hu (pv 6) (pe_tup (pa_cons (pv 10) (pa_cons (pv 15) pa_nil))) pe_int ⟨rfl, rfl, rfl, rfl⟩)) (pe_get2 hu (pv 5) (pe_tup (pa_cons (pv 10) (pa_cons (pv 15) pa_nil))) pe_int ⟨rfl, rfl, rfl, rfl⟩)) pa_nil))))) (pss_cons (ps_set (i := 17) sc_law.nd rfl (by first | exact Or.inl rfl | exact Or.inr rfl) (pe_and (pe_not (pe_call G_law_closed hr_law_closed rfl T.mg_law_closed T.fn_law_closed.kp T.bi_law_closed .nil passX (pa_cons (pe_get2 hu (pv 4) (pv 10) (pe_lst pa_nil) ⟨rfl, rfl, rfl, rfl⟩) (pa_cons (pv 8) pa_nil)))) (pe_one (pe_or (pe_cmpR u_isN (pv 16) pe_non (nomark _)) (pe_one (pe_cmpR u_gt (pv 16) pe_int (nomark _))))))) (pss_cons (ps_if (PW.pt (pw_or (pt_cmpR (u_ne hu) (pe_meth (pv 2) T.cl_Budgets T.me_Budgets_left G_Budgets_left hr_Budgets_left T.bi_Budgets_left .nil passX (pa_cons (pv 13) (pa_cons (pv 8) pa_nil))) (pv 16) (nomark _)) (pw_or (pt_cmpR (u_ne hu) (pe_meth (pv 2) T.cl_Budgets T.me_Budgets_may_use G_Budgets_may_use hr_Budgets_may_use T.bi_Budgets_may_use .nil passX (pa_cons (pv 13) (pa_cons (pv 8) pa_nil))) (pv 17) (nomark _)) (pw_or1 (pt_cmpR (u_ne hu) (pe_meth (pv 2) T.cl_Budgets T.me_Budgets_is_closed G_Budgets_is_closed hr_Budgets_is_closed T.bi_Budgets_is_closed .nil passX (pa_cons (pv 10) (pa_cons (pv 8) pa_nil))) (pe_call G_law_closed hr_law_closed rfl T.mg_law_closed T.fn_law_closed.kp T.bi_law_closed .nil passX (pa_cons (pe_get2 hu (pv 4) (pv 10) (pe_lst pa_nil) ⟨rfl, rfl, rfl, rfl⟩) (pa_cons (pv 8) pa_nil))) (nomark _)))))) (pss_one (ps_ret pe_bl)) pss_nil) (pss_cons (ps_if (pt_cmpR u_lt (pv 14) pe_int (nomark _)) (pss_cons (ps_if (pt_cmpR (u_ne hu) (pe_meth (pv 2) T.cl_Budgets T.me_Budgets_use G_Budgets_use hr_Budgets_use T.bi_Budgets_use .nil passX (pa_cons (pv 13) (pa_cons (pv 8) pa_nil))) (pv 17) (nomark _)) (pss_one (ps_ret pe_bl)) pss_nil) (pss_one (ps_if (PW.pt (pw_and (pt_tru (pv 17)) (pw_and1 (pt_cmpR u_notN (pv 10) pe_non (nomark _))))) (pss_one (ps_asg (pe_op u_add (pe_get2 hu (pv 5) (pe_tup (pa_cons (pv 10) (pa_cons (pv 15) pa_nil))) pe_int ⟨rfl, rfl, rfl, rfl⟩) pe_int) (pg_sub (pv 5) (pe_tup (pa_cons (pv 10) (pa_cons (pv 15) pa_nil))) (u_set hu)))) pss_nil))) (pss_one (ps_if (pt_cmpR u_lt (pv 14) pe_int (nomark _)) (pss_cons (ps_set (i := 18) sc_law.nd rfl (by first | exact Or.inl rfl | exact Or.inr rfl) (pe_call G_law_roll hr_law_roll rfl T.mg_law_roll T.fn_law_roll.kp T.bi_law_roll .nil passX (pa_cons (pv 1) (pa_cons pe_int pa_nil)))) (pss_cons (ps_set (i := 19) sc_law.nd rfl (by first | exact Or.inl rfl | exact Or.inr rfl) (pe_and (pe_cmpR u_notN (pv 16) pe_non (nomark _)) (pe_one (pe_chain u_le u_le pe_int (pv 18) pe_int)))) (pss_cons (ps_if (pt_cmpR (u_ne hu) (pe_lamP (t := fun E => (tMeth a.c_Budgets "wish" (sp_Budgets_wish K a) [] E (tVar 2) (tCons (tVar 13) (tCons (tVar 18) (tCons (tVar 8) tNil))))) rfl T.mg_law_told T.fn_law_told.kp lkT hcdT biT sc_law_told rfl (by first | exact Or.inl rfl | exact Or.inr (Or.inl rfl)) (told_gives rfl T.mgc_RightFault (by decide) (fun _ => rfl)) TB_law rfl hr_lam (lamS_by (sc := defScope s_law) (by decide +kernel)) rfl (by intros; rfl) (fun A outer s H E f c' hrl => (pe_meth (pv 2) T.cl_Budgets T.me_Budgets_wish G_Budgets_wish (hrl.mono (by decide)) T.bi_Budgets_wish .nil passLam (pa_cons (pv 13) (pa_cons (pv 18) (pa_cons (pv 8) pa_nil)))))) (pe_ifExp (pt_tru (pv 19)) (pe_callB u_len (by rfl) T.no_len (by decide +kernel) (pa_cons (pv 7) pa_nil)) pe_str) (nomark _)) (pss_one (ps_ret pe_bl)) pss_nil) (pss_one (ps_set (i := 7) sc_law.nd rfl (by first | exact Or.inl rfl | exact Or.inr rfl) (pe_op u_add (pv 7) (pe_op u_mul (pe_lst (pa_cons (pe_lst (pa_cons (pv 10) (pa_cons (pv 18) (pa_cons (pv 15) (pa_cons pe_non pa_nil))))) pa_nil)) (pe_callTy call_int1 (by rfl) T.no_int (by decide +kernel) (pa_cons (pv 19) pa_nil))))))))) (pss_one (ps_if (pt_cmpR (u_ne hu) (pv 7) (pe_lst pa_nil) (nomark _)) (pss_cons (ps_asg (pe_tup (pa_cons (pe_call G_law_roll hr_law_roll rfl T.mg_law_roll T.fn_law_roll.kp T.bi_law_roll .nil passX (pa_cons (pv 1) (pa_cons (pe_op u_add (pe_callB u_len (by rfl) T.no_len (by decide +kernel) (pa_cons (pv 7) pa_nil)) pe_int) pa_nil))) (pa_cons (pe_cmpR (u_eq hu) (pe_call G_law_roll hr_law_roll rfl T.mg_law_roll T.fn_law_roll.kp T.bi_law_roll .nil passX (pa_cons (pv 1) (pa_cons pe_int pa_nil))) pe_int (nomark _)) pa_nil))) (pg_tup rfl (pgs_cons (pg_name (i := 20) sc_law.nd rfl (by first | exact Or.inl rfl | exact Or.inr rfl)) (pgs_cons (pg_name (i := 21) sc_law.nd rfl (by first | exact Or.inl rfl | exact Or.inr rfl)) pgs_nil)))) (pss_cons (ps_set (i := 19) sc_law.nd rfl (by first | exact Or.inl rfl | exact Or.inr rfl) (pe_and (pe_cmpR u_lt (pv 20) (pe_callB u_len (by rfl) T.no_len (by decide +kernel) (pa_cons (pv 7) pa_nil)) (nomark _)) (pe_and (pe_cmpR u_isN (pe_ix (u_ix hu) (pe_ix (u_ix hu) (pv 7) (pv 20) (fun _ _ => rfl)) pe_int (fun _ _ => rfl)) pe_non (nomark _)) (pe_one (pe_cmpR (u_eq hu) (pe_ix (u_ix hu) (pe_ix (u_ix hu) (pv 7) (pv 20) (fun _ _ => rfl)) pe_int (fun _ _ => rfl)) (pv 15) (nomark _)))))) (pss_cons (ps_if (pt_cmpR (u_eq hu) (pe_cmpR (u_eq hu) (pe_lamP (t := fun E => (tMeth a.c_Budgets "answer" (sp_Budgets_answer K a) [] E (tVar 2) (tCons (tVar 20) (tCons (tVar 21) (tCons (tVar 8) tNil))))) rfl T.mg_law_told T.fn_law_told.kp lkT hcdT biT sc_law_told rfl (by first | exact Or.inl rfl | exact Or.inr (Or.inl rfl)) (told_gives rfl T.mgc_RightFault (by decide) (fun _ => rfl)) TB_law rfl hr_lam (lamS_by (sc := defScope s_law) (by decide +kernel)) rfl (by intros; rfl) (fun A outer s H E f c' hrl => (pe_meth (pv 2) T.cl_Budgets T.me_Budgets_answer G_Budgets_answer (hrl.mono (by decide)) T.bi_Budgets_answer .nil passLam (pa_cons (pv 20) (pa_cons (pv 21) (pa_cons (pv 8) pa_nil)))))) pe_str (nomark _)) (pv 19) (nomark _)) (pss_one (ps_ret pe_bl)) pss_nil) (pss_one (ps_if (pt_tru (pv 19)) (pss_cons (ps_asg (pe_op u_add (pe_slice u_sl (pe_ix (u_ix hu) (pv 7) (pv 20) (fun _ _ => rfl)) po_none (po_some pe_int)) (pe_lst (pa_cons (pv 21) pa_nil))) (pg_sub (pv 7) (pv 20) (u_set hu))) (pss_one (ps_asg (pe_op u_add (pe_get2 hu (pv 6) (pe_tup (pa_cons (pe_ix (u_ix hu) (pe_ix (u_ix hu) (pv 7) (pv 20) (fun _ _ => rfl)) pe_int (fun _ _ => rfl)) (pa_cons (pv 15) pa_nil))) pe_int ⟨rfl, rfl, rfl, rfl⟩) (pe_op u_mul (pe_ix (u_ix hu) (pe_ix (u_ix hu) (pv 7) (pv 20) (fun _ _ => rfl)) pe_int (fun _ _ => rfl)) (pe_callTy call_int1 (by rfl) T.no_int (by decide +kernel) (pa_cons (pv 21) pa_nil)))) (pg_sub (pv 6) (pe_tup (pa_cons (pe_ix (u_ix hu) (pe_ix (u_ix hu) (pv 7) (pv 20) (fun _ _ => rfl)) pe_int (fun _ _ => rfl)) (pa_cons (pv 15) pa_nil))) (u_set hu))))) pss_nil))))) pss_nil))))) (pss_one (ps_if (PW.pt (pw_or (pt_cmpR (u_ne hu) (pe_lock (pe_lc (own := [("key", 22)]) (g := (gName 22)) (tt := (tAnd (tTest (tOp (rInV K) (tOp (rIxU K) (tVar 22) (tC (.int 0))) (tVar 9))) (tTest (tOp rGt (tOp (rIxU K) (tVar 5) (tVar 22)) (tOp (rAddU K) (tOp (rIxU K) (tVar 9) (tOp (rIxU K) (tVar 22) (tC (.int 0)))) (tGet2 (tVar 6) (tVar 22) (tC (.int 0)))))))) rfl sc_law.nd (pi_keys (pv 5)) (blkOk_by (N := N_law) (sc := defScope s_law) (by decide +kernel)) (fun _ _ _ _ _ => (pg_name (i := 22) sc_law.nd rfl (by first | exact Or.inl rfl | exact Or.inr rfl))) (fun _ _ _ _ _ => (pts_one (PW.pt (pw_and (pt_cmpR (u_inV hu) (pe_ix (u_ix hu) (pv 22) pe_int (fun _ _ => rfl)) (pv 9) (by rfl)) (pw_and1 (pt_cmpR u_gt (pe_ix (u_ix hu) (pv 5) (pv 22) (fun _ _ => rfl)) (pe_op u_add (pe_ix (u_ix hu) (pv 9) (pe_ix (u_ix hu) (pv 22) pe_int (fun _ _ => rfl)) (fun _ _ => rfl)) (pe_get2 hu (pv 6) (pv 22) pe_int ⟨rfl, rfl, rfl, rfl⟩)) (nomark _))))))) (fun _ _ _ _ _ => (pv 22)))) (pe_lst pa_nil) (nomark _)) (pw_or1 (pt_cmpR (u_ne hu) (pe_lc (own := [("row", 23)]) (g := (gName 23)) (tt := tYes) rfl sc_law.nd (pi_list (pe_fld (pv 2) rfl)) (blkOk_by (N := N_law) (sc := defScope s_law) (by decide +kernel)) (fun _ _ _ _ _ => (pg_name (i := 23) sc_law.nd rfl (by first | exact Or.inl rfl | exact Or.inr rfl))) (fun _ _ _ _ _ => pts_nil) (fun _ _ _ _ _ => (pe_callTy call_list_of (by rfl) T.no_list (by decide +kernel) (pa_cons (pv 23) pa_nil)))) (pv 7) (nomark _))))) (pss_one (ps_ret pe_bl)) pss_nil)))))))))))))))) (pss_cons (ps_set (i := 24) sc_law.nd rfl (by first | exact Or.inl rfl | exact Or.inr rfl) (pe_make0 T.mk_Budgets G_Budgets__init hm_Budgets__init rfl T.mgc_Budgets T.bi_Budgets__init .nil passX)) (pss_cons (ps_expr (pe_meth (pv 24) T.cl_Budgets T.me_Budgets_put_kind G_Budgets_put_kind hr_Budgets_put_kind T.bi_Budgets_put_kind .nil passX (pa_cons pe_str (pa_cons pe_int (pa_cons (pe_tup (pa_cons (pe_tup (pa_cons pe_int (pa_cons pe_int pa_nil))) pa_nil)) pa_nil))))) (pss_cons (ps_expr (pe_meth (pv 24) T.cl_Budgets T.me_Budgets_put_app G_Budgets_put_app hr_Budgets_put_app T.bi_Budgets_put_app .nil passX (pa_cons pe_str (pa_cons pe_str pa_nil)))) (pss_cons (ps_set (i := 25) sc_law.nd rfl (by first | exact Or.inl rfl | exact Or.inr rfl) (pe_lst (pa_cons (pe_lamC (d := D_law_4) TB_law rfl rfl (lamS_by (sc := defScope s_law) (by decide +kernel))) (pa_cons (pe_lamC (d := D_law_3) TB_law rfl rfl (lamS_by (sc := defScope s_law) (by decide +kernel))) (pa_cons (pe_lamC (d := D_law_2) TB_law rfl rfl (lamS_by (sc := defScope s_law) (by decide +kernel))) (pa_cons (pe_lamC (d := D_law_1) TB_law rfl rfl (lamS_by (sc := defScope s_law) (by decide +kernel))) (pa_cons (pe_lamC (d := D_law_0) TB_law rfl rfl (lamS_by (sc := defScope s_law) (by decide +kernel))) pa_nil))))))) (pss_one (ps_ret (pe_and (pe_cmpR (u_eq hu) (pe_lcS (own := [("f", 26)]) (g := (gName 26)) (ttS := fun σX => (tTest (tOp (rNeU K) (tToldC K a.c_RightFault "RightFault" (lamq "law") (envOfC "law" (defScope s_law) s.heap.objs.size a.f_law (.ref a.cc_law)).cells 26 F_law (TF_law K a) σX) (tC (.str "RightFault"))))) rfl sc_law.nd (pi_list (pv 25)) (blkOk_by (N := N_law) (sc := defScope s_law) (by decide +kernel)) (fun _ _ _ _ _ => (pg_name (i := 26) sc_law.nd rfl (by first | exact Or.inl rfl | exact Or.inr rfl))) (fun _ _ _ _ _ _ σX IX fX => (pts_one (pt_cmpR (u_ne hu) (pe_toldC (i := 26) (fam := F_law) (t := TF_law K a) IX fX rfl T.mg_law_told T.fn_law_told.kp lkT hcdT biT sc_law_told rfl (by first | exact Or.inl rfl | exact Or.inr (Or.inl rfl)) (told_gives rfl T.mgc_RightFault (by decide) (fun _ => rfl)) rfl (by first | exact Or.inl rfl | exact Or.inr (Or.inl rfl) | exact Or.inr (Or.inr rfl)) hr_lam fno_law fbi_law hfam) pe_str (nomark _)))) (fun _ _ _ _ _ => pe_int)) (pe_lst pa_nil) (nomark _)) (pe_and (pe_cmpR (u_eq hu) (pe_lc (own := [("time", 8)]) (g := (gName 8)) (tt := tYes) rfl sc_law.nd (pi_list (pe_lst (pa_cons pe_int (pa_cons pe_int (pa_cons pe_int (pa_cons pe_int pa_nil)))))) (blkOk_by (N := N_law) (sc := defScope s_law) (by decide +kernel)) (fun _ _ _ _ _ => (pg_name (i := 8) sc_law.nd rfl (by first | exact Or.inl rfl | exact Or.inr rfl))) (fun _ _ _ _ _ => pts_nil) (fun _ _ _ _ _ => (pe_meth (pv 24) T.cl_Budgets T.me_Budgets_may_use G_Budgets_may_use hr_Budgets_may_use T.bi_Budgets_may_use .nil passL (pa_cons pe_str (pa_cons (pv 8) pa_nil))))) (pe_lst (pa_cons pe_bl (pa_cons pe_bl (pa_cons pe_bl (pa_cons pe_bl pa_nil))))) (nomark _)) (pe_one (pe_meth (pv 24) T.cl_Budgets T.me_Budgets_use G_Budgets_use hr_Budgets_use T.bi_Budgets_use .nil passX (pa_cons pe_str (pa_cons pe_int pa_nil)))))))))))))
end
end Wk
namespace Wk
open PySem PySem.Spec PyProof.Rows L2 Ph
open LamX (TabB)
section
variable {P : Program} {w : World} {K : PySem.W.Frag} {mg : Str → Option Value} {base : Heap} {a : Adr}
theorem ok_all (T : Txt K mg a) (TB_Budgets_put_kind : TabB base mg a.cc_Budgets_put_kind a.tb_Budgets_put_kind) (TB_law : TabB base mg a.cc_law a.tb_law) : FnOk P w K mg base (L2.CX P w) 11 a.f_law a.fd_law ["script"] (sp_law K a) := by
  have G_Budgets__init : FnOk P w K mg base (L2.CX P w) 1 a.f_Budgets__init a.fd_Budgets__init ["self"] (sp_Budgets__init K a) := ok_Budgets__init T 
  have G_Budgets_answer : FnOk P w K mg base (L2.CX P w) 1 a.f_Budgets_answer a.fd_Budgets_answer ["self", "number", "good", "time"] (sp_Budgets_answer K a) := ok_Budgets_answer T 
  have G_Budgets_is_closed : FnOk P w K mg base (L2.CX P w) 1 a.f_Budgets_is_closed a.fd_Budgets_is_closed ["self", "kind", "time"] (sp_Budgets_is_closed K a) := ok_Budgets_is_closed T 
  have G_Budgets_left : FnOk P w K mg base (L2.CX P w) 1 a.f_Budgets_left a.fd_Budgets_left ["self", "app", "time"] (sp_Budgets_left K a) := ok_Budgets_left T 
  have G_Budgets_may_use : FnOk P w K mg base (L2.CX P w) 2 a.f_Budgets_may_use a.fd_Budgets_may_use ["self", "app", "time"] (sp_Budgets_may_use K a) := ok_Budgets_may_use T G_Budgets_is_closed G_Budgets_left
  have G_Budgets_put_app : FnOk P w K mg base (L2.CX P w) 1 a.f_Budgets_put_app a.fd_Budgets_put_app ["self", "app", "kind"] (sp_Budgets_put_app K a) := ok_Budgets_put_app T 
  have G_Budgets_put_kind : FnOk P w K mg base (L2.CX P w) 8 a.f_Budgets_put_kind a.fd_Budgets_put_kind ["self", "kind", "minutes", "closed"] (sp_Budgets_put_kind K a) := ok_Budgets_put_kind T TB_Budgets_put_kind
  have G_Budgets_use : FnOk P w K mg base (L2.CX P w) 3 a.f_Budgets_use a.fd_Budgets_use ["self", "app", "time"] (sp_Budgets_use K a) := ok_Budgets_use T G_Budgets_may_use
  have G_Budgets_wish : FnOk P w K mg base (L2.CX P w) 2 a.f_Budgets_wish a.fd_Budgets_wish ["self", "app", "minutes", "time"] (sp_Budgets_wish K a) := ok_Budgets_wish T G_Budgets_left
  have G_law_closed : FnOk P w K mg base (L2.CX P w) 1 a.f_law_closed a.fd_law_closed ["rows", "time"] (sp_law_closed K a) := ok_law_closed T 
  have G_law_roll : FnOk P w K mg base (L2.CX P w) 1 a.f_law_roll a.fd_law_roll ["dice", "many"] (sp_law_roll K a) := ok_law_roll T 
  have G_law_dice : FnOk P w K mg base (L2.CX P w) 1 a.f_law_dice a.fd_law_dice ["cell"] (sp_law_dice K a) := ok_law_dice T 
  have G_law_rounds : FnOk P w K mg base (L2.CX P w) 2 a.f_law_rounds a.fd_law_rounds ["script", "most"] (sp_law_rounds K a) := ok_law_rounds T G_law_dice
  exact ok_law T G_Budgets__init G_Budgets_answer G_Budgets_is_closed G_Budgets_left G_Budgets_may_use G_Budgets_put_app G_Budgets_put_kind G_Budgets_use G_Budgets_wish G_law_closed G_law_roll G_law_rounds TB_law
theorem cd_of {x qual : Str} {params : Arguments} {body : List Stmt} {scope : Scope} {dvs : List V} {kws : List (Str × V)} {p : Str × Option Str} {fd : FuncData} (F : FunD K x qual params body scope dvs kws (He.fAd K p) fd) : fd.code = .ref (He.cT K p).1 := by
  obtain ⟨oc, od, dV, kV, doc, pm, an, cdv, ct, osl, rfl, lk, hcd, _, _⟩ := F.ex
  obtain ⟨c, rfl⟩ := He.codeIn_ref hcd
  show Value.ref c = .ref (He.codeOf K p)
  rw [He.codeOf_eq lk rfl]
theorem bnd_full {fd : FuncData} {ps : List Str} {dvs : List V} (h : ∃ ds, Vals (dvs.drop dvs.length) ds ∧ Binds K fd ps ds) : Binds K fd ps [] := by
  obtain ⟨ds, v, b⟩ := h
  rw [List.drop_length] at v
  cases v
  exact b
end
def faD_0 : List He.Fa := [.cls "Budgets", .noat "Budgets" "kinds", .noat "Budgets" "minutes", .noat "Budgets" "closed", .noat "Budgets" "spent", .noat "Budgets" "extra", .noat "Budgets" "wishes", .glo "Budgets", .mkr "Budgets", .meth "Budgets" "put_app", .meth "Budgets" "put_kind", .meth "Budgets" "is_closed", .meth "Budgets" "left", .meth "Budgets" "may_use", .meth "Budgets" "use", .meth "Budgets" "wish", .meth "Budgets" "answer", .glo "_law_dice", .glo "_law_roll", .glo "_law_rounds", .glo "_law_told", .glo "_law_closed", .glo "law", .free "abs", .free "any", .free "int", .free "len", .free "list", .free "max", .free "range"]
def faD_1 : List He.Fa := [.free "str", .free "tuple", .int "MINUTES_A_DAY" 1440, .glo "RightFault", .exc "RightFault", .exm "RightFault" "RightFault" true]
def faD : List He.Fa := faD_0 ++ faD_1
def dD_Budgets__init : He.DefD := ⟨("Budgets", some "__init__"), "__init__", "Budgets.__init__", defArgs s_Budgets__init, defBody s_Budgets__init, defScope s_Budgets__init, [], []⟩
def dD_Budgets_put_app : He.DefD := ⟨("Budgets", some "put_app"), "put_app", "Budgets.put_app", defArgs s_Budgets_put_app, defBody s_Budgets_put_app, defScope s_Budgets_put_app, [], []⟩
def dD_Budgets_put_kind : He.DefD := ⟨("Budgets", some "put_kind"), "put_kind", "Budgets.put_kind", defArgs s_Budgets_put_kind, defBody s_Budgets_put_kind, defScope s_Budgets_put_kind, [.adr (He.dflAt ("Budgets", some "put_kind") 0)], []⟩
def dD_Budgets_is_closed : He.DefD := ⟨("Budgets", some "is_closed"), "is_closed", "Budgets.is_closed", defArgs s_Budgets_is_closed, defBody s_Budgets_is_closed, defScope s_Budgets_is_closed, [], []⟩
def dD_Budgets_left : He.DefD := ⟨("Budgets", some "left"), "left", "Budgets.left", defArgs s_Budgets_left, defBody s_Budgets_left, defScope s_Budgets_left, [], []⟩
def dD_Budgets_may_use : He.DefD := ⟨("Budgets", some "may_use"), "may_use", "Budgets.may_use", defArgs s_Budgets_may_use, defBody s_Budgets_may_use, defScope s_Budgets_may_use, [], []⟩
def dD_Budgets_use : He.DefD := ⟨("Budgets", some "use"), "use", "Budgets.use", defArgs s_Budgets_use, defBody s_Budgets_use, defScope s_Budgets_use, [], []⟩
def dD_Budgets_wish : He.DefD := ⟨("Budgets", some "wish"), "wish", "Budgets.wish", defArgs s_Budgets_wish, defBody s_Budgets_wish, defScope s_Budgets_wish, [], []⟩
def dD_Budgets_answer : He.DefD := ⟨("Budgets", some "answer"), "answer", "Budgets.answer", defArgs s_Budgets_answer, defBody s_Budgets_answer, defScope s_Budgets_answer, [], []⟩
def dD_law_dice : He.DefD := ⟨("_law_dice", none), "_law_dice", "_law_dice", defArgs s_law_dice, defBody s_law_dice, defScope s_law_dice, [], []⟩
def dD_law_roll : He.DefD := ⟨("_law_roll", none), "_law_roll", "_law_roll", defArgs s_law_roll, defBody s_law_roll, defScope s_law_roll, [], []⟩
def dD_law_rounds : He.DefD := ⟨("_law_rounds", none), "_law_rounds", "_law_rounds", defArgs s_law_rounds, defBody s_law_rounds, defScope s_law_rounds, [], []⟩
def dD_law_told : He.DefD := ⟨("_law_told", none), "_law_told", "_law_told", defArgs s_law_told, defBody s_law_told, defScope s_law_told, [], []⟩
def dD_law_closed : He.DefD := ⟨("_law_closed", none), "_law_closed", "_law_closed", defArgs s_law_closed, defBody s_law_closed, defScope s_law_closed, [], []⟩
def dD_law : He.DefD := ⟨("law", none), "law", "law", defArgs s_law, defBody s_law, defScope s_law, [], []⟩
def fnD_0 : List He.DefD := [dD_Budgets__init, dD_Budgets_put_app, dD_Budgets_put_kind, dD_Budgets_is_closed, dD_Budgets_left, dD_Budgets_may_use, dD_Budgets_use, dD_Budgets_wish, dD_Budgets_answer, dD_law_dice, dD_law_roll, dD_law_rounds, dD_law_told, dD_law_closed, dD_law]
def fnD : List He.DefD := fnD_0
def tfD : List He.Defn := [("Budgets", some "put_kind"), ("law", none)]
def tupE (K : PySem.W.Frag) (a : Addr) : Bool := match K.lookup a with
  | some ⟨.type n, _, .seq its _, _⟩ => n == "tuple" && its.isEmpty
  | _ => false
theorem tupE_ok {K : PySem.W.Frag} {a : Addr} (h : tupE K a = true) : ∃ (o : Obj) (n : Nat), K.lookup a = some o ∧ o.cls = .type "tuple" ∧ o.data = .seq #[] n := by
  unfold tupE at h
  split at h
  · rename_i n d its k sl e
    simp only [Bool.and_eq_true, beq_iff_eq, Array.isEmpty_iff] at h
    exact ⟨_, k, e, by rw [h.1], by rw [h.2]⟩
  · cases h
def exD (K : PySem.W.Frag) : Bool := decide ((tfD.map fun p => (He.cT K p).2).Nodup) && tupE K (He.dflAt ("Budgets", some "put_kind") 0 K)
theorem fin {l : PySem.W.OpenLaw} {w : World} {K : PySem.W.Frag} {h : Heap} {mg : Str → Option Value} {fa : Addr} (X : K.In h) (G : h.Ns mainGlobals mg) (hfa : mg "law" = some (.ref fa)) (c : He.SaysX faD fnD [] tfD exD w h K) :
    LamX.LawAtS l w K (L2.CX l.prog w) 11 63 "script" mg fa h := by
  have d := c.t.d
  have more : exD K = true := c.more
  unfold exD at more
  obtain ⟨more, m_dt_Budgets_put_kind_0⟩ := (Bool.and_eq_true _ _ ▸ more : _ ∧ _)
  have moreN := more
  obtain ⟨fd_Budgets__init, F_Budgets__init⟩ := d.def_ 0 (d := dD_Budgets__init) rfl
  have F_Budgets__init : FunD K "__init__" "Budgets.__init__" (defArgs s_Budgets__init) (defBody s_Budgets__init) (defScope s_Budgets__init) [] [] (He.fAd K ("Budgets", some "__init__")) fd_Budgets__init := F_Budgets__init
  obtain ⟨fd_Budgets_put_app, F_Budgets_put_app⟩ := d.def_ 1 (d := dD_Budgets_put_app) rfl
  have F_Budgets_put_app : FunD K "put_app" "Budgets.put_app" (defArgs s_Budgets_put_app) (defBody s_Budgets_put_app) (defScope s_Budgets_put_app) [] [] (He.fAd K ("Budgets", some "put_app")) fd_Budgets_put_app := F_Budgets_put_app
  obtain ⟨fd_Budgets_put_kind, F_Budgets_put_kind⟩ := d.def_ 2 (d := dD_Budgets_put_kind) rfl
  have F_Budgets_put_kind : FunD K "put_kind" "Budgets.put_kind" (defArgs s_Budgets_put_kind) (defBody s_Budgets_put_kind) (defScope s_Budgets_put_kind) [.ref (He.dflAt ("Budgets", some "put_kind") 0 K)] [] (He.fAd K ("Budgets", some "put_kind")) fd_Budgets_put_kind := F_Budgets_put_kind
  obtain ⟨fd_Budgets_is_closed, F_Budgets_is_closed⟩ := d.def_ 3 (d := dD_Budgets_is_closed) rfl
  have F_Budgets_is_closed : FunD K "is_closed" "Budgets.is_closed" (defArgs s_Budgets_is_closed) (defBody s_Budgets_is_closed) (defScope s_Budgets_is_closed) [] [] (He.fAd K ("Budgets", some "is_closed")) fd_Budgets_is_closed := F_Budgets_is_closed
  obtain ⟨fd_Budgets_left, F_Budgets_left⟩ := d.def_ 4 (d := dD_Budgets_left) rfl
  have F_Budgets_left : FunD K "left" "Budgets.left" (defArgs s_Budgets_left) (defBody s_Budgets_left) (defScope s_Budgets_left) [] [] (He.fAd K ("Budgets", some "left")) fd_Budgets_left := F_Budgets_left
  obtain ⟨fd_Budgets_may_use, F_Budgets_may_use⟩ := d.def_ 5 (d := dD_Budgets_may_use) rfl
  have F_Budgets_may_use : FunD K "may_use" "Budgets.may_use" (defArgs s_Budgets_may_use) (defBody s_Budgets_may_use) (defScope s_Budgets_may_use) [] [] (He.fAd K ("Budgets", some "may_use")) fd_Budgets_may_use := F_Budgets_may_use
  obtain ⟨fd_Budgets_use, F_Budgets_use⟩ := d.def_ 6 (d := dD_Budgets_use) rfl
  have F_Budgets_use : FunD K "use" "Budgets.use" (defArgs s_Budgets_use) (defBody s_Budgets_use) (defScope s_Budgets_use) [] [] (He.fAd K ("Budgets", some "use")) fd_Budgets_use := F_Budgets_use
  obtain ⟨fd_Budgets_wish, F_Budgets_wish⟩ := d.def_ 7 (d := dD_Budgets_wish) rfl
  have F_Budgets_wish : FunD K "wish" "Budgets.wish" (defArgs s_Budgets_wish) (defBody s_Budgets_wish) (defScope s_Budgets_wish) [] [] (He.fAd K ("Budgets", some "wish")) fd_Budgets_wish := F_Budgets_wish
  obtain ⟨fd_Budgets_answer, F_Budgets_answer⟩ := d.def_ 8 (d := dD_Budgets_answer) rfl
  have F_Budgets_answer : FunD K "answer" "Budgets.answer" (defArgs s_Budgets_answer) (defBody s_Budgets_answer) (defScope s_Budgets_answer) [] [] (He.fAd K ("Budgets", some "answer")) fd_Budgets_answer := F_Budgets_answer
  obtain ⟨fd_law_dice, F_law_dice⟩ := d.def_ 9 (d := dD_law_dice) rfl
  have F_law_dice : FunD K "_law_dice" "_law_dice" (defArgs s_law_dice) (defBody s_law_dice) (defScope s_law_dice) [] [] (He.fAd K ("_law_dice", none)) fd_law_dice := F_law_dice
  obtain ⟨fd_law_roll, F_law_roll⟩ := d.def_ 10 (d := dD_law_roll) rfl
  have F_law_roll : FunD K "_law_roll" "_law_roll" (defArgs s_law_roll) (defBody s_law_roll) (defScope s_law_roll) [] [] (He.fAd K ("_law_roll", none)) fd_law_roll := F_law_roll
  obtain ⟨fd_law_rounds, F_law_rounds⟩ := d.def_ 11 (d := dD_law_rounds) rfl
  have F_law_rounds : FunD K "_law_rounds" "_law_rounds" (defArgs s_law_rounds) (defBody s_law_rounds) (defScope s_law_rounds) [] [] (He.fAd K ("_law_rounds", none)) fd_law_rounds := F_law_rounds
  obtain ⟨fd_law_told, F_law_told⟩ := d.def_ 12 (d := dD_law_told) rfl
  have F_law_told : FunD K "_law_told" "_law_told" (defArgs s_law_told) (defBody s_law_told) (defScope s_law_told) [] [] (He.fAd K ("_law_told", none)) fd_law_told := F_law_told
  obtain ⟨fd_law_closed, F_law_closed⟩ := d.def_ 13 (d := dD_law_closed) rfl
  have F_law_closed : FunD K "_law_closed" "_law_closed" (defArgs s_law_closed) (defBody s_law_closed) (defScope s_law_closed) [] [] (He.fAd K ("_law_closed", none)) fd_law_closed := F_law_closed
  obtain ⟨fd_law, F_law⟩ := d.def_ 14 (d := dD_law) rfl
  have F_law : FunD K "law" "law" (defArgs s_law) (defBody s_law) (defScope s_law) [] [] (He.fAd K ("law", none)) fd_law := F_law
  have e := hfa.symm.trans (He.glo_ok X G (d.fact 22 (f := .glo "law") rfl))
  cases e
  let A : Adr := ⟨He.ga K "Budgets", He.ga K "RightFault", He.fAd K ("Budgets", some "__init__"), fd_Budgets__init, He.fAd K ("Budgets", some "put_app"), fd_Budgets_put_app, He.fAd K ("Budgets", some "put_kind"), fd_Budgets_put_kind, He.dflAt ("Budgets", some "put_kind") 0 K, He.fAd K ("Budgets", some "is_closed"), fd_Budgets_is_closed, He.fAd K ("Budgets", some "left"), fd_Budgets_left, He.fAd K ("Budgets", some "may_use"), fd_Budgets_may_use, He.fAd K ("Budgets", some "use"), fd_Budgets_use, He.fAd K ("Budgets", some "wish"), fd_Budgets_wish, He.fAd K ("Budgets", some "answer"), fd_Budgets_answer, He.fAd K ("_law_dice", none), fd_law_dice, He.fAd K ("_law_roll", none), fd_law_roll, He.fAd K ("_law_rounds", none), fd_law_rounds, He.fAd K ("_law_told", none), fd_law_told, He.fAd K ("_law_closed", none), fd_law_closed, He.fAd K ("law", none), fd_law, (He.cT K ("Budgets", some "put_kind")).1, (He.cT K ("Budgets", some "put_kind")).2, (He.cT K ("law", none)).1, (He.cT K ("law", none)).2⟩
  have T : Txt K mg A :=
    { cl_Budgets := He.cls_ok (d.fact 0 (f := .cls "Budgets") rfl),
      na_Budgets_kinds := He.noat_ok (d.fact 1 (f := .noat "Budgets" "kinds") rfl),
      na_Budgets_minutes := He.noat_ok (d.fact 2 (f := .noat "Budgets" "minutes") rfl),
      na_Budgets_closed := He.noat_ok (d.fact 3 (f := .noat "Budgets" "closed") rfl),
      na_Budgets_spent := He.noat_ok (d.fact 4 (f := .noat "Budgets" "spent") rfl),
      na_Budgets_extra := He.noat_ok (d.fact 5 (f := .noat "Budgets" "extra") rfl),
      na_Budgets_wishes := He.noat_ok (d.fact 6 (f := .noat "Budgets" "wishes") rfl),
      mgc_Budgets := He.glo_ok X G (d.fact 7 (f := .glo "Budgets") rfl),
      mk_Budgets := He.mkr_ok (d.fact 8 (f := .mkr "Budgets") rfl),
      fn_Budgets__init := F_Budgets__init,
      bi_Budgets__init := FunD.bindsN F_Budgets__init fun _ _ _ _ _ _ us hl => match us, hl with | [_], _ => rfl,
      me_Budgets_put_app := He.meth_ok (d.fact 9 (f := .meth "Budgets" "put_app") rfl),
      fn_Budgets_put_app := F_Budgets_put_app,
      bi_Budgets_put_app := FunD.bindsN F_Budgets_put_app fun _ _ _ _ _ _ us hl => match us, hl with | [_, _, _], _ => rfl,
      me_Budgets_put_kind := He.meth_ok (d.fact 10 (f := .meth "Budgets" "put_kind") rfl),
      dt_Budgets_put_kind_0 := tupE_ok m_dt_Budgets_put_kind_0,
      fn_Budgets_put_kind := F_Budgets_put_kind,
      bi_Budgets_put_kind := bnd_full (dvs := [.ref (He.dflAt ("Budgets", some "put_kind") 0 K)]) (FunD.binds1 (ps := ["self", "kind", "minutes", "closed"]) F_Budgets_put_kind 4 1 (by simp) (by rfl) fun _ _ _ _ _ _ _ us its l1 l2 => match us, l1, its, l2 with | [_, _, _, _], _, [_], _ => ⟨_, rfl, rfl⟩),
      bi_Budgets_put_kind_3 := FunD.binds1 (ps := ["self", "kind", "minutes", "closed"]) F_Budgets_put_kind 3 0 (by simp) (by rfl) fun _ _ _ _ _ _ _ us its l1 l2 => match us, l1, its, l2 with | [_, _, _], _, [_], _ => ⟨_, rfl, rfl⟩,
      me_Budgets_is_closed := He.meth_ok (d.fact 11 (f := .meth "Budgets" "is_closed") rfl),
      fn_Budgets_is_closed := F_Budgets_is_closed,
      bi_Budgets_is_closed := FunD.bindsN F_Budgets_is_closed fun _ _ _ _ _ _ us hl => match us, hl with | [_, _, _], _ => rfl,
      me_Budgets_left := He.meth_ok (d.fact 12 (f := .meth "Budgets" "left") rfl),
      fn_Budgets_left := F_Budgets_left,
      bi_Budgets_left := FunD.bindsN F_Budgets_left fun _ _ _ _ _ _ us hl => match us, hl with | [_, _, _], _ => rfl,
      me_Budgets_may_use := He.meth_ok (d.fact 13 (f := .meth "Budgets" "may_use") rfl),
      fn_Budgets_may_use := F_Budgets_may_use,
      bi_Budgets_may_use := FunD.bindsN F_Budgets_may_use fun _ _ _ _ _ _ us hl => match us, hl with | [_, _, _], _ => rfl,
      me_Budgets_use := He.meth_ok (d.fact 14 (f := .meth "Budgets" "use") rfl),
      fn_Budgets_use := F_Budgets_use,
      bi_Budgets_use := FunD.bindsN F_Budgets_use fun _ _ _ _ _ _ us hl => match us, hl with | [_, _, _], _ => rfl,
      me_Budgets_wish := He.meth_ok (d.fact 15 (f := .meth "Budgets" "wish") rfl),
      fn_Budgets_wish := F_Budgets_wish,
      bi_Budgets_wish := FunD.bindsN F_Budgets_wish fun _ _ _ _ _ _ us hl => match us, hl with | [_, _, _, _], _ => rfl,
      me_Budgets_answer := He.meth_ok (d.fact 16 (f := .meth "Budgets" "answer") rfl),
      fn_Budgets_answer := F_Budgets_answer,
      bi_Budgets_answer := FunD.bindsN F_Budgets_answer fun _ _ _ _ _ _ us hl => match us, hl with | [_, _, _, _], _ => rfl,
      mg_law_dice := He.glo_ok X G (d.fact 17 (f := .glo "_law_dice") rfl),
      fn_law_dice := F_law_dice,
      bi_law_dice := FunD.bindsN F_law_dice fun _ _ _ _ _ _ us hl => match us, hl with | [_], _ => rfl,
      mg_law_roll := He.glo_ok X G (d.fact 18 (f := .glo "_law_roll") rfl),
      fn_law_roll := F_law_roll,
      bi_law_roll := FunD.bindsN F_law_roll fun _ _ _ _ _ _ us hl => match us, hl with | [_, _], _ => rfl,
      mg_law_rounds := He.glo_ok X G (d.fact 19 (f := .glo "_law_rounds") rfl),
      fn_law_rounds := F_law_rounds,
      bi_law_rounds := FunD.bindsN F_law_rounds fun _ _ _ _ _ _ us hl => match us, hl with | [_, _], _ => rfl,
      mg_law_told := He.glo_ok X G (d.fact 20 (f := .glo "_law_told") rfl),
      fn_law_told := F_law_told,
      bi_law_told := FunD.bindsN F_law_told fun _ _ _ _ _ _ us hl => match us, hl with | [_], _ => rfl,
      mg_law_closed := He.glo_ok X G (d.fact 21 (f := .glo "_law_closed") rfl),
      fn_law_closed := F_law_closed,
      bi_law_closed := FunD.bindsN F_law_closed fun _ _ _ _ _ _ us hl => match us, hl with | [_, _], _ => rfl,
      mg_law := He.glo_ok X G (d.fact 22 (f := .glo "law") rfl),
      fn_law := F_law,
      bi_law := FunD.bindsN F_law fun _ _ _ _ _ _ us hl => match us, hl with | [_], _ => rfl,
      no_abs := He.free_ok X G (d.fact 23 (f := .free "abs") rfl),
      no_any := He.free_ok X G (d.fact 24 (f := .free "any") rfl),
      no_int := He.free_ok X G (d.fact 25 (f := .free "int") rfl),
      no_len := He.free_ok X G (d.fact 26 (f := .free "len") rfl),
      no_list := He.free_ok X G (d.fact 27 (f := .free "list") rfl),
      no_max := He.free_ok X G (d.fact 28 (f := .free "max") rfl),
      no_range := He.free_ok X G (d.fact 29 (f := .free "range") rfl),
      no_str := He.free_ok X G (d.fact 30 (f := .free "str") rfl),
      no_tuple := He.free_ok X G (d.fact 31 (f := .free "tuple") rfl),
      gl_MINUTES_A_DAY := He.int_ok X G (d.fact 32 (f := .int "MINUTES_A_DAY" 1440) rfl),
      mgc_RightFault := He.glo_ok X G (d.fact 33 (f := .glo "RightFault") rfl),
      xc_RightFault := (He.exc_ok (d.fact 34 (f := .exc "RightFault") rfl)).1,
      kc_RightFault := (He.exc_ok (d.fact 34 (f := .exc "RightFault") rfl)).2.1,
      bc_RightFault := (He.exc_ok (d.fact 34 (f := .exc "RightFault") rfl)).2.2.1,
      tc_RightFault := (He.exc_ok (d.fact 34 (f := .exc "RightFault") rfl)).2.2.2,
      ec_RightFault := He.exm_ok (d.fact 35 (f := .exm "RightFault" "RightFault" true) rfl),
      cd_Budgets_put_kind := cd_of F_Budgets_put_kind,
      cd_law := cd_of F_law }
  have nd : (tfD.map fun p => (He.cT K p).2).Nodup := of_decide_eq_true moreN
  have lay : ∀ H : Hp, (∀ p ∈ tfD.map (He.cT K), H p.2 = some (.tbl #[])) → Lay H (tfD.map fun z => ((He.cT K z).2, HO.tbl #[])) := fun H hT => ⟨by rw [List.map_map]; exact nd, fun p hp => by
    obtain ⟨z, hz, rfl⟩ := List.mem_map.mp hp
    exact ⟨hT _ (List.mem_map.mpr ⟨z, hz, rfl⟩), rfl⟩⟩
  refine ⟨fd_law, tfD.map (He.cT K), sp_law K A, fun p hp => ?_, fun p hp => ?_, fun p hp => ?_, (fun s u => FunD.bindsA (ps := ["script"]) F_law (fun _ _ _ _ _ _ us hl => match us, hl with | [_], _ => rfl) s [u] rfl), fun H s ns hl hz hT hS => ⟨rfl, s, ns, rfl, hS, lay H hT, fun _ => rfl⟩, fun base _ _ hTB => ok_all T (hTB (He.cT K ("Budgets", some "put_kind")) (List.mem_map.mpr ⟨("Budgets", some "put_kind"), (by unfold tfD; exact List.mem_cons_self), rfl⟩)) (hTB (He.cT K ("law", none)) (List.mem_map.mpr ⟨("law", none), (by unfold tfD; exact List.mem_cons_of_mem _ (List.mem_cons_self)), rfl⟩))⟩
  · obtain ⟨z, hz, rfl⟩ := List.mem_map.mp hp
    exact c.empty z hz
  · obtain ⟨z, hz, rfl⟩ := List.mem_map.mp hp
    exact c.out z hz
  · obtain ⟨z, hz, rfl⟩ := List.mem_map.mp hp
    exact PySem.W.codeHd_of_K X (c.hd z hz)
end Wk
namespace Wk
open PySem PySem.Spec PyProof.Rows L2
abbrev R : PySem.W.OpenRow := PySem.W.OpenLaw.row PySem.Challenge.rw_phonestack_k19_time_that_apps_may_be_use
abbrev hk : PySem.W.Hook := He.hookX 6 faD fnD [] tfD exD
def obD (s : PySem.W.SharedT) : He.AlX := He.obsX 6 faD fnD [] tfD exD (HandSHeadRun.getT s)
theorem ob_eq (s : PySem.W.SharedT) : obD s = hk.obs s.abs := He.obsX_eq (HandSHeadRun.getT_eq s)
def loose_0 : List PySem.Str := ["PhoneError", "RightFault", "MINUTES_A_DAY", "Budgets", "_law_dice", "_law_roll", "_law_rounds", "_law_told", "_law_closed"]
def loose : List PySem.Str := loose_0
theorem run (w : World) : HandSHeadRun.RunEq R (PySem.W.view R.prog [12]) hk obD 20000 loose w := by
  intro os
  kernel_rfl
end Wk
open PySem PySem.W PySem.Calls PyProof.Rows
theorem PySem.Challenge.cw_phonestack_k19_time_that_apps_may_be_use_holds : PySem.Challenge.rw_phonestack_k19_time_that_apps_may_be_use.Holds := by
  w_on; o_law
  refine HandSHeadRun.head_any (r := OpenLaw.row PySem.Challenge.rw_phonestack_k19_time_that_apps_may_be_use) (q := view (OpenLaw.row PySem.Challenge.rw_phonestack_k19_time_that_apps_may_be_use).prog [12]) (H := Wk.hk) (ob := Wk.obD) (M := 20000) (loose := Wk.loose) (d := HandSHeadRun.topDef (OpenLaw.row PySem.Challenge.rw_phonestack_k19_time_that_apps_may_be_use).prog 12) (kwd := []) Wk.ob_eq
    (by kernel_rfl) (fun s => by kernel_rfl) Wk.run (by kernel_rfl) (by kernel_rfl) (by kernel_rfl) (by rfl) (by first | assumption | decide +kernel) (by decide +kernel) ⟨rfl, rfl, rfl, rfl, rfl, by decide +kernel⟩ ?hw ?hc
  case hw => w_witness2
  case hc =>
    refine LamX.walk_ofTsE (l := PySem.Challenge.rw_phonestack_k19_time_that_apps_may_be_use) (n := 63) (k := 11) (x := "script") (CX := fun w => L2.CX (PySem.Challenge.rw_phonestack_k19_time_that_apps_may_be_use).prog w) rfl (by decide) (by kernel_rfl) ⟨rfl, by decide, by decide⟩ ?F (fun _ _ _ _ _ z => by
      obtain ⟨_, _, _, _, _, _, _, _, _, _, _, _, z⟩ := z
      exact z)
    intro w mg fa h Y G hmg0
    obtain ⟨K, KX, c⟩ := Y
    have hmg : mg ("law" : PySem.Str) = some (.ref fa) := by
      have e : (HandSHeadRun.topDef (OpenLaw.row PySem.Challenge.rw_phonestack_k19_time_that_apps_may_be_use).prog 12).name = ("law" : PySem.Str) := by kernel_rfl
      rw [← e]
      exact hmg0
    exact ⟨K, KX, Wk.fin KX G hmg c⟩
