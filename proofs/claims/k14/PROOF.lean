import PyProof.Rows.All
import Wide.All
import OpenK.AllK
import Wide.FinOn
import HandS.ForMost
import HandS.Style
import HandS.Lambda
import HandS.EndTab
import HandS.WordsExc
import HandS.CallSlots
import HandS.Flow
import HandS.Defaults
import HandS.AnyAll
import HandS.IsInst
import PySem.Challenge.RW_phonestack_k14_fields_that_go_back
import PyProof.StrLawsTight
import PyProof.Rows.StrItems
import KE.KStateDown
import Lean
import HandS.Head0
import HandS.Head1
import HandS.Head2
import HandS.HeadEnd
import HandS.HeadHook1
import HandS.HeadHook2
import HandS.HeadHook3
import HandS.HeadHook4
import HandS.HeadWalk
set_option Elab.async false
set_option autoImplicit false
set_option linter.all false
set_option maxRecDepth 100000
set_option maxHeartbeats 4000000
namespace Ph
open PySem PySem.Spec PyProof.Rows L2
/-! ### texts -/
theorem char_toNat_inj {a b : Char} (h : a.toNat = b.toNat) : a = b := by
  apply Char.ext
  apply UInt32.toNat_inj.mp
  exact h
theorem map_toNat_inj : forall {a b : List Char}, a.map Char.toNat = b.map Char.toNat -> a = b
  | [], [], _ => rfl
  | [], _ :: _, h => by simp at h
  | _ :: _, [], h => by simp at h
  | x :: r, y :: t, h => by
    simp only [List.map_cons, List.cons.injEq] at h
    rw [char_toNat_inj h.1, map_toNat_inj h.2]
theorem ofString_inj {a b : String} : (PySem.Str.ofString a = PySem.Str.ofString b) = (a = b) := by
  apply propext
  constructor
  · intro h
    rw [PySem.Str.ofString_eq_toList, PySem.Str.ofString_eq_toList] at h
    injection h with h
    have h2 : a.toList.map Char.toNat = b.toList.map Char.toNat := by
      have := congrArg Array.toList h
      simpa using this
    exact String.toList_inj.mp (map_toNat_inj h2)
  · intro h
    rw [h]
theorem ofString_beq {a b : String} : (PySem.Str.ofString a == PySem.Str.ofString b) = (a == b) := by
  rw [Bool.eq_iff_iff]
  simp [ofString_inj]
/-! ### mutable objects -/
def mutO : HO -> Bool
  | .lst _ => true
  | .dK _ => true
  | .dT _ => true
  | .set _ _ => true
  | .ins _ _ _ => true
  | .tbl _ => true
  | _ => false
/-- all that is not a list, a dict, a set, an instance stays -/
def Stb (H H' : Hp) : Prop := forall a o, H a = some o -> mutO o = false -> H' a = some o
theorem Stb.refl (H : Hp) : Stb H H := fun _ _ h _ => h
theorem Stb.trans {H H1 H2 : Hp} (a : Stb H H1) (b : Stb H1 H2) : Stb H H2 := fun x o h m => b x o (a x o h m) m
theorem Stb.new {H : Hp} {p : Addr} {o : HO} (n : H p = none) : Stb H (upd H p o) := fun a u e _ => by
  rw [upd_ne (ne_of_none e n)]
  exact e
theorem Stb.put {H : Hp} {p : Addr} {o u : HO} (e : H p = some u) (m : mutO u = true) : Stb H (upd H p o) := fun a w ea ma => by
  rw [upd_ne ?_]
  · exact ea
  · intro q
    rw [q, e] at ea
    cases ea
    rw [m] at ma
    cases ma
theorem Stb.sqt {K : PySem.W.Frag} {H H' : Hp} {a : Addr} {xs : List V} (s : Stb H H') (h : SqT K H a xs) : SqT K H' a xs := by
  rcases h with (h | ⟨o, h⟩) | h
  · exact .inl (.inl (s _ _ h rfl))
  · exact .inl (.inr ⟨o, s _ _ h rfl⟩)
  · exact .inr h
structure Lay (H : Hp) (L : List (Addr × HO)) : Prop where
  nd : (L.map (fun p => p.1)).Nodup
  at_ : forall p, p ∈ L -> H p.1 = some p.2 ∧ mutO p.2 = true
theorem Lay.nil {H : Hp} : Lay H [] := ⟨List.nodup_nil, fun p h => by cases h⟩
theorem Lay.get {H : Hp} {L : List (Addr × HO)} {a : Addr} {o : HO} (h : Lay H L) (m : (a, o) ∈ L) : H a = some o := (h.at_ _ m).1
theorem Lay.mu {H : Hp} {L : List (Addr × HO)} {a : Addr} {o : HO} (h : Lay H L) (m : (a, o) ∈ L) : mutO o = true := (h.at_ _ m).2
theorem Lay.keep {H : Hp} {L : List (Addr × HO)} {p : Addr} {o : HO} (h : Lay H L) (n : H p = none) : Lay (upd H p o) L :=
  ⟨h.nd, fun q hq => ⟨by rw [upd_ne (ne_of_none (h.at_ q hq).1 n)]; exact (h.at_ q hq).1, (h.at_ q hq).2⟩⟩
theorem Lay.new {H : Hp} {L : List (Addr × HO)} {p : Addr} {o : HO} (h : Lay H L) (n : H p = none) (m : mutO o = true) : Lay (upd H p o) ((p, o) :: L) := by
  refine ⟨?_, fun q hq => ?_⟩
  · rw [List.map_cons, List.nodup_cons]
    refine ⟨fun z => ?_, h.nd⟩
    obtain ⟨q, hq, e⟩ := List.mem_map.mp z
    have z2 := (h.at_ q hq).1
    rw [e, n] at z2
    cases z2
  · rcases List.mem_cons.mp hq with e | hq
    · subst e
      exact ⟨upd_same, m⟩
    · exact (h.keep n).at_ q hq
/-- x stands in L at a place; the rest is L' -/
inductive Pick (x : Addr × HO) : List (Addr × HO) -> List (Addr × HO) -> Prop
  | here {L : List (Addr × HO)} : Pick x (x :: L) L
  | there {y : Addr × HO} {L L' : List (Addr × HO)} : Pick x L L' -> Pick x (y :: L) (y :: L')
theorem Pick.perm {x : Addr × HO} : forall {L L'}, Pick x L L' -> L.Perm (x :: L')
  | _, _, .here => List.Perm.refl _
  | _, _, .there h => (List.Perm.cons _ h.perm).trans (List.Perm.swap _ _ _)
theorem Lay.perm {H : Hp} {L L' : List (Addr × HO)} (h : Lay H L) (p : L.Perm L') : Lay H L' :=
  ⟨(p.map _).nodup_iff.mp h.nd, fun q hq => h.at_ q (p.mem_iff.mpr hq)⟩
theorem Lay.pick {H : Hp} {x : Addr × HO} {L L' : List (Addr × HO)} (p : Pick x L L') (h : Lay H L) : Lay H (x :: L') := h.perm p.perm
theorem Lay.tail {H : Hp} {x : Addr × HO} {L : List (Addr × HO)} (h : Lay H (x :: L)) : Lay H L :=
  ⟨(List.nodup_cons.mp h.nd).2, fun q hq => h.at_ q (List.mem_cons_of_mem _ hq)⟩
/-- the object at a becomes o' -/
inductive Up (a : Addr) (o' : HO) : List (Addr × HO) -> List (Addr × HO) -> Prop
  | here {o : HO} {L : List (Addr × HO)} : Up a o' ((a, o) :: L) ((a, o') :: L)
  | there {y : Addr × HO} {L L' : List (Addr × HO)} : Up a o' L L' -> Up a o' (y :: L) (y :: L')
theorem Up.keys {a : Addr} {o' : HO} : forall {L L'}, Up a o' L L' -> L'.map (fun p => p.1) = L.map (fun p => p.1)
  | _, _, .here => rfl
  | _, _, .there h => by rw [List.map_cons, List.map_cons, h.keys]
theorem Up.old {a : Addr} {o' : HO} : forall {L L'}, Up a o' L L' -> exists o, (a, o) ∈ L
  | _, _, .here => ⟨_, List.mem_cons_self⟩
  | _, _, .there h => let ⟨o, z⟩ := h.old; ⟨o, List.mem_cons_of_mem _ z⟩
theorem Up.mem {a : Addr} {o' : HO} : forall {L L'}, Up a o' L L' -> (L.map (fun p => p.1)).Nodup -> forall q, q ∈ L' -> q = (a, o') ∨ (q ∈ L ∧ q.1 ≠ a)
  | _, _, .here, nd, q, hq => by
    rcases List.mem_cons.mp hq with e | hq
    · exact .inl e
    · refine .inr ⟨List.mem_cons_of_mem _ hq, fun z => ?_⟩
      exact (List.nodup_cons.mp nd).1 (List.mem_map.mpr ⟨q, hq, z⟩)
  | _, _, .there h, nd, q, hq => by
    rcases List.mem_cons.mp hq with e | hq
    · subst e
      refine .inr ⟨List.mem_cons_self, fun z => ?_⟩
      obtain ⟨o, ho⟩ := h.old
      exact (List.nodup_cons.mp nd).1 (List.mem_map.mpr ⟨(a, o), ho, z.symm⟩)
    · rcases h.mem (List.nodup_cons.mp nd).2 q hq with e | ⟨e, n⟩
      · exact .inl e
      · exact .inr ⟨List.mem_cons_of_mem _ e, n⟩
theorem Lay.put {H : Hp} {L L' : List (Addr × HO)} {a : Addr} {o' : HO} (h : Lay H L) (u : Up a o' L L') (m : mutO o' = true) : Lay (upd H a o') L' := by
  refine ⟨by rw [u.keys]; exact h.nd, fun q hq => ?_⟩
  rcases u.mem h.nd q hq with e | ⟨e, n⟩
  · subst e
    exact ⟨upd_same, m⟩
  · exact ⟨by rw [upd_ne n]; exact (h.at_ q e).1, (h.at_ q e).2⟩
theorem Lay.ne {H : Hp} {L : List (Addr × HO)} {a b : Addr} {o u : HO} (h : Lay H ((a, o) :: L)) (m : (b, u) ∈ L) : b ≠ a := fun z =>
  (List.nodup_cons.mp h.nd).1 (List.mem_map.mpr ⟨(b, u), m, z⟩)
/-! ### data made of scalars and tuples -/
mutual
inductive TD (K : PySem.W.Frag) (H : Hp) : V -> PyData -> Prop
  | non : TD K H .non .none
  | bl (b : Bool) : TD K H (.bl b) (.bool b)
  | int (i : Int) : TD K H (.int i) (.int i)
  | str (x : Str) : TD K H (.str x) (.str x)
  | tup {a : Addr} {xs : List V} {ds : List PyData} : SqT K H a xs -> TDs K H xs ds -> TD K H (.ref a) (.tuple ds)
inductive TDs (K : PySem.W.Frag) (H : Hp) : List V -> List PyData -> Prop
  | nil : TDs K H [] []
  | cons {v : V} {vs : List V} {d : PyData} {ds : List PyData} : TD K H v d -> TDs K H vs ds -> TDs K H (v :: vs) (d :: ds)
end
mutual
theorem TD.mono {K : PySem.W.Frag} {H H' : Hp} (s : Stb H H') : forall {v : V} {d : PyData}, TD K H v d -> TD K H' v d
  | _, _, .non => .non
  | _, _, .bl b => .bl b
  | _, _, .int i => .int i
  | _, _, .str x => .str x
  | _, _, .tup h t => .tup (s.sqt h) (TDs.mono s t)
theorem TDs.mono {K : PySem.W.Frag} {H H' : Hp} (s : Stb H H') : forall {vs : List V} {ds : List PyData}, TDs K H vs ds -> TDs K H' vs ds
  | _, _, .nil => .nil
  | _, _, .cons h t => .cons (TD.mono s h) (TDs.mono s t)
end
mutual
theorem TD.dp {K : PySem.W.Frag} {H : Hp} : forall {v : V} {d : PyData}, TD K H v d -> Dp K H v d
  | _, _, .non => .non
  | _, _, .bl b => .bl b
  | _, _, .int i => .int i
  | _, _, .str x => .str x
  | _, _, .tup h t => .tup h (TDs.dp t)
theorem TDs.dp {K : PySem.W.Frag} {H : Hp} : forall {vs : List V} {ds : List PyData}, TDs K H vs ds -> DpAll K H vs ds
  | _, _, .nil => .nil
  | _, _, .cons h t => .cons (TD.dp h) (TDs.dp t)
end
theorem TDs.snoc {K : PySem.W.Frag} {H : Hp} {v : V} {d : PyData} : forall {vs : List V} {ds : List PyData}, TDs K H vs ds -> TD K H v d -> TDs K H (vs ++ [v]) (ds ++ [d])
  | _, _, .nil, h => .cons h .nil
  | _, _, .cons h t, q => .cons h (TDs.snoc t q)
theorem TDs.append {K : PySem.W.Frag} {H : Hp} {us : List V} {es : List PyData} : forall {vs : List V} {ds : List PyData}, TDs K H vs ds -> TDs K H us es -> TDs K H (vs ++ us) (ds ++ es)
  | _, _, .nil, h => h
  | _, _, .cons h t, q => .cons h (TDs.append t q)
theorem TDs.length {K : PySem.W.Frag} {H : Hp} : forall {vs : List V} {ds : List PyData}, TDs K H vs ds -> vs.length = ds.length
  | _, _, .nil => rfl
  | _, _, .cons _ t => by rw [List.length_cons, List.length_cons, TDs.length t]
/-! ### what is known of things that don't change -/
/-- each code object that the table's triples tell bears the name q -/
def TabOK (q : Str) (ps : Array Value) (H : Hp) : Prop := TriplesOk ps.toList ∧ forall (pos : Pos) (cv : Value), codeAmong pos ps.toList = some cv -> exists c, cv = .ref c ∧ H c = some (LamX.CodeO c q)
theorem TabOK.mono {q : Str} {ps : Array Value} {H H' : Hp} (s : Stb H H') (h : TabOK q ps H) : TabOK q ps H' := ⟨h.1, fun pos cv e => by
  obtain ⟨c, e1, e2⟩ := h.2 pos cv e
  exact ⟨c, e1, s _ _ e2 rfl⟩⟩
inductive Im where
  | tab (q : Str) (ps : Array Value)
  | tri (ps : Array Value)
  | tup (a : Addr) (xs : List V)
  | dat (v : V) (d : PyData)
  | dats (vs : List V) (ds : List PyData)
  | pr (P : Hp → Prop) (m : ∀ H H', Stb H H' → P H → P H')
def Im.ok (K : PySem.W.Frag) (H : Hp) : Im -> Prop
  | .tab q ps => TabOK q ps H
  | .tri ps => TriplesOk ps.toList
  | .tup a xs => SqT K H a xs
  | .dat v d => TD K H v d
  | .dats vs ds => TDs K H vs ds
  | .pr P _ => P H
theorem Im.mono {K : PySem.W.Frag} {H H' : Hp} (s : Stb H H') : forall {i : Im}, i.ok K H -> i.ok K H'
  | .tab _ _, h => TabOK.mono s h
  | .tri _, h => h
  | .tup _ _, h => s.sqt h
  | .dat _ _, h => TD.mono s h
  | .dats _ _, h => TDs.mono s h
  | .pr _ m, h => m _ _ s h
/-- B: where the def was entered -/
structure Ctx (K : PySem.W.Frag) (B H : Hp) (L : List (Addr × HO)) (I : List Im) : Prop where
  lay : Lay H L
  im : forall i, i ∈ I -> i.ok K H
  sb : Stb B H
section
variable {K : PySem.W.Frag} {B H H' : Hp} {L L' : List (Addr × HO)} {I : List Im} {a : Addr} {o : HO} {xs : List V}
theorem Ctx.tup (h : Ctx K B H L I) (m : Im.tup a xs ∈ I) : SqT K H a xs := h.im _ m
theorem Ctx.dat {v : V} {d : PyData} (h : Ctx K B H L I) (m : Im.dat v d ∈ I) : TD K H v d := h.im _ m
theorem Ctx.dats {vs : List V} {ds : List PyData} (h : Ctx K B H L I) (m : Im.dats vs ds ∈ I) : TDs K H vs ds := h.im _ m
theorem Ctx.pr {P : Hp → Prop} {w : ∀ H H', Stb H H' → P H → P H'} (h : Ctx K B H L I) (m : Im.pr P w ∈ I) : P H := h.im _ m
theorem Ctx.tab {q : Str} {ps : Array Value} (h : Ctx K B H L I) (m : Im.tab q ps ∈ I) : TabOK q ps H := h.im _ m
theorem Ctx.tri {ps : Array Value} (h : Ctx K B H L I) (m : Im.tri ps ∈ I) : TriplesOk ps.toList := h.im _ m
theorem Ctx.get (h : Ctx K B H L I) (m : (a, o) ∈ L) : H a = some o := h.lay.get m
theorem Ctx.add {i : Im} (h : Ctx K B H L I) (m : i.ok K H) : Ctx K B H L (i :: I) :=
  ⟨h.lay, fun j hj => (List.mem_cons.mp hj).elim (fun e => by rw [e]; exact m) (h.im j), h.sb⟩
theorem Ctx.moved (h : Ctx K B H L I) (s : Stb H H') (l : Lay H' L') : Ctx K B H' L' I := ⟨l, fun i hi => Im.mono s (h.im i hi), h.sb.trans s⟩
theorem Ctx.newM (h : Ctx K B H L I) (n : H a = none) (m : mutO o = true) : Ctx K B (upd H a o) ((a, o) :: L) I := h.moved (Stb.new n) (h.lay.new n m)
theorem Ctx.newT (h : Ctx K B H L I) (n : H a = none) : Ctx K B (upd H a (.tup xs)) L (.tup a xs :: I) := by
  have h1 := h.moved (Stb.new (o := .tup xs) n) (h.lay.keep n)
  exact h1.add (SqT.of upd_same)
theorem Ctx.put {o' : HO} (h : Ctx K B H L I) (u : Up a o' L L') (m : mutO o' = true) : Ctx K B (upd H a o') L' I := by
  obtain ⟨o, ho⟩ := u.old
  exact h.moved (Stb.put (h.lay.get ho) (h.lay.mu ho)) (h.lay.put u m)
theorem Ctx.start (l : Lay H L) : Ctx K H H L [] := ⟨l, fun i hi => (by cases hi), Stb.refl H⟩
theorem Ctx.but {H1 : Hp} {P : Addr} {o o' : HO} (h : Ctx K B H L I) (m : (P, o) ∈ L) (u : Up P o' L L') (mo : mutO o' = true) (e : forall b u, b ≠ P -> H b = some u -> H1 b = some u) (e' : H1 P = some o') : Ctx K B H1 L' I := by
  have y := h.lay
  have sb : Stb H H1 := fun b w hb mw => e b w (fun z => by
    have q := (y.at_ _ m)
    rw [z, q.1] at hb
    cases hb
    rw [q.2] at mw
    cases mw) hb
  refine h.moved sb ⟨by rw [u.keys]; exact y.nd, fun p hp => ?_⟩
  rcases u.mem y.nd p hp with q | ⟨q, n⟩
  · rw [q]
    exact ⟨e', mo⟩
  · exact ⟨e _ _ n (y.at_ p q).1, (y.at_ p q).2⟩
theorem Ctx.rebase (h : Ctx K B H L I) : Ctx K H H L I := ⟨h.lay, h.im, Stb.refl _⟩
theorem Ctx.pick {x : Addr × HO} (p : Pick x L L') (h : Ctx K B H L I) : Ctx K B H (x :: L') I := ⟨h.lay.pick p, h.im, h.sb⟩
theorem Ctx.drop {x : Addr × HO} (h : Ctx K B H (x :: L) I) : Ctx K B H L I := ⟨h.lay.tail, h.im, h.sb⟩
theorem Ctx.perm (h : Ctx K B H L I) (p : L.Perm L') : Ctx K B H L' I := ⟨h.lay.perm p, h.im, h.sb⟩
end
end Ph
namespace Ph
open PySem PySem.Spec PyProof.Rows L2
def rAddU (K : PySem.W.Frag) : R2 := fun x y H Q => match x, y with
  | .int i, .int j => Q (.int (i + j)) H
  | .int i, .bl k => Q (.int (i + b2i k)) H
  | .str i, .str j => i.length + j.length ≤ sizeLine ∧ Q (.str (i ++ j)) H
  | .ref l, .ref b => (∃ xs zs, H l = some (.lst xs) ∧ H b = some (.lst zs) ∧ xs.length + zs.length ≤ sizeLine ∧ ∀ p, H p = none → Q (.ref p) (upd H p (.lst (xs ++ zs)))) ∨ rCatT K (.ref l) (.ref b) H Q
  | _, _ => False
def rSubU : R2 := fun x y H Q => match x, y with
  | .int i, .int j => Q (.int (i - j)) H
  | _, _ => False
theorem fits_of {n : Nat} (h : n ≤ sizeLine) : Builtin.Str.tooLong n = false := by
  cases e : Builtin.Str.tooLong n with
  | false => rfl
  | true =>
    have : ¬ n ≤ sizeLine := by simpa [Builtin.Str.tooLong, sizeLine] using e
    exact absurd h this
/-- x written n times -/
def repS (x : Str) (n : Nat) : Str := ⟨(List.replicate n x.cps).foldl (· ++ ·) #[]⟩
def rMulU : R2 := fun x y H Q => match x, y with
  | .int i, .int j => CMul i j ∧ Q (.int (i * j)) H
  | .ref l, .int k => rRep (.ref l) (.int k) H Q
  | .str x, .int k => 2 ≤ k ∧ k ≤ 1000 ∧ 1 ≤ x.length ∧ x.length ≤ 1000 ∧ Q (.str (repS x k.toNat)) H
  | _, _ => False
def rDivU : R2 := fun x y H Q => match x, y with
  | .int i, .int j => CDiv i j ∧ Q (.int (i / j)) H
  | _, _ => False
def rModU : R2 := fun x y H Q => match x, y with
  | .int i, .int j => 0 < j ∧ Q (.int (i % j)) H
  | _, _ => False
def rPowU : R2 := fun x y H Q => match x, y with
  | .int i, .int j => CPow i j ∧ Q (.int (i ^ j.toNat)) H
  | _, _ => False
def rLtU (f : Int → Int → Bool) (g : Str → Str → Bool) : R2 := fun x y H Q => match x, y with
  | .int i, .int j => Q (.bl (f i j)) H
  | .str i, .str j => Q (.bl (g i j)) H
  | _, _ => False
abbrev rLt : R2 := rLtU (fun i j => decide (i < j)) (fun i j => decide (i.cps.toList < j.cps.toList))
def rCmpI (f : Int → Int → Bool) : R2 := fun x y H Q => match x, y with
  | .int i, .int j => Q (.bl (f i j)) H
  | _, _ => False
abbrev rLe : R2 := rCmpI fun i j => decide (i ≤ j)
abbrev rGt : R2 := rCmpI fun i j => decide (j < i)
abbrev rGe : R2 := rCmpI fun i j => decide (j ≤ i)
def rIsN : R2 := fun x y H Q => y = .non ∧ Q (.bl (decide (x = .non))) H
def rNotN : R2 := fun x y H Q => y = .non ∧ Q (.bl (!decide (x = .non))) H
def rEqU (K : PySem.W.Frag) : R2 := fun x y H Q => rEq x y H Q ∨ rEqD K x y H Q
def rNeU (K : PySem.W.Frag) : R2 := fun x y H Q => rNe x y H Q ∨ rNeD K x y H Q
def rIxD : R2 := fun x y H Q => ∃ a v, x = .ref a ∧ DGet H a y (some v) ∧ Q v H
def rIxU (K : PySem.W.Frag) : R2 := fun x y H Q => rIxL K x y H Q ∨ rIxT K x y H Q ∨ rIxS x y H Q ∨ rIxD x y H Q
def rInD : R2 := fun y x H Q => ∃ a o, x = .ref a ∧ DGet H a y o ∧ Q (.bl o.isSome) H
def rNotInD : R2 := fun y x H Q => ∃ a o, x = .ref a ∧ DGet H a y o ∧ Q (.bl (!o.isSome)) H
def rInS : R2 := fun x y H Q => ∃ i j, x = .str i ∧ y = .str j ∧ Q (.bl (!(Builtin.Str.occurrences j i 0 j.length 1).isEmpty)) H
def rNotInS : R2 := fun x y H Q => ∃ i j, x = .str i ∧ y = .str j ∧ Q (.bl (!(!(Builtin.Str.occurrences j i 0 j.length 1).isEmpty))) H
def rInU (K : PySem.W.Frag) : R2 := fun x y H Q => rIn K false x y H Q ∨ rInD x y H Q ∨ rInS x y H Q
def rNotInU (K : PySem.W.Frag) : R2 := fun x y H Q => rIn K true x y H Q ∨ rNotInD x y H Q ∨ rNotInS x y H Q
def rSetD : V → V → V → Hp → (Hp → Prop) → Prop := fun o i v H Q => ∃ a H', o = .ref a ∧ DPut H a i v H' ∧ Q H'
def rSetU : V → V → V → Hp → (Hp → Prop) → Prop := fun o i v H Q => rSetL o i v H Q ∨ rSetD o i v H Q
def rIAddU : R2 := fun x y H Q => match x, y with
  | .int i, .int j => Q (.int (i + j)) H
  | .str i, .str j => i.length + j.length ≤ sizeLine ∧ Q (.str (i ++ j)) H
  | .ref l, .ref b => rExt2 (.ref l) (.ref b) H Q
  | _, _ => False
def tTruth (K : PySem.W.Frag) (ta : TE) : TT := fun σ H Q => ta σ H fun x H' => ∃ k, TruV K x H' k ∧ Q k H'
section
variable {X : Cx}
theorem u_add : OpR X (binaryOp .Add) (rAddU X.K) := by
  intro pins s σ H x y v u Q I rx ry h
  cases x with
  | int i =>
    cases y with
    | int j => exact op_add pins s σ H _ _ v u Q I rx ry ⟨i, j, rfl, rfl, h⟩
    | bl k => exact op_add_ib pins s σ H _ _ v u Q I rx ry ⟨i, k, rfl, rfl, h⟩
    | _ => exact (show False from h).elim
  | str i =>
    cases y with
    | str j => exact op_add_str pins s σ H _ _ v u Q I rx ry ⟨i, j, rfl, rfl, h.1, h.2⟩
    | _ => exact (show False from h).elim
  | ref l =>
    cases y with
    | ref b =>
      rcases h with ⟨xs, zs, h1, h2, h3, h4⟩ | h
      · exact op_cat pins s σ H _ _ v u Q I rx ry ⟨l, b, xs, zs, rfl, rfl, h1, h2, h3, h4⟩
      · exact op_catT pins s σ H _ _ v u Q I rx ry h
    | _ => exact (show False from h).elim
  | _ => exact (show False from (by cases y <;> exact h)).elim
theorem u_sub : OpR X (binaryOp .Sub) rSubU := by
  intro pins s σ H x y v u Q I rx ry h
  cases x with
  | int i =>
    cases y with
    | int j => exact op_sub pins s σ H _ _ v u Q I rx ry ⟨i, j, rfl, rfl, h⟩
    | _ => exact (show False from h).elim
  | _ => exact (show False from (by cases y <;> exact h)).elim
theorem foldl_cps : ∀ (n : Nat) (a c : Array Nat), ((List.replicate n a).foldl (· ++ ·) c).toList = c.toList ++ (List.replicate n a.toList).flatten
  | 0, a, c => by simp
  | n + 1, a, c => by
    rw [List.replicate_succ, List.foldl_cons, foldl_cps n a (c ++ a), List.replicate_succ, List.flatten_cons, Array.toList_append, List.append_assoc]
theorem repS_list (x : Str) (n : Nat) : (repS x n).cps.toList = (List.replicate n x.cps.toList).flatten := by
  have h := foldl_cps n x.cps #[]
  simpa [repS] using h
theorem repS_length (x : Str) (n : Nat) : (repS x n).length = n * x.length := by
  show (repS x n).cps.size = n * x.cps.size
  rw [← Array.length_toList, repS_list]
  simp [List.length_flatten]
theorem u_mul : OpR X (binaryOp .Mult) rMulU := by
  intro pins s σ H x y v u Q I rx ry h
  cases x with
  | int i =>
    cases y with
    | int j => exact op_mul pins s σ H _ _ v u Q I rx ry ⟨i, j, rfl, rfl, h.1, h.2⟩
    | _ => exact (show False from h).elim
  | ref l =>
    cases y with
    | int j => exact op_rep pins s σ H _ _ v u Q I rx ry h
    | _ => exact (show False from h).elim
  | str i =>
    cases y with
    | int k =>
      obtain ⟨h2, h3, h4, h5, q⟩ := h
      obtain ⟨t, rfl⟩ := rx
      obtain ⟨t2, rfl⟩ := ry
      have hz : i.length * k.toNat ≤ sizeLine := by
        rw [sizeLine_eq]
        have a1 : i.length * k.toNat ≤ 1000 * 1000 := Nat.mul_le_mul h5 (by omega)
        omega
      have l1 : (repS i k.toNat).length ≤ sizeLine := by
        rw [repS_length, Nat.mul_comm]
        exact hz
      refine PySem.P.mul_str ?_ (fun _ _ => ?_) (fun _ _ => fits_of hz) ?_
      · rw [decide_eq_false (by omega), decide_eq_false (by omega)]
        rfl
      · have hd : (1000 : Int) ≤ (2 ^ 63 - 1) / k := (Int.le_ediv_iff_mul_le (by omega)).mpr (by omega)
        omega
      · rw [if_neg (by omega), if_neg (by
          rw [beq_eq_false_iff_ne.mpr (by omega), beq_eq_false_iff_ne.mpr (by omega)]
          exact Bool.false_ne_true)]
        exact ⟨l1, ⟨.str _, H, I.tok _, ⟨_, rfl⟩, q⟩⟩
    | _ => exact (show False from h).elim
  | _ => exact (show False from (by cases y <;> exact h)).elim
theorem u_div : OpR X (binaryOp .FloorDiv) rDivU := by
  intro pins s σ H x y v u Q I rx ry h
  cases x with
  | int i =>
    cases y with
    | int j => exact op_fdiv pins s σ H _ _ v u Q I rx ry ⟨i, j, rfl, rfl, h.1, h.2⟩
    | _ => exact (show False from h).elim
  | _ => exact (show False from (by cases y <;> exact h)).elim
theorem u_mod : OpR X (binaryOp .Mod) rModU := by
  intro pins s σ H x y v u Q I rx ry h
  cases x with
  | int i =>
    cases y with
    | int j => exact op_mod pins s σ H _ _ v u Q I rx ry ⟨i, j, rfl, rfl, h.1, h.2⟩
    | _ => exact (show False from h).elim
  | _ => exact (show False from (by cases y <;> exact h)).elim
theorem u_pow : OpR X (binaryOp .Pow) rPowU := by
  intro pins s σ H x y v u Q I rx ry h
  cases x with
  | int i =>
    cases y with
    | int j => exact op_pow pins s σ H _ _ v u Q I rx ry ⟨i, j, rfl, rfl, h.1, h.2⟩
    | _ => exact (show False from h).elim
  | _ => exact (show False from (by cases y <;> exact h)).elim
theorem u_lt : OpR X (compareOp .Lt) rLt := by
  intro pins s σ H x y v u Q I rx ry h
  cases x with
  | int i =>
    cases y with
    | int j => exact op_lt pins s σ H _ _ v u Q I rx ry ⟨i, j, rfl, rfl, h⟩
    | _ => exact (show False from h).elim
  | str i =>
    cases y with
    | str j => exact op_lt_str pins s σ H _ _ v u Q I rx ry ⟨i, j, rfl, rfl, h⟩
    | _ => exact (show False from h).elim
  | _ => exact (show False from (by cases y <;> exact h)).elim
theorem u_le : OpR X (compareOp .LtE) rLe := by
  intro pins s σ H x y v u Q I rx ry h
  cases x with
  | int i =>
    cases y with
    | int j => exact op_le pins s σ H _ _ v u Q I rx ry ⟨i, j, rfl, rfl, h⟩
    | _ => exact (show False from h).elim
  | _ => exact (show False from (by cases y <;> exact h)).elim
theorem u_gt : OpR X (compareOp .Gt) rGt := by
  intro pins s σ H x y v u Q I rx ry h
  cases x with
  | int i =>
    cases y with
    | int j => exact op_gt pins s σ H _ _ v u Q I rx ry ⟨i, j, rfl, rfl, h⟩
    | _ => exact (show False from h).elim
  | _ => exact (show False from (by cases y <;> exact h)).elim
theorem u_ge : OpR X (compareOp .GtE) rGe := by
  intro pins s σ H x y v u Q I rx ry h
  cases x with
  | int i =>
    cases y with
    | int j => exact op_ge pins s σ H _ _ v u Q I rx ry ⟨i, j, rfl, rfl, h⟩
    | _ => exact (show False from h).elim
  | _ => exact (show False from (by cases y <;> exact h)).elim
theorem u_isN : OpR X (compareOp .Is) rIsN := op_isN
theorem u_notN : OpR X (compareOp .IsNot) rNotN := op_notN
theorem u_eq (hu : X.A.units + 64 < cLine) : OpR X (compareOp .Eq) (rEqU X.K) := op_eq.or (op_eqD hu)
theorem u_ne (hu : X.A.units + 64 < cLine) : OpR X (compareOp .NotEq) (rNeU X.K) := op_ne.or (op_neD hu)
theorem ix_dict (hu : X.A.units + 64 < cLine) : IxR X rIxD := by
  intro value slice pins s σ H x y v u Q I rx ry h hs
  obtain ⟨a, z, rfl, g, q⟩ := h
  cases rx
  have hu1 : X.A.units + 1 < cLine := by omega
  exact tail_any (dict_typeIs I g) PySem.F.slot_dict_getitem.lookup (d_getItem hu1 I g ry fun w' s3 I3 rw' => ⟨z, H, I3, rw', q⟩) hs
theorem u_ix (hu : X.A.units + 64 < cLine) : IxR X (rIxU X.K) := ix_list.or (ix_tup.or (ix_str.or (ix_dict hu)))
theorem op_inD (hu : X.A.units + 64 < cLine) : OpR X (compareOp .In) rInD := by
  intro pins s σ H x y v u Q I rx ry h
  obtain ⟨a, o, rfl, g, q⟩ := h
  cases ry
  have hu1 : X.A.units + 1 < cLine := by omega
  exact d_in hu1 I g rx fun s3 I3 => ⟨.bl o.isSome, H, I3, rfl, q⟩
theorem op_notinD (hu : X.A.units + 64 < cLine) : OpR X (compareOp .NotIn) rNotInD := by
  intro pins s σ H x y v u Q I rx ry h
  obtain ⟨a, o, rfl, g, q⟩ := h
  cases ry
  have hu1 : X.A.units + 1 < cLine := by omega
  exact d_notIn hu1 I g rx fun s3 I3 => ⟨.bl (!o.isSome), H, I3, rfl, q⟩
theorem u_in (hu : X.A.units + 64 < cLine) : OpR X (compareOp .In) (rInU X.K) := op_in_seq.or ((op_inD hu).or op_in_str)
theorem u_notin (hu : X.A.units + 64 < cLine) : OpR X (compareOp .NotIn) (rNotInU X.K) := op_notIn_seq.or ((op_notinD hu).or op_notin_str)
theorem set_dict (hu : X.A.units + 64 < cLine) : PSet X rSetD := by
  intro pins s σ H o i v ov iv u Q I ro ri rv h
  obtain ⟨a, H', rfl, g, q⟩ := h
  cases ro
  have hu1 : X.A.units + 1 < cLine := by omega
  exact d_setItem hu1 I g ri rv fun s4 I4 => ⟨H', I4, q⟩
theorem u_set (hu : X.A.units + 64 < cLine) : PSet X rSetU := by
  intro pins s σ H o i v ov iv u Q I ro ri rv h
  rcases h with h | h
  · exact set_list pins s σ H o i v ov iv u Q I ro ri rv h
  · exact set_dict hu pins s σ H o i v ov iv u Q I ro ri rv h
theorem u_iadd : OpR X (inplaceOp .Add) rIAddU := by
  intro pins s σ H x y v u Q I rx ry h
  cases x with
  | int i =>
    cases y with
    | int j => exact iop_add pins s σ H _ _ v u Q I rx ry ⟨i, j, rfl, rfl, h⟩
    | _ => exact (show False from h).elim
  | str i =>
    cases y with
    | str j => exact iop_add_str pins s σ H _ _ v u Q I rx ry ⟨i, j, rfl, rfl, h.1, h.2⟩
    | _ => exact (show False from h).elim
  | ref l =>
    cases y with
    | ref b => exact iop_ext pins s σ H _ _ v u Q I rx ry h
    | _ => exact (show False from h).elim
  | _ => exact (show False from (by cases y <;> exact h)).elim
theorem u_isub : OpR X (inplaceOp .Sub) rSubU := by
  intro pins s σ H x y v u Q I rx ry h
  cases x with
  | int i =>
    cases y with
    | int j => exact iop_sub pins s σ H _ _ v u Q I rx ry ⟨i, j, rfl, rfl, h⟩
    | _ => exact (show False from h).elim
  | _ => exact (show False from (by cases y <;> exact h)).elim
theorem in_of {op : Operator} {r : R2} (h : OpR X (inplaceOp op) r) : InOp X op r := fun pins s σ H x y u v Q I rx ry q => h pins s σ H x y u v Q I rx ry q
theorem ip_of {op : Operator} {r : R2} (h : OpR X (inplaceOp op) r) : PIp X op r := fun pins s σ H x y u v Q I rx ry q => h pins s σ H x y u v Q I rx ry q
theorem pt_tru {a : Expr} {ta : TE} (ha : PE X a ta) (he : ∀ whole, isTrue a X.env whole = (do let v ← whole; standAt a.pos; holding [v] (truthy v)) := by intro _; rfl) : PT X a (tTruth X.K ta) := pt_truth ha he
/-- what leaves a def -/
theorem passX {P : Program} {w : World} {K : PySem.W.Frag} {mg : Str → Option Value} {base : Heap} {N : List Str} {q : Str} {sc : Scope} {f : Addr} {cd : Value} {A : Around} {outer : List Env} {s : Shared} {H : Hp} {E : XK} :
    Passes (L2.CX P w) (cxOf (L2.CX P w) P w K mg base N q sc f cd A outer s H E) E := passes_call (takes_of rfl rfl rfl rfl) fun _ _ _ _ h => h
theorem pe_gint {x : Str} {i : Int} {pos : Pos} (hg : Gl X x) (hm : ∃ t, X.mg x = some (.int i t)) (hd : (x == ("__debug__" : Str)) = false := by decide) : PE X (.Name x pos) (tC (.int i)) := by
  obtain ⟨t, h⟩ := hm
  exact pe_glob hg h ⟨t, rfl⟩ hd
theorem pe_gstr {x z : Str} {pos : Pos} (hg : Gl X x) (hm : ∃ t, X.mg x = some (.str z t)) (hd : (x == ("__debug__" : Str)) = false := by decide) : PE X (.Name x pos) (tC (.str z)) := by
  obtain ⟨t, h⟩ := hm
  exact pe_glob hg h ⟨t, rfl⟩ hd
end
end Ph
namespace Ph
open PySem PySem.Spec PyProof.Rows L2
/-! ### more rules by values -/
def rSlU (K : PySem.W.Frag) : V → Option Int → Option Int → Hp → VK → Prop := fun x lo hi H Q => rSlL K x lo hi H Q ∨ rSlS x lo hi H Q ∨ rSlT K x lo hi H Q
theorem u_sl {X : Cx} : SlR X (rSlU X.K) := sl_list.or (sl_str.or sl_tup)
def rLenU (K : PySem.W.Frag) : List V → Hp → VK → Prop := fun xs H Q => (∃ x n, xs = [x] ∧ LenV K x H n ∧ Q (.int n) H) ∨ ∃ a kvs, xs = [V.ref a] ∧ H a = some (.dK kvs) ∧ Q (.int kvs.length) H
theorem u_len {X : Cx} : CallR X (.builtin "len") (rLenU X.K) := call_len.or call_lenD
def rAbs : List V → Hp → VK → Prop := fun xs H Q => ∃ i, xs = [.int i] ∧ Q (.int (if i < 0 then -i else i)) H
def rMax2 : List V → Hp → VK → Prop := fun xs H Q => ∃ i j, xs = [.int i, .int j] ∧ Q (.int (if j > i then j else i)) H
def rMin2 : List V → Hp → VK → Prop := fun xs H Q => ∃ i j, xs = [.int i, .int j] ∧ Q (.int (if j < i then j else i)) H
def rInt1 : List V → Hp → VK → Prop := fun xs H Q => (∃ i, xs = [.int i] ∧ Q (.int i) H) ∨ ∃ k, xs = [.bl k] ∧ Q (.int (if k then 1 else 0)) H
def rNeg : V → Hp → VK → Prop := rU fun i => .int (-i)
def tRaiseE (C : Addr) (E : XK) : TS := fun _ _ H => E (.ref C) none H
abbrev lamq (q : Str) : Str := q ++ ".<locals>." ++ "<lambda>"
/-! ### by places -/
inductive SetAt (v : V) : Nat → L2.St → L2.St → Prop
  | here {x : Option V} {σ : L2.St} : SetAt v 0 (x :: σ) (some v :: σ)
  | there {i : Nat} {x : Option V} {σ σ' : L2.St} : SetAt v i σ σ' → SetAt v (i + 1) (x :: σ) (x :: σ')
theorem SetAt.ok {v : V} : ∀ {i σ σ'}, SetAt v i σ σ' → σ.set i (some v) = σ'
  | _, _, _, .here => rfl
  | _, _, _, .there h => by rw [List.set_cons_succ, h.ok]
inductive LSet (v : V) : Nat → List V → List V → Prop
  | here {x : V} {r : List V} : LSet v 0 (x :: r) (v :: r)
  | there {i : Nat} {x : V} {r r' : List V} : LSet v i r r' → LSet v (i + 1) (x :: r) (x :: r')
theorem LSet.ok {v : V} : ∀ {i r r'}, LSet v i r r' → r.set i v = r'
  | _, _, _, .here => rfl
  | _, _, _, .there h => by rw [List.set_cons_succ, h.ok]
inductive Lk (f : Str) : List (Str × V) → V → Prop
  | here {v : V} {fs : List (Str × V)} : Lk f ((f, v) :: fs) v
  | there {g : Str} {x : V} {fs : List (Str × V)} {v : V} : f ≠ g → Lk f fs v → Lk f ((g, x) :: fs) v
theorem Lk.ok {f : Str} : ∀ {fs v}, Lk f fs v → fs.lookup f = some v
  | _, _, .here => by simp [List.lookup]
  | _, _, .there n h => by
    rw [List.lookup_cons, show (f == _) = false from beq_eq_false_iff_ne.mpr n]
    exact h.ok
inductive NoLk (f : Str) : List (Str × V) → Prop
  | nil : NoLk f []
  | there {g : Str} {x : V} {fs : List (Str × V)} : f ≠ g → NoLk f fs → NoLk f ((g, x) :: fs)
theorem NoLk.ok {f : Str} : ∀ {fs}, NoLk f fs → fs.lookup f = none
  | _, .nil => rfl
  | _, .there n h => by
    rw [List.lookup_cons, show (f == _) = false from beq_eq_false_iff_ne.mpr n]
    exact h.ok
inductive Put (f : Str) (v : V) : List (Str × V) → List (Str × V) → Prop
  | nil : Put f v [] [(f, v)]
  | here {x : V} {fs : List (Str × V)} : Put f v ((f, x) :: fs) ((f, v) :: fs)
  | there {g : Str} {x : V} {fs fs' : List (Str × V)} : g ≠ f → Put f v fs fs' → Put f v ((g, x) :: fs) ((g, x) :: fs')
theorem Put.ok {f : Str} {v : V} : ∀ {fs fs'}, Put f v fs fs' → putF f v fs = fs'
  | _, _, .nil => rfl
  | _, _, .here => if_pos rfl
  | _, _, .there (g := g) (x := x) (fs := fs) n h => by
    have e : putF f v ((g, x) :: fs) = if g = f then (g, v) :: fs else (g, x) :: putF f v fs := rfl
    rw [e, if_neg n, h.ok]
/-- a dict's entry -/
inductive Dk (k : Key) : List (Key × V) → V → Prop
  | here {v : V} {r : List (Key × V)} : Dk k ((k, v) :: r) v
  | there {g : Key} {x : V} {r : List (Key × V)} {v : V} : g ≠ k → Dk k r v → Dk k ((g, x) :: r) v
theorem Dk.ok {k : Key} : ∀ {r v}, Dk k r v → valV r k = some v
  | _, _, .here => valV_pos rfl
  | _, _, .there n h => by rw [valV_neg n]; exact h.ok
inductive DNo (k : Key) : List (Key × V) → Prop
  | nil : DNo k []
  | there {g : Key} {x : V} {r : List (Key × V)} : g ≠ k → DNo k r → DNo k ((g, x) :: r)
theorem DNo.ok {k : Key} : ∀ {r}, DNo k r → valV r k = none
  | _, .nil => rfl
  | _, .there n h => by rw [valV_neg n]; exact h.ok
/-- put where it is there -/
inductive DPt (k : Key) (v : V) : List (Key × V) → List (Key × V) → Prop
  | here {x : V} {r : List (Key × V)} : DNo k r → DPt k v ((k, x) :: r) ((k, v) :: r)
  | there {g : Key} {x : V} {r r' : List (Key × V)} : g ≠ k → DPt k v r r' → DPt k v ((g, x) :: r) ((g, x) :: r')
theorem DNo.map {k : Key} {v : V} : ∀ {r}, DNo k r → (r.map fun kv => if kv.1 = k then (kv.1, v) else kv) = r
  | _, .nil => rfl
  | _, .there n h => by rw [List.map_cons, h.map, if_neg n]
theorem DPt.map {k : Key} {v : V} : ∀ {r r'}, DPt k v r r' → (r.map fun kv => if kv.1 = k then (kv.1, v) else kv) = r'
  | _, _, .here h => by rw [List.map_cons, h.map, if_pos rfl]
  | _, _, .there n h => by rw [List.map_cons, h.map, if_neg n]
theorem DPt.any {k : Key} {v : V} : ∀ {r r'}, DPt k v r r' → (r.any fun kv => decide (kv.1 = k)) = true
  | _, _, .here _ => by simp
  | _, _, .there _ h => by rw [List.any_cons, h.any, Bool.or_true]
theorem DPt.ok {k : Key} {v : V} {r r' : List (Key × V)} (h : DPt k v r r') : putK r k v = r' := by
  unfold putK
  rw [if_pos h.any, h.map]
theorem DPt.length {k : Key} {v : V} : ∀ {r r'}, DPt k v r r' → r'.length = r.length
  | _, _, .here _ => rfl
  | _, _, .there _ h => by rw [List.length_cons, List.length_cons, h.length]
/-! ### what waits for a value -/
section
variable (K : PySem.W.Frag)
def kTup (Q : VK) : List V → Hp → Prop := fun xs H1 => xs.length ≤ sizeLine ∧ ∀ p, H1 p = none → Q (.ref p) (upd H1 p (.tup xs))
def kLst (Q : VK) : List V → Hp → Prop := fun xs H1 => xs.length ≤ sizeLine ∧ ∀ p, H1 p = none → Q (.ref p) (upd H1 p (.lst xs))
def kFld (f : Str) (Q : VK) : VK := fun x H1 => ∃ a C dx fs v, x = .ref a ∧ H1 a = some (.ins C dx fs) ∧ Cls K C ∧ NoAttr K C f ∧ fs.lookup f = some v ∧ Q v H1
def kSetF (f : Str) (A : L2.St → Hp → Prop) (σ : L2.St) (y : V) : VK := fun x H2 => ∃ a C dx fs, x = .ref a ∧ H2 a = some (.ins C dx fs) ∧ Cls K C ∧ NoAttr K C f ∧ fs.length < 1000 ∧ A σ (upd H2 a (.ins C dx (putF f y fs)))
def kAugG (f : Str) (a C : Addr) (A : L2.St → Hp → Prop) (σ : L2.St) : VK := fun z H3 => ∃ dx' fs', H3 a = some (.ins C dx' fs') ∧ fs'.length < 1000 ∧ A σ (upd H3 a (.ins C dx' (putF f z fs')))
def kAugF (f : Str) (tv : TE) (rd : R2) (A : L2.St → Hp → Prop) (σ : L2.St) : VK := fun x H1 => ∃ a C dx fs v, x = .ref a ∧ H1 a = some (.ins C dx fs) ∧ Cls K C ∧ NoAttr K C f ∧ fs.lookup f = some v ∧
    tv σ H1 fun y H2 => rd v y H2 (kAugG f a C A σ)
def kTest (Qb : Bool → Hp → Prop) : VK := fun x H1 => ∃ k, x = .bl k ∧ Qb k H1
def kTru (Qb : Bool → Hp → Prop) : VK := fun x H1 => ∃ k, TruV K x H1 k ∧ Qb k H1
def kAndV (σ : L2.St) (tb : TE) (Q : VK) : VK := fun x H1 => ∃ c, x = .bl c ∧ if c = true then tb σ H1 Q else Q (.bl false) H1
def kOrV (σ : L2.St) (tb : TE) (Q : VK) : VK := fun x H1 => ∃ c, x = .bl c ∧ if c = true then Q (.bl true) H1 else tb σ H1 Q
def kNotV (Q : VK) : VK := fun x H1 => ∃ c, x = .bl c ∧ Q (.bl (!c)) H1
def kChain (r' : R2) (σ : L2.St) (tc : TE) (y : V) (Q : VK) : VK := fun z H3 => ∃ k, z = .bl k ∧ (if k = true then tc σ H3 fun w' H4 => r' y w' H4 Q else Q (.bl false) H3)
def kMeth (C : Addr) (m : Str) (σ : L2.St) (tr : TA) (Z : V → List V → Hp → Prop) : VK := fun x H1 => ∃ a dx fs, x = .ref a ∧ H1 a = some (.ins C dx fs) ∧ fs.lookup m = none ∧ tr σ H1 fun vs H2 => Z x vs H2
def kInit (Q : VK) (x : Addr) : VK := fun v H2 => v = .non ∧ Q (.ref x) H2
def kMake (C : Addr) (sp : Sp) (dvs : List V) (E : XK) (Q : VK) : List V → Hp → Prop := fun vs H1 => ∀ x dx, H1 x = none → H1 dx = none → dx ≠ x → sp (.ref x :: (vs ++ dvs)) (upd (upd H1 dx (.own x)) x (.ins C dx [])) (kInit Q x) E
def kBm (T : String) (r : V → List V → Hp → VK → Prop) (σ : L2.St) (tr : TA) (Q : VK) : VK := fun x H1 => tyV K T x H1 ∧ tr σ H1 fun xs H2 => r x xs H2 Q
def kPar2 (i j : Nat) (σ : L2.St) (A : L2.St → Hp → Prop) : List V → Hp → Prop := fun vs H1 => ∃ v w, vs = [v, w] ∧ gName i v σ H1 fun σ1 H2 => gName j w σ1 H2 A
def kPar3 (i j l : Nat) (σ : L2.St) (A : L2.St → Hp → Prop) : List V → Hp → Prop := fun vs H1 => ∃ u v w, vs = [u, v, w] ∧ gName i u σ H1 fun σ1 H2 => gName j v σ1 H2 fun σ2 H3 => gName l w σ2 H3 A
def kCall (sp : Sp) (dvs : List V) (E : XK) (Q : VK) : List V → Hp → Prop := fun vs H1 => sp (vs ++ dvs) H1 Q E
end
/-! ### statements -/
section
variable {K : PySem.W.Frag} {A : L2.St → Hp → Prop} {Bt : VK} {Cb Dc : L2.St → Hp → Prop} {σ σ' : L2.St} {B H : Hp} {Q : VK} {R : L2.St → Hp → Prop} {L L' : List (Addr × HO)} {I : List Im}
theorem s_nx (h : A σ H) : Ends.nx ⟨A, Bt, Cb, Dc⟩ σ H := h
theorem s_rt {v : V} (h : Bt v H) : Ends.rt ⟨A, Bt, Cb, Dc⟩ v H := h
theorem s_bk (h : Cb σ H) : Ends.bk ⟨A, Bt, Cb, Dc⟩ σ H := h
theorem s_ct (h : Dc σ H) : Ends.ct ⟨A, Bt, Cb, Dc⟩ σ H := h
theorem s_seq {t u : TS} (h : t ⟨u ⟨A, Bt, Cb, Dc⟩, Bt, Cb, Dc⟩ σ H) : tSeq t u ⟨A, Bt, Cb, Dc⟩ σ H := h
theorem s_next (h : A σ H) : tNext ⟨A, Bt, Cb, Dc⟩ σ H := h
theorem s_break (h : Cb σ H) : tBreak ⟨A, Bt, Cb, Dc⟩ σ H := h
theorem s_cont (h : Dc σ H) : tCont ⟨A, Bt, Cb, Dc⟩ σ H := h
theorem s_asg {te : TE} {g : TG} (h : te σ H fun x H1 => g x σ H1 A) : tAsg te g ⟨A, Bt, Cb, Dc⟩ σ H := h
theorem s_asg2 {te : TE} {g g2 : TG} (h : te σ H fun x H1 => g x σ H1 fun σ1 H2 => g2 x σ1 H2 A) : tAsg2 te g g2 ⟨A, Bt, Cb, Dc⟩ σ H := h
theorem s_name {i : Nat} {v : V} (h : SetAt v i σ σ') (q : R σ' H) : gName i v σ H R := by
  show R (σ.set i (some v)) H
  rw [h.ok]
  exact q
theorem s_ret {te : TE} (h : te σ H Bt) : tRet te ⟨A, Bt, Cb, Dc⟩ σ H := h
theorem s_retN (h : Bt .non H) : tRetN ⟨A, Bt, Cb, Dc⟩ σ H := h
theorem s_drop {te : TE} (h : te σ H fun _ H1 => A σ H1) : tDrop te ⟨A, Bt, Cb, Dc⟩ σ H := h
theorem s_if {c : TT} {t u : TS} (h : c σ H fun b H1 => if b = true then t ⟨A, Bt, Cb, Dc⟩ σ H1 else u ⟨A, Bt, Cb, Dc⟩ σ H1) : tIfS c t u ⟨A, Bt, Cb, Dc⟩ σ H := h
theorem s_aug {i : Nat} {te : TE} {ti : TIp} {x : V} (e : σ[i]? = some (some x)) (h : te σ H fun y H1 => ti x y H1 fun z H2 => gName i z σ H2 A) : tAug i te ti ⟨A, Bt, Cb, Dc⟩ σ H := ⟨x, e, h⟩
theorem s_par {i j : Nat} {ta : TA} (h : ta σ H (kPar2 i j σ A)) : tPar i j ta ⟨A, Bt, Cb, Dc⟩ σ H := h
theorem s_par3 {i j l : Nat} {ta : TA} (h : ta σ H (kPar3 i j l σ A)) : tPar3 i j l ta ⟨A, Bt, Cb, Dc⟩ σ H := h
theorem s_par2V {i j : Nat} {v w : V} (h : gName i v σ H fun σ1 H2 => gName j w σ1 H2 A) : kPar2 i j σ A [v, w] H := ⟨v, w, rfl, h⟩
theorem s_par3V {i j l : Nat} {u v w : V} (h : gName i u σ H fun σ1 H2 => gName j v σ1 H2 fun σ2 H3 => gName l w σ2 H3 A) : kPar3 i j l σ A [u, v, w] H := ⟨u, v, w, rfl, h⟩
theorem s_raise {C : Addr} {E : XK} (h : E (.ref C) none H) : tRaiseE C E ⟨A, Bt, Cb, Dc⟩ σ H := h
/-! ### expressions -/
variable {ta tb te : TE} {tr : TA} {v x y : V}
theorem s_var {i : Nat} (e : σ[i]? = some (some v)) (h : Q v H) : tVar i σ H Q := ⟨v, e, h⟩
theorem s_c (h : Q v H) : tC v σ H Q := h
theorem s_op {r : R2} (h : ta σ H fun x H1 => tb σ H1 fun y H2 => r x y H2 Q) : tOp r ta tb σ H Q := h
theorem s_un {r : V → Hp → VK → Prop} (h : ta σ H fun x H1 => r x H1 Q) : tUn r ta σ H Q := h
theorem s_cons {Qa : List V → Hp → Prop} (h : te σ H fun x H1 => tr σ H1 fun xs H2 => Qa (x :: xs) H2) : tCons te tr σ H Qa := h
theorem s_nil {Qa : List V → Hp → Prop} (h : Qa [] H) : tNil σ H Qa := h
theorem s_tup (h : tr σ H (kTup Q)) : tTup tr σ H Q := h
theorem s_lst (h : tr σ H (kLst Q)) : tLst tr σ H Q := h
theorem s_tupN {xs : List V} (hC : Ctx K B H L I) (hz : xs.length ≤ 1000) (k : ∀ p H1, Ctx K B H1 L (.tup p xs :: I) → Q (.ref p) H1) : kTup Q xs H :=
  ⟨Nat.le_trans hz (by decide), fun p hp => k p _ (hC.newT hp)⟩
theorem s_lstN {xs : List V} (hC : Ctx K B H L I) (hz : xs.length ≤ 1000) (k : ∀ p H1, Ctx K B H1 ((p, .lst xs) :: L) I → Q (.ref p) H1) : kLst Q xs H :=
  ⟨Nat.le_trans hz (by decide), fun p hp => k p _ (hC.newM hp rfl)⟩
theorem s_dnewK (hC : Ctx K B H L I) (k : ∀ p H1, Ctx K B H1 ((p, .dK []) :: L) I → Q (.ref p) H1) : tDNewK σ H Q := fun p hp => k p _ (hC.newM hp rfl)
theorem s_dnewT (hC : Ctx K B H L I) (k : ∀ p H1, Ctx K B H1 ((p, .dT []) :: L) I → Q (.ref p) H1) : tDNewT σ H Q := fun p hp => k p _ (hC.newM hp rfl)
theorem s_fld {f : Str} (h : ta σ H (kFld K f Q)) : tFld K ta f σ H Q := h
theorem s_fldV {f : Str} {a C dx : Addr} {fs : List (Str × V)} (m : H a = some (.ins C dx fs)) (c : Cls K C) (n : NoAttr K C f) (l : Lk f fs v) (q : Q v H) : kFld K f Q (.ref a) H := ⟨a, C, dx, fs, v, rfl, m, c, n, l.ok, q⟩
theorem s_setF {f : Str} {tv : TE} (h : tv σ H fun y H1 => ta σ H1 (kSetF K f A σ y)) : sFld K ta tv f ⟨A, Bt, Cb, Dc⟩ σ H := h
theorem s_setV {f : Str} {a C dx : Addr} {fs fs' : List (Str × V)} (hC : Ctx K B H L I) (m : H a = some (.ins C dx fs)) (c : Cls K C) (n : NoAttr K C f) (z : fs.length < 1000) (p : Put f y fs fs') (u : Up a (.ins C dx fs') L L')
    (k : ∀ H1, Ctx K B H1 L' I → A σ H1) : kSetF K f A σ y (.ref a) H :=
  ⟨a, C, dx, fs, rfl, m, c, n, z, by rw [p.ok]; exact k _ (hC.put u rfl)⟩
theorem s_augF {f : Str} {tv : TE} {rd : R2} (h : ta σ H (kAugF K f tv rd A σ)) : sFldAug K ta tv rd f ⟨A, Bt, Cb, Dc⟩ σ H := h
theorem s_augV {f : Str} {a C dx : Addr} {fs : List (Str × V)} {tv : TE} {rd : R2} (m : H a = some (.ins C dx fs)) (c : Cls K C) (n : NoAttr K C f) (l : Lk f fs v) (q : tv σ H fun y H2 => rd v y H2 (kAugG f a C A σ)) : kAugF K f tv rd A σ (.ref a) H := ⟨a, C, dx, fs, v, rfl, m, c, n, l.ok, q⟩
theorem s_augW {f : Str} {a C dx : Addr} {fs fs' : List (Str × V)} (hC : Ctx K B H L I) (m : H a = some (.ins C dx fs)) (z : fs.length < 1000) (p : Put f y fs fs') (u : Up a (.ins C dx fs') L L')
    (k : ∀ H1, Ctx K B H1 L' I → A σ H1) : kAugG f a C A σ y H := ⟨dx, fs, m, z, by rw [p.ok]; exact k _ (hC.put u rfl)⟩
theorem s_addI {i j : Int} (h : Q (.int (i + j)) H) : rAddU K (.int i) (.int j) H Q := h
theorem s_addS {i j : Str} (z : i.length + j.length ≤ sizeLine) (h : Q (.str (i ++ j)) H) : rAddU K (.str i) (.str j) H Q := ⟨z, h⟩
theorem s_addL {l b : Addr} {xs zs : List V} (hC : Ctx K B H L I) (h1 : H l = some (.lst xs)) (h2 : H b = some (.lst zs)) (z : xs.length + zs.length ≤ 100000) (k : ∀ p H1, Ctx K B H1 ((p, .lst (xs ++ zs)) :: L) I → Q (.ref p) H1) :
    rAddU K (.ref l) (.ref b) H Q := .inl ⟨xs, zs, h1, h2, Nat.le_trans z (by decide), fun p hp => k p _ (hC.newM hp rfl)⟩
theorem s_subI {i j : Int} (h : Q (.int (i - j)) H) : rSubU (.int i) (.int j) H Q := h
theorem s_mulI {i j : Int} (c : CMul i j) (h : Q (.int (i * j)) H) : rMulU (.int i) (.int j) H Q := ⟨c, h⟩
theorem s_divI {i j : Int} (c : CDiv i j) (h : Q (.int (i / j)) H) : rDivU (.int i) (.int j) H Q := ⟨c, h⟩
theorem s_modI {i j : Int} (c : 0 < j) (h : Q (.int (i % j)) H) : rModU (.int i) (.int j) H Q := ⟨c, h⟩
theorem s_powI {i j : Int} (c : CPow i j) (h : Q (.int (i ^ j.toNat)) H) : rPowU (.int i) (.int j) H Q := ⟨c, h⟩
theorem s_negI {i : Int} (h : Q (.int (-i)) H) : rNeg (.int i) H Q := ⟨i, rfl, h⟩
theorem s_iaddI {i j : Int} (h : Q (.int (i + j)) H) : rIAddU (.int i) (.int j) H Q := h
theorem s_ltI {i j : Int} (h : Q (.bl (decide (i < j))) H) : rLt (.int i) (.int j) H Q := h
theorem s_leI {i j : Int} (h : Q (.bl (decide (i ≤ j))) H) : rLe (.int i) (.int j) H Q := h
theorem s_gtI {i j : Int} (h : Q (.bl (decide (j < i))) H) : rGt (.int i) (.int j) H Q := h
theorem s_geI {i j : Int} (h : Q (.bl (decide (j ≤ i))) H) : rGe (.int i) (.int j) H Q := h
theorem s_isN_non (h : Q (.bl true) H) : rIsN .non .non H Q := ⟨rfl, h⟩
theorem s_isN_ref {a : Addr} (h : Q (.bl false) H) : rIsN (.ref a) .non H Q := ⟨rfl, h⟩
theorem s_isN_int {i : Int} (h : Q (.bl false) H) : rIsN (.int i) .non H Q := ⟨rfl, h⟩
theorem s_isN_str {i : Str} (h : Q (.bl false) H) : rIsN (.str i) .non H Q := ⟨rfl, h⟩
theorem s_isN_bl {i : Bool} (h : Q (.bl false) H) : rIsN (.bl i) .non H Q := ⟨rfl, h⟩
theorem s_notN_non (h : Q (.bl false) H) : rNotN .non .non H Q := ⟨rfl, h⟩
theorem s_notN_ref {a : Addr} (h : Q (.bl true) H) : rNotN (.ref a) .non H Q := ⟨rfl, h⟩
theorem s_notN_int {i : Int} (h : Q (.bl true) H) : rNotN (.int i) .non H Q := ⟨rfl, h⟩
theorem s_notN_str {i : Str} (h : Q (.bl true) H) : rNotN (.str i) .non H Q := ⟨rfl, h⟩
theorem s_notN_bl {i : Bool} (h : Q (.bl true) H) : rNotN (.bl i) .non H Q := ⟨rfl, h⟩
theorem s_eqI {i j : Int} (h : Q (.bl (decide (i = j))) H) : rEqU K (.int i) (.int j) H Q := .inl ⟨rfl, by rw [show decide (V.int i = V.int j) = decide (i = j) from by simp]; exact h⟩
theorem s_neI {i j : Int} (h : Q (.bl (!decide (i = j))) H) : rNeU K (.int i) (.int j) H Q := .inl ⟨rfl, by rw [show decide (V.int i = V.int j) = decide (i = j) from by simp]; exact h⟩
theorem s_eqS {i j : Str} (h : Q (.bl (decide (i = j))) H) : rEqU K (.str i) (.str j) H Q := .inl ⟨rfl, by rw [show decide (V.str i = V.str j) = decide (i = j) from by simp]; exact h⟩
theorem s_neS {i j : Str} (h : Q (.bl (!decide (i = j))) H) : rNeU K (.str i) (.str j) H Q := .inl ⟨rfl, by rw [show decide (V.str i = V.str j) = decide (i = j) from by simp]; exact h⟩
theorem s_eqB {i j : Bool} (h : Q (.bl (i == j)) H) : rEqU K (.bl i) (.bl j) H Q := .inl ⟨rfl, by rw [show decide (V.bl i = V.bl j) = (i == j) from by cases i <;> cases j <;> rfl]; exact h⟩
theorem s_neB {i j : Bool} (h : Q (.bl (i != j)) H) : rNeU K (.bl i) (.bl j) H Q := .inl ⟨rfl, by rw [show (!decide (V.bl i = V.bl j)) = (i != j) from by cases i <;> cases j <;> rfl]; exact h⟩
theorem s_eqNS {j : Str} (h : Q (.bl false) H) : rEqU K .non (.str j) H Q := .inl ⟨rfl, h⟩
theorem s_neNS {j : Str} (h : Q (.bl true) H) : rNeU K .non (.str j) H Q := .inl ⟨rfl, h⟩
theorem s_eqD {d e : PyData} (h1 : Dp K H x d) (h2 : Dp K H y e) (s1 : SeqAt.shaped d = true) (s2 : SeqAt.shaped e = true) (h : Q (.bl (PyData.eqv d e)) H) : rEqU K x y H Q := .inr ⟨d, e, h1, h2, s1, s2, h⟩
theorem s_neD {d e : PyData} (h1 : Dp K H x d) (h2 : Dp K H y e) (s1 : SeqAt.shaped d = true) (s2 : SeqAt.shaped e = true) (h : Q (.bl (!PyData.eqv d e)) H) : rNeU K x y H Q := .inr ⟨d, e, h1, h2, s1, s2, h⟩
/-- an item of a tuple, of a list, at a place -/
theorem s_ixT {a : Addr} {xs : List V} {j : Nat} (h : SqT K H a xs) (e : xs[j]? = some v) (q : Q v H) : rIxU K (.ref a) (.int (j : Nat)) H Q := .inr (.inl ⟨a, xs, j, v, rfl, rfl, h, atI_nat e, q⟩)
theorem s_ixL {a : Addr} {xs : List V} {i : Int} (h : H a = some (.lst xs)) (e : atI xs i = some v) (q : Q v H) : rIxU K (.ref a) (.int i) H Q := .inl ⟨a, xs, i, v, rfl, rfl, SqL.of h, e, q⟩
theorem s_ixD {a : Addr} {r : List (Key × V)} {k : Str} (h : H a = some (.dK r)) (e : Dk (Sum.inr k) r v) (q : Q v H) : rIxU K (.ref a) (.str k) H Q :=
  .inr (.inr (.inr ⟨a, v, rfl, by rw [← e.ok]; exact DGet.k (k := Sum.inr k) h, q⟩))
theorem s_subG {to ti : TE} {t : TSet} (h : to σ H fun o H1 => ti σ H1 fun i H2 => t o i v H2 fun H3 => R σ H3) : gSub to ti t v σ H R := h
theorem s_putD {a : Addr} {r r' : List (Key × V)} {k : Str} {Z : Hp → Prop} (hC : Ctx K B H L I) (h : H a = some (.dK r)) (z : r.length < 1000) (e : DPt (Sum.inr k) v r r') (u : Up a (.dK r') L L') (q : ∀ H1, Ctx K B H1 L' I → Z H1) : rSetU (.ref a) (.str k) v H Z :=
  .inr ⟨a, upd H a (.dK (putK r (Sum.inr k) v)), rfl, DPut.k (k := Sum.inr k) h (Nat.lt_of_lt_of_le z (by decide)), by rw [e.ok]; exact q _ (hC.put u rfl)⟩
theorem s_putL {a : Addr} {xs xs' : List V} {i : Int} {j : Nat} {Z : Hp → Prop} (hC : Ctx K B H L I) (h : H a = some (.lst xs)) (e : ixN xs.length i = some j) (w : LSet v j xs xs') (u : Up a (.lst xs') L L') (q : ∀ H1, Ctx K B H1 L' I → Z H1) : rSetU (.ref a) (.int i) v H Z :=
  .inl ⟨a, xs, i, j, rfl, rfl, h, e, by rw [w.ok]; exact q _ (hC.put u rfl)⟩
theorem s_gtup {n : Nat} {t : TGs} {a : Addr} {xs : List V} (h : SqT K H a xs) (z : xs.length = n) (q : t xs σ H R) : gTup K n t (.ref a) σ H R := ⟨a, xs, rfl, h, z, q⟩
theorem s_gcons {t : TG} {u : TGs} {r : List V} (q : t v σ H fun σ1 H1 => u r σ1 H1 R) : gCons t u (v :: r) σ H R := ⟨v, r, rfl, q⟩
theorem s_gnil (q : R σ H) : gNil [] σ H R := ⟨rfl, q⟩
/-! ### tests -/
variable {t u : TT} {Qb : Bool → Hp → Prop} {b : Bool}
theorem s_test (h : te σ H (kTest Qb)) : tTest te σ H Qb := h
theorem s_bl (h : Qb b H) : kTest Qb (.bl b) H := ⟨b, rfl, h⟩
theorem s_and (h : t σ H fun c H1 => if c = true then u σ H1 Qb else Qb false H1) : tAnd t u σ H Qb := h
theorem s_or (h : t σ H fun c H1 => if c = true then Qb true H1 else u σ H1 Qb) : tOr t u σ H Qb := h
theorem s_not (h : t σ H fun c H1 => Qb (!c) H1) : tNot t σ H Qb := h
theorem s_tru (h : ta σ H (kTru K Qb)) : tTruth K ta σ H Qb := h
theorem s_truB (h : Qb b H) : kTru K Qb (.bl b) H := ⟨b, rfl, h⟩
theorem s_truN (h : Qb false H) : kTru K Qb .non H := ⟨false, rfl, h⟩
theorem s_andB (h : if b = true then tb σ H Q else Q (.bl false) H) : kAndV σ tb Q (.bl b) H := ⟨b, rfl, h⟩
theorem s_orB (h : if b = true then Q (.bl true) H else tb σ H Q) : kOrV σ tb Q (.bl b) H := ⟨b, rfl, h⟩
theorem s_notB (h : Q (.bl (!b)) H) : kNotV Q (.bl b) H := ⟨b, rfl, h⟩
theorem s_andV (h : ta σ H (kAndV σ tb Q)) : tAndV ta tb σ H Q := h
theorem s_orV (h : ta σ H (kOrV σ tb Q)) : tOrV ta tb σ H Q := h
theorem s_notV (h : ta σ H (kNotV Q)) : tNotV ta σ H Q := h
theorem s_ifE (h : t σ H fun c H1 => if c = true then ta σ H1 Q else tb σ H1 Q) : tIf t ta tb σ H Q := h
theorem s_chain {r r' : R2} {tc : TE} (h : ta σ H fun x H1 => tb σ H1 fun y H2 => r x y H2 (kChain r' σ tc y Q)) : tChain r r' ta tb tc σ H Q := h
theorem s_chainB {r' : R2} {tc : TE} (h : if b = true then tc σ H fun w' H4 => r' y w' H4 Q else Q (.bl false) H) : kChain r' σ tc y Q (.bl b) H := ⟨b, rfl, h⟩
theorem s_iteD {p : Prop} [Decidable p] {X Y : Prop} (h1 : p → X) (h2 : ¬ p → Y) : if decide p = true then X else Y := by
  by_cases h : p
  · rw [if_pos (decide_eq_true h)]
    exact h1 h
  · rw [if_neg (by rw [decide_eq_false h]; exact Bool.false_ne_true)]
    exact h2 h
theorem s_iteND {p : Prop} [Decidable p] {X Y : Prop} (h1 : ¬ p → X) (h2 : p → Y) : if (!decide p) = true then X else Y := by
  by_cases h : p
  · rw [decide_eq_true h]
    exact iteF (h2 h)
  · rw [decide_eq_false h]
    exact iteT (h1 h)
theorem s_iteB {X Y : Prop} (h1 : b = true → X) (h2 : b = false → Y) : if b = true then X else Y := by
  cases b with
  | true => exact iteT (h1 rfl)
  | false => exact iteF (h2 rfl)
theorem s_iteNB {X Y : Prop} (h1 : b = false → X) (h2 : b = true → Y) : if (!b) = true then X else Y := by
  cases b with
  | true => exact iteF (h2 rfl)
  | false => exact iteT (h1 rfl)
theorem s_iteNT {X Y : Prop} (h : Y) : if (!true) = true then X else Y := iteF h
theorem s_iteNF {X Y : Prop} (h : X) : if (!false) = true then X else Y := iteT h
theorem s_iteDT {p : Prop} [Decidable p] {X Y : Prop} (hp : p) (h : X) : if decide p = true then X else Y := by
  rw [decide_eq_true hp]
  exact iteT h
theorem s_iteDF {p : Prop} [Decidable p] {X Y : Prop} (hp : ¬ p) (h : Y) : if decide p = true then X else Y := by
  rw [decide_eq_false hp]
  exact iteF h
/-! ### calls -/
theorem s_cb {r : List V → Hp → VK → Prop} (h : tr σ H fun vs H1 => r vs H1 Q) : tCB r tr σ H Q := h
theorem s_abs {i : Int} (h : Q (.int (if i < 0 then -i else i)) H) : rAbs [.int i] H Q := ⟨i, rfl, h⟩
theorem s_max2 {i j : Int} (h : Q (.int (if j > i then j else i)) H) : rMax2 [.int i, .int j] H Q := ⟨i, j, rfl, h⟩
theorem s_min2 {i j : Int} (h : Q (.int (if j < i then j else i)) H) : rMin2 [.int i, .int j] H Q := ⟨i, j, rfl, h⟩
theorem s_int1 {i : Int} (h : Q (.int i) H) : rInt1 [.int i] H Q := .inl ⟨i, rfl, h⟩
theorem s_int1b (h : Q (.int (if b then 1 else 0)) H) : rInt1 [.bl b] H Q := .inr ⟨b, rfl, h⟩
theorem s_lenL {l : Addr} {xs : List V} (m : H l = some (.lst xs)) (h : Q (.int xs.length) H) : rLenU K [.ref l] H Q := .inl ⟨_, _, rfl, .inl ⟨xs, SqL.of m, rfl⟩, h⟩
theorem s_lenT {l : Addr} {xs : List V} (m : SqT K H l xs) (h : Q (.int xs.length) H) : rLenU K [.ref l] H Q := .inl ⟨_, _, rfl, .inr ⟨xs, m, rfl⟩, h⟩
theorem s_lenS {z : Str} (m : z.length ≤ sizeLine) (h : Q (.int z.length) H) : rLenU K [.str z] H Q := .inl ⟨_, _, rfl, ⟨m, rfl⟩, h⟩
theorem s_lenD {l : Addr} {r : List (Key × V)} (m : H l = some (.dK r)) (h : Q (.int r.length) H) : rLenU K [.ref l] H Q := .inr ⟨_, _, rfl, m, h⟩
theorem s_call {sp : Sp} {dvs : List V} {E : XK} (h : tr σ H (kCall sp dvs E Q)) : tCall sp dvs E tr σ H Q := h
theorem s_meth {C : Addr} {m : Str} {sp : Sp} {dvs : List V} {E : XK} (h : ta σ H (kMeth C m σ tr fun x vs H2 => kCall sp dvs E Q (x :: vs) H2)) : tMeth C m sp dvs E ta tr σ H Q := h
theorem s_methV {a C dx : Addr} {fs : List (Str × V)} {m : Str} {Z : V → List V → Hp → Prop} (e : H a = some (.ins C dx fs)) (n : NoLk m fs) (h : tr σ H fun vs H2 => Z (.ref a) vs H2) : kMeth C m σ tr Z (.ref a) H := ⟨a, dx, fs, rfl, e, n.ok, h⟩
theorem s_callV {sp : Sp} {vs : List V} {E : XK} (h : sp vs H Q E) : kCall sp [] E Q vs H := by
  unfold kCall
  rw [List.append_nil]
  exact h
theorem s_make {C : Addr} {sp : Sp} {dvs : List V} {E : XK} (h : tr σ H (kMake C sp dvs E Q)) : tMake C sp dvs E tr σ H Q := h
theorem s_makeV {C : Addr} {sp : Sp} {vs : List V} {E : XK} (hC : Ctx K B H L I) (k : ∀ x dx H1, Ctx K B H1 ((x, .ins C dx []) :: L) I → sp (.ref x :: vs) H1 (kInit Q x) E) : kMake C sp [] E Q vs H := fun x dx hx hd ne => by
  rw [List.append_nil]
  refine k x dx _ ?_
  have h1 : Ctx K B (upd H dx (.own x)) L I := hC.moved (Stb.new hd) (hC.lay.keep hd)
  exact h1.newM (by rw [upd_ne (fun z => ne z.symm)]; exact hx) rfl
theorem s_bm {T : String} {r : V → List V → Hp → VK → Prop} {to : TE} (h : to σ H (kBm K T r σ tr Q)) : tBM K T r to tr σ H Q := h
theorem s_tyL {l : Addr} {xs : List V} {r : V → List V → Hp → VK → Prop} (m : H l = some (.lst xs)) (h : tr σ H fun xs H2 => r (.ref l) xs H2 Q) : kBm K "list" r σ tr Q (.ref l) H := ⟨.inl ⟨rfl, _, SqL.of m⟩, h⟩
theorem s_append {l : Addr} {xs : List V} (hC : Ctx K B H L I) (m : H l = some (.lst xs)) (z : xs.length < 100000) (u : Up l (.lst (xs ++ [y])) L L') (k : ∀ H1, Ctx K B H1 L' I → Q .non H1) : rAppend (.ref l) [y] H Q :=
  ⟨l, xs, y, rfl, rfl, m, Nat.lt_of_lt_of_le z (by decide), k _ (hC.put u rfl)⟩
end
end Ph
namespace Ph
open PySem PySem.Spec PyProof.Rows L2
/-- no dict within, texts sound, n deep at most -/
def Sh (n : Nat) (d : PyData) : Prop := d.canLay0 = true ∧ d.depth ≤ n
def ShL (n : Nat) (ds : List PyData) : Prop := ∀ d, d ∈ ds → Sh n d
theorem Sh.shaped {n : Nat} {d : PyData} (h : Sh n d) (z : n ≤ 64) : SeqAt.shaped d = true := by
  unfold SeqAt.shaped
  rw [h.1, Bool.true_and]
  exact decide_eq_true (Nat.le_trans h.2 z)
theorem Sh.mono {n m : Nat} {d : PyData} (h : Sh n d) (z : n ≤ m) : Sh m d := ⟨h.1, Nat.le_trans h.2 z⟩
theorem Sh.int {n : Nat} (i : Int) : Sh n (.int i) := ⟨by simp [PyData.canLay0], by simp [PyData.depth]⟩
theorem Sh.bl {n : Nat} (i : Bool) : Sh n (.bool i) := ⟨by simp [PyData.canLay0], by simp [PyData.depth]⟩
theorem Sh.non {n : Nat} : Sh n .none := ⟨by simp [PyData.canLay0], by simp [PyData.depth]⟩
theorem Sh.str {n : Nat} {x : Str} (h : PyData.strOk x = true) : Sh n (.str x) := ⟨by simp [PyData.canLay0, h], by simp [PyData.depth]⟩
theorem canAll {ds : List PyData} (h : ∀ d, d ∈ ds → d.canLay0 = true) : PyData.canLayAll0 ds = true := by
  induction ds with
  | nil => simp [PyData.canLayAll0]
  | cons d r ih =>
    rw [PyData.canLayAll0, h d List.mem_cons_self, ih (fun e he => h e (List.mem_cons_of_mem _ he))]
    rfl
theorem depAll {n : Nat} {ds : List PyData} (h : ∀ d, d ∈ ds → d.depth ≤ n) : PyData.depthAll ds ≤ n := by
  induction ds with
  | nil => simp [PyData.depthAll]
  | cons d r ih =>
    have h1 := h d List.mem_cons_self
    have h2 := ih (fun e he => h e (List.mem_cons_of_mem _ he))
    rw [PyData.depthAll]
    omega
theorem ShL.list {n : Nat} {ds : List PyData} (h : ShL n ds) : Sh (n + 1) (.list ds) := by
  refine ⟨by rw [PyData.canLay0]; exact canAll fun d hd => (h d hd).1, ?_⟩
  have := depAll fun d hd => (h d hd).2
  rw [PyData.depth]
  omega
theorem ShL.tuple {n : Nat} {ds : List PyData} (h : ShL n ds) : Sh (n + 1) (.tuple ds) := by
  refine ⟨by rw [PyData.canLay0]; exact canAll fun d hd => (h d hd).1, ?_⟩
  have := depAll fun d hd => (h d hd).2
  rw [PyData.depth]
  omega
theorem ShL.nil {n : Nat} : ShL n [] := fun d h => by cases h
theorem ShL.cons {n : Nat} {d : PyData} {ds : List PyData} (h : Sh n d) (t : ShL n ds) : ShL n (d :: ds) := fun e he => (List.mem_cons.mp he).elim (fun q => by rw [q]; exact h) (t e)
theorem ShL.append {n : Nat} {ds es : List PyData} (h : ShL n ds) (t : ShL n es) : ShL n (ds ++ es) := fun e he => (List.mem_append.mp he).elim (h e) (t e)
/-- L has what T tells, in another order -/
inductive Perm2 (F : List (Addr × HO)) : List (Addr × HO) → List (Addr × HO) → Prop
  | nil : Perm2 F F F
  | cons {x : Addr × HO} {L L' T : List (Addr × HO)} : Pick x L L' → Perm2 F L' T → Perm2 F L (x :: T)
theorem Perm2.lay {F : List (Addr × HO)} : ∀ {L T : List (Addr × HO)}, Perm2 F L T → L.Perm T
  | _, _, .nil => List.Perm.refl _
  | _, _, .cons p h => p.perm.trans (List.Perm.cons _ h.lay)
theorem Lay.perm2 {H : Hp} {F L T : List (Addr × HO)} (h : Lay H L) (p : Perm2 F L T) : Lay H T := h.perm p.lay
theorem TD.tupR {K : PySem.W.Frag} {H : Hp} {a : Addr} {xs : List V} {ds : List PyData} (t : TDs K H xs ds) (h : SqT K H a xs) : TD K H (.ref a) (.tuple ds) := .tup h t
theorem eqv_self {n : Nat} {d : PyData} (h : Sh n d) : PyData.eqv d d = true := SeqAt.eqv_refl d h.1
end Ph
namespace Ph
open PySem PySem.Spec PyProof.Rows L2
section
variable {K : PySem.W.Frag} {B H : Hp} {L L' F : List (Addr × HO)} {I : List Im} {Q : VK} {σ : L2.St} {A Cb Dc : L2.St → Hp → Prop} {Bt : VK}
/-! slices -/
def kPart (Qo : Option Int → Hp → Prop) : VK := fun x H1 => ∃ i, x = .int i ∧ Qo (some i) H1
theorem s_sl {r : V → Option Int → Option Int → Hp → VK → Prop} {te : TE} {tl th : TO} (h : te σ H fun x H1 => tl σ H1 fun l H2 => th σ H2 fun u H3 => r x l u H3 Q) : tSl r te tl th σ H Q := h
theorem s_noPart {Qo : Option Int → Hp → Prop} (h : Qo none H) : tNoPart σ H Qo := h
theorem s_partE {t : TE} {Qo : Option Int → Hp → Prop} (h : t σ H (kPart Qo)) : tPart t σ H Qo := h
theorem s_partV {i : Int} {Qo : Option Int → Hp → Prop} (h : Qo (some i) H) : kPart Qo (.int i) H := ⟨i, rfl, h⟩
theorem s_slL {a : Addr} {xs : List V} {lo hi : Option Int} (hC : Ctx K B H L I) (h : SqL K H a xs) (k : ∀ p H1, Ctx K B H1 ((p, .lst (cutV xs lo hi)) :: L) I → Q (.ref p) H1) : rSlU K (.ref a) lo hi H Q :=
  .inl ⟨a, xs, rfl, h, fun p hp => k p _ (hC.newM hp rfl)⟩
/-! for -/
def kIl (K : PySem.W.Frag) (R : It → Hp → Prop) : VK := fun x H1 => ∃ a, x = .ref a ∧ (∃ xs, SqL K H1 a xs) ∧ R (Itl K a) H1
def kRng (R : It → Hp → Prop) : List V → Hp → Prop := fun vs H1 => ∃ j : Int, vs = [.int j] ∧ -(2 ^ 62) ≤ j ∧ j < 2 ^ 62 ∧ R (Itr 0 j.toNat) H1
def kFor (g : TG) (tb : TS) (D : Ends) (σ : L2.St) : It → Hp → Prop := fun J H1 => ∃ W : Nat → Nat → L2.St → Hp → Prop, (∃ m, W 0 m σ H1) ∧ ∀ i m σ H, W i m σ H →
  (J.stop i H ∧ D.nx σ H) ∨ (J.go i H ∧ ∃ N : L2.St → Hp → Prop, (∀ σ' H', N σ' H' → ∃ m', m' < m ∧ W (i + 1) m' σ' H') ∧ ∀ x H', J.yld i H x H' → g x σ H' fun σ2 H2 => tb { D with nx := N, ct := N, bk := D.nx } σ2 H2)
theorem s_for {wi : TI} {g : TG} {tb : TS} (h : wi σ H (kFor g tb ⟨A, Bt, Cb, Dc⟩ σ)) : tFor wi g tb ⟨A, Bt, Cb, Dc⟩ σ H := h
theorem s_il {tl : TE} {R : It → Hp → Prop} (h : tl σ H (kIl K R)) : iList K tl σ H R := h
theorem s_ilV {a : Addr} {xs : List V} {R : It → Hp → Prop} (m : H a = some (.lst xs)) (h : R (Itl K a) H) : kIl K R (.ref a) H := ⟨a, rfl, ⟨xs, SqL.of m⟩, h⟩
theorem s_rng {ta : TA} {R : It → Hp → Prop} (h : ta σ H (kRng R)) : iRng1 ta σ H R := h
theorem s_rngV {j : Int} {R : It → Hp → Prop} (h1 : -(2 ^ 62) ≤ j) (h2 : j < 2 ^ 62) (h : R (Itr 0 j.toNat) H) : kRng R [.int j] H := ⟨j, rfl, h1, h2, h⟩
theorem for_rng {n : Nat} {g : TG} {tb : TS} (Pv : Nat → L2.St → Hp → Prop) (h0 : Pv 0 σ H)
    (hs : ∀ i σ H, i < n → Pv i σ H → g (.int i) σ H fun σ2 H2 => tb ⟨Pv (i + 1), Bt, A, Pv (i + 1)⟩ σ2 H2) (hd : ∀ σ H, Pv n σ H → A σ H) : kFor g tb ⟨A, Bt, Cb, Dc⟩ σ (Itr 0 n) H :=
  for_range (lo := 0) (n := n) (g := g) (tb := tb) (D := ⟨A, Bt, Cb, Dc⟩) Pv h0 (fun i σ H hi p => by
    rw [Int.zero_add]
    exact hs i σ H hi p) hd
theorem for_lst {a : Addr} {xs : List V} {g : TG} {tb : TS} (Pv : Nat → L2.St → Hp → Prop) (h0 : Pv 0 σ H) (hl : ∀ i σ H, i ≤ xs.length → Pv i σ H → H a = some (.lst xs))
    (hs : ∀ i x σ H, xs[i]? = some x → Pv i σ H → g x σ H fun σ2 H2 => tb ⟨Pv (i + 1), Bt, A, Pv (i + 1)⟩ σ2 H2) (hd : ∀ σ H, Pv xs.length σ H → A σ H) : kFor g tb ⟨A, Bt, Cb, Dc⟩ σ (Itl K a) H :=
  for_list (K := K) (xs := xs) (g := g) (tb := tb) (D := ⟨A, Bt, Cb, Dc⟩) Pv h0 (fun i σ H hi p => SqL.of (hl i σ H hi p)) hs hd
/-! comprehensions -/
def kLc (g : TG) (tt : TT) (te : TE) (vs : List Nat) (σ : L2.St) (Q : VK) : It → Hp → Prop := fun J H1 => ∀ D, H1 D = none → ∃ W : Nat → Nat → Hp → Prop, (∃ m, W 0 m (upd H1 D (.lst []))) ∧ ∀ i m H, W i m H →
  (J.stop i H ∧ Q (.ref D) H) ∨ (J.go i H ∧ ∃ Nx : Hp → Prop, (∀ H', Nx H' → ∃ m', m' < m ∧ W (i + 1) m' H') ∧ ∀ x H', J.yld i H x H' → g x (wipe σ vs) H' fun σ2 H2 => wipe σ2 vs = wipe σ vs ∧ tt σ2 H2 fun b H3 =>
    if b = true then te σ2 H3 fun y H4 => ∃ acc, H4 D = some (.lst acc) ∧ acc.length < sizeLine ∧ Nx (upd H4 D (.lst (acc ++ [y]))) else Nx H3)
theorem s_lc {wi : TI} {g : TG} {tt : TT} {te : TE} {vs : List Nat} (h : wi σ H (kLc g tt te vs σ Q)) : tLc wi g tt te vs σ H Q := h
def kApp (D : Addr) (Pn : Hp → Prop) : VK := fun y H4 => ∃ acc, H4 D = some (.lst acc) ∧ acc.length < sizeLine ∧ Pn (upd H4 D (.lst (acc ++ [y])))
theorem s_app {D : Addr} {Pn : Hp → Prop} {acc : List V} {y : V} (hC : Ctx K B H L I) (m : H D = some (.lst acc)) (z : acc.length < 100000) (u : Up D (.lst (acc ++ [y])) L L') (k : ∀ H1, Ctx K B H1 L' I → Pn H1) : kApp D Pn y H :=
  ⟨acc, m, Nat.lt_of_lt_of_le z (by rw [sizeLine_eq]; omega), k _ (hC.put u rfl)⟩
theorem lc_lst {a : Addr} {xs : List V} {g : TG} {te : TE} {vs : List Nat} (hC : Ctx K B H L I) (Pv : Addr → Nat → Hp → Prop) (h0 : ∀ D H1, Ctx K B H1 ((D, .lst []) :: L) I → Pv D 0 H1) (hl : ∀ i D H, i ≤ xs.length → Pv D i H → H a = some (.lst xs))
    (hs : ∀ i x D H, xs[i]? = some x → Pv D i H → g x (wipe σ vs) H fun σ2 H2 => wipe σ2 vs = wipe σ vs ∧ te σ2 H2 (kApp D (Pv D (i + 1))))
    (hd : ∀ D H, Pv D xs.length H → Q (.ref D) H) : kLc g tYes te vs σ Q (Itl K a) H := fun D hD =>
  lc_list (K := K) (xs := xs) (g := g) (tt := tYes) (te := te) (vs := vs) (σ := σ) (H1 := H) (D := D) (Qd := fun H => Q (.ref D) H) (fun i H => Pv D i H) (h0 D _ (hC.newM hD rfl)) (fun i H hi p => SqL.of (hl i D H hi p))
    (fun i x H hx p => by
      have e : (fun σ2 H2 => wipe σ2 vs = wipe σ vs ∧ tYes σ2 H2 fun b H3 => if b = true then te σ2 H3 fun y H4 => ∃ acc, H4 D = some (.lst acc) ∧ acc.length < sizeLine ∧ Pv D (i + 1) (upd H4 D (.lst (acc ++ [y]))) else Pv D (i + 1) H3)
          = fun σ2 H2 => wipe σ2 vs = wipe σ vs ∧ te σ2 H2 (kApp D (Pv D (i + 1))) := by
        funext σ2 H2
        unfold tYes
        simp only [if_true]
        rfl
      rw [e]
      exact hs i x D H hx p) (fun H p => hd D H p)
/-! dict displays -/
def kDisp (p : Addr) (Q : VK) : List (V × V) → Hp → Prop := fun ps H2 => H2 p = some (.dK []) ∧ ∃ kvs : List (Key × V), ps = kvs.map (fun kv => (kV kv.1, kv.2)) ∧ kvs.length ≤ 15 ∧ Q (.ref p) (upd H2 p (.dK (mergeK [] kvs)))
theorem s_disp {trs : List (TE × TE)} (hC : Ctx K B H L I) (k : ∀ p H1, Ctx K B H1 ((p, .dK []) :: L) I → tPairs trs σ H1 (kDisp p Q)) : tDisp trs σ H Q := fun p hp => k p _ (hC.newM hp rfl)
theorem s_pair {tk tv : TE} {r : List (TE × TE)} {Qp : List (V × V) → Hp → Prop} (h : tk σ H fun x H1 => tv σ H1 fun y H2 => tPairs r σ H2 fun ps H3 => Qp ((x, y) :: ps) H3) : tPairs ((tk, tv) :: r) σ H Qp := h
theorem s_pnil {Qp : List (V × V) → Hp → Prop} (h : Qp [] H) : tPairs [] σ H Qp := h
/-- pairs of values as entries -/
inductive ToK : List (V × V) → List (Key × V) → Prop
  | nil : ToK [] []
  | str {s : Str} {v : V} {r : List (V × V)} {q : List (Key × V)} : ToK r q → ToK ((.str s, v) :: r) ((Sum.inr s, v) :: q)
  | int {s : Int} {v : V} {r : List (V × V)} {q : List (Key × V)} : ToK r q → ToK ((.int s, v) :: r) ((Sum.inl s, v) :: q)
theorem ToK.ok : ∀ {r q}, ToK r q → r = q.map (fun kv => (kV kv.1, kv.2))
  | _, _, .nil => rfl
  | _, _, .str h => by rw [List.map_cons, ← h.ok]; rfl
  | _, _, .int h => by rw [List.map_cons, ← h.ok]; rfl
/-- keys all different -/
inductive RDis : List (Key × V) → List (Key × V) → Prop
  | nil {acc : List (Key × V)} : RDis acc []
  | cons {acc r : List (Key × V)} {k : Key} {v : V} : DNo k acc → RDis ((k, v) :: acc) r → RDis acc ((k, v) :: r)
theorem DNo.any {k : Key} : ∀ {r : List (Key × V)}, DNo k r → ∀ x, x ∈ r → ¬ x.1 = k
  | _, .nil, x, h => by cases h
  | _, .there n t, x, h => by
    rcases List.mem_cons.mp h with e | h
    · rw [e]; exact n
    · exact t.any x h
theorem RDis.ok : ∀ {acc r : List (Key × V)}, RDis acc r → mergeK acc.reverse r = acc.reverse ++ r
  | acc, _, .nil => by rw [List.append_nil]; rfl
  | acc, (k, v) :: r, .cons n t => by
    have e : putK acc.reverse k v = acc.reverse ++ [(k, v)] := by
      unfold putK
      rw [if_neg]
      intro h
      obtain ⟨x, hx, hk⟩ := List.any_eq_true.mp h
      exact n.any x (List.mem_reverse.mp hx) (of_decide_eq_true hk)
    have ih := t.ok
    rw [List.reverse_cons] at ih
    show mergeK (putK acc.reverse k v) r = _
    rw [e, ih, List.append_assoc]
    rfl
theorem s_dispV {p : Addr} {ps : List (V × V)} {kvs : List (Key × V)} (hC : Ctx K B H L I) (m : H p = some (.dK [])) (h : ToK ps kvs) (n : RDis [] kvs) (z : kvs.length ≤ 15) (u : Up p (.dK kvs) L L') (k : ∀ H1, Ctx K B H1 L' I → Q (.ref p) H1) : kDisp p Q ps H :=
  ⟨m, kvs, h.ok, z, by
    have e := n.ok
    rw [List.reverse_nil, List.nil_append] at e
    rw [e]
    exact k _ (hC.put u rfl)⟩
/-! lambdas handed to the teller -/
def kTold (K : PySem.W.Frag) (C : Addr) (ret : Str) (Q : VK) : XK := fun cls _ H' => ∃ b, PySem.W.exmOne K cls (.ref C) = some b ∧ (b = true → Q (.str ret) H') ∧ (b = false → False)
theorem s_toldE {C D : Addr} {ret : Str} {d : Option Addr} (e : PySem.W.exmOne K (.ref D) (.ref C) = some true) (h : Q (.str ret) H) : kTold K C ret Q (.ref D) d H := ⟨true, e, fun _ => h, fun q => by cases q⟩
/-! a list of ints, an index not known -/
inductive AllI : List V → List Int → Prop
  | nil : AllI [] []
  | cons {i : Int} {r : List V} {q : List Int} : AllI r q → AllI (.int i :: r) (i :: q)
theorem AllI.get : ∀ {r : List V} {q : List Int} {j : Nat}, AllI r q → j < r.length → ∃ i : Int, r[j]? = some (.int i) ∧ i ∈ q
  | _, _, 0, .cons h, _ => ⟨_, rfl, List.mem_cons_self⟩
  | _, _, j + 1, .cons h, z => by
    obtain ⟨i, e, m⟩ := h.get (j := j) (by rw [List.length_cons] at z; omega)
    exact ⟨i, by rw [List.getElem?_cons_succ]; exact e, List.mem_cons_of_mem _ m⟩
theorem s_ixAny {l : Addr} {vs : List V} {zs : List Int} {r : Int} (m : H l = some (.lst vs)) (h : AllI vs zs) (h0 : 0 ≤ r) (h1 : r < vs.length) (q : ∀ z : Int, z ∈ zs → Q (.int z) H) : rIxU K (.ref l) (.int r) H Q := by
  obtain ⟨i, e, w⟩ := h.get (j := r.toNat) (by omega)
  have e2 := atI_nat e
  rw [Int.toNat_of_nonneg h0] at e2
  exact s_ixL m e2 (q i w)
/-! more of values -/
theorem s_eqIT {i j : Int} (p : i = j) (h : Q (.bl true) H) : rEqU K (.int i) (.int j) H Q := s_eqI (by rw [decide_eq_true p]; exact h)
theorem s_eqIF {i j : Int} (p : ¬ i = j) (h : Q (.bl false) H) : rEqU K (.int i) (.int j) H Q := s_eqI (by rw [decide_eq_false p]; exact h)
theorem s_int1T (h : Q (.int 1) H) : rInt1 [.bl true] H Q := .inr ⟨true, rfl, h⟩
theorem s_int1F (h : Q (.int 0) H) : rInt1 [.bl false] H Q := .inr ⟨false, rfl, h⟩
theorem s_eqSN {j : Str} (h : Q (.bl false) H) : rEqU K (.str j) .non H Q := .inl ⟨rfl, h⟩
theorem s_eqST {i j : Str} (p : i = j) (h : Q (.bl true) H) : rEqU K (.str i) (.str j) H Q := s_eqS (by rw [decide_eq_true p]; exact h)
theorem s_neIF {i : Int} (h : Q (.bl false) H) : rNeU K (.int i) (.int i) H Q := s_neI (by rw [decide_eq_true rfl]; exact h)
theorem s_neBs {b : Bool} (h : Q (.bl false) H) : rNeU K (.bl b) (.bl b) H Q := s_neB (by rw [show (b != b) = false from by cases b <;> rfl]; exact h)
theorem s_neTF (h : Q (.bl true) H) : rNeU K (.bl true) (.bl false) H Q := s_neB h
theorem s_neFT (h : Q (.bl true) H) : rNeU K (.bl false) (.bl true) H Q := s_neB h
theorem s_eqBs {b : Bool} (h : Q (.bl true) H) : rEqU K (.bl b) (.bl b) H Q := s_eqB (by rw [show (b == b) = true from by cases b <;> rfl]; exact h)
theorem s_eqTF (h : Q (.bl false) H) : rEqU K (.bl true) (.bl false) H Q := s_eqB h
theorem s_eqFT (h : Q (.bl false) H) : rEqU K (.bl false) (.bl true) H Q := s_eqB h
/-! a block of the layout that another hand keeps -/
inductive Pull (O : List (Addr × HO)) : List (Addr × HO) → List (Addr × HO) → Prop
  | here {F : List (Addr × HO)} : Pull O (F ++ O) F
  | there {x : Addr × HO} {L F : List (Addr × HO)} : Pull O L F → Pull O (x :: L) (x :: F)
theorem Pull.perm {O : List (Addr × HO)} : ∀ {L F}, Pull O L F → L.Perm (O ++ F)
  | _, _, .here => List.perm_append_comm
  | _, _, .there p => (List.Perm.cons _ p.perm).trans List.perm_middle.symm
/-- some of the layout, in another order -/
inductive Sel : List (Addr × HO) → List (Addr × HO) → Prop
  | refl {L : List (Addr × HO)} : Sel L L
  | cons {x : Addr × HO} {L L' T : List (Addr × HO)} : Pick x L L' → Sel L' T → Sel L (x :: T)
  | skip {x : Addr × HO} {L T : List (Addr × HO)} : Sel L T → Sel (x :: L) T
theorem Sel.perm : ∀ {L T}, Sel L T → ∃ J, L.Perm (T ++ J)
  | L, _, .refl => ⟨[], by rw [List.append_nil]⟩
  | _, _, .cons p s => by
    obtain ⟨J, h⟩ := s.perm
    exact ⟨J, p.perm.trans (List.Perm.cons _ h)⟩
  | _, _, .skip s => by
    obtain ⟨J, h⟩ := s.perm
    exact ⟨_ :: J, (List.Perm.cons _ h).trans List.perm_middle.symm⟩
theorem Sel.lay {T : List (Addr × HO)} (s : Sel L T) (y : Lay H L) : Lay H T := by
  obtain ⟨J, h⟩ := s.perm
  have y := y.perm h
  exact ⟨(List.nodup_append.mp (by rw [← List.map_append]; exact y.nd)).1, fun p hp => y.at_ p (List.mem_append_left _ hp)⟩
end
end Ph
namespace Ph
open PySem PySem.Spec PyProof.Rows L2 LamX
/-- at f stands the lambda of these words -/
def LamC (f c : Addr) (q : Str) (ps : Arguments) (body : Expr) (sc : Scope) (cl : List (Str × Addr)) : HO := .ext fun h => ∃ pm ctv : Value, h.get? f = some (PySem.W.kla_obj "<lambda>" q ps body sc cl pm c ctv)
abbrev LamO (f c : Addr) (q : Str) (ps : Arguments) (body : Expr) (sc : Scope) : HO := LamC f c q ps body sc []
/-- all but the object at P stays -/
def ExtP (P : Addr) (H H' : Hp) : Prop := ∀ b o, b ≠ P → H b = some o → H' b = some o
theorem ExtP.refl (P : Addr) (H : Hp) : ExtP P H H := fun _ _ _ h => h
theorem ExtP.trans {P : Addr} {H H1 H2 : Hp} (a : ExtP P H H1) (b : ExtP P H1 H2) : ExtP P H H2 := fun c o n h => b c o n (a c o n h)
theorem ExtP.of {P : Addr} {H H' : Hp} (e : ∀ b o, H b = some o → H' b = some o) : ExtP P H H' := fun b o _ h => e b o h
structure LamD where
  ps : Arguments
  body : Expr
  sc : Scope
/-- only globals -/
def noOwn (sc : Scope) : Bool := decide (sc.kind = .function) && !sc.isCoroutine && !sc.isGenerator && sc.names.all fun y => !decide (y.2 = .local) && !decide (y.2 = .cell) && !decide (y.2 = .free)
structure NoOwn (sc : Scope) : Prop where
  kind : sc.kind = .function
  co : sc.isCoroutine = false
  gen : sc.isGenerator = false
  own : ∀ y, y ∈ sc.names → y.2 ≠ .local ∧ y.2 ≠ .cell ∧ y.2 ≠ .free
theorem noOwn_by {sc : Scope} (h : noOwn sc = true) : NoOwn sc := by
  unfold noOwn at h
  simp only [Bool.and_eq_true, Bool.not_eq_true', decide_eq_true_eq, decide_eq_false_iff_not, List.all_eq_true] at h
  obtain ⟨⟨⟨a, b⟩, c⟩, d⟩ := h
  exact ⟨a, b, c, fun y hy => ⟨(d y hy).1.1, (d y hy).1.2, (d y hy).2⟩⟩
theorem clo_nil {cells : List (Str × Addr)} : ∀ {names : List (Str × NameKind)}, (∀ y, y ∈ names → y.2 ≠ .free) → cloFrom cells names [] = []
  | [], _ => rfl
  | (n, k) :: r, h => by
    unfold cloFrom
    have e : (k == NameKind.free) = false := by
      have := h (n, k) List.mem_cons_self
      simpa using this
    rw [if_neg (by rw [e]; decide)]
    exact clo_nil fun y hy => h y (List.mem_cons_of_mem _ hy)
section
variable {X : Cx} {pins : List (Addr × Obj)} {σ : L2.St} {H : Hp} {s : Shared}
theorem inv_lamC {q : Str} {ps : Arguments} {body : Expr} {sc : Scope} {cl : List (Str × Addr)} {c : Addr} {pm ctv : Value} {t' : Nat} (I : Inv X pins σ H s) :
    Inv X pins σ (upd H s.heap.objs.size (LamC s.heap.objs.size c q ps body sc cl)) { s with heap := s.heap.push (PySem.W.kla_obj "<lambda>" q ps body sc cl pm c ctv), toks := t' } := by
  refine I.laid (a := s.heap.objs.size) (fun b u e => Heap.get?_push_of_some _ e) (Nat.le_refl _) ?_
  have e : (s.heap.push (PySem.W.kla_obj "<lambda>" q ps body sc cl pm c ctv)).get? s.heap.objs.size = some (PySem.W.kla_obj "<lambda>" q ps body sc cl pm c ctv) := Heap.get?_push_size _ rfl
  exact ⟨⟨pm, ctv, e⟩, ⟨_, e⟩, fun h1 h2 ⟨p, t, z⟩ st => ⟨p, t, st _ z⟩⟩
theorem lamC_make {c P : Addr} {ps : Arguments} {body : Expr} {sc : Scope} {pos : Pos} {E Q : Value → Shared → Prop} (I : Inv X pins σ H s) (TB : LamX.TabB X.base X.mg c P) (hcode : X.env.code = .ref c)
    (hT : TabS H P (X.env.qual ++ "<lambda>")) (hdef : defaultsOf ps X.env = ([], [])) (hfree : ∀ y ∈ sc.names, y.2 = .free → ∃ c, X.env.cells.lookup y.1 = some c)
    (h : ∀ (f c' : Addr) (H1 : Hp) (s' : Shared), Inv X pins σ H1 s' → ExtP P H H1 → TabS H1 P (X.env.qual ++ "<lambda>") → H1 f = some (LamC f c' (X.env.qual ++ "<lambda>") ps body sc (cloFrom X.env.cells sc.names [])) → H1 c' = some (CodeO c' (X.env.qual ++ "<lambda>")) → Q (.ref f) s') :
    wpAny (model X.prog X.w) X.A (eval (.Lambda ps body sc pos) X.env) Q E s := by
  obtain ⟨tb, hP, ht, ha⟩ := hT
  refine PySem.W.kla_eval hdef ?_
  have bP : s.heap.BuiltinsAt X.mg P := TB.bm.keeps I.bk
  have hP' : s.heap.get? P = some { cls := .none, data := .fields tb } := I.hok P _ hP
  cases hc : codeAmong pos tb.toList with
  | none =>
    refine PySem.W.kla_makeFunction (mg := X.mg) (c := c) (P := P) (ps := tb) (closure_ok hfree) I.ok.glob (I.mod.glob.keeps I.bk) hcode (TB.code.keeps I.bk) hP' ht hc TB.gP bP fun c' ctv h' tk hx hge hlt hrec htb => ?_
    obtain ⟨c2, oc, vs, t, e2, hoc, hd, hv⟩ := hrec
    cases e2
    have nC : H c' = none := I.hok.fresh hge
    have I1 := inv_table (t' := tk) (more := #[rawInt pos.line, rawInt pos.col, .ref c']) (h' := h') I hP (fun b o hb e => hx b o hb e) htb hge ⟨oc, vs, t, hoc, hd, hv⟩
    have hE : ExtP P H (upd (upd H P (.tbl (tb ++ #[rawInt pos.line, rawInt pos.col, .ref c']))) c' (CodeO c' (X.env.qual ++ "<lambda>"))) := fun b o n e => by
      rw [upd_ne (ne_of_none e nC), upd_ne n]
      exact e
    have eL : (tb ++ #[rawInt pos.line, rawInt pos.col, .ref c']).toList = tb.toList ++ [rawInt pos.line, rawInt pos.col, .ref c'] := by simp
    have nPo : ∀ {b : Addr} {q : Str}, H b = some (CodeO b q) → b ≠ P := fun e z => by
      rw [z, hP] at e
      cases e
    have T1 : TabS (upd (upd H P (.tbl (tb ++ #[rawInt pos.line, rawInt pos.col, .ref c']))) c' (CodeO c' (X.env.qual ++ "<lambda>"))) P (X.env.qual ++ "<lambda>") := by
      refine ⟨_, by rw [upd_ne (ne_of_none hP nC), upd_same], by rw [eL]; exact PySem.TriplesOk_snoc _ _ _ _ ht, fun p' cv hcv => ?_⟩
      rw [eL] at hcv
      rcases among_app _ ht hcv with z | z
      · obtain ⟨c0, e1, e2⟩ := ha p' cv z
        exact ⟨c0, e1, hE _ _ (nPo e2) e2⟩
      · exact ⟨c', z, upd_same⟩
    have nF := I1.hok.fresh (Nat.le_refl _)
    have I2 := inv_lamC (cl := cloFrom X.env.cells sc.names []) (q := X.env.qual ++ "<lambda>") (ps := ps) (body := body) (sc := sc) (c := c') (pm := (X.mg "__name__").getD .none) (ctv := ctv) (t' := tk) I1
    have grow : ∀ b o, upd (upd H P (.tbl (tb ++ #[rawInt pos.line, rawInt pos.col, .ref c']))) c' (CodeO c' (X.env.qual ++ "<lambda>")) b = some o → upd (upd (upd H P (.tbl (tb ++ #[rawInt pos.line, rawInt pos.col, .ref c']))) c' (CodeO c' (X.env.qual ++ "<lambda>"))) h'.objs.size (LamC h'.objs.size c' (X.env.qual ++ "<lambda>") ps body sc (cloFrom X.env.cells sc.names [])) b = some o := fun b o e => (upd_ne (ne_of_none e nF)).trans e
    exact h h'.objs.size c' _ _ I2 (hE.trans (ExtP.of grow)) (T1.ext grow) upd_same (grow _ _ upd_same)
  | some cv =>
    obtain ⟨c', e, hco⟩ := ha pos cv hc
    subst e
    refine PySem.W.kla_makeFunctionHit (mg := X.mg) (c := c) (P := P) (ps := tb) (closure_ok hfree) I.ok.glob (I.mod.glob.keeps I.bk) hcode (TB.code.keeps I.bk) hP' ht hc bP fun ctv h' tk hx hsz => ?_
    have I1 : Inv X pins σ H { s with heap := h', toks := tk } := I.kept hx
    have nF : H h'.objs.size = none := I1.hok.fresh (Nat.le_refl _)
    have I2 := inv_lamC (cl := cloFrom X.env.cells sc.names []) (q := X.env.qual ++ "<lambda>") (ps := ps) (body := body) (sc := sc) (c := c') (pm := (X.mg "__name__").getD .none) (ctv := ctv) (t' := tk) I1
    have grow : ∀ b o, H b = some o → upd H h'.objs.size (LamC h'.objs.size c' (X.env.qual ++ "<lambda>") ps body sc (cloFrom X.env.cells sc.names [])) b = some o := fun b o e => (upd_ne (ne_of_none e nF)).trans e
    exact h h'.objs.size c' _ _ I2 (ExtP.of grow) (TabS.ext ⟨tb, hP, ht, ha⟩ grow) upd_same (grow _ _ hco)
end
/-- the lambda as a value -/
def tLamV (P : Addr) (q : Str) (d : LamD) : TE := fun _ H Q => TabS H P q ∧ ∀ (f c : Addr) (H1 : Hp), ExtP P H H1 → TabS H1 P q → H1 f = some (LamO f c q d.ps d.body d.sc) → H1 c = some (CodeO c q) → Q (.ref f) H1
theorem pe_lamV {X : Cx} {c P : Addr} {d : LamD} {pos : Pos} (TB : LamX.TabB X.base X.mg c P) (hcode : X.env.code = .ref c)
    (hdef : defaultsOf d.ps X.env = ([], [])) (hno : noOwn d.sc = true) : PE X (.Lambda d.ps d.body d.sc pos) (tLamV P (X.env.qual ++ "<lambda>") d) := by
  refine ⟨fun pins s σ H Q I h => ?_⟩
  obtain ⟨hT, h⟩ := h
  have hno := noOwn_by hno
  have ecl : cloFrom X.env.cells d.sc.names [] = [] := clo_nil fun y hy => (hno.own y hy).2.2
  exact lamC_make I TB hcode hT hdef (fun y hy e => absurd e (hno.own y hy).2.2) fun f c' H1 s' I1 e t1 h1 h2 => ⟨.ref f, H1, I1, rfl, h f c' H1 e t1 (by rw [ecl] at h1; exact h1) h2⟩
/-- where the lambda's body runs -/
def lamCx0 (X : Cx) (q : Str) (A : Around) (outer : List Env) (s : Shared) (H : Hp) (E : XK) (sc : Scope) (f c : Addr) : Cx where
  prog := X.prog
  w := X.w
  K := X.K
  mg := X.mg
  base := X.base
  A := A.deeper (PySem.W.envX q sc s.heap.objs.size f (.ref c) [])
  N := X.N
  s_0 := s
  H_0 := H
  env := PySem.W.envX q sc s.heap.objs.size f (.ref c) []
  outer := outer
  stack := PySem.W.envX q sc s.heap.objs.size f (.ref c) [] :: outer
  ex := []
  fn := fun _ => false
  calm := true
  pn := []
  xe := fun e s' => wpAny (model X.prog X.w) (A.deeper (PySem.W.envX q sc s.heap.objs.size f (.ref c) [])) (leaving (PySem.W.envX q sc s.heap.objs.size f (.ref c) []) e) (fun _ s'' => L2.CX X.prog X.w outer H s E e s'') (fun e' s'' => L2.CX X.prog X.w outer H s E e' s'') s'
theorem lam_start0 {X : Cx} {q : Str} {HZ : Hp} {s1 : Shared} {A : Around} {outer : List Env} {E : XK} {sc : Scope} {f c : Addr} {h₁ : Heap} {tk : Nat} (L : NoOwn sc) (e0 : Env0 X.prog X.w X.K X.mg X.base A outer s1 HZ) (hd : A.handled = none)
    (hns : h₁.Ns s1.heap.objs.size fun y => ([] : List (Str × Value)).reverse.lookup y) (kp : ∀ b o, s1.heap.get? b = some o → h₁.get? b = some o) :
    Inv (lamCx0 X q A outer s1 HZ E sc f c) [] (List.replicate X.N.length none) HZ { s1 with heap := h₁, toks := tk } := by
  have noA : ∀ b : Addr, b ∉ (lamCx0 X q A outer s1 HZ E sc f c).ex := fun b z => absurd (show b ∈ ([] : List Addr) from z) (by simp)
  refine ⟨⟨e0.mod, L.kind, rfl, rfl, Nat.le_refl _, fun y z c e1 e2 => ?_, fun y hy => ?_, fun y c z _ => ?_, fun _ => hd, Around.frames_deeper e0.frames, .inr ⟨rfl, rfl⟩, fun b z => absurd z (noA b), e0.bs, e0.bsz, fun b _ _ => noA b,
      fun b z => absurd z (noA b), e0.funs, e0.frf⟩,
    rfl, e0.bare, Un.kept kp, ⟨_, hns, fun i y v e1 e2 e3 => ?_⟩, fun y c e => ?_, e0.hok.fresh (Nat.le_refl _), fun y c e => ?_, fun q hq => absurd (show q ∈ ([] : List (Addr × Obj)) ++ [] from hq) (by simp), e0.hok.kept kp, List.length_replicate⟩
  · cases (show List.lookup y ([] : List (Str × Addr)) = some c from e1)
  · have hy : sc.names.lookup y = some .cell ∨ sc.names.lookup y = some .free := hy
    rcases hy with hy | hy
    · exact absurd rfl (L.own _ (PySem.mem_of_lookup hy)).2.1
    · exact absurd rfl (L.own _ (PySem.mem_of_lookup hy)).2.2
  · cases (show false = true from z)
  · have e3 : Vis sc y := e3
    rcases e3 with k | k | k
    · exact absurd rfl (L.own _ (PySem.mem_of_lookup k)).1
    · exact absurd rfl (L.own _ (PySem.mem_of_lookup k)).2.1
    · exact absurd rfl (L.own _ (PySem.mem_of_lookup k)).2.2
  · cases (show List.lookup y ([] : List (Str × Addr)) = some c from e)
  · cases (show List.lookup y ([] : List (Str × Addr)) = some c from e)
theorem pe_act0 {X : Cx} {H : Hp} {s : Shared} {CXg : CXT} {Eg : XK} {Ng : List Str} {q qg : Str} {sg : Scope} {g f c' : Addr} {cdg : Value} {ps : Arguments} {body : Expr} {sc : Scope} {k i : Nat} {a : Str} {pn : List (Addr × Obj)} {xe : Value → Shared → Prop} {W : WX} {E : XK} {tb : TE} {p1 p2 : Pos}
    (L : NoOwn sc) (hbind : ∀ pm ctv : Value, bindArgs (PySem.W.kla_fn "<lambda>" q ps body sc [] pm (.ref c') ctv) ⟨[], []⟩ = pure [])
    (tk : Takes ((cxOf CXg X.prog X.w X.K X.mg X.base Ng qg sg g cdg X.A X.stack s H Eg).tr pn xe) W) (hW : ∀ cls d σ' H', E cls d H' → W cls d σ' H') (hr : Room (k + 1) (X.A.deeper (envOfC qg sg s.heap.objs.size g cdg)))
    (hbody : ∀ (A : Around) (outer : List Env) (s : Shared) (H : Hp), Room k (A.deeper (PySem.W.envX q sc s.heap.objs.size f (.ref c') [])) → PE (lamCx0 X q A outer s H E sc f c') body tb)
    (hN : Ng[i]? = some a) (hv : Vis sg a) (hd : (a == ("__debug__" : Str)) = false := by decide) (hcd : (a == ("__classdict__" : Str)) = false := by decide) :
    PE ((cxOf CXg X.prog X.w X.K X.mg X.base Ng qg sg g cdg X.A X.stack s H Eg).tr pn xe) (.Call (.Name a p1) [] [] p2)
      (fun σZ HZ Q => σZ[i]? = some (some (.ref f)) ∧ HZ c' = some (CodeO c' q) ∧ HZ f = some (LamO f c' q ps body sc) ∧ tb (List.replicate X.N.length none) HZ Q) := by
  refine ⟨fun pinsZ sZ σZ HZ Q IZ h => ?_⟩
  obtain ⟨hs, hc, hf, ht⟩ := h
  refine wpAny_Call_Name_kw (thn ((pe_var (pos := p1) (i := i) hN hv hd hcd).run pinsZ sZ σZ HZ (fun v H1 => v = .ref f ∧ H1 = HZ) IZ ⟨.ref f, hs, rfl, rfl⟩) fun u s1 ⟨v, H1, I1, r1, q1⟩ => ?_)
  obtain ⟨ev, eH⟩ := q1
  subst ev
  rw [eH] at I1
  obtain rfl : u = Value.ref f := r1
  obtain ⟨⟨pm, ctv, of1⟩, _, _⟩ := I1.hok f _ hf
  refine PySem.W.callWith_F0 ⟨_, _, _, _, of1⟩ ?_
  obtain ⟨⟨oc, vs, t, hoc, hdc, hvc⟩, _, _⟩ := I1.hok c' _ hc
  have rc : codeAny (model X.prog X.w) (X.A.deeper (envOfC qg sg s.heap.objs.size g cdg)) (.call (.ref f) ⟨[], []⟩) (CR (L2.CX X.prog X.w) (envOfC qg sg s.heap.objs.size g cdg :: X.stack) X.prog X.w HZ s1 Q E) s1 := by
    refine PySem.W.kla_callFunE hr.depth of1 rfl L.co L.gen rfl ⟨c', oc, vs, t, rfl, hoc, hdc, hvc⟩ ?_
    rw [hbind]
    refine wpAny_pure (wpAny_newFunctionEnv (fun y hy => (L.own y hy).2.1) (fun y hy => absurd hy (by simp)) (fun h₁ hns hsb => ⟨I1.nolimit.fresh _ hsb, ?_⟩) L.kind)
    show codeAny _ _ (.expr body (PySem.W.envX q sc s1.heap.objs.size f (.ref c') [])) _ _
    have kp : ∀ b o, s1.heap.get? b = some o → h₁.get? b = some o := fun b o e => hsb.extBut b o (Nat.ne_of_lt (Heap.lt_size e)) (Heap.get?_push_of_some _ e)
    have J : Inv (lamCx0 X q (X.A.deeper (envOfC qg sg s.heap.objs.size g cdg)) (envOfC qg sg s.heap.objs.size g cdg :: X.stack) s1 HZ E sc f c') [] (List.replicate X.N.length none) HZ { s1 with heap := h₁, toks := s1.toks + ([] : List (Str × Value)).length } :=
      lam_start0 L I1.env0 hr.hd hns kp
    refine PySem.W.kla_codeExpr (wpAny_mono ((hbody _ _ s1 HZ (hr.deeper _)).run [] _ _ HZ Q J ht) (fun v s' hq => ?_) fun e s' hq => hq)
    obtain ⟨w', H', J', rv, q⟩ := hq
    exact ⟨w', H', J'.os, J'.bare, J'.base, J'.hok, rv, q⟩
  have hx : Passes (L2.CX X.prog X.w) ((cxOf CXg X.prog X.w X.K X.mg X.base Ng qg sg g cdg X.A X.stack s H Eg).tr pn xe) E := passes_call tk hW
  refine wpAny_call (codeAny_mono rc fun r s' hq => ?_)
  cases r with
  | error e => exact hx pinsZ σZ HZ s1 e s' I1 hq
  | ok fl =>
    cases fl with
    | ret u => exact I1.after hq
    | next => exact False.elim hq
    | brk => exact False.elim hq
    | cont => exact False.elim hq
/-- the i-th slot holds one of the lambdas of fam: it is told -/
def tToldV (K : PySem.W.Frag) (CS : Addr) (ret q : Str) (n i : Nat) (fam : List LamD) (t : Nat → XK → TE) : TE := fun σ H Q => ∃ (f c : Addr) (k : Nat) (d : LamD), σ[i]? = some (some (.ref f)) ∧ fam[k]? = some d ∧
  H f = some (LamO f c q d.ps d.body d.sc) ∧ H c = some (CodeO c q) ∧ t k (kTold K CS ret Q) (List.replicate n none) H Q
theorem pe_toldV {X : Cx} {x a y q ret : Str} {g CS : Addr} {k i : Nat} {pg : Arguments} {bg : List Stmt} {sg : Scope} {dV kV doc pm cdv ct oc : Value} {an od : Option Addr} {osl : Array (Option Value)} {Ng : List Str}
    {fam : List LamD} {t : Nat → XK → TE} {p py pos : Pos} (hg : Gl X x) (hm : X.mg x = some (.ref g)) (hk : PySem.W.keepIn X.K (.ref g) = true)
    (lk : X.K.lookup g = some ⟨oc, od, .func (PySem.W.fnOf x x pg bg sg dV kV doc pm an cdv ct), osl⟩) (hcg : PySem.W.codeIn X.K cdv x = true) (hb : L2.Binds X.K (PySem.W.fnOf x x pg bg sg dV kV doc pm an cdv ct) [a] []) (Sg : FnScope Ng [a] sg) (hNg : Ng[0]? = some a) (hva : Vis sg a)
    (hG : GivesTo X Ng x sg g cdv bg a q (TTold X.K CS ret)) (hi : X.N[i]? = some y) (hv : Vis X.env.scope y) (hr : Room (k + 2) X.A)
    (hno : ∀ (j : Nat) (d : LamD), fam[j]? = some d → noOwn d.sc = true) (hbind : ∀ (j : Nat) (d : LamD), fam[j]? = some d → ∀ (c' : Addr) (pm ctv : Value), bindArgs (PySem.W.kla_fn "<lambda>" q d.ps d.body d.sc [] pm (.ref c') ctv) ⟨[], []⟩ = pure [])
    (hbody : ∀ (j : Nat) (d : LamD), fam[j]? = some d → ∀ (A : Around) (outer : List Env) (s : Shared) (H : Hp) (E : XK) (f c' : Addr), Room k (A.deeper (PySem.W.envX q d.sc s.heap.objs.size f (.ref c') [])) → PE (lamCx0 X q A outer s H E d.sc f c') d.body (t j E))
    (hdb : (x == ("__debug__" : Str)) = false := by decide) (hd : (a == ("__debug__" : Str)) = false := by decide) (hcd : (a == ("__classdict__" : Str)) = false := by decide) (hyd : (y == ("__debug__" : Str)) = false := by decide) (hyc : (y == ("__classdict__" : Str)) = false := by decide) :
    PE X (.Call (.Name x p) [.Name y py] [] pos) (tToldV X.K CS ret q X.N.length i fam t) := by
  refine ⟨fun pins s σ H Q I h => ?_⟩
  obtain ⟨f, c', j, d, hs, hj, hf, hc, ht⟩ := h
  refine wpAny_Call_Name_kw (ld_glob I hg hm ?_ hdb)
  refine PySem.W.callWith_K (h₀ := X.base) I.ok.mod.kin hk ?_ (by rfl) (by rfl)
  show wpAny _ _ (spliced ((false, eval (.Name y py) X.env) :: backTo pos (starEach [] X.env))) _ _ s
  refine Calls.spliced_cons (thn ((pe_var (pos := py) (i := i) hi hv hyd hyc).run pins s σ H (fun v H1 => v = .ref f ∧ H1 = H) I ⟨.ref f, hs, rfl, rfl⟩) fun u s' ⟨v, H1, I1, r1, q1⟩ => ?_)
  obtain ⟨ev, eH⟩ := q1
  subst ev
  rw [eH] at I1
  obtain rfl : u = Value.ref f := r1
  refine Calls.spliced_nil ⟨I1.kIn, ?_⟩
  have rc : codeAny (model X.prog X.w) X.A (.call (.ref g) ⟨[.ref f], []⟩) (CR C8.CX0 X.stack X.prog X.w H s' Q C8.E0) s' := by
    refine run_ofS (N := Ng) (ps := [a]) (us := [.ref f]) (vs := [.ref f]) lk hcg Sg hr I1.env0 (hb s' [.ref f] I1.kIn rfl) (.cons rfl .nil) rfl fun hr' => ?_
    obtain ⟨t', ht', hq'⟩ := hG f c' s' H Q (fun E H' Q' => H' f = some (LamO f c' q d.ps d.body d.sc) ∧ t j E (List.replicate X.N.length none) H' Q')
      (fun W pn xe E p1 p2 tk hW => pe_act0 (i := 0) (noOwn_by (hno j d hj)) (hbind j d hj c') tk hW hr' (fun A outer s H hr2 => hbody j d hj A outer s H E f c' hr2) hNg hva hd hcd) hc ⟨hf, ht⟩
    exact ⟨t', ht'.nox, hq'⟩
  refine wpAny_call (codeAny_mono rc fun r s2 hq => ?_)
  cases r with
  | error e => exact (show False from hq).elim
  | ok fl =>
    cases fl with
    | ret u => exact I1.after hq
    | next => exact False.elim hq
    | brk => exact False.elim hq
    | cont => exact False.elim hq
/-- a lambda handed to the teller at once -/
def tLamP (P : Addr) (q : Str) (TT : (XK → Hp → VK → Prop) → Hp → VK → Prop) (t : XK → TE) : TE := fun σ H Q => TabS H P q ∧ ∀ H1, ExtP P H H1 → TabS H1 P q → TT (fun E H' Q' => t E σ H' Q') H1 Q
theorem pe_actC {X : Cx} {pins : List (Addr × Obj)} {σ : L2.St} {H : Hp} {s : Shared} {CXg : CXT} {Eg : XK} {Ng : List Str} {qg : Str} {sg : Scope} {g f c' : Addr} {cdg : Value} {ps : Arguments} {body : Expr} {sc : Scope} {k i : Nat} {a : Str} {pn : List (Addr × Obj)} {xe : Value → Shared → Prop} {W : WX} {E : XK} {tb : TE} {p1 p2 : Pos}
    (I : Inv X pins σ H s) (L : LamS X.env.scope sc)
    (hbind : ∀ pm ctv : Value, bindArgs (PySem.W.kla_fn "<lambda>" (X.env.qual ++ "<lambda>") ps body sc (cloFrom X.env.cells sc.names []) pm (.ref c') ctv) ⟨[], []⟩ = pure [])
    (tk : Takes ((cxOf CXg X.prog X.w X.K X.mg X.base Ng qg sg g cdg X.A X.stack s H Eg).tr pn xe) W) (hW : ∀ cls d σ' H', E cls d H' → W cls d σ' H') (hr : Room (k + 1) (X.A.deeper (envOfC qg sg s.heap.objs.size g cdg)))
    (hbody : ∀ (A : Around) (outer : List Env) (s : Shared) (H : Hp), Room k (A.deeper (lamEnv X sc s.heap.objs.size f c')) → PE (lamCx X A outer s H E sc f c') body tb)
    (hN : Ng[i]? = some a) (hv : Vis sg a) (hd : (a == ("__debug__" : Str)) = false := by decide) (hcd : (a == ("__classdict__" : Str)) = false := by decide) :
    PE ((cxOf CXg X.prog X.w X.K X.mg X.base Ng qg sg g cdg X.A X.stack s H Eg).tr pn xe) (.Call (.Name a p1) [] [] p2)
      (fun σZ HZ Q => σZ[i]? = some (some (.ref f)) ∧ HZ c' = some (CodeO c' (X.env.qual ++ "<lambda>")) ∧ HZ f = some (LamC f c' (X.env.qual ++ "<lambda>") ps body sc (cloFrom X.env.cells sc.names [])) ∧ tb σ HZ Q) := by
  refine ⟨fun pinsZ sZ σZ HZ Q IZ h => ?_⟩
  obtain ⟨hs, hc, hf, ht⟩ := h
  refine wpAny_Call_Name_kw (thn ((pe_var (pos := p1) (i := i) hN hv hd hcd).run pinsZ sZ σZ HZ (fun v H1 => v = .ref f ∧ H1 = HZ) IZ ⟨.ref f, hs, rfl, rfl⟩) fun u s1 ⟨v, H1, I1, r1, q1⟩ => ?_)
  obtain ⟨ev, eH⟩ := q1
  subst ev
  rw [eH] at I1
  obtain rfl : u = Value.ref f := r1
  obtain ⟨⟨pm, ctv, of1⟩, _, _⟩ := I1.hok f _ hf
  refine PySem.W.callWith_F0 ⟨_, _, _, _, of1⟩ ?_
  obtain ⟨⟨oc, vs, t, hoc, hdc, hvc⟩, _, _⟩ := I1.hok c' _ hc
  have rc : codeAny (model X.prog X.w) (X.A.deeper (envOfC qg sg s.heap.objs.size g cdg)) (.call (.ref f) ⟨[], []⟩) (CR (L2.CX X.prog X.w) (envOfC qg sg s.heap.objs.size g cdg :: X.stack) X.prog X.w HZ s1 Q E) s1 := by
    refine PySem.W.kla_callFunE hr.depth of1 rfl L.co L.gen rfl ⟨c', oc, vs, t, rfl, hoc, hdc, hvc⟩ ?_
    rw [hbind]
    refine wpAny_pure (wpAny_newFunctionEnv (fun y hy => (L.own y hy).2) (fun y hy => absurd hy (by simp)) (fun h₁ hns hsb => ⟨I1.nolimit.fresh _ hsb, ?_⟩) L.kind)
    show codeAny _ _ (.expr body (lamEnv X sc s1.heap.objs.size f c')) _ _
    have J : Inv (lamCx X (X.A.deeper (envOfC qg sg s.heap.objs.size g cdg)) (envOfC qg sg s.heap.objs.size g cdg :: X.stack) s1 HZ E sc f c') [] σ HZ { s1 with heap := h₁, toks := s1.toks + ([] : List (Str × Value)).length } :=
      lam_start2 I L I1.env0 hr.hd I1.base hns (fun b o e => hsb.extBut b o (Nat.ne_of_lt (Heap.lt_size e)) (Heap.get?_push_of_some _ e))
    refine PySem.W.kla_codeExpr (wpAny_mono ((hbody _ _ s1 HZ (hr.deeper _)).run [] _ _ HZ Q J ht) (fun v s' hq => ?_) fun e s' hq => hq)
    obtain ⟨w', H', J', rv, q⟩ := hq
    exact ⟨w', H', J'.os, J'.bare, J'.base, J'.hok, rv, q⟩
  have hx : Passes (L2.CX X.prog X.w) ((cxOf CXg X.prog X.w X.K X.mg X.base Ng qg sg g cdg X.A X.stack s H Eg).tr pn xe) E := passes_call tk hW
  refine wpAny_call (codeAny_mono rc fun r s' hq => ?_)
  cases r with
  | error e => exact hx pinsZ σZ HZ s1 e s' I1 hq
  | ok fl =>
    cases fl with
    | ret u => exact I1.after hq
    | next => exact False.elim hq
    | brk => exact False.elim hq
    | cont => exact False.elim hq
/-- x(lambda: body), x the teller -/
theorem pe_lamP {X : Cx} {x a ret : Str} {g c P CS : Addr} {k : Nat} {pg : Arguments} {bg : List Stmt} {sg : Scope} {dV kV doc pm cdv ct oc : Value} {an od : Option Addr} {osl : Array (Option Value)} {Ng : List Str}
    {ps : Arguments} {body : Expr} {sc : Scope} {t : XK → TE} {p lpos pos : Pos} (hg : Gl X x) (hm : X.mg x = some (.ref g)) (hk : PySem.W.keepIn X.K (.ref g) = true)
    (lk : X.K.lookup g = some ⟨oc, od, .func (PySem.W.fnOf x x pg bg sg dV kV doc pm an cdv ct), osl⟩) (hcg : PySem.W.codeIn X.K cdv x = true) (hb : L2.Binds X.K (PySem.W.fnOf x x pg bg sg dV kV doc pm an cdv ct) [a] []) (Sg : FnScope Ng [a] sg) (hNg : Ng[0]? = some a) (hva : Vis sg a)
    (hG : GivesTo X Ng x sg g cdv bg a (X.env.qual ++ "<lambda>") (TTold X.K CS ret))
    (TB : LamX.TabB X.base X.mg c P) (hcode : X.env.code = .ref c) (hr : Room (k + 2) X.A) (L : LamS X.env.scope sc) (hdef : defaultsOf ps X.env = ([], []))
    (hbind : ∀ (q : Str) (cl : List (Str × Addr)) (pm cv ctv : Value), bindArgs (PySem.W.kla_fn "<lambda>" q ps body sc cl pm cv ctv) ⟨[], []⟩ = pure [])
    (hbody : ∀ (A : Around) (outer : List Env) (s : Shared) (H : Hp) (E : XK) (f c' : Addr), Room k (A.deeper (lamEnv X sc s.heap.objs.size f c')) → PE (lamCx X A outer s H E sc f c') body (t E))
    (hdb : (x == ("__debug__" : Str)) = false := by decide) (hd : (a == ("__debug__" : Str)) = false := by decide) (hcd : (a == ("__classdict__" : Str)) = false := by decide) :
    PE X (.Call (.Name x p) [.Lambda ps body sc lpos] [] pos) (tLamP P (X.env.qual ++ "<lambda>") (TTold X.K CS ret) t) := by
  refine ⟨fun pins s σ H Q I h => ?_⟩
  obtain ⟨hT, h⟩ := h
  refine wpAny_Call_Name_kw (ld_glob I hg hm ?_ hdb)
  refine PySem.W.callWith_K (h₀ := X.base) I.ok.mod.kin hk ?_ (by rfl) (by rfl)
  show wpAny _ _ (spliced ((false, eval (.Lambda ps body sc lpos) X.env) :: backTo pos (starEach [] X.env))) _ _ s
  refine Calls.spliced_cons (lamC_make I TB hcode hT hdef (L.has I.ok) fun f c' H1 s' I1 eP T1 hf hco => ?_)
  refine Calls.spliced_nil ⟨I1.kIn, ?_⟩
  have rc : codeAny (model X.prog X.w) X.A (.call (.ref g) ⟨[.ref f], []⟩) (CR C8.CX0 X.stack X.prog X.w H1 s' Q C8.E0) s' := by
    refine run_ofS (N := Ng) (ps := [a]) (us := [.ref f]) (vs := [.ref f]) lk hcg Sg hr I1.env0 (hb s' [.ref f] I1.kIn rfl) (.cons rfl .nil) rfl fun hr' => ?_
    obtain ⟨t', ht', hq'⟩ := hG f c' s' H1 Q (fun E H' Q' => H' f = some (LamC f c' (X.env.qual ++ "<lambda>") ps body sc (cloFrom X.env.cells sc.names [])) ∧ t E σ H' Q')
      (fun W pn xe E p1 p2 tk hW => pe_actC (i := 0) I1 L (hbind _ _ · _ ·) tk hW hr' (fun A outer s H hr2 => hbody A outer s H E f c' hr2) hNg hva hd hcd) hco ⟨hf, h H1 eP T1⟩
    exact ⟨t', ht'.nox, hq'⟩
  refine wpAny_call (codeAny_mono rc fun r s2 hq => ?_)
  cases r with
  | error e => exact (show False from hq).elim
  | ok fl =>
    cases fl with
    | ret u => exact I1.after hq
    | next => exact False.elim hq
    | brk => exact False.elim hq
    | cont => exact False.elim hq
/-! ### the steps -/
theorem TabOK.tabS {q : Str} {tb : Array Value} {H : Hp} {P : Addr} (h : TabOK q tb H) (e : H P = some (.tbl tb)) : TabS H P q := ⟨tb, e, h.1, h.2⟩
section
variable {K : PySem.W.Frag} {B H : Hp} {L L' : List (Addr × HO)} {I : List Im} {Q : VK} {σ : L2.St} {P C : Addr} {q ret : Str} {tb : Array Value}
theorem s_lam {t : XK → TE} (hC : Ctx K B H L I) (m : Pick (P, .tbl tb) L L') (f : Im.tab q tb ∈ I) (k : ∀ tb' H1, Ctx K B H1 ((P, .tbl tb') :: L') (.tab q tb' :: I) → t (kTold K C ret Q) σ H1 Q) : tLamP P q (TTold K C ret) t σ H Q := by
  have hC := hC.pick m
  have e0 := hC.get List.mem_cons_self
  refine ⟨(hC.tab f).tabS e0, fun H1 e t1 => ?_⟩
  obtain ⟨tb', h1, h2, h3⟩ := t1
  exact k tb' H1 ((hC.but List.mem_cons_self .here rfl e h1).add (i := .tab q tb') ⟨h2, h3⟩)
theorem s_lamV {d : LamD} (hC : Ctx K B H L I) (m : Pick (P, .tbl tb) L L') (f : Im.tab q tb ∈ I)
    (k : ∀ f c tb' H1, Ctx K B H1 ((P, .tbl tb') :: L') (.pr (fun H => H f = some (LamO f c q d.ps d.body d.sc)) (fun _ _ s h => s _ _ h rfl) :: .pr (fun H => H c = some (CodeO c q)) (fun _ _ s h => s _ _ h rfl) :: .tab q tb' :: I) → Q (.ref f) H1) : tLamV P q d σ H Q := by
  have hC := hC.pick m
  have e0 := hC.get List.mem_cons_self
  refine ⟨(hC.tab f).tabS e0, fun f c H1 e t1 hf hc => ?_⟩
  obtain ⟨tb', h1, h2, h3⟩ := t1
  exact k f c tb' H1 ((((hC.but List.mem_cons_self .here rfl e h1).add (i := .tab q tb') ⟨h2, h3⟩).add (i := .pr (fun H => H c = some (CodeO c q)) (fun _ _ s h => s _ _ h rfl)) hc).add (i := .pr (fun H => H f = some (LamO f c q d.ps d.body d.sc)) (fun _ _ s h => s _ _ h rfl)) hf)
end
/-! ### words by place; defs whose code is named -/
def lamOf : Expr → LamD
  | .Lambda ps body sc _ => ⟨ps, body, sc⟩
  | e => ⟨defArgs (.Pass ⟨0, 0, 0, 0⟩), e, defScope (.Pass ⟨0, 0, 0, 0⟩)⟩
def eltOf (e : Expr) (i : Nat) : Expr := match e with
  | .List es _ => es.getD i e
  | _ => e
def asgOf : Stmt → Expr
  | .Assign _ e _ => e
  | _ => .Name "" ⟨0, 0, 0, 0⟩
theorem _root_.L2.FunD.okC {P : Program} {w : World} {K : PySem.W.Frag} {mg : Str → Option Value} {base : Heap} {x qual : Str} {params : Arguments} {body : List Stmt} {scope : Scope} {dvs : List V} {kws : List (Str × V)} {f : Addr} {fd : FuncData}
    {CX : CXT} {N ps : List Str} {k : Nat} {sp : Sp} (F : FunD K x qual params body scope dvs kws f fd) (S : FnScope N ps scope) (len : ∀ vs H Q E, sp vs H Q E → vs.length = ps.length)
    (hbody : ∀ (cdv : Value) (A : Around) (outer : List Env) (s : Shared) (H : Hp) (vs : List V) (Q : VK) (E : XK), Room k (A.deeper (envOfC qual scope s.heap.objs.size f cdv)) → fd.code = cdv → sp vs H Q E →
      ∃ t, PSs (cxOf CX P w K mg base N qual scope f cdv A outer s H E) body t ∧ t { nx := fun _ H' => Q .non H', rt := Q } (L2.start N vs) H) : FnOk P w K mg base CX (k + 1) f fd ps sp := by
  obtain ⟨oc, od, dV, kV, doc, pm, an, cdv, ct, osl, rfl, lk, hcd, _, _⟩ := F.ex
  exact fn_of lk hcd S len fun A outer s H vs Q E hr hsp => hbody cdv A outer s H vs Q E hr rfl hsp
end Ph
namespace Ph
open PySem PySem.Spec PyProof.Rows L2 GxR
/-- the element: a test of the sign, the globals known -/
def EltG (X : Cx) (sc : Scope) (x : Str) (elt : Expr) (pb : Nat → Bool) : Prop :=
  ∀ (ce : Env) (A' : Around) (E' : Value → Shared → Prop) (c : Nat) (t : Tok) (z : Shared) (m : Str → Option Value), A'.handled = none → ce.scope = sc → ce.globals = mainGlobals → z.heap.Ns mainGlobals X.mg → z.heap.Ns ce.locals m → m x = some (.str ⟨#[c]⟩ t) →
    wpAny (model X.prog X.w) A' (eval elt ce) (fun y z' => y = .bool (pb c) ∧ Keeps z z') E' z
section
variable {X : Cx} {pins : List (Addr × Obj)} {σ : L2.St} {H : Hp} {s : Shared}
theorem gen_strG {c P : Addr} {elt iter : Expr} {x : Str} {px gpos : Pos} {sc : Scope} {pb : Nat → Bool} {te : TE} {k : Nat} {Qz : Value → Shared → Prop} {R : Str → Hp → Prop}
    (hr : Room k X.A) (TB : GxR.TabB X.base X.mg c P) (hcode : X.env.code = .ref c) (S : GenS X.env sc x) (hi : PE X iter te) (hel : EltG X sc x elt pb)
    (hs : ∀ v, genFold iter X.env v = pure v) (I : Inv X pins σ H s) (h : te σ H fun v Ha => ∃ a : Str, v = .str a ∧ TabG Ha P ∧ R a Ha)
    (hQ : ∀ a Ha g z, R a Ha → Ready X pins σ Ha P a pb g z → Qz (.ref g) z) :
    wpAny (model X.prog X.w) X.A (eval (.GeneratorExp elt [⟨.Name x px, iter, [], 0⟩] sc gpos) X.env) Qz X.xe s := by
  refine wpAny_GeneratorExp_walksQ hr.hd S.co (closure_ok S.free) S.cell S.dot S.loc S.kind (by have := hr.dp; omega) ?_ hs
  refine thn (hi.run pins s σ H _ I h) fun xv sa ⟨v, Ha, Ia, ra, qa⟩ => ?_
  obtain ⟨a, rfl, ⟨tb, hP, ht⟩, qa⟩ := qa
  obtain ⟨t, rfl⟩ := _root_.id ra
  refine wpAny_pyIter_str fun oi St W hst => ?_
  have hPs : sa.heap.get? P = some { cls := .none, data := .fields tb } := Ia.hok P _ hP
  have hPlt : P < sa.heap.objs.size := Heap.lt_size hPs
  have hP2 : (sa.heap.push oi).get? P = some { cls := .none, data := .fields tb } := Heap.get?_push_of_some _ hPs
  have cd : PySem.W.CodeHd (sa.heap.push oi) c P := TB.code.keeps fun b u e => Heap.get?_push_of_some _ (Ia.bk b u e)
  have lim2 : (sa.heap.push oi).NoLimit := Ia.nolimit.push oi
  have cont : ∀ (code : Value) (hb3 : Heap) (tk : Nat) (tb2 : Array Value), Heap.ExtBut P (sa.heap.push oi) hb3 → (sa.heap.push oi).objs.size ≤ hb3.objs.size → hb3.get? P = some { cls := .none, data := .fields tb2 } → (∃ more, tb2 = tb ++ more) → TriplesOk tb2.toList →
      wpAny (model X.prog X.w) X.A (builtinsFor X.env.globals X.env.builtins) (fun bi sd =>
        ∃ Ia fp wr n₀ Pf St₀ pz F, Value.ref sa.heap.objs.size = .ref Ia ∧ (∀ A' : Around, A'.handled = none → Walks X.prog X.w A' Ia fp wr n₀ Pf St₀) ∧ St₀ 0 sd.heap ∧ (∀ b ∈ fp, b < sd.heap.objs.size) ∧ sd.heap.NoLimit ∧ cStatics ∉ wr ∧
          (∀ href : Heap, (∀ b o, sd.heap.get? b = some o → href.get? b = some o) →
            QuietGen X.prog X.w (genEnv sc (cloFrom X.env.cells sc.names []) sd.heap.objs.size code bi X.env) x [] elt (List.range sd.heap.objs.size) wr Pf pz F href) ∧
          (∀ a hb5 tk gs, gs.bare = true → sd.heap.objs.size < a → hb5.objs.size = a + 1 → (∀ b o, sd.heap.get? b = some o → hb5.get? b = some o) →
            WalksS X.prog X.w X.A.in4 a (a :: sd.heap.objs.size :: List.range sd.heap.objs.size) (sd.heap.objs.size :: wr) (GenOnlyQ sd.gens.size) (passing pz n₀ 0).length
              (fun j y => ∃ i, (passing pz n₀ 0)[j]? = some i ∧ F i y) (GenAt X.prog X.w X.A.in4 a sd.gens.size sd.heap.objs.size (List.range sd.heap.objs.size) wr pz n₀ F) →
            GenAt X.prog X.w X.A.in4 a sd.gens.size sd.heap.objs.size (List.range sd.heap.objs.size) wr pz n₀ F 0 { sd with gens := sd.gens.push gs, toks := tk, heap := hb5 } →
            Qz (.ref a) { sd with gens := sd.gens.push gs, toks := tk, heap := hb5 })) X.xe { sa with heap := hb3, toks := tk } := by
    intro code hb3 tk tb2 hx hsz hP3 hmore ht3
    obtain ⟨bm, ob, e1, e2, e3, e4, e5, e6, e7, e8⟩ := TB.bm
    have hcP : cStatics ≠ P := fun e => by
      obtain ⟨_, hns, _⟩ := Ia.nolimit
      obtain ⟨ow, es, ep, ho, hd, _⟩ := hns
      rw [e, hPs] at ho
      cases ho
      cases hd
    have hcl : cStatics < sa.heap.objs.size := let ⟨_, hns, _⟩ := Ia.nolimit; hns.lt
    have sz2 : (sa.heap.push oi).objs.size = sa.heap.objs.size + 1 := Heap.size_push ..
    have keep3 : ∀ b u, b ≠ P → sa.heap.get? b = some u → hb3.get? b = some u := fun b u hb e => hx b u hb (Heap.get?_push_of_some _ e)
    have nsA : sa.heap.Ns mainGlobals X.mg := Ia.mod.glob.keeps Ia.bk
    have ns3 : hb3.Ns mainGlobals X.mg := (nsA.push oi).extBut hx TB.gP
    refine wpAny_builtinsFor (m := X.mg) (by rw [Ia.ok.glob]; exact ns3) e1 e2 (keep3 _ _ e4 (Ia.bk _ _ e5)) e6 e7 e8 ?_
    refine ⟨sa.heap.objs.size, [sa.heap.objs.size], [sa.heap.objs.size], a.cps.size, SignAt a, St, (fun _ => true), (fun i y => ∃ cc, a.cps[i]? = some cc ∧ y = .bool (pb cc)), rfl, W, ?_, ?_, lim2.extBut hx hcP, ?_, ?_, ?_⟩
    · refine (W X.A hr.hd).frame _ _ _ hst fun b hb u e => hx b u (fun z => ?_) e
      rcases List.mem_cons.mp hb with zz | zz
      · exact Nat.ne_of_lt hPlt (z.symm.trans zz)
      · cases zz
    · intro b hb
      rcases List.mem_cons.mp hb with z | z
      · rw [z]
        show sa.heap.objs.size < hb3.objs.size
        omega
      · cases z
    · intro z
      rcases List.mem_cons.mp z with z | z
      · exact Nat.ne_of_lt hcl z
      · cases z
    · intro href hhref
      refine ⟨fun A' E' i v sx m₂ hA hPv hn hm hk => ?_, fun A' E' i v sx m₂ hA hPv hp hn hm hk => ?_⟩
      · simp only [List.forIn_nil]
        exact wpAny_pure ⟨rfl, keeps_refl _⟩
      · obtain ⟨cc, u, hcc, rfl⟩ := hPv
        have nsx : sx.heap.Ns mainGlobals X.mg := by
          have hlt : mainGlobals < sa.heap.objs.size := nsA.lt
          obtain ⟨og, es, ep, hg, rr⟩ := ns3
          refine ⟨og, es, ep, hk mainGlobals (List.mem_range.mpr (Heap.lt_size hg)) (fun z => ?_) og (hhref _ _ hg), rr⟩
          rcases List.mem_cons.mp z with z | z
          · exact Nat.ne_of_lt hlt z
          · cases z
        exact wpAny_mono (hel _ A' E' cc u sx m₂ hA rfl Ia.ok.glob nsx hn hm) (fun y sy r => ⟨⟨cc, hcc, r.1⟩, r.2⟩) fun _ _ e => e
    · intro g hb5 tk5 gs hgb hag hsz5 hk5 W5 hat
      simp only [GxR.passing_true, List.length_range] at W5
      refine hQ a Ha g _ qa ⟨_, _, _, _, _, W5.in4_1, hat, ?_, fun sw hm => ?_⟩
      · intro j y sj Qj Ej hy hQj
        obtain ⟨i, hij, cc, hcc, rfl⟩ := hy
        obtain ⟨hj, ej⟩ := List.getElem?_eq_some_iff.mp hij
        rw [List.getElem_range] at ej
        subst ej
        have e9 : a.cps.toList[j]? = some cc := by rw [Array.getElem?_toList]; exact hcc
        have hQ2 : Qj (trF pb a.cps.toList j) sj := hQj
        rw [trF_some e9] at hQ2
        exact wpAny_truthy_bool hQ2
      · obtain ⟨more, em⟩ := hmore
        have nwr : ∀ b u, sa.heap.get? b = some u → b ∉ hb3.objs.size :: [sa.heap.objs.size] := fun b u e hb => by
          have hl := Heap.lt_size e
          rcases List.mem_cons.mp hb with z | z
          · rw [z] at hl
            have h9 : (hb3.objs.size : Nat) < sa.heap.objs.size := hl
            omega
          · rcases List.mem_cons.mp z with z | z
            · rw [z] at hl
              exact Nat.lt_irrefl _ hl
            · cases z
        have J := inv_tab (more := more) (h' := sw.heap) (g' := sw.gens) (d' := sw.drawn) (t' := sw.toks) Ia hP (fun b u hb e => hm.heap b u (nwr b u e) (hk5 b u (keep3 b u hb e)))
          (by rw [← em]; exact hm.heap P _ (nwr P _ hPs) (hk5 P _ hP3)) (AllBare.movedS (Ia.bare.push hgb) hm)
        rw [sh_eta sa sw hm.os] at J
        refine ⟨upd Ha P (.tbl (tb ++ more)), ⟨⟨tb ++ more, upd_same, by rw [← em]; exact ht3⟩, fun b hb => upd_ne hb⟩, J⟩
  refine ⟨lim2, ?_⟩
  cases hf : codeAmong gpos tb.toList with
  | none =>
    refine wpAny_genexprCodeX hcode (cd.code hP2 ht) (cd.tab hP2) hf fun c' h' tk hx hge hlt hco' _ htab' _ => ?_
    obtain ⟨_, _, _, _, _, _, _, _, _, _, _, _, _, _, _, _, _, _, _, htr, _⟩ := hco'
    exact cont _ h' tk _ hx (Nat.le_trans hge (Nat.le_of_lt hlt)) htab'.2 ⟨_, rfl⟩ htr
  | some cv =>
    refine wpAny_genexprCode_hit hcode (cd.code hP2 ht) hf ?_
    exact cont cv (sa.heap.push oi) sa.toks tb (Heap.ExtBut.refl _ _) (Nat.le_refl _) hP2 ⟨#[], by simp⟩ ht
theorem pe_anyG {c P : Addr} {elt iter : Expr} {x : Str} {px p pos gpos : Pos} {sc : Scope} {pb : Nat → Bool} {te : TE} {k : Nat}
    (hr : Room k X.A) (hg : Gl X "any") (hm : X.mg "any" = none) (TB : GxR.TabB X.base X.mg c P) (hcode : X.env.code = .ref c) (S : GenS X.env sc x) (hi : PE X iter te) (hel : EltG X sc x elt pb)
    (hs : ∀ v, genFold iter X.env v = pure v)
    (he : starEach [.GeneratorExp elt [⟨.Name x px, iter, [], 0⟩] sc gpos] X.env = (false, eval (.GeneratorExp elt [⟨.Name x px, iter, [], 0⟩] sc gpos) X.env) :: starEach [] X.env := by rfl) :
    PE X (.Call (.Name "any" p) [.GeneratorExp elt [⟨.Name x px, iter, [], 0⟩] sc gpos] [] pos) (tAnyS P pb te) := by
  refine ⟨fun pins s σ H Q I h => ?_⟩
  refine wpAny_Call_Name_kw (ld_blt I hg hm boot_any (PyProof.Rows.callWith_builtin1 ?_ he (by rfl)))
  rw [he]
  show wpAny _ _ (spliced ((false, eval (.GeneratorExp elt [⟨.Name x px, iter, [], 0⟩] sc gpos) X.env) :: backTo pos (starEach [] X.env))) _ _ s
  refine Calls.spliced_cons (gen_strG (R := fun a Ha => ∀ Hb, Tabbed P Ha Hb → Q (.bl (a.cps.toList.any pb)) Hb) hr TB hcode S hi hel hs I h fun a Ha g z hR hG => ?_)
  obtain ⟨fp, wr, G, F, St, W, hst, htr, hI⟩ := hG
  refine Calls.spliced_nil (call_any_walkS (W.self 0 _ _ _ hst ⟨g, fp, wr, G, _, F, St, _, rfl, W, hst, htr, fun sw hmv => ?_⟩))
  obtain ⟨Hb, hT, J⟩ := hI sw hmv
  refine ⟨.bl _, Hb, J, rfl, ?_⟩
  rw [any_signs a pb]
  exact hR Hb hT
end
/-- x not in G, G a text of the module -/
theorem elt_ninG {X : Cx} {sc : Scope} {x g z : Str} {p1 p2 p3 : Pos} (hk : sc.kind = .function) (hl : sc.names.lookup x = some .local) (hg : sc.names.lookup g = some .globalImplicit) (hm : ∃ t, X.mg g = some (.str z t))
    (hd : (x == ("__debug__" : Str)) = false := by decide) (hd2 : (g == ("__debug__" : Str)) = false := by decide) : EltG X sc x (.Compare (.Name x p1) [.NotIn] [.Name g p2] p3) (fun c => !decide (c ∈ z.cps.toList)) := by
  intro ce A' E' c t zz m hA hsc hglo hns hn hx
  obtain ⟨tz, hm⟩ := hm
  refine wpAny_Compare1 ?_
  refine wpAny_Name (wpAny_loadName_local (by rw [hsc]; exact hk) (show ce.scope.names.lookup x = some .local by rw [hsc]; exact hl) hn hx ?_) hd
  refine Calls.Name_function_global (by rw [hsc]; exact hk) (show ce.scope.names.lookup g = some .globalImplicit by rw [hsc]; exact hg) (Calls.loadGlobal_global (by rw [hglo]; exact hns) hm ?_) hd2
  refine PySem.P.notIn_str ⟨?_, keeps_refl _⟩
  show Value.bool _ = Value.bool _
  rw [PySem.StrLaws.found_one]
/-! ### the steps -/
section
variable {K : PySem.W.Frag} {B H : Hp} {L L' : List (Addr × HO)} {I : List Im} {Q : VK} {σ : L2.St} {P : Addr} {tb : Array Value} {pb : Nat → Bool}
def kAny (P : Addr) (pb : Nat → Bool) (Q : VK) : VK := fun v Ha => ∃ a : Str, v = .str a ∧ TabG Ha P ∧ ∀ Hb, Tabbed P Ha Hb → Q (.bl (a.cps.toList.any pb)) Hb
theorem s_anyS {te : TE} (h : te σ H (kAny P pb Q)) : tAnyS P pb te σ H Q := h
theorem s_anyV {x : Str} (hC : Ctx K B H L I) (m : Pick (P, .tbl tb) L L') (f : Im.tri tb ∈ I) (k : ∀ tb' H1, Ctx K B H1 ((P, .tbl tb') :: L') (.tri tb' :: I) → Q (.bl (x.cps.toList.any pb)) H1) : kAny P pb Q (.str x) H := by
  have hC := hC.pick m
  refine ⟨x, rfl, ⟨tb, hC.get List.mem_cons_self, hC.tri f⟩, fun Hb hT => ?_⟩
  obtain ⟨⟨tb', h1, h2⟩, h3⟩ := hT
  exact k tb' Hb ((hC.but List.mem_cons_self .here rfl (fun b u n e => by rw [h3 b n]; exact e) h1).add (i := .tri tb') h2)
end
theorem tabG {base : Heap} {mg : Str → Option Value} {c P : Addr} (h : LamX.TabB base mg c P) : GxR.TabB base mg c P := ⟨h.code, h.bm, h.gP⟩
def genSB (sc : Scope) (x : Str) : Bool := decide (sc.kind = .function) && !sc.isCoroutine && sc.names.all (fun y => !decide (y.2 = .cell) && !decide (y.2 = .free)) && decide (sc.names.lookup (".0" : Str) = some NameKind.local) && decide (sc.names.lookup x = some .local)
theorem genS_by {env : Env} {sc : Scope} {x : Str} (h : genSB sc x = true) : GenS env sc x := by
  unfold genSB at h
  simp only [Bool.and_eq_true, Bool.not_eq_true', decide_eq_true_eq, decide_eq_false_iff_not, List.all_eq_true] at h
  obtain ⟨⟨⟨⟨h1, h2⟩, h3⟩, h4⟩, h5⟩ := h
  exact ⟨h1, h2, fun y hy => (h3 y hy).1, h4, h5, fun y hy e => absurd e (h3 y hy).2⟩
end Ph
namespace Ph
open PySem PySem.Spec PyProof.Rows L2
def gFld (K : PySem.W.Frag) (to : TE) (f : Str) : TG := fun v σ H Q => to σ H (kSetF K f Q σ v)
theorem pg_fld {X : Cx} {o : Expr} {ta : TE} {f : Str} {pos : Pos} (ha : PE X o ta) : PG X (.Attribute o f pos) (gFld X.K ta f) := by
  refine ⟨fun pins s σ H v u Q I r h => ?_⟩
  rw [assign_Attribute]
  refine wpAny_bind (wpAny_holding (thn (ha.run pins s σ H _ I h) fun ov s1 ⟨x, H1, I1, r1, q1⟩ => ?_))
  obtain ⟨a, C, dx, fs, rfl, ea, c, n, l, q2⟩ := q1
  obtain rfl : ov = Value.ref a := r1
  exact wpAny_bind (wpAny_standAt (wpAny_bind (wpAny_holding (setattr_ok I1 ea c n l r fun s3 I3 => wpAny_release ⟨σ, _, I3, q2⟩))))
section
variable {K : PySem.W.Frag} {B H : Hp} {L L' F : List (Addr × HO)} {I : List Im} {Q : VK} {σ : L2.St} {A Cb Dc : L2.St → Hp → Prop} {Bt : VK} {R : L2.St → Hp → Prop} {v : V}
theorem s_gfld {to : TE} {f : Str} (h : to σ H (kSetF K f R σ v)) : gFld K to f v σ H R := h
/-! pop -/
def kBm0 (K : PySem.W.Frag) (T : String) (r : V → List V → Hp → VK → Prop) (Q : VK) : VK := fun x H1 => tyV K T x H1 ∧ r x [] H1 Q
theorem s_bm0 {T : String} {r : V → List V → Hp → VK → Prop} {to : TE} (h : to σ H (kBm0 K T r Q)) : tBM0 K T r to σ H Q := h
theorem s_popL {l : Addr} {xs : List V} {y : V} (hC : Ctx K B H L I) (m : H l = some (.lst (xs ++ [y]))) (u : Up l (.lst xs) L L') (k : ∀ H1, Ctx K B H1 L' I → Q y H1) : kBm0 K "list" rPop Q (.ref l) H := by
  refine ⟨.inl ⟨rfl, _, SqL.of m⟩, l, xs ++ [y], y, rfl, rfl, m, by simp, ?_⟩
  rw [List.dropLast_concat]
  exact k _ (hC.put u rfl)
/-! split -/
abbrev rSplit1 : V → List V → Hp → VK → Prop := fun x xs H Q => ∃ a b, x = .str a ∧ xs = [.str b] ∧ (b.length == 0) = false ∧ a.length + 2 ≤ sizeLine ∧ rNewStrs (Txt.split a b) H Q
def kM1 (r : V → List V → Hp → VK → Prop) (te : TE) (σ : L2.St) (Q : VK) : VK := fun x H1 => (∃ a, x = .str a) ∧ te σ H1 fun y H2 => r x [y] H2 Q
theorem s_m1 {r : V → List V → Hp → VK → Prop} {to te : TE} (h : to σ H (kM1 r te σ Q)) : tM1 r to te σ H Q := h
theorem s_m1V {r : V → List V → Hp → VK → Prop} {te : TE} {a : Str} (h : te σ H fun y H2 => r (.str a) [y] H2 Q) : kM1 r te σ Q (.str a) H := ⟨⟨a, rfl⟩, h⟩
theorem s_split {a b : Str} (hC : Ctx K B H L I) (hb : (b.length == 0) = false) (hz : a.length ≤ 100000) (k : ∀ p H1, Ctx K B H1 ((p, .lst ((Txt.split a b).map V.str)) :: L) I → Q (.ref p) H1) : rSplit1 (.str a) [.str b] H Q :=
  ⟨a, b, rfl, rfl, hb, by rw [sizeLine_eq]; omega, fun p hp => k p _ (hC.newM hp rfl)⟩
/-! isinstance(x, str) -/
theorem s_isStrS {x : Str} (h : Q (.bl true) H) : rIsi K [.str x, .ty "str"] H Q := ⟨_, _, _, _, true, rfl, .ty _, .base (.str x), by rfl, h⟩
theorem s_isStrI {i : Int} (h : Q (.bl false) H) : rIsi K [.int i, .ty "str"] H Q := ⟨_, _, _, _, false, rfl, .ty _, .base (.int i), by rfl, h⟩
/-! cuts -/
theorem s_slS {z : Str} {lo hi : Option Int} (hz : z.length ≤ 100000) (h : Q (.str (cutS z lo hi)) H) : rSlU K (.str z) lo hi H Q := .inr (.inl ⟨z, rfl, Nat.le_trans hz (by decide), h⟩)
theorem s_slT1 {a : Addr} {x : V} {r : List V} (hC : Ctx K B H L I) (h : SqT K H a (x :: r)) (z : (x :: r).length ≤ 1000) (k : ∀ p H1, Ctx K B H1 L (.tup p r :: I) → Q (.ref p) H1) : rSlU K (.ref a) (some 1) none H Q := by
  have e1 : HT.sIx (x :: r).length 0 (some 1) = 1 := by
    unfold HT.sIx
    simp
  have e2 : HT.sIx (x :: r).length (x :: r).length none = (x :: r).length := by rfl
  have e : cutV (x :: r) (some 1) none = r := by
    unfold cutV
    rw [e1, e2, List.drop_succ_cons, List.drop_zero, List.length_cons, Nat.add_sub_cancel, List.take_length]
  refine .inr (.inr ⟨a, x :: r, rfl, h, fun z => ?_, fun p hp => ?_⟩)
  · rw [e1] at z
    exact absurd z.1 (by decide)
  · rw [e]
    exact k p _ (hC.newT hp)
theorem s_mulS {x : Str} {k : Int} (h1 : 2 ≤ k) (h2 : k ≤ 1000) (h3 : 1 ≤ x.length) (h4 : x.length ≤ 1000) (h : Q (.str (repS x k.toNat)) H) : rMulU (.str x) (.int k) H Q := ⟨h1, h2, h3, h4, h⟩
theorem s_ixS {z : Str} {i : Int} {c : Nat} (e : rIxS (.str z) (.int i) H Q) : rIxU K (.str z) (.int i) H Q := .inr (.inr (.inl e))
/-! an item of a list, the place not known -/
theorem atI_at {xs : List V} {r : Int} (h0 : 0 ≤ r) (h1 : r < xs.length) : ∃ v, atI xs r = some v ∧ v ∈ xs := by
  have hr : r.toNat < xs.length := by omega
  have e := atI_nat (xs := xs) (j := r.toNat) (v := xs[r.toNat]) (List.getElem?_eq_getElem hr)
  rw [Int.toNat_of_nonneg h0] at e
  exact ⟨_, e, List.getElem_mem hr⟩
theorem s_ixOne {l : Addr} {xs : List V} {r : Int} (m : H l = some (.lst xs)) (h0 : 0 ≤ r) (h1 : r < xs.length) (q : ∀ v, v ∈ xs → Q v H) : rIxU K (.ref l) (.int r) H Q := by
  obtain ⟨v, e, w⟩ := atI_at h0 h1
  exact s_ixL m e (q v w)
/-! while -/
theorem s_while {c : TT} {tb : TS} (Pv : L2.St → Hp → Prop) (μ : L2.St → Hp → Nat) (h0 : Pv σ H)
    (hs : ∀ σ H, Pv σ H → c σ H fun b H1 => if b = true then tb ⟨fun σ' H' => Pv σ' H' ∧ μ σ' H' < μ σ H, Bt, A, fun σ' H' => Pv σ' H' ∧ μ σ' H' < μ σ H⟩ σ H1 else A σ H1)
    (mono : ∀ σ H Q Q', (∀ b H1, Q b H1 → Q' b H1) → c σ H Q → c σ H Q') : tWhile c tb ⟨A, Bt, Cb, Dc⟩ σ H := while_by (D := ⟨A, Bt, Cb, Dc⟩) Pv μ h0 hs mono
/-! the teller at a lambda of a list -/
theorem s_toldV {CS : Addr} {ret q : Str} {n i : Nat} {fam : List LamD} {t : Nat → XK → TE} (f c : Addr) (k : Nat) (d : LamD) (hs : σ[i]? = some (some (.ref f))) (hj : fam[k]? = some d)
    (hf : H f = some (LamO f c q d.ps d.body d.sc)) (hc : H c = some (LamX.CodeO c q)) (h : t k (kTold K CS ret Q) (List.replicate n none) H Q) : tToldV K CS ret q n i fam t σ H Q := ⟨f, c, k, d, hs, hj, hf, hc, h⟩
end
theorem passLam {X : Cx} {A : Around} {outer : List Env} {s : Shared} {H : Hp} {E : XK} {scope : Scope} {f c' : Addr} : Passes (L2.CX X.prog X.w) (LamX.lamCx X A outer s H E scope f c') E := passes_call (takes_of rfl rfl rfl rfl) fun _ _ _ _ h => h
theorem passLam0 {X : Cx} {q : Str} {A : Around} {outer : List Env} {s : Shared} {H : Hp} {E : XK} {sc : Scope} {f c : Addr} : Passes (L2.CX X.prog X.w) (lamCx0 X q A outer s H E sc f c) E := passes_call (takes_of rfl rfl rfl rfl) fun _ _ _ _ h => h
section
variable {K : PySem.W.Frag} {H : Hp} {Q : VK}
theorem app_le10 {x y : Str} (hx : x.length ≤ 50000) (hy : y.length ≤ 50000) : (x ++ y).length ≤ 100000 := by
  rw [Str.length_append]
  omega
theorem app_le5 {x y : Str} (hx : x.length ≤ 20000) (hy : y.length ≤ 20000) : (x ++ y).length ≤ 50000 := by
  rw [Str.length_append]
  omega
theorem app_le2 {x y : Str} (hx : x.length ≤ 10000) (hy : y.length ≤ 10000) : (x ++ y).length ≤ 20000 := by
  rw [Str.length_append]
  omega
theorem app_le1 {x y : Str} (hx : x.length ≤ 5000) (hy : y.length ≤ 5000) : (x ++ y).length ≤ 10000 := by
  rw [Str.length_append]
  omega
theorem app_le05 {x y : Str} (hx : x.length ≤ 2500) (hy : y.length ≤ 2500) : (x ++ y).length ≤ 5000 := by
  rw [Str.length_append]
  omega
theorem s_addSS {i j : Str} (z1 : i.length ≤ 100000) (z2 : j.length ≤ 100000) (h : Q (.str (i ++ j)) H) : rAddU K (.str i) (.str j) H Q := ⟨Nat.le_trans (Nat.add_le_add z1 z2) (by decide), h⟩
theorem s_lenSS {z : Str} (m : z.length ≤ 100000) (h : Q (.int z.length) H) : rLenU K [.str z] H Q := s_lenS (Nat.le_trans m (by decide)) h
end
/-! lists: the last ones, all but the last -/
theorem TDs.drop {K : PySem.W.Frag} {H : Hp} : ∀ {vs : List V} {ds : List PyData} (n : Nat), TDs K H vs ds → TDs K H (vs.drop n) (ds.drop n)
  | _, _, 0, h => by rw [List.drop_zero, List.drop_zero]; exact h
  | _, _, _ + 1, .nil => .nil
  | _, _, n + 1, .cons _ t => by rw [List.drop_succ_cons, List.drop_succ_cons]; exact TDs.drop n t
theorem TDs.unsnoc {K : PySem.W.Frag} {H : Hp} {d : PyData} : ∀ {vs : List V} {ds : List PyData}, TDs K H vs (ds ++ [d]) → ∃ us v, vs = us ++ [v] ∧ TDs K H us ds ∧ TD K H v d
  | _, [], .cons h .nil => ⟨[], _, rfl, .nil, h⟩
  | _, e :: ds, .cons h t => by
    obtain ⟨us, v, rfl, q1, q2⟩ := TDs.unsnoc (ds := ds) t
    exact ⟨_ :: us, v, rfl, .cons h q1, q2⟩
theorem cutV_last {xs : List V} {k : Nat} (hk : 0 < k) : cutV xs (some (-(k : Int))) none = xs.drop (xs.length - k) := by
  have e1 : HT.sIx xs.length 0 (some (-(k : Int))) = xs.length - k := by
    show (if (-(k : Int)) < 0 then ((-(k : Int)) + (xs.length : Int)).toNat else min (-(k : Int)).toNat xs.length) = _
    rw [if_pos (by omega)]
    omega
  have e2 : HT.sIx xs.length xs.length none = xs.length := rfl
  unfold cutV
  rw [e1, e2]
  exact List.take_of_length_le (by rw [List.length_drop]; omega)
theorem cutV_init {xs : List V} {y : V} : cutV (xs ++ [y]) none (some (-1)) = xs := by
  have e1 : HT.sIx (xs ++ [y]).length 0 none = 0 := rfl
  have e2 : HT.sIx (xs ++ [y]).length (xs ++ [y]).length (some (-1)) = xs.length := by
    show (if ((-1 : Int)) < 0 then ((-1 : Int) + ((xs ++ [y]).length : Int)).toNat else min (-1 : Int).toNat (xs ++ [y]).length) = _
    rw [if_pos (by decide), List.length_append, List.length_singleton]
    omega
  unfold cutV
  rw [e1, e2, List.drop_zero, Nat.sub_zero, List.take_left]
/-! == of data -/
section
variable {K : PySem.W.Frag} {H : Hp} {Q : VK}
theorem eqv_nil {ds : List PyData} : PyData.eqv (.list ds) (.list []) = ds.isEmpty := by
  cases ds <;> simp [PyData.eqv, PyData.eqvAll]
theorem s_eqE {l m : Addr} {vs : List V} {ds : List PyData} (hl : H l = some (.lst vs)) (hm : H m = some (.lst [])) (h : TDs K H vs ds) (sh : ShL 50 ds) (k : Q (.bl ds.isEmpty) H) : rEqU K (.ref l) (.ref m) H Q :=
  s_eqD (Dp.lst (SqL.of hl) h.dp) (Dp.lst (SqL.of hm) .nil) (sh.list.shaped (by decide)) (by decide) (by rw [eqv_nil]; exact k)
theorem s_neE {l m : Addr} {vs : List V} {ds : List PyData} (hl : H l = some (.lst vs)) (hm : H m = some (.lst [])) (h : TDs K H vs ds) (sh : ShL 50 ds) (k : Q (.bl (!ds.isEmpty)) H) : rNeU K (.ref l) (.ref m) H Q :=
  s_neD (Dp.lst (SqL.of hl) h.dp) (Dp.lst (SqL.of hm) .nil) (sh.list.shaped (by decide)) (by decide) (by rw [eqv_nil]; exact k)
theorem s_neSame {x y : V} {d : PyData} (h1 : TD K H x d) (h2 : TD K H y d) (s : Sh 50 d) (k : Q (.bl false) H) : rNeU K x y H Q :=
  s_neD h1.dp h2.dp (s.shaped (by decide)) (s.shaped (by decide)) (by rw [eqv_self s]; exact k)
theorem s_eqSame {x y : V} {d : PyData} (h1 : TD K H x d) (h2 : TD K H y d) (s : Sh 50 d) (k : Q (.bl true) H) : rEqU K x y H Q :=
  s_eqD h1.dp h2.dp (s.shaped (by decide)) (s.shaped (by decide)) (by rw [eqv_self s]; exact k)
theorem s_neSameL {l m : Addr} {us vs : List V} {ds : List PyData} (hl : H l = some (.lst us)) (hm : H m = some (.lst vs)) (h1 : TDs K H us ds) (h2 : TDs K H vs ds) (s : ShL 50 ds) (k : Q (.bl false) H) : rNeU K (.ref l) (.ref m) H Q :=
  s_neD (Dp.lst (SqL.of hl) h1.dp) (Dp.lst (SqL.of hm) h2.dp) (s.list.shaped (by decide)) (s.list.shaped (by decide)) (by rw [eqv_self s.list]; exact k)
theorem ShL.mono {n m : Nat} {ds : List PyData} (h : ShL n ds) (z : n ≤ m) : ShL m ds := fun d hd => (h d hd).mono z
end
def mnI (i j : Int) : Int := if j < i then j else i
def mxI (i j : Int) : Int := if j > i then j else i
section
variable {H : Hp} {Q : VK} {i j : Int}
theorem s_max2N (h : Q (.int (mxI i j)) H) : rMax2 [.int i, .int j] H Q := s_max2 h
theorem s_min2N (h : Q (.int (mnI i j)) H) : rMin2 [.int i, .int j] H Q := s_min2 h
theorem mnI_le : mnI i j ≤ i ∧ mnI i j ≤ j ∧ (mnI i j = i ∨ mnI i j = j) := by
  unfold mnI
  split <;> omega
theorem mxI_ge : i ≤ mxI i j ∧ j ≤ mxI i j ∧ (mxI i j = i ∨ mxI i j = j) := by
  unfold mxI
  split <;> omega
end
section
variable {H : Hp} {σ : L2.St} {A Cb Dc : L2.St → Hp → Prop} {Bt : VK}
def kBody (W : Nat → L2.St → Hp → Prop) (m : Nat) (tb : TS) (A : L2.St → Hp → Prop) (Bt : VK) (σ : L2.St) (H : Hp) : Prop := ∃ N : L2.St → Hp → Prop, (∀ σ' H', N σ' H' → ∃ m', m' < m ∧ W m' σ' H') ∧ tb ⟨N, Bt, A, N⟩ σ H
theorem s_body {W : Nat → L2.St → Hp → Prop} {m : Nat} {tb : TS} (h : tb ⟨fun σ' H' => ∃ m', m' < m ∧ W m' σ' H', Bt, A, fun σ' H' => ∃ m', m' < m ∧ W m' σ' H'⟩ σ H) : kBody W m tb A Bt σ H := ⟨_, fun _ _ h => h, h⟩
theorem s_whileN {c : TT} {tb : TS} (W : Nat → L2.St → Hp → Prop) (m : Nat) (h0 : W m σ H) (hs : ∀ m σ H, W m σ H → c σ H fun b H1 => if b = true then kBody W m tb A Bt σ H1 else A σ H1) : tWhile c tb ⟨A, Bt, Cb, Dc⟩ σ H :=
  ⟨W, ⟨m, h0⟩, hs⟩
end
theorem s_iteNDT {p : Prop} [Decidable p] {X Y : Prop} (hp : ¬ p) (h : X) : if (!decide p) = true then X else Y := by
  rw [decide_eq_false hp]
  exact iteT h
theorem s_iteNDF {p : Prop} [Decidable p] {X Y : Prop} (hp : p) (h : Y) : if (!decide p) = true then X else Y := by
  rw [decide_eq_true hp]
  exact iteF h
theorem atI_last {us : List V} {v : V} : atI (us ++ [v]) (((us ++ [v]).length : Int) - 1) = some v := by
  have e : (((us ++ [v]).length : Int) - 1) = (us.length : Int) := by
    rw [List.length_append, List.length_singleton]
    omega
  rw [e]
  exact atI_nat (by simp)
theorem s_ixLast {K : PySem.W.Frag} {H : Hp} {Q : VK} {a : Addr} {us : List V} {v : V} (m : H a = some (.lst (us ++ [v]))) (q : Q v H) : rIxU K (.ref a) (.int (((us ++ [v]).length : Int) - 1)) H Q := s_ixL m atI_last q
theorem atI_head {us : List V} {v : V} : atI (v :: us) (0 : Int) = some v := atI_nat (j := 0) rfl
theorem s_ixHead {K : PySem.W.Frag} {H : Hp} {Q : VK} {a : Addr} {us : List V} {v : V} (m : H a = some (.lst (v :: us))) (q : Q v H) : rIxU K (.ref a) (.int 0) H Q := s_ixL m atI_head q
section
variable {K : PySem.W.Frag} {B H : Hp} {Q : VK} {σ : L2.St} {L : List (Addr × HO)} {I : List Im}
theorem s_neSs {i : Str} (h : Q (.bl false) H) : rNeU K (.str i) (.str i) H Q := s_neS (by rw [decide_eq_true rfl]; exact h)
theorem s_callD {sp : Sp} {vs dvs : List V} {E : XK} (h : sp (vs ++ dvs) H Q E) : kCall sp dvs E Q vs H := h
/-- a comprehension with a test over a list -/
theorem lc_lstT {a : Addr} {xs : List V} {g : TG} {tt : TT} {te : TE} {vs : List Nat} (hC : Ctx K B H L I) (Pv : Addr → Nat → Hp → Prop) (h0 : ∀ D H1, Ctx K B H1 ((D, .lst []) :: L) I → Pv D 0 H1) (hl : ∀ i D H, i ≤ xs.length → Pv D i H → H a = some (.lst xs))
    (hs : ∀ i x D H, xs[i]? = some x → Pv D i H → g x (wipe σ vs) H fun σ2 H2 => wipe σ2 vs = wipe σ vs ∧ tt σ2 H2 fun b H3 => if b = true then te σ2 H3 (kApp D (Pv D (i + 1))) else Pv D (i + 1) H3)
    (hd : ∀ D H, Pv D xs.length H → Q (.ref D) H) : kLc g tt te vs σ Q (Itl K a) H := fun D hD =>
  lc_list (K := K) (xs := xs) (g := g) (tt := tt) (te := te) (vs := vs) (σ := σ) (H1 := H) (D := D) (Qd := fun H => Q (.ref D) H) (fun i H => Pv D i H) (h0 D _ (hC.newM hD rfl)) (fun i H hi p => SqL.of (hl i D H hi p))
    (fun i x H hx p => hs i x D H hx p) (fun H p => hd D H p)
end
/-- some of what is known -/
inductive Subs (I : List Im) : List Im → Prop
  | nil : Subs I []
  | cons {x : Im} {r : List Im} : x ∈ I → Subs I r → Subs I (x :: r)
theorem Subs.sub {I : List Im} : ∀ {J : List Im}, Subs I J → ∀ j, j ∈ J → j ∈ I
  | _, .nil, j, h => by cases h
  | _, .cons m s, j, h => (List.mem_cons.mp h).elim (fun e => by rw [e]; exact m) (s.sub j)
theorem Ctx.sub {K : PySem.W.Frag} {B H : Hp} {L L' : List (Addr × HO)} {I J : List Im} (h : Ctx K B H L I) (y : Lay H L') (s : Subs I J) : Ctx K B H L' J := ⟨y, fun j hj => h.im j (s.sub j hj), h.sb⟩
theorem te_eq {t t' : TE} (e : t = t') {σ : L2.St} {H : Hp} {Q : VK} (h : t' σ H Q) : t σ H Q := by
  rw [e]
  exact h
end Ph
namespace Wk
open PySem PySem.Spec PyProof.Rows L2 Ph
def top (i : Nat) : Stmt := PySem.Challenge.pw_phonestack_k14_fields_that_go_back.main.body.getD i (.Pass ⟨0, 0, 0, 0⟩)
abbrev s_Field__init : Stmt := inClass (top 7) 0
abbrev N_Field__init : List Str := ["self", "text"]
theorem sc_Field__init : FnScope N_Field__init ["self", "text"] (defScope s_Field__init) := ⟨rfl, rfl, rfl, by decide +kernel, rfl, by decide +kernel, by decide +kernel⟩
abbrev s_Field_shown : Stmt := inClass (top 7) 1
abbrev N_Field_shown : List Str := ["self"]
theorem sc_Field_shown : FnScope N_Field_shown ["self"] (defScope s_Field_shown) := ⟨rfl, rfl, rfl, by decide +kernel, rfl, by decide +kernel, by decide +kernel⟩
abbrev s_Field_keep : Stmt := inClass (top 7) 2
abbrev N_Field_keep : List Str := ["self"]
theorem sc_Field_keep : FnScope N_Field_keep ["self"] (defScope s_Field_keep) := ⟨rfl, rfl, rfl, by decide +kernel, rfl, by decide +kernel, by decide +kernel⟩
abbrev s_Field_put : Stmt := inClass (top 7) 3
abbrev N_Field_put : List Str := ["self", "text", "start", "end", "fresh", "goes_on"]
theorem sc_Field_put : FnScope N_Field_put ["self", "text"] (defScope s_Field_put) := ⟨rfl, rfl, rfl, by decide +kernel, rfl, by decide +kernel, by decide +kernel⟩
abbrev s_Field_drop : Stmt := inClass (top 7) 4
abbrev N_Field_drop : List Str := ["self", "behind", "start", "end"]
theorem sc_Field_drop : FnScope N_Field_drop ["self", "behind"] (defScope s_Field_drop) := ⟨rfl, rfl, rfl, by decide +kernel, rfl, by decide +kernel, by decide +kernel⟩
abbrev s_Field_go : Stmt := inClass (top 7) 5
abbrev N_Field_go : List Str := ["self", "place", "selects"]
theorem sc_Field_go : FnScope N_Field_go ["self", "place", "selects"] (defScope s_Field_go) := ⟨rfl, rfl, rfl, by decide +kernel, rfl, by decide +kernel, by decide +kernel⟩
abbrev s_Field_select_word : Stmt := inClass (top 7) 6
abbrev N_Field_select_word : List Str := ["self", "place", "start", "end"]
theorem sc_Field_select_word : FnScope N_Field_select_word ["self", "place"] (defScope s_Field_select_word) := ⟨rfl, rfl, rfl, by decide +kernel, rfl, by decide +kernel, by decide +kernel⟩
abbrev s_Field_chosen : Stmt := inClass (top 7) 7
abbrev N_Field_chosen : List Str := ["self", "start", "end"]
theorem sc_Field_chosen : FnScope N_Field_chosen ["self"] (defScope s_Field_chosen) := ⟨rfl, rfl, rfl, by decide +kernel, rfl, by decide +kernel, by decide +kernel⟩
abbrev s_Field_undo : Stmt := inClass (top 7) 8
abbrev N_Field_undo : List Str := ["self"]
theorem sc_Field_undo : FnScope N_Field_undo ["self"] (defScope s_Field_undo) := ⟨rfl, rfl, rfl, by decide +kernel, rfl, by decide +kernel, by decide +kernel⟩
abbrev s_Field_redo : Stmt := inClass (top 7) 9
abbrev N_Field_redo : List Str := ["self"]
theorem sc_Field_redo : FnScope N_Field_redo ["self"] (defScope s_Field_redo) := ⟨rfl, rfl, rfl, by decide +kernel, rfl, by decide +kernel, by decide +kernel⟩
abbrev s_check_field : Stmt := top 8
abbrev N_check_field : List Str := ["text"]
theorem sc_check_field : FnScope N_check_field ["text"] (defScope s_check_field) := ⟨rfl, rfl, rfl, by decide +kernel, rfl, by decide +kernel, by decide +kernel⟩
abbrev s_law_dice : Stmt := top 10
abbrev N_law_dice : List Str := ["cell"]
theorem sc_law_dice : FnScope N_law_dice ["cell"] (defScope s_law_dice) := ⟨rfl, rfl, rfl, by decide +kernel, rfl, by decide +kernel, by decide +kernel⟩
abbrev s_law_roll : Stmt := top 11
abbrev N_law_roll : List Str := ["dice", "many", "found"]
theorem sc_law_roll : FnScope N_law_roll ["dice", "many"] (defScope s_law_roll) := ⟨rfl, rfl, rfl, by decide +kernel, rfl, by decide +kernel, by decide +kernel⟩
abbrev s_law_rounds : Stmt := top 12
abbrev N_law_rounds : List Str := ["script", "most", "cells", "cell"]
theorem sc_law_rounds : FnScope N_law_rounds ["script", "most"] (defScope s_law_rounds) := ⟨rfl, rfl, rfl, by decide +kernel, rfl, by decide +kernel, by decide +kernel⟩
abbrev s_law_told : Stmt := top 13
abbrev N_law_told : List Str := ["what"]
theorem sc_law_told : FnScope N_law_told ["what"] (defScope s_law_told) := ⟨rfl, rfl, rfl, by decide +kernel, rfl, by decide +kernel, by decide +kernel⟩
abbrev s_law : Stmt := top 14
abbrev N_law : List Str := ["script", "dice", "first", "field", "state", "back", "ahead", "last_sign", "step", "sort", "text", "anchor", "caret", "start", "end", "word", "fresh", "goes_on", "behind", "a", "b", "place", "keeps", "left", "right", "turn", "bad", "f"]
theorem sc_law : FnScope N_law ["script"] (defScope s_law) := ⟨rfl, rfl, rfl, by decide +kernel, rfl, by decide +kernel, by decide +kernel⟩
structure Adr where
  c_Field : Addr
  c_ViewFault : Addr
  f_Field__init : Addr
  fd_Field__init : FuncData
  f_Field_shown : Addr
  fd_Field_shown : FuncData
  f_Field_keep : Addr
  fd_Field_keep : FuncData
  f_Field_put : Addr
  fd_Field_put : FuncData
  f_Field_drop : Addr
  fd_Field_drop : FuncData
  f_Field_go : Addr
  fd_Field_go : FuncData
  f_Field_select_word : Addr
  fd_Field_select_word : FuncData
  f_Field_chosen : Addr
  fd_Field_chosen : FuncData
  f_Field_undo : Addr
  fd_Field_undo : FuncData
  f_Field_redo : Addr
  fd_Field_redo : FuncData
  f_check_field : Addr
  fd_check_field : FuncData
  f_law_dice : Addr
  fd_law_dice : FuncData
  f_law_roll : Addr
  fd_law_roll : FuncData
  f_law_rounds : Addr
  fd_law_rounds : FuncData
  f_law_told : Addr
  fd_law_told : FuncData
  f_law : Addr
  fd_law : FuncData
  cc_check_field : Addr
  tb_check_field : Addr
  cc_law : Addr
  tb_law : Addr
structure Txt (K : PySem.W.Frag) (mg : Str → Option Value) (a : Adr) : Prop where
  cl_Field : Cls K a.c_Field
  na_Field_text : NoAttr K a.c_Field "text"
  na_Field_anchor : NoAttr K a.c_Field "anchor"
  na_Field_caret : NoAttr K a.c_Field "caret"
  na_Field_back_rows : NoAttr K a.c_Field "back_rows"
  na_Field_ahead_rows : NoAttr K a.c_Field "ahead_rows"
  na_Field_sign_last : NoAttr K a.c_Field "sign_last"
  mgc_Field : mg "Field" = some (.ref a.c_Field)
  mk_Field : Mk K a.c_Field a.f_Field__init
  fn_Field__init : FunD K "__init__" "Field.__init__" (defArgs s_Field__init) (defBody s_Field__init) (defScope s_Field__init) [(.str "")] [] a.f_Field__init a.fd_Field__init
  bi_Field__init : Binds K a.fd_Field__init ["self", "text"] []
  me_Field_shown : Meth K a.c_Field "shown" a.f_Field_shown
  fn_Field_shown : FunD K "shown" "Field.shown" (defArgs s_Field_shown) (defBody s_Field_shown) (defScope s_Field_shown) [] [] a.f_Field_shown a.fd_Field_shown
  bi_Field_shown : Binds K a.fd_Field_shown ["self"] []
  me_Field_keep : Meth K a.c_Field "keep" a.f_Field_keep
  fn_Field_keep : FunD K "keep" "Field.keep" (defArgs s_Field_keep) (defBody s_Field_keep) (defScope s_Field_keep) [] [] a.f_Field_keep a.fd_Field_keep
  bi_Field_keep : Binds K a.fd_Field_keep ["self"] []
  me_Field_put : Meth K a.c_Field "put" a.f_Field_put
  fn_Field_put : FunD K "put" "Field.put" (defArgs s_Field_put) (defBody s_Field_put) (defScope s_Field_put) [] [] a.f_Field_put a.fd_Field_put
  bi_Field_put : Binds K a.fd_Field_put ["self", "text"] []
  me_Field_drop : Meth K a.c_Field "drop" a.f_Field_drop
  fn_Field_drop : FunD K "drop" "Field.drop" (defArgs s_Field_drop) (defBody s_Field_drop) (defScope s_Field_drop) [(.bl false)] [] a.f_Field_drop a.fd_Field_drop
  bi_Field_drop : Binds K a.fd_Field_drop ["self", "behind"] []
  me_Field_go : Meth K a.c_Field "go" a.f_Field_go
  fn_Field_go : FunD K "go" "Field.go" (defArgs s_Field_go) (defBody s_Field_go) (defScope s_Field_go) [(.bl false)] [] a.f_Field_go a.fd_Field_go
  bi_Field_go : Binds K a.fd_Field_go ["self", "place", "selects"] []
  bi_Field_go_2 : ∃ ds, Vals [(.bl false)] ds ∧ Binds K a.fd_Field_go ["self", "place", "selects"] ds
  me_Field_select_word : Meth K a.c_Field "select_word" a.f_Field_select_word
  fn_Field_select_word : FunD K "select_word" "Field.select_word" (defArgs s_Field_select_word) (defBody s_Field_select_word) (defScope s_Field_select_word) [] [] a.f_Field_select_word a.fd_Field_select_word
  bi_Field_select_word : Binds K a.fd_Field_select_word ["self", "place"] []
  me_Field_chosen : Meth K a.c_Field "chosen" a.f_Field_chosen
  fn_Field_chosen : FunD K "chosen" "Field.chosen" (defArgs s_Field_chosen) (defBody s_Field_chosen) (defScope s_Field_chosen) [] [] a.f_Field_chosen a.fd_Field_chosen
  bi_Field_chosen : Binds K a.fd_Field_chosen ["self"] []
  me_Field_undo : Meth K a.c_Field "undo" a.f_Field_undo
  fn_Field_undo : FunD K "undo" "Field.undo" (defArgs s_Field_undo) (defBody s_Field_undo) (defScope s_Field_undo) [] [] a.f_Field_undo a.fd_Field_undo
  bi_Field_undo : Binds K a.fd_Field_undo ["self"] []
  me_Field_redo : Meth K a.c_Field "redo" a.f_Field_redo
  fn_Field_redo : FunD K "redo" "Field.redo" (defArgs s_Field_redo) (defBody s_Field_redo) (defScope s_Field_redo) [] [] a.f_Field_redo a.fd_Field_redo
  bi_Field_redo : Binds K a.fd_Field_redo ["self"] []
  mg_check_field : mg "check_field" = some (.ref a.f_check_field)
  fn_check_field : FunD K "check_field" "check_field" (defArgs s_check_field) (defBody s_check_field) (defScope s_check_field) [] [] a.f_check_field a.fd_check_field
  bi_check_field : Binds K a.fd_check_field ["text"] []
  mg_law_dice : mg "_law_dice" = some (.ref a.f_law_dice)
  fn_law_dice : FunD K "_law_dice" "_law_dice" (defArgs s_law_dice) (defBody s_law_dice) (defScope s_law_dice) [] [] a.f_law_dice a.fd_law_dice
  bi_law_dice : Binds K a.fd_law_dice ["cell"] []
  mg_law_roll : mg "_law_roll" = some (.ref a.f_law_roll)
  fn_law_roll : FunD K "_law_roll" "_law_roll" (defArgs s_law_roll) (defBody s_law_roll) (defScope s_law_roll) [] [] a.f_law_roll a.fd_law_roll
  bi_law_roll : Binds K a.fd_law_roll ["dice", "many"] []
  mg_law_rounds : mg "_law_rounds" = some (.ref a.f_law_rounds)
  fn_law_rounds : FunD K "_law_rounds" "_law_rounds" (defArgs s_law_rounds) (defBody s_law_rounds) (defScope s_law_rounds) [] [] a.f_law_rounds a.fd_law_rounds
  bi_law_rounds : Binds K a.fd_law_rounds ["script", "most"] []
  mg_law_told : mg "_law_told" = some (.ref a.f_law_told)
  fn_law_told : FunD K "_law_told" "_law_told" (defArgs s_law_told) (defBody s_law_told) (defScope s_law_told) [] [] a.f_law_told a.fd_law_told
  bi_law_told : Binds K a.fd_law_told ["what"] []
  mg_law : mg "law" = some (.ref a.f_law)
  fn_law : FunD K "law" "law" (defArgs s_law) (defBody s_law) (defScope s_law) [] [] a.f_law a.fd_law
  bi_law : Binds K a.fd_law ["script"] []
  no_abs : mg "abs" = none
  no_any : mg "any" = none
  no_int : mg "int" = none
  no_isinstance : mg "isinstance" = none
  no_len : mg "len" = none
  no_max : mg "max" = none
  no_min : mg "min" = none
  no_range : mg "range" = none
  no_str : mg "str" = none
  gl_LETTERS : ∃ t, mg "LETTERS" = some (.str "\n !\"#$&'()*+,-./0123456789:;<=>?@ABCDEFGHIJKLMNOPQRSTUVWXYZ[\\]^_`abcdefghijklmnopqrstuvwxyz{|}~" t)
  gl_MOST_FIELD : ∃ t, mg "MOST_FIELD" = some (.int 200 t)
  gl_MOST_STEPS_BACK : ∃ t, mg "MOST_STEPS_BACK" = some (.int 50 t)
  mgc_ViewFault : mg "ViewFault" = some (.ref a.c_ViewFault)
  xc_ViewFault : PySem.W.excIn K a.c_ViewFault [.type "ValueError", .type "Exception", .type "BaseException", .type "object"] "ValueError.__new__" = true
  kc_ViewFault : PySem.W.keepIn K (.ref a.c_ViewFault) = true
  bc_ViewFault : PySem.W.subIn K (.ref a.c_ViewFault) (.type "BaseException") = some true
  tc_ViewFault : PySem.W.typeIn K (.ref a.c_ViewFault) = some (.type "type")
  ec_ViewFault : PySem.W.exmOne K (.ref a.c_ViewFault) (.ref a.c_ViewFault) = some true
  cd_check_field : a.fd_check_field.code = .ref a.cc_check_field
  cd_law : a.fd_law.code = .ref a.cc_law
end Wk
namespace Wk
open PySem PySem.Spec PyProof.Rows L2 Ph
abbrev LETTERS : Str := "\n !\"#$&'()*+,-./0123456789:;<=>?@ABCDEFGHIJKLMNOPQRSTUVWXYZ[\\]^_`abcdefghijklmnopqrstuvwxyz{|}~" -- all signs
def okS (s : Str) : Prop := s.length ≤ 200 ∧ ∀ c, c ∈ s.cps.toList → c ∈ LETTERS.cps.toList
instance (s : Str) : Decidable (okS s) := by unfold okS; infer_instance
structure Rw where
  text : Str
  anc : Int
  car : Int
def rowD (r : Rw) : PyData := .tuple [.str r.text, .int r.anc, .int r.car]
structure FS where
  text : Str
  anc : Int
  car : Int
  back : List Rw
  ahead : List Rw
  sign : Bool
def FS.row (g : FS) : Rw := ⟨g.text, g.anc, g.car⟩
abbrev FS.st (g : FS) : Int := mnI g.anc g.car
abbrev FS.en (g : FS) : Int := mxI g.anc g.car
def last50 (l : List Rw) : List Rw := l.drop (l.length - 50)
def keepG (g : FS) : FS := { g with back := last50 (g.back ++ [g.row]), ahead := [] }
def freshT (t : Str) (s e : Int) (w : Str) : Str := cutS t none (some s) ++ w ++ cutS t (some e) none
def goesOn (g : FS) (w : Str) : Prop := g.sign = true ∧ (w.length : Int) = 1 ∧ ¬ w = " " ∧ g.st = g.en
instance (g : FS) (w : Str) : Decidable (goesOn g w) := by unfold goesOn; infer_instance
def putG (w : Str) (g : FS) : FS := ⟨freshT g.text g.st g.en w, g.st + w.length, g.st + w.length, if goesOn g w then g.back else last50 (g.back ++ [g.row]), [], decide ((w.length : Int) = 1)⟩
def dropA (b : Bool) (g : FS) : Int := if g.st = g.en then (if b = true then g.st else mxI 0 (g.st - 1)) else g.st
def dropB (b : Bool) (g : FS) : Int := if g.st = g.en then (if b = true then mnI g.text.length (g.en + 1) else g.en) else g.en
def dropG (b : Bool) (g : FS) : FS := if dropA b g < dropB b g then
  ⟨cutS g.text none (some (dropA b g)) ++ cutS g.text (some (dropB b g)) none, dropA b g, dropA b g, last50 (g.back ++ [g.row]), [], false⟩ else { g with sign := false }
def goG (p : Int) (b : Bool) (g : FS) : FS := { g with car := p, anc := if b = true then g.anc else p, sign := false }
def wl (t : Str) (p : Nat) : Nat := p - ((t.cps.toList.take p).reverse.takeWhile (fun c => decide (c ≠ 32))).length
def wr (t : Str) (p : Nat) : Nat := p + ((t.cps.toList.drop p).takeWhile (fun c => decide (c ≠ 32))).length
def selG (p : Nat) (g : FS) : FS := { g with anc := (wl g.text p : Nat), car := (wr g.text p : Nat), sign := false }
def rowOk (r : Rw) : Prop := okS r.text ∧ (0 ≤ r.anc ∧ r.anc ≤ r.text.length) ∧ 0 ≤ r.car ∧ r.car ≤ r.text.length
def Rok (l : List Rw) : Prop := ∀ r, r ∈ l → rowOk r
theorem okS_str {s : Str} (h : okS s) : PyData.strOk s = true := by
  unfold PyData.strOk
  rw [Array.all_eq_true_iff_forall_mem]
  intro c hc
  have h1 := h.2 c (by simpa using hc)
  have h2 : ∀ c, c ∈ LETTERS.cps.toList → decide (c < 0x110000) = true := by decide +kernel
  exact h2 c h1
theorem sh_row {r : Rw} (h : okS r.text) : Sh 2 (rowD r) := ShL.tuple (ShL.cons (Sh.str (okS_str h)) (ShL.cons (Sh.int _) (ShL.cons (Sh.int _) ShL.nil)))
theorem Rok.sh {l : List Rw} (h : Rok l) : ShL 50 (l.map rowD) := fun d hd => by
  obtain ⟨r, hr, rfl⟩ := List.mem_map.mp hd
  exact (sh_row (h r hr).1).mono (by decide)
theorem Rok.nil : Rok [] := fun _ h => nomatch h
theorem Rok.snoc {l : List Rw} {r : Rw} (h : Rok l) (q : rowOk r) : Rok (l ++ [r]) := fun e he => by
  rcases List.mem_append.mp he with z | z
  · exact h e z
  · rw [List.mem_singleton.mp z]
    exact q
theorem Rok.init {l : List Rw} {r : Rw} (h : Rok (l ++ [r])) : Rok l ∧ rowOk r := ⟨fun e he => h e (List.mem_append_left _ he), h r (List.mem_append_right _ (List.mem_singleton.mpr rfl))⟩
theorem Rok.last50 {l : List Rw} (h : Rok l) : Rok (last50 l) := fun e he => h e (List.mem_of_mem_drop he)
theorem last50_len (l : List Rw) : (last50 l).length ≤ 50 := by
  unfold Wk.last50
  rw [List.length_drop]
  omega
/-! ### in the heap -/
inductive HRep (K : PySem.W.Frag) (H : Hp) (a : Adr) (ph : Addr) (g : FS) : List (Addr × HO) → Prop
  | mk {dx pb pa : Addr} {vb va : List V} : TDs K H vb (g.back.map rowD) → TDs K H va (g.ahead.map rowD) →
      HRep K H a ph g [(ph, .ins a.c_Field dx [("text", .str g.text), ("anchor", .int g.anc), ("caret", .int g.car), ("back_rows", .ref pb), ("ahead_rows", .ref pa), ("sign_last", .bl g.sign)]), (pb, .lst vb), (pa, .lst va)]
theorem HRep.mono {K : PySem.W.Frag} {H H' : Hp} {a : Adr} {ph : Addr} {g : FS} {O : List (Addr × HO)} (s : Stb H H') (h : HRep K H a ph g O) : HRep K H' a ph g O := by
  cases h with
  | mk h1 h2 => exact .mk (TDs.mono s h1) (TDs.mono s h2)
/-! ### the promises -/
def sp_check_field (K : PySem.W.Frag) (a : Adr) : Sp := fun vs H Q E => vs.length = 1 ∧ ∃ (x : V) (tb : Array Value) (F : List (Addr × HO)), vs = [x] ∧ Lay H ((a.tb_check_field, .tbl tb) :: F) ∧ TriplesOk tb.toList ∧
  ((∃ i, x = .int i) ∨ ∃ s : Str, x = .str s ∧ s.length ≤ 10000) ∧
  ∀ H' tb', Stb H H' → TriplesOk tb'.toList → Lay H' ((a.tb_check_field, .tbl tb') :: F) → ((∃ s, x = .str s ∧ okS s) → Q .non H') ∧ ((¬ ∃ s, x = .str s ∧ okS s) → E (.ref a.c_ViewFault) none H')
def sp_Field__init (K : PySem.W.Frag) (a : Adr) : Sp := fun vs H Q E => vs.length = 2 ∧ ∃ (x dx : Addr) (s : Str) (tb : Array Value) (F : List (Addr × HO)), vs = [.ref x, .str s] ∧ Lay H ((x, .ins a.c_Field dx []) :: (a.tb_check_field, .tbl tb) :: F) ∧ TriplesOk tb.toList ∧ s.length ≤ 10000 ∧
  (okS s → ∀ H' O' tb', Stb H H' → TriplesOk tb'.toList → HRep K H' a x ⟨s, s.length, s.length, [], [], false⟩ O' → Lay H' (O' ++ ((a.tb_check_field, .tbl tb') :: F)) → Q .non H') ∧
  (¬ okS s → ∀ H' tb', Stb H H' → TriplesOk tb'.toList → Lay H' ((a.tb_check_field, .tbl tb') :: F) → E (.ref a.c_ViewFault) none H')
def sp_Field_shown (K : PySem.W.Frag) (a : Adr) : Sp := fun vs H Q E => vs.length = 1 ∧ ∃ (ph : Addr) (g : FS) (O F : List (Addr × HO)), vs = [.ref ph] ∧ HRep K H a ph g O ∧ Lay H (O ++ F) ∧
  ∀ p H', Stb H H' → Lay H' (O ++ F) → SqT K H' p [.str g.text, .int g.st, .int g.en] → Q (.ref p) H'
def sp_Field_keep (K : PySem.W.Frag) (a : Adr) : Sp := fun vs H Q E => vs.length = 1 ∧ ∃ (ph : Addr) (g : FS) (O F : List (Addr × HO)), vs = [.ref ph] ∧ HRep K H a ph g O ∧ Lay H (O ++ F) ∧ g.back.length ≤ 1000 ∧
  ∀ H' O', Stb H H' → HRep K H' a ph (keepG g) O' → Lay H' (O' ++ F) → Q .non H'
def sp_Field_put (K : PySem.W.Frag) (a : Adr) : Sp := fun vs H Q E => vs.length = 2 ∧ ∃ (ph : Addr) (w : Str) (g : FS) (tb : Array Value) (O F : List (Addr × HO)), vs = [.ref ph, .str w] ∧ HRep K H a ph g O ∧ Lay H (O ++ ((a.tb_check_field, .tbl tb) :: F)) ∧ TriplesOk tb.toList ∧
  okS g.text ∧ okS w ∧ g.back.length ≤ 1000 ∧
  (okS (freshT g.text g.st g.en w) → ∀ H' O' tb', Stb H H' → TriplesOk tb'.toList → HRep K H' a ph (putG w g) O' → Lay H' (O' ++ ((a.tb_check_field, .tbl tb') :: F)) → Q .non H') ∧
  (¬ okS (freshT g.text g.st g.en w) → ∀ H' tb', Stb H H' → TriplesOk tb'.toList → Lay H' (O ++ ((a.tb_check_field, .tbl tb') :: F)) → E (.ref a.c_ViewFault) none H')
def sp_Field_drop (K : PySem.W.Frag) (a : Adr) : Sp := fun vs H Q E => vs.length = 2 ∧ ∃ (ph : Addr) (b : Bool) (g : FS) (O F : List (Addr × HO)), vs = [.ref ph, .bl b] ∧ HRep K H a ph g O ∧ Lay H (O ++ F) ∧ okS g.text ∧ g.back.length ≤ 1000 ∧
  ∀ H' O', Stb H H' → HRep K H' a ph (dropG b g) O' → Lay H' (O' ++ F) → Q .non H'
def sp_Field_go (K : PySem.W.Frag) (a : Adr) : Sp := fun vs H Q E => vs.length = 3 ∧ ∃ (ph : Addr) (p : Int) (b : Bool) (g : FS) (O F : List (Addr × HO)), vs = [.ref ph, .int p, .bl b] ∧ HRep K H a ph g O ∧ Lay H (O ++ F) ∧ okS g.text ∧
  (0 ≤ p ∧ p ≤ g.text.length → ∀ H' O', Stb H H' → HRep K H' a ph (goG p b g) O' → Lay H' (O' ++ F) → Q .non H') ∧ (¬ (0 ≤ p ∧ p ≤ g.text.length) → E (.ref a.c_ViewFault) none H)
def sp_Field_select_word (K : PySem.W.Frag) (a : Adr) : Sp := fun vs H Q E => vs.length = 2 ∧ ∃ (ph : Addr) (p : Nat) (g : FS) (O F : List (Addr × HO)), vs = [.ref ph, .int p] ∧ HRep K H a ph g O ∧ Lay H (O ++ F) ∧ okS g.text ∧
  (p ≤ g.text.length → ∀ H' O', Stb H H' → HRep K H' a ph (selG p g) O' → Lay H' (O' ++ F) → Q .non H') ∧ (¬ p ≤ g.text.length → E (.ref a.c_ViewFault) none H)
def sp_Field_chosen (K : PySem.W.Frag) (a : Adr) : Sp := fun vs H Q E => vs.length = 1 ∧ ∃ (ph : Addr) (g : FS) (O F : List (Addr × HO)), vs = [.ref ph] ∧ HRep K H a ph g O ∧ Lay H (O ++ F) ∧ okS g.text ∧
  ∀ H', Stb H H' → Lay H' (O ++ F) → Q (.str (cutS g.text (some g.st) (some g.en))) H'
def sp_Field_undo (K : PySem.W.Frag) (a : Adr) : Sp := fun vs H Q E => vs.length = 1 ∧ ∃ (ph : Addr) (g : FS) (O F : List (Addr × HO)), vs = [.ref ph] ∧ HRep K H a ph g O ∧ Lay H (O ++ F) ∧ g.ahead.length ≤ 1000 ∧ Rok g.back ∧
  (g.back = [] → ∀ H', Stb H H' → Lay H' (O ++ F) → Q (.bl false) H') ∧
  (∀ bs r, g.back = bs ++ [r] → ∀ H' O', Stb H H' → HRep K H' a ph ⟨r.text, r.anc, r.car, bs, g.ahead ++ [g.row], false⟩ O' → Lay H' (O' ++ F) → Q (.bl true) H')
def sp_Field_redo (K : PySem.W.Frag) (a : Adr) : Sp := fun vs H Q E => vs.length = 1 ∧ ∃ (ph : Addr) (g : FS) (O F : List (Addr × HO)), vs = [.ref ph] ∧ HRep K H a ph g O ∧ Lay H (O ++ F) ∧ g.back.length ≤ 1000 ∧ Rok g.ahead ∧
  (g.ahead = [] → ∀ H', Stb H H' → Lay H' (O ++ F) → Q (.bl false) H') ∧
  (∀ bs r, g.ahead = bs ++ [r] → ∀ H' O', Stb H H' → HRep K H' a ph ⟨r.text, r.anc, r.car, g.back ++ [g.row], bs, false⟩ O' → Lay H' (O' ++ F) → Q (.bl true) H')
def sp_law_dice (K : PySem.W.Frag) (a : Adr) : Sp := fun vs H Q E => vs.length = 1 ∧ ∃ (c : Int) (L : List (Addr × HO)), vs = [.int c] ∧ Lay H L ∧ ∀ p H' (i j k : Int), Stb H H' → Lay H' ((p, .lst [.int i, .int j, .int k]) :: L) → Q (.ref p) H'
def sp_law_roll (K : PySem.W.Frag) (a : Adr) : Sp := fun vs H Q E => vs.length = 2 ∧ ∃ (d : Addr) (m i j k : Int) (F : List (Addr × HO)), vs = [.ref d, .int m] ∧ Lay H ((d, .lst [.int i, .int j, .int k]) :: F) ∧ 0 < m ∧ m ≤ 100000000 ∧
  ∀ (r i' j' k' : Int) H', 0 ≤ r → r < m → Stb H H' → Lay H' ((d, .lst [.int i', .int j', .int k']) :: F) → Q (.int r) H'
def DL (ds : List (Addr × Int × Int × Int)) : List (Addr × HO) := ds.map fun d => (d.1, HO.lst [.int d.2.1, .int d.2.2.1, .int d.2.2.2])
def sp_law_rounds (K : PySem.W.Frag) (a : Adr) : Sp := fun vs H Q E => vs.length = 2 ∧ ∃ (s : Addr) (m : Int) (ns : List Int) (L : List (Addr × HO)), vs = [.ref s, .int m] ∧ SqL K H s (ns.map V.int) ∧ Lay H L ∧ 0 ≤ m ∧ m ≤ 1000 ∧
  ∀ p (ds : List (Addr × Int × Int × Int)) H', Stb H H' → Lay H' ((p, .lst (ds.map fun d => V.ref d.1)) :: (DL ds ++ L)) → Q (.ref p) H'
def sp_law_told (K : PySem.W.Frag) (a : Adr) : Sp := fun vs H Q E => vs.length = 1 ∧ False
def sp_law (K : PySem.W.Frag) (a : Adr) : Sp := fun vs H Q E => vs.length = 1 ∧ ∃ (s : Addr) (ns : List Int), vs = [.ref s] ∧ SqL K H s (ns.map V.int) ∧ Lay H [(a.tb_check_field, .tbl #[]), (a.tb_law, .tbl #[])] ∧ ∀ H', Q (.bl true) H'
end Wk
namespace Wk
open PySem PySem.Spec PyProof.Rows L2 Ph
open LamX (TTold)
open GxR (tAnyS)
def t_Field__init (K : PySem.W.Frag) (a : Adr) (E : XK) : TS :=
  (tSeq (tDrop (tCall (sp_check_field K a) [] E (tCons (tVar 1) tNil))) (tSeq (sFld K (tVar 0) (tVar 1) "text") (tSeq (sFld K (tVar 0) (tCB (rLenU K) (tCons (tVar 1) tNil)) "anchor") (tSeq (sFld K (tVar 0) (tCB (rLenU K) (tCons (tVar 1) tNil)) "caret") (tSeq (sFld K (tVar 0) (tLst tNil) "back_rows") (tSeq (sFld K (tVar 0) (tLst tNil) "ahead_rows") (sFld K (tVar 0) (tC (.bl false)) "sign_last")))))))
def t_Field_shown (K : PySem.W.Frag) (a : Adr) (E : XK) : TS :=
  (tRet (tTup (tCons (tFld K (tVar 0) "text") (tCons (tCB (rMin2) (tCons (tFld K (tVar 0) "anchor") (tCons (tFld K (tVar 0) "caret") tNil))) (tCons (tCB (rMax2) (tCons (tFld K (tVar 0) "anchor") (tCons (tFld K (tVar 0) "caret") tNil))) tNil)))))
def t_Field_keep (K : PySem.W.Frag) (a : Adr) (E : XK) : TS :=
  (tSeq (sFld K (tVar 0) (tSl (rSlU K) (tOp (rAddU K) (tFld K (tVar 0) "back_rows") (tLst (tCons (tTup (tCons (tFld K (tVar 0) "text") (tCons (tFld K (tVar 0) "anchor") (tCons (tFld K (tVar 0) "caret") tNil)))) tNil))) (tPart (tUn rNeg (tC (.int 50)))) tNoPart) "back_rows") (sFld K (tVar 0) (tLst tNil) "ahead_rows"))
def t_Field_put (K : PySem.W.Frag) (a : Adr) (E : XK) : TS :=
  (tSeq (tDrop (tCall (sp_check_field K a) [] E (tCons (tVar 1) tNil))) (tSeq (tAsg (tSl (rSlU K) (tMeth a.c_Field "shown" (sp_Field_shown K a) [] E (tVar 0) tNil) (tPart (tC (.int 1))) tNoPart) (gTup K 2 (gCons (gName 2) (gCons (gName 3) gNil)))) (tSeq (tAsg (tOp (rAddU K) (tOp (rAddU K) (tSl (rSlU K) (tFld K (tVar 0) "text") tNoPart (tPart (tVar 2))) (tVar 1)) (tSl (rSlU K) (tFld K (tVar 0) "text") (tPart (tVar 3)) tNoPart)) (gName 4)) (tSeq (tDrop (tCall (sp_check_field K a) [] E (tCons (tVar 4) tNil))) (tSeq (tAsg (tAndV (tFld K (tVar 0) "sign_last") (tAndV (tOp (rEqU K) (tCB (rLenU K) (tCons (tVar 1) tNil)) (tC (.int 1))) (tAndV (tOp (rNeU K) (tVar 1) (tC (.str " "))) (tOp (rEqU K) (tVar 2) (tVar 3))))) (gName 5)) (tSeq (tIfS (tNot (tTruth K (tVar 5))) (tDrop (tMeth a.c_Field "keep" (sp_Field_keep K a) [] E (tVar 0) tNil)) tNext) (tSeq (sFld K (tVar 0) (tLst tNil) "ahead_rows") (tSeq (sFld K (tVar 0) (tVar 4) "text") (tSeq (tAsg2 (tOp (rAddU K) (tVar 2) (tCB (rLenU K) (tCons (tVar 1) tNil))) (gFld K (tVar 0) "anchor") (gFld K (tVar 0) "caret")) (sFld K (tVar 0) (tOp (rEqU K) (tCB (rLenU K) (tCons (tVar 1) tNil)) (tC (.int 1))) "sign_last"))))))))))
def t_Field_drop (K : PySem.W.Frag) (a : Adr) (E : XK) : TS :=
  (tSeq (tAsg (tSl (rSlU K) (tMeth a.c_Field "shown" (sp_Field_shown K a) [] E (tVar 0) tNil) (tPart (tC (.int 1))) tNoPart) (gTup K 2 (gCons (gName 2) (gCons (gName 3) gNil)))) (tSeq (tIfS (tTest (tOp (rEqU K) (tVar 2) (tVar 3))) (tAsg (tIf (tTruth K (tVar 1)) (tTup (tCons (tVar 2) (tCons (tCB (rMin2) (tCons (tCB (rLenU K) (tCons (tFld K (tVar 0) "text") tNil)) (tCons (tOp (rAddU K) (tVar 3) (tC (.int 1))) tNil))) tNil))) (tTup (tCons (tCB (rMax2) (tCons (tC (.int 0)) (tCons (tOp rSubU (tVar 2) (tC (.int 1))) tNil))) (tCons (tVar 3) tNil)))) (gTup K 2 (gCons (gName 2) (gCons (gName 3) gNil)))) tNext) (tSeq (tIfS (tTest (tOp rLt (tVar 2) (tVar 3))) (tSeq (tDrop (tMeth a.c_Field "keep" (sp_Field_keep K a) [] E (tVar 0) tNil)) (tSeq (sFld K (tVar 0) (tOp (rAddU K) (tSl (rSlU K) (tFld K (tVar 0) "text") tNoPart (tPart (tVar 2))) (tSl (rSlU K) (tFld K (tVar 0) "text") (tPart (tVar 3)) tNoPart)) "text") (tAsg2 (tVar 2) (gFld K (tVar 0) "anchor") (gFld K (tVar 0) "caret")))) tNext) (sFld K (tVar 0) (tC (.bl false)) "sign_last"))))
def t_Field_go (K : PySem.W.Frag) (a : Adr) (E : XK) : TS :=
  (tSeq (tIfS (tNot (tTest (tChain rLe rLe (tC (.int 0)) (tVar 1) (tCB (rLenU K) (tCons (tFld K (tVar 0) "text") tNil))))) (tRaiseE a.c_ViewFault E) tNext) (tSeq (sFld K (tVar 0) (tVar 1) "caret") (tSeq (tIfS (tNot (tTruth K (tVar 2))) (sFld K (tVar 0) (tVar 1) "anchor") tNext) (sFld K (tVar 0) (tC (.bl false)) "sign_last"))))
def t_Field_select_word_while0 (K : PySem.W.Frag) (a : Adr) (E : XK) : TS :=
  (tAug 2 (tC (.int 1)) rSubU)
def t_Field_select_word_while1 (K : PySem.W.Frag) (a : Adr) (E : XK) : TS :=
  (tAug 3 (tC (.int 1)) rIAddU)
def t_Field_select_word (K : PySem.W.Frag) (a : Adr) (E : XK) : TS :=
  (tSeq (tIfS (tNot (tTest (tChain rLe rLe (tC (.int 0)) (tVar 1) (tCB (rLenU K) (tCons (tFld K (tVar 0) "text") tNil))))) (tRaiseE a.c_ViewFault E) tNext) (tSeq (tAsg2 (tVar 1) (gName 2) (gName 3)) (tSeq (tWhile (tAnd (tTest (tOp rGt (tVar 2) (tC (.int 0)))) (tTest (tOp (rNeU K) (tOp (rIxU K) (tFld K (tVar 0) "text") (tOp rSubU (tVar 2) (tC (.int 1)))) (tC (.str " "))))) (t_Field_select_word_while0 K a E)) (tSeq (tWhile (tAnd (tTest (tOp rLt (tVar 3) (tCB (rLenU K) (tCons (tFld K (tVar 0) "text") tNil)))) (tTest (tOp (rNeU K) (tOp (rIxU K) (tFld K (tVar 0) "text") (tVar 3)) (tC (.str " "))))) (t_Field_select_word_while1 K a E)) (tSeq (tAsg (tTup (tCons (tVar 2) (tCons (tVar 3) tNil))) (gTup K 2 (gCons (gFld K (tVar 0) "anchor") (gCons (gFld K (tVar 0) "caret") gNil)))) (sFld K (tVar 0) (tC (.bl false)) "sign_last"))))))
def t_Field_chosen (K : PySem.W.Frag) (a : Adr) (E : XK) : TS :=
  (tSeq (tAsg (tSl (rSlU K) (tMeth a.c_Field "shown" (sp_Field_shown K a) [] E (tVar 0) tNil) (tPart (tC (.int 1))) tNoPart) (gTup K 2 (gCons (gName 1) (gCons (gName 2) gNil)))) (tRet (tSl (rSlU K) (tFld K (tVar 0) "text") (tPart (tVar 1)) (tPart (tVar 2)))))
def t_Field_undo (K : PySem.W.Frag) (a : Adr) (E : XK) : TS :=
  (tSeq (tIfS (tTest (tOp (rEqU K) (tFld K (tVar 0) "back_rows") (tLst tNil))) (tRet (tC (.bl false))) tNext) (tSeq (tDrop (tBM K "list" rAppend (tFld K (tVar 0) "ahead_rows") (tCons (tTup (tCons (tFld K (tVar 0) "text") (tCons (tFld K (tVar 0) "anchor") (tCons (tFld K (tVar 0) "caret") tNil)))) tNil))) (tSeq (tAsg (tBM0 K "list" rPop (tFld K (tVar 0) "back_rows")) (gTup K 3 (gCons (gFld K (tVar 0) "text") (gCons (gFld K (tVar 0) "anchor") (gCons (gFld K (tVar 0) "caret") gNil))))) (tSeq (sFld K (tVar 0) (tC (.bl false)) "sign_last") (tRet (tC (.bl true)))))))
def t_Field_redo (K : PySem.W.Frag) (a : Adr) (E : XK) : TS :=
  (tSeq (tIfS (tTest (tOp (rEqU K) (tFld K (tVar 0) "ahead_rows") (tLst tNil))) (tRet (tC (.bl false))) tNext) (tSeq (tDrop (tBM K "list" rAppend (tFld K (tVar 0) "back_rows") (tCons (tTup (tCons (tFld K (tVar 0) "text") (tCons (tFld K (tVar 0) "anchor") (tCons (tFld K (tVar 0) "caret") tNil)))) tNil))) (tSeq (tAsg (tBM0 K "list" rPop (tFld K (tVar 0) "ahead_rows")) (gTup K 3 (gCons (gFld K (tVar 0) "text") (gCons (gFld K (tVar 0) "anchor") (gCons (gFld K (tVar 0) "caret") gNil))))) (tSeq (sFld K (tVar 0) (tC (.bl false)) "sign_last") (tRet (tC (.bl true)))))))
def t_check_field (K : PySem.W.Frag) (a : Adr) (E : XK) : TS :=
  (tIfS (tOr (tNot (tTruth K (tCB (rIsi K) (tCons (tVar 0) (tCons (tC (.ty "str")) tNil))))) (tOr (tTest (tOp rGt (tCB (rLenU K) (tCons (tVar 0) tNil)) (tC (.int 200)))) (tTruth K (tAnyS a.tb_check_field (fun c => !decide (c ∈ ("\n !\"#$&'()*+,-./0123456789:;<=>?@ABCDEFGHIJKLMNOPQRSTUVWXYZ[\\]^_`abcdefghijklmnopqrstuvwxyz{|}~" : Str).cps.toList)) (tVar 0))))) (tRaiseE a.c_ViewFault E) tNext)
def t_law_dice (K : PySem.W.Frag) (a : Adr) (E : XK) : TS :=
  (tSeq (tIfS (tTest (tChain rLt rLt (tOp rSubU (tC (.int 0)) (tC (.int 10))) (tVar 0) (tC (.int 10)))) (tRet (tLst (tCons (tCB (rAbs) (tCons (tVar 0) tNil)) (tCons (tC (.int 0)) (tCons (tC (.int 2)) tNil))))) tNext) (tRet (tLst (tCons (tVar 0) (tCons (tOp (rAddU K) (tC (.int 1)) (tOp rModU (tCB (rInt1) (tCons (tVar 0) tNil)) (tC (.int 1009)))) (tCons (tCB (rInt1) (tCons (tOp rGe (tVar 0) (tOp rPowU (tC (.int 10)) (tC (.int 18)))) tNil)) tNil))))))
def t_law_roll (K : PySem.W.Frag) (a : Adr) (E : XK) : TS :=
  (tSeq (tIfS (tOr (tTest (tOp (rEqU K) (tOp (rIxU K) (tVar 0) (tC (.int 2))) (tC (.int 2)))) (tAnd (tTest (tOp (rEqU K) (tOp (rIxU K) (tVar 0) (tC (.int 2))) (tC (.int 1)))) (tTest (tOp rGt (tOp (rIxU K) (tVar 0) (tC (.int 0))) (tC (.int 0)))))) (tSeq (tAsg (tOp rModU (tCB (rInt1) (tCons (tOp (rIxU K) (tVar 0) (tC (.int 0))) tNil)) (tVar 1)) (gName 2)) (tSeq (tAsg (tOp rDivU (tOp (rIxU K) (tVar 0) (tC (.int 0))) (tVar 1)) (gSub (tVar 0) (tC (.int 0)) rSetU)) (tRet (tVar 2)))) tNext) (tSeq (tAsg (tC (.int 0)) (gSub (tVar 0) (tC (.int 2)) rSetU)) (tSeq (tIfS (tTest (tOp rGt (tVar 1) (tC (.int 100000000)))) tNever tNext) (tSeq (tAsg (tOp rModU (tCB (rInt1) (tCons (tOp (rAddU K) (tOp (rAddU K) (tOp rMulU (tOp (rIxU K) (tVar 0) (tC (.int 0))) (tC (.int 48271))) (tOp rMulU (tOp (rIxU K) (tVar 0) (tC (.int 1))) (tC (.int 69621)))) (tC (.int 11))) tNil)) (tC (.int 2147483647))) (gSub (tVar 0) (tC (.int 0)) rSetU)) (tSeq (tAsg (tOp (rAddU K) (tOp (rIxU K) (tVar 0) (tC (.int 1))) (tC (.int 1))) (gSub (tVar 0) (tC (.int 1)) rSetU)) (tRet (tOp rModU (tCB (rInt1) (tCons (tOp rDivU (tOp (rIxU K) (tVar 0) (tC (.int 0))) (tC (.int 7))) tNil)) (tVar 1))))))))
def t_law_rounds (K : PySem.W.Frag) (a : Adr) (E : XK) : TS :=
  (tSeq (tAsg (tSl (rSlU K) (tVar 0) tNoPart (tPart (tVar 1))) (gName 2)) (tSeq (tIfS (tTest (tOp (rEqU K) (tVar 2) (tLst tNil))) (tAsg (tLst (tCons (tC (.int 0)) tNil)) (gName 2)) tNext) (tRet (tLc (iList K (tVar 2)) (gName 3) tYes (tCall (sp_law_dice K a) [] E0 (tCons (tVar 3) tNil)) [3]))))
def D_law_0 : LamD := (lamOf (eltOf (asgOf ((defBody s_law).getD 1 (.Pass ⟨0, 0, 0, 0⟩))) 4))
def D_law_1 : LamD := (lamOf (eltOf (asgOf ((defBody s_law).getD 1 (.Pass ⟨0, 0, 0, 0⟩))) 3))
def D_law_2 : LamD := (lamOf (eltOf (asgOf ((defBody s_law).getD 1 (.Pass ⟨0, 0, 0, 0⟩))) 2))
def D_law_3 : LamD := (lamOf (eltOf (asgOf ((defBody s_law).getD 1 (.Pass ⟨0, 0, 0, 0⟩))) 1))
def D_law_4 : LamD := (lamOf (eltOf (asgOf ((defBody s_law).getD 1 (.Pass ⟨0, 0, 0, 0⟩))) 0))
abbrev F_law : List LamD := [D_law_0, D_law_1, D_law_2, D_law_3, D_law_4]
def TF_law (K : PySem.W.Frag) (a : Adr) (j : Nat) (E : XK) : TE := match j with
  | 0 => (tCall (sp_check_field K a) [] E (tCons (tC (.int 5)) tNil))
  | 1 => (tMeth a.c_Field "select_word" (sp_Field_select_word K a) [] E (tMake a.c_Field (sp_Field__init K a) [] E (tCons (tC (.str "a")) tNil)) (tCons (tC (.int 2)) tNil))
  | 2 => (tMeth a.c_Field "go" (sp_Field_go K a) [(.bl false)] E (tMake a.c_Field (sp_Field__init K a) [] E (tCons (tC (.str "a")) tNil)) (tCons (tUn rNeg (tC (.int 1))) tNil))
  | 3 => (tMake a.c_Field (sp_Field__init K a) [] E (tCons (tC (.str "\t")) tNil))
  | 4 => (tMake a.c_Field (sp_Field__init K a) [] E (tCons (tOp rMulU (tC (.str "x")) (tC (.int 201))) tNil))
  | _ => fun _ _ _ => False
theorem TF_law_0 {K : PySem.W.Frag} {a : Adr} {E : XK} : TF_law K a 0 E = (tCall (sp_check_field K a) [] E (tCons (tC (.int 5)) tNil)) := rfl
theorem TF_law_1 {K : PySem.W.Frag} {a : Adr} {E : XK} : TF_law K a 1 E = (tMeth a.c_Field "select_word" (sp_Field_select_word K a) [] E (tMake a.c_Field (sp_Field__init K a) [] E (tCons (tC (.str "a")) tNil)) (tCons (tC (.int 2)) tNil)) := rfl
theorem TF_law_2 {K : PySem.W.Frag} {a : Adr} {E : XK} : TF_law K a 2 E = (tMeth a.c_Field "go" (sp_Field_go K a) [(.bl false)] E (tMake a.c_Field (sp_Field__init K a) [] E (tCons (tC (.str "a")) tNil)) (tCons (tUn rNeg (tC (.int 1))) tNil)) := rfl
theorem TF_law_3 {K : PySem.W.Frag} {a : Adr} {E : XK} : TF_law K a 3 E = (tMake a.c_Field (sp_Field__init K a) [] E (tCons (tC (.str "\t")) tNil)) := rfl
theorem TF_law_4 {K : PySem.W.Frag} {a : Adr} {E : XK} : TF_law K a 4 E = (tMake a.c_Field (sp_Field__init K a) [] E (tCons (tOp rMulU (tC (.str "x")) (tC (.int 201))) tNil)) := rfl
def t_law_if0 (K : PySem.W.Frag) (a : Adr) (E : XK) : TS :=
  (tSeq (tAsg (tOp (rIxU K) (tLst (tCons (tC (.str "a")) (tCons (tC (.str "b")) (tCons (tC (.str " ")) (tCons (tC (.str "c")) (tCons (tC (.str "xy z")) (tCons (tC (.str "")) (tCons (tOp rMulU (tC (.str "~")) (tC (.int 50))) tNil)))))))) (tCall (sp_law_roll K a) [] E (tCons (tVar 1) (tCons (tC (.int 7)) tNil)))) (gName 15)) (tSeq (tAsg (tOp (rAddU K) (tOp (rAddU K) (tSl (rSlU K) (tVar 10) tNoPart (tPart (tVar 13))) (tVar 15)) (tSl (rSlU K) (tVar 10) (tPart (tVar 14)) tNoPart)) (gName 16)) (tSeq (tIfS (tTest (tOp (rNeU K) (tOp (rEqU K) (tLamP a.tb_law (lamq "law") (TTold K a.c_ViewFault "ViewFault") (fun E => (tMeth a.c_Field "put" (sp_Field_put K a) [] E (tVar 3) (tCons (tVar 15) tNil)))) (tC (.str "ViewFault"))) (tOp rGt (tCB (rLenU K) (tCons (tVar 16) tNil)) (tC (.int 200))))) (tRet (tC (.bl false))) tNext) (tIfS (tTest (tOp rLe (tCB (rLenU K) (tCons (tVar 16) tNil)) (tC (.int 200)))) (tSeq (tAsg (tAndV (tVar 7) (tAndV (tOp (rEqU K) (tCB (rLenU K) (tCons (tVar 15) tNil)) (tC (.int 1))) (tAndV (tOp (rNeU K) (tVar 15) (tC (.str " "))) (tOp (rEqU K) (tVar 13) (tVar 14))))) (gName 17)) (tSeq (tPar 5 6 (tCons (tIf (tTruth K (tVar 17)) (tVar 5) (tSl (rSlU K) (tOp (rAddU K) (tVar 5) (tLst (tCons (tVar 4) tNil))) (tPart (tUn rNeg (tC (.int 50)))) tNoPart)) (tCons (tLst tNil) tNil))) (tPar 4 7 (tCons (tTup (tCons (tVar 16) (tCons (tOp (rAddU K) (tVar 13) (tCB (rLenU K) (tCons (tVar 15) tNil))) (tCons (tOp (rAddU K) (tVar 13) (tCB (rLenU K) (tCons (tVar 15) tNil))) tNil)))) (tCons (tOp (rEqU K) (tCB (rLenU K) (tCons (tVar 15) tNil)) (tC (.int 1))) tNil))))) tNext))))
def t_law_if1 (K : PySem.W.Frag) (a : Adr) (E : XK) : TS :=
  (tSeq (tAsg (tOp (rEqU K) (tVar 9) (tC (.int 6))) (gName 18)) (tSeq (tDrop (tMeth a.c_Field "drop" (sp_Field_drop K a) [] E (tVar 3) (tCons (tVar 18) tNil))) (tSeq (tAsg (tIf (tTest (tOp rLt (tVar 13) (tVar 14))) (tTup (tCons (tVar 13) (tCons (tVar 14) tNil))) (tIf (tTruth K (tVar 18)) (tTup (tCons (tVar 13) (tCons (tCB (rMin2) (tCons (tCB (rLenU K) (tCons (tVar 10) tNil)) (tCons (tOp (rAddU K) (tVar 14) (tC (.int 1))) tNil))) tNil))) (tTup (tCons (tCB (rMax2) (tCons (tC (.int 0)) (tCons (tOp rSubU (tVar 13) (tC (.int 1))) tNil))) (tCons (tVar 14) tNil))))) (gTup K 2 (gCons (gName 19) (gCons (gName 20) gNil)))) (tSeq (tIfS (tTest (tOp rLt (tVar 19) (tVar 20))) (tPar3 5 6 4 (tCons (tSl (rSlU K) (tOp (rAddU K) (tVar 5) (tLst (tCons (tVar 4) tNil))) (tPart (tUn rNeg (tC (.int 50)))) tNoPart) (tCons (tLst tNil) (tCons (tTup (tCons (tOp (rAddU K) (tSl (rSlU K) (tVar 10) tNoPart (tPart (tVar 19))) (tSl (rSlU K) (tVar 10) (tPart (tVar 20)) tNoPart)) (tCons (tVar 19) (tCons (tVar 19) tNil)))) tNil)))) tNext) (tAsg (tC (.bl false)) (gName 7))))))
def t_law_if2 (K : PySem.W.Frag) (a : Adr) (E : XK) : TS :=
  (tSeq (tAsg (tTup (tCons (tCall (sp_law_roll K a) [] E (tCons (tVar 1) (tCons (tOp (rAddU K) (tCB (rLenU K) (tCons (tVar 10) tNil)) (tC (.int 2))) tNil))) (tCons (tOp (rEqU K) (tCall (sp_law_roll K a) [] E (tCons (tVar 1) (tCons (tC (.int 2)) tNil))) (tC (.int 0))) tNil))) (gTup K 2 (gCons (gName 21) (gCons (gName 22) gNil)))) (tSeq (tIfS (tTest (tOp (rNeU K) (tOp (rEqU K) (tLamP a.tb_law (lamq "law") (TTold K a.c_ViewFault "ViewFault") (fun E => (tMeth a.c_Field "go" (sp_Field_go K a) [] E (tVar 3) (tCons (tVar 21) (tCons (tVar 22) tNil))))) (tC (.str "ViewFault"))) (tOp rGt (tVar 21) (tCB (rLenU K) (tCons (tVar 10) tNil))))) (tRet (tC (.bl false))) tNext) (tIfS (tTest (tOp rLe (tVar 21) (tCB (rLenU K) (tCons (tVar 10) tNil)))) (tPar 4 7 (tCons (tTup (tCons (tVar 10) (tCons (tIf (tTruth K (tVar 22)) (tVar 11) (tVar 21)) (tCons (tVar 21) tNil)))) (tCons (tC (.bl false)) tNil))) tNext)))
def t_law_if3 (K : PySem.W.Frag) (a : Adr) (E : XK) : TS :=
  (tSeq (tAsg (tCall (sp_law_roll K a) [] E (tCons (tVar 1) (tCons (tOp (rAddU K) (tCB (rLenU K) (tCons (tVar 10) tNil)) (tC (.int 1))) tNil))) (gName 21)) (tSeq (tDrop (tMeth a.c_Field "select_word" (sp_Field_select_word K a) [] E (tVar 3) (tCons (tVar 21) tNil))) (tSeq (tPar 23 24 (tCons (tM1 rSplit1 (tSl (rSlU K) (tVar 10) tNoPart (tPart (tVar 21))) (tC (.str " "))) (tCons (tM1 rSplit1 (tSl (rSlU K) (tVar 10) (tPart (tVar 21)) tNoPart) (tC (.str " "))) tNil))) (tPar 4 7 (tCons (tTup (tCons (tVar 10) (tCons (tOp rSubU (tVar 21) (tCB (rLenU K) (tCons (tOp (rIxU K) (tVar 23) (tOp rSubU (tCB (rLenU K) (tCons (tVar 23) tNil)) (tC (.int 1)))) tNil))) (tCons (tOp (rAddU K) (tVar 21) (tCB (rLenU K) (tCons (tOp (rIxU K) (tVar 24) (tC (.int 0))) tNil))) tNil)))) (tCons (tC (.bl false)) tNil))))))
def t_law_if4 (K : PySem.W.Frag) (a : Adr) (E : XK) : TS :=
  (tSeq (tIfS (tTest (tOp (rNeU K) (tMeth a.c_Field "undo" (sp_Field_undo K a) [] E (tVar 3) tNil) (tOp (rNeU K) (tVar 5) (tLst tNil)))) (tRet (tC (.bl false))) tNext) (tIfS (tTest (tOp (rNeU K) (tVar 5) (tLst tNil))) (tAsg (tTup (tCons (tSl (rSlU K) (tVar 5) tNoPart (tPart (tUn rNeg (tC (.int 1))))) (tCons (tOp (rAddU K) (tVar 6) (tLst (tCons (tVar 4) tNil))) (tCons (tOp (rIxU K) (tVar 5) (tOp rSubU (tCB (rLenU K) (tCons (tVar 5) tNil)) (tC (.int 1)))) (tCons (tC (.bl false)) tNil))))) (gTup K 4 (gCons (gName 5) (gCons (gName 6) (gCons (gName 4) (gCons (gName 7) gNil)))))) tNext))
def t_law_else5 (K : PySem.W.Frag) (a : Adr) (E : XK) : TS :=
  (tSeq (tIfS (tTest (tOp (rNeU K) (tMeth a.c_Field "redo" (sp_Field_redo K a) [] E (tVar 3) tNil) (tOp (rNeU K) (tVar 6) (tLst tNil)))) (tRet (tC (.bl false))) tNext) (tIfS (tTest (tOp (rNeU K) (tVar 6) (tLst tNil))) (tAsg (tTup (tCons (tOp (rAddU K) (tVar 5) (tLst (tCons (tVar 4) tNil))) (tCons (tSl (rSlU K) (tVar 6) tNoPart (tPart (tUn rNeg (tC (.int 1))))) (tCons (tOp (rIxU K) (tVar 6) (tOp rSubU (tCB (rLenU K) (tCons (tVar 6) tNil)) (tC (.int 1)))) (tCons (tC (.bl false)) tNil))))) (gTup K 4 (gCons (gName 5) (gCons (gName 6) (gCons (gName 4) (gCons (gName 7) gNil)))))) tNext))
def t_law_tail6 (K : PySem.W.Frag) (a : Adr) (E : XK) : TS :=
  (tSeq (tAsg (tVar 4) (gTup K 3 (gCons (gName 10) (gCons (gName 11) (gCons (gName 12) gNil))))) (tIfS (tOr (tTest (tOp (rNeU K) (tMeth a.c_Field "shown" (sp_Field_shown K a) [] E (tVar 3) tNil) (tTup (tCons (tVar 10) (tCons (tCB (rMin2) (tCons (tVar 11) (tCons (tVar 12) tNil))) (tCons (tCB (rMax2) (tCons (tVar 11) (tCons (tVar 12) tNil))) tNil)))))) (tOr (tTest (tOp (rNeU K) (tMeth a.c_Field "chosen" (sp_Field_chosen K a) [] E (tVar 3) tNil) (tSl (rSlU K) (tVar 10) (tPart (tCB (rMin2) (tCons (tVar 11) (tCons (tVar 12) tNil)))) (tPart (tCB (rMax2) (tCons (tVar 11) (tCons (tVar 12) tNil))))))) (tTest (tOp (rNeU K) (tTup (tCons (tFld K (tVar 3) "anchor") (tCons (tFld K (tVar 3) "caret") tNil))) (tTup (tCons (tVar 11) (tCons (tVar 12) tNil))))))) (tRet (tC (.bl false))) tNext))
def t_law_for7 (K : PySem.W.Frag) (a : Adr) (E : XK) : TS :=
  (tSeq (tAsg (tTup (tCons (tCall (sp_law_roll K a) [] E (tCons (tVar 1) (tCons (tC (.int 12)) tNil))) (tCons (tVar 4) tNil))) (gTup K 2 (gCons (gName 9) (gCons (gTup K 3 (gCons (gName 10) (gCons (gName 11) (gCons (gName 12) gNil)))) gNil)))) (tSeq (tPar 13 14 (tCons (tCB (rMin2) (tCons (tVar 11) (tCons (tVar 12) tNil))) (tCons (tCB (rMax2) (tCons (tVar 11) (tCons (tVar 12) tNil))) tNil))) (tSeq (tIfS (tTest (tOp rLt (tVar 9) (tC (.int 5)))) (t_law_if0 K a E) (tIfS (tTest (tOp rLt (tVar 9) (tC (.int 7)))) (t_law_if1 K a E) (tIfS (tTest (tOp rLt (tVar 9) (tC (.int 9)))) (t_law_if2 K a E) (tIfS (tTest (tOp (rEqU K) (tVar 9) (tC (.int 9)))) (t_law_if3 K a E) (tIfS (tTest (tOp (rEqU K) (tVar 9) (tC (.int 10)))) (t_law_if4 K a E) (t_law_else5 K a E)))))) (t_law_tail6 K a E))))
def t_law_for8 (K : PySem.W.Frag) (a : Adr) (E : XK) : TS :=
  (tSeq (tIfS (tTest (tOp (rNeU K) (tMeth a.c_Field "undo" (sp_Field_undo K a) [] E (tVar 3) tNil) (tOp (rNeU K) (tVar 5) (tLst tNil)))) (tRet (tC (.bl false))) tNext) (tAsg (tIf (tTest (tOp (rNeU K) (tVar 5) (tLst tNil))) (tTup (tCons (tOp (rIxU K) (tVar 5) (tOp rSubU (tCB (rLenU K) (tCons (tVar 5) tNil)) (tC (.int 1)))) (tCons (tSl (rSlU K) (tVar 5) tNoPart (tPart (tUn rNeg (tC (.int 1))))) tNil))) (tTup (tCons (tVar 4) (tCons (tVar 5) tNil)))) (gTup K 2 (gCons (gName 4) (gCons (gName 5) gNil)))))
def t_law_for9 (K : PySem.W.Frag) (a : Adr) (E : XK) : TS :=
  (tSeq (tAsg (tOp (rIxU K) (tLst (tCons (tC (.str "")) (tCons (tC (.str "a b")) (tCons (tOp rMulU (tC (.str "x")) (tC (.int 195))) (tCons (tC (.str "hello world ")) tNil))))) (tCall (sp_law_roll K a) [] E (tCons (tVar 1) (tCons (tC (.int 4)) tNil)))) (gName 2)) (tSeq (tAsg (tTup (tCons (tMake a.c_Field (sp_Field__init K a) [] E (tCons (tVar 2) tNil)) (tCons (tTup (tCons (tVar 2) (tCons (tCB (rLenU K) (tCons (tVar 2) tNil)) (tCons (tCB (rLenU K) (tCons (tVar 2) tNil)) tNil)))) (tCons (tLst tNil) (tCons (tLst tNil) (tCons (tC (.bl false)) tNil)))))) (gTup K 5 (gCons (gName 3) (gCons (gName 4) (gCons (gName 5) (gCons (gName 6) (gCons (gName 7) gNil))))))) (tSeq (tFor (iRng1 (tCons (tCall (sp_law_roll K a) [] E (tCons (tVar 1) (tCons (tC (.int 91)) tNil))) tNil)) (gName 8) (t_law_for7 K a E)) (tSeq (tFor (iRng1 (tCons (tC (.int 60)) tNil)) (gName 25) (t_law_for8 K a E)) (tIfS (tTest (tOp (rNeU K) (tFld K (tVar 3) "text") (tOp (rIxU K) (tVar 4) (tC (.int 0))))) (tRet (tC (.bl false))) tNext)))))
def t_law (K : PySem.W.Frag) (a : Adr) (E : XK) : TS :=
  (tSeq (tFor (iList K (tCall (sp_law_rounds K a) [] E (tCons (tVar 0) (tCons (tC (.int 1)) tNil)))) (gName 1) (t_law_for9 K a E)) (tSeq (tAsg (tLst (tCons (tLamV a.tb_law (lamq "law") D_law_4) (tCons (tLamV a.tb_law (lamq "law") D_law_3) (tCons (tLamV a.tb_law (lamq "law") D_law_2) (tCons (tLamV a.tb_law (lamq "law") D_law_1) (tCons (tLamV a.tb_law (lamq "law") D_law_0) tNil)))))) (gName 26)) (tRet (tAndV (tOp (rEqU K) (tLc (iList K (tVar 26)) (gName 27) (tTest (tOp (rNeU K) (tToldV K a.c_ViewFault "ViewFault" (lamq "law") 28 27 F_law (TF_law K a)) (tC (.str "ViewFault")))) (tC (.int 1)) [27]) (tLst tNil)) (tOp rIsN (tCall (sp_check_field K a) [] E (tCons (tOp rMulU (tC (.str "x")) (tC (.int 200))) tNil)) (tC .non))))))
end Wk
namespace Wk
open PySem PySem.Spec PyProof.Rows L2 Ph
theorem snoc_or {α : Type} (l : List α) : l = [] ∨ ∃ bs r, l = bs ++ [r] := by
  rcases List.eq_nil_or_concat l with h | ⟨bs, r, h⟩
  · exact .inl h
  · exact .inr ⟨bs, r, by rw [h, List.concat_eq_append]⟩
abbrev fO (a : Adr) (ph dx pb pa : Addr) (t : Str) (x y : Int) (vb va : List V) (sg : Bool) : HO := .ins a.c_Field dx [("text", .str t), ("anchor", .int x), ("caret", .int y), ("back_rows", .ref pb), ("ahead_rows", .ref pa), ("sign_last", .bl sg)]
abbrev fL (a : Adr) (ph dx pb pa : Addr) (t : Str) (x y : Int) (vb va : List V) (sg : Bool) (F : List (Addr × HO)) : List (Addr × HO) := (ph, fO a ph dx pb pa t x y vb va sg) :: (pb, .lst vb) :: (pa, .lst va) :: F
section
variable {K : PySem.W.Frag} {a : Adr} {B H : Hp} {Q : VK} {E : XK} {L F O : List (Addr × HO)} {I : List Im} {tb : Array Value}
theorem c_check_ok {s : Str} (hC : Ctx K B H L I) (pk : Pick (a.tb_check_field, .tbl tb) L F) (m : Im.tri tb ∈ I) (hs : okS s) (k : ∀ tb' H1, Ctx K B H1 ((a.tb_check_field, .tbl tb') :: F) (.tri tb' :: I) → Q .non H1) : sp_check_field K a [.str s] H Q E :=
  ⟨rfl, .str s, tb, F, rfl, hC.lay.pick pk, hC.tri m, .inr ⟨s, rfl, Nat.le_trans hs.1 (by decide)⟩, fun H' tb' st q y => ⟨fun _ => k tb' H' ((hC.moved st y).add (i := .tri tb') q), fun n => absurd ⟨s, rfl, hs⟩ n⟩⟩
theorem c_check_bad {s : Str} (hC : Ctx K B H L I) (pk : Pick (a.tb_check_field, .tbl tb) L F) (m : Im.tri tb ∈ I) (hz : s.length ≤ 10000) (hs : ¬ okS s) (k : ∀ tb' H1, Ctx K B H1 ((a.tb_check_field, .tbl tb') :: F) (.tri tb' :: I) → E (.ref a.c_ViewFault) none H1) : sp_check_field K a [.str s] H Q E :=
  ⟨rfl, .str s, tb, F, rfl, hC.lay.pick pk, hC.tri m, .inr ⟨s, rfl, hz⟩, fun H' tb' st q y => ⟨fun ⟨z, e, n⟩ => absurd (by cases e; exact n) hs, fun n => k tb' H' ((hC.moved st y).add (i := .tri tb') q)⟩⟩
theorem c_check_int {i : Int} (hC : Ctx K B H L I) (pk : Pick (a.tb_check_field, .tbl tb) L F) (m : Im.tri tb ∈ I) (k : ∀ tb' H1, Ctx K B H1 ((a.tb_check_field, .tbl tb') :: F) (.tri tb' :: I) → E (.ref a.c_ViewFault) none H1) : sp_check_field K a [.int i] H Q E :=
  ⟨rfl, .int i, tb, F, rfl, hC.lay.pick pk, hC.tri m, .inl ⟨i, rfl⟩, fun H' tb' st q y => ⟨fun ⟨z, e, n⟩ => (by cases e), fun n => k tb' H' ((hC.moved st y).add (i := .tri tb') q)⟩⟩
theorem c_init_ok {x dx : Addr} {s : Str} (hC : Ctx K B H L I) (pk : Perm2 F L ((x, .ins a.c_Field dx []) :: (a.tb_check_field, .tbl tb) :: F)) (m : Im.tri tb ∈ I) (hs : okS s)
    (k : ∀ dx pb pa vb va tb' H1, Ctx K B H1 (fL a x dx pb pa s s.length s.length vb va false ((a.tb_check_field, .tbl tb') :: F)) (.dats vb (List.map rowD []) :: .dats va (List.map rowD []) :: .tri tb' :: I) → Q .non H1) : sp_Field__init K a [.ref x, .str s] H Q E :=
  ⟨rfl, x, dx, s, tb, F, rfl, hC.lay.perm2 pk, hC.tri m, Nat.le_trans hs.1 (by decide), fun _ H' O' tb' st q r y => by
    cases r with
    | mk q1 q2 => exact k _ _ _ _ _ tb' H' ((((hC.moved st y).add (i := .tri tb') q).add (i := .dats _ _) q2).add (i := .dats _ _) q1), fun n => absurd hs n⟩
theorem c_init_bad {x dx : Addr} {s : Str} (hC : Ctx K B H L I) (pk : Perm2 F L ((x, .ins a.c_Field dx []) :: (a.tb_check_field, .tbl tb) :: F)) (m : Im.tri tb ∈ I) (hz : s.length ≤ 10000) (hs : ¬ okS s)
    (k : ∀ tb' H1, Ctx K B H1 ((a.tb_check_field, .tbl tb') :: F) (.tri tb' :: I) → E (.ref a.c_ViewFault) none H1) : sp_Field__init K a [.ref x, .str s] H Q E :=
  ⟨rfl, x, dx, s, tb, F, rfl, hC.lay.perm2 pk, hC.tri m, hz, fun n => absurd n hs, fun _ H' tb' st q y => k tb' H' ((hC.moved st y).add (i := .tri tb') q)⟩
theorem c_dice {c : Int} (hC : Ctx K B H L I) (k : ∀ p i j l H1, Ctx K B H1 ((p, .lst [.int i, .int j, .int l]) :: L) I → Q (.ref p) H1) : sp_law_dice K a [.int c] H Q E :=
  ⟨rfl, c, L, rfl, hC.lay, fun p H' i j l s y => k p i j l H' (hC.moved s y)⟩
theorem c_roll {d : Addr} {m i j l : Int} (hC : Ctx K B H L I) (pk : Pick (d, .lst [.int i, .int j, .int l]) L F) (h0 : 0 < m) (h1 : m ≤ 100000000)
    (k : ∀ r i' j' l' H1, 0 ≤ r → r < m → Ctx K B H1 ((d, .lst [.int i', .int j', .int l']) :: F) I → Q (.int r) H1) : sp_law_roll K a [.ref d, .int m] H Q E :=
  ⟨rfl, d, m, i, j, l, F, rfl, hC.lay.pick pk, h0, h1, fun r i' j' k' H' r0 r1 s y => k r i' j' k' H' r0 r1 (hC.moved s y)⟩
theorem c_shown {ph dx pb pa : Addr} {t : Str} {x y : Int} {vb va : List V} {bk ah : List Rw} {sg : Bool} (hC : Ctx K B H L I) (p : Perm2 F L (fL a ph dx pb pa t x y vb va sg F)) (hb : TDs K H vb (bk.map rowD)) (ha : TDs K H va (ah.map rowD))
    (k : ∀ p H1, Ctx K B H1 L (.tup p [.str t, .int (mnI x y), .int (mxI x y)] :: I) → Q (.ref p) H1) : sp_Field_shown K a [.ref ph] H Q E :=
  ⟨rfl, ph, ⟨t, x, y, bk, ah, sg⟩, _, F, rfl, .mk hb ha, hC.lay.perm2 p, fun p' H1 s y' q => k p' H1 ((hC.moved s (y'.perm p.lay.symm)).add (i := .tup p' _) q)⟩
theorem c_keep {ph dx pb pa : Addr} {t : Str} {x y : Int} {vb va : List V} {bk ah : List Rw} {sg : Bool} (hC : Ctx K B H L I) (p : Perm2 F L (fL a ph dx pb pa t x y vb va sg F)) (hb : TDs K H vb (bk.map rowD)) (ha : TDs K H va (ah.map rowD)) (hz : bk.length ≤ 1000)
    (k : ∀ dx pb pa vb va H1, Ctx K B H1 (fL a ph dx pb pa t x y vb va sg F) (.dats vb ((last50 (bk ++ [(⟨t, x, y⟩ : Rw)])).map rowD) :: .dats va (List.map rowD []) :: I) → Q .non H1) : sp_Field_keep K a [.ref ph] H Q E :=
  ⟨rfl, ph, ⟨t, x, y, bk, ah, sg⟩, _, F, rfl, .mk hb ha, hC.lay.perm2 p, hz, fun H1 O1 s r y' => by
    cases r with
    | mk q1 q2 => exact k _ _ _ _ _ H1 (((hC.moved s y').add (i := .dats _ _) q2).add (i := .dats _ _) q1)⟩
theorem c_put_ok {ph dx pb pa : Addr} {t w : Str} {x y : Int} {vb va : List V} {bk ah : List Rw} {sg : Bool} (hC : Ctx K B H L I) (p : Perm2 F L (fL a ph dx pb pa t x y vb va sg ((a.tb_check_field, .tbl tb) :: F))) (m : Im.tri tb ∈ I) (hb : TDs K H vb (bk.map rowD)) (ha : TDs K H va (ah.map rowD))
    (ht : okS t) (hw : okS w) (hz : bk.length ≤ 1000) (hf : okS (freshT t (mnI x y) (mxI x y) w))
    (k : ∀ dx pb pa vb va tb' H1, Ctx K B H1 (fL a ph dx pb pa (freshT t (mnI x y) (mxI x y) w) (mnI x y + w.length) (mnI x y + w.length) vb va (decide ((w.length : Int) = 1)) ((a.tb_check_field, .tbl tb') :: F))
      (.dats vb ((if goesOn ⟨t, x, y, bk, ah, sg⟩ w then bk else last50 (bk ++ [(⟨t, x, y⟩ : Rw)])).map rowD) :: .dats va (List.map rowD []) :: .tri tb' :: I) → Q .non H1) : sp_Field_put K a [.ref ph, .str w] H Q E :=
  ⟨rfl, ph, w, ⟨t, x, y, bk, ah, sg⟩, tb, _, F, rfl, .mk hb ha, hC.lay.perm2 p, hC.tri m, ht, hw, hz, fun _ H1 O1 tb' s q r y' => by
    cases r with
    | mk q1 q2 => exact k _ _ _ _ _ tb' H1 ((((hC.moved s y').add (i := .tri tb') q).add (i := .dats _ _) q2).add (i := .dats _ _) q1), fun n => absurd hf n⟩
theorem c_put_bad {ph dx pb pa : Addr} {t w : Str} {x y : Int} {vb va : List V} {bk ah : List Rw} {sg : Bool} (hC : Ctx K B H L I) (p : Perm2 F L (fL a ph dx pb pa t x y vb va sg ((a.tb_check_field, .tbl tb) :: F))) (m : Im.tri tb ∈ I) (hb : TDs K H vb (bk.map rowD)) (ha : TDs K H va (ah.map rowD))
    (ht : okS t) (hw : okS w) (hz : bk.length ≤ 1000) (hf : ¬ okS (freshT t (mnI x y) (mxI x y) w))
    (k : ∀ tb' H1, Ctx K B H1 (fL a ph dx pb pa t x y vb va sg ((a.tb_check_field, .tbl tb') :: F)) (.tri tb' :: I) → E (.ref a.c_ViewFault) none H1) : sp_Field_put K a [.ref ph, .str w] H Q E :=
  ⟨rfl, ph, w, ⟨t, x, y, bk, ah, sg⟩, tb, _, F, rfl, .mk hb ha, hC.lay.perm2 p, hC.tri m, ht, hw, hz, fun n => absurd n hf, fun _ H1 tb' s q y' => k tb' H1 ((hC.moved s y').add (i := .tri tb') q)⟩
theorem c_drop {ph dx pb pa : Addr} {t : Str} {x y : Int} {vb va : List V} {bk ah : List Rw} {sg b : Bool} (hC : Ctx K B H L I) (p : Perm2 F L (fL a ph dx pb pa t x y vb va sg F)) (hb : TDs K H vb (bk.map rowD)) (ha : TDs K H va (ah.map rowD)) (ht : okS t) (hz : bk.length ≤ 1000)
    (k : ∀ g dx pb pa vb va H1, g = dropG b ⟨t, x, y, bk, ah, sg⟩ → Ctx K B H1 (fL a ph dx pb pa g.text g.anc g.car vb va g.sign F) (.dats vb (g.back.map rowD) :: .dats va (g.ahead.map rowD) :: I) → Q .non H1) : sp_Field_drop K a [.ref ph, .bl b] H Q E :=
  ⟨rfl, ph, b, ⟨t, x, y, bk, ah, sg⟩, _, F, rfl, .mk hb ha, hC.lay.perm2 p, ht, hz, fun H1 O1 s r y' => by
    cases r with
    | mk q1 q2 => exact k _ _ _ _ _ _ H1 rfl (((hC.moved s y').add (i := .dats _ _) q2).add (i := .dats _ _) q1)⟩
theorem c_go_ok {ph dx pb pa : Addr} {t : Str} {x y q : Int} {vb va : List V} {bk ah : List Rw} {sg b : Bool} (hC : Ctx K B H L I) (p : Perm2 F L (fL a ph dx pb pa t x y vb va sg F)) (hb : TDs K H vb (bk.map rowD)) (ha : TDs K H va (ah.map rowD)) (ht : okS t) (hq : 0 ≤ q ∧ q ≤ t.length)
    (k : ∀ dx pb pa vb va H1, Ctx K B H1 (fL a ph dx pb pa t (if b = true then x else q) q vb va false F) (.dats vb (bk.map rowD) :: .dats va (ah.map rowD) :: I) → Q .non H1) : sp_Field_go K a [.ref ph, .int q, .bl b] H Q E :=
  ⟨rfl, ph, q, b, ⟨t, x, y, bk, ah, sg⟩, _, F, rfl, .mk hb ha, hC.lay.perm2 p, ht, fun _ H1 O1 s r y' => by
    cases r with
    | mk q1 q2 => exact k _ _ _ _ _ H1 (((hC.moved s y').add (i := .dats _ _) q2).add (i := .dats _ _) q1), fun n => absurd hq n⟩
theorem c_go_bad {ph dx pb pa : Addr} {t : Str} {x y q : Int} {vb va : List V} {bk ah : List Rw} {sg b : Bool} (hC : Ctx K B H L I) (p : Perm2 F L (fL a ph dx pb pa t x y vb va sg F)) (hb : TDs K H vb (bk.map rowD)) (ha : TDs K H va (ah.map rowD)) (ht : okS t) (hq : ¬ (0 ≤ q ∧ q ≤ t.length))
    (k : E (.ref a.c_ViewFault) none H) : sp_Field_go K a [.ref ph, .int q, .bl b] H Q E :=
  ⟨rfl, ph, q, b, ⟨t, x, y, bk, ah, sg⟩, _, F, rfl, .mk hb ha, hC.lay.perm2 p, ht, fun n => absurd n hq, fun _ => k⟩
theorem c_sel_ok {ph dx pb pa : Addr} {t : Str} {x y q : Int} {vb va : List V} {bk ah : List Rw} {sg : Bool} (hC : Ctx K B H L I) (p : Perm2 F L (fL a ph dx pb pa t x y vb va sg F)) (hb : TDs K H vb (bk.map rowD)) (ha : TDs K H va (ah.map rowD)) (ht : okS t) (hq : 0 ≤ q ∧ q ≤ t.length)
    (k : ∀ dx pb pa vb va H1, Ctx K B H1 (fL a ph dx pb pa t (wl t q.toNat : Nat) (wr t q.toNat : Nat) vb va false F) (.dats vb (bk.map rowD) :: .dats va (ah.map rowD) :: I) → Q .non H1) : sp_Field_select_word K a [.ref ph, .int q] H Q E :=
  ⟨rfl, ph, q.toNat, ⟨t, x, y, bk, ah, sg⟩, _, F, by rw [Int.toNat_of_nonneg hq.1], .mk hb ha, hC.lay.perm2 p, ht, fun _ H1 O1 s r y' => by
    cases r with
    | mk q1 q2 => exact k _ _ _ _ _ H1 (((hC.moved s y').add (i := .dats _ _) q2).add (i := .dats _ _) q1), fun n => absurd (show q.toNat ≤ t.length by omega) n⟩
theorem c_sel_bad {ph dx pb pa : Addr} {t : Str} {x y q : Int} {vb va : List V} {bk ah : List Rw} {sg : Bool} (hC : Ctx K B H L I) (p : Perm2 F L (fL a ph dx pb pa t x y vb va sg F)) (hb : TDs K H vb (bk.map rowD)) (ha : TDs K H va (ah.map rowD)) (ht : okS t) (h0 : 0 ≤ q) (hq : ¬ q ≤ t.length)
    (k : E (.ref a.c_ViewFault) none H) : sp_Field_select_word K a [.ref ph, .int q] H Q E :=
  ⟨rfl, ph, q.toNat, ⟨t, x, y, bk, ah, sg⟩, _, F, by rw [Int.toNat_of_nonneg h0], .mk hb ha, hC.lay.perm2 p, ht, fun n => absurd (show q ≤ t.length by have : q.toNat ≤ t.length := n; omega) hq, fun _ => k⟩
theorem c_chosen {ph dx pb pa : Addr} {t : Str} {x y : Int} {vb va : List V} {bk ah : List Rw} {sg : Bool} (hC : Ctx K B H L I) (p : Perm2 F L (fL a ph dx pb pa t x y vb va sg F)) (hb : TDs K H vb (bk.map rowD)) (ha : TDs K H va (ah.map rowD)) (ht : okS t)
    (k : ∀ H1, Ctx K B H1 L I → Q (.str (cutS t (some (mnI x y)) (some (mxI x y)))) H1) : sp_Field_chosen K a [.ref ph] H Q E :=
  ⟨rfl, ph, ⟨t, x, y, bk, ah, sg⟩, _, F, rfl, .mk hb ha, hC.lay.perm2 p, ht, fun H1 s y' => k H1 (hC.moved s (y'.perm p.lay.symm))⟩
theorem c_undo_no {ph dx pb pa : Addr} {t : Str} {x y : Int} {vb va : List V} {ah : List Rw} {sg : Bool} (hC : Ctx K B H L I) (p : Perm2 F L (fL a ph dx pb pa t x y vb va sg F)) (hb : TDs K H vb (List.map rowD [])) (ha : TDs K H va (ah.map rowD)) (hz : ah.length ≤ 1000)
    (k : ∀ H1, Ctx K B H1 L I → Q (.bl false) H1) : sp_Field_undo K a [.ref ph] H Q E :=
  ⟨rfl, ph, ⟨t, x, y, [], ah, sg⟩, _, F, rfl, .mk hb ha, hC.lay.perm2 p, hz, Rok.nil, fun _ H1 s y' => k H1 (hC.moved s (y'.perm p.lay.symm)), fun bs r e => absurd e (by simp)⟩
theorem c_undo_yes {ph dx pb pa : Addr} {t : Str} {x y : Int} {vb va : List V} {bs ah : List Rw} {r : Rw} {sg : Bool} (hC : Ctx K B H L I) (p : Perm2 F L (fL a ph dx pb pa t x y vb va sg F)) (hb : TDs K H vb ((bs ++ [r]).map rowD)) (ha : TDs K H va (ah.map rowD)) (hz : ah.length ≤ 1000) (hr : Rok (bs ++ [r]))
    (k : ∀ dx pb pa vb va H1, Ctx K B H1 (fL a ph dx pb pa r.text r.anc r.car vb va false F) (.dats vb (bs.map rowD) :: .dats va ((ah ++ [(⟨t, x, y⟩ : Rw)]).map rowD) :: I) → Q (.bl true) H1) : sp_Field_undo K a [.ref ph] H Q E :=
  ⟨rfl, ph, ⟨t, x, y, bs ++ [r], ah, sg⟩, _, F, rfl, .mk hb ha, hC.lay.perm2 p, hz, hr, fun e => absurd e (by simp), fun cs u e H1 O1 s r' y' => by
    obtain ⟨e1, e2⟩ := List.append_inj' e rfl
    cases e1
    cases e2
    cases r' with
    | mk q1 q2 => exact k _ _ _ _ _ H1 (((hC.moved s y').add (i := .dats _ _) q2).add (i := .dats _ _) q1)⟩
theorem c_redo_no {ph dx pb pa : Addr} {t : Str} {x y : Int} {vb va : List V} {bk : List Rw} {sg : Bool} (hC : Ctx K B H L I) (p : Perm2 F L (fL a ph dx pb pa t x y vb va sg F)) (hb : TDs K H vb (bk.map rowD)) (ha : TDs K H va (List.map rowD [])) (hz : bk.length ≤ 1000)
    (k : ∀ H1, Ctx K B H1 L I → Q (.bl false) H1) : sp_Field_redo K a [.ref ph] H Q E :=
  ⟨rfl, ph, ⟨t, x, y, bk, [], sg⟩, _, F, rfl, .mk hb ha, hC.lay.perm2 p, hz, Rok.nil, fun _ H1 s y' => k H1 (hC.moved s (y'.perm p.lay.symm)), fun bs r e => absurd e (by simp)⟩
theorem c_redo_yes {ph dx pb pa : Addr} {t : Str} {x y : Int} {vb va : List V} {bs bk : List Rw} {r : Rw} {sg : Bool} (hC : Ctx K B H L I) (p : Perm2 F L (fL a ph dx pb pa t x y vb va sg F)) (hb : TDs K H vb (bk.map rowD)) (ha : TDs K H va ((bs ++ [r]).map rowD)) (hz : bk.length ≤ 1000) (hr : Rok (bs ++ [r]))
    (k : ∀ dx pb pa vb va H1, Ctx K B H1 (fL a ph dx pb pa r.text r.anc r.car vb va false F) (.dats vb ((bk ++ [(⟨t, x, y⟩ : Rw)]).map rowD) :: .dats va (bs.map rowD) :: I) → Q (.bl true) H1) : sp_Field_redo K a [.ref ph] H Q E :=
  ⟨rfl, ph, ⟨t, x, y, bk, bs ++ [r], sg⟩, _, F, rfl, .mk hb ha, hC.lay.perm2 p, hz, hr, fun e => absurd e (by simp), fun cs u e H1 O1 s r' y' => by
    obtain ⟨e1, e2⟩ := List.append_inj' e rfl
    cases e1
    cases e2
    cases r' with
    | mk q1 q2 => exact k _ _ _ _ _ H1 (((hC.moved s y').add (i := .dats _ _) q2).add (i := .dats _ _) q1)⟩
end
section
variable {K : PySem.W.Frag} {H : Hp}
theorem tds_last50 {vs : List V} {l : List Rw} (h : TDs K H vs (l.map rowD)) : TDs K H (cutV vs (some (-50)) none) ((last50 l).map rowD) := by
  have e : cutV vs (some (-50)) none = vs.drop (vs.length - 50) := cutV_last (k := 50) (by decide)
  rw [e, last50, List.map_drop, h.length, List.length_map]
  exact TDs.drop _ h
theorem tds_row {vs : List V} {l : List Rw} {p : Addr} {t : Str} {x y : Int} (h : TDs K H vs (l.map rowD)) (q : SqT K H p [.str t, .int x, .int y]) : TDs K H (vs ++ [.ref p]) ((l ++ [(⟨t, x, y⟩ : Rw)]).map rowD) := by
  rw [List.map_append]
  exact TDs.snoc (d := rowD ⟨t, x, y⟩) h (show TD K H (.ref p) (.tuple [.str t, .int x, .int y]) from .tup q (.cons (.str _) (.cons (.int _) (.cons (.int _) .nil))))
theorem row_inv {v : V} {r : Rw} (h : TD K H v (rowD r)) : ∃ p, v = .ref p ∧ SqT K H p [.str r.text, .int r.anc, .int r.car] := by
  unfold rowD at h
  cases h with
  | tup q t =>
    cases t with
    | cons a t =>
      cases t with
      | cons b t =>
        cases t with
        | cons c t =>
          cases t
          cases a
          cases b
          cases c
          exact ⟨_, rfl, q⟩
end
abbrev lawL (a : Adr) (d : Addr) (i j l : Int) (ph dx pb pa pb2 pa2 : Addr) (g : FS) (vb va vb2 va2 : List V) (tb tb2 : Array Value) (F : List (Addr × HO)) : List (Addr × HO) :=
  (d, .lst [.int i, .int j, .int l]) :: fL a ph dx pb pa g.text g.anc g.car vb va g.sign ((pb2, .lst vb2) :: (pa2, .lst va2) :: (a.tb_check_field, .tbl tb) :: (a.tb_law, .tbl tb2) :: F)
inductive LI (K : PySem.W.Frag) (a : Adr) (d ph : Addr) (F : List (Addr × HO)) (n : Nat) (g : FS) (ps pb2 pa2 : Addr) (H : Hp) : Prop
  | of {i j l : Int} {dx pb pa : Addr} {vb va vb2 va2 : List V} {tb tb2 : Array Value} (y : Lay H (lawL a d i j l ph dx pb pa pb2 pa2 g vb va vb2 va2 tb tb2 F)) (t1 : TDs K H vb (g.back.map rowD)) (t2 : TDs K H va (g.ahead.map rowD)) (t3 : TDs K H vb2 (g.back.map rowD))
      (t4 : TDs K H va2 (g.ahead.map rowD)) (q : SqT K H ps [.str g.text, .int g.anc, .int g.car]) (r : TriplesOk tb.toList) (s : TabOK (lamq "law") tb2 H) (o : rowOk ⟨g.text, g.anc, g.car⟩) (rb : Rok g.back) (ra : Rok g.ahead) (n1 : g.back.length ≤ 50 + n) (n2 : g.ahead.length ≤ 50 + n) : LI K a d ph F n g ps pb2 pa2 H
inductive SL (d ph ps pb2 pa2 : Addr) (sg : Bool) : L2.St → Prop
  | mk {v0 v2 v8 v9 v10 v11 v12 v13 v14 v15 v16 v17 v18 v19 v20 v21 v22 v23 v24 v25 v26 v27 : Option V} : SL d ph ps pb2 pa2 sg [v0, some (.ref d), v2, some (.ref ph), some (.ref ps), some (.ref pb2), some (.ref pa2), some (.bl sg), v8, v9, v10, v11, v12, v13, v14, v15, v16, v17, v18, v19, v20, v21, v22, v23, v24, v25, v26, v27]
theorem LI.le {K : PySem.W.Frag} {a : Adr} {d ph : Addr} {F : List (Addr × HO)} {n m : Nat} {g : FS} {ps pb2 pa2 : Addr} {H : Hp} (h : LI K a d ph F n g ps pb2 pa2 H) (z : n ≤ m) : LI K a d ph F m g ps pb2 pa2 H := by
  cases h with
  | of y t1 t2 t3 t4 q r s o rb ra n1 n2 => exact .of y t1 t2 t3 t4 q r s o rb ra (by omega) (by omega)
end Wk
namespace Wk
open PySem PySem.Spec PyProof.Rows L2 Ph
/-! cutting at blanks -/
section
theorem tw_all {l : List Nat} (h : ∀ c, c ∈ l → c ≠ 32) : l.takeWhile (fun c => decide (c ≠ 32)) = l := by
  induction l with
  | nil => rfl
  | cons a l ih =>
    rw [List.takeWhile_cons, if_pos (by simpa using h a List.mem_cons_self), ih fun c hc => h c (List.mem_cons_of_mem _ hc)]
theorem tw_app {l r : List Nat} (h : ∀ c, c ∈ l → c ≠ 32) : (l ++ 32 :: r).takeWhile (fun c => decide (c ≠ 32)) = l := by
  induction l with
  | nil => rfl
  | cons a l ih =>
    rw [List.cons_append, List.takeWhile_cons, if_pos (by simpa using h a List.mem_cons_self), ih fun c hc => h c (List.mem_cons_of_mem _ hc)]
theorem blank : (" " : Str) = ⟨#[32]⟩ := by decide +kernel
theorem blank_list : (" " : Str).cps.toList = [32] := by decide +kernel
theorem parts_first : ∀ (ps : List Str) (p : Str), (∀ q, q ∈ p :: ps → 32 ∉ q.cps.toList) → ((Str.join " " (p :: ps)).cps.toList.takeWhile (fun c => decide (c ≠ 32))) = p.cps.toList
  | [], p, h => tw_all fun c hc e => h p List.mem_cons_self (e ▸ hc)
  | q :: ps, p, h => by
    show ((p ++ " " ++ Str.join " " (q :: ps)).cps.toList.takeWhile _) = _
    simp only [Str.cps_append, Array.toList_append, blank_list]
    rw [List.append_assoc, List.singleton_append]
    exact tw_app fun c hc e => h p List.mem_cons_self (e ▸ hc)
theorem parts_last : ∀ (ps : List Str) (p : Str), (∀ q, q ∈ p :: ps → 32 ∉ q.cps.toList) → ((Str.join " " (p :: ps)).cps.toList.reverse.takeWhile (fun c => decide (c ≠ 32))).length = ((p :: ps).getLast (List.cons_ne_nil _ _)).length
  | [], p, h => by
    show (p.cps.toList.reverse.takeWhile _).length = p.length
    rw [tw_all fun c hc e => h p List.mem_cons_self (e ▸ List.mem_reverse.mp hc), List.length_reverse, Array.length_toList]
    rfl
  | q :: ps, p, h => by
    have ih := parts_last ps q fun z hz => h z (List.mem_cons_of_mem _ hz)
    rw [List.getLast_cons (List.cons_ne_nil _ _), ← ih]
    show ((p ++ " " ++ Str.join " " (q :: ps)).cps.toList.reverse.takeWhile _).length = _
    simp only [Str.cps_append, Array.toList_append, blank_list, List.reverse_append]
    generalize (Str.join " " (q :: ps)).cps.toList.reverse = l
    rw [List.reverse_singleton]
    by_cases hb : ∀ c, c ∈ l → c ≠ 32
    · rw [List.singleton_append, tw_app hb, tw_all hb]
    · have : ∃ l1 l2, l = l1 ++ 32 :: l2 ∧ ∀ c, c ∈ l1 → c ≠ 32 := by
        clear ih
        induction l with
        | nil => exact absurd (fun c hc => nomatch hc) hb
        | cons a l ih =>
          by_cases ha : a = 32
          · exact ⟨[], l, by rw [ha]; rfl, fun c hc => nomatch hc⟩
          · obtain ⟨l1, l2, e1, e2⟩ := ih (fun q => hb fun c hc => by
              rcases List.mem_cons.mp hc with z | z
              · rw [z]; exact ha
              · exact q c z)
            refine ⟨a :: l1, l2, by rw [e1]; rfl, fun c hc => ?_⟩
            rcases List.mem_cons.mp hc with z | z
            · rw [z]; exact ha
            · exact e2 c z
      obtain ⟨l1, l2, e1, e2⟩ := this
      rw [e1, List.append_assoc, List.cons_append, tw_app e2, tw_app e2]
theorem split_ne (x : Str) : ∃ p ps, Txt.split x " " = p :: ps := by
  have h := PyProof.Rows.split_pos x " "
  cases e : Txt.split x " " with
  | nil => rw [e] at h; exact absurd h (by decide)
  | cons p ps => exact ⟨p, ps, rfl⟩
theorem split_free' (x : Str) : ∀ q, q ∈ Txt.split x " " → 32 ∉ q.cps.toList := by
  rw [blank]
  exact StrLaws.split_free x 32
theorem cut_take {t : Str} {p : Nat} (hp : p ≤ t.length) : (cutS t none (some (p : Int))).cps.toList = t.cps.toList.take p := by
  show ((t.cps.toList.drop (HT.sIx t.length 0 none)).take (HT.sIx t.length t.length (some (p : Int)) - HT.sIx t.length 0 none)).toArray.toList = _
  rw [HT.sIx_none, HT.sIx_nat, List.drop_zero, Nat.sub_zero, Nat.min_eq_left hp]
theorem cut_drop {t : Str} {p : Nat} (hp : p ≤ t.length) : (cutS t (some (p : Int)) none).cps.toList = t.cps.toList.drop p := by
  show ((t.cps.toList.drop (HT.sIx t.length 0 (some (p : Int)))).take (HT.sIx t.length t.length none - HT.sIx t.length 0 (some (p : Int)))).toArray.toList = _
  rw [HT.sIx_none, HT.sIx_nat, Nat.min_eq_left hp]
  show (t.cps.toList.drop p).take (t.length - p) = _
  exact List.take_of_length_le (by rw [List.length_drop, Array.length_toList]; exact Nat.le_refl _)
/-- the last piece ahead of p -/
theorem left_ok {t : Str} {p : Nat} (hp : p ≤ t.length) : ∃ us x, (Txt.split (cutS t none (some (p : Int))) " ").map V.str = us ++ [V.str x] ∧ x.length ≤ p ∧ wl t p = p - x.length := by
  obtain ⟨q, ps, e⟩ := split_ne (cutS t none (some (p : Int)))
  have h1 := parts_last ps q (by rw [← e]; exact split_free' _)
  have e3 : Str.join " " (q :: ps) = cutS t none (some (p : Int)) := by rw [← e]; exact StrLaws.join_split _ _
  rw [e3] at h1
  have h1 : ((cutS t none (some (p : Int))).cps.toList.reverse.takeWhile (fun c => decide (c ≠ 32))).length = ((q :: ps).getLast (List.cons_ne_nil _ _)).length := h1
  refine ⟨(q :: ps).dropLast.map V.str, (q :: ps).getLast (List.cons_ne_nil _ _), ?_, ?_, ?_⟩
  · rw [e]
    conv => lhs; rw [← List.dropLast_concat_getLast (List.cons_ne_nil q ps)]
    rw [List.map_append]
    rfl
  · rw [← h1]
    refine Nat.le_trans (List.Sublist.length_le (List.takeWhile_sublist _)) ?_
    rw [List.length_reverse, cut_take hp, List.length_take]
    exact Nat.min_le_left _ _
  · rw [← h1, cut_take hp]
    rfl
/-- the first piece behind p -/
theorem right_ok {t : Str} {p : Nat} (hp : p ≤ t.length) : ∃ x us, (Txt.split (cutS t (some (p : Int)) none) " ").map V.str = V.str x :: us ∧ p + x.length ≤ t.length ∧ wr t p = p + x.length := by
  obtain ⟨q, ps, e⟩ := split_ne (cutS t (some (p : Int)) none)
  have h1 := parts_first ps q (by rw [← e]; exact split_free' _)
  rw [← e, StrLaws.join_split, cut_drop hp] at h1
  refine ⟨q, ps.map V.str, by rw [e]; rfl, ?_, ?_⟩
  · have h2 : q.cps.toList.length ≤ (t.cps.toList.drop p).length := by
      rw [← h1]
      exact List.Sublist.length_le (List.takeWhile_sublist _)
    rw [List.length_drop, Array.length_toList, Array.length_toList] at h2
    have h3 : q.length ≤ t.length - p := h2
    omega
  unfold wr
  rw [h1, Array.length_toList]
  rfl
theorem len_take {t : Str} {s : Int} (h0 : 0 ≤ s) (h1 : s ≤ t.length) : ((cutS t none (some s)).length : Int) = s := by
  obtain ⟨p, rfl⟩ := Int.eq_ofNat_of_zero_le h0
  have h := cut_take (t := t) (p := p) (by omega)
  have h2 : (cutS t none (some (p : Int))).length = (t.cps.toList.take p).length := by rw [← h, Array.length_toList]; rfl
  rw [h2, List.length_take, Array.length_toList, show t.cps.size = t.length from rfl]
  omega
theorem len_drop {t : Str} {s : Int} (h0 : 0 ≤ s) (h1 : s ≤ t.length) : ((cutS t (some s) none).length : Int) = t.length - s := by
  obtain ⟨p, rfl⟩ := Int.eq_ofNat_of_zero_le h0
  have h := cut_drop (t := t) (p := p) (by omega)
  have h2 : (cutS t (some (p : Int)) none).length = (t.cps.toList.drop p).length := by rw [← h, Array.length_toList]; rfl
  rw [h2, List.length_drop, Array.length_toList, show t.cps.size = t.length from rfl]
  omega
theorem mn_rng {x y : Int} {n : Nat} (hx : 0 ≤ x ∧ x ≤ n) (hy : 0 ≤ y ∧ y ≤ n) : 0 ≤ mnI x y ∧ mnI x y ≤ mxI x y ∧ mxI x y ≤ n := by
  have h1 := mnI_le (i := x) (j := y)
  have h2 := mxI_ge (i := x) (j := y)
  omega
theorem okS_app {x y : Str} (hx : okS x) (hy : okS y) (hz : (x ++ y).length ≤ 200) : okS (x ++ y) := ⟨hz, fun c hc => by
  simp only [Str.cps_append, Array.toList_append, List.mem_append] at hc
  rcases hc with hc | hc
  · exact hx.2 c hc
  · exact hy.2 c hc⟩
theorem okS_cut {t : Str} {lo hi : Option Int} (ht : okS t) : okS (cutS t lo hi) := ⟨Nat.le_trans (cutS_length _ _ _) ht.1, fun c hc => ht.2 c (List.mem_of_mem_drop (List.mem_of_mem_take (by simpa [cutS] using hc)))⟩
theorem row_put {t w : Str} {s e : Int} (ht : okS t) (h0 : 0 ≤ s) (h1 : s ≤ e) (h2 : e ≤ t.length) (hf : okS (cutS t none (some s) ++ w ++ cutS t (some e) none)) : rowOk ⟨cutS t none (some s) ++ w ++ cutS t (some e) none, s + w.length, s + w.length⟩ := by
  have e1 := len_take h0 (show s ≤ t.length by omega)
  have e2 : (cutS t none (some s) ++ w ++ cutS t (some e) none).length = (cutS t none (some s)).length + w.length + (cutS t (some e) none).length := by rw [Str.length_append, Str.length_append]
  refine ⟨hf, ⟨?_, ?_⟩, ?_, ?_⟩ <;> dsimp only <;> omega
theorem row_drop {t : Str} {s e : Int} (ht : okS t) (h0 : 0 ≤ s) (h1 : s ≤ e) (h2 : e ≤ t.length) : rowOk ⟨cutS t none (some s) ++ cutS t (some e) none, s, s⟩ := by
  have e1 := len_take h0 (show s ≤ t.length by omega)
  have e3 := len_drop (show 0 ≤ e by omega) h2
  have e2 : (cutS t none (some s) ++ cutS t (some e) none).length = (cutS t none (some s)).length + (cutS t (some e) none).length := by rw [Str.length_append]
  have ht1 := ht.1
  refine ⟨okS_app (okS_cut ht) (okS_cut ht) (by omega), ⟨?_, ?_⟩, ?_, ?_⟩ <;> dsimp only <;> omega
end
end Wk
namespace Wk
open PySem PySem.Spec PyProof.Rows L2 Ph
open LamX (TTold)
open GxR (tAnyS)
set_option hygiene false in
local macro_rules | `(tactic| walk_at "cls") => `(tactic| first | with_reducible exact T.cl_Field)
set_option hygiene false in
local macro_rules | `(tactic| walk_at "na") => `(tactic| first | with_reducible exact T.na_Field_text | with_reducible exact T.na_Field_anchor | with_reducible exact T.na_Field_caret | with_reducible exact T.na_Field_back_rows | with_reducible exact T.na_Field_ahead_rows | with_reducible exact T.na_Field_sign_last)
set_option hygiene false in
local macro_rules | `(tactic| walk_at "exc") => `(tactic| first | with_reducible exact T.ec_ViewFault)
set_option hygiene false in
local macro_rules | `(tactic| walk_at "mem") => `(tactic| first | with_reducible assumption | with_reducible exact List.mem_cons_self | ((with_reducible apply List.mem_cons_of_mem); walk_at "mem"))
set_option hygiene false in
local macro_rules | `(tactic| walk_at "up") => `(tactic| first | with_reducible exact Up.here | ((with_reducible apply Up.there); walk_at "up"))
set_option hygiene false in
local macro_rules | `(tactic| walk_at "pick") => `(tactic| first | with_reducible exact Pick.here | ((with_reducible apply Pick.there); walk_at "pick"))
set_option hygiene false in
local macro_rules | `(tactic| walk_at "set") => `(tactic| first | with_reducible exact SetAt.here | ((with_reducible apply SetAt.there); walk_at "set"))
set_option hygiene false in
local macro_rules | `(tactic| walk_at "lset") => `(tactic| first | with_reducible exact LSet.here | ((with_reducible apply LSet.there); walk_at "lset"))
set_option hygiene false in
local macro_rules | `(tactic| walk_at "sne") => `(tactic| first | (intro hq; exact absurd (Sum.inr.inj hq) (by decide +kernel)) | decide +kernel)
set_option hygiene false in
local macro_rules | `(tactic| walk_at "lk") => `(tactic| first | with_reducible exact Lk.here | ((with_reducible apply Lk.there); (walk_at "sne"); walk_at "lk"))
set_option hygiene false in
local macro_rules | `(tactic| walk_at "nolk") => `(tactic| first | with_reducible exact NoLk.nil | ((with_reducible apply NoLk.there); (walk_at "sne"); walk_at "nolk"))
set_option hygiene false in
local macro_rules | `(tactic| walk_at "put") => `(tactic| first | with_reducible exact Put.nil | with_reducible exact Put.here | ((with_reducible apply Put.there); (walk_at "sne"); walk_at "put"))
set_option hygiene false in
local macro_rules | `(tactic| walk_at "dk") => `(tactic| first | with_reducible exact Dk.here | ((with_reducible apply Dk.there); (walk_at "sne"); walk_at "dk"))
set_option hygiene false in
local macro_rules | `(tactic| walk_at "dno") => `(tactic| first | with_reducible exact DNo.nil | ((with_reducible apply DNo.there); (walk_at "sne"); walk_at "dno"))
set_option hygiene false in
local macro_rules | `(tactic| walk_at "dpt") => `(tactic| first | ((with_reducible apply DPt.here); walk_at "dno") | ((with_reducible apply DPt.there); (walk_at "sne"); walk_at "dpt"))
set_option hygiene false in
local macro_rules | `(tactic| walk_at "get") => `(tactic| exact hC.get (by walk_at "mem"))
set_option hygiene false in
local macro_rules | `(tactic| walk_at "sqt") => `(tactic| exact hC.tup (by walk_at "mem"))
set_option hygiene false in
local macro_rules | `(tactic| walk_at "len") => `(tactic| first | (simp; done) | (simp only [List.length_append, List.length_cons, List.length_nil]; omega) | omega)
set_option hygiene false in
local macro_rules | `(tactic| walk_at "alli") => `(tactic| first | exact AllI.nil | (apply AllI.cons; walk_at "alli"))
set_option hygiene false in
local macro_rules | `(tactic| walk_at "tok") => `(tactic| first | with_reducible exact ToK.nil | ((with_reducible apply ToK.str); walk_at "tok") | ((with_reducible apply ToK.int); walk_at "tok"))
set_option hygiene false in
local macro_rules | `(tactic| walk_at "rdis") => `(tactic| first | with_reducible exact RDis.nil | ((with_reducible apply RDis.cons); (walk_at "dno"); walk_at "rdis"))
set_option hygiene false in
local macro_rules | `(tactic| walk_at "pull") => `(tactic| first | with_reducible exact Pull.here | ((with_reducible apply Pull.there); walk_at "pull"))
set_option hygiene false in
local macro_rules | `(tactic| walk_at "st3") => `(tactic| first
  | with_reducible refine s_for ?_
  | with_reducible refine s_il ?_
  | ((with_reducible refine' s_ilV ?sm ?_); (case sm => walk_at "get"))
  | with_reducible refine s_rng ?_
  | ((with_reducible refine' s_rngV ?s1 ?s2 ?_); (case s1 => omega); (case s2 => omega))
  | with_reducible refine s_sl ?_
  | with_reducible refine s_noPart ?_
  | with_reducible refine s_partE ?_
  | with_reducible refine s_partV ?_
  | ((with_reducible refine' s_slL hC ?sm ?_); (case sm => first | assumption | exact SqL.of (by walk_at "get")); clear hC; intro sp H hC)
  | with_reducible refine s_lc ?_
  | ((with_reducible refine' s_app hC ?sm ?sz ?su ?_); (case sm => walk_at "get"); (case sz => walk_at "len"); (case su => walk_at "up"); clear hC; intro H hC)
  | ((with_reducible refine' s_disp hC ?_); clear hC; intro dp H hC)
  | with_reducible refine s_pair ?_
  | with_reducible refine s_pnil ?_
  | ((with_reducible refine' s_dispV hC ?sm ?sh ?sn ?sz ?su ?_); (case sm => walk_at "get"); (case sh => walk_at "tok"); (case sn => walk_at "rdis"); (case sz => walk_at "len"); (case su => walk_at "up"); clear hC; intro H hC)
  | ((with_reducible refine' s_toldE ?se ?_); (case se => walk_at "exc"))
  | ((with_reducible refine' s_addL hC ?s1 ?s2 ?sz ?_); (case s1 => walk_at "get"); (case s2 => walk_at "get"); (case sz => walk_at "len"); clear hC; intro lp H hC)
  | ((with_reducible refine' s_ixAny ?sm ?sa ?s0 ?s1 ?_); (case sm => walk_at "get"); (case sa => walk_at "alli"); (case s0 => omega); (case s1 => walk_at "len"); intro iz hiz; simp only [List.mem_cons, List.not_mem_nil, or_false] at hiz))
-- a step of no choice
set_option hygiene false in
local macro_rules | `(tactic| walk_at "st0") => `(tactic| first
  | ((with_reducible refine' s_var ?sa ?_); (case sa => first | rfl | assumption))
  | with_reducible refine s_c ?_
  | with_reducible refine s_op ?_
  | with_reducible refine s_fld ?_
  | ((with_reducible refine' s_fldV ?sm ?sc ?sn ?sl ?_); (case sm => walk_at "get"); (case sc => walk_at "cls"); (case sn => walk_at "na"); (case sl => walk_at "lk"))
  | with_reducible refine s_cons ?_
  | with_reducible refine s_nil ?_
  | with_reducible refine s_seq ?_
  | with_reducible refine s_asg ?_
  | ((with_reducible refine' s_name ?sa ?_); (case sa => walk_at "set"))
  | with_reducible refine s_nx ?_
  | with_reducible refine s_next ?_
  | with_reducible refine s_test ?_
  | with_reducible refine s_bl ?_
  | with_reducible refine s_tru ?_
  | with_reducible refine s_truB ?_
  | with_reducible refine s_truN ?_
  | with_reducible refine s_if ?_
  | with_reducible refine s_and ?_
  | with_reducible refine s_or ?_
  | with_reducible refine s_not ?_
  | with_reducible refine s_ifE ?_
  | with_reducible refine iteT ?_
  | with_reducible refine iteF ?_
  | with_reducible refine s_iteNT ?_
  | with_reducible refine s_iteNF ?_)
set_option hygiene false in
local macro_rules | `(tactic| walk_at "st1") => `(tactic| first
  | with_reducible refine s_addI ?_
  | with_reducible refine s_subI ?_
  | with_reducible refine s_iaddI ?_
  | with_reducible refine s_ltI ?_
  | with_reducible refine s_leI ?_
  | with_reducible refine s_gtI ?_
  | with_reducible refine s_geI ?_
  | ((with_reducible refine' s_eqIT ?sq ?_); (case sq => assumption))
  | ((with_reducible refine' s_eqIF ?sq ?_); (case sq => assumption))
  | with_reducible refine s_eqI ?_
  | with_reducible refine s_neIF ?_
  | with_reducible refine s_neI ?_
  | with_reducible refine s_isN_non ?_
  | with_reducible refine s_isN_ref ?_
  | with_reducible refine s_isN_int ?_
  | with_reducible refine s_isN_str ?_
  | with_reducible refine s_notN_non ?_
  | with_reducible refine s_notN_ref ?_
  | with_reducible refine s_notN_int ?_
  | with_reducible refine s_notN_str ?_
  | ((with_reducible refine' s_eqST ?sq ?_); (case sq => with_reducible rfl))
  | with_reducible refine s_eqS ?_
  | with_reducible refine s_neSs ?_
  | with_reducible refine s_neS ?_
  | with_reducible refine s_eqBs ?_
  | with_reducible refine s_eqTF ?_
  | with_reducible refine s_eqFT ?_
  | with_reducible refine s_eqB ?_
  | with_reducible refine s_neBs ?_
  | with_reducible refine s_neTF ?_
  | with_reducible refine s_neFT ?_
  | with_reducible refine s_neB ?_
  | with_reducible refine s_eqNS ?_
  | with_reducible refine s_eqSN ?_
  | with_reducible refine s_neNS ?_
  | ((with_reducible refine' s_mulI ?sc ?_); (case sc => first | exact .inr ⟨by decide, by decide⟩ | exact .inl ⟨by decide, by decide⟩ | exact .inr ⟨by omega, by omega⟩ | exact .inl ⟨by omega, by omega⟩))
  | ((with_reducible refine' s_modI ?sc ?_); (case sc => first | decide | omega))
  | ((with_reducible refine' s_divI ?sc ?_); (case sc => exact ⟨by first | decide | omega, by first | decide | omega⟩))
  | ((with_reducible refine' s_powI ?sc ?_); (case sc => exact ⟨by decide, by decide, by decide⟩))
  | (refine' s_ixT (j := 0) ?sm ?se ?_; (case sm => walk_at "sqt"); (case se => rfl))
  | (refine' s_ixT (j := 1) ?sm ?se ?_; (case sm => walk_at "sqt"); (case se => rfl))
  | ((with_reducible refine' s_ixD ?sm ?se ?_); (case sm => walk_at "get"); (case se => walk_at "dk"))
  | ((with_reducible refine' s_ixHead ?sm ?_); (case sm => walk_at "get"))
  | ((with_reducible refine' s_ixLast ?sm ?_); (case sm => walk_at "get"))
  | ((with_reducible refine' s_ixL ?sm ?se ?_); (case sm => walk_at "get"); (case se => rfl)))
set_option hygiene false in
local macro_rules | `(tactic| walk_at "st2") => `(tactic| first
  | with_reducible refine s_setF ?_
  | ((with_reducible refine' s_setV hC ?sm ?sc ?sn ?sz ?sp ?su ?_); (case sm => walk_at "get"); (case sc => walk_at "cls"); (case sn => walk_at "na"); (case sz => walk_at "len"); (case sp => walk_at "put"); (case su => walk_at "up"); clear hC; intro H hC)
  | with_reducible refine s_augF ?_
  | ((with_reducible refine' s_augV ?sm ?sc ?sn ?sl ?_); (case sm => walk_at "get"); (case sc => walk_at "cls"); (case sn => walk_at "na"); (case sl => walk_at "lk"))
  | ((with_reducible refine' s_augW hC ?sm ?sz ?sp ?su ?_); (case sm => walk_at "get"); (case sz => walk_at "len"); (case sp => walk_at "put"); (case su => walk_at "up"); clear hC; intro H hC)
  | with_reducible refine s_tup ?_
  | ((with_reducible refine' s_tupN hC ?sz ?_); (case sz => walk_at "len"); clear hC; intro tp H hC)
  | with_reducible refine s_lst ?_
  | ((with_reducible refine' s_lstN hC ?sz ?_); (case sz => walk_at "len"); clear hC; intro lp H hC)
  | with_reducible refine s_ret ?_
  | with_reducible refine s_retN ?_
  | with_reducible refine s_drop ?_
  | with_reducible refine s_bm ?_
  | ((with_reducible refine' s_tyL ?sm ?_); (case sm => walk_at "get"))
  | ((with_reducible refine' s_append hC ?sm ?sz ?su ?_); (case sm => walk_at "get"); (case sz => walk_at "len"); (case su => walk_at "up"); clear hC; intro H hC)
  | with_reducible refine s_cb ?_
  | with_reducible refine s_abs ?_
  | with_reducible refine s_max2N ?_
  | with_reducible refine s_min2N ?_
  | with_reducible refine s_int1 ?_
  | with_reducible refine s_int1T ?_
  | with_reducible refine s_int1F ?_
  | with_reducible refine s_int1b ?_
  | with_reducible refine s_par ?_
  | with_reducible refine s_par2V ?_
  | with_reducible refine s_par3 ?_
  | with_reducible refine s_par3V ?_
  | with_reducible refine s_subG ?_
  | ((with_reducible refine' s_putD hC ?sm ?sz ?sp ?su ?_); (case sm => walk_at "get"); (case sz => walk_at "len"); (case sp => walk_at "dpt"); (case su => walk_at "up"); clear hC; intro H hC)
  | ((with_reducible refine' s_putL (j := 0) hC ?sm ?se ?sw ?su ?_); (case sm => walk_at "get"); (case se => rfl); (case sw => walk_at "lset"); (case su => walk_at "up"); clear hC; intro H hC)
  | ((with_reducible refine' s_putL (j := 1) hC ?sm ?se ?sw ?su ?_); (case sm => walk_at "get"); (case se => rfl); (case sw => walk_at "lset"); (case su => walk_at "up"); clear hC; intro H hC)
  | ((with_reducible refine' s_putL (j := 2) hC ?sm ?se ?sw ?su ?_); (case sm => walk_at "get"); (case se => rfl); (case sw => walk_at "lset"); (case su => walk_at "up"); clear hC; intro H hC)
  | ((with_reducible refine' s_gtup ?sm ?sz ?_); (case sm => walk_at "sqt"); (case sz => rfl))
  | with_reducible refine s_gcons ?_
  | with_reducible refine s_gnil ?_
  | with_reducible refine s_call ?_
  | with_reducible refine s_callV ?_
  | ((with_reducible refine s_callD ?_); dsimp only [List.cons_append, List.nil_append])
  | with_reducible refine s_meth ?_
  | ((with_reducible refine' s_methV ?sm ?sn ?_); (case sm => walk_at "get"); (case sn => walk_at "nolk"))
  | with_reducible refine s_make ?_
  | ((with_reducible refine s_makeV hC ?_); clear hC; intro mx mdx H hC)
  | with_reducible refine s_raise ?_
  | with_reducible refine s_chain ?_
  | with_reducible refine s_chainB ?_
  | with_reducible refine s_andV ?_
  | with_reducible refine s_andB ?_
  | with_reducible refine s_orV ?_
  | with_reducible refine s_orB ?_
  | with_reducible refine s_notV ?_
  | with_reducible refine s_notB ?_
  | with_reducible refine s_un ?_
  | with_reducible refine s_negI ?_
  | with_reducible refine s_asg2 ?_
  | with_reducible refine s_break ?_
  | with_reducible refine s_cont ?_)
set_option hygiene false in
local macro_rules | `(tactic| walk_at "sl") => `(tactic| first | exact Nat.le_trans (by assumption) (by decide) | (refine Nat.le_trans (cutS_length _ _ _) ?_; walk_at "sl") | (refine app_le10 ?_ ?_ <;> walk_at "sl") | (refine app_le5 ?_ ?_ <;> walk_at "sl") | (refine app_le2 ?_ ?_ <;> walk_at "sl") | (refine app_le1 ?_ ?_ <;> walk_at "sl") | (refine app_le05 ?_ ?_ <;> walk_at "sl") | (rw [repS_length]; decide) | decide | omega)
set_option hygiene false in
local macro_rules | `(tactic| walk_at "st4") => `(tactic| first
  | with_reducible refine s_gfld ?_
  | with_reducible refine s_bm0 ?_
  | ((with_reducible refine' s_popL hC ?sm ?su ?_); (case sm => walk_at "get"); (case su => walk_at "up"); clear hC; intro H hC)
  | with_reducible refine s_m1 ?_
  | with_reducible refine s_m1V ?_
  | ((with_reducible refine' s_split hC ?sb ?sz ?_); (case sb => rfl); (case sz => walk_at "sl"); clear hC; intro sp H hC)
  | with_reducible refine s_isStrS ?_
  | with_reducible refine s_isStrI ?_
  | ((with_reducible refine' s_slS ?sz ?_); (case sz => walk_at "sl"))
  | ((with_reducible refine' s_slT1 hC ?sm ?sz ?_); (case sm => walk_at "sqt"); (case sz => walk_at "len"); clear hC; intro sp H hC)
  | ((with_reducible refine' s_mulS ?s1 ?s2 ?s3 ?s4 ?_); (case s1 => decide); (case s2 => decide); (case s3 => decide); (case s4 => decide))
  | ((with_reducible refine' s_addSS ?s1 ?s2 ?_); (case s1 => walk_at "sl"); (case s2 => walk_at "sl"))
  | ((with_reducible refine' s_lenL ?sm ?_); (case sm => walk_at "get"))
  | ((with_reducible refine' s_lenSS ?s1 ?_); (case s1 => walk_at "sl"))
  | with_reducible refine s_anyS ?_
  | ((with_reducible refine' s_anyV hC ?sp ?sm ?_); (case sp => walk_at "pick"); (case sm => walk_at "mem"); clear hC; intro tb H hC)
  | ((with_reducible refine' s_lam hC ?sp ?sm ?_); (case sp => walk_at "pick"); (case sm => walk_at "mem"); clear hC; intro tb H hC; try dsimp only)
  | ((with_reducible refine' s_lamV hC ?sp ?sm ?_); (case sp => walk_at "pick"); (case sm => walk_at "mem"); clear hC; intro lf lc tb H hC))
set_option hygiene false in
local macro_rules | `(tactic| walk_at "st") => `(tactic| first | walk_at "st0" | walk_at "st1" | walk_at "st2" | walk_at "stc" | walk_at "st3" | walk_at "st4")
set_option hygiene false in
local macro_rules | `(tactic| walk_at "go") => `(tactic| repeat walk_at "st")
set_option hygiene false in
local macro_rules | `(tactic| walk_at "start") => `(tactic| simp only [L2.start, List.length_cons, List.length_nil, List.map_cons, List.map_nil, List.cons_append, List.nil_append, List.replicate, Nat.reduceAdd, Nat.reduceSub, List.range, List.range.loop, List.getElem?_cons_zero, List.getElem?_cons_succ])
set_option hygiene false in
local macro_rules | `(tactic| walk_at "perm2") => `(tactic| first | exact Perm2.nil | (apply Perm2.cons; (walk_at "pick"); walk_at "perm2"))
set_option hygiene false in
local macro_rules | `(tactic| walk_at "lay") => `(tactic| (apply Lay.perm2 hC.lay; walk_at "perm2"))
set_option hygiene false in
local macro_rules | `(tactic| walk_at "sp") => `(tactic| first | refine s_iteDT (by first | assumption | omega) ?_ | refine s_iteDF (by first | assumption | omega) ?_ | refine s_iteNDT (by first | assumption | omega) ?_ | refine s_iteNDF (by first | assumption | omega) ?_ | refine s_iteD (fun c => ?_) (fun c => ?_) | refine s_iteND (fun c => ?_) (fun c => ?_) | refine s_iteB (fun c => ?_) (fun c => ?_) | refine s_iteNB (fun c => ?_) (fun c => ?_))
set_option hygiene false in
local macro_rules | `(tactic| walk_at "all") => `(tactic| ((walk_at "go"); (try ((walk_at "sp") <;> walk_at "all"))))
set_option hygiene false in
local macro_rules | `(tactic| walk_at "tds") => `(tactic| first | exact TDs.nil | exact hC.dats (by walk_at "mem") | exact TDs.mono hC.sb (by assumption) | (apply TDs.cons; (walk_at "td"); walk_at "tds") | (apply TDs.snoc; (walk_at "tds"); walk_at "td") | (apply TDs.append; (walk_at "tds"); walk_at "tds"))
set_option hygiene false in
local macro_rules | `(tactic| walk_at "td") => `(tactic| first | exact TD.non | exact TD.int _ | exact TD.str _ | exact TD.bl _ | exact hC.dat (by walk_at "mem") | (apply TD.tupR; (walk_at "tds"); walk_at "sqt"))
set_option hygiene false in
local macro_rules | `(tactic| walk_at "dsl") => `(tactic| (try dsimp only [List.nil_append, List.cons_append] at hC))
set_option hygiene false in
local macro_rules | `(tactic| walk_at "subs") => `(tactic| first | with_reducible exact Subs.nil | ((with_reducible apply Subs.cons); (walk_at "mem"); walk_at "subs"))
set_option hygiene false in
local macro_rules | `(tactic| walk_at "sel") => `(tactic| first | with_reducible exact Sel.refl | ((with_reducible apply Sel.cons); (walk_at "pick"); walk_at "sel") | ((with_reducible apply Sel.skip); walk_at "sel"))
set_option hygiene false in
local macro_rules | `(tactic| walk_at "lay2") => `(tactic| first | exact hC.lay | ((try simp only [List.nil_append, List.cons_append]); (refine Sel.lay ?_ hC.lay); walk_at "sel"))
set_option hygiene false in
local macro_rules | `(tactic| walk_at "ctx") => `(tactic| ((refine' Ctx.sub hC ?cly ?csu); (case cly => walk_at "lay2"); (case csu => walk_at "subs")))
set_option hygiene false in
local macro_rules | `(tactic| walk_at "sel") => `(tactic| first | with_reducible exact Sel.refl | ((with_reducible apply Sel.cons); (walk_at "pick"); walk_at "sel") | ((with_reducible apply Sel.skip); walk_at "sel"))
set_option hygiene false in
local macro_rules | `(tactic| walk_at "lay2") => `(tactic| first | exact hC.lay | ((try simp only [List.nil_append, List.cons_append]); (refine Sel.lay ?_ hC.lay); walk_at "sel"))
set_option hygiene false in
local macro_rules | `(tactic| walk_at "tdm") => `(tactic| first | exact hC.dats (by walk_at "mem") | exact TDs.nil)
set_option hygiene false in
local macro_rules | `(tactic| walk_at "stc") => `(tactic| first
  | ((with_reducible refine' c_check_ok hC ?sp ?sm ?sh ?_); (case sp => walk_at "pick"); (case sm => walk_at "mem"); (case sh => first | assumption | decide +kernel); clear hC; intro tb H hC)
  | ((with_reducible refine' c_check_bad hC ?sp ?sm ?sz ?sh ?_); (case sp => walk_at "pick"); (case sm => walk_at "mem"); (case sh => assumption); (case sz => walk_at "sl"); clear hC; intro tb H hC)
  | ((with_reducible refine' c_check_int hC ?sp ?sm ?_); (case sp => walk_at "pick"); (case sm => walk_at "mem"); clear hC; intro tb H hC)
  | ((with_reducible refine' c_init_ok hC ?sp ?sm ?sh ?_); (case sp => walk_at "perm2"); (case sm => walk_at "mem"); (case sh => first | assumption | decide +kernel); clear hC; intro fdx fpb fpa fvb fva tb H hC; refine ⟨rfl, ?_⟩)
  | ((with_reducible refine' c_init_bad hC ?sp ?sm ?sz ?sh ?_); (case sp => walk_at "perm2"); (case sm => walk_at "mem"); (case sh => first | assumption | decide +kernel); (case sz => walk_at "sl"); clear hC; intro tb H hC)
  | ((with_reducible refine' c_shown hC ?sp ?s1 ?s2 ?_); (case sp => walk_at "perm2"); (case s1 => walk_at "tdm"); (case s2 => walk_at "tdm"); clear hC; intro tp H hC)
  | ((with_reducible refine' c_keep hC ?sp ?s1 ?s2 ?sz ?_); (case sp => walk_at "perm2"); (case s1 => walk_at "tdm"); (case s2 => walk_at "tdm"); (case sz => omega); clear hC; intro fdx fpb fpa fvb fva H hC)
  | ((with_reducible refine' c_put_ok hC ?sp ?sm ?s1 ?s2 ?s3 ?s4 ?sz ?s5 ?_); (case sp => walk_at "perm2"); (case sm => walk_at "mem"); (case s1 => walk_at "tdm"); (case s2 => walk_at "tdm"); (case s3 => assumption); (case s4 => assumption); (case sz => omega); (case s5 => assumption); clear hC; intro fdx fpb fpa fvb fva tb H hC)
  | ((with_reducible refine' c_put_bad hC ?sp ?sm ?s1 ?s2 ?s3 ?s4 ?sz ?s5 ?_); (case sp => walk_at "perm2"); (case sm => walk_at "mem"); (case s1 => walk_at "tdm"); (case s2 => walk_at "tdm"); (case s3 => assumption); (case s4 => assumption); (case sz => omega); (case s5 => assumption); clear hC; intro tb H hC)
  | ((with_reducible refine' c_drop hC ?sp ?s1 ?s2 ?s3 ?sz ?_); (case sp => walk_at "perm2"); (case s1 => walk_at "tdm"); (case s2 => walk_at "tdm"); (case s3 => assumption); (case sz => omega); clear hC; intro fg fdx fpb fpa fvb fva H hg hC)
  | ((with_reducible refine' c_go_ok hC ?sp ?s1 ?s2 ?s3 ?s4 ?_); (case sp => walk_at "perm2"); (case s1 => walk_at "tdm"); (case s2 => walk_at "tdm"); (case s3 => first | assumption | decide +kernel); (case s4 => (constructor <;> omega)); clear hC; intro fdx fpb fpa fvb fva H hC)
  | ((with_reducible refine' c_go_bad hC ?sp ?s1 ?s2 ?s3 ?s4 ?_); (case sp => walk_at "perm2"); (case s1 => walk_at "tdm"); (case s2 => walk_at "tdm"); (case s3 => first | assumption | decide +kernel); (case s4 => first | omega | decide +kernel))
  | ((with_reducible refine' c_sel_ok hC ?sp ?s1 ?s2 ?s3 ?s4 ?_); (case sp => walk_at "perm2"); (case s1 => walk_at "tdm"); (case s2 => walk_at "tdm"); (case s3 => first | assumption | decide +kernel); (case s4 => (constructor <;> omega)); clear hC; intro fdx fpb fpa fvb fva H hC)
  | ((with_reducible refine' c_sel_bad hC ?sp ?s1 ?s2 ?s3 ?s4 ?s5 ?_); (case sp => walk_at "perm2"); (case s1 => walk_at "tdm"); (case s2 => walk_at "tdm"); (case s3 => first | assumption | decide +kernel); (case s4 => omega); (case s5 => first | omega | decide +kernel))
  | ((with_reducible refine' c_chosen hC ?sp ?s1 ?s2 ?s3 ?_); (case sp => walk_at "perm2"); (case s1 => walk_at "tdm"); (case s2 => walk_at "tdm"); (case s3 => assumption); clear hC; intro H hC)
  | ((with_reducible refine' c_dice hC ?_); clear hC; intro dd di dj dl H hC)
  | ((with_reducible refine' c_roll hC ?sp ?s0 ?s1 ?_); (case sp => walk_at "pick"); (case s0 => omega); (case s1 => omega); clear hC; intro rr di dj dl H hr0 hr1 hC))
set_option hygiene false in
local macro_rules | `(tactic| walk_at "tdx") => `(tactic| first | walk_at "tdm" | exact tds_last50 (tds_row (by walk_at "tdm") (by walk_at "sqt")) | exact tds_row (by walk_at "tdm") (by walk_at "sqt"))
set_option hygiene false in
local macro_rules | `(tactic| walk_at "rok") => `(tactic| first | assumption | exact Rok.nil | exact (Rok.snoc (by assumption) (by assumption)).last50 | exact Rok.snoc (by assumption) (by assumption))
set_option hygiene false in
local macro_rules | `(tactic| walk_at "rlen") => `(tactic| first | omega | exact Nat.le_trans (last50_len _) (by omega) | (dsimp only [List.length_nil]; omega) | (rw [List.length_append, List.length_singleton]; omega))
set_option hygiene false in
local macro_rules | `(tactic| walk_at "li") => `(tactic| ((refine' LI.of ?liy ?lit1 ?lit2 ?lit3 ?lit4 ?liq (hC.tri (by walk_at "mem")) (hC.tab (by walk_at "mem")) ?lio ?lirb ?lira ?lin1 ?lin2); (case liy => (dsimp only [lawL]; walk_at "lay2")); (case lit1 => ((try dsimp only); walk_at "tdx")); (case lit2 => ((try dsimp only); walk_at "tdx")); (case lit3 => ((try dsimp only); walk_at "tdx")); (case lit4 => ((try dsimp only); walk_at "tdx")); (case liq => ((try dsimp only); walk_at "sqt")); (case lio => assumption); (case lirb => ((try dsimp only); walk_at "rok")); (case lira => ((try dsimp only); walk_at "rok")); (case lin1 => ((try dsimp only); walk_at "rlen")); (case lin2 => ((try dsimp only); walk_at "rlen"))))
section
variable {K : PySem.W.Frag} {mg : Str → Option Value} {a : Adr} {vs : List V} {H : Hp} {Q : VK} {E : XK}
theorem pure_check_field (T : Txt K mg a) (h : sp_check_field K a vs H Q E) : t_check_field K a E { nx := fun _ H' => Q .non H', rt := Q } (L2.start N_check_field vs) H := by
  obtain ⟨_, x, tb, F, rfl, y, ht, hx, k⟩ := h
  have hC := (Ctx.start (K := K) y).add (i := .tri tb) ht
  unfold t_check_field
  walk_at "start"
  rcases hx with ⟨i, rfl⟩ | ⟨s, rfl, hz⟩
  · walk_at "go"
    refine (k _ _ hC.sb (hC.tri (by walk_at "mem")) hC.lay).2 ?_
    rintro ⟨_, e, _⟩
    cases e
  · walk_at "go"
    refine s_iteD (fun c => ?_) (fun c => ?_)
    · walk_at "go"
      refine (k _ _ hC.sb (hC.tri (by walk_at "mem")) hC.lay).2 ?_
      rintro ⟨_, e, q⟩
      cases e
      have := q.1
      omega
    · walk_at "go"
      refine s_iteB (fun c2 => ?_) (fun c2 => ?_)
      · walk_at "go"
        refine (k _ _ hC.sb (hC.tri (by walk_at "mem")) hC.lay).2 ?_
        rintro ⟨_, e, q⟩
        cases e
        obtain ⟨z, hz, hn⟩ := List.any_eq_true.mp c2
        have := q.2 z hz
        rw [decide_eq_true this] at hn
        cases hn
      · walk_at "go"
        refine (k _ _ hC.sb (hC.tri (by walk_at "mem")) hC.lay).1 ⟨s, rfl, by omega, fun z hz => ?_⟩
        have := List.any_eq_false.mp c2 z hz
        simpa using this
theorem pure_Field__init (T : Txt K mg a) (h : sp_Field__init K a vs H Q E) : t_Field__init K a E { nx := fun _ H' => Q .non H', rt := Q } (L2.start N_Field__init vs) H := by
  obtain ⟨_, x, dx, s, tb, F, rfl, y, ht, hz, k1, k2⟩ := h
  have hC := (Ctx.start (K := K) y).add (i := .tri tb) ht
  unfold t_Field__init
  walk_at "start"
  by_cases hs : okS s
  · walk_at "go"
    apply k1 hs _ _ _ hC.sb (hC.tri (by walk_at "mem")) (HRep.mk .nil .nil)
    walk_at "lay"
  · walk_at "go"
    refine k2 hs _ _ hC.sb (hC.tri (by walk_at "mem")) ?_
    walk_at "lay2"
theorem pure_Field_shown (T : Txt K mg a) (h : sp_Field_shown K a vs H Q E) : t_Field_shown K a E { nx := fun _ H' => Q .non H', rt := Q } (L2.start N_Field_shown vs) H := by
  obtain ⟨_, ph, g, O, F, rfl, R, y, k⟩ := h
  cases R with
  | mk hb ha =>
    have hC := Ctx.start (K := K) y
    walk_at "dsl"
    unfold t_Field_shown
    walk_at "start"
    walk_at "go"
    exact k _ _ hC.sb hC.lay (hC.tup List.mem_cons_self)
theorem pure_Field_keep (T : Txt K mg a) (h : sp_Field_keep K a vs H Q E) : t_Field_keep K a E { nx := fun _ H' => Q .non H', rt := Q } (L2.start N_Field_keep vs) H := by
  obtain ⟨_, ph, g, O, F, rfl, R, y, hz, k⟩ := h
  obtain ⟨t, x, z, bk, ah, sg⟩ := g
  cases R with
  | mk hb ha =>
    have hl := TDs.length hb
    rw [List.length_map] at hl
    dsimp only at hb ha y hz k hl
    have hC := Ctx.start (K := K) y
    walk_at "dsl"
    unfold t_Field_keep
    walk_at "start"
    walk_at "go"
    apply k _ _ hC.sb (HRep.mk (tds_last50 (tds_row (TDs.mono hC.sb hb) (hC.tup List.mem_cons_self))) .nil)
    dsimp only [keepG, FS.row]
    walk_at "lay2"
theorem pure_Field_undo (T : Txt K mg a) (h : sp_Field_undo K a vs H Q E) : t_Field_undo K a E { nx := fun _ H' => Q .non H', rt := Q } (L2.start N_Field_undo vs) H := by
  obtain ⟨_, ph, g, O, F, rfl, R, y, hz, hr, k1, k2⟩ := h
  obtain ⟨t, x, z, bk, ah, sg⟩ := g
  dsimp only at hz hr k1 k2
  cases R with
  | @mk dx pb pa vb va hb ha =>
    have hC := Ctx.start (K := K) y
    have hl := TDs.length ha
    rw [List.length_map] at hl
    dsimp only at hb ha hC hl
    walk_at "dsl"
    unfold t_Field_undo
    walk_at "start"
    walk_at "go"
    refine s_eqE (hC.get (by walk_at "mem")) (hC.get (by walk_at "mem")) (TDs.mono hC.sb hb) hr.sh ?_
    rcases snoc_or bk with rfl | ⟨bs, r, rfl⟩
    · walk_at "go"
      apply k1 rfl _ hC.sb
      walk_at "lay2"
    · obtain ⟨us, v, rfl, q1, q2⟩ := TDs.unsnoc (ds := bs.map rowD) (d := rowD r) (by rw [List.map_append] at hb; exact hb)
      obtain ⟨p, rfl, q3⟩ := row_inv q2
      have hC := hC.add (i := .tup p _) (hC.sb.sqt q3)
      rw [show (List.map rowD (bs ++ [r])).isEmpty = false from by simp]
      walk_at "go"
      apply k2 bs r rfl _ _ hC.sb (HRep.mk (TDs.mono hC.sb q1) (tds_row (TDs.mono hC.sb ha) (hC.tup (by walk_at "mem"))))
      walk_at "lay2"
theorem pure_Field_redo (T : Txt K mg a) (h : sp_Field_redo K a vs H Q E) : t_Field_redo K a E { nx := fun _ H' => Q .non H', rt := Q } (L2.start N_Field_redo vs) H := by
  obtain ⟨_, ph, g, O, F, rfl, R, y, hz, hr, k1, k2⟩ := h
  obtain ⟨t, x, z, bk, ah, sg⟩ := g
  dsimp only at hz hr k1 k2
  cases R with
  | @mk dx pb pa vb va hb ha =>
    have hC := Ctx.start (K := K) y
    have hl := TDs.length hb
    rw [List.length_map] at hl
    dsimp only at hb ha hC hl
    walk_at "dsl"
    unfold t_Field_redo
    walk_at "start"
    walk_at "go"
    refine s_eqE (hC.get (by walk_at "mem")) (hC.get (by walk_at "mem")) (TDs.mono hC.sb ha) hr.sh ?_
    rcases snoc_or ah with rfl | ⟨bs, r, rfl⟩
    · walk_at "go"
      apply k1 rfl _ hC.sb
      walk_at "lay2"
    · obtain ⟨us, v, rfl, q1, q2⟩ := TDs.unsnoc (ds := bs.map rowD) (d := rowD r) (by rw [List.map_append] at ha; exact ha)
      obtain ⟨p, rfl, q3⟩ := row_inv q2
      have hC := hC.add (i := .tup p _) (hC.sb.sqt q3)
      rw [show (List.map rowD (bs ++ [r])).isEmpty = false from by simp]
      walk_at "go"
      apply k2 bs r rfl _ _ hC.sb (HRep.mk (tds_row (TDs.mono hC.sb hb) (hC.tup (by walk_at "mem"))) (TDs.mono hC.sb q1))
      walk_at "lay2"
end
section
variable {K : PySem.W.Frag} {mg : Str → Option Value} {a : Adr} {vs : List V} {H : Hp} {Q : VK} {E : XK}
theorem pure_law_roll (T : Txt K mg a) (h : sp_law_roll K a vs H Q E) : t_law_roll K a E { nx := fun _ H' => Q .non H', rt := Q } (L2.start N_law_roll vs) H := by
  obtain ⟨_, d, m, i, j, l, F, rfl, h1, m0, m1, k⟩ := h
  have hC := Ctx.start (K := K) h1
  unfold t_law_roll
  walk_at "start"
  walk_at "all"
  all_goals first
    | exact k _ _ _ _ _ (Int.emod_nonneg _ (by omega)) (Int.emod_lt_of_pos _ m0) hC.sb hC.lay
theorem pure_law_dice (T : Txt K mg a) (h : sp_law_dice K a vs H Q E) : t_law_dice K a E { nx := fun _ H' => Q .non H', rt := Q } (L2.start N_law_dice vs) H := by
  obtain ⟨_, c0, L, rfl, h1, k⟩ := h
  have hC := Ctx.start (K := K) h1
  unfold t_law_dice
  walk_at "start"
  walk_at "all"
  all_goals first
    | exact k _ _ _ _ _ hC.sb hC.lay
    | trace_state
theorem DL.snoc {ds : List (Addr × Int × Int × Int)} {p : Addr} {i j l : Int} {x : Addr × HO} {L F : List (Addr × HO)} : ((p, HO.lst [.int i, .int j, .int l]) :: (x :: (F ++ (DL ds ++ L)))).Perm (x :: (F ++ (DL (ds ++ [(p, i, j, l)]) ++ L))) := by
  refine (List.Perm.swap _ _ _).trans (List.Perm.cons _ ?_)
  unfold DL
  rw [List.map_append, List.append_assoc]
  refine List.Perm.trans (List.perm_middle (l₁ := F)).symm ?_
  exact List.Perm.append_left F List.perm_middle.symm
theorem ints_cut {ns : List Int} {m : Int} (h0 : 0 ≤ m) (h1 : m ≤ 1000) : ∃ ms : List Int, cutV (ns.map V.int) none (some m) = ms.map V.int ∧ ms.length ≤ 1000 := by
  unfold cutV
  rw [← List.map_drop, ← List.map_take]
  refine ⟨_, rfl, ?_⟩
  rw [List.length_take]
  refine Nat.le_trans (Nat.min_le_left _ _) ?_
  obtain ⟨k, rfl⟩ := Int.eq_ofNat_of_zero_le h0
  show HT.sIx _ _ (some (k : Int)) - _ ≤ 1000
  rw [HT.sIx_nat]
  omega
theorem ints_dats (K : PySem.W.Frag) (H : Hp) : ∀ ns : List Int, TDs K H (ns.map V.int) (ns.map PyData.int)
  | [] => .nil
  | n :: r => .cons (.int n) (ints_dats K H r)
theorem ints_sh {n : Nat} : ∀ ns : List Int, ShL n (ns.map PyData.int)
  | [] => ShL.nil
  | i :: r => ShL.cons (Sh.int i) (ints_sh r)
theorem rounds_rest {B : Hp} {a : Adr} {v0 v1 : Option V} {q : Addr} {ms : List Int} {L F : List (Addr × HO)} (hC : Ctx K B H ((q, .lst (ms.map V.int)) :: (F ++ L)) []) (hm : ms.length ≤ 1000)
    (k : ∀ p (ds : List (Addr × Int × Int × Int)) H', Stb B H' → Lay H' ((p, .lst (ds.map fun d => V.ref d.1)) :: (DL ds ++ L)) → Q (.ref p) H') :
    kLc (gName 3) tYes (tCall (sp_law_dice K a) [] E0 (tCons (tVar 3) tNil)) [3] [v0, v1, some (.ref q), none] Q (Itl K q) H := by
  refine lc_lst (xs := ms.map V.int) hC (fun D i H1 => ∃ ds : List (Addr × Int × Int × Int), ds.length = i ∧ Ctx K B H1 ((D, .lst (ds.map fun d => V.ref d.1)) :: ((q, .lst (ms.map V.int)) :: (F ++ (DL ds ++ L)))) [])
    (fun D H1 hC => ⟨[], rfl, hC⟩) (fun i D H1 hi ⟨ds, e, hC⟩ => hC.get (by walk_at "mem")) ?_ ?_
  · rintro i x D H hx ⟨ds, e, hC⟩
    have hlt := (List.getElem?_eq_some_iff.mp hx).1
    rw [List.length_map] at hlt
    rw [List.getElem?_map] at hx
    obtain ⟨n, hn, rfl⟩ := Option.map_eq_some_iff.mp hx
    simp only [wipe, List.set_cons_zero, List.set_cons_succ]
    walk_at "go"
    refine ⟨rfl, ?_⟩
    walk_at "go"
    refine s_app hC (acc := ds.map fun d => V.ref d.1) (hC.get (by walk_at "mem")) (by rw [List.length_map]; omega) (.there .here) (fun H2 hC => ?_)
    refine ⟨ds ++ [(dd, di, dj, dl)], by rw [List.length_append, e]; rfl, ?_⟩
    rw [List.map_append]
    refine hC.perm ?_
    refine (List.Perm.swap _ _ _).trans (List.Perm.cons _ ?_)
    exact DL.snoc
  · rintro D H ⟨ds, e, hC⟩
    refine k D ds H hC.sb ?_
    have y := hC.lay.perm (List.Perm.swap _ _ _)
    have y := y.tail
    have z : ((D, HO.lst (ds.map fun d => V.ref d.1)) :: (F ++ (DL ds ++ L))).Perm (F ++ ((D, HO.lst (ds.map fun d => V.ref d.1)) :: (DL ds ++ L))) := List.perm_middle.symm
    have y := y.perm z
    exact ⟨(List.nodup_append.mp (by rw [← List.map_append]; exact y.nd)).2.1, fun p hp => y.at_ p (List.mem_append_right _ hp)⟩
theorem pure_law_rounds (T : Txt K mg a) (h : sp_law_rounds K a vs H Q E) : t_law_rounds K a E { nx := fun _ H' => Q .non H', rt := Q } (L2.start N_law_rounds vs) H := by
  obtain ⟨_, s, m, ns, L, rfl, hs, h1, m0, m1, k⟩ := h
  have hC := Ctx.start (K := K) h1
  unfold t_law_rounds
  walk_at "start"
  walk_at "go"
  obtain ⟨ms, e, hm⟩ := ints_cut (ns := ns) m0 m1
  rw [e] at hC
  refine s_eqD (Dp.lst (SqL.of (hC.get (by walk_at "mem"))) (ints_dats K _ ms).dp) (Dp.lst (SqL.of (hC.get (by walk_at "mem"))) .nil) ((ints_sh (n := 0) ms).list.shaped (by decide)) ((ShL.nil (n := 0)).list.shaped (by decide)) ?_
  walk_at "go"
  refine s_iteB (fun c => ?_) (fun c => ?_)
  · walk_at "go"
    exact rounds_rest (ms := [0]) (F := [_, _]) hC (by decide) k
  · walk_at "go"
    exact rounds_rest (ms := ms) (F := [_]) (hC.perm (List.Perm.swap _ _ _)) hm k
end
section
variable {K : PySem.W.Frag} {mg : Str → Option Value} {a : Adr} {vs : List V} {H : Hp} {Q : VK} {E : XK}
theorem pure_Field_put (T : Txt K mg a) (h : sp_Field_put K a vs H Q E) : t_Field_put K a E { nx := fun _ H' => Q .non H', rt := Q } (L2.start N_Field_put vs) H := by
  obtain ⟨_, ph, w, g, tb, O, F, rfl, R, y, ht, hg, hw, hz, k1, k2⟩ := h
  obtain ⟨t, x, z, bk, ah, sg⟩ := g
  cases R with
  | @mk dx pb pa vb va hb ha =>
    dsimp only at hg hz k1 k2 hb ha y
    have hg1 := hg.1
    have hw1 := hw.1
    have hC := (((Ctx.start (K := K) y).add (i := .tri tb) ht).add (i := .dats vb _) hb).add (i := .dats va _) ha
    walk_at "dsl"
    unfold t_Field_put
    walk_at "start"
    dsimp only [putG, FS.row, FS.st, FS.en, freshT] at k1 k2
    by_cases hf : okS (cutS t none (some (mnI x z)) ++ w ++ cutS t (some (mxI x z)) none)
    · have k1 := k1 hf
      walk_at "all"
      all_goals (try rw [decide_eq_true (show (w.length : Int) = 1 by assumption)] at k1)
      all_goals (try rw [decide_eq_false (show ¬ (w.length : Int) = 1 by assumption)] at k1)
      all_goals first
        | (rw [if_pos (show goesOn ⟨t, x, z, bk, ah, _⟩ w from ⟨by assumption, by assumption, by assumption, by assumption⟩)] at k1
           apply k1 _ _ _ hC.sb (hC.tri (by walk_at "mem")) (HRep.mk (by walk_at "tdm") .nil)
           walk_at "lay2"
           done)
        | (rw [if_neg (show ¬ goesOn ⟨t, x, z, bk, ah, _⟩ w from fun q => by
             obtain ⟨q1, q2, q3, q4⟩ := q
             dsimp only [FS.st, FS.en] at q1 q4
             simp_all)] at k1
           apply k1 _ _ _ hC.sb (hC.tri (by walk_at "mem")) (HRep.mk (by walk_at "tdm") .nil)
           walk_at "lay2"
           done)
    · walk_at "go"
      refine k2 hf _ _ hC.sb (hC.tri (by walk_at "mem")) ?_
      walk_at "lay2"
theorem pure_Field_drop (T : Txt K mg a) (h : sp_Field_drop K a vs H Q E) : t_Field_drop K a E { nx := fun _ H' => Q .non H', rt := Q } (L2.start N_Field_drop vs) H := by
  obtain ⟨_, ph, b, g, O, F, rfl, R, y, hg, hz, k1⟩ := h
  obtain ⟨t, x, z, bk, ah, sg⟩ := g
  cases R with
  | @mk dx pb pa vb va hb ha =>
    dsimp only at hg hz k1 hb ha y
    have hg1 := hg.1
    have hC := ((Ctx.start (K := K) y).add (i := .dats vb _) hb).add (i := .dats va _) ha
    walk_at "dsl"
    unfold t_Field_drop
    walk_at "start"
    dsimp only [dropG, dropA, dropB, FS.row, FS.st, FS.en] at k1
    by_cases c1 : mnI x z = mxI x z
    · simp only [if_pos c1] at k1
      cases b <;> simp only [Bool.false_eq_true, reduceIte] at k1 <;> split at k1
      all_goals (walk_at "all")
      all_goals (apply k1 _ _ hC.sb (HRep.mk (by walk_at "tdm") (by walk_at "tdm")))
      all_goals walk_at "lay2"
    simp only [if_neg c1] at k1
    split at k1
    all_goals (walk_at "all")
    all_goals first
      | (apply k1 _ _ hC.sb (HRep.mk (by walk_at "tdm") (by walk_at "tdm"))
         walk_at "lay2"
         done)
      | trace_state
theorem pure_Field_go (T : Txt K mg a) (h : sp_Field_go K a vs H Q E) : t_Field_go K a E { nx := fun _ H' => Q .non H', rt := Q } (L2.start N_Field_go vs) H := by
  obtain ⟨_, ph, q, b, g, O, F, rfl, R, y, hg, k1, k2⟩ := h
  obtain ⟨t, x, z, bk, ah, sg⟩ := g
  cases R with
  | @mk dx pb pa vb va hb ha =>
    dsimp only at hg k1 k2 hb ha y
    have hg1 := hg.1
    have hC := ((Ctx.start (K := K) y).add (i := .dats vb _) hb).add (i := .dats va _) ha
    walk_at "dsl"
    unfold t_Field_go
    walk_at "start"
    dsimp only [goG] at k1
    cases b <;> simp only [Bool.false_eq_true, reduceIte] at k1
    all_goals (walk_at "all")
    all_goals first
      | exact k2 (by omega)
      | (have k1 := k1 (by omega)
         apply k1 _ _ hC.sb (HRep.mk (by walk_at "tdm") (by walk_at "tdm"))
         walk_at "lay2"
         done)
      | trace_state
theorem pure_Field_chosen (T : Txt K mg a) (h : sp_Field_chosen K a vs H Q E) : t_Field_chosen K a E { nx := fun _ H' => Q .non H', rt := Q } (L2.start N_Field_chosen vs) H := by
  obtain ⟨_, ph, g, O, F, rfl, R, y, hg, k1⟩ := h
  obtain ⟨t, x, z, bk, ah, sg⟩ := g
  cases R with
  | @mk dx pb pa vb va hb ha =>
    dsimp only at hg k1 hb ha y
    have hg1 := hg.1
    have hC := ((Ctx.start (K := K) y).add (i := .dats vb _) hb).add (i := .dats va _) ha
    walk_at "dsl"
    unfold t_Field_chosen
    walk_at "start"
    walk_at "go"
    exact k1 _ hC.sb hC.lay
end
section
variable {K : PySem.W.Frag} {mg : Str → Option Value} {a : Adr} {vs : List V} {H : Hp} {Q : VK} {E : XK}
theorem atI_of {xs : List Nat} {i : Int} {j c : Nat} (e : i = (j : Int)) (h : xs[j]? = some c) : atI xs i = some c := by
  rw [e]
  exact atI_nat h
theorem one_ne {c : Nat} : (¬ (⟨#[c]⟩ : Str) = " ") ↔ c ≠ 32 := by
  constructor
  · rintro h rfl
    exact h rfl
  · intro h e
    have h2 : (⟨#[c]⟩ : Str).cps.toList = (" " : Str).cps.toList := by rw [e]
    have h3 : ((" " : Str)).cps.toList = [32] := by decide +kernel
    rw [h3] at h2
    simp at h2
    exact h h2
/-- back to the blank -/
theorem wl_step {t : Str} {p : Nat} {c : Nat} (h : t.cps.toList[p]? = some c) (hc : c ≠ 32) : wl t (p + 1) = wl t p := by
  obtain ⟨hp, e⟩ := List.getElem?_eq_some_iff.mp h
  have e1 : t.cps.toList.take (p + 1) = t.cps.toList.take p ++ [c] := by rw [List.take_add_one, h]; rfl
  unfold wl
  rw [e1, List.reverse_append, List.reverse_singleton, List.singleton_append, List.takeWhile_cons, if_pos (by simpa using hc), List.length_cons]
  omega
theorem wl_stop {t : Str} {p : Nat} {c : Nat} (h : t.cps.toList[p]? = some c) (hc : ¬ c ≠ 32) : wl t (p + 1) = p + 1 := by
  obtain ⟨hp, e⟩ := List.getElem?_eq_some_iff.mp h
  have e1 : t.cps.toList.take (p + 1) = t.cps.toList.take p ++ [c] := by rw [List.take_add_one, h]; rfl
  unfold wl
  rw [e1, List.reverse_append, List.reverse_singleton, List.singleton_append, List.takeWhile_cons, if_neg (by simpa using hc), List.length_nil, Nat.sub_zero]
theorem wl_zero {t : Str} : wl t 0 = 0 := by unfold wl; omega
theorem wr_step {t : Str} {p : Nat} {c : Nat} (h : t.cps.toList[p]? = some c) (hc : c ≠ 32) : wr t p = wr t (p + 1) := by
  obtain ⟨hp, e⟩ := List.getElem?_eq_some_iff.mp h
  have e1 : t.cps.toList.drop p = c :: t.cps.toList.drop (p + 1) := by rw [List.drop_eq_getElem_cons hp, e]
  unfold wr
  rw [e1, List.takeWhile_cons, if_pos (by simpa using hc), List.length_cons]
  omega
theorem wr_stop {t : Str} {p : Nat} {c : Nat} (h : t.cps.toList[p]? = some c) (hc : ¬ c ≠ 32) : wr t p = p := by
  obtain ⟨hp, e⟩ := List.getElem?_eq_some_iff.mp h
  have e1 : t.cps.toList.drop p = c :: t.cps.toList.drop (p + 1) := by rw [List.drop_eq_getElem_cons hp, e]
  unfold wr
  rw [e1, List.takeWhile_cons, if_neg (by simpa using hc), List.length_nil]
  rfl
theorem wr_end {t : Str} {p : Nat} (h : t.length ≤ p) : wr t p = p := by
  have e1 : t.cps.toList.drop p = [] := List.drop_eq_nil_of_le (by rw [Array.length_toList]; exact h)
  unfold wr
  rw [e1]
  rfl
section
variable {A Cb Dc : L2.St → Hp → Prop} {Bt : VK} {B : Hp} {L : List (Addr × HO)} {I : List Im} {ph dx pb pa : Addr} {t : Str} {x z : Int} {sg : Bool} {p : Nat} {v2 v3 : V}
theorem while0_ok (T : Txt K mg a) (hC : Ph.Ctx K B H L I) (m0 : (ph, HO.ins a.c_Field dx [("text", .str t), ("anchor", .int x), ("caret", .int z), ("back_rows", .ref pb), ("ahead_rows", .ref pa), ("sign_last", .bl sg)]) ∈ L) (hg1 : t.length ≤ 200) (hp : p ≤ t.length)
    (k : ∀ H1, Ph.Ctx K B H1 L I → A [some (.ref ph), some (.int p), some (.int (wl t p : Nat)), some (.int p)] H1) :
    (tWhile (tAnd (tTest (tOp rGt (tVar 2) (tC (.int 0)))) (tTest (tOp (rNeU K) (tOp (rIxU K) (tFld K (tVar 0) "text") (tOp rSubU (tVar 2) (tC (.int 1)))) (tC (.str " "))))) (t_Field_select_word_while0 K a E)) ⟨A, Bt, Cb, Dc⟩ [some (.ref ph), some (.int p), some (.int p), some (.int p)] H := by
  refine s_whileN (fun m σ H => m ≤ p ∧ wl t m = wl t p ∧ σ = [some (.ref ph), some (.int p), some (.int m), some (.int p)] ∧ Ph.Ctx K B H L I) p ⟨Nat.le_refl _, rfl, rfl, hC⟩ ?_
  rintro m σ H ⟨hm, e, rfl, hC⟩
  walk_at "go"
  refine s_iteD (fun c => ?_) (fun c => ?_)
  · walk_at "go"
    obtain ⟨c', hc'⟩ : ∃ c', t.cps.toList[m - 1]? = some c' := ⟨_, List.getElem?_eq_getElem (by rw [Array.length_toList]; show m - 1 < t.length; omega)⟩
    refine s_ixS (c := c') ⟨t, _, c', rfl, rfl, Nat.le_trans hg1 (by decide), atI_of (by omega) hc', ?_⟩
    walk_at "go"
    refine s_iteND (fun c2 => ?_) (fun c2 => ?_)
    · refine s_body ?_
      unfold t_Field_select_word_while0
      refine s_aug rfl ?_
      walk_at "go"
      refine ⟨m - 1, by omega, by omega, ?_, ?_, hC⟩
      · rw [← e, ← wl_step hc' (one_ne.mp c2), show m - 1 + 1 = m by omega]
      · rw [show ((m - 1 : Nat) : Int) = (m : Int) - 1 by omega]
    · have e2 := wl_stop hc' (fun h => one_ne.mpr h c2)
      rw [show m - 1 + 1 = m by omega] at e2
      rw [e2] at e
      rw [← e] at k
      exact k _ hC
  · walk_at "go"
    have e2 : m = 0 := by omega
    subst e2
    rw [wl_zero] at e
    rw [← e] at k
    exact k _ hC
theorem while1_ok (T : Txt K mg a) {w : Int} (hC : Ph.Ctx K B H L I) (m0 : (ph, HO.ins a.c_Field dx [("text", .str t), ("anchor", .int x), ("caret", .int z), ("back_rows", .ref pb), ("ahead_rows", .ref pa), ("sign_last", .bl sg)]) ∈ L) (hg1 : t.length ≤ 200) (hp : p ≤ t.length)
    (k : ∀ H1, Ph.Ctx K B H1 L I → A [some (.ref ph), some (.int p), some (.int w), some (.int (wr t p : Nat))] H1) :
    (tWhile (tAnd (tTest (tOp rLt (tVar 3) (tCB (rLenU K) (tCons (tFld K (tVar 0) "text") tNil)))) (tTest (tOp (rNeU K) (tOp (rIxU K) (tFld K (tVar 0) "text") (tVar 3)) (tC (.str " "))))) (t_Field_select_word_while1 K a E)) ⟨A, Bt, Cb, Dc⟩ [some (.ref ph), some (.int p), some (.int w), some (.int p)] H := by
  refine s_whileN (fun m σ H => ∃ j : Nat, j ≤ t.length ∧ m = t.length - j ∧ wr t j = wr t p ∧ σ = [some (.ref ph), some (.int p), some (.int w), some (.int j)] ∧ Ph.Ctx K B H L I) (t.length - p) ⟨p, hp, rfl, rfl, rfl, hC⟩ ?_
  rintro m σ H ⟨j, hj, hm, e, rfl, hC⟩
  walk_at "go"
  refine s_iteD (fun c => ?_) (fun c => ?_)
  · walk_at "go"
    obtain ⟨c', hc'⟩ : ∃ c', t.cps.toList[j]? = some c' := ⟨_, List.getElem?_eq_getElem (by rw [Array.length_toList]; show j < t.length; omega)⟩
    refine s_ixS (c := c') ⟨t, _, c', rfl, rfl, Nat.le_trans hg1 (by decide), atI_of rfl hc', ?_⟩
    walk_at "go"
    refine s_iteND (fun c2 => ?_) (fun c2 => ?_)
    · refine s_body ?_
      unfold t_Field_select_word_while1
      refine s_aug rfl ?_
      walk_at "go"
      exact ⟨t.length - (j + 1), by omega, j + 1, by omega, rfl, by rw [← e, wr_step hc' (one_ne.mp c2)], rfl, hC⟩
    · have e2 := wr_stop hc' (fun h => one_ne.mpr h c2)
      rw [e2] at e
      rw [← e] at k
      exact k _ hC
  · walk_at "go"
    have e2 := wr_end (t := t) (p := j) (by omega)
    rw [e2] at e
    rw [← e] at k
    exact k _ hC
end
theorem pure_Field_select_word (T : Txt K mg a) (h : sp_Field_select_word K a vs H Q E) : t_Field_select_word K a E { nx := fun _ H' => Q .non H', rt := Q } (L2.start N_Field_select_word vs) H := by
  obtain ⟨_, ph, p, g, O, F, rfl, R, y, hg, k1, k2⟩ := h
  obtain ⟨t, x, z, bk, ah, sg⟩ := g
  cases R with
  | @mk dx pb pa vb va hb ha =>
    dsimp only at hg k1 k2 hb ha y
    have hg1 := hg.1
    have hC := ((Ctx.start (K := K) y).add (i := .dats vb _) hb).add (i := .dats va _) ha
    walk_at "dsl"
    unfold t_Field_select_word
    walk_at "start"
    walk_at "all"
    · exact k2 (by omega)
    refine while0_ok T hC (by walk_at "mem") hg1 (by omega) (fun H hC => ?_)
    walk_at "go"
    refine while1_ok T hC (by walk_at "mem") hg1 (by omega) (fun H hC => ?_)
    walk_at "go"
    dsimp only [selG] at k1
    apply k1 (by omega) _ _ hC.sb (HRep.mk (by walk_at "tdm") (by walk_at "tdm"))
    walk_at "lay2"
end
section
variable {K : PySem.W.Frag} {mg : Str → Option Value} {a : Adr} {vs : List V} {H : Hp} {Q : VK} {E : XK}
variable {A Cb Dc : L2.St → Hp → Prop} {Bt : VK} {d ph ps pb2 pa2 : Addr} {F : List (Addr × HO)} {n : Nat} {g : FS} {v0 v2 v8 v9 v15 v16 v17 v18 v19 v20 v21 v22 v23 v24 v25 v26 v27 : Option V}
theorem words_ok : ∀ v, v ∈ [V.str "a", V.str "b", V.str " ", V.str "c", V.str "xy z", V.str "", V.str (repS "~" 50)] → ∃ w, v = .str w ∧ okS w := by
  intro v hv
  simp only [List.mem_cons, List.not_mem_nil, or_false] at hv
  rcases hv with rfl | rfl | rfl | rfl | rfl | rfl | rfl
  all_goals exact ⟨_, rfl, by decide +kernel⟩
theorem okS_fresh {t w : Str} {x y : Int} (ht : okS t) (hw : okS w) (hz : (freshT t x y w).length ≤ 200) : okS (freshT t x y w) := by
  refine ⟨hz, fun c hc => ?_⟩
  unfold freshT at hc
  simp only [Str.cps_append, Array.toList_append, List.mem_append] at hc
  rcases hc with (hc | hc) | hc
  · exact ht.2 c (List.mem_of_mem_drop (List.mem_of_mem_take (by simpa [cutS] using hc)))
  · exact hw.2 c hc
  · exact ht.2 c (List.mem_of_mem_drop (List.mem_of_mem_take (by simpa [cutS] using hc)))
theorem br_put (T : Txt K mg a) (hn : n ≤ 900) (h : LI K a d ph F n g ps pb2 pa2 H) (k : ∀ g' ps' pb2' pa2' σ' H', LI K a d ph F (n + 1) g' ps' pb2' pa2' H' → SL d ph ps' pb2' pa2' g'.sign σ' → A σ' H') :
    t_law_if0 K a E ⟨A, Bt, Cb, Dc⟩ [v0, some (.ref d), v2, some (.ref ph), some (.ref ps), some (.ref pb2), some (.ref pa2), some (.bl g.sign), v8, v9, some (.str g.text), some (.int g.anc), some (.int g.car), some (.int (mnI g.anc g.car)), some (.int (mxI g.anc g.car)), v15, v16, v17, v18, v19, v20, v21, v22, v23, v24, v25, v26, v27] H := by
  obtain ⟨t, x, z, bk, ah, sg⟩ := g
  cases h with
  | @of i j l dx pb pa vb va vb2 va2 tb tb2 y t1 t2 t3 t4 q r s o rb ra n1 n2 =>
    dsimp only [lawL] at y t1 t2 t3 t4 q o rb ra n1 n2
    have ok := o.1
    have o1 := ok.1
    have rg := mn_rng o.2.1 o.2.2
    dsimp only at ok o1 rg
    have l3 := TDs.length t3
    rw [List.length_map] at l3
    have hC := (((((((Ctx.start (K := K) y).add (i := .tri tb) r).add (i := .tab _ tb2) s).add (i := .dats vb _) t1).add (i := .dats va _) t2).add (i := .dats vb2 _) t3).add (i := .dats va2 _) t4).add (i := .tup ps _) q
    unfold t_law_if0
    dsimp only
    walk_at "go"
    refine s_ixOne (hC.get (by walk_at "mem")) (by omega) (by walk_at "len") (fun v hv => ?_)
    obtain ⟨w, rfl, hw⟩ := words_ok v hv
    have hw1 := hw.1
    walk_at "go"
    by_cases hf : okS (freshT t (mnI x z) (mxI x z) w)
    · have hf0 : okS (cutS t none (some (mnI x z)) ++ w ++ cutS t (some (mxI x z)) none) := hf
      have hf1 := hf0.1
      have hrow := row_put (w := w) ok rg.1 rg.2.1 rg.2.2 hf0
      have hd : decide ((200 : Int) < ((cutS t none (some (mnI x z)) ++ w ++ cutS t (some (mxI x z)) none).length : Int)) = false := decide_eq_false (by omega)
      walk_at "go"
      rw [hd, bne_self_eq_false]
      dsimp only [freshT] at hC
      by_cases hg : goesOn ⟨t, x, z, bk, ah, sg⟩ w
      · rw [if_pos hg] at hC
        obtain ⟨h1, h2, h3, h4⟩ := hg
        dsimp only [FS.st, FS.en] at h1 h4
        subst h1
        rw [decide_eq_true h2] at hC
        walk_at "all"
        refine k ⟨cutS t none (some (mnI x z)) ++ w ++ cutS t (some (mxI x z)) none, mnI x z + w.length, mnI x z + w.length, bk, [], true⟩ _ _ _ _ _ ?_ SL.mk
        walk_at "li"
      · rw [if_neg hg] at hC
        by_cases h2 : (w.length : Int) = 1
        · rw [decide_eq_true h2] at hC
          walk_at "all"
          all_goals first
            | exact absurd ⟨by assumption, by assumption, by assumption, by assumption⟩ hg
            | (refine k ⟨cutS t none (some (mnI x z)) ++ w ++ cutS t (some (mxI x z)) none, mnI x z + w.length, mnI x z + w.length, last50 (bk ++ [⟨t, x, z⟩]), [], true⟩ _ _ _ _ _ ?_ SL.mk
               walk_at "li"
               done)
            | trace_state
        · rw [decide_eq_false h2] at hC
          walk_at "all"
          all_goals first
            | (refine k ⟨cutS t none (some (mnI x z)) ++ w ++ cutS t (some (mxI x z)) none, mnI x z + w.length, mnI x z + w.length, last50 (bk ++ [⟨t, x, z⟩]), [], false⟩ _ _ _ _ _ ?_ SL.mk
               walk_at "li"
               done)
            | trace_state
    · have hd : decide ((200 : Int) < ((cutS t none (some (mnI x z)) ++ w ++ cutS t (some (mxI x z)) none).length : Int)) = true := decide_eq_true (by
        rcases Nat.lt_or_ge 200 (freshT t (mnI x z) (mxI x z) w).length with h | h
        · have h' : 200 < (cutS t none (some (mnI x z)) ++ w ++ cutS t (some (mxI x z)) none).length := h
          omega
        · exact absurd (okS_fresh ok hw h) hf)
      walk_at "go"
      rw [hd, bne_self_eq_false]
      have hd2 := of_decide_eq_true hd
      walk_at "all"
      refine k ⟨t, x, z, bk, ah, sg⟩ _ _ _ _ _ ?_ SL.mk
      walk_at "li"
end
section
variable {K : PySem.W.Frag} {mg : Str → Option Value} {a : Adr} {vs : List V} {H : Hp} {Q : VK} {E : XK}
variable {A Cb Dc : L2.St → Hp → Prop} {Bt : VK} {d ph ps pb2 pa2 : Addr} {F : List (Addr × HO)} {n : Nat} {g : FS} {v0 v2 v8 v9 v15 v16 v17 v18 v19 v20 v21 v22 v23 v24 v25 v26 v27 : Option V}
theorem br_go (T : Txt K mg a) (hn : n ≤ 900) (h : LI K a d ph F n g ps pb2 pa2 H) (k : ∀ g' ps' pb2' pa2' σ' H', LI K a d ph F (n + 1) g' ps' pb2' pa2' H' → SL d ph ps' pb2' pa2' g'.sign σ' → A σ' H') :
    t_law_if2 K a E ⟨A, Bt, Cb, Dc⟩ [v0, some (.ref d), v2, some (.ref ph), some (.ref ps), some (.ref pb2), some (.ref pa2), some (.bl g.sign), v8, v9, some (.str g.text), some (.int g.anc), some (.int g.car), some (.int (mnI g.anc g.car)), some (.int (mxI g.anc g.car)), v15, v16, v17, v18, v19, v20, v21, v22, v23, v24, v25, v26, v27] H := by
  obtain ⟨t, x, z, bk, ah, sg⟩ := g
  cases h with
  | @of i j l dx pb pa vb va vb2 va2 tb tb2 y t1 t2 t3 t4 q r s o rb ra n1 n2 =>
    dsimp only [lawL] at y t1 t2 t3 t4 q o rb ra n1 n2
    have ok := o.1
    have o1 := ok.1
    have rg := mn_rng o.2.1 o.2.2
    have rx := o.2.1
    dsimp only at ok o1 rg rx
    have hC := (((((((Ctx.start (K := K) y).add (i := .tri tb) r).add (i := .tab _ tb2) s).add (i := .dats vb _) t1).add (i := .dats va _) t2).add (i := .dats vb2 _) t3).add (i := .dats va2 _) t4).add (i := .tup ps _) q
    unfold t_law_if2
    dsimp only
    walk_at "go"
    rename_i qq d1 d2 d3 H0 hq0 hq1 H1 H2
    generalize decide (rr = 0) = kp at hC ⊢
    by_cases hq : qq ≤ (t.length : Int)
    · have hd : decide ((t.length : Int) < qq) = false := decide_eq_false (by omega)
      have hrow : rowOk ⟨t, qq, qq⟩ := ⟨ok, ⟨hq0, hq⟩, hq0, hq⟩
      have hrow2 : rowOk ⟨t, x, qq⟩ := ⟨ok, rx, hq0, hq⟩
      cases kp
      · walk_at "go"
        rw [hd, bne_self_eq_false]
        simp only [Bool.false_eq_true, if_false] at hC
        walk_at "all"
        refine k ⟨t, qq, qq, bk, ah, false⟩ _ _ _ _ _ ?_ SL.mk
        walk_at "li"
      · walk_at "go"
        rw [hd, bne_self_eq_false]
        simp only [if_true] at hC
        walk_at "all"
        refine k ⟨t, x, qq, bk, ah, false⟩ _ _ _ _ _ ?_ SL.mk
        walk_at "li"
    · have hd : decide ((t.length : Int) < qq) = true := decide_eq_true (by omega)
      walk_at "go"
      rw [hd, bne_self_eq_false]
      walk_at "all"
      refine k ⟨t, x, z, bk, ah, sg⟩ _ _ _ _ _ ?_ SL.mk
      walk_at "li"
theorem br_sel (T : Txt K mg a) (hn : n ≤ 900) (h : LI K a d ph F n g ps pb2 pa2 H) (k : ∀ g' ps' pb2' pa2' σ' H', LI K a d ph F (n + 1) g' ps' pb2' pa2' H' → SL d ph ps' pb2' pa2' g'.sign σ' → A σ' H') :
    t_law_if3 K a E ⟨A, Bt, Cb, Dc⟩ [v0, some (.ref d), v2, some (.ref ph), some (.ref ps), some (.ref pb2), some (.ref pa2), some (.bl g.sign), v8, v9, some (.str g.text), some (.int g.anc), some (.int g.car), some (.int (mnI g.anc g.car)), some (.int (mxI g.anc g.car)), v15, v16, v17, v18, v19, v20, v21, v22, v23, v24, v25, v26, v27] H := by
  obtain ⟨t, x, z, bk, ah, sg⟩ := g
  cases h with
  | @of i j l dx pb pa vb va vb2 va2 tb tb2 y t1 t2 t3 t4 q r s o rb ra n1 n2 =>
    dsimp only [lawL] at y t1 t2 t3 t4 q o rb ra n1 n2
    have ok := o.1
    have o1 := ok.1
    have rg := mn_rng o.2.1 o.2.2
    have rx := o.2.1
    dsimp only at ok o1 rg rx
    have hC := (((((((Ctx.start (K := K) y).add (i := .tri tb) r).add (i := .tab _ tb2) s).add (i := .dats vb _) t1).add (i := .dats va _) t2).add (i := .dats vb2 _) t3).add (i := .dats va2 _) t4).add (i := .tup ps _) q
    unfold t_law_if3
    dsimp only
    walk_at "go"
    obtain ⟨p, hp⟩ : ∃ p : Nat, rr = (p : Int) := ⟨rr.toNat, by omega⟩
    subst hp
    rw [Int.toNat_natCast] at hC
    have hp : p ≤ t.length := by omega
    obtain ⟨us, xl, e1, e2, e3⟩ := left_ok hp
    obtain ⟨xr, us2, e4, e5, e6⟩ := right_ok hp
    have e7 : ((wl t p : Nat) : Int) = (p : Int) - xl.length := by omega
    have e8 : ((wr t p : Nat) : Int) = (p : Int) + xr.length := by omega
    rw [e1, e4, e7, e8] at hC
    rw [e1]
    have hrow : rowOk ⟨t, (p : Int) - xl.length, (p : Int) + xr.length⟩ := ⟨ok, ⟨by dsimp only; omega, by dsimp only; omega⟩, by dsimp only; omega, by dsimp only; omega⟩
    walk_at "all"
    refine k ⟨t, (p : Int) - xl.length, (p : Int) + xr.length, bk, ah, false⟩ _ _ _ _ _ ?_ SL.mk
    walk_at "li"
end
section
variable {K : PySem.W.Frag} {mg : Str → Option Value} {a : Adr} {vs : List V} {H : Hp} {Q : VK} {E : XK}
variable {A Cb Dc : L2.St → Hp → Prop} {Bt : VK} {d ph ps pb2 pa2 : Addr} {F : List (Addr × HO)} {n : Nat} {g : FS} {v0 v2 v8 v9 v15 v16 v17 v18 v19 v20 v21 v22 v23 v24 v25 v26 v27 : Option V}
theorem br_drop (T : Txt K mg a) (hn : n ≤ 900) {so : Int} (h : LI K a d ph F n g ps pb2 pa2 H) (k : ∀ g' ps' pb2' pa2' σ' H', LI K a d ph F (n + 1) g' ps' pb2' pa2' H' → SL d ph ps' pb2' pa2' g'.sign σ' → A σ' H') :
    t_law_if1 K a E ⟨A, Bt, Cb, Dc⟩ [v0, some (.ref d), v2, some (.ref ph), some (.ref ps), some (.ref pb2), some (.ref pa2), some (.bl g.sign), v8, some (.int so), some (.str g.text), some (.int g.anc), some (.int g.car), some (.int (mnI g.anc g.car)), some (.int (mxI g.anc g.car)), v15, v16, v17, v18, v19, v20, v21, v22, v23, v24, v25, v26, v27] H := by
  obtain ⟨t, x, z, bk, ah, sg⟩ := g
  cases h with
  | @of i j l dx pb pa vb va vb2 va2 tb tb2 y t1 t2 t3 t4 q r s o rb ra n1 n2 =>
    dsimp only [lawL] at y t1 t2 t3 t4 q o rb ra n1 n2
    have ok := o.1
    have o1 := ok.1
    have rg := mn_rng o.2.1 o.2.2
    dsimp only at ok o1 rg
    have l3 := TDs.length t3
    rw [List.length_map] at l3
    have hC := (((((((Ctx.start (K := K) y).add (i := .tri tb) r).add (i := .tab _ tb2) s).add (i := .dats vb _) t1).add (i := .dats va _) t2).add (i := .dats vb2 _) t3).add (i := .dats va2 _) t4).add (i := .tup ps _) q
    unfold t_law_if1
    dsimp only
    walk_at "go"
    generalize decide (so = 6) = bb at hC hg ⊢
    by_cases c1 : mnI x z = mxI x z
    · have c0 : ¬ mnI x z < mxI x z := by omega
      have q1 := mnI_le (i := (t.length : Int)) (j := mxI x z + 1)
      have q2 := mxI_ge (i := 0) (j := mnI x z - 1)
      cases bb <;> simp only [dropG, dropA, dropB, FS.row, if_pos c1, Bool.false_eq_true, reduceIte] at hg <;> split at hg <;> subst hg <;> dsimp only at hC
      · have hrow := row_drop (s := mxI 0 (mnI x z - 1)) (e := mxI x z) ok (by omega) (by omega) (by omega)
        walk_at "all"
        refine' k ⟨_, _, _, _, _, _⟩ _ _ _ _ _ ?lis SL.mk
        case lis => walk_at "li"
      · walk_at "all"
        refine' k ⟨_, _, _, _, _, _⟩ _ _ _ _ _ ?lis SL.mk
        case lis => walk_at "li"
      · have hrow := row_drop (s := mnI x z) (e := mnI t.length (mxI x z + 1)) ok (by omega) (by omega) (by omega)
        walk_at "all"
        refine' k ⟨_, _, _, _, _, _⟩ _ _ _ _ _ ?lis SL.mk
        case lis => walk_at "li"
      · walk_at "all"
        refine' k ⟨_, _, _, _, _, _⟩ _ _ _ _ _ ?lis SL.mk
        case lis => walk_at "li"
    · have c0 : mnI x z < mxI x z := by omega
      simp only [dropG, dropA, dropB, FS.row, if_neg c1, if_pos c0] at hg
      subst hg
      dsimp only at hC
      have hrow := row_drop (s := mnI x z) (e := mxI x z) ok (by omega) (by omega) (by omega)
      walk_at "all"
      refine' k ⟨_, _, _, _, _, _⟩ _ _ _ _ _ ?lis SL.mk
      case lis => walk_at "li"
end
section
variable {K : PySem.W.Frag} {mg : Str → Option Value} {a : Adr} {vs : List V} {H : Hp} {Q : VK} {E : XK}
variable {A Cb Dc : L2.St → Hp → Prop} {Bt : VK} {d ph ps pb2 pa2 : Addr} {F : List (Addr × HO)} {n : Nat} {g : FS} {v0 v2 v8 v9 v10 v11 v12 v13 v14 v15 v16 v17 v18 v19 v20 v21 v22 v23 v24 v25 v26 v27 : Option V}
theorem rows_last {vs : List V} {bs : List Rw} {r : Rw} (h : TDs K H vs ((bs ++ [r]).map rowD)) : ∃ us p, vs = us ++ [.ref p] ∧ TDs K H us (bs.map rowD) ∧ SqT K H p [.str r.text, .int r.anc, .int r.car] := by
  rw [List.map_append] at h
  obtain ⟨us, v, rfl, q1, q2⟩ := TDs.unsnoc (ds := bs.map rowD) (d := rowD r) h
  obtain ⟨p, rfl, q3⟩ := row_inv q2
  exact ⟨us, p, rfl, q1, q3⟩
theorem ne_emp {bs : List Rw} {r : Rw} : (!(List.map rowD (bs ++ [r])).isEmpty) = true := by simp
theorem br_undo (T : Txt K mg a) (hn : n ≤ 900) (h : LI K a d ph F n g ps pb2 pa2 H) (k : ∀ g' ps' pb2' pa2' σ' H', LI K a d ph F (n + 1) g' ps' pb2' pa2' H' → SL d ph ps' pb2' pa2' g'.sign σ' → A σ' H') :
    t_law_if4 K a E ⟨A, Bt, Cb, Dc⟩ [v0, some (.ref d), v2, some (.ref ph), some (.ref ps), some (.ref pb2), some (.ref pa2), some (.bl g.sign), v8, v9, v10, v11, v12, v13, v14, v15, v16, v17, v18, v19, v20, v21, v22, v23, v24, v25, v26, v27] H := by
  obtain ⟨t, x, z, bk, ah, sg⟩ := g
  cases h with
  | @of i j l dx pb pa vb va vb2 va2 tb tb2 y t1 t2 t3 t4 q r s o rb ra n1 n2 =>
    dsimp only [lawL] at y t1 t2 t3 t4 q o rb ra n1 n2
    have l4 := TDs.length t4
    rw [List.length_map] at l4
    rcases snoc_or bk with rfl | ⟨bs, rw0, rfl⟩
    · have hC := (((((((Ctx.start (K := K) y).add (i := .tri tb) r).add (i := .tab _ tb2) s).add (i := .dats vb _) t1).add (i := .dats va _) t2).add (i := .dats vb2 _) t3).add (i := .dats va2 _) t4).add (i := .tup ps _) q
      unfold t_law_if4
      dsimp only
      walk_at "go"
      refine c_undo_no hC (by walk_at "perm2") (by walk_at "tdm") (by walk_at "tdm") (by omega) (fun H hC => ?_)
      walk_at "go"
      refine s_neE (hC.get (by walk_at "mem")) (hC.get (by walk_at "mem")) (by walk_at "tdm") rb.sh ?_
      rw [show (!(List.map rowD ([] : List Rw)).isEmpty) = false from rfl]
      walk_at "go"
      refine s_neE (hC.get (by walk_at "mem")) (hC.get (by walk_at "mem")) (by walk_at "tdm") rb.sh ?_
      rw [show (!(List.map rowD ([] : List Rw)).isEmpty) = false from rfl]
      walk_at "go"
      refine' k ⟨_, _, _, _, _, _⟩ _ _ _ _ _ ?lis SL.mk
      case lis => walk_at "li"
    · obtain ⟨us, p, rfl, t5, q5⟩ := rows_last t3
      have hrow := rb.init.2
      have hrb := rb.init.1
      have hC := (((((((((Ctx.start (K := K) y).add (i := .tri tb) r).add (i := .tab _ tb2) s).add (i := .dats vb _) t1).add (i := .dats va _) t2).add (i := .dats _ _) t3).add (i := .dats va2 _) t4).add (i := .tup ps _) q).add (i := .dats us _) t5).add (i := .tup p _) q5
      unfold t_law_if4
      dsimp only
      walk_at "go"
      refine c_undo_yes hC (by walk_at "perm2") (by walk_at "tdm") (by walk_at "tdm") (by omega) rb (fun fdx fpb fpa fvb fva H hC => ?_)
      walk_at "go"
      refine s_neE (hC.get (by walk_at "mem")) (hC.get (by walk_at "mem")) (by walk_at "tdm") rb.sh ?_
      rw [ne_emp]
      walk_at "go"
      refine s_neE (hC.get (by walk_at "mem")) (hC.get (by walk_at "mem")) (by walk_at "tdm") rb.sh ?_
      rw [ne_emp]
      walk_at "go"
      rw [cutV_init] at hC
      refine k ⟨rw0.text, rw0.anc, rw0.car, bs, ah ++ [⟨t, x, z⟩], false⟩ _ _ _ _ _ ?_ SL.mk
      rw [List.length_append, List.length_singleton] at n1
      walk_at "li"
theorem br_redo (T : Txt K mg a) (hn : n ≤ 900) (h : LI K a d ph F n g ps pb2 pa2 H) (k : ∀ g' ps' pb2' pa2' σ' H', LI K a d ph F (n + 1) g' ps' pb2' pa2' H' → SL d ph ps' pb2' pa2' g'.sign σ' → A σ' H') :
    t_law_else5 K a E ⟨A, Bt, Cb, Dc⟩ [v0, some (.ref d), v2, some (.ref ph), some (.ref ps), some (.ref pb2), some (.ref pa2), some (.bl g.sign), v8, v9, v10, v11, v12, v13, v14, v15, v16, v17, v18, v19, v20, v21, v22, v23, v24, v25, v26, v27] H := by
  obtain ⟨t, x, z, bk, ah, sg⟩ := g
  cases h with
  | @of i j l dx pb pa vb va vb2 va2 tb tb2 y t1 t2 t3 t4 q r s o rb ra n1 n2 =>
    dsimp only [lawL] at y t1 t2 t3 t4 q o rb ra n1 n2
    have l3 := TDs.length t3
    rw [List.length_map] at l3
    rcases snoc_or ah with rfl | ⟨bs, rw0, rfl⟩
    · have hC := (((((((Ctx.start (K := K) y).add (i := .tri tb) r).add (i := .tab _ tb2) s).add (i := .dats vb _) t1).add (i := .dats va _) t2).add (i := .dats vb2 _) t3).add (i := .dats va2 _) t4).add (i := .tup ps _) q
      unfold t_law_else5
      dsimp only
      walk_at "go"
      refine c_redo_no hC (by walk_at "perm2") (by walk_at "tdm") (by walk_at "tdm") (by omega) (fun H hC => ?_)
      walk_at "go"
      refine s_neE (hC.get (by walk_at "mem")) (hC.get (by walk_at "mem")) (by walk_at "tdm") ra.sh ?_
      rw [show (!(List.map rowD ([] : List Rw)).isEmpty) = false from rfl]
      walk_at "go"
      refine s_neE (hC.get (by walk_at "mem")) (hC.get (by walk_at "mem")) (by walk_at "tdm") ra.sh ?_
      rw [show (!(List.map rowD ([] : List Rw)).isEmpty) = false from rfl]
      walk_at "go"
      refine' k ⟨_, _, _, _, _, _⟩ _ _ _ _ _ ?lis SL.mk
      case lis => walk_at "li"
    · obtain ⟨us, p, rfl, t5, q5⟩ := rows_last t4
      have hrow := ra.init.2
      have hra := ra.init.1
      have hC := (((((((((Ctx.start (K := K) y).add (i := .tri tb) r).add (i := .tab _ tb2) s).add (i := .dats vb _) t1).add (i := .dats va _) t2).add (i := .dats _ _) t3).add (i := .dats _ _) t4).add (i := .tup ps _) q).add (i := .dats us _) t5).add (i := .tup p _) q5
      unfold t_law_else5
      dsimp only
      walk_at "go"
      refine c_redo_yes hC (by walk_at "perm2") (by walk_at "tdm") (by walk_at "tdm") (by omega) ra (fun fdx fpb fpa fvb fva H hC => ?_)
      walk_at "go"
      refine s_neE (hC.get (by walk_at "mem")) (hC.get (by walk_at "mem")) (by walk_at "tdm") ra.sh ?_
      rw [ne_emp]
      walk_at "go"
      refine s_neE (hC.get (by walk_at "mem")) (hC.get (by walk_at "mem")) (by walk_at "tdm") ra.sh ?_
      rw [ne_emp]
      walk_at "go"
      rw [cutV_init] at hC
      refine k ⟨rw0.text, rw0.anc, rw0.car, bk ++ [⟨t, x, z⟩], bs, false⟩ _ _ _ _ _ ?_ SL.mk
      rw [List.length_append, List.length_singleton] at n2
      walk_at "li"
end
section
variable {K : PySem.W.Frag} {mg : Str → Option Value} {a : Adr} {vs : List V} {H : Hp} {Q : VK} {E : XK}
variable {A Cb Dc : L2.St → Hp → Prop} {Bt : VK} {d ph ps pb2 pa2 : Addr} {F : List (Addr × HO)} {n : Nat} {g : FS} {σ : L2.St}
theorem tail_ok (T : Txt K mg a) (h : LI K a d ph F n g ps pb2 pa2 H) (hs : SL d ph ps pb2 pa2 g.sign σ) (k : ∀ σ' H', LI K a d ph F n g ps pb2 pa2 H' → SL d ph ps pb2 pa2 g.sign σ' → A σ' H') :
    t_law_tail6 K a E ⟨A, Bt, Cb, Dc⟩ σ H := by
  obtain ⟨t, x, z, bk, ah, sg⟩ := g
  cases hs with
  | mk =>
  cases h with
  | @of i j l dx pb pa vb va vb2 va2 tb tb2 y t1 t2 t3 t4 q r s o rb ra n1 n2 =>
    dsimp only [lawL] at y t1 t2 t3 t4 q o rb ra n1 n2
    have ok := o.1
    have o1 := ok.1
    dsimp only at ok o1
    have hC := (((((((Ctx.start (K := K) y).add (i := .tri tb) r).add (i := .tab _ tb2) s).add (i := .dats vb _) t1).add (i := .dats va _) t2).add (i := .dats vb2 _) t3).add (i := .dats va2 _) t4).add (i := .tup ps _) q
    unfold t_law_tail6
    dsimp only
    walk_at "go"
    refine s_neSame (d := rowD ⟨t, mnI x z, mxI x z⟩) (show TD K _ _ (.tuple _) by walk_at "td") (show TD K _ _ (.tuple _) by walk_at "td") ((sh_row (r := ⟨t, mnI x z, mxI x z⟩) ok).mono (by decide)) ?_
    walk_at "go"
    refine s_neSame (d := .tuple [.int x, .int z]) (by walk_at "td") (by walk_at "td") ⟨rfl, by simp [PyData.depth, PyData.depthAll]⟩ ?_
    walk_at "go"
    refine k _ _ ?_ SL.mk
    walk_at "li"
theorem for7_ok (T : Txt K mg a) (hn : n ≤ 900) (h : LI K a d ph F n g ps pb2 pa2 H) (hs : SL d ph ps pb2 pa2 g.sign σ) (k : ∀ g' ps' pb2' pa2' σ' H', LI K a d ph F (n + 1) g' ps' pb2' pa2' H' → SL d ph ps' pb2' pa2' g'.sign σ' → A σ' H') :
    t_law_for7 K a E ⟨A, Bt, Cb, Dc⟩ σ H := by
  obtain ⟨t, x, z, bk, ah, sg⟩ := g
  cases hs with
  | mk =>
  cases h with
  | @of i j l dx pb pa vb va vb2 va2 tb tb2 y t1 t2 t3 t4 q r s o rb ra n1 n2 =>
    dsimp only [lawL] at y t1 t2 t3 t4 q o rb ra n1 n2
    have hC := (((((((Ctx.start (K := K) y).add (i := .tri tb) r).add (i := .tab _ tb2) s).add (i := .dats vb _) t1).add (i := .dats va _) t2).add (i := .dats vb2 _) t3).add (i := .dats va2 _) t4).add (i := .tup ps _) q
    unfold t_law_for7
    dsimp only
    walk_at "go"
    have h1 : LI K a d ph F n ⟨t, x, z, bk, ah, sg⟩ ps pb2 pa2 H := by walk_at "li"
    have kk : ∀ g' ps' pb2' pa2' σ' H', LI K a d ph F (n + 1) g' ps' pb2' pa2' H' → SL d ph ps' pb2' pa2' g'.sign σ' → t_law_tail6 K a E ⟨A, Bt, Cb, Dc⟩ σ' H' := fun g' ps' pb2' pa2' σ' H' h' s' => tail_ok T h' s' fun σ2 H2 h2 s2 => k _ _ _ _ _ _ h2 s2
    refine s_iteD (fun c1 => ?_) (fun c1 => ?_)
    · exact br_put (E := E) (g := ⟨t, x, z, bk, ah, sg⟩) (A := t_law_tail6 K a E ⟨A, Bt, Cb, Dc⟩) T hn h1 kk
    · walk_at "go"
      refine s_iteD (fun c2 => ?_) (fun c2 => ?_)
      · exact br_drop (E := E) (g := ⟨t, x, z, bk, ah, sg⟩) (A := t_law_tail6 K a E ⟨A, Bt, Cb, Dc⟩) T hn h1 kk
      · walk_at "go"
        refine s_iteD (fun c3 => ?_) (fun c3 => ?_)
        · exact br_go (E := E) (g := ⟨t, x, z, bk, ah, sg⟩) (A := t_law_tail6 K a E ⟨A, Bt, Cb, Dc⟩) T hn h1 kk
        · walk_at "go"
          refine s_iteD (fun c4 => ?_) (fun c4 => ?_)
          · exact br_sel (E := E) (g := ⟨t, x, z, bk, ah, sg⟩) (A := t_law_tail6 K a E ⟨A, Bt, Cb, Dc⟩) T hn h1 kk
          · walk_at "go"
            refine s_iteD (fun c5 => ?_) (fun c5 => ?_)
            · exact br_undo (E := E) (g := ⟨t, x, z, bk, ah, sg⟩) (A := t_law_tail6 K a E ⟨A, Bt, Cb, Dc⟩) T hn h1 kk
            · exact br_redo (E := E) (g := ⟨t, x, z, bk, ah, sg⟩) (A := t_law_tail6 K a E ⟨A, Bt, Cb, Dc⟩) T hn h1 kk
end
section
variable {K : PySem.W.Frag} {mg : Str → Option Value} {a : Adr} {vs : List V} {H : Hp} {Q : VK} {E : XK}
variable {A Cb Dc : L2.St → Hp → Prop} {Bt : VK} {d ph ps pb2 pa2 : Addr} {F : List (Addr × HO)} {n : Nat} {g : FS} {σ : L2.St}
inductive L2I (K : PySem.W.Frag) (a : Adr) (d ph : Addr) (F : List (Addr × HO)) (n : Nat) (g : FS) (ps pb2 : Addr) (H : Hp) : Prop
  | of {i j l : Int} {dx pb pa : Addr} {vb va vb2 : List V} {tb tb2 : Array Value} (y : Lay H ((d, .lst [.int i, .int j, .int l]) :: fL a ph dx pb pa g.text g.anc g.car vb va g.sign ((pb2, .lst vb2) :: (a.tb_check_field, .tbl tb) :: (a.tb_law, .tbl tb2) :: F)))
      (t1 : TDs K H vb (g.back.map rowD)) (t2 : TDs K H va (g.ahead.map rowD)) (t3 : TDs K H vb2 (g.back.map rowD)) (q : SqT K H ps [.str g.text, .int g.anc, .int g.car]) (r : TriplesOk tb.toList) (s : TabOK (lamq "law") tb2 H) (rb : Rok g.back) (n2 : g.ahead.length ≤ n) : L2I K a d ph F n g ps pb2 H
inductive SM (d ph ps pb2 : Addr) : L2.St → Prop
  | mk {v0 v2 v6 v7 v8 v9 v10 v11 v12 v13 v14 v15 v16 v17 v18 v19 v20 v21 v22 v23 v24 v25 v26 v27 : Option V} : SM d ph ps pb2 [v0, some (.ref d), v2, some (.ref ph), some (.ref ps), some (.ref pb2), v6, v7, v8, v9, v10, v11, v12, v13, v14, v15, v16, v17, v18, v19, v20, v21, v22, v23, v24, v25, v26, v27]
theorem for8_ok (T : Txt K mg a) (hn : n ≤ 900) (h : L2I K a d ph F n g ps pb2 H) (hs : SM d ph ps pb2 σ) (k : ∀ g' ps' pb2' σ' H', L2I K a d ph F (n + 1) g' ps' pb2' H' → SM d ph ps' pb2' σ' → A σ' H') :
    t_law_for8 K a E ⟨A, Bt, Cb, Dc⟩ σ H := by
  obtain ⟨t, x, z, bk, ah, sg⟩ := g
  cases hs with
  | mk =>
  cases h with
  | @of i j l dx pb pa vb va vb2 tb tb2 y t1 t2 t3 q r s rb n2 =>
    dsimp only at y t1 t2 t3 q rb n2
    rcases snoc_or bk with rfl | ⟨bs, rw0, rfl⟩
    · have hC := ((((((Ctx.start (K := K) y).add (i := .tri tb) r).add (i := .tab _ tb2) s).add (i := .dats vb _) t1).add (i := .dats va _) t2).add (i := .dats vb2 _) t3).add (i := .tup ps _) q
      unfold t_law_for8
      walk_at "go"
      refine c_undo_no hC (by walk_at "perm2") (by walk_at "tdm") (by walk_at "tdm") (by omega) (fun H hC => ?_)
      walk_at "go"
      refine s_neE (hC.get (by walk_at "mem")) (hC.get (by walk_at "mem")) (by walk_at "tdm") rb.sh ?_
      rw [show (!(List.map rowD ([] : List Rw)).isEmpty) = false from rfl]
      walk_at "go"
      refine s_neE (hC.get (by walk_at "mem")) (hC.get (by walk_at "mem")) (by walk_at "tdm") rb.sh ?_
      rw [show (!(List.map rowD ([] : List Rw)).isEmpty) = false from rfl]
      walk_at "go"
      refine k ⟨t, x, z, [], ah, sg⟩ _ _ _ _ ?_ SM.mk
      refine' L2I.of ?liy ?l1 ?l2 ?l3 ?lq (hC.tri (by walk_at "mem")) (hC.tab (by walk_at "mem")) rb (Nat.le_succ_of_le n2)
      case liy => ((try dsimp only); walk_at "lay2")
      case l1 => walk_at "tdm"
      case l2 => walk_at "tdm"
      case l3 => walk_at "tdm"
      case lq => walk_at "sqt"
    · obtain ⟨us, p, rfl, t5, q5⟩ := rows_last t3
      have hrb := rb.init.1
      have hC := ((((((((Ctx.start (K := K) y).add (i := .tri tb) r).add (i := .tab _ tb2) s).add (i := .dats vb _) t1).add (i := .dats va _) t2).add (i := .dats _ _) t3).add (i := .tup ps _) q).add (i := .dats us _) t5).add (i := .tup p _) q5
      unfold t_law_for8
      walk_at "go"
      refine c_undo_yes hC (by walk_at "perm2") (by walk_at "tdm") (by walk_at "tdm") (by omega) rb (fun fdx fpb fpa fvb fva H hC => ?_)
      walk_at "go"
      refine s_neE (hC.get (by walk_at "mem")) (hC.get (by walk_at "mem")) (by walk_at "tdm") rb.sh ?_
      rw [ne_emp]
      walk_at "go"
      refine s_neE (hC.get (by walk_at "mem")) (hC.get (by walk_at "mem")) (by walk_at "tdm") rb.sh ?_
      rw [ne_emp]
      walk_at "go"
      rw [cutV_init] at hC
      refine k ⟨rw0.text, rw0.anc, rw0.car, bs, ah ++ [⟨t, x, z⟩], false⟩ _ _ _ _ ?_ SM.mk
      refine' L2I.of ?liy ?l1 ?l2 ?l3 ?lq (hC.tri (by walk_at "mem")) (hC.tab (by walk_at "mem")) hrb (by rw [List.length_append, List.length_singleton]; exact Nat.succ_le_succ n2)
      case liy => ((try dsimp only); walk_at "lay2")
      case l1 => walk_at "tdm"
      case l2 => walk_at "tdm"
      case l3 => walk_at "tdm"
      case lq => walk_at "sqt"
inductive S0 : L2.St → Prop
  | mk {v0 v1 v2 v3 v4 v5 v6 v7 v8 v9 v10 v11 v12 v13 v14 v15 v16 v17 v18 v19 v20 v21 v22 v23 v24 v25 v26 v27 : Option V} : S0 [v0, v1, v2, v3, v4, v5, v6, v7, v8, v9, v10, v11, v12, v13, v14, v15, v16, v17, v18, v19, v20, v21, v22, v23, v24, v25, v26, v27]
theorem firsts_ok : ∀ v, v ∈ [V.str "", V.str "a b", V.str (repS "x" 195), V.str "hello world "] → ∃ w, v = .str w ∧ okS w := by
  intro v hv
  simp only [List.mem_cons, List.not_mem_nil, or_false] at hv
  rcases hv with rfl | rfl | rfl | rfl
  all_goals exact ⟨_, rfl, by decide +kernel⟩
inductive SD (v0 : Option V) (d : Addr) : L2.St → Prop
  | mk {v2 v3 v4 v5 v6 v7 v8 v9 v10 v11 v12 v13 v14 v15 v16 v17 v18 v19 v20 v21 v22 v23 v24 v25 v26 v27 : Option V} : SD v0 d [v0, some (.ref d), v2, v3, v4, v5, v6, v7, v8, v9, v10, v11, v12, v13, v14, v15, v16, v17, v18, v19, v20, v21, v22, v23, v24, v25, v26, v27]
theorem for9_ok (T : Txt K mg a) {i j l : Int} {tb tb2 : Array Value} (y : Lay H ((d, .lst [.int i, .int j, .int l]) :: (a.tb_check_field, .tbl tb) :: (a.tb_law, .tbl tb2) :: F)) (r : TriplesOk tb.toList) (s : TabOK (lamq "law") tb2 H) {v0 : Option V} (hs : SD v0 d σ)
    (k : ∀ σ' tb' tb2' H', S0 σ' → Lay H' ((a.tb_check_field, .tbl tb') :: (a.tb_law, .tbl tb2') :: F) → TriplesOk tb'.toList → TabOK (lamq "law") tb2' H' → A σ' H') :
    t_law_for9 K a E ⟨A, Bt, Cb, Dc⟩ σ H := by
  cases hs with
  | mk =>
  have hC := ((Ctx.start (K := K) y).add (i := .tri tb) r).add (i := .tab _ tb2) s
  unfold t_law_for9
  walk_at "go"
  refine s_ixOne (hC.get (by walk_at "mem")) (by omega) (by walk_at "len") (fun v hv => ?_)
  obtain ⟨w, rfl, hw⟩ := firsts_ok v hv
  have hw1 := hw.1
  walk_at "go"
  have hrow : rowOk ⟨w, w.length, w.length⟩ := ⟨hw, ⟨by dsimp only; omega, by dsimp only; omega⟩, by dsimp only; omega, by dsimp only; omega⟩
  refine' for_rng (fun t σ H => ∃ g ps pb2 pa2, LI K a d mx F t g ps pb2 pa2 H ∧ SL d mx ps pb2 pa2 g.sign σ) ⟨⟨w, w.length, w.length, [], [], false⟩, _, _, _, ?lis, SL.mk⟩ ?step ?done
  case lis => walk_at "li"
  case step =>
    rintro t σ H ht ⟨g, ps, pb2, pa2, hL, hs⟩
    cases hs with
    | mk =>
    walk_at "go"
    exact for7_ok (E := E) (g := g) T (by omega) hL SL.mk (fun g' ps' pb2' pa2' σ' H' h' s' => ⟨g', ps', pb2', pa2', h', s'⟩)
  case done =>
    rintro σ H ⟨g, ps, pb2, pa2, hL, hs⟩
    cases hs with
    | mk =>
    cases hL with
    | @of i j l dx pb pa vb va vb2 va2 tb tb2 y t1 t2 t3 t4 q r s o rb ra n1 n2 =>
    have hC := Ctx.start (K := K) y
    walk_at "go"
    refine' for_rng (fun t σ H => ∃ g ps pb2, L2I K a d mx ((pa2, .lst va2) :: F) (150 + t) g ps pb2 H ∧ SM d mx ps pb2 σ) ⟨g, ps, pb2, ?lis2, SM.mk⟩ ?step2 ?done2
    case lis2 =>
      refine' L2I.of ?lq9 t1 t2 t3 q r s rb (by omega)
      case lq9 => walk_at "lay2"
    case step2 =>
      rintro t σ H ht ⟨g, ps, pb2, hL, hs⟩
      cases hs with
      | mk =>
      walk_at "go"
      exact for8_ok (E := E) (g := g) T (by omega) hL SM.mk (fun g' ps' pb2' σ' H' h' s' => ⟨g', ps', pb2', h', s'⟩)
    case done2 =>
      rintro σ H ⟨g, ps, pb2, hL, hs⟩
      cases hs with
      | mk =>
      cases hL with
      | @of i j l dx pb pa vb va vb2 tb tb2 y t1 t2 t3 q r s rb n2 =>
      have hC := (((Ctx.start (K := K) y).add (i := .tri tb) r).add (i := .tab _ tb2) s).add (i := .tup ps _) q
      walk_at "go"
      refine k _ _ _ _ S0.mk ?_ (hC.tri (by walk_at "mem")) (hC.tab (by walk_at "mem"))
      walk_at "lay2"
end
section
variable {K : PySem.W.Frag} {mg : Str → Option Value} {a : Adr} {vs : List V} {H : Hp} {Q : VK} {E : XK}
theorem lay_appR {L F : List (Addr × HO)} (y : Lay H (L ++ F)) : Lay H F := ⟨(List.nodup_append.mp (by rw [← List.map_append]; exact y.nd)).2.1, fun p hp => y.at_ p (List.mem_append_right _ hp)⟩
theorem tab0 {H : Hp} {q : Str} : TabOK q #[] H := ⟨True.intro, fun pos cv hc => by
  have z : codeAmong pos [] = some cv := hc
  simp [codeAmong] at z⟩
abbrev imL (f c : Addr) (q : Str) (d : LamD) : Im := .pr (fun H => H f = some (LamO f c q d.ps d.body d.sc)) (fun _ _ s h => s _ _ h rfl)
abbrev imC (c : Addr) (q : Str) : Im := .pr (fun H => H c = some (LamX.CodeO c q)) (fun _ _ s h => s _ _ h rfl)
theorem pure_law (T : Txt K mg a) (h : sp_law K a vs H Q E) : t_law K a E { nx := fun _ H' => Q .non H', rt := Q } (L2.start N_law vs) H := by
  obtain ⟨_, s, ns, rfl, hs, y0, k⟩ := h
  unfold t_law
  walk_at "start"
  walk_at "go"
  refine ⟨rfl, s, 1, ns, _, rfl, hs, y0, by decide, by decide, fun p ds H1 s1 y => ?_⟩
  have hC := Ctx.start (K := K) y
  walk_at "go"
  refine for_lst (xs := ds.map fun d => V.ref d.1) (fun t σ H => ∃ (es : List (Addr × Int × Int × Int)) (tb tb2 : Array Value), S0 σ ∧
      es.map (fun d => V.ref d.1) = (ds.map fun d => V.ref d.1).drop t ∧ Lay H ((p, .lst (ds.map fun d => V.ref d.1)) :: (DL es ++ [(a.tb_check_field, .tbl tb), (a.tb_law, .tbl tb2)])) ∧ TriplesOk tb.toList ∧ TabOK (lamq "law") tb2 H)
    ⟨ds, #[], #[], S0.mk, rfl, y, True.intro, tab0⟩ ?_ ?_ ?_
  · rintro t σ H ht ⟨es, tb, tb2, hs, he, y, r, s⟩
    exact y.get List.mem_cons_self
  · rintro t x σ H hx ⟨es, tb, tb2, hs, he, y, r, s⟩
    cases hs with
    | mk =>
    obtain ⟨hlt, hx⟩ := List.getElem?_eq_some_iff.mp hx
    rw [List.drop_eq_getElem_cons hlt, hx] at he
    cases es with
    | nil => cases he
    | cons e es =>
      rw [List.map_cons] at he
      obtain ⟨rfl, he2⟩ := List.cons.inj he
      obtain ⟨d, i, j, l⟩ := e
      walk_at "go"
      have y1 : Lay H ((d, .lst [.int i, .int j, .int l]) :: (a.tb_check_field, .tbl tb) :: (a.tb_law, .tbl tb2) :: ((p, .lst (ds.map fun d => V.ref d.1)) :: DL es)) := by
        refine y.perm ?_
        show (_ :: ((d, _) :: (DL es ++ [_, _]))).Perm _
        refine (List.Perm.swap _ _ _).trans (List.Perm.cons _ ?_)
        exact (List.perm_append_comm (l₁ := (p, HO.lst (ds.map fun d => V.ref d.1)) :: DL es) (l₂ := [(a.tb_check_field, .tbl tb), (a.tb_law, .tbl tb2)]))
      exact for9_ok (E := E) T y1 r s SD.mk (fun σ' tb' tb2' H' hs' y' r' s' => ⟨es, tb', tb2', hs', he2, y'.perm (show ([(a.tb_check_field, HO.tbl tb'), (a.tb_law, HO.tbl tb2')] ++ ((p, HO.lst (ds.map fun d => V.ref d.1)) :: DL es)).Perm (((p, HO.lst (ds.map fun d => V.ref d.1)) :: DL es) ++ [(a.tb_check_field, HO.tbl tb'), (a.tb_law, HO.tbl tb2')]) from List.perm_append_comm), r', s'⟩)
  · rintro σ H ⟨es, tb, tb2, hs, he, y, r, s⟩
    cases hs with
    | mk =>
    have y := lay_appR (L := _ :: DL es) y
    have hC := ((Ctx.start (K := K) y).add (i := .tri tb) r).add (i := .tab _ tb2) s
    walk_at "go"
    rename_i f4 c4 t4 h4 f3 c3 t3 h3 f2 c2 t2 h2 f1 c1 t1 h1 h0
    have hC0 := (Ctx.start (K := K) hC.lay).add (i := .tri _) (hC.tri (by walk_at "mem"))
    have hC0 := (hC0.add (i := imL f4 c4 (lamq "law") D_law_4) (hC.pr (P := fun H => H f4 = some (LamO f4 c4 (lamq "law") D_law_4.ps D_law_4.body D_law_4.sc)) (by walk_at "mem"))).add (i := imC c4 (lamq "law")) (hC.pr (P := fun H => H c4 = some (LamX.CodeO c4 (lamq "law"))) (by walk_at "mem"))
    have hC0 := (hC0.add (i := imL f3 c3 (lamq "law") D_law_3) (hC.pr (P := fun H => H f3 = some (LamO f3 c3 (lamq "law") D_law_3.ps D_law_3.body D_law_3.sc)) (by walk_at "mem"))).add (i := imC c3 (lamq "law")) (hC.pr (P := fun H => H c3 = some (LamX.CodeO c3 (lamq "law"))) (by walk_at "mem"))
    have hC0 := (hC0.add (i := imL f2 c2 (lamq "law") D_law_2) (hC.pr (P := fun H => H f2 = some (LamO f2 c2 (lamq "law") D_law_2.ps D_law_2.body D_law_2.sc)) (by walk_at "mem"))).add (i := imC c2 (lamq "law")) (hC.pr (P := fun H => H c2 = some (LamX.CodeO c2 (lamq "law"))) (by walk_at "mem"))
    have hC0 := (hC0.add (i := imL f1 c1 (lamq "law") D_law_1) (hC.pr (P := fun H => H f1 = some (LamO f1 c1 (lamq "law") D_law_1.ps D_law_1.body D_law_1.sc)) (by walk_at "mem"))).add (i := imC c1 (lamq "law")) (hC.pr (P := fun H => H c1 = some (LamX.CodeO c1 (lamq "law"))) (by walk_at "mem"))
    have hC0 := (hC0.add (i := imL lf lc (lamq "law") D_law_0) (hC.pr (P := fun H => H lf = some (LamO lf lc (lamq "law") D_law_0.ps D_law_0.body D_law_0.sc)) (by walk_at "mem"))).add (i := imC lc (lamq "law")) (hC.pr (P := fun H => H lc = some (LamX.CodeO lc (lamq "law"))) (by walk_at "mem"))
    clear hC
    refine lc_lstT (xs := [V.ref f4, V.ref f3, V.ref f2, V.ref f1, V.ref lf]) hC0 (fun D i H1 => ∃ tbx, Ph.Ctx K H H1 ((D, .lst []) :: (lp, .lst [V.ref f4, V.ref f3, V.ref f2, V.ref f1, V.ref lf]) :: (a.tb_law, .tbl tb) :: (a.tb_check_field, .tbl tbx) :: []) [.tri tbx, imC lc (lamq "law"), imL lf lc (lamq "law") D_law_0, imC c1 (lamq "law"), imL f1 c1 (lamq "law") D_law_1,
      imC c2 (lamq "law"), imL f2 c2 (lamq "law") D_law_2, imC c3 (lamq "law"), imL f3 c3 (lamq "law") D_law_3, imC c4 (lamq "law"), imL f4 c4 (lamq "law") D_law_4]) ?_ ?_ ?_ ?_
    · intro D H1 hC
      apply Exists.intro
      walk_at "ctx"
    · rintro i D H1 hi ⟨tbx, hC⟩
      exact hC.get (by walk_at "mem")
    · rintro i x D H1 hx ⟨tbx, hC⟩
      rcases i with _ | _ | _ | _ | _ | i
      · cases hx
        simp only [wipe, List.set_cons_zero, List.set_cons_succ]
        walk_at "go"
        refine ⟨rfl, ?_⟩
        walk_at "go"
        refine s_toldV f4 c4 4 D_law_4 rfl rfl (hC.pr (P := fun H => H f4 = some (LamO f4 c4 (lamq "law") D_law_4.ps D_law_4.body D_law_4.sc)) (by walk_at "mem")) (hC.pr (P := fun H => H c4 = some (LamX.CodeO c4 (lamq "law"))) (by walk_at "mem")) ?_
        refine te_eq TF_law_4 ?_
        walk_at "go"
        apply Exists.intro
        walk_at "ctx"
      · cases hx
        simp only [wipe, List.set_cons_zero, List.set_cons_succ]
        walk_at "go"
        refine ⟨rfl, ?_⟩
        walk_at "go"
        refine s_toldV f3 c3 3 D_law_3 rfl rfl (hC.pr (P := fun H => H f3 = some (LamO f3 c3 (lamq "law") D_law_3.ps D_law_3.body D_law_3.sc)) (by walk_at "mem")) (hC.pr (P := fun H => H c3 = some (LamX.CodeO c3 (lamq "law"))) (by walk_at "mem")) ?_
        refine te_eq TF_law_3 ?_
        walk_at "go"
        apply Exists.intro
        walk_at "ctx"
      · cases hx
        simp only [wipe, List.set_cons_zero, List.set_cons_succ]
        walk_at "go"
        refine ⟨rfl, ?_⟩
        walk_at "go"
        refine s_toldV f2 c2 2 D_law_2 rfl rfl (hC.pr (P := fun H => H f2 = some (LamO f2 c2 (lamq "law") D_law_2.ps D_law_2.body D_law_2.sc)) (by walk_at "mem")) (hC.pr (P := fun H => H c2 = some (LamX.CodeO c2 (lamq "law"))) (by walk_at "mem")) ?_
        refine te_eq TF_law_2 ?_
        walk_at "go"
        apply Exists.intro
        walk_at "ctx"
      · cases hx
        simp only [wipe, List.set_cons_zero, List.set_cons_succ]
        walk_at "go"
        refine ⟨rfl, ?_⟩
        walk_at "go"
        refine s_toldV f1 c1 1 D_law_1 rfl rfl (hC.pr (P := fun H => H f1 = some (LamO f1 c1 (lamq "law") D_law_1.ps D_law_1.body D_law_1.sc)) (by walk_at "mem")) (hC.pr (P := fun H => H c1 = some (LamX.CodeO c1 (lamq "law"))) (by walk_at "mem")) ?_
        refine te_eq TF_law_1 ?_
        walk_at "go"
        apply Exists.intro
        walk_at "ctx"
      · cases hx
        simp only [wipe, List.set_cons_zero, List.set_cons_succ]
        walk_at "go"
        refine ⟨rfl, ?_⟩
        walk_at "go"
        refine s_toldV lf lc 0 D_law_0 rfl rfl (hC.pr (P := fun H => H lf = some (LamO lf lc (lamq "law") D_law_0.ps D_law_0.body D_law_0.sc)) (by walk_at "mem")) (hC.pr (P := fun H => H lc = some (LamX.CodeO lc (lamq "law"))) (by walk_at "mem")) ?_
        refine te_eq TF_law_0 ?_
        walk_at "go"
        apply Exists.intro
        walk_at "ctx"
      · cases hx
    · rintro D H1 ⟨tbx, hC⟩
      walk_at "go"
      refine s_eqE (hC.get (by walk_at "mem")) (hC.get (by walk_at "mem")) .nil ShL.nil ?_
      rw [show ([] : List PyData).isEmpty = true from rfl]
      walk_at "go"
      exact k _
end
end Wk
namespace Wk
open PySem PySem.Spec PyProof.Rows L2 Ph
open LamX (TTold told_gives lamS_by TabB)
section
variable {P : Program} {w : World} {K : PySem.W.Frag} {mg : Str → Option Value} {base : Heap} {a : Adr}
theorem ok_Field__init (T : Txt K mg a) (G_check_field : FnOk P w K mg base (L2.CX P w) 1 a.f_check_field a.fd_check_field ["text"] (sp_check_field K a)) : FnOk P w K mg base (L2.CX P w) 2 a.f_Field__init a.fd_Field__init ["self", "text"] (sp_Field__init K a) := by
  refine FunD.ok T.fn_Field__init sc_Field__init (fun _ _ _ _ h => h.1) (fun cdv A outer s H vs Q E hr h => ⟨t_Field__init K a E, ?_, pure_Field__init T h⟩)
  have hu := hr.units
  have hr_check_field := hr.mono (show 1 ≤ 1 by decide)
  exact (pss_cons (ps_expr (pe_call G_check_field hr_check_field rfl T.mg_check_field T.fn_check_field.kp T.bi_check_field .nil passX (pa_cons (pv 1) pa_nil))) (pss_cons (ps_fld (pv 0) (pv 1) rfl) (pss_cons (ps_fld (pv 0) (pe_callB u_len (by rfl) T.no_len (by decide +kernel) (pa_cons (pv 1) pa_nil)) rfl) (pss_cons (ps_fld (pv 0) (pe_callB u_len (by rfl) T.no_len (by decide +kernel) (pa_cons (pv 1) pa_nil)) rfl) (pss_cons (ps_fld (pv 0) (pe_lst pa_nil) rfl) (pss_cons (ps_fld (pv 0) (pe_lst pa_nil) rfl) (pss_one (ps_fld (pv 0) pe_bl rfl))))))))
theorem ok_Field_shown (T : Txt K mg a) : FnOk P w K mg base (L2.CX P w) 1 a.f_Field_shown a.fd_Field_shown ["self"] (sp_Field_shown K a) := by
  refine FunD.ok T.fn_Field_shown sc_Field_shown (fun _ _ _ _ h => h.1) (fun cdv A outer s H vs Q E hr h => ⟨t_Field_shown K a E, ?_, pure_Field_shown T h⟩)
  have hu := hr.units
  exact (pss_one (ps_ret (pe_tup (pa_cons (pe_fld (pv 0) rfl) (pa_cons (pe_callB (call_min2 rfl) (by rfl) T.no_min (by decide +kernel) (pa_cons (pe_fld (pv 0) rfl) (pa_cons (pe_fld (pv 0) rfl) pa_nil))) (pa_cons (pe_callB (call_max2 rfl) (by rfl) T.no_max (by decide +kernel) (pa_cons (pe_fld (pv 0) rfl) (pa_cons (pe_fld (pv 0) rfl) pa_nil))) pa_nil))))))
theorem ok_Field_keep (T : Txt K mg a) : FnOk P w K mg base (L2.CX P w) 1 a.f_Field_keep a.fd_Field_keep ["self"] (sp_Field_keep K a) := by
  refine FunD.ok T.fn_Field_keep sc_Field_keep (fun _ _ _ _ h => h.1) (fun cdv A outer s H vs Q E hr h => ⟨t_Field_keep K a E, ?_, pure_Field_keep T h⟩)
  have hu := hr.units
  exact (pss_cons (ps_fld (pv 0) (pe_slice u_sl (pe_op u_add (pe_fld (pv 0) rfl) (pe_lst (pa_cons (pe_tup (pa_cons (pe_fld (pv 0) rfl) (pa_cons (pe_fld (pv 0) rfl) (pa_cons (pe_fld (pv 0) rfl) pa_nil)))) pa_nil))) (po_some (pe_un un_neg (pe_gint rfl T.gl_MOST_STEPS_BACK))) po_none) rfl) (pss_one (ps_fld (pv 0) (pe_lst pa_nil) rfl)))
theorem ok_Field_put (T : Txt K mg a) (G_Field_keep : FnOk P w K mg base (L2.CX P w) 1 a.f_Field_keep a.fd_Field_keep ["self"] (sp_Field_keep K a)) (G_Field_shown : FnOk P w K mg base (L2.CX P w) 1 a.f_Field_shown a.fd_Field_shown ["self"] (sp_Field_shown K a)) (G_check_field : FnOk P w K mg base (L2.CX P w) 1 a.f_check_field a.fd_check_field ["text"] (sp_check_field K a)) : FnOk P w K mg base (L2.CX P w) 2 a.f_Field_put a.fd_Field_put ["self", "text"] (sp_Field_put K a) := by
  refine FunD.ok T.fn_Field_put sc_Field_put (fun _ _ _ _ h => h.1) (fun cdv A outer s H vs Q E hr h => ⟨t_Field_put K a E, ?_, pure_Field_put T h⟩)
  have hu := hr.units
  have hr_Field_keep := hr.mono (show 1 ≤ 1 by decide)
  have hr_Field_shown := hr.mono (show 1 ≤ 1 by decide)
  have hr_check_field := hr.mono (show 1 ≤ 1 by decide)
  exact (pss_cons (ps_expr (pe_call G_check_field hr_check_field rfl T.mg_check_field T.fn_check_field.kp T.bi_check_field .nil passX (pa_cons (pv 1) pa_nil))) (pss_cons (ps_asg (pe_slice u_sl (pe_meth0 (pv 0) T.cl_Field T.me_Field_shown G_Field_shown hr_Field_shown T.bi_Field_shown .nil passX) (po_some pe_int) po_none) (pg_tup rfl (pgs_cons (pg_name (i := 2) sc_Field_put.nd rfl (by first | exact Or.inl rfl | exact Or.inr rfl)) (pgs_cons (pg_name (i := 3) sc_Field_put.nd rfl (by first | exact Or.inl rfl | exact Or.inr rfl)) pgs_nil)))) (pss_cons (ps_set (i := 4) sc_Field_put.nd rfl (by first | exact Or.inl rfl | exact Or.inr rfl) (pe_op u_add (pe_op u_add (pe_slice u_sl (pe_fld (pv 0) rfl) po_none (po_some (pv 2))) (pv 1)) (pe_slice u_sl (pe_fld (pv 0) rfl) (po_some (pv 3)) po_none))) (pss_cons (ps_expr (pe_call G_check_field hr_check_field rfl T.mg_check_field T.fn_check_field.kp T.bi_check_field .nil passX (pa_cons (pv 4) pa_nil))) (pss_cons (ps_set (i := 5) sc_Field_put.nd rfl (by first | exact Or.inl rfl | exact Or.inr rfl) (pe_and (pe_fld (pv 0) rfl) (pe_and (pe_cmpR (u_eq hu) (pe_callB u_len (by rfl) T.no_len (by decide +kernel) (pa_cons (pv 1) pa_nil)) pe_int (nomark _)) (pe_and (pe_cmpR (u_ne hu) (pv 1) pe_str (nomark _)) (pe_one (pe_cmpR (u_eq hu) (pv 2) (pv 3) (nomark _))))))) (pss_cons (ps_if (pt_not (pt_tru (pv 5))) (pss_one (ps_expr (pe_meth0 (pv 0) T.cl_Field T.me_Field_keep G_Field_keep hr_Field_keep T.bi_Field_keep .nil passX))) pss_nil) (pss_cons (ps_fld (pv 0) (pe_lst pa_nil) rfl) (pss_cons (ps_fld (pv 0) (pv 4) rfl) (pss_cons (ps_asg2 (pe_op u_add (pv 2) (pe_callB u_len (by rfl) T.no_len (by decide +kernel) (pa_cons (pv 1) pa_nil))) (pg_fld (pv 0)) (pg_fld (pv 0))) (pss_one (ps_fld (pv 0) (pe_cmpR (u_eq hu) (pe_callB u_len (by rfl) T.no_len (by decide +kernel) (pa_cons (pv 1) pa_nil)) pe_int (nomark _)) rfl)))))))))))
theorem ok_Field_drop (T : Txt K mg a) (G_Field_keep : FnOk P w K mg base (L2.CX P w) 1 a.f_Field_keep a.fd_Field_keep ["self"] (sp_Field_keep K a)) (G_Field_shown : FnOk P w K mg base (L2.CX P w) 1 a.f_Field_shown a.fd_Field_shown ["self"] (sp_Field_shown K a)) : FnOk P w K mg base (L2.CX P w) 2 a.f_Field_drop a.fd_Field_drop ["self", "behind"] (sp_Field_drop K a) := by
  refine FunD.ok T.fn_Field_drop sc_Field_drop (fun _ _ _ _ h => h.1) (fun cdv A outer s H vs Q E hr h => ⟨t_Field_drop K a E, ?_, pure_Field_drop T h⟩)
  have hu := hr.units
  have hr_Field_keep := hr.mono (show 1 ≤ 1 by decide)
  have hr_Field_shown := hr.mono (show 1 ≤ 1 by decide)
  exact (pss_cons (ps_asg (pe_slice u_sl (pe_meth0 (pv 0) T.cl_Field T.me_Field_shown G_Field_shown hr_Field_shown T.bi_Field_shown .nil passX) (po_some pe_int) po_none) (pg_tup rfl (pgs_cons (pg_name (i := 2) sc_Field_drop.nd rfl (by first | exact Or.inl rfl | exact Or.inr rfl)) (pgs_cons (pg_name (i := 3) sc_Field_drop.nd rfl (by first | exact Or.inl rfl | exact Or.inr rfl)) pgs_nil)))) (pss_cons (ps_if (pt_cmpR (u_eq hu) (pv 2) (pv 3) (nomark _)) (pss_one (ps_asg (pe_ifExp (pt_tru (pv 1)) (pe_tup (pa_cons (pv 2) (pa_cons (pe_callB (call_min2 rfl) (by rfl) T.no_min (by decide +kernel) (pa_cons (pe_callB u_len (by rfl) T.no_len (by decide +kernel) (pa_cons (pe_fld (pv 0) rfl) pa_nil)) (pa_cons (pe_op u_add (pv 3) pe_int) pa_nil))) pa_nil))) (pe_tup (pa_cons (pe_callB (call_max2 rfl) (by rfl) T.no_max (by decide +kernel) (pa_cons pe_int (pa_cons (pe_op u_sub (pv 2) pe_int) pa_nil))) (pa_cons (pv 3) pa_nil)))) (pg_tup rfl (pgs_cons (pg_name (i := 2) sc_Field_drop.nd rfl (by first | exact Or.inl rfl | exact Or.inr rfl)) (pgs_cons (pg_name (i := 3) sc_Field_drop.nd rfl (by first | exact Or.inl rfl | exact Or.inr rfl)) pgs_nil))))) pss_nil) (pss_cons (ps_if (pt_cmpR u_lt (pv 2) (pv 3) (nomark _)) (pss_cons (ps_expr (pe_meth0 (pv 0) T.cl_Field T.me_Field_keep G_Field_keep hr_Field_keep T.bi_Field_keep .nil passX)) (pss_cons (ps_fld (pv 0) (pe_op u_add (pe_slice u_sl (pe_fld (pv 0) rfl) po_none (po_some (pv 2))) (pe_slice u_sl (pe_fld (pv 0) rfl) (po_some (pv 3)) po_none)) rfl) (pss_one (ps_asg2 (pv 2) (pg_fld (pv 0)) (pg_fld (pv 0)))))) pss_nil) (pss_one (ps_fld (pv 0) pe_bl rfl)))))
theorem ok_Field_go (T : Txt K mg a) : FnOk P w K mg base (L2.CX P w) 1 a.f_Field_go a.fd_Field_go ["self", "place", "selects"] (sp_Field_go K a) := by
  refine FunD.ok T.fn_Field_go sc_Field_go (fun _ _ _ _ h => h.1) (fun cdv A outer s H vs Q E hr h => ⟨t_Field_go K a E, ?_, pure_Field_go T h⟩)
  have hu := hr.units
  exact (pss_cons (ps_if (pt_not (pt_chain u_le u_le pe_int (pv 1) (pe_callB u_len (by rfl) T.no_len (by decide +kernel) (pa_cons (pe_fld (pv 0) rfl) pa_nil)))) (pss_one (ps_raise rfl (takes_of rfl rfl rfl rfl) (pmk_own PySem.F.excBase_ValueError T.xc_ViewFault T.mgc_ViewFault T.kc_ViewFault (raises_own T.bc_ViewFault T.tc_ViewFault) (by rfl)))) pss_nil) (pss_cons (ps_fld (pv 0) (pv 1) rfl) (pss_cons (ps_if (pt_not (pt_tru (pv 2))) (pss_one (ps_fld (pv 0) (pv 1) rfl)) pss_nil) (pss_one (ps_fld (pv 0) pe_bl rfl)))))
theorem ok_Field_select_word (T : Txt K mg a) : FnOk P w K mg base (L2.CX P w) 1 a.f_Field_select_word a.fd_Field_select_word ["self", "place"] (sp_Field_select_word K a) := by
  refine FunD.ok T.fn_Field_select_word sc_Field_select_word (fun _ _ _ _ h => h.1) (fun cdv A outer s H vs Q E hr h => ⟨t_Field_select_word K a E, ?_, pure_Field_select_word T h⟩)
  have hu := hr.units
  exact (pss_cons (ps_if (pt_not (pt_chain u_le u_le pe_int (pv 1) (pe_callB u_len (by rfl) T.no_len (by decide +kernel) (pa_cons (pe_fld (pv 0) rfl) pa_nil)))) (pss_one (ps_raise rfl (takes_of rfl rfl rfl rfl) (pmk_own PySem.F.excBase_ValueError T.xc_ViewFault T.mgc_ViewFault T.kc_ViewFault (raises_own T.bc_ViewFault T.tc_ViewFault) (by rfl)))) pss_nil) (pss_cons (ps_asg2 (pv 1) (pg_name (i := 2) sc_Field_select_word.nd rfl (by first | exact Or.inl rfl | exact Or.inr rfl)) (pg_name (i := 3) sc_Field_select_word.nd rfl (by first | exact Or.inl rfl | exact Or.inr rfl))) (pss_cons (ps_while (passes_of rfl) (PW.pt (pw_and (pt_cmpR u_gt (pv 2) pe_int (nomark _)) (pw_and1 (pt_cmpR (u_ne hu) (pe_ix (u_ix hu) (pe_fld (pv 0) rfl) (pe_op u_sub (pv 2) pe_int) (fun _ _ => rfl)) pe_str (nomark _))))) (pss_one (ps_aug (i := 2) sc_Field_select_word.nd rfl (by first | exact Or.inl rfl | exact Or.inr rfl) pe_int (ip_of u_isub)))) (pss_cons (ps_while (passes_of rfl) (PW.pt (pw_and (pt_cmpR u_lt (pv 3) (pe_callB u_len (by rfl) T.no_len (by decide +kernel) (pa_cons (pe_fld (pv 0) rfl) pa_nil)) (nomark _)) (pw_and1 (pt_cmpR (u_ne hu) (pe_ix (u_ix hu) (pe_fld (pv 0) rfl) (pv 3) (fun _ _ => rfl)) pe_str (nomark _))))) (pss_one (ps_aug (i := 3) sc_Field_select_word.nd rfl (by first | exact Or.inl rfl | exact Or.inr rfl) pe_int (ip_of u_iadd)))) (pss_cons (ps_asg (pe_tup (pa_cons (pv 2) (pa_cons (pv 3) pa_nil))) (pg_tup rfl (pgs_cons (pg_fld (pv 0)) (pgs_cons (pg_fld (pv 0)) pgs_nil)))) (pss_one (ps_fld (pv 0) pe_bl rfl)))))))
theorem ok_Field_chosen (T : Txt K mg a) (G_Field_shown : FnOk P w K mg base (L2.CX P w) 1 a.f_Field_shown a.fd_Field_shown ["self"] (sp_Field_shown K a)) : FnOk P w K mg base (L2.CX P w) 2 a.f_Field_chosen a.fd_Field_chosen ["self"] (sp_Field_chosen K a) := by
  refine FunD.ok T.fn_Field_chosen sc_Field_chosen (fun _ _ _ _ h => h.1) (fun cdv A outer s H vs Q E hr h => ⟨t_Field_chosen K a E, ?_, pure_Field_chosen T h⟩)
  have hu := hr.units
  have hr_Field_shown := hr.mono (show 1 ≤ 1 by decide)
  exact (pss_cons (ps_asg (pe_slice u_sl (pe_meth0 (pv 0) T.cl_Field T.me_Field_shown G_Field_shown hr_Field_shown T.bi_Field_shown .nil passX) (po_some pe_int) po_none) (pg_tup rfl (pgs_cons (pg_name (i := 1) sc_Field_chosen.nd rfl (by first | exact Or.inl rfl | exact Or.inr rfl)) (pgs_cons (pg_name (i := 2) sc_Field_chosen.nd rfl (by first | exact Or.inl rfl | exact Or.inr rfl)) pgs_nil)))) (pss_one (ps_ret (pe_slice u_sl (pe_fld (pv 0) rfl) (po_some (pv 1)) (po_some (pv 2))))))
theorem ok_Field_undo (T : Txt K mg a) : FnOk P w K mg base (L2.CX P w) 1 a.f_Field_undo a.fd_Field_undo ["self"] (sp_Field_undo K a) := by
  refine FunD.ok T.fn_Field_undo sc_Field_undo (fun _ _ _ _ h => h.1) (fun cdv A outer s H vs Q E hr h => ⟨t_Field_undo K a E, ?_, pure_Field_undo T h⟩)
  have hu := hr.units
  exact (pss_cons (ps_if (pt_cmpR (u_eq hu) (pe_fld (pv 0) rfl) (pe_lst pa_nil) (nomark _)) (pss_one (ps_ret pe_bl)) pss_nil) (pss_cons (ps_expr (pe_bm PySem.F.plainAttrs_list PySem.F.slot_list_append PySem.F.type_list_append mt_append (pe_fld (pv 0) rfl) (pa_cons (pe_tup (pa_cons (pe_fld (pv 0) rfl) (pa_cons (pe_fld (pv 0) rfl) (pa_cons (pe_fld (pv 0) rfl) pa_nil)))) pa_nil))) (pss_cons (ps_asg (pe_bm0 PySem.F.plainAttrs_list PySem.F.slot_list_pop PySem.F.type_list_pop mt_pop (pe_fld (pv 0) rfl)) (pg_tup rfl (pgs_cons (pg_fld (pv 0)) (pgs_cons (pg_fld (pv 0)) (pgs_cons (pg_fld (pv 0)) pgs_nil))))) (pss_cons (ps_fld (pv 0) pe_bl rfl) (pss_one (ps_ret pe_bl))))))
theorem ok_Field_redo (T : Txt K mg a) : FnOk P w K mg base (L2.CX P w) 1 a.f_Field_redo a.fd_Field_redo ["self"] (sp_Field_redo K a) := by
  refine FunD.ok T.fn_Field_redo sc_Field_redo (fun _ _ _ _ h => h.1) (fun cdv A outer s H vs Q E hr h => ⟨t_Field_redo K a E, ?_, pure_Field_redo T h⟩)
  have hu := hr.units
  exact (pss_cons (ps_if (pt_cmpR (u_eq hu) (pe_fld (pv 0) rfl) (pe_lst pa_nil) (nomark _)) (pss_one (ps_ret pe_bl)) pss_nil) (pss_cons (ps_expr (pe_bm PySem.F.plainAttrs_list PySem.F.slot_list_append PySem.F.type_list_append mt_append (pe_fld (pv 0) rfl) (pa_cons (pe_tup (pa_cons (pe_fld (pv 0) rfl) (pa_cons (pe_fld (pv 0) rfl) (pa_cons (pe_fld (pv 0) rfl) pa_nil)))) pa_nil))) (pss_cons (ps_asg (pe_bm0 PySem.F.plainAttrs_list PySem.F.slot_list_pop PySem.F.type_list_pop mt_pop (pe_fld (pv 0) rfl)) (pg_tup rfl (pgs_cons (pg_fld (pv 0)) (pgs_cons (pg_fld (pv 0)) (pgs_cons (pg_fld (pv 0)) pgs_nil))))) (pss_cons (ps_fld (pv 0) pe_bl rfl) (pss_one (ps_ret pe_bl))))))
theorem ok_check_field (T : Txt K mg a) (TB_check_field : TabB base mg a.cc_check_field a.tb_check_field) : FnOk P w K mg base (L2.CX P w) 1 a.f_check_field a.fd_check_field ["text"] (sp_check_field K a) := by
  refine FunD.okC T.fn_check_field sc_check_field (fun _ _ _ _ h => h.1) (fun cdv A outer s H vs Q E hr hcc h => ⟨t_check_field K a E, ?_, pure_check_field T h⟩)
  have hu := hr.units
  have hcode : cdv = .ref a.cc_check_field := hcc.symm.trans T.cd_check_field
  subst hcode
  exact (pss_one (ps_if (PW.pt (pw_or (pt_not (pt_tru (pe_callB call_isi (by rfl) T.no_isinstance (by decide +kernel) (pa_cons (pv 0) (pa_cons (pe_bltn rfl T.no_str (by decide +kernel) rfl) pa_nil))))) (pw_or (pt_cmpR u_gt (pe_callB u_len (by rfl) T.no_len (by decide +kernel) (pa_cons (pv 0) pa_nil)) (pe_gint rfl T.gl_MOST_FIELD) (nomark _)) (pw_or1 (pt_tru (pe_anyG hr rfl T.no_any (tabG TB_check_field) rfl (genS_by (by decide +kernel)) (pv 0) (elt_ninG rfl rfl rfl T.gl_LETTERS) (fun _ => rfl))))))) (pss_one (ps_raise rfl (takes_of rfl rfl rfl rfl) (pmk_own PySem.F.excBase_ValueError T.xc_ViewFault T.mgc_ViewFault T.kc_ViewFault (raises_own T.bc_ViewFault T.tc_ViewFault) (by rfl)))) pss_nil))
theorem ok_law_dice (T : Txt K mg a) : FnOk P w K mg base (L2.CX P w) 1 a.f_law_dice a.fd_law_dice ["cell"] (sp_law_dice K a) := by
  refine FunD.ok T.fn_law_dice sc_law_dice (fun _ _ _ _ h => h.1) (fun cdv A outer s H vs Q E hr h => ⟨t_law_dice K a E, ?_, pure_law_dice T h⟩)
  have hu := hr.units
  exact (pss_cons (ps_if (pt_chain u_lt u_lt (pe_op u_sub pe_int pe_int) (pv 0) pe_int) (pss_one (ps_ret (pe_lst (pa_cons (pe_callB call_abs (by rfl) T.no_abs (by decide +kernel) (pa_cons (pv 0) pa_nil)) (pa_cons pe_int (pa_cons pe_int pa_nil)))))) pss_nil) (pss_one (ps_ret (pe_lst (pa_cons (pv 0) (pa_cons (pe_op u_add pe_int (pe_op u_mod (pe_callTy call_int1 (by rfl) T.no_int (by decide +kernel) (pa_cons (pv 0) pa_nil)) pe_int)) (pa_cons (pe_callTy call_int1 (by rfl) T.no_int (by decide +kernel) (pa_cons (pe_cmpR u_ge (pv 0) (pe_op u_pow pe_int pe_int) (nomark _)) pa_nil)) pa_nil)))))))
theorem ok_law_roll (T : Txt K mg a) : FnOk P w K mg base (L2.CX P w) 1 a.f_law_roll a.fd_law_roll ["dice", "many"] (sp_law_roll K a) := by
  refine FunD.ok T.fn_law_roll sc_law_roll (fun _ _ _ _ h => h.1) (fun cdv A outer s H vs Q E hr h => ⟨t_law_roll K a E, ?_, pure_law_roll T h⟩)
  have hu := hr.units
  exact (pss_cons (ps_if (PW.pt (pw_or (pt_cmpR (u_eq hu) (pe_ix (u_ix hu) (pv 0) pe_int (fun _ _ => rfl)) pe_int (nomark _)) (pw_or1 (PW.pt (pw_and (pt_cmpR (u_eq hu) (pe_ix (u_ix hu) (pv 0) pe_int (fun _ _ => rfl)) pe_int (nomark _)) (pw_and1 (pt_cmpR u_gt (pe_ix (u_ix hu) (pv 0) pe_int (fun _ _ => rfl)) pe_int (nomark _)))))))) (pss_cons (ps_set (i := 2) sc_law_roll.nd rfl (by first | exact Or.inl rfl | exact Or.inr rfl) (pe_op u_mod (pe_callTy call_int1 (by rfl) T.no_int (by decide +kernel) (pa_cons (pe_ix (u_ix hu) (pv 0) pe_int (fun _ _ => rfl)) pa_nil)) (pv 1))) (pss_cons (ps_asg (pe_op u_div (pe_ix (u_ix hu) (pv 0) pe_int (fun _ _ => rfl)) (pv 1)) (pg_sub (pv 0) pe_int (u_set hu))) (pss_one (ps_ret (pv 2))))) pss_nil) (pss_cons (ps_asg pe_int (pg_sub (pv 0) pe_int (u_set hu))) (pss_cons (ps_if (pt_cmpR u_gt (pv 1) pe_int (nomark _)) pss_never pss_nil) (pss_cons (ps_asg (pe_op u_mod (pe_callTy call_int1 (by rfl) T.no_int (by decide +kernel) (pa_cons (pe_op u_add (pe_op u_add (pe_op u_mul (pe_ix (u_ix hu) (pv 0) pe_int (fun _ _ => rfl)) pe_int) (pe_op u_mul (pe_ix (u_ix hu) (pv 0) pe_int (fun _ _ => rfl)) pe_int)) pe_int) pa_nil)) pe_int) (pg_sub (pv 0) pe_int (u_set hu))) (pss_cons (ps_asg (pe_op u_add (pe_ix (u_ix hu) (pv 0) pe_int (fun _ _ => rfl)) pe_int) (pg_sub (pv 0) pe_int (u_set hu))) (pss_one (ps_ret (pe_op u_mod (pe_callTy call_int1 (by rfl) T.no_int (by decide +kernel) (pa_cons (pe_op u_div (pe_ix (u_ix hu) (pv 0) pe_int (fun _ _ => rfl)) pe_int) pa_nil)) (pv 1)))))))))
theorem ok_law_rounds (T : Txt K mg a) (G_law_dice : FnOk P w K mg base (L2.CX P w) 1 a.f_law_dice a.fd_law_dice ["cell"] (sp_law_dice K a)) : FnOk P w K mg base (L2.CX P w) 2 a.f_law_rounds a.fd_law_rounds ["script", "most"] (sp_law_rounds K a) := by
  refine FunD.ok T.fn_law_rounds sc_law_rounds (fun _ _ _ _ h => h.1) (fun cdv A outer s H vs Q E hr h => ⟨t_law_rounds K a E, ?_, pure_law_rounds T h⟩)
  have hu := hr.units
  have hr_law_dice := hr.mono (show 1 ≤ 1 by decide)
  exact (pss_cons (ps_set (i := 2) sc_law_rounds.nd rfl (by first | exact Or.inl rfl | exact Or.inr rfl) (pe_slice u_sl (pv 0) po_none (po_some (pv 1)))) (pss_cons (ps_if (pt_cmpR (u_eq hu) (pv 2) (pe_lst pa_nil) (nomark _)) (pss_one (ps_set (i := 2) sc_law_rounds.nd rfl (by first | exact Or.inl rfl | exact Or.inr rfl) (pe_lst (pa_cons pe_int pa_nil)))) pss_nil) (pss_one (ps_ret (pe_lc (own := [("cell", 3)]) (g := (gName 3)) (tt := tYes) rfl sc_law_rounds.nd (pi_list (pv 2)) (blkOk_by (N := N_law_rounds) (sc := defScope s_law_rounds) (by decide +kernel)) (fun _ _ _ _ _ => (pg_name (i := 3) sc_law_rounds.nd rfl (by first | exact Or.inl rfl | exact Or.inr rfl))) (fun _ _ _ _ _ => pts_nil) (fun _ _ _ _ _ => (pe_call G_law_dice hr_law_dice rfl T.mg_law_dice T.fn_law_dice.kp T.bi_law_dice .nil passL (pa_cons (pv 3) pa_nil))))))))
theorem fno_law : ∀ (j : Nat) (d : LamD), F_law[j]? = some d → noOwn d.sc = true := by
  rintro (_|_|_|_|_|_) d hj <;> cases hj <;> decide +kernel
theorem fbi_law : ∀ (j : Nat) (d : LamD), F_law[j]? = some d → ∀ (c' : Addr) (pm ctv : Value), bindArgs (PySem.W.kla_fn "<lambda>" (lamq "law") d.ps d.body d.sc [] pm (.ref c') ctv) ⟨[], []⟩ = pure [] := by
  rintro (_|_|_|_|_|_) d hj <;> cases hj <;> (intros; rfl)
theorem ok_law (T : Txt K mg a) (G_Field__init : FnOk P w K mg base (L2.CX P w) 2 a.f_Field__init a.fd_Field__init ["self", "text"] (sp_Field__init K a)) (G_Field_chosen : FnOk P w K mg base (L2.CX P w) 2 a.f_Field_chosen a.fd_Field_chosen ["self"] (sp_Field_chosen K a)) (G_Field_drop : FnOk P w K mg base (L2.CX P w) 2 a.f_Field_drop a.fd_Field_drop ["self", "behind"] (sp_Field_drop K a)) (G_Field_go : FnOk P w K mg base (L2.CX P w) 1 a.f_Field_go a.fd_Field_go ["self", "place", "selects"] (sp_Field_go K a)) (G_Field_put : FnOk P w K mg base (L2.CX P w) 2 a.f_Field_put a.fd_Field_put ["self", "text"] (sp_Field_put K a)) (G_Field_redo : FnOk P w K mg base (L2.CX P w) 1 a.f_Field_redo a.fd_Field_redo ["self"] (sp_Field_redo K a)) (G_Field_select_word : FnOk P w K mg base (L2.CX P w) 1 a.f_Field_select_word a.fd_Field_select_word ["self", "place"] (sp_Field_select_word K a)) (G_Field_shown : FnOk P w K mg base (L2.CX P w) 1 a.f_Field_shown a.fd_Field_shown ["self"] (sp_Field_shown K a)) (G_Field_undo : FnOk P w K mg base (L2.CX P w) 1 a.f_Field_undo a.fd_Field_undo ["self"] (sp_Field_undo K a)) (G_check_field : FnOk P w K mg base (L2.CX P w) 1 a.f_check_field a.fd_check_field ["text"] (sp_check_field K a)) (G_law_roll : FnOk P w K mg base (L2.CX P w) 1 a.f_law_roll a.fd_law_roll ["dice", "many"] (sp_law_roll K a)) (G_law_rounds : FnOk P w K mg base (L2.CX P w) 2 a.f_law_rounds a.fd_law_rounds ["script", "most"] (sp_law_rounds K a)) (TB_law : TabB base mg a.cc_law a.tb_law) : FnOk P w K mg base (L2.CX P w) 6 a.f_law a.fd_law ["script"] (sp_law K a) := by
  refine FunD.okC T.fn_law sc_law (fun _ _ _ _ h => h.1) (fun cdv A outer s H vs Q E hr hcc h => ⟨t_law K a E, ?_, pure_law T h⟩)
  have hu := hr.units
  have hm_Field__init := hr.mono (show 3 ≤ 5 by decide)
  have hr_Field_chosen := hr.mono (show 2 ≤ 5 by decide)
  have hr_Field_drop := hr.mono (show 2 ≤ 5 by decide)
  have hr_Field_redo := hr.mono (show 1 ≤ 5 by decide)
  have hr_Field_select_word := hr.mono (show 1 ≤ 5 by decide)
  have hr_Field_shown := hr.mono (show 1 ≤ 5 by decide)
  have hr_Field_undo := hr.mono (show 1 ≤ 5 by decide)
  have hr_check_field := hr.mono (show 1 ≤ 5 by decide)
  have hr_law_roll := hr.mono (show 1 ≤ 5 by decide)
  have hr_law_rounds := hr.mono (show 2 ≤ 5 by decide)
  obtain ⟨ds_Field_go_2, vd_Field_go_2, bd_Field_go_2⟩ := T.bi_Field_go_2
  have hcode : cdv = .ref a.cc_law := hcc.symm.trans T.cd_law
  subst hcode
  have hr_lam := hr.mono (show 3 + 2 ≤ 5 by decide)
  obtain ⟨oc1, od1, dV1, kV1, doc1, pm1, an1, cd1, ct1, osl1, efd, lkT, hcdT, _, _⟩ := T.fn_law_told.ex
  have biT := T.bi_law_told
  rw [efd] at lkT biT
  have hfam : ∀ (Xc : Cx), Xc.mg = mg → Xc.K = K → Xc.prog = P → Xc.w = w → Xc.base = base → ∀ (j : Nat) (d : LamD), F_law[j]? = some d → ∀ (A : Around) (outer : List Env) (s : Shared) (H : Hp) (E : XK) (f c' : Addr), Room 3 (A.deeper (PySem.W.envX (lamq "law") d.sc s.heap.objs.size f (.ref c') [])) → PE (lamCx0 Xc (lamq "law") A outer s H E d.sc f c') d.body (TF_law K a j E) := by
    intro Xc e1 e2 e3 e4 e5
    subst e1 e2 e3 e4 e5
    rintro (_|_|_|_|_|_) d hj A outer s H E f c' hrl
    · cases hj; exact (pe_call G_check_field (hrl.mono (by decide)) rfl T.mg_check_field T.fn_check_field.kp T.bi_check_field .nil passLam0 (pa_cons pe_int pa_nil))
    · cases hj; exact (pe_meth (pe_make T.mk_Field G_Field__init (hrl.mono (by decide)) rfl T.mgc_Field T.bi_Field__init .nil passLam0 (pa_cons pe_str pa_nil)) T.cl_Field T.me_Field_select_word G_Field_select_word (hrl.mono (by decide)) T.bi_Field_select_word .nil passLam0 (pa_cons pe_int pa_nil))
    · cases hj; exact (pe_meth (pe_make T.mk_Field G_Field__init (hrl.mono (by decide)) rfl T.mgc_Field T.bi_Field__init .nil passLam0 (pa_cons pe_str pa_nil)) T.cl_Field T.me_Field_go G_Field_go (hrl.mono (by decide)) bd_Field_go_2 vd_Field_go_2 passLam0 (pa_cons (pe_un un_neg pe_int) pa_nil))
    · cases hj; exact (pe_make T.mk_Field G_Field__init (hrl.mono (by decide)) rfl T.mgc_Field T.bi_Field__init .nil passLam0 (pa_cons pe_str pa_nil))
    · cases hj; exact (pe_make T.mk_Field G_Field__init (hrl.mono (by decide)) rfl T.mgc_Field T.bi_Field__init .nil passLam0 (pa_cons (pe_op u_mul pe_str pe_int) pa_nil))
    · cases hj
  exact (pss_cons (ps_for (passes_of rfl) rfl (pi_list (pe_call G_law_rounds hr_law_rounds rfl T.mg_law_rounds T.fn_law_rounds.kp T.bi_law_rounds .nil passX (pa_cons (pv 0) (pa_cons pe_int pa_nil)))) (pg_name (i := 1) sc_law.nd rfl (by first | exact Or.inl rfl | exact Or.inr rfl)) (pss_cons (ps_set (i := 2) sc_law.nd rfl (by first | exact Or.inl rfl | exact Or.inr rfl) (pe_ix (u_ix hu) (pe_lst (pa_cons pe_str (pa_cons pe_str (pa_cons (pe_op u_mul pe_str pe_int) (pa_cons pe_str pa_nil))))) (pe_call G_law_roll hr_law_roll rfl T.mg_law_roll T.fn_law_roll.kp T.bi_law_roll .nil passX (pa_cons (pv 1) (pa_cons pe_int pa_nil))) (fun _ _ => rfl))) (pss_cons (ps_asg (pe_tup (pa_cons (pe_make T.mk_Field G_Field__init hm_Field__init rfl T.mgc_Field T.bi_Field__init .nil passX (pa_cons (pv 2) pa_nil)) (pa_cons (pe_tup (pa_cons (pv 2) (pa_cons (pe_callB u_len (by rfl) T.no_len (by decide +kernel) (pa_cons (pv 2) pa_nil)) (pa_cons (pe_callB u_len (by rfl) T.no_len (by decide +kernel) (pa_cons (pv 2) pa_nil)) pa_nil)))) (pa_cons (pe_lst pa_nil) (pa_cons (pe_lst pa_nil) (pa_cons pe_bl pa_nil)))))) (pg_tup rfl (pgs_cons (pg_name (i := 3) sc_law.nd rfl (by first | exact Or.inl rfl | exact Or.inr rfl)) (pgs_cons (pg_name (i := 4) sc_law.nd rfl (by first | exact Or.inl rfl | exact Or.inr rfl)) (pgs_cons (pg_name (i := 5) sc_law.nd rfl (by first | exact Or.inl rfl | exact Or.inr rfl)) (pgs_cons (pg_name (i := 6) sc_law.nd rfl (by first | exact Or.inl rfl | exact Or.inr rfl)) (pgs_cons (pg_name (i := 7) sc_law.nd rfl (by first | exact Or.inl rfl | exact Or.inr rfl)) pgs_nil))))))) (pss_cons (ps_for (passes_of rfl) rfl (pi_range1 rfl T.no_range (pa_cons (pe_call G_law_roll hr_law_roll rfl T.mg_law_roll T.fn_law_roll.kp T.bi_law_roll .nil passX (pa_cons (pv 1) (pa_cons pe_int pa_nil))) pa_nil)) (pg_name (i := 8) sc_law.nd rfl (by first | exact Or.inl rfl | exact Or.inr rfl)) (pss_cons (ps_asg (pe_tup (pa_cons (pe_call G_law_roll hr_law_roll rfl T.mg_law_roll T.fn_law_roll.kp T.bi_law_roll .nil passX (pa_cons (pv 1) (pa_cons pe_int pa_nil))) (pa_cons (pv 4) pa_nil))) (pg_tup rfl (pgs_cons (pg_name (i := 9) sc_law.nd rfl (by first | exact Or.inl rfl | exact Or.inr rfl)) (pgs_cons (pg_tup rfl (pgs_cons (pg_name (i := 10) sc_law.nd rfl (by first | exact Or.inl rfl | exact Or.inr rfl)) (pgs_cons (pg_name (i := 11) sc_law.nd rfl (by first | exact Or.inl rfl | exact Or.inr rfl)) (pgs_cons (pg_name (i := 12) sc_law.nd rfl (by first | exact Or.inl rfl | exact Or.inr rfl)) pgs_nil)))) pgs_nil)))) (pss_cons (ps_par (i := 13) (j := 14) rfl sc_law.nd rfl rfl (by decide) rfl rfl (pa_cons (pe_callB (call_min2 rfl) (by rfl) T.no_min (by decide +kernel) (pa_cons (pv 11) (pa_cons (pv 12) pa_nil))) (pa_cons (pe_callB (call_max2 rfl) (by rfl) T.no_max (by decide +kernel) (pa_cons (pv 11) (pa_cons (pv 12) pa_nil))) pa_nil)) (by rfl)) (pss_cons (ps_if (pt_cmpR u_lt (pv 9) pe_int (nomark _)) (pss_cons (ps_set (i := 15) sc_law.nd rfl (by first | exact Or.inl rfl | exact Or.inr rfl) (pe_ix (u_ix hu) (pe_lst (pa_cons pe_str (pa_cons pe_str (pa_cons pe_str (pa_cons pe_str (pa_cons pe_str (pa_cons pe_str (pa_cons (pe_op u_mul pe_str pe_int) pa_nil)))))))) (pe_call G_law_roll hr_law_roll rfl T.mg_law_roll T.fn_law_roll.kp T.bi_law_roll .nil passX (pa_cons (pv 1) (pa_cons pe_int pa_nil))) (fun _ _ => rfl))) (pss_cons (ps_set (i := 16) sc_law.nd rfl (by first | exact Or.inl rfl | exact Or.inr rfl) (pe_op u_add (pe_op u_add (pe_slice u_sl (pv 10) po_none (po_some (pv 13))) (pv 15)) (pe_slice u_sl (pv 10) (po_some (pv 14)) po_none))) (pss_cons (ps_if (pt_cmpR (u_ne hu) (pe_cmpR (u_eq hu) (pe_lamP (t := fun E => (tMeth a.c_Field "put" (sp_Field_put K a) [] E (tVar 3) (tCons (tVar 15) tNil))) rfl T.mg_law_told T.fn_law_told.kp lkT hcdT biT sc_law_told rfl (by first | exact Or.inl rfl | exact Or.inr (Or.inl rfl)) (told_gives rfl T.mgc_ViewFault (by decide) (fun _ => rfl)) TB_law rfl hr_lam (lamS_by (sc := defScope s_law) (by decide +kernel)) rfl (by intros; rfl) (fun A outer s H E f c' hrl => (pe_meth (pv 3) T.cl_Field T.me_Field_put G_Field_put (hrl.mono (by decide)) T.bi_Field_put .nil passLam (pa_cons (pv 15) pa_nil)))) pe_str (nomark _)) (pe_cmpR u_gt (pe_callB u_len (by rfl) T.no_len (by decide +kernel) (pa_cons (pv 16) pa_nil)) pe_int (nomark _)) (nomark _)) (pss_one (ps_ret pe_bl)) pss_nil) (pss_one (ps_if (pt_cmpR u_le (pe_callB u_len (by rfl) T.no_len (by decide +kernel) (pa_cons (pv 16) pa_nil)) pe_int (nomark _)) (pss_cons (ps_set (i := 17) sc_law.nd rfl (by first | exact Or.inl rfl | exact Or.inr rfl) (pe_and (pv 7) (pe_and (pe_cmpR (u_eq hu) (pe_callB u_len (by rfl) T.no_len (by decide +kernel) (pa_cons (pv 15) pa_nil)) pe_int (nomark _)) (pe_and (pe_cmpR (u_ne hu) (pv 15) pe_str (nomark _)) (pe_one (pe_cmpR (u_eq hu) (pv 13) (pv 14) (nomark _))))))) (pss_cons (ps_par (i := 5) (j := 6) rfl sc_law.nd rfl rfl (by decide) rfl rfl (pa_cons (pe_ifExp (pt_tru (pv 17)) (pv 5) (pe_slice u_sl (pe_op u_add (pv 5) (pe_lst (pa_cons (pv 4) pa_nil))) (po_some (pe_un un_neg pe_int)) po_none)) (pa_cons (pe_lst pa_nil) pa_nil)) (by rfl)) (pss_one (ps_par (i := 4) (j := 7) rfl sc_law.nd rfl rfl (by decide) rfl rfl (pa_cons (pe_tup (pa_cons (pv 16) (pa_cons (pe_op u_add (pv 13) (pe_callB u_len (by rfl) T.no_len (by decide +kernel) (pa_cons (pv 15) pa_nil))) (pa_cons (pe_op u_add (pv 13) (pe_callB u_len (by rfl) T.no_len (by decide +kernel) (pa_cons (pv 15) pa_nil))) pa_nil)))) (pa_cons (pe_cmpR (u_eq hu) (pe_callB u_len (by rfl) T.no_len (by decide +kernel) (pa_cons (pv 15) pa_nil)) pe_int (nomark _)) pa_nil)) (by rfl))))) pss_nil))))) (pss_one (ps_if (pt_cmpR u_lt (pv 9) pe_int (nomark _)) (pss_cons (ps_set (i := 18) sc_law.nd rfl (by first | exact Or.inl rfl | exact Or.inr rfl) (pe_cmpR (u_eq hu) (pv 9) pe_int (nomark _))) (pss_cons (ps_expr (pe_meth (pv 3) T.cl_Field T.me_Field_drop G_Field_drop hr_Field_drop T.bi_Field_drop .nil passX (pa_cons (pv 18) pa_nil))) (pss_cons (ps_asg (pe_ifExp (pt_cmpR u_lt (pv 13) (pv 14) (nomark _)) (pe_tup (pa_cons (pv 13) (pa_cons (pv 14) pa_nil))) (pe_ifExp (pt_tru (pv 18)) (pe_tup (pa_cons (pv 13) (pa_cons (pe_callB (call_min2 rfl) (by rfl) T.no_min (by decide +kernel) (pa_cons (pe_callB u_len (by rfl) T.no_len (by decide +kernel) (pa_cons (pv 10) pa_nil)) (pa_cons (pe_op u_add (pv 14) pe_int) pa_nil))) pa_nil))) (pe_tup (pa_cons (pe_callB (call_max2 rfl) (by rfl) T.no_max (by decide +kernel) (pa_cons pe_int (pa_cons (pe_op u_sub (pv 13) pe_int) pa_nil))) (pa_cons (pv 14) pa_nil))))) (pg_tup rfl (pgs_cons (pg_name (i := 19) sc_law.nd rfl (by first | exact Or.inl rfl | exact Or.inr rfl)) (pgs_cons (pg_name (i := 20) sc_law.nd rfl (by first | exact Or.inl rfl | exact Or.inr rfl)) pgs_nil)))) (pss_cons (ps_if (pt_cmpR u_lt (pv 19) (pv 20) (nomark _)) (pss_one (ps_par3 (i := 5) (j := 6) (l := 4) rfl sc_law.nd rfl rfl rfl (by decide) (by decide) (by decide) rfl rfl rfl (pa_cons (pe_slice u_sl (pe_op u_add (pv 5) (pe_lst (pa_cons (pv 4) pa_nil))) (po_some (pe_un un_neg pe_int)) po_none) (pa_cons (pe_lst pa_nil) (pa_cons (pe_tup (pa_cons (pe_op u_add (pe_slice u_sl (pv 10) po_none (po_some (pv 19))) (pe_slice u_sl (pv 10) (po_some (pv 20)) po_none)) (pa_cons (pv 19) (pa_cons (pv 19) pa_nil)))) pa_nil))) (by rfl))) pss_nil) (pss_one (ps_set (i := 7) sc_law.nd rfl (by first | exact Or.inl rfl | exact Or.inr rfl) pe_bl)))))) (pss_one (ps_if (pt_cmpR u_lt (pv 9) pe_int (nomark _)) (pss_cons (ps_asg (pe_tup (pa_cons (pe_call G_law_roll hr_law_roll rfl T.mg_law_roll T.fn_law_roll.kp T.bi_law_roll .nil passX (pa_cons (pv 1) (pa_cons (pe_op u_add (pe_callB u_len (by rfl) T.no_len (by decide +kernel) (pa_cons (pv 10) pa_nil)) pe_int) pa_nil))) (pa_cons (pe_cmpR (u_eq hu) (pe_call G_law_roll hr_law_roll rfl T.mg_law_roll T.fn_law_roll.kp T.bi_law_roll .nil passX (pa_cons (pv 1) (pa_cons pe_int pa_nil))) pe_int (nomark _)) pa_nil))) (pg_tup rfl (pgs_cons (pg_name (i := 21) sc_law.nd rfl (by first | exact Or.inl rfl | exact Or.inr rfl)) (pgs_cons (pg_name (i := 22) sc_law.nd rfl (by first | exact Or.inl rfl | exact Or.inr rfl)) pgs_nil)))) (pss_cons (ps_if (pt_cmpR (u_ne hu) (pe_cmpR (u_eq hu) (pe_lamP (t := fun E => (tMeth a.c_Field "go" (sp_Field_go K a) [] E (tVar 3) (tCons (tVar 21) (tCons (tVar 22) tNil)))) rfl T.mg_law_told T.fn_law_told.kp lkT hcdT biT sc_law_told rfl (by first | exact Or.inl rfl | exact Or.inr (Or.inl rfl)) (told_gives rfl T.mgc_ViewFault (by decide) (fun _ => rfl)) TB_law rfl hr_lam (lamS_by (sc := defScope s_law) (by decide +kernel)) rfl (by intros; rfl) (fun A outer s H E f c' hrl => (pe_meth (pv 3) T.cl_Field T.me_Field_go G_Field_go (hrl.mono (by decide)) T.bi_Field_go .nil passLam (pa_cons (pv 21) (pa_cons (pv 22) pa_nil))))) pe_str (nomark _)) (pe_cmpR u_gt (pv 21) (pe_callB u_len (by rfl) T.no_len (by decide +kernel) (pa_cons (pv 10) pa_nil)) (nomark _)) (nomark _)) (pss_one (ps_ret pe_bl)) pss_nil) (pss_one (ps_if (pt_cmpR u_le (pv 21) (pe_callB u_len (by rfl) T.no_len (by decide +kernel) (pa_cons (pv 10) pa_nil)) (nomark _)) (pss_one (ps_par (i := 4) (j := 7) rfl sc_law.nd rfl rfl (by decide) rfl rfl (pa_cons (pe_tup (pa_cons (pv 10) (pa_cons (pe_ifExp (pt_tru (pv 22)) (pv 11) (pv 21)) (pa_cons (pv 21) pa_nil)))) (pa_cons pe_bl pa_nil)) (by rfl))) pss_nil)))) (pss_one (ps_if (pt_cmpR (u_eq hu) (pv 9) pe_int (nomark _)) (pss_cons (ps_set (i := 21) sc_law.nd rfl (by first | exact Or.inl rfl | exact Or.inr rfl) (pe_call G_law_roll hr_law_roll rfl T.mg_law_roll T.fn_law_roll.kp T.bi_law_roll .nil passX (pa_cons (pv 1) (pa_cons (pe_op u_add (pe_callB u_len (by rfl) T.no_len (by decide +kernel) (pa_cons (pv 10) pa_nil)) pe_int) pa_nil)))) (pss_cons (ps_expr (pe_meth (pv 3) T.cl_Field T.me_Field_select_word G_Field_select_word hr_Field_select_word T.bi_Field_select_word .nil passX (pa_cons (pv 21) pa_nil))) (pss_cons (ps_par (i := 23) (j := 24) rfl sc_law.nd rfl rfl (by decide) rfl rfl (pa_cons (pe_split (pe_slice u_sl (pv 10) po_none (po_some (pv 21))) pe_str) (pa_cons (pe_split (pe_slice u_sl (pv 10) (po_some (pv 21)) po_none) pe_str) pa_nil)) (by rfl)) (pss_one (ps_par (i := 4) (j := 7) rfl sc_law.nd rfl rfl (by decide) rfl rfl (pa_cons (pe_tup (pa_cons (pv 10) (pa_cons (pe_op u_sub (pv 21) (pe_callB u_len (by rfl) T.no_len (by decide +kernel) (pa_cons (pe_ix (u_ix hu) (pv 23) (pe_op u_sub (pe_callB u_len (by rfl) T.no_len (by decide +kernel) (pa_cons (pv 23) pa_nil)) pe_int) (fun _ _ => rfl)) pa_nil))) (pa_cons (pe_op u_add (pv 21) (pe_callB u_len (by rfl) T.no_len (by decide +kernel) (pa_cons (pe_ix (u_ix hu) (pv 24) pe_int (fun _ _ => rfl)) pa_nil))) pa_nil)))) (pa_cons pe_bl pa_nil)) (by rfl)))))) (pss_one (ps_if (pt_cmpR (u_eq hu) (pv 9) pe_int (nomark _)) (pss_cons (ps_if (pt_cmpR (u_ne hu) (pe_meth0 (pv 3) T.cl_Field T.me_Field_undo G_Field_undo hr_Field_undo T.bi_Field_undo .nil passX) (pe_cmpR (u_ne hu) (pv 5) (pe_lst pa_nil) (nomark _)) (nomark _)) (pss_one (ps_ret pe_bl)) pss_nil) (pss_one (ps_if (pt_cmpR (u_ne hu) (pv 5) (pe_lst pa_nil) (nomark _)) (pss_one (ps_asg (pe_tup (pa_cons (pe_slice u_sl (pv 5) po_none (po_some (pe_un un_neg pe_int))) (pa_cons (pe_op u_add (pv 6) (pe_lst (pa_cons (pv 4) pa_nil))) (pa_cons (pe_ix (u_ix hu) (pv 5) (pe_op u_sub (pe_callB u_len (by rfl) T.no_len (by decide +kernel) (pa_cons (pv 5) pa_nil)) pe_int) (fun _ _ => rfl)) (pa_cons pe_bl pa_nil))))) (pg_tup rfl (pgs_cons (pg_name (i := 5) sc_law.nd rfl (by first | exact Or.inl rfl | exact Or.inr rfl)) (pgs_cons (pg_name (i := 6) sc_law.nd rfl (by first | exact Or.inl rfl | exact Or.inr rfl)) (pgs_cons (pg_name (i := 4) sc_law.nd rfl (by first | exact Or.inl rfl | exact Or.inr rfl)) (pgs_cons (pg_name (i := 7) sc_law.nd rfl (by first | exact Or.inl rfl | exact Or.inr rfl)) pgs_nil))))))) pss_nil))) (pss_cons (ps_if (pt_cmpR (u_ne hu) (pe_meth0 (pv 3) T.cl_Field T.me_Field_redo G_Field_redo hr_Field_redo T.bi_Field_redo .nil passX) (pe_cmpR (u_ne hu) (pv 6) (pe_lst pa_nil) (nomark _)) (nomark _)) (pss_one (ps_ret pe_bl)) pss_nil) (pss_one (ps_if (pt_cmpR (u_ne hu) (pv 6) (pe_lst pa_nil) (nomark _)) (pss_one (ps_asg (pe_tup (pa_cons (pe_op u_add (pv 5) (pe_lst (pa_cons (pv 4) pa_nil))) (pa_cons (pe_slice u_sl (pv 6) po_none (po_some (pe_un un_neg pe_int))) (pa_cons (pe_ix (u_ix hu) (pv 6) (pe_op u_sub (pe_callB u_len (by rfl) T.no_len (by decide +kernel) (pa_cons (pv 6) pa_nil)) pe_int) (fun _ _ => rfl)) (pa_cons pe_bl pa_nil))))) (pg_tup rfl (pgs_cons (pg_name (i := 5) sc_law.nd rfl (by first | exact Or.inl rfl | exact Or.inr rfl)) (pgs_cons (pg_name (i := 6) sc_law.nd rfl (by first | exact Or.inl rfl | exact Or.inr rfl)) (pgs_cons (pg_name (i := 4) sc_law.nd rfl (by first | exact Or.inl rfl | exact Or.inr rfl)) (pgs_cons (pg_name (i := 7) sc_law.nd rfl (by first | exact Or.inl rfl | exact Or.inr rfl)) pgs_nil))))))) pss_nil)))))))))))) (pss_cons (ps_asg (pv 4) (pg_tup rfl (pgs_cons (pg_name (i := 10) sc_law.nd rfl (by first | exact Or.inl rfl | exact Or.inr rfl)) (pgs_cons (pg_name (i := 11) sc_law.nd rfl (by first | exact Or.inl rfl | exact Or.inr rfl)) (pgs_cons (pg_name (i := 12) sc_law.nd rfl (by first | exact Or.inl rfl | exact Or.inr rfl)) pgs_nil))))) (pss_one (ps_if (PW.pt (pw_or (pt_cmpR (u_ne hu) (pe_meth0 (pv 3) T.cl_Field T.me_Field_shown G_Field_shown hr_Field_shown T.bi_Field_shown .nil passX) (pe_tup (pa_cons (pv 10) (pa_cons (pe_callB (call_min2 rfl) (by rfl) T.no_min (by decide +kernel) (pa_cons (pv 11) (pa_cons (pv 12) pa_nil))) (pa_cons (pe_callB (call_max2 rfl) (by rfl) T.no_max (by decide +kernel) (pa_cons (pv 11) (pa_cons (pv 12) pa_nil))) pa_nil)))) (nomark _)) (pw_or (pt_cmpR (u_ne hu) (pe_meth0 (pv 3) T.cl_Field T.me_Field_chosen G_Field_chosen hr_Field_chosen T.bi_Field_chosen .nil passX) (pe_slice u_sl (pv 10) (po_some (pe_callB (call_min2 rfl) (by rfl) T.no_min (by decide +kernel) (pa_cons (pv 11) (pa_cons (pv 12) pa_nil)))) (po_some (pe_callB (call_max2 rfl) (by rfl) T.no_max (by decide +kernel) (pa_cons (pv 11) (pa_cons (pv 12) pa_nil))))) (nomark _)) (pw_or1 (pt_cmpR (u_ne hu) (pe_tup (pa_cons (pe_fld (pv 3) rfl) (pa_cons (pe_fld (pv 3) rfl) pa_nil))) (pe_tup (pa_cons (pv 11) (pa_cons (pv 12) pa_nil))) (nomark _)))))) (pss_one (ps_ret pe_bl)) pss_nil))))))) (pss_cons (ps_for (passes_of rfl) rfl (pi_range1 rfl T.no_range (pa_cons pe_int pa_nil)) (pg_name (i := 25) sc_law.nd rfl (by first | exact Or.inl rfl | exact Or.inr rfl)) (pss_cons (ps_if (pt_cmpR (u_ne hu) (pe_meth0 (pv 3) T.cl_Field T.me_Field_undo G_Field_undo hr_Field_undo T.bi_Field_undo .nil passX) (pe_cmpR (u_ne hu) (pv 5) (pe_lst pa_nil) (nomark _)) (nomark _)) (pss_one (ps_ret pe_bl)) pss_nil) (pss_one (ps_asg (pe_ifExp (pt_cmpR (u_ne hu) (pv 5) (pe_lst pa_nil) (nomark _)) (pe_tup (pa_cons (pe_ix (u_ix hu) (pv 5) (pe_op u_sub (pe_callB u_len (by rfl) T.no_len (by decide +kernel) (pa_cons (pv 5) pa_nil)) pe_int) (fun _ _ => rfl)) (pa_cons (pe_slice u_sl (pv 5) po_none (po_some (pe_un un_neg pe_int))) pa_nil))) (pe_tup (pa_cons (pv 4) (pa_cons (pv 5) pa_nil)))) (pg_tup rfl (pgs_cons (pg_name (i := 4) sc_law.nd rfl (by first | exact Or.inl rfl | exact Or.inr rfl)) (pgs_cons (pg_name (i := 5) sc_law.nd rfl (by first | exact Or.inl rfl | exact Or.inr rfl)) pgs_nil))))))) (pss_one (ps_if (pt_cmpR (u_ne hu) (pe_fld (pv 3) rfl) (pe_ix (u_ix hu) (pv 4) pe_int (fun _ _ => rfl)) (nomark _)) (pss_one (ps_ret pe_bl)) pss_nil))))))) (pss_cons (ps_set (i := 26) sc_law.nd rfl (by first | exact Or.inl rfl | exact Or.inr rfl) (pe_lst (pa_cons (pe_lamV (d := D_law_4) TB_law rfl rfl (by decide +kernel)) (pa_cons (pe_lamV (d := D_law_3) TB_law rfl rfl (by decide +kernel)) (pa_cons (pe_lamV (d := D_law_2) TB_law rfl rfl (by decide +kernel)) (pa_cons (pe_lamV (d := D_law_1) TB_law rfl rfl (by decide +kernel)) (pa_cons (pe_lamV (d := D_law_0) TB_law rfl rfl (by decide +kernel)) pa_nil))))))) (pss_one (ps_ret (pe_and (pe_cmpR (u_eq hu) (pe_lc (own := [("f", 27)]) (g := (gName 27)) (tt := (tTest (tOp (rNeU K) (tToldV K a.c_ViewFault "ViewFault" (lamq "law") 28 27 F_law (TF_law K a)) (tC (.str "ViewFault"))))) rfl sc_law.nd (pi_list (pv 26)) (blkOk_by (N := N_law) (sc := defScope s_law) (by decide +kernel)) (fun _ _ _ _ _ => (pg_name (i := 27) sc_law.nd rfl (by first | exact Or.inl rfl | exact Or.inr rfl))) (fun _ _ _ _ _ => (pts_one (pt_cmpR (u_ne hu) (pe_toldV (i := 27) (fam := F_law) (t := TF_law K a) rfl T.mg_law_told T.fn_law_told.kp lkT hcdT biT sc_law_told rfl (by first | exact Or.inl rfl | exact Or.inr (Or.inl rfl)) (told_gives rfl T.mgc_ViewFault (by decide) (fun _ => rfl)) rfl (by first | exact Or.inl rfl | exact Or.inr (Or.inl rfl) | exact Or.inr (Or.inr rfl)) hr_lam fno_law fbi_law (hfam _ rfl rfl rfl rfl rfl)) pe_str (nomark _)))) (fun _ _ _ _ _ => pe_int)) (pe_lst pa_nil) (nomark _)) (pe_one (pe_cmpR u_isN (pe_call G_check_field hr_check_field rfl T.mg_check_field T.fn_check_field.kp T.bi_check_field .nil passX (pa_cons (pe_op u_mul pe_str pe_int) pa_nil)) pe_non (nomark _))))))))
end
end Wk
namespace Wk
open PySem PySem.Spec PyProof.Rows L2 Ph
open LamX (TabB)
section
variable {P : Program} {w : World} {K : PySem.W.Frag} {mg : Str → Option Value} {base : Heap} {a : Adr}
theorem ok_all (T : Txt K mg a) (TB_check_field : TabB base mg a.cc_check_field a.tb_check_field) (TB_law : TabB base mg a.cc_law a.tb_law) : FnOk P w K mg base (L2.CX P w) 6 a.f_law a.fd_law ["script"] (sp_law K a) := by
  have G_check_field : FnOk P w K mg base (L2.CX P w) 1 a.f_check_field a.fd_check_field ["text"] (sp_check_field K a) := ok_check_field T TB_check_field
  have G_Field__init : FnOk P w K mg base (L2.CX P w) 2 a.f_Field__init a.fd_Field__init ["self", "text"] (sp_Field__init K a) := ok_Field__init T G_check_field
  have G_Field_shown : FnOk P w K mg base (L2.CX P w) 1 a.f_Field_shown a.fd_Field_shown ["self"] (sp_Field_shown K a) := ok_Field_shown T 
  have G_Field_chosen : FnOk P w K mg base (L2.CX P w) 2 a.f_Field_chosen a.fd_Field_chosen ["self"] (sp_Field_chosen K a) := ok_Field_chosen T G_Field_shown
  have G_Field_keep : FnOk P w K mg base (L2.CX P w) 1 a.f_Field_keep a.fd_Field_keep ["self"] (sp_Field_keep K a) := ok_Field_keep T 
  have G_Field_drop : FnOk P w K mg base (L2.CX P w) 2 a.f_Field_drop a.fd_Field_drop ["self", "behind"] (sp_Field_drop K a) := ok_Field_drop T G_Field_keep G_Field_shown
  have G_Field_go : FnOk P w K mg base (L2.CX P w) 1 a.f_Field_go a.fd_Field_go ["self", "place", "selects"] (sp_Field_go K a) := ok_Field_go T 
  have G_Field_put : FnOk P w K mg base (L2.CX P w) 2 a.f_Field_put a.fd_Field_put ["self", "text"] (sp_Field_put K a) := ok_Field_put T G_Field_keep G_Field_shown G_check_field
  have G_Field_redo : FnOk P w K mg base (L2.CX P w) 1 a.f_Field_redo a.fd_Field_redo ["self"] (sp_Field_redo K a) := ok_Field_redo T 
  have G_Field_select_word : FnOk P w K mg base (L2.CX P w) 1 a.f_Field_select_word a.fd_Field_select_word ["self", "place"] (sp_Field_select_word K a) := ok_Field_select_word T 
  have G_Field_undo : FnOk P w K mg base (L2.CX P w) 1 a.f_Field_undo a.fd_Field_undo ["self"] (sp_Field_undo K a) := ok_Field_undo T 
  have G_law_roll : FnOk P w K mg base (L2.CX P w) 1 a.f_law_roll a.fd_law_roll ["dice", "many"] (sp_law_roll K a) := ok_law_roll T 
  have G_law_dice : FnOk P w K mg base (L2.CX P w) 1 a.f_law_dice a.fd_law_dice ["cell"] (sp_law_dice K a) := ok_law_dice T 
  have G_law_rounds : FnOk P w K mg base (L2.CX P w) 2 a.f_law_rounds a.fd_law_rounds ["script", "most"] (sp_law_rounds K a) := ok_law_rounds T G_law_dice
  exact ok_law T G_Field__init G_Field_chosen G_Field_drop G_Field_go G_Field_put G_Field_redo G_Field_select_word G_Field_shown G_Field_undo G_check_field G_law_roll G_law_rounds TB_law
theorem cd_of {x qual : Str} {params : Arguments} {body : List Stmt} {scope : Scope} {dvs : List V} {kws : List (Str × V)} {p : Str × Option Str} {fd : FuncData} (F : FunD K x qual params body scope dvs kws (He.fAd K p) fd) : fd.code = .ref (He.cT K p).1 := by
  obtain ⟨oc, od, dV, kV, doc, pm, an, cdv, ct, osl, rfl, lk, hcd, _, _⟩ := F.ex
  obtain ⟨c, rfl⟩ := He.codeIn_ref hcd
  show Value.ref c = .ref (He.codeOf K p)
  rw [He.codeOf_eq lk rfl]
theorem bnd_full {fd : FuncData} {ps : List Str} {dvs : List V} (h : ∃ ds, Vals (dvs.drop dvs.length) ds ∧ Binds K fd ps ds) : Binds K fd ps [] := by
  obtain ⟨ds, v, b⟩ := h
  rw [List.drop_length] at v
  cases v
  exact b
end
def faD_0 : List He.Fa := [.cls "Field", .noat "Field" "text", .noat "Field" "anchor", .noat "Field" "caret", .noat "Field" "back_rows", .noat "Field" "ahead_rows", .noat "Field" "sign_last", .glo "Field", .mkr "Field", .meth "Field" "shown", .meth "Field" "keep", .meth "Field" "put", .meth "Field" "drop", .meth "Field" "go", .meth "Field" "select_word", .meth "Field" "chosen", .meth "Field" "undo", .meth "Field" "redo", .glo "check_field", .glo "_law_dice", .glo "_law_roll", .glo "_law_rounds", .glo "_law_told", .glo "law", .free "abs", .free "any", .free "int", .free "isinstance", .free "len", .free "max"]
def faD_1 : List He.Fa := [.free "min", .free "range", .free "str", .str "LETTERS" "\n !\"#$&'()*+,-./0123456789:;<=>?@ABCDEFGHIJKLMNOPQRSTUVWXYZ[\\]^_`abcdefghijklmnopqrstuvwxyz{|}~", .int "MOST_FIELD" 200, .int "MOST_STEPS_BACK" 50, .glo "ViewFault", .exc "ViewFault", .exm "ViewFault" "ViewFault" true]
def faD : List He.Fa := faD_0 ++ faD_1
def dD_Field__init : He.DefD := ⟨("Field", some "__init__"), "__init__", "Field.__init__", defArgs s_Field__init, defBody s_Field__init, defScope s_Field__init, [(.str "")], []⟩
def dD_Field_shown : He.DefD := ⟨("Field", some "shown"), "shown", "Field.shown", defArgs s_Field_shown, defBody s_Field_shown, defScope s_Field_shown, [], []⟩
def dD_Field_keep : He.DefD := ⟨("Field", some "keep"), "keep", "Field.keep", defArgs s_Field_keep, defBody s_Field_keep, defScope s_Field_keep, [], []⟩
def dD_Field_put : He.DefD := ⟨("Field", some "put"), "put", "Field.put", defArgs s_Field_put, defBody s_Field_put, defScope s_Field_put, [], []⟩
def dD_Field_drop : He.DefD := ⟨("Field", some "drop"), "drop", "Field.drop", defArgs s_Field_drop, defBody s_Field_drop, defScope s_Field_drop, [(.bl false)], []⟩
def dD_Field_go : He.DefD := ⟨("Field", some "go"), "go", "Field.go", defArgs s_Field_go, defBody s_Field_go, defScope s_Field_go, [(.bl false)], []⟩
def dD_Field_select_word : He.DefD := ⟨("Field", some "select_word"), "select_word", "Field.select_word", defArgs s_Field_select_word, defBody s_Field_select_word, defScope s_Field_select_word, [], []⟩
def dD_Field_chosen : He.DefD := ⟨("Field", some "chosen"), "chosen", "Field.chosen", defArgs s_Field_chosen, defBody s_Field_chosen, defScope s_Field_chosen, [], []⟩
def dD_Field_undo : He.DefD := ⟨("Field", some "undo"), "undo", "Field.undo", defArgs s_Field_undo, defBody s_Field_undo, defScope s_Field_undo, [], []⟩
def dD_Field_redo : He.DefD := ⟨("Field", some "redo"), "redo", "Field.redo", defArgs s_Field_redo, defBody s_Field_redo, defScope s_Field_redo, [], []⟩
def dD_check_field : He.DefD := ⟨("check_field", none), "check_field", "check_field", defArgs s_check_field, defBody s_check_field, defScope s_check_field, [], []⟩
def dD_law_dice : He.DefD := ⟨("_law_dice", none), "_law_dice", "_law_dice", defArgs s_law_dice, defBody s_law_dice, defScope s_law_dice, [], []⟩
def dD_law_roll : He.DefD := ⟨("_law_roll", none), "_law_roll", "_law_roll", defArgs s_law_roll, defBody s_law_roll, defScope s_law_roll, [], []⟩
def dD_law_rounds : He.DefD := ⟨("_law_rounds", none), "_law_rounds", "_law_rounds", defArgs s_law_rounds, defBody s_law_rounds, defScope s_law_rounds, [], []⟩
def dD_law_told : He.DefD := ⟨("_law_told", none), "_law_told", "_law_told", defArgs s_law_told, defBody s_law_told, defScope s_law_told, [], []⟩
def dD_law : He.DefD := ⟨("law", none), "law", "law", defArgs s_law, defBody s_law, defScope s_law, [], []⟩
def fnD_0 : List He.DefD := [dD_Field__init, dD_Field_shown, dD_Field_keep, dD_Field_put, dD_Field_drop, dD_Field_go, dD_Field_select_word, dD_Field_chosen, dD_Field_undo, dD_Field_redo, dD_check_field, dD_law_dice, dD_law_roll, dD_law_rounds, dD_law_told, dD_law]
def fnD : List He.DefD := fnD_0
def tfD : List He.Defn := [("check_field", none), ("law", none)]
def exD (K : PySem.W.Frag) : Bool := decide ((tfD.map fun p => (He.cT K p).2).Nodup)
theorem fin {l : PySem.W.OpenLaw} {w : World} {K : PySem.W.Frag} {h : Heap} {mg : Str → Option Value} {fa : Addr} (X : K.In h) (G : h.Ns mainGlobals mg) (hfa : mg "law" = some (.ref fa)) (c : He.SaysX faD fnD [] tfD exD w h K) :
    LamX.LawAtS l w K (L2.CX l.prog w) 6 63 "script" mg fa h := by
  have d := c.t.d
  obtain ⟨fd_Field__init, F_Field__init⟩ := d.def_ 0 (d := dD_Field__init) rfl
  have F_Field__init : FunD K "__init__" "Field.__init__" (defArgs s_Field__init) (defBody s_Field__init) (defScope s_Field__init) [(.str "")] [] (He.fAd K ("Field", some "__init__")) fd_Field__init := F_Field__init
  obtain ⟨fd_Field_shown, F_Field_shown⟩ := d.def_ 1 (d := dD_Field_shown) rfl
  have F_Field_shown : FunD K "shown" "Field.shown" (defArgs s_Field_shown) (defBody s_Field_shown) (defScope s_Field_shown) [] [] (He.fAd K ("Field", some "shown")) fd_Field_shown := F_Field_shown
  obtain ⟨fd_Field_keep, F_Field_keep⟩ := d.def_ 2 (d := dD_Field_keep) rfl
  have F_Field_keep : FunD K "keep" "Field.keep" (defArgs s_Field_keep) (defBody s_Field_keep) (defScope s_Field_keep) [] [] (He.fAd K ("Field", some "keep")) fd_Field_keep := F_Field_keep
  obtain ⟨fd_Field_put, F_Field_put⟩ := d.def_ 3 (d := dD_Field_put) rfl
  have F_Field_put : FunD K "put" "Field.put" (defArgs s_Field_put) (defBody s_Field_put) (defScope s_Field_put) [] [] (He.fAd K ("Field", some "put")) fd_Field_put := F_Field_put
  obtain ⟨fd_Field_drop, F_Field_drop⟩ := d.def_ 4 (d := dD_Field_drop) rfl
  have F_Field_drop : FunD K "drop" "Field.drop" (defArgs s_Field_drop) (defBody s_Field_drop) (defScope s_Field_drop) [(.bl false)] [] (He.fAd K ("Field", some "drop")) fd_Field_drop := F_Field_drop
  obtain ⟨fd_Field_go, F_Field_go⟩ := d.def_ 5 (d := dD_Field_go) rfl
  have F_Field_go : FunD K "go" "Field.go" (defArgs s_Field_go) (defBody s_Field_go) (defScope s_Field_go) [(.bl false)] [] (He.fAd K ("Field", some "go")) fd_Field_go := F_Field_go
  obtain ⟨fd_Field_select_word, F_Field_select_word⟩ := d.def_ 6 (d := dD_Field_select_word) rfl
  have F_Field_select_word : FunD K "select_word" "Field.select_word" (defArgs s_Field_select_word) (defBody s_Field_select_word) (defScope s_Field_select_word) [] [] (He.fAd K ("Field", some "select_word")) fd_Field_select_word := F_Field_select_word
  obtain ⟨fd_Field_chosen, F_Field_chosen⟩ := d.def_ 7 (d := dD_Field_chosen) rfl
  have F_Field_chosen : FunD K "chosen" "Field.chosen" (defArgs s_Field_chosen) (defBody s_Field_chosen) (defScope s_Field_chosen) [] [] (He.fAd K ("Field", some "chosen")) fd_Field_chosen := F_Field_chosen
  obtain ⟨fd_Field_undo, F_Field_undo⟩ := d.def_ 8 (d := dD_Field_undo) rfl
  have F_Field_undo : FunD K "undo" "Field.undo" (defArgs s_Field_undo) (defBody s_Field_undo) (defScope s_Field_undo) [] [] (He.fAd K ("Field", some "undo")) fd_Field_undo := F_Field_undo
  obtain ⟨fd_Field_redo, F_Field_redo⟩ := d.def_ 9 (d := dD_Field_redo) rfl
  have F_Field_redo : FunD K "redo" "Field.redo" (defArgs s_Field_redo) (defBody s_Field_redo) (defScope s_Field_redo) [] [] (He.fAd K ("Field", some "redo")) fd_Field_redo := F_Field_redo
  obtain ⟨fd_check_field, F_check_field⟩ := d.def_ 10 (d := dD_check_field) rfl
  have F_check_field : FunD K "check_field" "check_field" (defArgs s_check_field) (defBody s_check_field) (defScope s_check_field) [] [] (He.fAd K ("check_field", none)) fd_check_field := F_check_field
  obtain ⟨fd_law_dice, F_law_dice⟩ := d.def_ 11 (d := dD_law_dice) rfl
  have F_law_dice : FunD K "_law_dice" "_law_dice" (defArgs s_law_dice) (defBody s_law_dice) (defScope s_law_dice) [] [] (He.fAd K ("_law_dice", none)) fd_law_dice := F_law_dice
  obtain ⟨fd_law_roll, F_law_roll⟩ := d.def_ 12 (d := dD_law_roll) rfl
  have F_law_roll : FunD K "_law_roll" "_law_roll" (defArgs s_law_roll) (defBody s_law_roll) (defScope s_law_roll) [] [] (He.fAd K ("_law_roll", none)) fd_law_roll := F_law_roll
  obtain ⟨fd_law_rounds, F_law_rounds⟩ := d.def_ 13 (d := dD_law_rounds) rfl
  have F_law_rounds : FunD K "_law_rounds" "_law_rounds" (defArgs s_law_rounds) (defBody s_law_rounds) (defScope s_law_rounds) [] [] (He.fAd K ("_law_rounds", none)) fd_law_rounds := F_law_rounds
  obtain ⟨fd_law_told, F_law_told⟩ := d.def_ 14 (d := dD_law_told) rfl
  have F_law_told : FunD K "_law_told" "_law_told" (defArgs s_law_told) (defBody s_law_told) (defScope s_law_told) [] [] (He.fAd K ("_law_told", none)) fd_law_told := F_law_told
  obtain ⟨fd_law, F_law⟩ := d.def_ 15 (d := dD_law) rfl
  have F_law : FunD K "law" "law" (defArgs s_law) (defBody s_law) (defScope s_law) [] [] (He.fAd K ("law", none)) fd_law := F_law
  have e := hfa.symm.trans (He.glo_ok X G (d.fact 23 (f := .glo "law") rfl))
  cases e
  let A : Adr := ⟨He.ga K "Field", He.ga K "ViewFault", He.fAd K ("Field", some "__init__"), fd_Field__init, He.fAd K ("Field", some "shown"), fd_Field_shown, He.fAd K ("Field", some "keep"), fd_Field_keep, He.fAd K ("Field", some "put"), fd_Field_put, He.fAd K ("Field", some "drop"), fd_Field_drop, He.fAd K ("Field", some "go"), fd_Field_go, He.fAd K ("Field", some "select_word"), fd_Field_select_word, He.fAd K ("Field", some "chosen"), fd_Field_chosen, He.fAd K ("Field", some "undo"), fd_Field_undo, He.fAd K ("Field", some "redo"), fd_Field_redo, He.fAd K ("check_field", none), fd_check_field, He.fAd K ("_law_dice", none), fd_law_dice, He.fAd K ("_law_roll", none), fd_law_roll, He.fAd K ("_law_rounds", none), fd_law_rounds, He.fAd K ("_law_told", none), fd_law_told, He.fAd K ("law", none), fd_law, (He.cT K ("check_field", none)).1, (He.cT K ("check_field", none)).2, (He.cT K ("law", none)).1, (He.cT K ("law", none)).2⟩
  have T : Txt K mg A :=
    { cl_Field := He.cls_ok (d.fact 0 (f := .cls "Field") rfl),
      na_Field_text := He.noat_ok (d.fact 1 (f := .noat "Field" "text") rfl),
      na_Field_anchor := He.noat_ok (d.fact 2 (f := .noat "Field" "anchor") rfl),
      na_Field_caret := He.noat_ok (d.fact 3 (f := .noat "Field" "caret") rfl),
      na_Field_back_rows := He.noat_ok (d.fact 4 (f := .noat "Field" "back_rows") rfl),
      na_Field_ahead_rows := He.noat_ok (d.fact 5 (f := .noat "Field" "ahead_rows") rfl),
      na_Field_sign_last := He.noat_ok (d.fact 6 (f := .noat "Field" "sign_last") rfl),
      mgc_Field := He.glo_ok X G (d.fact 7 (f := .glo "Field") rfl),
      mk_Field := He.mkr_ok (d.fact 8 (f := .mkr "Field") rfl),
      fn_Field__init := F_Field__init,
      bi_Field__init := bnd_full (dvs := [(.str "")]) (FunD.binds1 (ps := ["self", "text"]) F_Field__init 2 1 (by simp) (by rfl) fun _ _ _ _ _ _ _ us its l1 l2 => match us, l1, its, l2 with | [_, _], _, [_], _ => ⟨_, rfl, rfl⟩),
      me_Field_shown := He.meth_ok (d.fact 9 (f := .meth "Field" "shown") rfl),
      fn_Field_shown := F_Field_shown,
      bi_Field_shown := FunD.bindsN F_Field_shown fun _ _ _ _ _ _ us hl => match us, hl with | [_], _ => rfl,
      me_Field_keep := He.meth_ok (d.fact 10 (f := .meth "Field" "keep") rfl),
      fn_Field_keep := F_Field_keep,
      bi_Field_keep := FunD.bindsN F_Field_keep fun _ _ _ _ _ _ us hl => match us, hl with | [_], _ => rfl,
      me_Field_put := He.meth_ok (d.fact 11 (f := .meth "Field" "put") rfl),
      fn_Field_put := F_Field_put,
      bi_Field_put := FunD.bindsN F_Field_put fun _ _ _ _ _ _ us hl => match us, hl with | [_, _], _ => rfl,
      me_Field_drop := He.meth_ok (d.fact 12 (f := .meth "Field" "drop") rfl),
      fn_Field_drop := F_Field_drop,
      bi_Field_drop := bnd_full (dvs := [(.bl false)]) (FunD.binds1 (ps := ["self", "behind"]) F_Field_drop 2 1 (by simp) (by rfl) fun _ _ _ _ _ _ _ us its l1 l2 => match us, l1, its, l2 with | [_, _], _, [_], _ => ⟨_, rfl, rfl⟩),
      me_Field_go := He.meth_ok (d.fact 13 (f := .meth "Field" "go") rfl),
      fn_Field_go := F_Field_go,
      bi_Field_go := bnd_full (dvs := [(.bl false)]) (FunD.binds1 (ps := ["self", "place", "selects"]) F_Field_go 3 1 (by simp) (by rfl) fun _ _ _ _ _ _ _ us its l1 l2 => match us, l1, its, l2 with | [_, _, _], _, [_], _ => ⟨_, rfl, rfl⟩),
      bi_Field_go_2 := FunD.binds1 (ps := ["self", "place", "selects"]) F_Field_go 2 0 (by simp) (by rfl) fun _ _ _ _ _ _ _ us its l1 l2 => match us, l1, its, l2 with | [_, _], _, [_], _ => ⟨_, rfl, rfl⟩,
      me_Field_select_word := He.meth_ok (d.fact 14 (f := .meth "Field" "select_word") rfl),
      fn_Field_select_word := F_Field_select_word,
      bi_Field_select_word := FunD.bindsN F_Field_select_word fun _ _ _ _ _ _ us hl => match us, hl with | [_, _], _ => rfl,
      me_Field_chosen := He.meth_ok (d.fact 15 (f := .meth "Field" "chosen") rfl),
      fn_Field_chosen := F_Field_chosen,
      bi_Field_chosen := FunD.bindsN F_Field_chosen fun _ _ _ _ _ _ us hl => match us, hl with | [_], _ => rfl,
      me_Field_undo := He.meth_ok (d.fact 16 (f := .meth "Field" "undo") rfl),
      fn_Field_undo := F_Field_undo,
      bi_Field_undo := FunD.bindsN F_Field_undo fun _ _ _ _ _ _ us hl => match us, hl with | [_], _ => rfl,
      me_Field_redo := He.meth_ok (d.fact 17 (f := .meth "Field" "redo") rfl),
      fn_Field_redo := F_Field_redo,
      bi_Field_redo := FunD.bindsN F_Field_redo fun _ _ _ _ _ _ us hl => match us, hl with | [_], _ => rfl,
      mg_check_field := He.glo_ok X G (d.fact 18 (f := .glo "check_field") rfl),
      fn_check_field := F_check_field,
      bi_check_field := FunD.bindsN F_check_field fun _ _ _ _ _ _ us hl => match us, hl with | [_], _ => rfl,
      mg_law_dice := He.glo_ok X G (d.fact 19 (f := .glo "_law_dice") rfl),
      fn_law_dice := F_law_dice,
      bi_law_dice := FunD.bindsN F_law_dice fun _ _ _ _ _ _ us hl => match us, hl with | [_], _ => rfl,
      mg_law_roll := He.glo_ok X G (d.fact 20 (f := .glo "_law_roll") rfl),
      fn_law_roll := F_law_roll,
      bi_law_roll := FunD.bindsN F_law_roll fun _ _ _ _ _ _ us hl => match us, hl with | [_, _], _ => rfl,
      mg_law_rounds := He.glo_ok X G (d.fact 21 (f := .glo "_law_rounds") rfl),
      fn_law_rounds := F_law_rounds,
      bi_law_rounds := FunD.bindsN F_law_rounds fun _ _ _ _ _ _ us hl => match us, hl with | [_, _], _ => rfl,
      mg_law_told := He.glo_ok X G (d.fact 22 (f := .glo "_law_told") rfl),
      fn_law_told := F_law_told,
      bi_law_told := FunD.bindsN F_law_told fun _ _ _ _ _ _ us hl => match us, hl with | [_], _ => rfl,
      mg_law := He.glo_ok X G (d.fact 23 (f := .glo "law") rfl),
      fn_law := F_law,
      bi_law := FunD.bindsN F_law fun _ _ _ _ _ _ us hl => match us, hl with | [_], _ => rfl,
      no_abs := He.free_ok X G (d.fact 24 (f := .free "abs") rfl),
      no_any := He.free_ok X G (d.fact 25 (f := .free "any") rfl),
      no_int := He.free_ok X G (d.fact 26 (f := .free "int") rfl),
      no_isinstance := He.free_ok X G (d.fact 27 (f := .free "isinstance") rfl),
      no_len := He.free_ok X G (d.fact 28 (f := .free "len") rfl),
      no_max := He.free_ok X G (d.fact 29 (f := .free "max") rfl),
      no_min := He.free_ok X G (d.fact 30 (f := .free "min") rfl),
      no_range := He.free_ok X G (d.fact 31 (f := .free "range") rfl),
      no_str := He.free_ok X G (d.fact 32 (f := .free "str") rfl),
      gl_LETTERS := He.str_ok X G (d.fact 33 (f := .str "LETTERS" "\n !\"#$&'()*+,-./0123456789:;<=>?@ABCDEFGHIJKLMNOPQRSTUVWXYZ[\\]^_`abcdefghijklmnopqrstuvwxyz{|}~") rfl),
      gl_MOST_FIELD := He.int_ok X G (d.fact 34 (f := .int "MOST_FIELD" 200) rfl),
      gl_MOST_STEPS_BACK := He.int_ok X G (d.fact 35 (f := .int "MOST_STEPS_BACK" 50) rfl),
      mgc_ViewFault := He.glo_ok X G (d.fact 36 (f := .glo "ViewFault") rfl),
      xc_ViewFault := (He.exc_ok (d.fact 37 (f := .exc "ViewFault") rfl)).1,
      kc_ViewFault := (He.exc_ok (d.fact 37 (f := .exc "ViewFault") rfl)).2.1,
      bc_ViewFault := (He.exc_ok (d.fact 37 (f := .exc "ViewFault") rfl)).2.2.1,
      tc_ViewFault := (He.exc_ok (d.fact 37 (f := .exc "ViewFault") rfl)).2.2.2,
      ec_ViewFault := He.exm_ok (d.fact 38 (f := .exm "ViewFault" "ViewFault" true) rfl),
      cd_check_field := cd_of F_check_field,
      cd_law := cd_of F_law }
  have nd : (tfD.map fun p => (He.cT K p).2).Nodup := of_decide_eq_true c.more
  have lay : ∀ H : Hp, (∀ p ∈ tfD.map (He.cT K), H p.2 = some (.tbl #[])) → Lay H (tfD.map fun z => ((He.cT K z).2, HO.tbl #[])) := fun H hT => ⟨by rw [List.map_map]; exact nd, fun p hp => by
    obtain ⟨z, hz, rfl⟩ := List.mem_map.mp hp
    exact ⟨hT _ (List.mem_map.mpr ⟨z, hz, rfl⟩), rfl⟩⟩
  refine ⟨fd_law, tfD.map (He.cT K), sp_law K A, fun p hp => ?_, fun p hp => ?_, fun p hp => ?_, (fun s u => FunD.bindsA (ps := ["script"]) F_law (fun _ _ _ _ _ _ us hl => match us, hl with | [_], _ => rfl) s [u] rfl), fun H s ns hl hz hT hS => ⟨rfl, s, ns, rfl, hS, lay H hT, fun _ => rfl⟩, fun base _ _ hTB => ok_all T (hTB (He.cT K ("check_field", none)) (List.mem_map.mpr ⟨("check_field", none), (by unfold tfD; exact List.mem_cons_self), rfl⟩)) (hTB (He.cT K ("law", none)) (List.mem_map.mpr ⟨("law", none), (by unfold tfD; exact List.mem_cons_of_mem _ (List.mem_cons_self)), rfl⟩))⟩
  · obtain ⟨z, hz, rfl⟩ := List.mem_map.mp hp
    exact c.empty z hz
  · obtain ⟨z, hz, rfl⟩ := List.mem_map.mp hp
    exact c.out z hz
  · obtain ⟨z, hz, rfl⟩ := List.mem_map.mp hp
    exact PySem.W.codeHd_of_K X (c.hd z hz)
end Wk
namespace Wk
open PySem PySem.Spec PyProof.Rows L2
abbrev R : PySem.W.OpenRow := PySem.W.OpenLaw.row PySem.Challenge.rw_phonestack_k14_fields_that_go_back
abbrev hk : PySem.W.Hook := He.hookX 6 faD fnD [] tfD exD
def obD (s : PySem.W.SharedT) : He.AlX := He.obsX 6 faD fnD [] tfD exD (HandSHeadRun.getT s)
theorem ob_eq (s : PySem.W.SharedT) : obD s = hk.obs s.abs := He.obsX_eq (HandSHeadRun.getT_eq s)
def loose_0 : List PySem.Str := ["PhoneError", "ViewFault", "LETTERS", "MOST_FIELD", "MOST_STEPS_BACK", "Field", "check_field", "_law_dice", "_law_roll", "_law_rounds", "_law_told"]
def loose : List PySem.Str := loose_0
theorem run (w : World) : HandSHeadRun.RunEq R (PySem.W.view R.prog [14]) hk obD 20000 loose w := by
  intro os
  kernel_rfl
end Wk
open PySem PySem.W PySem.Calls PyProof.Rows
theorem PySem.Challenge.cw_phonestack_k14_fields_that_go_back_holds : PySem.Challenge.rw_phonestack_k14_fields_that_go_back.Holds := by
  w_on; o_law
  refine HandSHeadRun.head_any (r := OpenLaw.row PySem.Challenge.rw_phonestack_k14_fields_that_go_back) (q := view (OpenLaw.row PySem.Challenge.rw_phonestack_k14_fields_that_go_back).prog [14]) (H := Wk.hk) (ob := Wk.obD) (M := 20000) (loose := Wk.loose) (d := HandSHeadRun.topDef (OpenLaw.row PySem.Challenge.rw_phonestack_k14_fields_that_go_back).prog 14) (kwd := []) Wk.ob_eq
    (by kernel_rfl) (fun s => by kernel_rfl) Wk.run (by kernel_rfl) (by kernel_rfl) (by kernel_rfl) (by rfl) (by first | assumption | decide +kernel) (by decide +kernel) ⟨rfl, rfl, rfl, rfl, rfl, by decide +kernel⟩ ?hw ?hc
  case hw => w_witness2
  case hc =>
    refine LamX.walk_ofTsE (l := PySem.Challenge.rw_phonestack_k14_fields_that_go_back) (n := 63) (k := 6) (x := "script") (CX := fun w => L2.CX (PySem.Challenge.rw_phonestack_k14_fields_that_go_back).prog w) rfl (by decide) (by kernel_rfl) ⟨rfl, by decide, by decide⟩ ?F (fun _ _ _ _ _ z => by
      obtain ⟨_, _, _, _, _, _, _, _, _, _, _, _, z⟩ := z
      exact z)
    intro w mg fa h Y G hmg0
    obtain ⟨K, KX, c⟩ := Y
    have hmg : mg ("law" : PySem.Str) = some (.ref fa) := by
      have e : (HandSHeadRun.topDef (OpenLaw.row PySem.Challenge.rw_phonestack_k14_fields_that_go_back).prog 14).name = ("law" : PySem.Str) := by kernel_rfl
      rw [← e]
      exact hmg0
    exact ⟨K, KX, Wk.fin KX G hmg c⟩
