import PyProof.Rows.All
import Wide.All
import OpenK.AllK
import Wide.FinOn
import HandS.ForMost
import HandS.Style
import HandS.Lambda
import HandS.EndTab
import HandS.WordsExc
import HandS.CallSlots
import HandS.Flow
import PySem.Challenge.RW_phonestack_k13_what_fingers_do
import KE.KNestM
set_option Elab.async false
set_option autoImplicit false
set_option linter.all false
set_option maxRecDepth 100000
set_option maxHeartbeats 4000000
namespace Ph
open PySem PySem.Spec PyProof.Rows L2
/-! ### texts -/
theorem char_toNat_inj {a b : Char} (h : a.toNat = b.toNat) : a = b := by
  apply Char.ext
  apply UInt32.toNat_inj.mp
  exact h
theorem map_toNat_inj : forall {a b : List Char}, a.map Char.toNat = b.map Char.toNat -> a = b
  | [], [], _ => rfl
  | [], _ :: _, h => by simp at h
  | _ :: _, [], h => by simp at h
  | x :: r, y :: t, h => by
    simp only [List.map_cons, List.cons.injEq] at h
    rw [char_toNat_inj h.1, map_toNat_inj h.2]
theorem ofString_inj {a b : String} : (PySem.Str.ofString a = PySem.Str.ofString b) = (a = b) := by
  apply propext
  constructor
  · intro h
    rw [PySem.Str.ofString_eq_toList, PySem.Str.ofString_eq_toList] at h
    injection h with h
    have h2 : a.toList.map Char.toNat = b.toList.map Char.toNat := by
      have := congrArg Array.toList h
      simpa using this
    exact String.toList_inj.mp (map_toNat_inj h2)
  · intro h
    rw [h]
theorem ofString_beq {a b : String} : (PySem.Str.ofString a == PySem.Str.ofString b) = (a == b) := by
  rw [Bool.eq_iff_iff]
  simp [ofString_inj]
/-! ### mutable objects -/
def mutO : HO -> Bool
  | .lst _ => true
  | .dK _ => true
  | .dT _ => true
  | .set _ _ => true
  | .ins _ _ _ => true
  | _ => false
/-- all that is not a list, a dict, a set, an instance stays -/
def Stb (H H' : Hp) : Prop := forall a o, H a = some o -> mutO o = false -> H' a = some o
theorem Stb.refl (H : Hp) : Stb H H := fun _ _ h _ => h
theorem Stb.trans {H H1 H2 : Hp} (a : Stb H H1) (b : Stb H1 H2) : Stb H H2 := fun x o h m => b x o (a x o h m) m
theorem Stb.new {H : Hp} {p : Addr} {o : HO} (n : H p = none) : Stb H (upd H p o) := fun a u e _ => by
  rw [upd_ne (ne_of_none e n)]
  exact e
theorem Stb.put {H : Hp} {p : Addr} {o u : HO} (e : H p = some u) (m : mutO u = true) : Stb H (upd H p o) := fun a w ea ma => by
  rw [upd_ne ?_]
  · exact ea
  · intro q
    rw [q, e] at ea
    cases ea
    rw [m] at ma
    cases ma
theorem Stb.sqt {K : PySem.W.Frag} {H H' : Hp} {a : Addr} {xs : List V} (s : Stb H H') (h : SqT K H a xs) : SqT K H' a xs := by
  rcases h with (h | ⟨o, h⟩) | h
  · exact .inl (.inl (s _ _ h rfl))
  · exact .inl (.inr ⟨o, s _ _ h rfl⟩)
  · exact .inr h
structure Lay (H : Hp) (L : List (Addr × HO)) : Prop where
  nd : (L.map (fun p => p.1)).Nodup
  at_ : forall p, p ∈ L -> H p.1 = some p.2 ∧ mutO p.2 = true
theorem Lay.nil {H : Hp} : Lay H [] := ⟨List.nodup_nil, fun p h => by cases h⟩
theorem Lay.get {H : Hp} {L : List (Addr × HO)} {a : Addr} {o : HO} (h : Lay H L) (m : (a, o) ∈ L) : H a = some o := (h.at_ _ m).1
theorem Lay.mu {H : Hp} {L : List (Addr × HO)} {a : Addr} {o : HO} (h : Lay H L) (m : (a, o) ∈ L) : mutO o = true := (h.at_ _ m).2
theorem Lay.keep {H : Hp} {L : List (Addr × HO)} {p : Addr} {o : HO} (h : Lay H L) (n : H p = none) : Lay (upd H p o) L :=
  ⟨h.nd, fun q hq => ⟨by rw [upd_ne (ne_of_none (h.at_ q hq).1 n)]; exact (h.at_ q hq).1, (h.at_ q hq).2⟩⟩
theorem Lay.new {H : Hp} {L : List (Addr × HO)} {p : Addr} {o : HO} (h : Lay H L) (n : H p = none) (m : mutO o = true) : Lay (upd H p o) ((p, o) :: L) := by
  refine ⟨?_, fun q hq => ?_⟩
  · rw [List.map_cons, List.nodup_cons]
    refine ⟨fun z => ?_, h.nd⟩
    obtain ⟨q, hq, e⟩ := List.mem_map.mp z
    have z2 := (h.at_ q hq).1
    rw [e, n] at z2
    cases z2
  · rcases List.mem_cons.mp hq with e | hq
    · subst e
      exact ⟨upd_same, m⟩
    · exact (h.keep n).at_ q hq
/-- x stands in L at a place; the rest is L' -/
inductive Pick (x : Addr × HO) : List (Addr × HO) -> List (Addr × HO) -> Prop
  | here {L : List (Addr × HO)} : Pick x (x :: L) L
  | there {y : Addr × HO} {L L' : List (Addr × HO)} : Pick x L L' -> Pick x (y :: L) (y :: L')
theorem Pick.perm {x : Addr × HO} : forall {L L'}, Pick x L L' -> L.Perm (x :: L')
  | _, _, .here => List.Perm.refl _
  | _, _, .there h => (List.Perm.cons _ h.perm).trans (List.Perm.swap _ _ _)
theorem Lay.perm {H : Hp} {L L' : List (Addr × HO)} (h : Lay H L) (p : L.Perm L') : Lay H L' :=
  ⟨(p.map _).nodup_iff.mp h.nd, fun q hq => h.at_ q (p.mem_iff.mpr hq)⟩
theorem Lay.pick {H : Hp} {x : Addr × HO} {L L' : List (Addr × HO)} (p : Pick x L L') (h : Lay H L) : Lay H (x :: L') := h.perm p.perm
theorem Lay.tail {H : Hp} {x : Addr × HO} {L : List (Addr × HO)} (h : Lay H (x :: L)) : Lay H L :=
  ⟨(List.nodup_cons.mp h.nd).2, fun q hq => h.at_ q (List.mem_cons_of_mem _ hq)⟩
/-- the object at a becomes o' -/
inductive Up (a : Addr) (o' : HO) : List (Addr × HO) -> List (Addr × HO) -> Prop
  | here {o : HO} {L : List (Addr × HO)} : Up a o' ((a, o) :: L) ((a, o') :: L)
  | there {y : Addr × HO} {L L' : List (Addr × HO)} : Up a o' L L' -> Up a o' (y :: L) (y :: L')
theorem Up.keys {a : Addr} {o' : HO} : forall {L L'}, Up a o' L L' -> L'.map (fun p => p.1) = L.map (fun p => p.1)
  | _, _, .here => rfl
  | _, _, .there h => by rw [List.map_cons, List.map_cons, h.keys]
theorem Up.old {a : Addr} {o' : HO} : forall {L L'}, Up a o' L L' -> exists o, (a, o) ∈ L
  | _, _, .here => ⟨_, List.mem_cons_self⟩
  | _, _, .there h => let ⟨o, z⟩ := h.old; ⟨o, List.mem_cons_of_mem _ z⟩
theorem Up.mem {a : Addr} {o' : HO} : forall {L L'}, Up a o' L L' -> (L.map (fun p => p.1)).Nodup -> forall q, q ∈ L' -> q = (a, o') ∨ (q ∈ L ∧ q.1 ≠ a)
  | _, _, .here, nd, q, hq => by
    rcases List.mem_cons.mp hq with e | hq
    · exact .inl e
    · refine .inr ⟨List.mem_cons_of_mem _ hq, fun z => ?_⟩
      exact (List.nodup_cons.mp nd).1 (List.mem_map.mpr ⟨q, hq, z⟩)
  | _, _, .there h, nd, q, hq => by
    rcases List.mem_cons.mp hq with e | hq
    · subst e
      refine .inr ⟨List.mem_cons_self, fun z => ?_⟩
      obtain ⟨o, ho⟩ := h.old
      exact (List.nodup_cons.mp nd).1 (List.mem_map.mpr ⟨(a, o), ho, z.symm⟩)
    · rcases h.mem (List.nodup_cons.mp nd).2 q hq with e | ⟨e, n⟩
      · exact .inl e
      · exact .inr ⟨List.mem_cons_of_mem _ e, n⟩
theorem Lay.put {H : Hp} {L L' : List (Addr × HO)} {a : Addr} {o' : HO} (h : Lay H L) (u : Up a o' L L') (m : mutO o' = true) : Lay (upd H a o') L' := by
  refine ⟨by rw [u.keys]; exact h.nd, fun q hq => ?_⟩
  rcases u.mem h.nd q hq with e | ⟨e, n⟩
  · subst e
    exact ⟨upd_same, m⟩
  · exact ⟨by rw [upd_ne n]; exact (h.at_ q e).1, (h.at_ q e).2⟩
theorem Lay.ne {H : Hp} {L : List (Addr × HO)} {a b : Addr} {o u : HO} (h : Lay H ((a, o) :: L)) (m : (b, u) ∈ L) : b ≠ a := fun z =>
  (List.nodup_cons.mp h.nd).1 (List.mem_map.mpr ⟨(b, u), m, z⟩)
/-! ### data made of scalars and tuples -/
mutual
inductive TD (K : PySem.W.Frag) (H : Hp) : V -> PyData -> Prop
  | non : TD K H .non .none
  | bl (b : Bool) : TD K H (.bl b) (.bool b)
  | int (i : Int) : TD K H (.int i) (.int i)
  | str (x : Str) : TD K H (.str x) (.str x)
  | tup {a : Addr} {xs : List V} {ds : List PyData} : SqT K H a xs -> TDs K H xs ds -> TD K H (.ref a) (.tuple ds)
inductive TDs (K : PySem.W.Frag) (H : Hp) : List V -> List PyData -> Prop
  | nil : TDs K H [] []
  | cons {v : V} {vs : List V} {d : PyData} {ds : List PyData} : TD K H v d -> TDs K H vs ds -> TDs K H (v :: vs) (d :: ds)
end
mutual
theorem TD.mono {K : PySem.W.Frag} {H H' : Hp} (s : Stb H H') : forall {v : V} {d : PyData}, TD K H v d -> TD K H' v d
  | _, _, .non => .non
  | _, _, .bl b => .bl b
  | _, _, .int i => .int i
  | _, _, .str x => .str x
  | _, _, .tup h t => .tup (s.sqt h) (TDs.mono s t)
theorem TDs.mono {K : PySem.W.Frag} {H H' : Hp} (s : Stb H H') : forall {vs : List V} {ds : List PyData}, TDs K H vs ds -> TDs K H' vs ds
  | _, _, .nil => .nil
  | _, _, .cons h t => .cons (TD.mono s h) (TDs.mono s t)
end
mutual
theorem TD.dp {K : PySem.W.Frag} {H : Hp} : forall {v : V} {d : PyData}, TD K H v d -> Dp K H v d
  | _, _, .non => .non
  | _, _, .bl b => .bl b
  | _, _, .int i => .int i
  | _, _, .str x => .str x
  | _, _, .tup h t => .tup h (TDs.dp t)
theorem TDs.dp {K : PySem.W.Frag} {H : Hp} : forall {vs : List V} {ds : List PyData}, TDs K H vs ds -> DpAll K H vs ds
  | _, _, .nil => .nil
  | _, _, .cons h t => .cons (TD.dp h) (TDs.dp t)
end
theorem TDs.snoc {K : PySem.W.Frag} {H : Hp} {v : V} {d : PyData} : forall {vs : List V} {ds : List PyData}, TDs K H vs ds -> TD K H v d -> TDs K H (vs ++ [v]) (ds ++ [d])
  | _, _, .nil, h => .cons h .nil
  | _, _, .cons h t, q => .cons h (TDs.snoc t q)
theorem TDs.append {K : PySem.W.Frag} {H : Hp} {us : List V} {es : List PyData} : forall {vs : List V} {ds : List PyData}, TDs K H vs ds -> TDs K H us es -> TDs K H (vs ++ us) (ds ++ es)
  | _, _, .nil, h => h
  | _, _, .cons h t, q => .cons h (TDs.append t q)
theorem TDs.length {K : PySem.W.Frag} {H : Hp} : forall {vs : List V} {ds : List PyData}, TDs K H vs ds -> vs.length = ds.length
  | _, _, .nil => rfl
  | _, _, .cons _ t => by rw [List.length_cons, List.length_cons, TDs.length t]
/-! ### what stays while tables of code objects grow -/
def Stb0 (H H' : Hp) : Prop := forall a o, H a = some o -> mutO o = false -> (forall ps, o ≠ .tbl ps) -> H' a = some o
theorem Stb.n {H H' : Hp} (s : Stb H H') : Stb0 H H' := fun a o h m _ => s a o h m
theorem Stb0.ext {H H' : Hp} (s : LamX.ExtN H H') : Stb0 H H' := fun a o h _ n => s a o h n
theorem Stb0.sqt {K : PySem.W.Frag} {H H' : Hp} {a : Addr} {xs : List V} (s : Stb0 H H') (h : SqT K H a xs) : SqT K H' a xs := by
  rcases h with (h | ⟨o, h⟩) | h
  · exact .inl (.inl (s _ _ h rfl (fun ps q => by cases q)))
  · exact .inl (.inr ⟨o, s _ _ h rfl (fun ps q => by cases q)⟩)
  · exact .inr h
mutual
theorem TD.mono0 {K : PySem.W.Frag} {H H' : Hp} (s : Stb0 H H') : forall {v : V} {d : PyData}, TD K H v d -> TD K H' v d
  | _, _, .non => .non
  | _, _, .bl b => .bl b
  | _, _, .int i => .int i
  | _, _, .str x => .str x
  | _, _, .tup h t => .tup (s.sqt h) (TDs.mono0 s t)
theorem TDs.mono0 {K : PySem.W.Frag} {H H' : Hp} (s : Stb0 H H') : forall {vs : List V} {ds : List PyData}, TDs K H vs ds -> TDs K H' vs ds
  | _, _, .nil => .nil
  | _, _, .cons h t => .cons (TD.mono0 s h) (TDs.mono0 s t)
end
theorem tabs_mono {T : List (Addr × Str)} {H H' : Hp} (s : Stb H H') (t : LamX.Tabs T H) : LamX.Tabs T H' := fun p hp => by
  obtain ⟨ps, h1, h2, h3⟩ := t p hp
  refine ⟨ps, s _ _ h1 rfl, h2, fun pos cv hc => ?_⟩
  obtain ⟨c, e1, e2⟩ := h3 pos cv hc
  exact ⟨c, e1, s _ _ e2 rfl⟩
/-! ### what is known of things that don't change -/
inductive Im where
  | tup (a : Addr) (xs : List V)
  | dat (v : V) (d : PyData)
  | dats (vs : List V) (ds : List PyData)
  | pr (P : Hp → Prop) (m : ∀ H H', Stb0 H H' → P H → P H')
def Im.ok (K : PySem.W.Frag) (H : Hp) : Im -> Prop
  | .tup a xs => SqT K H a xs
  | .dat v d => TD K H v d
  | .dats vs ds => TDs K H vs ds
  | .pr P _ => P H
theorem Im.mono0 {K : PySem.W.Frag} {H H' : Hp} (s : Stb0 H H') : forall {i : Im}, i.ok K H -> i.ok K H'
  | .tup _ _, h => s.sqt h
  | .dat _ _, h => TD.mono0 s h
  | .dats _ _, h => TDs.mono0 s h
  | .pr _ m, h => m _ _ s h
theorem Im.mono {K : PySem.W.Frag} {H H' : Hp} (s : Stb H H') {i : Im} (h : i.ok K H) : i.ok K H' := Im.mono0 s.n h
/-- B: where the def was entered -/
structure Ctx (K : PySem.W.Frag) (B H : Hp) (L : List (Addr × HO)) (I : List Im) : Prop where
  lay : Lay H L
  im : forall i, i ∈ I -> i.ok K H
  sb : Stb B H
section
variable {K : PySem.W.Frag} {B H H' : Hp} {L L' : List (Addr × HO)} {I : List Im} {a : Addr} {o : HO} {xs : List V}
theorem Ctx.tup (h : Ctx K B H L I) (m : Im.tup a xs ∈ I) : SqT K H a xs := h.im _ m
theorem Ctx.dat {v : V} {d : PyData} (h : Ctx K B H L I) (m : Im.dat v d ∈ I) : TD K H v d := h.im _ m
theorem Ctx.dats {vs : List V} {ds : List PyData} (h : Ctx K B H L I) (m : Im.dats vs ds ∈ I) : TDs K H vs ds := h.im _ m
theorem Ctx.pr {P : Hp → Prop} {w : ∀ H H', Stb0 H H' → P H → P H'} (h : Ctx K B H L I) (m : Im.pr P w ∈ I) : P H := h.im _ m
theorem Ctx.get (h : Ctx K B H L I) (m : (a, o) ∈ L) : H a = some o := h.lay.get m
theorem Ctx.add {i : Im} (h : Ctx K B H L I) (m : i.ok K H) : Ctx K B H L (i :: I) :=
  ⟨h.lay, fun j hj => (List.mem_cons.mp hj).elim (fun e => by rw [e]; exact m) (h.im j), h.sb⟩
theorem Ctx.moved (h : Ctx K B H L I) (s : Stb H H') (l : Lay H' L') : Ctx K B H' L' I := ⟨l, fun i hi => Im.mono s (h.im i hi), h.sb.trans s⟩
theorem Ctx.newM (h : Ctx K B H L I) (n : H a = none) (m : mutO o = true) : Ctx K B (upd H a o) ((a, o) :: L) I := h.moved (Stb.new n) (h.lay.new n m)
theorem Ctx.newT (h : Ctx K B H L I) (n : H a = none) : Ctx K B (upd H a (.tup xs)) L (.tup a xs :: I) := by
  have h1 := h.moved (Stb.new (o := .tup xs) n) (h.lay.keep n)
  exact h1.add (SqT.of upd_same)
theorem Ctx.put {o' : HO} (h : Ctx K B H L I) (u : Up a o' L L') (m : mutO o' = true) : Ctx K B (upd H a o') L' I := by
  obtain ⟨o, ho⟩ := u.old
  exact h.moved (Stb.put (h.lay.get ho) (h.lay.mu ho)) (h.lay.put u m)
theorem Ctx.start (l : Lay H L) : Ctx K H H L [] := ⟨l, fun i hi => (by cases hi), Stb.refl H⟩
theorem Lay.ext {H1 : Hp} (e : LamX.ExtN H H1) (l : Lay H L) : Lay H1 L := ⟨l.nd, fun p hp => ⟨e _ _ (l.at_ p hp).1 (by
  intro ps hq
  have := (l.at_ p hp).2
  rw [hq] at this
  cases this), (l.at_ p hp).2⟩⟩
theorem Ctx.ext {H1 : Hp} (h : Ctx K B H L I) (e : LamX.ExtN H H1) : Ctx K H1 H1 L I := ⟨h.lay.ext e, fun i hi => Im.mono0 (.ext e) (h.im i hi), Stb.refl _⟩
theorem Ctx.rebase (h : Ctx K B H L I) : Ctx K H H L I := ⟨h.lay, h.im, Stb.refl _⟩
theorem Ctx.pick {x : Addr × HO} (p : Pick x L L') (h : Ctx K B H L I) : Ctx K B H (x :: L') I := ⟨h.lay.pick p, h.im, h.sb⟩
theorem Ctx.drop {x : Addr × HO} (h : Ctx K B H (x :: L) I) : Ctx K B H L I := ⟨h.lay.tail, h.im, h.sb⟩
theorem Ctx.perm (h : Ctx K B H L I) (p : L.Perm L') : Ctx K B H L' I := ⟨h.lay.perm p, h.im, h.sb⟩
end
end Ph
namespace Ph
open PySem PySem.Spec PyProof.Rows L2
def rAddU (K : PySem.W.Frag) : R2 := fun x y H Q => match x, y with
  | .int i, .int j => Q (.int (i + j)) H
  | .int i, .bl k => Q (.int (i + b2i k)) H
  | .str i, .str j => i.length + j.length ≤ sizeLine ∧ Q (.str (i ++ j)) H
  | .ref l, .ref b => (∃ xs zs, H l = some (.lst xs) ∧ H b = some (.lst zs) ∧ xs.length + zs.length ≤ sizeLine ∧ ∀ p, H p = none → Q (.ref p) (upd H p (.lst (xs ++ zs)))) ∨ rCatT K (.ref l) (.ref b) H Q
  | _, _ => False
def rSubU : R2 := fun x y H Q => match x, y with
  | .int i, .int j => Q (.int (i - j)) H
  | _, _ => False
def rMulU : R2 := fun x y H Q => match x, y with
  | .int i, .int j => CMul i j ∧ Q (.int (i * j)) H
  | .ref l, .int k => rRep (.ref l) (.int k) H Q
  | _, _ => False
def rDivU : R2 := fun x y H Q => match x, y with
  | .int i, .int j => CDiv i j ∧ Q (.int (i / j)) H
  | _, _ => False
def rModU : R2 := fun x y H Q => match x, y with
  | .int i, .int j => 0 < j ∧ Q (.int (i % j)) H
  | _, _ => False
def rPowU : R2 := fun x y H Q => match x, y with
  | .int i, .int j => CPow i j ∧ Q (.int (i ^ j.toNat)) H
  | _, _ => False
def rLtU (f : Int → Int → Bool) (g : Str → Str → Bool) : R2 := fun x y H Q => match x, y with
  | .int i, .int j => Q (.bl (f i j)) H
  | .str i, .str j => Q (.bl (g i j)) H
  | _, _ => False
abbrev rLt : R2 := rLtU (fun i j => decide (i < j)) (fun i j => decide (i.cps.toList < j.cps.toList))
def rCmpI (f : Int → Int → Bool) : R2 := fun x y H Q => match x, y with
  | .int i, .int j => Q (.bl (f i j)) H
  | _, _ => False
abbrev rLe : R2 := rCmpI fun i j => decide (i ≤ j)
abbrev rGt : R2 := rCmpI fun i j => decide (j < i)
abbrev rGe : R2 := rCmpI fun i j => decide (j ≤ i)
def rIsN : R2 := fun x y H Q => y = .non ∧ Q (.bl (decide (x = .non))) H
def rNotN : R2 := fun x y H Q => y = .non ∧ Q (.bl (!decide (x = .non))) H
def rEqU (K : PySem.W.Frag) : R2 := fun x y H Q => rEq x y H Q ∨ rEqD K x y H Q
def rNeU (K : PySem.W.Frag) : R2 := fun x y H Q => rNe x y H Q ∨ rNeD K x y H Q
def rIxD : R2 := fun x y H Q => ∃ a v, x = .ref a ∧ DGet H a y (some v) ∧ Q v H
def rIxU (K : PySem.W.Frag) : R2 := fun x y H Q => rIxL K x y H Q ∨ rIxT K x y H Q ∨ rIxS x y H Q ∨ rIxD x y H Q
def rInD : R2 := fun y x H Q => ∃ a o, x = .ref a ∧ DGet H a y o ∧ Q (.bl o.isSome) H
def rNotInD : R2 := fun y x H Q => ∃ a o, x = .ref a ∧ DGet H a y o ∧ Q (.bl (!o.isSome)) H
def rInS : R2 := fun x y H Q => ∃ i j, x = .str i ∧ y = .str j ∧ Q (.bl (!(Builtin.Str.occurrences j i 0 j.length 1).isEmpty)) H
def rNotInS : R2 := fun x y H Q => ∃ i j, x = .str i ∧ y = .str j ∧ Q (.bl (!(!(Builtin.Str.occurrences j i 0 j.length 1).isEmpty))) H
def rInU (K : PySem.W.Frag) : R2 := fun x y H Q => rIn K false x y H Q ∨ rInD x y H Q ∨ rInS x y H Q
def rNotInU (K : PySem.W.Frag) : R2 := fun x y H Q => rIn K true x y H Q ∨ rNotInD x y H Q ∨ rNotInS x y H Q
def rSetD : V → V → V → Hp → (Hp → Prop) → Prop := fun o i v H Q => ∃ a H', o = .ref a ∧ DPut H a i v H' ∧ Q H'
def rSetU : V → V → V → Hp → (Hp → Prop) → Prop := fun o i v H Q => rSetL o i v H Q ∨ rSetD o i v H Q
def rIAddU : R2 := fun x y H Q => match x, y with
  | .int i, .int j => Q (.int (i + j)) H
  | .str i, .str j => i.length + j.length ≤ sizeLine ∧ Q (.str (i ++ j)) H
  | .ref l, .ref b => rExt2 (.ref l) (.ref b) H Q
  | _, _ => False
def tTruth (K : PySem.W.Frag) (ta : TE) : TT := fun σ H Q => ta σ H fun x H' => ∃ k, TruV K x H' k ∧ Q k H'
section
variable {X : Cx}
theorem u_add : OpR X (binaryOp .Add) (rAddU X.K) := by
  intro pins s σ H x y v u Q I rx ry h
  cases x with
  | int i =>
    cases y with
    | int j => exact op_add pins s σ H _ _ v u Q I rx ry ⟨i, j, rfl, rfl, h⟩
    | bl k => exact op_add_ib pins s σ H _ _ v u Q I rx ry ⟨i, k, rfl, rfl, h⟩
    | _ => exact (show False from h).elim
  | str i =>
    cases y with
    | str j => exact op_add_str pins s σ H _ _ v u Q I rx ry ⟨i, j, rfl, rfl, h.1, h.2⟩
    | _ => exact (show False from h).elim
  | ref l =>
    cases y with
    | ref b =>
      rcases h with ⟨xs, zs, h1, h2, h3, h4⟩ | h
      · exact op_cat pins s σ H _ _ v u Q I rx ry ⟨l, b, xs, zs, rfl, rfl, h1, h2, h3, h4⟩
      · exact op_catT pins s σ H _ _ v u Q I rx ry h
    | _ => exact (show False from h).elim
  | _ => exact (show False from (by cases y <;> exact h)).elim
theorem u_sub : OpR X (binaryOp .Sub) rSubU := by
  intro pins s σ H x y v u Q I rx ry h
  cases x with
  | int i =>
    cases y with
    | int j => exact op_sub pins s σ H _ _ v u Q I rx ry ⟨i, j, rfl, rfl, h⟩
    | _ => exact (show False from h).elim
  | _ => exact (show False from (by cases y <;> exact h)).elim
theorem u_mul : OpR X (binaryOp .Mult) rMulU := by
  intro pins s σ H x y v u Q I rx ry h
  cases x with
  | int i =>
    cases y with
    | int j => exact op_mul pins s σ H _ _ v u Q I rx ry ⟨i, j, rfl, rfl, h.1, h.2⟩
    | _ => exact (show False from h).elim
  | ref l =>
    cases y with
    | int j => exact op_rep pins s σ H _ _ v u Q I rx ry h
    | _ => exact (show False from h).elim
  | _ => exact (show False from (by cases y <;> exact h)).elim
theorem u_div : OpR X (binaryOp .FloorDiv) rDivU := by
  intro pins s σ H x y v u Q I rx ry h
  cases x with
  | int i =>
    cases y with
    | int j => exact op_fdiv pins s σ H _ _ v u Q I rx ry ⟨i, j, rfl, rfl, h.1, h.2⟩
    | _ => exact (show False from h).elim
  | _ => exact (show False from (by cases y <;> exact h)).elim
theorem u_mod : OpR X (binaryOp .Mod) rModU := by
  intro pins s σ H x y v u Q I rx ry h
  cases x with
  | int i =>
    cases y with
    | int j => exact op_mod pins s σ H _ _ v u Q I rx ry ⟨i, j, rfl, rfl, h.1, h.2⟩
    | _ => exact (show False from h).elim
  | _ => exact (show False from (by cases y <;> exact h)).elim
theorem u_pow : OpR X (binaryOp .Pow) rPowU := by
  intro pins s σ H x y v u Q I rx ry h
  cases x with
  | int i =>
    cases y with
    | int j => exact op_pow pins s σ H _ _ v u Q I rx ry ⟨i, j, rfl, rfl, h.1, h.2⟩
    | _ => exact (show False from h).elim
  | _ => exact (show False from (by cases y <;> exact h)).elim
theorem u_lt : OpR X (compareOp .Lt) rLt := by
  intro pins s σ H x y v u Q I rx ry h
  cases x with
  | int i =>
    cases y with
    | int j => exact op_lt pins s σ H _ _ v u Q I rx ry ⟨i, j, rfl, rfl, h⟩
    | _ => exact (show False from h).elim
  | str i =>
    cases y with
    | str j => exact op_lt_str pins s σ H _ _ v u Q I rx ry ⟨i, j, rfl, rfl, h⟩
    | _ => exact (show False from h).elim
  | _ => exact (show False from (by cases y <;> exact h)).elim
theorem u_le : OpR X (compareOp .LtE) rLe := by
  intro pins s σ H x y v u Q I rx ry h
  cases x with
  | int i =>
    cases y with
    | int j => exact op_le pins s σ H _ _ v u Q I rx ry ⟨i, j, rfl, rfl, h⟩
    | _ => exact (show False from h).elim
  | _ => exact (show False from (by cases y <;> exact h)).elim
theorem u_gt : OpR X (compareOp .Gt) rGt := by
  intro pins s σ H x y v u Q I rx ry h
  cases x with
  | int i =>
    cases y with
    | int j => exact op_gt pins s σ H _ _ v u Q I rx ry ⟨i, j, rfl, rfl, h⟩
    | _ => exact (show False from h).elim
  | _ => exact (show False from (by cases y <;> exact h)).elim
theorem u_ge : OpR X (compareOp .GtE) rGe := by
  intro pins s σ H x y v u Q I rx ry h
  cases x with
  | int i =>
    cases y with
    | int j => exact op_ge pins s σ H _ _ v u Q I rx ry ⟨i, j, rfl, rfl, h⟩
    | _ => exact (show False from h).elim
  | _ => exact (show False from (by cases y <;> exact h)).elim
theorem u_isN : OpR X (compareOp .Is) rIsN := op_isN
theorem u_notN : OpR X (compareOp .IsNot) rNotN := op_notN
theorem u_eq (hu : X.A.units + 64 < cLine) : OpR X (compareOp .Eq) (rEqU X.K) := op_eq.or (op_eqD hu)
theorem u_ne (hu : X.A.units + 64 < cLine) : OpR X (compareOp .NotEq) (rNeU X.K) := op_ne.or (op_neD hu)
theorem ix_dict (hu : X.A.units + 64 < cLine) : IxR X rIxD := by
  intro value slice pins s σ H x y v u Q I rx ry h hs
  obtain ⟨a, z, rfl, g, q⟩ := h
  cases rx
  have hu1 : X.A.units + 1 < cLine := by omega
  exact tail_any (dict_typeIs I g) PySem.F.slot_dict_getitem.lookup (d_getItem hu1 I g ry fun w' s3 I3 rw' => ⟨z, H, I3, rw', q⟩) hs
theorem u_ix (hu : X.A.units + 64 < cLine) : IxR X (rIxU X.K) := ix_list.or (ix_tup.or (ix_str.or (ix_dict hu)))
theorem op_inD (hu : X.A.units + 64 < cLine) : OpR X (compareOp .In) rInD := by
  intro pins s σ H x y v u Q I rx ry h
  obtain ⟨a, o, rfl, g, q⟩ := h
  cases ry
  have hu1 : X.A.units + 1 < cLine := by omega
  exact d_in hu1 I g rx fun s3 I3 => ⟨.bl o.isSome, H, I3, rfl, q⟩
theorem op_notinD (hu : X.A.units + 64 < cLine) : OpR X (compareOp .NotIn) rNotInD := by
  intro pins s σ H x y v u Q I rx ry h
  obtain ⟨a, o, rfl, g, q⟩ := h
  cases ry
  have hu1 : X.A.units + 1 < cLine := by omega
  exact d_notIn hu1 I g rx fun s3 I3 => ⟨.bl (!o.isSome), H, I3, rfl, q⟩
theorem u_in (hu : X.A.units + 64 < cLine) : OpR X (compareOp .In) (rInU X.K) := op_in_seq.or ((op_inD hu).or op_in_str)
theorem u_notin (hu : X.A.units + 64 < cLine) : OpR X (compareOp .NotIn) (rNotInU X.K) := op_notIn_seq.or ((op_notinD hu).or op_notin_str)
theorem set_dict (hu : X.A.units + 64 < cLine) : PSet X rSetD := by
  intro pins s σ H o i v ov iv u Q I ro ri rv h
  obtain ⟨a, H', rfl, g, q⟩ := h
  cases ro
  have hu1 : X.A.units + 1 < cLine := by omega
  exact d_setItem hu1 I g ri rv fun s4 I4 => ⟨H', I4, q⟩
theorem u_set (hu : X.A.units + 64 < cLine) : PSet X rSetU := by
  intro pins s σ H o i v ov iv u Q I ro ri rv h
  rcases h with h | h
  · exact set_list pins s σ H o i v ov iv u Q I ro ri rv h
  · exact set_dict hu pins s σ H o i v ov iv u Q I ro ri rv h
theorem u_iadd : OpR X (inplaceOp .Add) rIAddU := by
  intro pins s σ H x y v u Q I rx ry h
  cases x with
  | int i =>
    cases y with
    | int j => exact iop_add pins s σ H _ _ v u Q I rx ry ⟨i, j, rfl, rfl, h⟩
    | _ => exact (show False from h).elim
  | str i =>
    cases y with
    | str j => exact iop_add_str pins s σ H _ _ v u Q I rx ry ⟨i, j, rfl, rfl, h.1, h.2⟩
    | _ => exact (show False from h).elim
  | ref l =>
    cases y with
    | ref b => exact iop_ext pins s σ H _ _ v u Q I rx ry h
    | _ => exact (show False from h).elim
  | _ => exact (show False from (by cases y <;> exact h)).elim
theorem u_isub : OpR X (inplaceOp .Sub) rSubU := by
  intro pins s σ H x y v u Q I rx ry h
  cases x with
  | int i =>
    cases y with
    | int j => exact iop_sub pins s σ H _ _ v u Q I rx ry ⟨i, j, rfl, rfl, h⟩
    | _ => exact (show False from h).elim
  | _ => exact (show False from (by cases y <;> exact h)).elim
theorem in_of {op : Operator} {r : R2} (h : OpR X (inplaceOp op) r) : InOp X op r := fun pins s σ H x y u v Q I rx ry q => h pins s σ H x y u v Q I rx ry q
theorem ip_of {op : Operator} {r : R2} (h : OpR X (inplaceOp op) r) : PIp X op r := fun pins s σ H x y u v Q I rx ry q => h pins s σ H x y u v Q I rx ry q
theorem pt_tru {a : Expr} {ta : TE} (ha : PE X a ta) (he : ∀ whole, isTrue a X.env whole = (do let v ← whole; standAt a.pos; holding [v] (truthy v)) := by intro _; rfl) : PT X a (tTruth X.K ta) := pt_truth ha he
/-- what leaves a def -/
theorem passX {P : Program} {w : World} {K : PySem.W.Frag} {mg : Str → Option Value} {base : Heap} {N : List Str} {q : Str} {sc : Scope} {f : Addr} {cd : Value} {A : Around} {outer : List Env} {s : Shared} {H : Hp} {E : XK} :
    Passes (L2.CX P w) (cxOf (L2.CX P w) P w K mg base N q sc f cd A outer s H E) E := passes_call (takes_of rfl rfl rfl rfl) fun _ _ _ _ h => h
theorem pe_gint {x : Str} {i : Int} {pos : Pos} (hg : Gl X x) (hm : ∃ t, X.mg x = some (.int i t)) (hd : (x == ("__debug__" : Str)) = false := by decide) : PE X (.Name x pos) (tC (.int i)) := by
  obtain ⟨t, h⟩ := hm
  exact pe_glob hg h ⟨t, rfl⟩ hd
theorem pe_gstr {x z : Str} {pos : Pos} (hg : Gl X x) (hm : ∃ t, X.mg x = some (.str z t)) (hd : (x == ("__debug__" : Str)) = false := by decide) : PE X (.Name x pos) (tC (.str z)) := by
  obtain ⟨t, h⟩ := hm
  exact pe_glob hg h ⟨t, rfl⟩ hd
end
end Ph
namespace Ph
open PySem PySem.Spec PyProof.Rows L2
/-! ### more rules by values -/
def rSlU (K : PySem.W.Frag) : V → Option Int → Option Int → Hp → VK → Prop := fun x lo hi H Q => rSlL K x lo hi H Q ∨ rSlS x lo hi H Q ∨ rSlT K x lo hi H Q
theorem u_sl {X : Cx} : SlR X (rSlU X.K) := sl_list.or (sl_str.or sl_tup)
def rLenU (K : PySem.W.Frag) : List V → Hp → VK → Prop := fun xs H Q => (∃ x n, xs = [x] ∧ LenV K x H n ∧ Q (.int n) H) ∨ ∃ a kvs, xs = [V.ref a] ∧ H a = some (.dK kvs) ∧ Q (.int kvs.length) H
theorem u_len {X : Cx} : CallR X (.builtin "len") (rLenU X.K) := call_len.or call_lenD
def rAbs : List V → Hp → VK → Prop := fun xs H Q => ∃ i, xs = [.int i] ∧ Q (.int (if i < 0 then -i else i)) H
def rMax2 : List V → Hp → VK → Prop := fun xs H Q => ∃ i j, xs = [.int i, .int j] ∧ Q (.int (if j > i then j else i)) H
def rMin2 : List V → Hp → VK → Prop := fun xs H Q => ∃ i j, xs = [.int i, .int j] ∧ Q (.int (if j < i then j else i)) H
def rInt1 : List V → Hp → VK → Prop := fun xs H Q => (∃ i, xs = [.int i] ∧ Q (.int i) H) ∨ ∃ k, xs = [.bl k] ∧ Q (.int (if k then 1 else 0)) H
def rNeg : V → Hp → VK → Prop := rU fun i => .int (-i)
def tRaiseE (C : Addr) (E : XK) : TS := fun _ _ H => E (.ref C) none H
abbrev lamq (q : Str) : Str := q ++ ".<locals>." ++ "<lambda>"
/-! ### by places -/
inductive SetAt (v : V) : Nat → L2.St → L2.St → Prop
  | here {x : Option V} {σ : L2.St} : SetAt v 0 (x :: σ) (some v :: σ)
  | there {i : Nat} {x : Option V} {σ σ' : L2.St} : SetAt v i σ σ' → SetAt v (i + 1) (x :: σ) (x :: σ')
theorem SetAt.ok {v : V} : ∀ {i σ σ'}, SetAt v i σ σ' → σ.set i (some v) = σ'
  | _, _, _, .here => rfl
  | _, _, _, .there h => by rw [List.set_cons_succ, h.ok]
inductive LSet (v : V) : Nat → List V → List V → Prop
  | here {x : V} {r : List V} : LSet v 0 (x :: r) (v :: r)
  | there {i : Nat} {x : V} {r r' : List V} : LSet v i r r' → LSet v (i + 1) (x :: r) (x :: r')
theorem LSet.ok {v : V} : ∀ {i r r'}, LSet v i r r' → r.set i v = r'
  | _, _, _, .here => rfl
  | _, _, _, .there h => by rw [List.set_cons_succ, h.ok]
inductive Lk (f : Str) : List (Str × V) → V → Prop
  | here {v : V} {fs : List (Str × V)} : Lk f ((f, v) :: fs) v
  | there {g : Str} {x : V} {fs : List (Str × V)} {v : V} : f ≠ g → Lk f fs v → Lk f ((g, x) :: fs) v
theorem Lk.ok {f : Str} : ∀ {fs v}, Lk f fs v → fs.lookup f = some v
  | _, _, .here => by simp [List.lookup]
  | _, _, .there n h => by
    rw [List.lookup_cons, show (f == _) = false from beq_eq_false_iff_ne.mpr n]
    exact h.ok
inductive NoLk (f : Str) : List (Str × V) → Prop
  | nil : NoLk f []
  | there {g : Str} {x : V} {fs : List (Str × V)} : f ≠ g → NoLk f fs → NoLk f ((g, x) :: fs)
theorem NoLk.ok {f : Str} : ∀ {fs}, NoLk f fs → fs.lookup f = none
  | _, .nil => rfl
  | _, .there n h => by
    rw [List.lookup_cons, show (f == _) = false from beq_eq_false_iff_ne.mpr n]
    exact h.ok
inductive Put (f : Str) (v : V) : List (Str × V) → List (Str × V) → Prop
  | nil : Put f v [] [(f, v)]
  | here {x : V} {fs : List (Str × V)} : Put f v ((f, x) :: fs) ((f, v) :: fs)
  | there {g : Str} {x : V} {fs fs' : List (Str × V)} : g ≠ f → Put f v fs fs' → Put f v ((g, x) :: fs) ((g, x) :: fs')
theorem Put.ok {f : Str} {v : V} : ∀ {fs fs'}, Put f v fs fs' → putF f v fs = fs'
  | _, _, .nil => rfl
  | _, _, .here => if_pos rfl
  | _, _, .there (g := g) (x := x) (fs := fs) n h => by
    have e : putF f v ((g, x) :: fs) = if g = f then (g, v) :: fs else (g, x) :: putF f v fs := rfl
    rw [e, if_neg n, h.ok]
/-- a dict's entry -/
inductive Dk (k : Key) : List (Key × V) → V → Prop
  | here {v : V} {r : List (Key × V)} : Dk k ((k, v) :: r) v
  | there {g : Key} {x : V} {r : List (Key × V)} {v : V} : g ≠ k → Dk k r v → Dk k ((g, x) :: r) v
theorem Dk.ok {k : Key} : ∀ {r v}, Dk k r v → valV r k = some v
  | _, _, .here => valV_pos rfl
  | _, _, .there n h => by rw [valV_neg n]; exact h.ok
inductive DNo (k : Key) : List (Key × V) → Prop
  | nil : DNo k []
  | there {g : Key} {x : V} {r : List (Key × V)} : g ≠ k → DNo k r → DNo k ((g, x) :: r)
theorem DNo.ok {k : Key} : ∀ {r}, DNo k r → valV r k = none
  | _, .nil => rfl
  | _, .there n h => by rw [valV_neg n]; exact h.ok
/-- put where it is there -/
inductive DPt (k : Key) (v : V) : List (Key × V) → List (Key × V) → Prop
  | here {x : V} {r : List (Key × V)} : DNo k r → DPt k v ((k, x) :: r) ((k, v) :: r)
  | there {g : Key} {x : V} {r r' : List (Key × V)} : g ≠ k → DPt k v r r' → DPt k v ((g, x) :: r) ((g, x) :: r')
theorem DNo.map {k : Key} {v : V} : ∀ {r}, DNo k r → (r.map fun kv => if kv.1 = k then (kv.1, v) else kv) = r
  | _, .nil => rfl
  | _, .there n h => by rw [List.map_cons, h.map, if_neg n]
theorem DPt.map {k : Key} {v : V} : ∀ {r r'}, DPt k v r r' → (r.map fun kv => if kv.1 = k then (kv.1, v) else kv) = r'
  | _, _, .here h => by rw [List.map_cons, h.map, if_pos rfl]
  | _, _, .there n h => by rw [List.map_cons, h.map, if_neg n]
theorem DPt.any {k : Key} {v : V} : ∀ {r r'}, DPt k v r r' → (r.any fun kv => decide (kv.1 = k)) = true
  | _, _, .here _ => by simp
  | _, _, .there _ h => by rw [List.any_cons, h.any, Bool.or_true]
theorem DPt.ok {k : Key} {v : V} {r r' : List (Key × V)} (h : DPt k v r r') : putK r k v = r' := by
  unfold putK
  rw [if_pos h.any, h.map]
theorem DPt.length {k : Key} {v : V} : ∀ {r r'}, DPt k v r r' → r'.length = r.length
  | _, _, .here _ => rfl
  | _, _, .there _ h => by rw [List.length_cons, List.length_cons, h.length]
/-! ### what waits for a value -/
section
variable (K : PySem.W.Frag)
def kTup (Q : VK) : List V → Hp → Prop := fun xs H1 => xs.length ≤ sizeLine ∧ ∀ p, H1 p = none → Q (.ref p) (upd H1 p (.tup xs))
def kLst (Q : VK) : List V → Hp → Prop := fun xs H1 => xs.length ≤ sizeLine ∧ ∀ p, H1 p = none → Q (.ref p) (upd H1 p (.lst xs))
def kFld (f : Str) (Q : VK) : VK := fun x H1 => ∃ a C dx fs v, x = .ref a ∧ H1 a = some (.ins C dx fs) ∧ Cls K C ∧ NoAttr K C f ∧ fs.lookup f = some v ∧ Q v H1
def kSetF (f : Str) (A : L2.St → Hp → Prop) (σ : L2.St) (y : V) : VK := fun x H2 => ∃ a C dx fs, x = .ref a ∧ H2 a = some (.ins C dx fs) ∧ Cls K C ∧ NoAttr K C f ∧ fs.length < 1000 ∧ A σ (upd H2 a (.ins C dx (putF f y fs)))
def kAugG (f : Str) (a C : Addr) (A : L2.St → Hp → Prop) (σ : L2.St) : VK := fun z H3 => ∃ dx' fs', H3 a = some (.ins C dx' fs') ∧ fs'.length < 1000 ∧ A σ (upd H3 a (.ins C dx' (putF f z fs')))
def kAugF (f : Str) (tv : TE) (rd : R2) (A : L2.St → Hp → Prop) (σ : L2.St) : VK := fun x H1 => ∃ a C dx fs v, x = .ref a ∧ H1 a = some (.ins C dx fs) ∧ Cls K C ∧ NoAttr K C f ∧ fs.lookup f = some v ∧
    tv σ H1 fun y H2 => rd v y H2 (kAugG f a C A σ)
def kTest (Qb : Bool → Hp → Prop) : VK := fun x H1 => ∃ k, x = .bl k ∧ Qb k H1
def kTru (Qb : Bool → Hp → Prop) : VK := fun x H1 => ∃ k, TruV K x H1 k ∧ Qb k H1
def kAndV (σ : L2.St) (tb : TE) (Q : VK) : VK := fun x H1 => ∃ c, x = .bl c ∧ if c = true then tb σ H1 Q else Q (.bl false) H1
def kOrV (σ : L2.St) (tb : TE) (Q : VK) : VK := fun x H1 => ∃ c, x = .bl c ∧ if c = true then Q (.bl true) H1 else tb σ H1 Q
def kNotV (Q : VK) : VK := fun x H1 => ∃ c, x = .bl c ∧ Q (.bl (!c)) H1
def kChain (r' : R2) (σ : L2.St) (tc : TE) (y : V) (Q : VK) : VK := fun z H3 => ∃ k, z = .bl k ∧ (if k = true then tc σ H3 fun w' H4 => r' y w' H4 Q else Q (.bl false) H3)
def kMeth (C : Addr) (m : Str) (σ : L2.St) (tr : TA) (Z : V → List V → Hp → Prop) : VK := fun x H1 => ∃ a dx fs, x = .ref a ∧ H1 a = some (.ins C dx fs) ∧ fs.lookup m = none ∧ tr σ H1 fun vs H2 => Z x vs H2
def kInit (Q : VK) (x : Addr) : VK := fun v H2 => v = .non ∧ Q (.ref x) H2
def kMake (C : Addr) (sp : Sp) (dvs : List V) (E : XK) (Q : VK) : List V → Hp → Prop := fun vs H1 => ∀ x dx, H1 x = none → H1 dx = none → dx ≠ x → sp (.ref x :: (vs ++ dvs)) (upd (upd H1 dx (.own x)) x (.ins C dx [])) (kInit Q x) E
def kBm (T : String) (r : V → List V → Hp → VK → Prop) (σ : L2.St) (tr : TA) (Q : VK) : VK := fun x H1 => tyV K T x H1 ∧ tr σ H1 fun xs H2 => r x xs H2 Q
def kPar2 (i j : Nat) (σ : L2.St) (A : L2.St → Hp → Prop) : List V → Hp → Prop := fun vs H1 => ∃ v w, vs = [v, w] ∧ gName i v σ H1 fun σ1 H2 => gName j w σ1 H2 A
def kPar3 (i j l : Nat) (σ : L2.St) (A : L2.St → Hp → Prop) : List V → Hp → Prop := fun vs H1 => ∃ u v w, vs = [u, v, w] ∧ gName i u σ H1 fun σ1 H2 => gName j v σ1 H2 fun σ2 H3 => gName l w σ2 H3 A
def kCall (sp : Sp) (dvs : List V) (E : XK) (Q : VK) : List V → Hp → Prop := fun vs H1 => sp (vs ++ dvs) H1 Q E
end
/-! ### statements -/
section
variable {K : PySem.W.Frag} {A : L2.St → Hp → Prop} {Bt : VK} {Cb Dc : L2.St → Hp → Prop} {σ σ' : L2.St} {B H : Hp} {Q : VK} {R : L2.St → Hp → Prop} {L L' : List (Addr × HO)} {I : List Im}
theorem s_nx (h : A σ H) : Ends.nx ⟨A, Bt, Cb, Dc⟩ σ H := h
theorem s_rt {v : V} (h : Bt v H) : Ends.rt ⟨A, Bt, Cb, Dc⟩ v H := h
theorem s_bk (h : Cb σ H) : Ends.bk ⟨A, Bt, Cb, Dc⟩ σ H := h
theorem s_ct (h : Dc σ H) : Ends.ct ⟨A, Bt, Cb, Dc⟩ σ H := h
theorem s_seq {t u : TS} (h : t ⟨u ⟨A, Bt, Cb, Dc⟩, Bt, Cb, Dc⟩ σ H) : tSeq t u ⟨A, Bt, Cb, Dc⟩ σ H := h
theorem s_next (h : A σ H) : tNext ⟨A, Bt, Cb, Dc⟩ σ H := h
theorem s_break (h : Cb σ H) : tBreak ⟨A, Bt, Cb, Dc⟩ σ H := h
theorem s_cont (h : Dc σ H) : tCont ⟨A, Bt, Cb, Dc⟩ σ H := h
theorem s_asg {te : TE} {g : TG} (h : te σ H fun x H1 => g x σ H1 A) : tAsg te g ⟨A, Bt, Cb, Dc⟩ σ H := h
theorem s_asg2 {te : TE} {g g2 : TG} (h : te σ H fun x H1 => g x σ H1 fun σ1 H2 => g2 x σ1 H2 A) : tAsg2 te g g2 ⟨A, Bt, Cb, Dc⟩ σ H := h
theorem s_name {i : Nat} {v : V} (h : SetAt v i σ σ') (q : R σ' H) : gName i v σ H R := by
  show R (σ.set i (some v)) H
  rw [h.ok]
  exact q
theorem s_ret {te : TE} (h : te σ H Bt) : tRet te ⟨A, Bt, Cb, Dc⟩ σ H := h
theorem s_retN (h : Bt .non H) : tRetN ⟨A, Bt, Cb, Dc⟩ σ H := h
theorem s_drop {te : TE} (h : te σ H fun _ H1 => A σ H1) : tDrop te ⟨A, Bt, Cb, Dc⟩ σ H := h
theorem s_if {c : TT} {t u : TS} (h : c σ H fun b H1 => if b = true then t ⟨A, Bt, Cb, Dc⟩ σ H1 else u ⟨A, Bt, Cb, Dc⟩ σ H1) : tIfS c t u ⟨A, Bt, Cb, Dc⟩ σ H := h
theorem s_aug {i : Nat} {te : TE} {ti : TIp} {x : V} (e : σ[i]? = some (some x)) (h : te σ H fun y H1 => ti x y H1 fun z H2 => gName i z σ H2 A) : tAug i te ti ⟨A, Bt, Cb, Dc⟩ σ H := ⟨x, e, h⟩
theorem s_par {i j : Nat} {ta : TA} (h : ta σ H (kPar2 i j σ A)) : tPar i j ta ⟨A, Bt, Cb, Dc⟩ σ H := h
theorem s_par3 {i j l : Nat} {ta : TA} (h : ta σ H (kPar3 i j l σ A)) : tPar3 i j l ta ⟨A, Bt, Cb, Dc⟩ σ H := h
theorem s_par2V {i j : Nat} {v w : V} (h : gName i v σ H fun σ1 H2 => gName j w σ1 H2 A) : kPar2 i j σ A [v, w] H := ⟨v, w, rfl, h⟩
theorem s_par3V {i j l : Nat} {u v w : V} (h : gName i u σ H fun σ1 H2 => gName j v σ1 H2 fun σ2 H3 => gName l w σ2 H3 A) : kPar3 i j l σ A [u, v, w] H := ⟨u, v, w, rfl, h⟩
theorem s_raise {C : Addr} {E : XK} (h : E (.ref C) none H) : tRaiseE C E ⟨A, Bt, Cb, Dc⟩ σ H := h
/-! ### expressions -/
variable {ta tb te : TE} {tr : TA} {v x y : V}
theorem s_var {i : Nat} (e : σ[i]? = some (some v)) (h : Q v H) : tVar i σ H Q := ⟨v, e, h⟩
theorem s_c (h : Q v H) : tC v σ H Q := h
theorem s_op {r : R2} (h : ta σ H fun x H1 => tb σ H1 fun y H2 => r x y H2 Q) : tOp r ta tb σ H Q := h
theorem s_un {r : V → Hp → VK → Prop} (h : ta σ H fun x H1 => r x H1 Q) : tUn r ta σ H Q := h
theorem s_cons {Qa : List V → Hp → Prop} (h : te σ H fun x H1 => tr σ H1 fun xs H2 => Qa (x :: xs) H2) : tCons te tr σ H Qa := h
theorem s_nil {Qa : List V → Hp → Prop} (h : Qa [] H) : tNil σ H Qa := h
theorem s_tup (h : tr σ H (kTup Q)) : tTup tr σ H Q := h
theorem s_lst (h : tr σ H (kLst Q)) : tLst tr σ H Q := h
theorem s_tupN {xs : List V} (hC : Ctx K B H L I) (hz : xs.length ≤ 1000) (k : ∀ p H1, Ctx K B H1 L (.tup p xs :: I) → Q (.ref p) H1) : kTup Q xs H :=
  ⟨Nat.le_trans hz (by decide), fun p hp => k p _ (hC.newT hp)⟩
theorem s_lstN {xs : List V} (hC : Ctx K B H L I) (hz : xs.length ≤ 1000) (k : ∀ p H1, Ctx K B H1 ((p, .lst xs) :: L) I → Q (.ref p) H1) : kLst Q xs H :=
  ⟨Nat.le_trans hz (by decide), fun p hp => k p _ (hC.newM hp rfl)⟩
theorem s_dnewK (hC : Ctx K B H L I) (k : ∀ p H1, Ctx K B H1 ((p, .dK []) :: L) I → Q (.ref p) H1) : tDNewK σ H Q := fun p hp => k p _ (hC.newM hp rfl)
theorem s_dnewT (hC : Ctx K B H L I) (k : ∀ p H1, Ctx K B H1 ((p, .dT []) :: L) I → Q (.ref p) H1) : tDNewT σ H Q := fun p hp => k p _ (hC.newM hp rfl)
theorem s_fld {f : Str} (h : ta σ H (kFld K f Q)) : tFld K ta f σ H Q := h
theorem s_fldV {f : Str} {a C dx : Addr} {fs : List (Str × V)} (m : H a = some (.ins C dx fs)) (c : Cls K C) (n : NoAttr K C f) (l : Lk f fs v) (q : Q v H) : kFld K f Q (.ref a) H := ⟨a, C, dx, fs, v, rfl, m, c, n, l.ok, q⟩
theorem s_setF {f : Str} {tv : TE} (h : tv σ H fun y H1 => ta σ H1 (kSetF K f A σ y)) : sFld K ta tv f ⟨A, Bt, Cb, Dc⟩ σ H := h
theorem s_setV {f : Str} {a C dx : Addr} {fs fs' : List (Str × V)} (hC : Ctx K B H L I) (m : H a = some (.ins C dx fs)) (c : Cls K C) (n : NoAttr K C f) (z : fs.length < 1000) (p : Put f y fs fs') (u : Up a (.ins C dx fs') L L')
    (k : ∀ H1, Ctx K B H1 L' I → A σ H1) : kSetF K f A σ y (.ref a) H :=
  ⟨a, C, dx, fs, rfl, m, c, n, z, by rw [p.ok]; exact k _ (hC.put u rfl)⟩
theorem s_augF {f : Str} {tv : TE} {rd : R2} (h : ta σ H (kAugF K f tv rd A σ)) : sFldAug K ta tv rd f ⟨A, Bt, Cb, Dc⟩ σ H := h
theorem s_augV {f : Str} {a C dx : Addr} {fs : List (Str × V)} {tv : TE} {rd : R2} (m : H a = some (.ins C dx fs)) (c : Cls K C) (n : NoAttr K C f) (l : Lk f fs v) (q : tv σ H fun y H2 => rd v y H2 (kAugG f a C A σ)) : kAugF K f tv rd A σ (.ref a) H := ⟨a, C, dx, fs, v, rfl, m, c, n, l.ok, q⟩
theorem s_augW {f : Str} {a C dx : Addr} {fs fs' : List (Str × V)} (hC : Ctx K B H L I) (m : H a = some (.ins C dx fs)) (z : fs.length < 1000) (p : Put f y fs fs') (u : Up a (.ins C dx fs') L L')
    (k : ∀ H1, Ctx K B H1 L' I → A σ H1) : kAugG f a C A σ y H := ⟨dx, fs, m, z, by rw [p.ok]; exact k _ (hC.put u rfl)⟩
theorem s_addI {i j : Int} (h : Q (.int (i + j)) H) : rAddU K (.int i) (.int j) H Q := h
theorem s_addS {i j : Str} (z : i.length + j.length ≤ sizeLine) (h : Q (.str (i ++ j)) H) : rAddU K (.str i) (.str j) H Q := ⟨z, h⟩
theorem s_addL {l b : Addr} {xs zs : List V} (hC : Ctx K B H L I) (h1 : H l = some (.lst xs)) (h2 : H b = some (.lst zs)) (z : xs.length + zs.length ≤ 100000) (k : ∀ p H1, Ctx K B H1 ((p, .lst (xs ++ zs)) :: L) I → Q (.ref p) H1) :
    rAddU K (.ref l) (.ref b) H Q := .inl ⟨xs, zs, h1, h2, Nat.le_trans z (by decide), fun p hp => k p _ (hC.newM hp rfl)⟩
theorem s_subI {i j : Int} (h : Q (.int (i - j)) H) : rSubU (.int i) (.int j) H Q := h
theorem s_mulI {i j : Int} (c : CMul i j) (h : Q (.int (i * j)) H) : rMulU (.int i) (.int j) H Q := ⟨c, h⟩
theorem s_divI {i j : Int} (c : CDiv i j) (h : Q (.int (i / j)) H) : rDivU (.int i) (.int j) H Q := ⟨c, h⟩
theorem s_modI {i j : Int} (c : 0 < j) (h : Q (.int (i % j)) H) : rModU (.int i) (.int j) H Q := ⟨c, h⟩
theorem s_powI {i j : Int} (c : CPow i j) (h : Q (.int (i ^ j.toNat)) H) : rPowU (.int i) (.int j) H Q := ⟨c, h⟩
theorem s_negI {i : Int} (h : Q (.int (-i)) H) : rNeg (.int i) H Q := ⟨i, rfl, h⟩
theorem s_iaddI {i j : Int} (h : Q (.int (i + j)) H) : rIAddU (.int i) (.int j) H Q := h
theorem s_ltI {i j : Int} (h : Q (.bl (decide (i < j))) H) : rLt (.int i) (.int j) H Q := h
theorem s_leI {i j : Int} (h : Q (.bl (decide (i ≤ j))) H) : rLe (.int i) (.int j) H Q := h
theorem s_gtI {i j : Int} (h : Q (.bl (decide (j < i))) H) : rGt (.int i) (.int j) H Q := h
theorem s_geI {i j : Int} (h : Q (.bl (decide (j ≤ i))) H) : rGe (.int i) (.int j) H Q := h
theorem s_isN_non (h : Q (.bl true) H) : rIsN .non .non H Q := ⟨rfl, h⟩
theorem s_isN_ref {a : Addr} (h : Q (.bl false) H) : rIsN (.ref a) .non H Q := ⟨rfl, h⟩
theorem s_isN_int {i : Int} (h : Q (.bl false) H) : rIsN (.int i) .non H Q := ⟨rfl, h⟩
theorem s_isN_str {i : Str} (h : Q (.bl false) H) : rIsN (.str i) .non H Q := ⟨rfl, h⟩
theorem s_isN_bl {i : Bool} (h : Q (.bl false) H) : rIsN (.bl i) .non H Q := ⟨rfl, h⟩
theorem s_notN_non (h : Q (.bl false) H) : rNotN .non .non H Q := ⟨rfl, h⟩
theorem s_notN_ref {a : Addr} (h : Q (.bl true) H) : rNotN (.ref a) .non H Q := ⟨rfl, h⟩
theorem s_notN_int {i : Int} (h : Q (.bl true) H) : rNotN (.int i) .non H Q := ⟨rfl, h⟩
theorem s_notN_str {i : Str} (h : Q (.bl true) H) : rNotN (.str i) .non H Q := ⟨rfl, h⟩
theorem s_notN_bl {i : Bool} (h : Q (.bl true) H) : rNotN (.bl i) .non H Q := ⟨rfl, h⟩
theorem s_eqI {i j : Int} (h : Q (.bl (decide (i = j))) H) : rEqU K (.int i) (.int j) H Q := .inl ⟨rfl, by rw [show decide (V.int i = V.int j) = decide (i = j) from by simp]; exact h⟩
theorem s_neI {i j : Int} (h : Q (.bl (!decide (i = j))) H) : rNeU K (.int i) (.int j) H Q := .inl ⟨rfl, by rw [show decide (V.int i = V.int j) = decide (i = j) from by simp]; exact h⟩
theorem s_eqS {i j : Str} (h : Q (.bl (decide (i = j))) H) : rEqU K (.str i) (.str j) H Q := .inl ⟨rfl, by rw [show decide (V.str i = V.str j) = decide (i = j) from by simp]; exact h⟩
theorem s_neS {i j : Str} (h : Q (.bl (!decide (i = j))) H) : rNeU K (.str i) (.str j) H Q := .inl ⟨rfl, by rw [show decide (V.str i = V.str j) = decide (i = j) from by simp]; exact h⟩
theorem s_eqB {i j : Bool} (h : Q (.bl (i == j)) H) : rEqU K (.bl i) (.bl j) H Q := .inl ⟨rfl, by rw [show decide (V.bl i = V.bl j) = (i == j) from by cases i <;> cases j <;> rfl]; exact h⟩
theorem s_neB {i j : Bool} (h : Q (.bl (i != j)) H) : rNeU K (.bl i) (.bl j) H Q := .inl ⟨rfl, by rw [show (!decide (V.bl i = V.bl j)) = (i != j) from by cases i <;> cases j <;> rfl]; exact h⟩
theorem s_eqNS {j : Str} (h : Q (.bl false) H) : rEqU K .non (.str j) H Q := .inl ⟨rfl, h⟩
theorem s_neNS {j : Str} (h : Q (.bl true) H) : rNeU K .non (.str j) H Q := .inl ⟨rfl, h⟩
theorem s_eqD {d e : PyData} (h1 : Dp K H x d) (h2 : Dp K H y e) (s1 : SeqAt.shaped d = true) (s2 : SeqAt.shaped e = true) (h : Q (.bl (PyData.eqv d e)) H) : rEqU K x y H Q := .inr ⟨d, e, h1, h2, s1, s2, h⟩
theorem s_neD {d e : PyData} (h1 : Dp K H x d) (h2 : Dp K H y e) (s1 : SeqAt.shaped d = true) (s2 : SeqAt.shaped e = true) (h : Q (.bl (!PyData.eqv d e)) H) : rNeU K x y H Q := .inr ⟨d, e, h1, h2, s1, s2, h⟩
/-- an item of a tuple, of a list, at a place -/
theorem s_ixT {a : Addr} {xs : List V} {j : Nat} (h : SqT K H a xs) (e : xs[j]? = some v) (q : Q v H) : rIxU K (.ref a) (.int (j : Nat)) H Q := .inr (.inl ⟨a, xs, j, v, rfl, rfl, h, atI_nat e, q⟩)
theorem s_ixL {a : Addr} {xs : List V} {i : Int} (h : H a = some (.lst xs)) (e : atI xs i = some v) (q : Q v H) : rIxU K (.ref a) (.int i) H Q := .inl ⟨a, xs, i, v, rfl, rfl, SqL.of h, e, q⟩
theorem s_ixD {a : Addr} {r : List (Key × V)} {k : Str} (h : H a = some (.dK r)) (e : Dk (Sum.inr k) r v) (q : Q v H) : rIxU K (.ref a) (.str k) H Q :=
  .inr (.inr (.inr ⟨a, v, rfl, by rw [← e.ok]; exact DGet.k (k := Sum.inr k) h, q⟩))
theorem s_subG {to ti : TE} {t : TSet} (h : to σ H fun o H1 => ti σ H1 fun i H2 => t o i v H2 fun H3 => R σ H3) : gSub to ti t v σ H R := h
theorem s_putD {a : Addr} {r r' : List (Key × V)} {k : Str} {Z : Hp → Prop} (hC : Ctx K B H L I) (h : H a = some (.dK r)) (z : r.length < 1000) (e : DPt (Sum.inr k) v r r') (u : Up a (.dK r') L L') (q : ∀ H1, Ctx K B H1 L' I → Z H1) : rSetU (.ref a) (.str k) v H Z :=
  .inr ⟨a, upd H a (.dK (putK r (Sum.inr k) v)), rfl, DPut.k (k := Sum.inr k) h (Nat.lt_of_lt_of_le z (by decide)), by rw [e.ok]; exact q _ (hC.put u rfl)⟩
theorem s_putL {a : Addr} {xs xs' : List V} {i : Int} {j : Nat} {Z : Hp → Prop} (hC : Ctx K B H L I) (h : H a = some (.lst xs)) (e : ixN xs.length i = some j) (w : LSet v j xs xs') (u : Up a (.lst xs') L L') (q : ∀ H1, Ctx K B H1 L' I → Z H1) : rSetU (.ref a) (.int i) v H Z :=
  .inl ⟨a, xs, i, j, rfl, rfl, h, e, by rw [w.ok]; exact q _ (hC.put u rfl)⟩
theorem s_gtup {n : Nat} {t : TGs} {a : Addr} {xs : List V} (h : SqT K H a xs) (z : xs.length = n) (q : t xs σ H R) : gTup K n t (.ref a) σ H R := ⟨a, xs, rfl, h, z, q⟩
theorem s_gcons {t : TG} {u : TGs} {r : List V} (q : t v σ H fun σ1 H1 => u r σ1 H1 R) : gCons t u (v :: r) σ H R := ⟨v, r, rfl, q⟩
theorem s_gnil (q : R σ H) : gNil [] σ H R := ⟨rfl, q⟩
/-! ### tests -/
variable {t u : TT} {Qb : Bool → Hp → Prop} {b : Bool}
theorem s_test (h : te σ H (kTest Qb)) : tTest te σ H Qb := h
theorem s_bl (h : Qb b H) : kTest Qb (.bl b) H := ⟨b, rfl, h⟩
theorem s_and (h : t σ H fun c H1 => if c = true then u σ H1 Qb else Qb false H1) : tAnd t u σ H Qb := h
theorem s_or (h : t σ H fun c H1 => if c = true then Qb true H1 else u σ H1 Qb) : tOr t u σ H Qb := h
theorem s_not (h : t σ H fun c H1 => Qb (!c) H1) : tNot t σ H Qb := h
theorem s_tru (h : ta σ H (kTru K Qb)) : tTruth K ta σ H Qb := h
theorem s_truB (h : Qb b H) : kTru K Qb (.bl b) H := ⟨b, rfl, h⟩
theorem s_truN (h : Qb false H) : kTru K Qb .non H := ⟨false, rfl, h⟩
theorem s_andB (h : if b = true then tb σ H Q else Q (.bl false) H) : kAndV σ tb Q (.bl b) H := ⟨b, rfl, h⟩
theorem s_orB (h : if b = true then Q (.bl true) H else tb σ H Q) : kOrV σ tb Q (.bl b) H := ⟨b, rfl, h⟩
theorem s_notB (h : Q (.bl (!b)) H) : kNotV Q (.bl b) H := ⟨b, rfl, h⟩
theorem s_andV (h : ta σ H (kAndV σ tb Q)) : tAndV ta tb σ H Q := h
theorem s_orV (h : ta σ H (kOrV σ tb Q)) : tOrV ta tb σ H Q := h
theorem s_notV (h : ta σ H (kNotV Q)) : tNotV ta σ H Q := h
theorem s_ifE (h : t σ H fun c H1 => if c = true then ta σ H1 Q else tb σ H1 Q) : tIf t ta tb σ H Q := h
theorem s_chain {r r' : R2} {tc : TE} (h : ta σ H fun x H1 => tb σ H1 fun y H2 => r x y H2 (kChain r' σ tc y Q)) : tChain r r' ta tb tc σ H Q := h
theorem s_chainB {r' : R2} {tc : TE} (h : if b = true then tc σ H fun w' H4 => r' y w' H4 Q else Q (.bl false) H) : kChain r' σ tc y Q (.bl b) H := ⟨b, rfl, h⟩
theorem s_iteD {p : Prop} [Decidable p] {X Y : Prop} (h1 : p → X) (h2 : ¬ p → Y) : if decide p = true then X else Y := by
  by_cases h : p
  · rw [if_pos (decide_eq_true h)]
    exact h1 h
  · rw [if_neg (by rw [decide_eq_false h]; exact Bool.false_ne_true)]
    exact h2 h
theorem s_iteND {p : Prop} [Decidable p] {X Y : Prop} (h1 : ¬ p → X) (h2 : p → Y) : if (!decide p) = true then X else Y := by
  by_cases h : p
  · rw [decide_eq_true h]
    exact iteF (h2 h)
  · rw [decide_eq_false h]
    exact iteT (h1 h)
theorem s_iteB {X Y : Prop} (h1 : b = true → X) (h2 : b = false → Y) : if b = true then X else Y := by
  cases b with
  | true => exact iteT (h1 rfl)
  | false => exact iteF (h2 rfl)
theorem s_iteNB {X Y : Prop} (h1 : b = false → X) (h2 : b = true → Y) : if (!b) = true then X else Y := by
  cases b with
  | true => exact iteF (h2 rfl)
  | false => exact iteT (h1 rfl)
theorem s_iteNT {X Y : Prop} (h : Y) : if (!true) = true then X else Y := iteF h
theorem s_iteNF {X Y : Prop} (h : X) : if (!false) = true then X else Y := iteT h
theorem s_iteDT {p : Prop} [Decidable p] {X Y : Prop} (hp : p) (h : X) : if decide p = true then X else Y := by
  rw [decide_eq_true hp]
  exact iteT h
theorem s_iteDF {p : Prop} [Decidable p] {X Y : Prop} (hp : ¬ p) (h : Y) : if decide p = true then X else Y := by
  rw [decide_eq_false hp]
  exact iteF h
/-! ### calls -/
theorem s_cb {r : List V → Hp → VK → Prop} (h : tr σ H fun vs H1 => r vs H1 Q) : tCB r tr σ H Q := h
theorem s_abs {i : Int} (h : Q (.int (if i < 0 then -i else i)) H) : rAbs [.int i] H Q := ⟨i, rfl, h⟩
theorem s_max2 {i j : Int} (h : Q (.int (if j > i then j else i)) H) : rMax2 [.int i, .int j] H Q := ⟨i, j, rfl, h⟩
theorem s_min2 {i j : Int} (h : Q (.int (if j < i then j else i)) H) : rMin2 [.int i, .int j] H Q := ⟨i, j, rfl, h⟩
theorem s_int1 {i : Int} (h : Q (.int i) H) : rInt1 [.int i] H Q := .inl ⟨i, rfl, h⟩
theorem s_int1b (h : Q (.int (if b then 1 else 0)) H) : rInt1 [.bl b] H Q := .inr ⟨b, rfl, h⟩
theorem s_lenL {l : Addr} {xs : List V} (m : H l = some (.lst xs)) (h : Q (.int xs.length) H) : rLenU K [.ref l] H Q := .inl ⟨_, _, rfl, .inl ⟨xs, SqL.of m, rfl⟩, h⟩
theorem s_lenT {l : Addr} {xs : List V} (m : SqT K H l xs) (h : Q (.int xs.length) H) : rLenU K [.ref l] H Q := .inl ⟨_, _, rfl, .inr ⟨xs, m, rfl⟩, h⟩
theorem s_lenS {z : Str} (m : z.length ≤ sizeLine) (h : Q (.int z.length) H) : rLenU K [.str z] H Q := .inl ⟨_, _, rfl, ⟨m, rfl⟩, h⟩
theorem s_lenD {l : Addr} {r : List (Key × V)} (m : H l = some (.dK r)) (h : Q (.int r.length) H) : rLenU K [.ref l] H Q := .inr ⟨_, _, rfl, m, h⟩
theorem s_call {sp : Sp} {dvs : List V} {E : XK} (h : tr σ H (kCall sp dvs E Q)) : tCall sp dvs E tr σ H Q := h
theorem s_meth {C : Addr} {m : Str} {sp : Sp} {dvs : List V} {E : XK} (h : ta σ H (kMeth C m σ tr fun x vs H2 => kCall sp dvs E Q (x :: vs) H2)) : tMeth C m sp dvs E ta tr σ H Q := h
theorem s_methV {a C dx : Addr} {fs : List (Str × V)} {m : Str} {Z : V → List V → Hp → Prop} (e : H a = some (.ins C dx fs)) (n : NoLk m fs) (h : tr σ H fun vs H2 => Z (.ref a) vs H2) : kMeth C m σ tr Z (.ref a) H := ⟨a, dx, fs, rfl, e, n.ok, h⟩
theorem s_callV {sp : Sp} {vs : List V} {E : XK} (h : sp vs H Q E) : kCall sp [] E Q vs H := by
  unfold kCall
  rw [List.append_nil]
  exact h
theorem s_make {C : Addr} {sp : Sp} {dvs : List V} {E : XK} (h : tr σ H (kMake C sp dvs E Q)) : tMake C sp dvs E tr σ H Q := h
theorem s_makeV {C : Addr} {sp : Sp} {vs : List V} {E : XK} (hC : Ctx K B H L I) (k : ∀ x dx H1, Ctx K B H1 ((x, .ins C dx []) :: L) I → sp (.ref x :: vs) H1 (kInit Q x) E) : kMake C sp [] E Q vs H := fun x dx hx hd ne => by
  rw [List.append_nil]
  refine k x dx _ ?_
  have h1 : Ctx K B (upd H dx (.own x)) L I := hC.moved (Stb.new hd) (hC.lay.keep hd)
  exact h1.newM (by rw [upd_ne (fun z => ne z.symm)]; exact hx) rfl
theorem s_bm {T : String} {r : V → List V → Hp → VK → Prop} {to : TE} (h : to σ H (kBm K T r σ tr Q)) : tBM K T r to tr σ H Q := h
theorem s_tyL {l : Addr} {xs : List V} {r : V → List V → Hp → VK → Prop} (m : H l = some (.lst xs)) (h : tr σ H fun xs H2 => r (.ref l) xs H2 Q) : kBm K "list" r σ tr Q (.ref l) H := ⟨.inl ⟨rfl, _, SqL.of m⟩, h⟩
theorem s_append {l : Addr} {xs : List V} (hC : Ctx K B H L I) (m : H l = some (.lst xs)) (z : xs.length < 100000) (u : Up l (.lst (xs ++ [y])) L L') (k : ∀ H1, Ctx K B H1 L' I → Q .non H1) : rAppend (.ref l) [y] H Q :=
  ⟨l, xs, y, rfl, rfl, m, Nat.lt_of_lt_of_le z (by decide), k _ (hC.put u rfl)⟩
end
end Ph
namespace Ph
open PySem PySem.Spec PyProof.Rows L2
/-- no dict within, texts sound, n deep at most -/
def Sh (n : Nat) (d : PyData) : Prop := d.canLay0 = true ∧ d.depth ≤ n
def ShL (n : Nat) (ds : List PyData) : Prop := ∀ d, d ∈ ds → Sh n d
theorem Sh.shaped {n : Nat} {d : PyData} (h : Sh n d) (z : n ≤ 64) : SeqAt.shaped d = true := by
  unfold SeqAt.shaped
  rw [h.1, Bool.true_and]
  exact decide_eq_true (Nat.le_trans h.2 z)
theorem Sh.mono {n m : Nat} {d : PyData} (h : Sh n d) (z : n ≤ m) : Sh m d := ⟨h.1, Nat.le_trans h.2 z⟩
theorem Sh.int {n : Nat} (i : Int) : Sh n (.int i) := ⟨by simp [PyData.canLay0], by simp [PyData.depth]⟩
theorem Sh.bl {n : Nat} (i : Bool) : Sh n (.bool i) := ⟨by simp [PyData.canLay0], by simp [PyData.depth]⟩
theorem Sh.non {n : Nat} : Sh n .none := ⟨by simp [PyData.canLay0], by simp [PyData.depth]⟩
theorem Sh.str {n : Nat} {x : Str} (h : PyData.strOk x = true) : Sh n (.str x) := ⟨by simp [PyData.canLay0, h], by simp [PyData.depth]⟩
theorem canAll {ds : List PyData} (h : ∀ d, d ∈ ds → d.canLay0 = true) : PyData.canLayAll0 ds = true := by
  induction ds with
  | nil => simp [PyData.canLayAll0]
  | cons d r ih =>
    rw [PyData.canLayAll0, h d List.mem_cons_self, ih (fun e he => h e (List.mem_cons_of_mem _ he))]
    rfl
theorem depAll {n : Nat} {ds : List PyData} (h : ∀ d, d ∈ ds → d.depth ≤ n) : PyData.depthAll ds ≤ n := by
  induction ds with
  | nil => simp [PyData.depthAll]
  | cons d r ih =>
    have h1 := h d List.mem_cons_self
    have h2 := ih (fun e he => h e (List.mem_cons_of_mem _ he))
    rw [PyData.depthAll]
    omega
theorem ShL.list {n : Nat} {ds : List PyData} (h : ShL n ds) : Sh (n + 1) (.list ds) := by
  refine ⟨by rw [PyData.canLay0]; exact canAll fun d hd => (h d hd).1, ?_⟩
  have := depAll fun d hd => (h d hd).2
  rw [PyData.depth]
  omega
theorem ShL.tuple {n : Nat} {ds : List PyData} (h : ShL n ds) : Sh (n + 1) (.tuple ds) := by
  refine ⟨by rw [PyData.canLay0]; exact canAll fun d hd => (h d hd).1, ?_⟩
  have := depAll fun d hd => (h d hd).2
  rw [PyData.depth]
  omega
theorem ShL.nil {n : Nat} : ShL n [] := fun d h => by cases h
theorem ShL.cons {n : Nat} {d : PyData} {ds : List PyData} (h : Sh n d) (t : ShL n ds) : ShL n (d :: ds) := fun e he => (List.mem_cons.mp he).elim (fun q => by rw [q]; exact h) (t e)
theorem ShL.append {n : Nat} {ds es : List PyData} (h : ShL n ds) (t : ShL n es) : ShL n (ds ++ es) := fun e he => (List.mem_append.mp he).elim (h e) (t e)
/-- L has what T tells, in another order -/
inductive Perm2 (F : List (Addr × HO)) : List (Addr × HO) → List (Addr × HO) → Prop
  | nil : Perm2 F F F
  | cons {x : Addr × HO} {L L' T : List (Addr × HO)} : Pick x L L' → Perm2 F L' T → Perm2 F L (x :: T)
theorem Perm2.lay {F : List (Addr × HO)} : ∀ {L T : List (Addr × HO)}, Perm2 F L T → L.Perm T
  | _, _, .nil => List.Perm.refl _
  | _, _, .cons p h => p.perm.trans (List.Perm.cons _ h.lay)
theorem Lay.perm2 {H : Hp} {F L T : List (Addr × HO)} (h : Lay H L) (p : Perm2 F L T) : Lay H T := h.perm p.lay
theorem TD.tupR {K : PySem.W.Frag} {H : Hp} {a : Addr} {xs : List V} {ds : List PyData} (t : TDs K H xs ds) (h : SqT K H a xs) : TD K H (.ref a) (.tuple ds) := .tup h t
theorem eqv_self {n : Nat} {d : PyData} (h : Sh n d) : PyData.eqv d d = true := SeqAt.eqv_refl d h.1
end Ph
namespace Ph
open PySem PySem.Spec PyProof.Rows L2
section
variable {K : PySem.W.Frag} {B H : Hp} {L L' F : List (Addr × HO)} {I : List Im} {Q : VK} {σ : L2.St} {A Cb Dc : L2.St → Hp → Prop} {Bt : VK}
/-! slices -/
def kPart (Qo : Option Int → Hp → Prop) : VK := fun x H1 => ∃ i, x = .int i ∧ Qo (some i) H1
theorem s_sl {r : V → Option Int → Option Int → Hp → VK → Prop} {te : TE} {tl th : TO} (h : te σ H fun x H1 => tl σ H1 fun l H2 => th σ H2 fun u H3 => r x l u H3 Q) : tSl r te tl th σ H Q := h
theorem s_noPart {Qo : Option Int → Hp → Prop} (h : Qo none H) : tNoPart σ H Qo := h
theorem s_partE {t : TE} {Qo : Option Int → Hp → Prop} (h : t σ H (kPart Qo)) : tPart t σ H Qo := h
theorem s_partV {i : Int} {Qo : Option Int → Hp → Prop} (h : Qo (some i) H) : kPart Qo (.int i) H := ⟨i, rfl, h⟩
theorem s_slL {a : Addr} {xs : List V} {lo hi : Option Int} (hC : Ctx K B H L I) (h : SqL K H a xs) (k : ∀ p H1, Ctx K B H1 ((p, .lst (cutV xs lo hi)) :: L) I → Q (.ref p) H1) : rSlU K (.ref a) lo hi H Q :=
  .inl ⟨a, xs, rfl, h, fun p hp => k p _ (hC.newM hp rfl)⟩
/-! for -/
def kIl (K : PySem.W.Frag) (R : It → Hp → Prop) : VK := fun x H1 => ∃ a, x = .ref a ∧ (∃ xs, SqL K H1 a xs) ∧ R (Itl K a) H1
def kRng (R : It → Hp → Prop) : List V → Hp → Prop := fun vs H1 => ∃ j : Int, vs = [.int j] ∧ -(2 ^ 62) ≤ j ∧ j < 2 ^ 62 ∧ R (Itr 0 j.toNat) H1
def kFor (g : TG) (tb : TS) (D : Ends) (σ : L2.St) : It → Hp → Prop := fun J H1 => ∃ W : Nat → Nat → L2.St → Hp → Prop, (∃ m, W 0 m σ H1) ∧ ∀ i m σ H, W i m σ H →
  (J.stop i H ∧ D.nx σ H) ∨ (J.go i H ∧ ∃ N : L2.St → Hp → Prop, (∀ σ' H', N σ' H' → ∃ m', m' < m ∧ W (i + 1) m' σ' H') ∧ ∀ x H', J.yld i H x H' → g x σ H' fun σ2 H2 => tb { D with nx := N, ct := N, bk := D.nx } σ2 H2)
theorem s_for {wi : TI} {g : TG} {tb : TS} (h : wi σ H (kFor g tb ⟨A, Bt, Cb, Dc⟩ σ)) : tFor wi g tb ⟨A, Bt, Cb, Dc⟩ σ H := h
theorem s_il {tl : TE} {R : It → Hp → Prop} (h : tl σ H (kIl K R)) : iList K tl σ H R := h
theorem s_ilV {a : Addr} {xs : List V} {R : It → Hp → Prop} (m : H a = some (.lst xs)) (h : R (Itl K a) H) : kIl K R (.ref a) H := ⟨a, rfl, ⟨xs, SqL.of m⟩, h⟩
theorem s_rng {ta : TA} {R : It → Hp → Prop} (h : ta σ H (kRng R)) : iRng1 ta σ H R := h
theorem s_rngV {j : Int} {R : It → Hp → Prop} (h1 : -(2 ^ 62) ≤ j) (h2 : j < 2 ^ 62) (h : R (Itr 0 j.toNat) H) : kRng R [.int j] H := ⟨j, rfl, h1, h2, h⟩
theorem for_rng {n : Nat} {g : TG} {tb : TS} (Pv : Nat → L2.St → Hp → Prop) (h0 : Pv 0 σ H)
    (hs : ∀ i σ H, i < n → Pv i σ H → g (.int i) σ H fun σ2 H2 => tb ⟨Pv (i + 1), Bt, A, Pv (i + 1)⟩ σ2 H2) (hd : ∀ σ H, Pv n σ H → A σ H) : kFor g tb ⟨A, Bt, Cb, Dc⟩ σ (Itr 0 n) H :=
  for_range (lo := 0) (n := n) (g := g) (tb := tb) (D := ⟨A, Bt, Cb, Dc⟩) Pv h0 (fun i σ H hi p => by
    rw [Int.zero_add]
    exact hs i σ H hi p) hd
theorem for_lst {a : Addr} {xs : List V} {g : TG} {tb : TS} (Pv : Nat → L2.St → Hp → Prop) (h0 : Pv 0 σ H) (hl : ∀ i σ H, i ≤ xs.length → Pv i σ H → H a = some (.lst xs))
    (hs : ∀ i x σ H, xs[i]? = some x → Pv i σ H → g x σ H fun σ2 H2 => tb ⟨Pv (i + 1), Bt, A, Pv (i + 1)⟩ σ2 H2) (hd : ∀ σ H, Pv xs.length σ H → A σ H) : kFor g tb ⟨A, Bt, Cb, Dc⟩ σ (Itl K a) H :=
  for_list (K := K) (xs := xs) (g := g) (tb := tb) (D := ⟨A, Bt, Cb, Dc⟩) Pv h0 (fun i σ H hi p => SqL.of (hl i σ H hi p)) hs hd
/-! comprehensions -/
def kLc (g : TG) (tt : TT) (te : TE) (vs : List Nat) (σ : L2.St) (Q : VK) : It → Hp → Prop := fun J H1 => ∀ D, H1 D = none → ∃ W : Nat → Nat → Hp → Prop, (∃ m, W 0 m (upd H1 D (.lst []))) ∧ ∀ i m H, W i m H →
  (J.stop i H ∧ Q (.ref D) H) ∨ (J.go i H ∧ ∃ Nx : Hp → Prop, (∀ H', Nx H' → ∃ m', m' < m ∧ W (i + 1) m' H') ∧ ∀ x H', J.yld i H x H' → g x (wipe σ vs) H' fun σ2 H2 => wipe σ2 vs = wipe σ vs ∧ tt σ2 H2 fun b H3 =>
    if b = true then te σ2 H3 fun y H4 => ∃ acc, H4 D = some (.lst acc) ∧ acc.length < sizeLine ∧ Nx (upd H4 D (.lst (acc ++ [y]))) else Nx H3)
theorem s_lc {wi : TI} {g : TG} {tt : TT} {te : TE} {vs : List Nat} (h : wi σ H (kLc g tt te vs σ Q)) : tLc wi g tt te vs σ H Q := h
def kApp (D : Addr) (Pn : Hp → Prop) : VK := fun y H4 => ∃ acc, H4 D = some (.lst acc) ∧ acc.length < sizeLine ∧ Pn (upd H4 D (.lst (acc ++ [y])))
theorem s_app {D : Addr} {Pn : Hp → Prop} {acc : List V} {y : V} (hC : Ctx K B H L I) (m : H D = some (.lst acc)) (z : acc.length < 100000) (u : Up D (.lst (acc ++ [y])) L L') (k : ∀ H1, Ctx K B H1 L' I → Pn H1) : kApp D Pn y H :=
  ⟨acc, m, Nat.lt_of_lt_of_le z (by rw [sizeLine_eq]; omega), k _ (hC.put u rfl)⟩
theorem lc_lst {a : Addr} {xs : List V} {g : TG} {te : TE} {vs : List Nat} (hC : Ctx K B H L I) (Pv : Addr → Nat → Hp → Prop) (h0 : ∀ D H1, Ctx K B H1 ((D, .lst []) :: L) I → Pv D 0 H1) (hl : ∀ i D H, i ≤ xs.length → Pv D i H → H a = some (.lst xs))
    (hs : ∀ i x D H, xs[i]? = some x → Pv D i H → g x (wipe σ vs) H fun σ2 H2 => wipe σ2 vs = wipe σ vs ∧ te σ2 H2 (kApp D (Pv D (i + 1))))
    (hd : ∀ D H, Pv D xs.length H → Q (.ref D) H) : kLc g tYes te vs σ Q (Itl K a) H := fun D hD =>
  lc_list (K := K) (xs := xs) (g := g) (tt := tYes) (te := te) (vs := vs) (σ := σ) (H1 := H) (D := D) (Qd := fun H => Q (.ref D) H) (fun i H => Pv D i H) (h0 D _ (hC.newM hD rfl)) (fun i H hi p => SqL.of (hl i D H hi p))
    (fun i x H hx p => by
      have e : (fun σ2 H2 => wipe σ2 vs = wipe σ vs ∧ tYes σ2 H2 fun b H3 => if b = true then te σ2 H3 fun y H4 => ∃ acc, H4 D = some (.lst acc) ∧ acc.length < sizeLine ∧ Pv D (i + 1) (upd H4 D (.lst (acc ++ [y]))) else Pv D (i + 1) H3)
          = fun σ2 H2 => wipe σ2 vs = wipe σ vs ∧ te σ2 H2 (kApp D (Pv D (i + 1))) := by
        funext σ2 H2
        unfold tYes
        simp only [if_true]
        rfl
      rw [e]
      exact hs i x D H hx p) (fun H p => hd D H p)
/-! dict displays -/
def kDisp (p : Addr) (Q : VK) : List (V × V) → Hp → Prop := fun ps H2 => H2 p = some (.dK []) ∧ ∃ kvs : List (Key × V), ps = kvs.map (fun kv => (kV kv.1, kv.2)) ∧ kvs.length ≤ 15 ∧ Q (.ref p) (upd H2 p (.dK (mergeK [] kvs)))
theorem s_disp {trs : List (TE × TE)} (hC : Ctx K B H L I) (k : ∀ p H1, Ctx K B H1 ((p, .dK []) :: L) I → tPairs trs σ H1 (kDisp p Q)) : tDisp trs σ H Q := fun p hp => k p _ (hC.newM hp rfl)
theorem s_pair {tk tv : TE} {r : List (TE × TE)} {Qp : List (V × V) → Hp → Prop} (h : tk σ H fun x H1 => tv σ H1 fun y H2 => tPairs r σ H2 fun ps H3 => Qp ((x, y) :: ps) H3) : tPairs ((tk, tv) :: r) σ H Qp := h
theorem s_pnil {Qp : List (V × V) → Hp → Prop} (h : Qp [] H) : tPairs [] σ H Qp := h
/-- pairs of values as entries -/
inductive ToK : List (V × V) → List (Key × V) → Prop
  | nil : ToK [] []
  | str {s : Str} {v : V} {r : List (V × V)} {q : List (Key × V)} : ToK r q → ToK ((.str s, v) :: r) ((Sum.inr s, v) :: q)
  | int {s : Int} {v : V} {r : List (V × V)} {q : List (Key × V)} : ToK r q → ToK ((.int s, v) :: r) ((Sum.inl s, v) :: q)
theorem ToK.ok : ∀ {r q}, ToK r q → r = q.map (fun kv => (kV kv.1, kv.2))
  | _, _, .nil => rfl
  | _, _, .str h => by rw [List.map_cons, ← h.ok]; rfl
  | _, _, .int h => by rw [List.map_cons, ← h.ok]; rfl
/-- keys all different -/
inductive RDis : List (Key × V) → List (Key × V) → Prop
  | nil {acc : List (Key × V)} : RDis acc []
  | cons {acc r : List (Key × V)} {k : Key} {v : V} : DNo k acc → RDis ((k, v) :: acc) r → RDis acc ((k, v) :: r)
theorem DNo.any {k : Key} : ∀ {r : List (Key × V)}, DNo k r → ∀ x, x ∈ r → ¬ x.1 = k
  | _, .nil, x, h => by cases h
  | _, .there n t, x, h => by
    rcases List.mem_cons.mp h with e | h
    · rw [e]; exact n
    · exact t.any x h
theorem RDis.ok : ∀ {acc r : List (Key × V)}, RDis acc r → mergeK acc.reverse r = acc.reverse ++ r
  | acc, _, .nil => by rw [List.append_nil]; rfl
  | acc, (k, v) :: r, .cons n t => by
    have e : putK acc.reverse k v = acc.reverse ++ [(k, v)] := by
      unfold putK
      rw [if_neg]
      intro h
      obtain ⟨x, hx, hk⟩ := List.any_eq_true.mp h
      exact n.any x (List.mem_reverse.mp hx) (of_decide_eq_true hk)
    have ih := t.ok
    rw [List.reverse_cons] at ih
    show mergeK (putK acc.reverse k v) r = _
    rw [e, ih, List.append_assoc]
    rfl
theorem s_dispV {p : Addr} {ps : List (V × V)} {kvs : List (Key × V)} (hC : Ctx K B H L I) (m : H p = some (.dK [])) (h : ToK ps kvs) (n : RDis [] kvs) (z : kvs.length ≤ 15) (u : Up p (.dK kvs) L L') (k : ∀ H1, Ctx K B H1 L' I → Q (.ref p) H1) : kDisp p Q ps H :=
  ⟨m, kvs, h.ok, z, by
    have e := n.ok
    rw [List.reverse_nil, List.nil_append] at e
    rw [e]
    exact k _ (hC.put u rfl)⟩
/-! lambdas handed to the teller -/
def kTold (K : PySem.W.Frag) (C : Addr) (ret : Str) (Q : VK) : XK := fun cls _ H' => ∃ b, PySem.W.exmOne K cls (.ref C) = some b ∧ (b = true → Q (.str ret) H') ∧ (b = false → False)
theorem s_lam {T : List (Addr × Str)} {C : Addr} {ret : Str} {t : XK → TE} (hC : Ctx K B H L I) (hT : LamX.Tabs T B) (k : ∀ H1, Ctx K H1 H1 L I → LamX.Tabs T H1 → t (kTold K C ret Q) σ H1 Q) : LamX.tLam T (LamX.TTold K C ret) t σ H Q :=
  ⟨tabs_mono hC.sb hT, fun H1 e t1 => k H1 (hC.ext e) t1⟩
theorem s_toldE {C D : Addr} {ret : Str} {d : Option Addr} (e : PySem.W.exmOne K (.ref D) (.ref C) = some true) (h : Q (.str ret) H) : kTold K C ret Q (.ref D) d H := ⟨true, e, fun _ => h, fun q => by cases q⟩
/-! a list of ints, an index not known -/
inductive AllI : List V → List Int → Prop
  | nil : AllI [] []
  | cons {i : Int} {r : List V} {q : List Int} : AllI r q → AllI (.int i :: r) (i :: q)
theorem AllI.get : ∀ {r : List V} {q : List Int} {j : Nat}, AllI r q → j < r.length → ∃ i : Int, r[j]? = some (.int i) ∧ i ∈ q
  | _, _, 0, .cons h, _ => ⟨_, rfl, List.mem_cons_self⟩
  | _, _, j + 1, .cons h, z => by
    obtain ⟨i, e, m⟩ := h.get (j := j) (by rw [List.length_cons] at z; omega)
    exact ⟨i, by rw [List.getElem?_cons_succ]; exact e, List.mem_cons_of_mem _ m⟩
theorem s_ixAny {l : Addr} {vs : List V} {zs : List Int} {r : Int} (m : H l = some (.lst vs)) (h : AllI vs zs) (h0 : 0 ≤ r) (h1 : r < vs.length) (q : ∀ z : Int, z ∈ zs → Q (.int z) H) : rIxU K (.ref l) (.int r) H Q := by
  obtain ⟨i, e, w⟩ := h.get (j := r.toNat) (by omega)
  have e2 := atI_nat e
  rw [Int.toNat_of_nonneg h0] at e2
  exact s_ixL m e2 (q i w)
/-! more of values -/
theorem s_eqIT {i j : Int} (p : i = j) (h : Q (.bl true) H) : rEqU K (.int i) (.int j) H Q := s_eqI (by rw [decide_eq_true p]; exact h)
theorem s_eqIF {i j : Int} (p : ¬ i = j) (h : Q (.bl false) H) : rEqU K (.int i) (.int j) H Q := s_eqI (by rw [decide_eq_false p]; exact h)
theorem s_int1T (h : Q (.int 1) H) : rInt1 [.bl true] H Q := .inr ⟨true, rfl, h⟩
theorem s_int1F (h : Q (.int 0) H) : rInt1 [.bl false] H Q := .inr ⟨false, rfl, h⟩
theorem s_eqSN {j : Str} (h : Q (.bl false) H) : rEqU K (.str j) .non H Q := .inl ⟨rfl, h⟩
theorem s_eqST {i j : Str} (p : i = j) (h : Q (.bl true) H) : rEqU K (.str i) (.str j) H Q := s_eqS (by rw [decide_eq_true p]; exact h)
theorem s_neIF {i : Int} (h : Q (.bl false) H) : rNeU K (.int i) (.int i) H Q := s_neI (by rw [decide_eq_true rfl]; exact h)
theorem s_neBs {b : Bool} (h : Q (.bl false) H) : rNeU K (.bl b) (.bl b) H Q := s_neB (by rw [show (b != b) = false from by cases b <;> rfl]; exact h)
theorem s_neTF (h : Q (.bl true) H) : rNeU K (.bl true) (.bl false) H Q := s_neB h
theorem s_neFT (h : Q (.bl true) H) : rNeU K (.bl false) (.bl true) H Q := s_neB h
theorem s_eqBs {b : Bool} (h : Q (.bl true) H) : rEqU K (.bl b) (.bl b) H Q := s_eqB (by rw [show (b == b) = true from by cases b <;> rfl]; exact h)
theorem s_eqTF (h : Q (.bl false) H) : rEqU K (.bl true) (.bl false) H Q := s_eqB h
theorem s_eqFT (h : Q (.bl false) H) : rEqU K (.bl false) (.bl true) H Q := s_eqB h
/-! a block of the layout that another hand keeps -/
inductive Pull (O : List (Addr × HO)) : List (Addr × HO) → List (Addr × HO) → Prop
  | here {F : List (Addr × HO)} : Pull O (F ++ O) F
  | there {x : Addr × HO} {L F : List (Addr × HO)} : Pull O L F → Pull O (x :: L) (x :: F)
theorem Pull.perm {O : List (Addr × HO)} : ∀ {L F}, Pull O L F → L.Perm (O ++ F)
  | _, _, .here => List.perm_append_comm
  | _, _, .there p => (List.Perm.cons _ p.perm).trans List.perm_middle.symm
/-- some of the layout, in another order -/
inductive Sel : List (Addr × HO) → List (Addr × HO) → Prop
  | refl {L : List (Addr × HO)} : Sel L L
  | cons {x : Addr × HO} {L L' T : List (Addr × HO)} : Pick x L L' → Sel L' T → Sel L (x :: T)
  | skip {x : Addr × HO} {L T : List (Addr × HO)} : Sel L T → Sel (x :: L) T
theorem Sel.perm : ∀ {L T}, Sel L T → ∃ J, L.Perm (T ++ J)
  | L, _, .refl => ⟨[], by rw [List.append_nil]⟩
  | _, _, .cons p s => by
    obtain ⟨J, h⟩ := s.perm
    exact ⟨J, p.perm.trans (List.Perm.cons _ h)⟩
  | _, _, .skip s => by
    obtain ⟨J, h⟩ := s.perm
    exact ⟨_ :: J, (List.Perm.cons _ h).trans List.perm_middle.symm⟩
theorem Sel.lay {T : List (Addr × HO)} (s : Sel L T) (y : Lay H L) : Lay H T := by
  obtain ⟨J, h⟩ := s.perm
  have y := y.perm h
  exact ⟨(List.nodup_append.mp (by rw [← List.map_append]; exact y.nd)).1, fun p hp => y.at_ p (List.mem_append_left _ hp)⟩
end
end Ph
namespace Wk
open PySem PySem.Spec PyProof.Rows L2 Ph
def top (i : Nat) : Stmt := PySem.Challenge.pw_phonestack_k13_what_fingers_do.main.body.getD i (.Pass ⟨0, 0, 0, 0⟩)
abbrev s_Touching__init : Stmt := inClass (top 8) 0
abbrev N_Touching__init : List Str := ["self", "left", "top", "time"]
theorem sc_Touching__init : FnScope N_Touching__init ["self", "left", "top", "time"] (defScope s_Touching__init) := ⟨rfl, rfl, rfl, by decide +kernel, rfl, by decide +kernel, by decide +kernel⟩
abbrev s_Gestures__init : Stmt := inClass (top 10) 0
abbrev N_Gestures__init : List Str := ["self"]
theorem sc_Gestures__init : FnScope N_Gestures__init ["self"] (defScope s_Gestures__init) := ⟨rfl, rfl, rfl, by decide +kernel, rfl, by decide +kernel, by decide +kernel⟩
abbrev s_Gestures_tick : Stmt := inClass (top 10) 1
abbrev N_Gestures_tick : List Str := ["self", "one"]
theorem sc_Gestures_tick : FnScope N_Gestures_tick ["self"] (defScope s_Gestures_tick) := ⟨rfl, rfl, rfl, by decide +kernel, rfl, by decide +kernel, by decide +kernel⟩
abbrev s_Gestures_down : Stmt := inClass (top 10) 2
abbrev N_Gestures_down : List Str := ["self", "left", "top"]
theorem sc_Gestures_down : FnScope N_Gestures_down ["self", "left", "top"] (defScope s_Gestures_down) := ⟨rfl, rfl, rfl, by decide +kernel, rfl, by decide +kernel, by decide +kernel⟩
abbrev s_Gestures_move : Stmt := inClass (top 10) 3
abbrev N_Gestures_move : List Str := ["self", "left", "top", "one", "before"]
theorem sc_Gestures_move : FnScope N_Gestures_move ["self", "left", "top"] (defScope s_Gestures_move) := ⟨rfl, rfl, rfl, by decide +kernel, rfl, by decide +kernel, by decide +kernel⟩
abbrev s_Gestures_lift : Stmt := inClass (top 10) 4
abbrev N_Gestures_lift : List Str := ["self", "one"]
theorem sc_Gestures_lift : FnScope N_Gestures_lift ["self"] (defScope s_Gestures_lift) := ⟨rfl, rfl, rfl, by decide +kernel, rfl, by decide +kernel, by decide +kernel⟩
abbrev s_Gestures_end_of_drag : Stmt := inClass (top 10) 5
abbrev N_Gestures_end_of_drag : List Str := ["self", "one", "across", "down"]
theorem sc_Gestures_end_of_drag : FnScope N_Gestures_end_of_drag ["self", "one"] (defScope s_Gestures_end_of_drag) := ⟨rfl, rfl, rfl, by decide +kernel, rfl, by decide +kernel, by decide +kernel⟩
abbrev s_Gestures_cancel : Stmt := inClass (top 10) 6
abbrev N_Gestures_cancel : List Str := ["self"]
theorem sc_Gestures_cancel : FnScope N_Gestures_cancel ["self"] (defScope s_Gestures_cancel) := ⟨rfl, rfl, rfl, by decide +kernel, rfl, by decide +kernel, by decide +kernel⟩
abbrev s_Gestures_need : Stmt := inClass (top 10) 7
abbrev N_Gestures_need : List Str := ["self"]
theorem sc_Gestures_need : FnScope N_Gestures_need ["self"] (defScope s_Gestures_need) := ⟨rfl, rfl, rfl, by decide +kernel, rfl, by decide +kernel, by decide +kernel⟩
abbrev s_apart : Stmt := top 9
abbrev N_apart : List Str := ["one", "other"]
theorem sc_apart : FnScope N_apart ["one", "other"] (defScope s_apart) := ⟨rfl, rfl, rfl, by decide +kernel, rfl, by decide +kernel, by decide +kernel⟩
abbrev s_law_dice : Stmt := top 12
abbrev N_law_dice : List Str := ["cell"]
theorem sc_law_dice : FnScope N_law_dice ["cell"] (defScope s_law_dice) := ⟨rfl, rfl, rfl, by decide +kernel, rfl, by decide +kernel, by decide +kernel⟩
abbrev s_law_roll : Stmt := top 13
abbrev N_law_roll : List Str := ["dice", "many", "found"]
theorem sc_law_roll : FnScope N_law_roll ["dice", "many"] (defScope s_law_roll) := ⟨rfl, rfl, rfl, by decide +kernel, rfl, by decide +kernel, by decide +kernel⟩
abbrev s_law_rounds : Stmt := top 14
abbrev N_law_rounds : List Str := ["script", "most", "cells", "cell"]
theorem sc_law_rounds : FnScope N_law_rounds ["script", "most"] (defScope s_law_rounds) := ⟨rfl, rfl, rfl, by decide +kernel, rfl, by decide +kernel, by decide +kernel⟩
abbrev s_law_told : Stmt := top 15
abbrev N_law_told : List Str := ["what"]
theorem sc_law_told : FnScope N_law_told ["what"] (defScope s_law_told) := ⟨rfl, rfl, rfl, by decide +kernel, rfl, by decide +kernel, by decide +kernel⟩
abbrev s_law_apart : Stmt := top 16
abbrev N_law_apart : List Str := ["one", "other"]
theorem sc_law_apart : FnScope N_law_apart ["one", "other"] (defScope s_law_apart) := ⟨rfl, rfl, rfl, by decide +kernel, rfl, by decide +kernel, by decide +kernel⟩
abbrev s_law_ended : Stmt := top 17
abbrev N_law_ended : List Str := ["own", "one", "first", "last", "across", "down", "word"]
theorem sc_law_ended : FnScope N_law_ended ["own"] (defScope s_law_ended) := ⟨rfl, rfl, rfl, by decide +kernel, rfl, by decide +kernel, by decide +kernel⟩
abbrev s_law : Stmt := top 18
abbrev N_law : List Str := ["script", "dice", "hand", "own", "told", "step", "sort", "x", "y", "one", "turn", "before", "rows", "tap", "other"]
theorem sc_law : FnScope N_law ["script"] (defScope s_law) := ⟨rfl, rfl, rfl, by decide +kernel, rfl, by decide +kernel, by decide +kernel⟩
structure Adr where
  c_Touching : Addr
  c_Gestures : Addr
  c_ViewFault : Addr
  f_Touching__init : Addr
  fd_Touching__init : FuncData
  f_Gestures__init : Addr
  fd_Gestures__init : FuncData
  f_Gestures_tick : Addr
  fd_Gestures_tick : FuncData
  f_Gestures_down : Addr
  fd_Gestures_down : FuncData
  f_Gestures_move : Addr
  fd_Gestures_move : FuncData
  f_Gestures_lift : Addr
  fd_Gestures_lift : FuncData
  f_Gestures_end_of_drag : Addr
  fd_Gestures_end_of_drag : FuncData
  f_Gestures_cancel : Addr
  fd_Gestures_cancel : FuncData
  f_Gestures_need : Addr
  fd_Gestures_need : FuncData
  f_apart : Addr
  fd_apart : FuncData
  f_law_dice : Addr
  fd_law_dice : FuncData
  f_law_roll : Addr
  fd_law_roll : FuncData
  f_law_rounds : Addr
  fd_law_rounds : FuncData
  f_law_told : Addr
  fd_law_told : FuncData
  f_law_apart : Addr
  fd_law_apart : FuncData
  f_law_ended : Addr
  fd_law_ended : FuncData
  f_law : Addr
  fd_law : FuncData
  cc_law : Addr
  tb_law : Addr
structure Txt (K : PySem.W.Frag) (mg : Str → Option Value) (a : Adr) : Prop where
  cl_Touching : Cls K a.c_Touching
  na_Touching_first : NoAttr K a.c_Touching "first"
  na_Touching_begun : NoAttr K a.c_Touching "begun"
  na_Touching_place : NoAttr K a.c_Touching "place"
  na_Touching_moved : NoAttr K a.c_Touching "moved"
  na_Touching_is_long : NoAttr K a.c_Touching "is_long"
  mgc_Touching : mg "Touching" = some (.ref a.c_Touching)
  mk_Touching : Mk K a.c_Touching a.f_Touching__init
  cl_Gestures : Cls K a.c_Gestures
  na_Gestures_finger : NoAttr K a.c_Gestures "finger"
  na_Gestures_last_tap : NoAttr K a.c_Gestures "last_tap"
  na_Gestures_told : NoAttr K a.c_Gestures "told"
  na_Gestures_time : NoAttr K a.c_Gestures "time"
  mgc_Gestures : mg "Gestures" = some (.ref a.c_Gestures)
  mk_Gestures : Mk K a.c_Gestures a.f_Gestures__init
  fn_Touching__init : Fun K "__init__" "Touching.__init__" s_Touching__init a.f_Touching__init a.fd_Touching__init
  bi_Touching__init : Binds K a.fd_Touching__init ["self", "left", "top", "time"] []
  fn_Gestures__init : Fun K "__init__" "Gestures.__init__" s_Gestures__init a.f_Gestures__init a.fd_Gestures__init
  bi_Gestures__init : Binds K a.fd_Gestures__init ["self"] []
  me_Gestures_tick : Meth K a.c_Gestures "tick" a.f_Gestures_tick
  fn_Gestures_tick : Fun K "tick" "Gestures.tick" s_Gestures_tick a.f_Gestures_tick a.fd_Gestures_tick
  bi_Gestures_tick : Binds K a.fd_Gestures_tick ["self"] []
  me_Gestures_down : Meth K a.c_Gestures "down" a.f_Gestures_down
  fn_Gestures_down : Fun K "down" "Gestures.down" s_Gestures_down a.f_Gestures_down a.fd_Gestures_down
  bi_Gestures_down : Binds K a.fd_Gestures_down ["self", "left", "top"] []
  me_Gestures_move : Meth K a.c_Gestures "move" a.f_Gestures_move
  fn_Gestures_move : Fun K "move" "Gestures.move" s_Gestures_move a.f_Gestures_move a.fd_Gestures_move
  bi_Gestures_move : Binds K a.fd_Gestures_move ["self", "left", "top"] []
  me_Gestures_lift : Meth K a.c_Gestures "lift" a.f_Gestures_lift
  fn_Gestures_lift : Fun K "lift" "Gestures.lift" s_Gestures_lift a.f_Gestures_lift a.fd_Gestures_lift
  bi_Gestures_lift : Binds K a.fd_Gestures_lift ["self"] []
  me_Gestures_end_of_drag : Meth K a.c_Gestures "end_of_drag" a.f_Gestures_end_of_drag
  fn_Gestures_end_of_drag : Fun K "end_of_drag" "Gestures.end_of_drag" s_Gestures_end_of_drag a.f_Gestures_end_of_drag a.fd_Gestures_end_of_drag
  bi_Gestures_end_of_drag : Binds K a.fd_Gestures_end_of_drag ["self", "one"] []
  me_Gestures_cancel : Meth K a.c_Gestures "cancel" a.f_Gestures_cancel
  fn_Gestures_cancel : Fun K "cancel" "Gestures.cancel" s_Gestures_cancel a.f_Gestures_cancel a.fd_Gestures_cancel
  bi_Gestures_cancel : Binds K a.fd_Gestures_cancel ["self"] []
  me_Gestures_need : Meth K a.c_Gestures "need" a.f_Gestures_need
  fn_Gestures_need : Fun K "need" "Gestures.need" s_Gestures_need a.f_Gestures_need a.fd_Gestures_need
  bi_Gestures_need : Binds K a.fd_Gestures_need ["self"] []
  mg_apart : mg "apart" = some (.ref a.f_apart)
  fn_apart : Fun K "apart" "apart" s_apart a.f_apart a.fd_apart
  bi_apart : Binds K a.fd_apart ["one", "other"] []
  mg_law_dice : mg "_law_dice" = some (.ref a.f_law_dice)
  fn_law_dice : Fun K "_law_dice" "_law_dice" s_law_dice a.f_law_dice a.fd_law_dice
  bi_law_dice : Binds K a.fd_law_dice ["cell"] []
  mg_law_roll : mg "_law_roll" = some (.ref a.f_law_roll)
  fn_law_roll : Fun K "_law_roll" "_law_roll" s_law_roll a.f_law_roll a.fd_law_roll
  bi_law_roll : Binds K a.fd_law_roll ["dice", "many"] []
  mg_law_rounds : mg "_law_rounds" = some (.ref a.f_law_rounds)
  fn_law_rounds : Fun K "_law_rounds" "_law_rounds" s_law_rounds a.f_law_rounds a.fd_law_rounds
  bi_law_rounds : Binds K a.fd_law_rounds ["script", "most"] []
  mg_law_told : mg "_law_told" = some (.ref a.f_law_told)
  fn_law_told : Fun K "_law_told" "_law_told" s_law_told a.f_law_told a.fd_law_told
  bi_law_told : Binds K a.fd_law_told ["what"] []
  mg_law_apart : mg "_law_apart" = some (.ref a.f_law_apart)
  fn_law_apart : Fun K "_law_apart" "_law_apart" s_law_apart a.f_law_apart a.fd_law_apart
  bi_law_apart : Binds K a.fd_law_apart ["one", "other"] []
  mg_law_ended : mg "_law_ended" = some (.ref a.f_law_ended)
  fn_law_ended : Fun K "_law_ended" "_law_ended" s_law_ended a.f_law_ended a.fd_law_ended
  bi_law_ended : Binds K a.fd_law_ended ["own"] []
  mg_law : mg "law" = some (.ref a.f_law)
  fn_law : Fun K "law" "law" s_law a.f_law a.fd_law
  bi_law : Binds K a.fd_law ["script"] []
  no_abs : mg "abs" = none
  no_int : mg "int" = none
  no_max : mg "max" = none
  no_range : mg "range" = none
  gl_DOUBLE : ∃ t, mg "DOUBLE" = some (.int 6 t)
  gl_FAR : ∃ t, mg "FAR" = some (.int 12 t)
  gl_LONG : ∃ t, mg "LONG" = some (.int 10 t)
  gl_NEAR : ∃ t, mg "NEAR" = some (.int 3 t)
  mgc_ViewFault : mg "ViewFault" = some (.ref a.c_ViewFault)
  xc_ViewFault : PySem.W.excIn K a.c_ViewFault [.type "ValueError", .type "Exception", .type "BaseException", .type "object"] "ValueError.__new__" = true
  kc_ViewFault : PySem.W.keepIn K (.ref a.c_ViewFault) = true
  bc_ViewFault : PySem.W.subIn K (.ref a.c_ViewFault) (.type "BaseException") = some true
  tc_ViewFault : PySem.W.typeIn K (.ref a.c_ViewFault) = some (.type "type")
  ec_ViewFault : PySem.W.exmOne K (.ref a.c_ViewFault) (.ref a.c_ViewFault) = some true
  cd_law : a.fd_law.code = .ref a.cc_law
end Wk
namespace Wk
open PySem PySem.Spec PyProof.Rows L2 Ph
structure Fg where
  fx : Int
  fy : Int
  px : Int
  py : Int
  begun : Int
  moved : Bool
  long : Bool
structure GS where
  finger : Option Fg
  tap : Option (Int × Int × Int)
  told : List PyData
  time : Int
def absI (i : Int) : Int := if i < 0 then -i else i
def far (x y u v : Int) : Int := if absI (y - v) > absI (x - u) then absI (y - v) else absI (x - u)
def pt (x y : Int) : PyData := .tuple [.int x, .int y]
def tickLong (t : Int) (f : Fg) : Prop := f.moved = false ∧ f.long = false ∧ 10 ≤ t - f.begun
instance (t : Int) (f : Fg) : Decidable (tickLong t f) := by unfold tickLong; infer_instance
def tick1 (g : GS) : GS := match g.finger with
  | some f => if tickLong (g.time + 1) f then { g with time := g.time + 1, finger := some { f with long := true }, told := g.told ++ [.tuple [.str "long", pt f.fx f.fy]] } else { g with time := g.time + 1 }
  | none => { g with time := g.time + 1 }
def tick2 (g : GS) : GS := match g.tap with
  | some (s, _) => if 6 < g.time - s then { g with tap := none } else g
  | none => g
def tickG (g : GS) : GS := tick2 (tick1 g)
def downG (x y : Int) (g : GS) : GS := { g with finger := some ⟨x, y, x, y, g.time, false, false⟩ }
def moveG (x y : Int) (f : Fg) (g : GS) : GS :=
  if f.moved = true ∨ 3 < far f.fx f.fy x y then { g with finger := some { f with px := x, py := y, moved := true }, told := g.told ++ [.tuple [.str "drag", if f.moved = true then pt f.px f.py else pt f.fx f.fy, pt x y]] }
  else { g with finger := some { f with px := x, py := y } }
def endG (t : Int) (f : Fg) : PyData :=
  if f.long = true ∨ 10 < t - f.begun ∨ far f.fx f.fy f.px f.py < 12 then .tuple [.str "drop", pt f.px f.py]
  else if absI (f.py - f.fy) ≤ absI (f.px - f.fx) then .tuple [.str "swipe", .str (if 0 < f.px - f.fx then "right" else "left")]
  else .tuple [.str "swipe", .str (if 0 < f.py - f.fy then "down" else "up")]
def nearTap (g : GS) (f : Fg) : Prop := match g.tap with
  | some (_, x, y) => far x y f.px f.py ≤ 3
  | none => False
instance (g : GS) (f : Fg) : Decidable (nearTap g f) := by unfold nearTap; split <;> infer_instance
def endRows (g : GS) (f : Fg) : List PyData := if f.moved = true then [endG g.time f] else if f.long = true then [] else if nearTap g f then [.tuple [.str "double", pt f.px f.py]] else [.tuple [.str "tap", pt f.px f.py]]
def endTap (g : GS) (f : Fg) : Option (Int × Int × Int) := if f.moved = true then none else if f.long = true then g.tap else if nearTap g f then none else some (g.time, f.px, f.py)
def liftG (f : Fg) (g : GS) : GS := { g with finger := none, tap := endTap g f, told := g.told ++ endRows g f }
/-! ### in the heap -/
inductive FRep (K : PySem.W.Frag) (H : Hp) (C : Addr) : Option Fg → V → List (Addr × HO) → Prop
  | non : FRep K H C none .non []
  | som {f : Fg} {pf dx p1 p2 : Addr} : SqT K H p1 [.int f.fx, .int f.fy] → SqT K H p2 [.int f.px, .int f.py] →
      FRep K H C (some f) (.ref pf) [(pf, .ins C dx [("first", .ref p1), ("begun", .int f.begun), ("place", .ref p2), ("moved", .bl f.moved), ("is_long", .bl f.long)])]
inductive TRep (K : PySem.W.Frag) (H : Hp) : Option (Int × Int × Int) → V → Prop
  | non : TRep K H none .non
  | som {s x y : Int} {p p2 : Addr} : SqT K H p [.int s, .ref p2] → SqT K H p2 [.int x, .int y] → TRep K H (some (s, x, y)) (.ref p)
inductive HRep (K : PySem.W.Frag) (H : Hp) (a : Adr) (ph : Addr) (g : GS) : List (Addr × HO) → Prop
  | mk {dx pl : Addr} {vs : List V} {vf vt : V} {FO : List (Addr × HO)} : FRep K H a.c_Touching g.finger vf FO → TRep K H g.tap vt → TDs K H vs g.told →
      HRep K H a ph g ((ph, .ins a.c_Gestures dx [("finger", vf), ("last_tap", vt), ("told", .ref pl), ("time", .int g.time)]) :: (pl, .lst vs) :: FO)
inductive FOwn (K : PySem.W.Frag) (H : Hp) : Option Fg → V → List (Addr × HO) → Prop
  | non : FOwn K H none .non []
  | som {f : Fg} {pf p1 p2 : Addr} : SqT K H p1 [.int f.fx, .int f.fy] → SqT K H p2 [.int f.px, .int f.py] →
      FOwn K H (some f) (.ref pf) [(pf, .dK [(Sum.inr "first", .ref p1), (Sum.inr "place", .ref p2), (Sum.inr "begun", .int f.begun), (Sum.inr "moved", .bl f.moved), (Sum.inr "long", .bl f.long)])]
inductive ORep (K : PySem.W.Frag) (H : Hp) (po pl : Addr) (vf : V) (g : GS) : List (Addr × HO) → Prop
  | mk {vs : List V} {vt : V} {FO : List (Addr × HO)} : FOwn K H g.finger vf FO → TRep K H g.tap vt → TDs K H vs g.told →
      ORep K H po pl vf g ((po, .dK [(Sum.inr "time", .int g.time), (Sum.inr "finger", vf), (Sum.inr "tap", vt)]) :: (pl, .lst vs) :: FO)
theorem TRep.mono0 {K : PySem.W.Frag} {H H' : Hp} (s : Stb0 H H') {o : Option (Int × Int × Int)} {v : V} (h : TRep K H o v) : TRep K H' o v := by
  cases h with
  | non => exact .non
  | som h1 h2 => exact .som (s.sqt h1) (s.sqt h2)
theorem FRep.mono0 {K : PySem.W.Frag} {H H' : Hp} {C : Addr} (s : Stb0 H H') {o : Option Fg} {v : V} {O : List (Addr × HO)} (h : FRep K H C o v O) : FRep K H' C o v O := by
  cases h with
  | non => exact .non
  | som h1 h2 => exact .som (s.sqt h1) (s.sqt h2)
theorem FOwn.mono0 {K : PySem.W.Frag} {H H' : Hp} (s : Stb0 H H') {o : Option Fg} {v : V} {O : List (Addr × HO)} (h : FOwn K H o v O) : FOwn K H' o v O := by
  cases h with
  | non => exact .non
  | som h1 h2 => exact .som (s.sqt h1) (s.sqt h2)
theorem HRep.mono0 {K : PySem.W.Frag} {H H' : Hp} {a : Adr} {ph : Addr} {g : GS} {O : List (Addr × HO)} (s : Stb0 H H') (h : HRep K H a ph g O) : HRep K H' a ph g O := by
  cases h with
  | mk h1 h2 h3 => exact .mk (h1.mono0 s) (h2.mono0 s) (TDs.mono0 s h3)
theorem ORep.mono0 {K : PySem.W.Frag} {H H' : Hp} {po pl : Addr} {vf : V} {g : GS} {O : List (Addr × HO)} (s : Stb0 H H') (h : ORep K H po pl vf g O) : ORep K H' po pl vf g O := by
  cases h with
  | mk h1 h2 h3 => exact .mk (h1.mono0 s) (h2.mono0 s) (TDs.mono0 s h3)
theorem TRep.mono {K : PySem.W.Frag} {H H' : Hp} (s : Stb H H') {o : Option (Int × Int × Int)} {v : V} (h : TRep K H o v) : TRep K H' o v := h.mono0 s.n
theorem FRep.mono {K : PySem.W.Frag} {H H' : Hp} (s : Stb H H') {C : Addr} {o : Option Fg} {v : V} {O : List (Addr × HO)} (h : FRep K H C o v O) : FRep K H' C o v O := h.mono0 s.n
theorem FOwn.mono {K : PySem.W.Frag} {H H' : Hp} (s : Stb H H') {o : Option Fg} {v : V} {O : List (Addr × HO)} (h : FOwn K H o v O) : FOwn K H' o v O := h.mono0 s.n
theorem HRep.mono {K : PySem.W.Frag} {H H' : Hp} (s : Stb H H') {a : Adr} {ph : Addr} {g : GS} {O : List (Addr × HO)} (h : HRep K H a ph g O) : HRep K H' a ph g O := h.mono0 s.n
theorem ORep.mono {K : PySem.W.Frag} {H H' : Hp} (s : Stb H H') {po pl : Addr} {vf : V} {g : GS} {O : List (Addr × HO)} (h : ORep K H po pl vf g O) : ORep K H' po pl vf g O := h.mono0 s.n
/-! ### the promises -/
def sp_Touching__init (K : PySem.W.Frag) (a : Adr) : Sp := fun vs H Q E => vs.length = 4 ∧ ∃ (x dx : Addr) (l t u : Int) (F : List (Addr × HO)), vs = [.ref x, .int l, .int t, .int u] ∧ Lay H ((x, .ins a.c_Touching dx []) :: F) ∧
  ∀ H' O', Stb H H' → FRep K H' a.c_Touching (some ⟨l, t, l, t, u, false, false⟩) (.ref x) O' → Lay H' (O' ++ F) → Q .non H'
def sp_Gestures__init (K : PySem.W.Frag) (a : Adr) : Sp := fun vs H Q E => vs.length = 1 ∧ ∃ (x dx : Addr) (F : List (Addr × HO)), vs = [.ref x] ∧ Lay H ((x, .ins a.c_Gestures dx []) :: F) ∧
  ∀ H' O', Stb H H' → HRep K H' a x ⟨none, none, [], 0⟩ O' → Lay H' (O' ++ F) → Q .non H'
def sp_Gestures_tick (K : PySem.W.Frag) (a : Adr) : Sp := fun vs H Q E => vs.length = 1 ∧ ∃ (ph : Addr) (g : GS) (O F : List (Addr × HO)), vs = [.ref ph] ∧ HRep K H a ph g O ∧ Lay H (O ++ F) ∧ g.told.length ≤ 5000 ∧
  ∀ H' O', Stb H H' → HRep K H' a ph (tickG g) O' → Lay H' (O' ++ F) → Q .non H'
def sp_Gestures_down (K : PySem.W.Frag) (a : Adr) : Sp := fun vs H Q E => vs.length = 3 ∧ ∃ (ph : Addr) (x y : Int) (g : GS) (O F : List (Addr × HO)), vs = [.ref ph, .int x, .int y] ∧ HRep K H a ph g O ∧ Lay H (O ++ F) ∧
  (g.finger = none → ∀ H' O', Stb H H' → HRep K H' a ph (downG x y g) O' → Lay H' (O' ++ F) → Q .non H') ∧ (∀ f, g.finger = some f → E (.ref a.c_ViewFault) none H)
def sp_Gestures_move (K : PySem.W.Frag) (a : Adr) : Sp := fun vs H Q E => vs.length = 3 ∧ ∃ (ph : Addr) (x y : Int) (g : GS) (O F : List (Addr × HO)), vs = [.ref ph, .int x, .int y] ∧ HRep K H a ph g O ∧ Lay H (O ++ F) ∧ g.told.length ≤ 5000 ∧
  (g.finger = none → E (.ref a.c_ViewFault) none H) ∧ (∀ f, g.finger = some f → ∀ H' O', Stb H H' → HRep K H' a ph (moveG x y f g) O' → Lay H' (O' ++ F) → Q .non H')
def sp_Gestures_lift (K : PySem.W.Frag) (a : Adr) : Sp := fun vs H Q E => vs.length = 1 ∧ ∃ (ph : Addr) (g : GS) (O F : List (Addr × HO)), vs = [.ref ph] ∧ HRep K H a ph g O ∧ Lay H (O ++ F) ∧ g.told.length ≤ 5000 ∧
  (g.finger = none → E (.ref a.c_ViewFault) none H) ∧ (∀ f, g.finger = some f → ∀ H' O', Stb H H' → HRep K H' a ph (liftG f g) O' → Lay H' (O' ++ F) → Q .non H')
def sp_Gestures_end_of_drag (K : PySem.W.Frag) (a : Adr) : Sp := fun vs H Q E => vs.length = 2 ∧ ∃ (ph pf dx dxf p1 p2 : Addr) (f : Fg) (t : Int) (vf vt vl : V) (L : List (Addr × HO)), vs = [.ref ph, .ref pf] ∧ Lay H L ∧
  (ph, HO.ins a.c_Gestures dx [("finger", vf), ("last_tap", vt), ("told", vl), ("time", .int t)]) ∈ L ∧
  (pf, HO.ins a.c_Touching dxf [("first", .ref p1), ("begun", .int f.begun), ("place", .ref p2), ("moved", .bl f.moved), ("is_long", .bl f.long)]) ∈ L ∧ SqT K H p1 [.int f.fx, .int f.fy] ∧ SqT K H p2 [.int f.px, .int f.py] ∧
  ∀ p H', Stb H H' → Lay H' L → TD K H' (.ref p) (endG t f) → Q (.ref p) H'
def sp_Gestures_cancel (K : PySem.W.Frag) (a : Adr) : Sp := fun vs H Q E => vs.length = 1 ∧ ∃ (ph : Addr) (g : GS) (O F : List (Addr × HO)), vs = [.ref ph] ∧ HRep K H a ph g O ∧ Lay H (O ++ F) ∧
  ∀ H' O', Stb H H' → HRep K H' a ph { g with finger := none } O' → Lay H' (O' ++ F) → Q .non H'
def sp_Gestures_need (K : PySem.W.Frag) (a : Adr) : Sp := fun vs H Q E => vs.length = 1 ∧ ∃ (ph dx : Addr) (vf : V) (fs : List (Str × V)), vs = [.ref ph] ∧ H ph = some (.ins a.c_Gestures dx fs) ∧ Lk "finger" fs vf ∧
  (vf = .non → E (.ref a.c_ViewFault) none H) ∧ (∀ p, vf = .ref p → Q vf H) ∧ (vf = .non ∨ ∃ p, vf = .ref p)
def sp_apart (K : PySem.W.Frag) (a : Adr) : Sp := fun vs H Q E => vs.length = 2 ∧ ∃ (p q : Addr) (x y u v : Int), vs = [.ref p, .ref q] ∧ SqT K H p [.int x, .int y] ∧ SqT K H q [.int u, .int v] ∧ Q (.int (far x y u v)) H
def sp_law_apart (K : PySem.W.Frag) (a : Adr) : Sp := sp_apart K a
def sp_law_dice (K : PySem.W.Frag) (a : Adr) : Sp := fun vs H Q E => vs.length = 1 ∧ ∃ (c : Int) (L : List (Addr × HO)), vs = [.int c] ∧ Lay H L ∧ ∀ p H' (i j k : Int), Stb H H' → Lay H' ((p, .lst [.int i, .int j, .int k]) :: L) → Q (.ref p) H'
def sp_law_roll (K : PySem.W.Frag) (a : Adr) : Sp := fun vs H Q E => vs.length = 2 ∧ ∃ (d : Addr) (m i j k : Int) (F : List (Addr × HO)), vs = [.ref d, .int m] ∧ Lay H ((d, .lst [.int i, .int j, .int k]) :: F) ∧ 0 < m ∧ m ≤ 100000000 ∧
  ∀ (r i' j' k' : Int) H', 0 ≤ r → r < m → Stb H H' → Lay H' ((d, .lst [.int i', .int j', .int k']) :: F) → Q (.int r) H'
def DL (ds : List (Addr × Int × Int × Int)) : List (Addr × HO) := ds.map fun d => (d.1, HO.lst [.int d.2.1, .int d.2.2.1, .int d.2.2.2])
def sp_law_rounds (K : PySem.W.Frag) (a : Adr) : Sp := fun vs H Q E => vs.length = 2 ∧ ∃ (s : Addr) (m : Int) (ns : List Int) (L : List (Addr × HO)), vs = [.ref s, .int m] ∧ SqL K H s (ns.map V.int) ∧ Lay H L ∧ 0 ≤ m ∧ m ≤ 1000 ∧
  ∀ p (ds : List (Addr × Int × Int × Int)) H', Stb H H' → Lay H' ((p, .lst (ds.map fun d => V.ref d.1)) :: (DL ds ++ L)) → Q (.ref p) H'
def sp_law_told (K : PySem.W.Frag) (a : Adr) : Sp := fun vs H Q E => vs.length = 1 ∧ False
def sp_law_ended (K : PySem.W.Frag) (a : Adr) : Sp := fun vs H Q E => vs.length = 1 ∧ ∃ (po pf p1 p2 : Addr) (f : Fg) (t : Int) (g : GS) (vt : V) (L : List (Addr × HO)), vs = [.ref po] ∧ Lay H L ∧
  (po, HO.dK [(Sum.inr "time", .int g.time), (Sum.inr "finger", .ref pf), (Sum.inr "tap", vt)]) ∈ L ∧
  (pf, HO.dK [(Sum.inr "first", .ref p1), (Sum.inr "place", .ref p2), (Sum.inr "begun", .int f.begun), (Sum.inr "moved", .bl f.moved), (Sum.inr "long", .bl f.long)]) ∈ L ∧
  SqT K H p1 [.int f.fx, .int f.fy] ∧ SqT K H p2 [.int f.px, .int f.py] ∧ TRep K H g.tap vt ∧
  ∀ p pl vs v H', Stb H H' → Lay H' ((pl, .lst vs) :: L) → SqT K H' p [.ref pl, v] → TDs K H' vs (endRows g f) → TRep K H' (endTap g f) v → Q (.ref p) H'
def sp_law (K : PySem.W.Frag) (a : Adr) : Sp := fun vs H Q E => vs.length = 1 ∧ ∃ (s : Addr) (ns : List Int), vs = [.ref s] ∧ SqL K H s (ns.map V.int) ∧ LamX.Tabs [(a.tb_law, lamq "law")] H ∧ ∀ H', Q (.bl true) H'
end Wk
namespace Wk
open PySem PySem.Spec PyProof.Rows L2 Ph
open LamX
def t_Touching__init (K : PySem.W.Frag) (a : Adr) (E : XK) : TS :=
  (tSeq (sFld K (tVar 0) (tTup (tCons (tVar 1) (tCons (tVar 2) tNil))) "first") (tSeq (sFld K (tVar 0) (tVar 3) "begun") (tSeq (sFld K (tVar 0) (tTup (tCons (tVar 1) (tCons (tVar 2) tNil))) "place") (tSeq (sFld K (tVar 0) (tC (.bl false)) "moved") (sFld K (tVar 0) (tC (.bl false)) "is_long")))))
def t_Gestures__init (K : PySem.W.Frag) (a : Adr) (E : XK) : TS :=
  (tSeq (sFld K (tVar 0) (tC .non) "finger") (tSeq (sFld K (tVar 0) (tC .non) "last_tap") (tSeq (sFld K (tVar 0) (tLst tNil) "told") (sFld K (tVar 0) (tC (.int 0)) "time"))))
def t_Gestures_tick (K : PySem.W.Frag) (a : Adr) (E : XK) : TS :=
  (tSeq (sFldAug K (tVar 0) (tC (.int 1)) rIAddU "time") (tSeq (tAsg (tFld K (tVar 0) "finger") (gName 1)) (tSeq (tIfS (tAnd (tTest (tOp rNotN (tVar 1) (tC .non))) (tAnd (tNot (tTruth K (tFld K (tVar 1) "moved"))) (tAnd (tNot (tTruth K (tFld K (tVar 1) "is_long"))) (tTest (tOp rGe (tOp rSubU (tFld K (tVar 0) "time") (tFld K (tVar 1) "begun")) (tC (.int 10))))))) (tSeq (sFld K (tVar 1) (tC (.bl true)) "is_long") (tDrop (tBM K "list" rAppend (tFld K (tVar 0) "told") (tCons (tTup (tCons (tC (.str "long")) (tCons (tFld K (tVar 1) "first") tNil))) tNil)))) tNext) (tIfS (tAnd (tTest (tOp rNotN (tFld K (tVar 0) "last_tap") (tC .non))) (tTest (tOp rGt (tOp rSubU (tFld K (tVar 0) "time") (tOp (rIxU K) (tFld K (tVar 0) "last_tap") (tC (.int 0)))) (tC (.int 6))))) (sFld K (tVar 0) (tC .non) "last_tap") tNext))))
def t_Gestures_down (K : PySem.W.Frag) (a : Adr) (E : XK) : TS :=
  (tSeq (tIfS (tTest (tOp rNotN (tFld K (tVar 0) "finger") (tC .non))) (tRaiseE a.c_ViewFault E) tNext) (sFld K (tVar 0) (tMake a.c_Touching (sp_Touching__init K a) [] E (tCons (tVar 1) (tCons (tVar 2) (tCons (tFld K (tVar 0) "time") tNil)))) "finger"))
def t_Gestures_move (K : PySem.W.Frag) (a : Adr) (E : XK) : TS :=
  (tSeq (tAsg (tMeth a.c_Gestures "need" (sp_Gestures_need K a) [] E (tVar 0) tNil) (gName 3)) (tSeq (tAsg (tFld K (tVar 3) "place") (gName 4)) (tSeq (sFld K (tVar 3) (tTup (tCons (tVar 1) (tCons (tVar 2) tNil))) "place") (tIfS (tOr (tTruth K (tFld K (tVar 3) "moved")) (tTest (tOp rGt (tCall (sp_apart K a) [] E (tCons (tFld K (tVar 3) "first") (tCons (tFld K (tVar 3) "place") tNil))) (tC (.int 3))))) (tSeq (tDrop (tBM K "list" rAppend (tFld K (tVar 0) "told") (tCons (tTup (tCons (tC (.str "drag")) (tCons (tIf (tTruth K (tFld K (tVar 3) "moved")) (tVar 4) (tFld K (tVar 3) "first")) (tCons (tFld K (tVar 3) "place") tNil)))) tNil))) (sFld K (tVar 3) (tC (.bl true)) "moved")) tNext))))
def t_Gestures_lift (K : PySem.W.Frag) (a : Adr) (E : XK) : TS :=
  (tSeq (tAsg (tMeth a.c_Gestures "need" (sp_Gestures_need K a) [] E (tVar 0) tNil) (gName 1)) (tSeq (sFld K (tVar 0) (tC .non) "finger") (tIfS (tTruth K (tFld K (tVar 1) "moved")) (tSeq (tDrop (tBM K "list" rAppend (tFld K (tVar 0) "told") (tCons (tMeth a.c_Gestures "end_of_drag" (sp_Gestures_end_of_drag K a) [] E (tVar 0) (tCons (tVar 1) tNil)) tNil))) (sFld K (tVar 0) (tC .non) "last_tap")) (tIfS (tNot (tTruth K (tFld K (tVar 1) "is_long"))) (tIfS (tAnd (tTest (tOp rNotN (tFld K (tVar 0) "last_tap") (tC .non))) (tTest (tOp rLe (tCall (sp_apart K a) [] E (tCons (tOp (rIxU K) (tFld K (tVar 0) "last_tap") (tC (.int 1))) (tCons (tFld K (tVar 1) "place") tNil))) (tC (.int 3))))) (tSeq (tDrop (tBM K "list" rAppend (tFld K (tVar 0) "told") (tCons (tTup (tCons (tC (.str "double")) (tCons (tFld K (tVar 1) "place") tNil))) tNil))) (sFld K (tVar 0) (tC .non) "last_tap")) (tSeq (tDrop (tBM K "list" rAppend (tFld K (tVar 0) "told") (tCons (tTup (tCons (tC (.str "tap")) (tCons (tFld K (tVar 1) "place") tNil))) tNil))) (sFld K (tVar 0) (tTup (tCons (tFld K (tVar 0) "time") (tCons (tFld K (tVar 1) "place") tNil))) "last_tap"))) tNext))))
def t_Gestures_end_of_drag (K : PySem.W.Frag) (a : Adr) (E : XK) : TS :=
  (tSeq (tIfS (tOr (tTruth K (tFld K (tVar 1) "is_long")) (tOr (tTest (tOp rGt (tOp rSubU (tFld K (tVar 0) "time") (tFld K (tVar 1) "begun")) (tC (.int 10)))) (tTest (tOp rLt (tCall (sp_apart K a) [] E (tCons (tFld K (tVar 1) "first") (tCons (tFld K (tVar 1) "place") tNil))) (tC (.int 12)))))) (tRet (tTup (tCons (tC (.str "drop")) (tCons (tFld K (tVar 1) "place") tNil)))) tNext) (tSeq (tPar 2 3 (tCons (tOp rSubU (tOp (rIxU K) (tFld K (tVar 1) "place") (tC (.int 0))) (tOp (rIxU K) (tFld K (tVar 1) "first") (tC (.int 0)))) (tCons (tOp rSubU (tOp (rIxU K) (tFld K (tVar 1) "place") (tC (.int 1))) (tOp (rIxU K) (tFld K (tVar 1) "first") (tC (.int 1)))) tNil))) (tSeq (tIfS (tTest (tOp rGe (tCB (rAbs) (tCons (tVar 2) tNil)) (tCB (rAbs) (tCons (tVar 3) tNil)))) (tRet (tTup (tCons (tC (.str "swipe")) (tCons (tIf (tTest (tOp rGt (tVar 2) (tC (.int 0)))) (tC (.str "right")) (tC (.str "left"))) tNil)))) tNext) (tRet (tTup (tCons (tC (.str "swipe")) (tCons (tIf (tTest (tOp rGt (tVar 3) (tC (.int 0)))) (tC (.str "down")) (tC (.str "up"))) tNil)))))))
def t_Gestures_cancel (K : PySem.W.Frag) (a : Adr) (E : XK) : TS :=
  (sFld K (tVar 0) (tC .non) "finger")
def t_Gestures_need (K : PySem.W.Frag) (a : Adr) (E : XK) : TS :=
  (tSeq (tIfS (tTest (tOp rIsN (tFld K (tVar 0) "finger") (tC .non))) (tRaiseE a.c_ViewFault E) tNext) (tRet (tFld K (tVar 0) "finger")))
def t_apart (K : PySem.W.Frag) (a : Adr) (E : XK) : TS :=
  (tRet (tCB (rMax2) (tCons (tCB (rAbs) (tCons (tOp rSubU (tOp (rIxU K) (tVar 0) (tC (.int 0))) (tOp (rIxU K) (tVar 1) (tC (.int 0)))) tNil)) (tCons (tCB (rAbs) (tCons (tOp rSubU (tOp (rIxU K) (tVar 0) (tC (.int 1))) (tOp (rIxU K) (tVar 1) (tC (.int 1)))) tNil)) tNil))))
def t_law_dice (K : PySem.W.Frag) (a : Adr) (E : XK) : TS :=
  (tSeq (tIfS (tTest (tChain rLt rLt (tOp rSubU (tC (.int 0)) (tC (.int 10))) (tVar 0) (tC (.int 10)))) (tRet (tLst (tCons (tCB (rAbs) (tCons (tVar 0) tNil)) (tCons (tC (.int 0)) (tCons (tC (.int 2)) tNil))))) tNext) (tRet (tLst (tCons (tVar 0) (tCons (tOp (rAddU K) (tC (.int 1)) (tOp rModU (tCB (rInt1) (tCons (tVar 0) tNil)) (tC (.int 1009)))) (tCons (tCB (rInt1) (tCons (tOp rGe (tVar 0) (tOp rPowU (tC (.int 10)) (tC (.int 18)))) tNil)) tNil))))))
def t_law_roll (K : PySem.W.Frag) (a : Adr) (E : XK) : TS :=
  (tSeq (tIfS (tOr (tTest (tOp (rEqU K) (tOp (rIxU K) (tVar 0) (tC (.int 2))) (tC (.int 2)))) (tAnd (tTest (tOp (rEqU K) (tOp (rIxU K) (tVar 0) (tC (.int 2))) (tC (.int 1)))) (tTest (tOp rGt (tOp (rIxU K) (tVar 0) (tC (.int 0))) (tC (.int 0)))))) (tSeq (tAsg (tOp rModU (tCB (rInt1) (tCons (tOp (rIxU K) (tVar 0) (tC (.int 0))) tNil)) (tVar 1)) (gName 2)) (tSeq (tAsg (tOp rDivU (tOp (rIxU K) (tVar 0) (tC (.int 0))) (tVar 1)) (gSub (tVar 0) (tC (.int 0)) rSetU)) (tRet (tVar 2)))) tNext) (tSeq (tAsg (tC (.int 0)) (gSub (tVar 0) (tC (.int 2)) rSetU)) (tSeq (tIfS (tTest (tOp rGt (tVar 1) (tC (.int 100000000)))) tNever tNext) (tSeq (tAsg (tOp rModU (tCB (rInt1) (tCons (tOp (rAddU K) (tOp (rAddU K) (tOp rMulU (tOp (rIxU K) (tVar 0) (tC (.int 0))) (tC (.int 48271))) (tOp rMulU (tOp (rIxU K) (tVar 0) (tC (.int 1))) (tC (.int 69621)))) (tC (.int 11))) tNil)) (tC (.int 2147483647))) (gSub (tVar 0) (tC (.int 0)) rSetU)) (tSeq (tAsg (tOp (rAddU K) (tOp (rIxU K) (tVar 0) (tC (.int 1))) (tC (.int 1))) (gSub (tVar 0) (tC (.int 1)) rSetU)) (tRet (tOp rModU (tCB (rInt1) (tCons (tOp rDivU (tOp (rIxU K) (tVar 0) (tC (.int 0))) (tC (.int 7))) tNil)) (tVar 1))))))))
def t_law_rounds (K : PySem.W.Frag) (a : Adr) (E : XK) : TS :=
  (tSeq (tAsg (tSl (rSlU K) (tVar 0) tNoPart (tPart (tVar 1))) (gName 2)) (tSeq (tIfS (tTest (tOp (rEqU K) (tVar 2) (tLst tNil))) (tAsg (tLst (tCons (tC (.int 0)) tNil)) (gName 2)) tNext) (tRet (tLc (iList K (tVar 2)) (gName 3) tYes (tCall (sp_law_dice K a) [] E0 (tCons (tVar 3) tNil)) [3]))))
def t_law_apart (K : PySem.W.Frag) (a : Adr) (E : XK) : TS :=
  (tRet (tCB (rMax2) (tCons (tCB (rAbs) (tCons (tOp rSubU (tOp (rIxU K) (tVar 0) (tC (.int 0))) (tOp (rIxU K) (tVar 1) (tC (.int 0)))) tNil)) (tCons (tCB (rAbs) (tCons (tOp rSubU (tOp (rIxU K) (tVar 0) (tC (.int 1))) (tOp (rIxU K) (tVar 1) (tC (.int 1)))) tNil)) tNil))))
def t_law_ended (K : PySem.W.Frag) (a : Adr) (E : XK) : TS :=
  (tSeq (tAsg (tOp (rIxU K) (tVar 0) (tC (.str "finger"))) (gName 1)) (tSeq (tPar 2 3 (tCons (tOp (rIxU K) (tVar 1) (tC (.str "first"))) (tCons (tOp (rIxU K) (tVar 1) (tC (.str "place"))) tNil))) (tSeq (tIfS (tTruth K (tOp (rIxU K) (tVar 1) (tC (.str "moved")))) (tSeq (tPar 4 5 (tCons (tOp rSubU (tOp (rIxU K) (tVar 3) (tC (.int 0))) (tOp (rIxU K) (tVar 2) (tC (.int 0)))) (tCons (tOp rSubU (tOp (rIxU K) (tVar 3) (tC (.int 1))) (tOp (rIxU K) (tVar 2) (tC (.int 1)))) tNil))) (tSeq (tIfS (tOr (tTruth K (tOp (rIxU K) (tVar 1) (tC (.str "long")))) (tOr (tTest (tOp rGt (tOp rSubU (tOp (rIxU K) (tVar 0) (tC (.str "time"))) (tOp (rIxU K) (tVar 1) (tC (.str "begun")))) (tC (.int 10)))) (tTest (tOp rLt (tCall (sp_law_apart K a) [] E (tCons (tVar 2) (tCons (tVar 3) tNil))) (tC (.int 12)))))) (tRet (tTup (tCons (tLst (tCons (tTup (tCons (tC (.str "drop")) (tCons (tVar 3) tNil))) tNil)) (tCons (tC .non) tNil)))) tNext) (tSeq (tAsg (tIf (tTest (tOp rGe (tCB (rAbs) (tCons (tVar 4) tNil)) (tCB (rAbs) (tCons (tVar 5) tNil)))) (tIf (tTest (tOp rGt (tVar 4) (tC (.int 0)))) (tC (.str "right")) (tC (.str "left"))) (tIf (tTest (tOp rGt (tVar 5) (tC (.int 0)))) (tC (.str "down")) (tC (.str "up")))) (gName 6)) (tRet (tTup (tCons (tLst (tCons (tTup (tCons (tC (.str "swipe")) (tCons (tVar 6) tNil))) tNil)) (tCons (tC .non) tNil))))))) tNext) (tSeq (tIfS (tTruth K (tOp (rIxU K) (tVar 1) (tC (.str "long")))) (tRet (tTup (tCons (tLst tNil) (tCons (tOp (rIxU K) (tVar 0) (tC (.str "tap"))) tNil)))) tNext) (tSeq (tIfS (tAnd (tTest (tOp rNotN (tOp (rIxU K) (tVar 0) (tC (.str "tap"))) (tC .non))) (tTest (tOp rLe (tCall (sp_law_apart K a) [] E (tCons (tOp (rIxU K) (tOp (rIxU K) (tVar 0) (tC (.str "tap"))) (tC (.int 1))) (tCons (tVar 3) tNil))) (tC (.int 3))))) (tRet (tTup (tCons (tLst (tCons (tTup (tCons (tC (.str "double")) (tCons (tVar 3) tNil))) tNil)) (tCons (tC .non) tNil)))) tNext) (tRet (tTup (tCons (tLst (tCons (tTup (tCons (tC (.str "tap")) (tCons (tVar 3) tNil))) tNil)) (tCons (tTup (tCons (tOp (rIxU K) (tVar 0) (tC (.str "time"))) (tCons (tVar 3) tNil))) tNil)))))))))
def t_law_for0 (K : PySem.W.Frag) (a : Adr) (E : XK) : TS :=
  (tSeq (tDrop (tMeth a.c_Gestures "tick" (sp_Gestures_tick K a) [] E (tVar 2) tNil)) (tSeq (tAsg (tOp (rAddU K) (tOp (rIxU K) (tVar 3) (tC (.str "time"))) (tC (.int 1))) (gSub (tVar 3) (tC (.str "time")) rSetU)) (tSeq (tIfS (tAnd (tTest (tOp rNotN (tVar 9) (tC .non))) (tAnd (tNot (tTruth K (tOp (rIxU K) (tVar 9) (tC (.str "moved"))))) (tAnd (tNot (tTruth K (tOp (rIxU K) (tVar 9) (tC (.str "long"))))) (tTest (tOp rGe (tOp rSubU (tOp (rIxU K) (tVar 3) (tC (.str "time"))) (tOp (rIxU K) (tVar 9) (tC (.str "begun")))) (tC (.int 10))))))) (tSeq (tAsg (tC (.bl true)) (gSub (tVar 9) (tC (.str "long")) rSetU)) (tDrop (tBM K "list" rAppend (tVar 4) (tCons (tTup (tCons (tC (.str "long")) (tCons (tOp (rIxU K) (tVar 9) (tC (.str "first"))) tNil))) tNil)))) tNext) (tIfS (tAnd (tTest (tOp rNotN (tOp (rIxU K) (tVar 3) (tC (.str "tap"))) (tC .non))) (tTest (tOp rGt (tOp rSubU (tOp (rIxU K) (tVar 3) (tC (.str "time"))) (tOp (rIxU K) (tOp (rIxU K) (tVar 3) (tC (.str "tap"))) (tC (.int 0)))) (tC (.int 6))))) (tAsg (tC .non) (gSub (tVar 3) (tC (.str "tap")) rSetU)) tNext))))
def t_law_for1 (K : PySem.W.Frag) (a : Adr) (E : XK) : TS :=
  (tSeq (tAsg (tTup (tCons (tCall (sp_law_roll K a) [] E (tCons (tVar 1) (tCons (tC (.int 12)) tNil))) (tCons (tCall (sp_law_roll K a) [] E (tCons (tVar 1) (tCons (tOp (rIxU K) (tLst (tCons (tC (.int 5)) (tCons (tC (.int 40)) tNil))) (tCall (sp_law_roll K a) [] E (tCons (tVar 1) (tCons (tC (.int 2)) tNil)))) tNil))) (tCons (tCall (sp_law_roll K a) [] E (tCons (tVar 1) (tCons (tOp (rIxU K) (tLst (tCons (tC (.int 5)) (tCons (tC (.int 40)) tNil))) (tCall (sp_law_roll K a) [] E (tCons (tVar 1) (tCons (tC (.int 2)) tNil)))) tNil))) tNil)))) (gTup K 3 (gCons (gName 6) (gCons (gName 7) (gCons (gName 8) gNil))))) (tSeq (tAsg (tOp (rIxU K) (tVar 3) (tC (.str "finger"))) (gName 9)) (tSeq (tIfS (tTest (tOp rLt (tVar 6) (tC (.int 5)))) (tFor (iRng1 (tCons (tOp (rAddU K) (tC (.int 1)) (tOp rMulU (tCall (sp_law_roll K a) [] E (tCons (tVar 1) (tCons (tC (.int 4)) tNil))) (tCB (rInt1) (tCons (tOp (rEqU K) (tVar 6) (tC (.int 4))) tNil)))) tNil)) (gName 10) (t_law_for0 K a E)) (tIfS (tTest (tOp rLt (tVar 6) (tC (.int 8)))) (tSeq (tIfS (tTest (tOp (rNeU K) (tOp (rEqU K) (tLam [(a.tb_law, lamq "law")] (TTold K a.c_ViewFault "ViewFault") (fun E => (tMeth a.c_Gestures "down" (sp_Gestures_down K a) [] E (tVar 2) (tCons (tVar 7) (tCons (tVar 8) tNil))))) (tC (.str "ViewFault"))) (tOp rNotN (tVar 9) (tC .non)))) (tRet (tC (.bl false))) tNext) (tAsg (tIf (tTest (tOp rNotN (tVar 9) (tC .non))) (tVar 9) (tDisp (((tC (.str "first")), (tTup (tCons (tVar 7) (tCons (tVar 8) tNil)))) :: (((tC (.str "place")), (tTup (tCons (tVar 7) (tCons (tVar 8) tNil)))) :: (((tC (.str "begun")), (tOp (rIxU K) (tVar 3) (tC (.str "time")))) :: (((tC (.str "moved")), (tC (.bl false))) :: (((tC (.str "long")), (tC (.bl false))) :: []))))))) (gSub (tVar 3) (tC (.str "finger")) rSetU))) (tIfS (tTest (tOp rLt (tVar 6) (tC (.int 10)))) (tSeq (tIfS (tTest (tOp (rNeU K) (tOp (rEqU K) (tLam [(a.tb_law, lamq "law")] (TTold K a.c_ViewFault "ViewFault") (fun E => (tMeth a.c_Gestures "move" (sp_Gestures_move K a) [] E (tVar 2) (tCons (tVar 7) (tCons (tVar 8) tNil))))) (tC (.str "ViewFault"))) (tOp rIsN (tVar 9) (tC .non)))) (tRet (tC (.bl false))) tNext) (tIfS (tTest (tOp rNotN (tVar 9) (tC .non))) (tSeq (tAsg (tTup (tCons (tOp (rIxU K) (tVar 9) (tC (.str "place"))) (tCons (tTup (tCons (tVar 7) (tCons (tVar 8) tNil))) tNil))) (gTup K 2 (gCons (gName 11) (gCons (gSub (tVar 9) (tC (.str "place")) rSetU) gNil)))) (tIfS (tOr (tTruth K (tOp (rIxU K) (tVar 9) (tC (.str "moved")))) (tTest (tOp rGt (tCall (sp_law_apart K a) [] E (tCons (tOp (rIxU K) (tVar 9) (tC (.str "first"))) (tCons (tTup (tCons (tVar 7) (tCons (tVar 8) tNil))) tNil))) (tC (.int 3))))) (tSeq (tDrop (tBM K "list" rAppend (tVar 4) (tCons (tTup (tCons (tC (.str "drag")) (tCons (tIf (tTruth K (tOp (rIxU K) (tVar 9) (tC (.str "moved")))) (tVar 11) (tOp (rIxU K) (tVar 9) (tC (.str "first")))) (tCons (tTup (tCons (tVar 7) (tCons (tVar 8) tNil))) tNil)))) tNil))) (tAsg (tC (.bl true)) (gSub (tVar 9) (tC (.str "moved")) rSetU))) tNext)) tNext)) (tIfS (tTest (tOp (rEqU K) (tVar 6) (tC (.int 10)))) (tSeq (tIfS (tTest (tOp (rNeU K) (tOp (rEqU K) (tLam [(a.tb_law, lamq "law")] (TTold K a.c_ViewFault "ViewFault") (fun E => (tMeth a.c_Gestures "lift" (sp_Gestures_lift K a) [] E (tVar 2) tNil))) (tC (.str "ViewFault"))) (tOp rIsN (tVar 9) (tC .non)))) (tRet (tC (.bl false))) tNext) (tIfS (tTest (tOp rNotN (tVar 9) (tC .non))) (tSeq (tAsg (tCall (sp_law_ended K a) [] E (tCons (tVar 3) tNil)) (gTup K 2 (gCons (gName 12) (gCons (gName 13) gNil)))) (tAsg (tTup (tCons (tOp (rAddU K) (tVar 4) (tVar 12)) (tCons (tVar 13) (tCons (tC .non) tNil)))) (gTup K 3 (gCons (gName 4) (gCons (gSub (tVar 3) (tC (.str "tap")) rSetU) (gCons (gSub (tVar 3) (tC (.str "finger")) rSetU) gNil)))))) tNext)) (tSeq (tDrop (tMeth a.c_Gestures "cancel" (sp_Gestures_cancel K a) [] E (tVar 2) tNil)) (tAsg (tC .non) (gSub (tVar 3) (tC (.str "finger")) rSetU))))))) (tIfS (tOr (tTest (tOp (rNeU K) (tFld K (tVar 2) "told") (tVar 4))) (tOr (tTest (tOp (rNeU K) (tOp rIsN (tFld K (tVar 2) "finger") (tC .non)) (tOp rIsN (tOp (rIxU K) (tVar 3) (tC (.str "finger"))) (tC .non)))) (tTest (tOp (rNeU K) (tFld K (tVar 2) "time") (tOp (rIxU K) (tVar 3) (tC (.str "time"))))))) (tRet (tC (.bl false))) tNext))))
def t_law_for2 (K : PySem.W.Frag) (a : Adr) (E : XK) : TS :=
  (tSeq (tAsg (tTup (tCons (tMake a.c_Gestures (sp_Gestures__init K a) [] E tNil) (tCons (tDisp (((tC (.str "time")), (tC (.int 0))) :: (((tC (.str "finger")), (tC .non)) :: (((tC (.str "tap")), (tC .non)) :: [])))) (tCons (tLst tNil) tNil)))) (gTup K 3 (gCons (gName 2) (gCons (gName 3) (gCons (gName 4) gNil))))) (tSeq (tFor (iRng1 (tCons (tCall (sp_law_roll K a) [] E (tCons (tVar 1) (tCons (tC (.int 81)) tNil))) tNil)) (gName 5) (t_law_for1 K a E)) (tSeq (tPar 9 14 (tCons (tTup (tCons (tCall (sp_law_roll K a) [] E (tCons (tVar 1) (tCons (tC (.int 9)) tNil))) (tCons (tCall (sp_law_roll K a) [] E (tCons (tVar 1) (tCons (tC (.int 9)) tNil))) tNil))) (tCons (tTup (tCons (tCall (sp_law_roll K a) [] E (tCons (tVar 1) (tCons (tC (.int 9)) tNil))) (tCons (tCall (sp_law_roll K a) [] E (tCons (tVar 1) (tCons (tC (.int 9)) tNil))) tNil))) tNil))) (tIfS (tTest (tOp (rNeU K) (tCall (sp_apart K a) [] E (tCons (tVar 9) (tCons (tVar 14) tNil))) (tCall (sp_law_apart K a) [] E (tCons (tVar 9) (tCons (tVar 14) tNil))))) (tRet (tC (.bl false))) tNext))))
def t_law (K : PySem.W.Frag) (a : Adr) (E : XK) : TS :=
  (tSeq (tFor (iList K (tCall (sp_law_rounds K a) [] E (tCons (tVar 0) (tCons (tC (.int 1)) tNil)))) (gName 1) (t_law_for2 K a E)) (tRet (tAndV (tOp (rEqU K) (tFld K (tMake a.c_Touching (sp_Touching__init K a) [] E (tCons (tC (.int 1)) (tCons (tC (.int 2)) (tCons (tC (.int 3)) tNil)))) "place") (tTup (tCons (tC (.int 1)) (tCons (tC (.int 2)) tNil)))) (tAndV (tOp (rEqU K) (tFld K (tMake a.c_Gestures (sp_Gestures__init K a) [] E tNil) "told") (tLst tNil)) (tOp (rEqU K) (tLam [(a.tb_law, lamq "law")] (TTold K a.c_ViewFault "ViewFault") (fun E => (tMeth a.c_Gestures "need" (sp_Gestures_need K a) [] E (tMake a.c_Gestures (sp_Gestures__init K a) [] E tNil) tNil))) (tC (.str "ViewFault")))))))
end Wk
namespace Wk
open PySem PySem.Spec PyProof.Rows L2 Ph
abbrev imH (K : PySem.W.Frag) (a : Adr) (ph : Addr) (g : GS) (O : List (Addr × HO)) : Im := .pr (fun H => HRep K H a ph g O) (fun _ _ s h => h.mono0 s)
abbrev imT (K : PySem.W.Frag) (t : Option (Int × Int × Int)) (v : V) : Im := .pr (fun H => TRep K H t v) (fun _ _ s h => h.mono0 s)
abbrev imF (K : PySem.W.Frag) (C : Addr) (t : Option Fg) (v : V) (O : List (Addr × HO)) : Im := .pr (fun H => FRep K H C t v O) (fun _ _ s h => h.mono0 s)
theorem hrep {K : PySem.W.Frag} {a : Adr} {B H : Hp} {ph : Addr} {g : GS} {L O : List (Addr × HO)} {I : List Im} (hC : Ctx K B H L I) (m : imH K a ph g O ∈ I) : HRep K H a ph g O := hC.pr m
theorem trep {K : PySem.W.Frag} {B H : Hp} {t : Option (Int × Int × Int)} {v : V} {L : List (Addr × HO)} {I : List Im} (hC : Ctx K B H L I) (m : imT K t v ∈ I) : TRep K H t v := hC.pr m
section
variable {K : PySem.W.Frag} {a : Adr} {B H : Hp} {Q : VK} {E : XK} {L : List (Addr × HO)} {I : List Im}
theorem c_apart {p q : Addr} {x y u v : Int} (h1 : SqT K H p [.int x, .int y]) (h2 : SqT K H q [.int u, .int v]) (k : Q (.int (far x y u v)) H) : sp_apart K a [.ref p, .ref q] H Q E := ⟨rfl, p, q, x, y, u, v, rfl, h1, h2, k⟩
theorem c_law_apart {p q : Addr} {x y u v : Int} (h1 : SqT K H p [.int x, .int y]) (h2 : SqT K H q [.int u, .int v]) (k : Q (.int (far x y u v)) H) : sp_law_apart K a [.ref p, .ref q] H Q E := ⟨rfl, p, q, x, y, u, v, rfl, h1, h2, k⟩
theorem c_need_non {ph dx : Addr} {fs : List (Str × V)} (hp : H ph = some (.ins a.c_Gestures dx fs)) (l : Lk "finger" fs .non) (k : E (.ref a.c_ViewFault) none H) : sp_Gestures_need K a [.ref ph] H Q E :=
  ⟨rfl, ph, dx, .non, fs, rfl, hp, l, fun _ => k, fun p e => (by cases e), .inl rfl⟩
theorem c_need_ref {ph dx p : Addr} {fs : List (Str × V)} (hp : H ph = some (.ins a.c_Gestures dx fs)) (l : Lk "finger" fs (.ref p)) (k : Q (.ref p) H) : sp_Gestures_need K a [.ref ph] H Q E :=
  ⟨rfl, ph, dx, .ref p, fs, rfl, hp, l, fun e => (by cases e), fun _ _ => k, .inr ⟨p, rfl⟩⟩
theorem c_eod {ph pf dx dxf p1 p2 : Addr} {fx fy px py bg t : Int} {mv lg : Bool} {vf vt vl : V} (hC : Ctx K B H L I) (m1 : (ph, HO.ins a.c_Gestures dx [("finger", vf), ("last_tap", vt), ("told", vl), ("time", .int t)]) ∈ L)
    (m2 : (pf, HO.ins a.c_Touching dxf [("first", .ref p1), ("begun", .int bg), ("place", .ref p2), ("moved", .bl mv), ("is_long", .bl lg)]) ∈ L) (r1 : SqT K H p1 [.int fx, .int fy]) (r2 : SqT K H p2 [.int px, .int py])
    (k : ∀ p H1, Ctx K B H1 L (.dat (.ref p) (endG t ⟨fx, fy, px, py, bg, mv, lg⟩) :: I) → Q (.ref p) H1) : sp_Gestures_end_of_drag K a [.ref ph, .ref pf] H Q E :=
  ⟨rfl, ph, pf, dx, dxf, p1, p2, ⟨fx, fy, px, py, bg, mv, lg⟩, t, vf, vt, vl, L, rfl, hC.lay, m1, m2, r1, r2, fun p H1 s l d => k p H1 ((hC.moved s l).add (i := .dat _ _) d)⟩
end
section
variable {K : PySem.W.Frag} {a : Adr} {B H : Hp} {Q : VK} {E : XK} {L F O : List (Addr × HO)} {I : List Im}
theorem c_dice {c : Int} (hC : Ctx K B H L I) (k : ∀ p i j l H1, Ctx K B H1 ((p, .lst [.int i, .int j, .int l]) :: L) I → Q (.ref p) H1) : sp_law_dice K a [.int c] H Q E :=
  ⟨rfl, c, L, rfl, hC.lay, fun p H' i j l s y => k p i j l H' (hC.moved s y)⟩
theorem c_roll {d : Addr} {m i j l : Int} (hC : Ctx K B H L I) (pk : Pick (d, .lst [.int i, .int j, .int l]) L F) (h0 : 0 < m) (h1 : m ≤ 100000000)
    (k : ∀ r i' j' l' H1, 0 ≤ r → r < m → Ctx K B H1 ((d, .lst [.int i', .int j', .int l']) :: F) I → Q (.int r) H1) : sp_law_roll K a [.ref d, .int m] H Q E :=
  ⟨rfl, d, m, i, j, l, F, rfl, hC.lay.pick pk, h0, h1, fun r i' j' k' H' r0 r1 s y => k r i' j' k' H' r0 r1 (hC.moved s y)⟩
theorem c_meth {ph : Addr} {g : GS} {m : Str} {σ : L2.St} {tr : TA} {Z : V → List V → Hp → Prop} (hC : Ctx K B H L I) (R : HRep K H a ph g O) (pl : Pull O L F)
    (n : ∀ v1 v2 v3 v4 : V, NoLk m [("finger", v1), ("last_tap", v2), ("told", v3), ("time", v4)]) (h : tr σ H fun vs H2 => Z (.ref ph) vs H2) : kMeth a.c_Gestures m σ tr Z (.ref ph) H := by
  cases R with
  | mk hf ht hd => exact s_methV ((hC.lay.perm pl.perm).get List.mem_cons_self) (n _ _ _ _) h
theorem c_ginit {x dx : Addr} (hC : Ctx K B H L I) (pk : Pick (x, .ins a.c_Gestures dx []) L F) (k : ∀ H1 O, HRep K H1 a x ⟨none, none, [], 0⟩ O → Ctx K B H1 (F ++ O) I → Q .non H1) : sp_Gestures__init K a [.ref x] H Q E :=
  ⟨rfl, x, dx, F, rfl, hC.lay.pick pk, fun H' O' s r y => k H' O' r ((hC.moved s y).perm List.perm_append_comm)⟩
theorem c_tinit {x dx : Addr} {l t u : Int} (hC : Ctx K B H L I) (pk : Pick (x, .ins a.c_Touching dx []) L F) (k : ∀ H1 O, FRep K H1 a.c_Touching (some ⟨l, t, l, t, u, false, false⟩) (.ref x) O → Ctx K B H1 (F ++ O) I → Q .non H1) :
    sp_Touching__init K a [.ref x, .int l, .int t, .int u] H Q E :=
  ⟨rfl, x, dx, l, t, u, F, rfl, hC.lay.pick pk, fun H' O' s r y => k H' O' r ((hC.moved s y).perm List.perm_append_comm)⟩
theorem c_tick {ph : Addr} {g : GS} (hC : Ctx K B H L I) (R : HRep K H a ph g O) (pl : Pull O L F) (z : g.told.length ≤ 5000) (k : ∀ H1 O1, HRep K H1 a ph (tickG g) O1 → Ctx K B H1 (F ++ O1) I → Q .non H1) : sp_Gestures_tick K a [.ref ph] H Q E :=
  ⟨rfl, ph, g, O, F, rfl, R, hC.lay.perm pl.perm, z, fun H' O' s r y => k H' O' r ((hC.moved s y).perm List.perm_append_comm)⟩
theorem c_cancel {ph : Addr} {g : GS} (hC : Ctx K B H L I) (R : HRep K H a ph g O) (pl : Pull O L F) (k : ∀ H1 O1, HRep K H1 a ph { g with finger := none } O1 → Ctx K B H1 (F ++ O1) I → Q .non H1) : sp_Gestures_cancel K a [.ref ph] H Q E :=
  ⟨rfl, ph, g, O, F, rfl, R, hC.lay.perm pl.perm, fun H' O' s r y => k H' O' r ((hC.moved s y).perm List.perm_append_comm)⟩
theorem c_down {ph : Addr} {x y : Int} {g : GS} (hC : Ctx K B H L I) (R : HRep K H a ph g O) (pl : Pull O L F) (k1 : g.finger = none → ∀ H1 O1, HRep K H1 a ph (downG x y g) O1 → Ctx K B H1 (F ++ O1) I → Q .non H1)
    (k2 : ∀ f, g.finger = some f → E (.ref a.c_ViewFault) none H) : sp_Gestures_down K a [.ref ph, .int x, .int y] H Q E :=
  ⟨rfl, ph, x, y, g, O, F, rfl, R, hC.lay.perm pl.perm, fun e H' O' s r y => k1 e H' O' r ((hC.moved s y).perm List.perm_append_comm), k2⟩
theorem c_move {ph : Addr} {x y : Int} {g : GS} (hC : Ctx K B H L I) (R : HRep K H a ph g O) (pl : Pull O L F) (z : g.told.length ≤ 5000) (k1 : g.finger = none → E (.ref a.c_ViewFault) none H)
    (k2 : ∀ f, g.finger = some f → ∀ H1 O1, HRep K H1 a ph (moveG x y f g) O1 → Ctx K B H1 (F ++ O1) I → Q .non H1) : sp_Gestures_move K a [.ref ph, .int x, .int y] H Q E :=
  ⟨rfl, ph, x, y, g, O, F, rfl, R, hC.lay.perm pl.perm, z, k1, fun f e H' O' s r y => k2 f e H' O' r ((hC.moved s y).perm List.perm_append_comm)⟩
theorem c_lift {ph : Addr} {g : GS} (hC : Ctx K B H L I) (R : HRep K H a ph g O) (pl : Pull O L F) (z : g.told.length ≤ 5000) (k1 : g.finger = none → E (.ref a.c_ViewFault) none H)
    (k2 : ∀ f, g.finger = some f → ∀ H1 O1, HRep K H1 a ph (liftG f g) O1 → Ctx K B H1 (F ++ O1) I → Q .non H1) : sp_Gestures_lift K a [.ref ph] H Q E :=
  ⟨rfl, ph, g, O, F, rfl, R, hC.lay.perm pl.perm, z, k1, fun f e H' O' s r y => k2 f e H' O' r ((hC.moved s y).perm List.perm_append_comm)⟩
theorem c_ended {po pf p1 p2 : Addr} {f : Fg} {g : GS} {vt : V} (hC : Ctx K B H L I) (m1 : (po, HO.dK [(Sum.inr "time", .int g.time), (Sum.inr "finger", .ref pf), (Sum.inr "tap", vt)]) ∈ L)
    (m2 : (pf, HO.dK [(Sum.inr "first", .ref p1), (Sum.inr "place", .ref p2), (Sum.inr "begun", .int f.begun), (Sum.inr "moved", .bl f.moved), (Sum.inr "long", .bl f.long)]) ∈ L)
    (r1 : SqT K H p1 [.int f.fx, .int f.fy]) (r2 : SqT K H p2 [.int f.px, .int f.py]) (rt : TRep K H g.tap vt)
    (k : ∀ p pl vs v H1, SqT K H1 p [.ref pl, v] → TDs K H1 vs (endRows g f) → TRep K H1 (endTap g f) v → Ctx K B H1 ((pl, .lst vs) :: L) I → Q (.ref p) H1) : sp_law_ended K a [.ref po] H Q E :=
  ⟨rfl, po, pf, p1, p2, f, 0, g, vt, L, rfl, hC.lay, m1, m2, r1, r2, rt, fun p pl vs v H1 s y q1 q2 q3 => k p pl vs v H1 q1 q2 q3 (hC.moved s y)⟩
end
end Wk
namespace Wk
open PySem PySem.Spec PyProof.Rows L2 Ph
open LamX (tLam TTold)
set_option hygiene false in
local macro_rules | `(tactic| walk_at "mem") => `(tactic| first | with_reducible assumption | with_reducible exact List.mem_cons_self | ((with_reducible apply List.mem_cons_of_mem); walk_at "mem"))
set_option hygiene false in
local macro_rules | `(tactic| walk_at "up") => `(tactic| first | with_reducible exact Up.here | ((with_reducible apply Up.there); walk_at "up"))
set_option hygiene false in
local macro_rules | `(tactic| walk_at "pick") => `(tactic| first | with_reducible exact Pick.here | ((with_reducible apply Pick.there); walk_at "pick"))
set_option hygiene false in
local macro_rules | `(tactic| walk_at "set") => `(tactic| first | with_reducible exact SetAt.here | ((with_reducible apply SetAt.there); walk_at "set"))
set_option hygiene false in
local macro_rules | `(tactic| walk_at "lset") => `(tactic| first | with_reducible exact LSet.here | ((with_reducible apply LSet.there); walk_at "lset"))
set_option hygiene false in
local macro_rules | `(tactic| walk_at "sne") => `(tactic| first | (intro hq; exact absurd (Sum.inr.inj hq) (by decide +kernel)) | decide +kernel)
set_option hygiene false in
local macro_rules | `(tactic| walk_at "lk") => `(tactic| first | with_reducible exact Lk.here | ((with_reducible apply Lk.there); (walk_at "sne"); walk_at "lk"))
set_option hygiene false in
local macro_rules | `(tactic| walk_at "nolk") => `(tactic| first | with_reducible exact NoLk.nil | ((with_reducible apply NoLk.there); (walk_at "sne"); walk_at "nolk"))
set_option hygiene false in
local macro_rules | `(tactic| walk_at "put") => `(tactic| first | with_reducible exact Put.nil | with_reducible exact Put.here | ((with_reducible apply Put.there); (walk_at "sne"); walk_at "put"))
set_option hygiene false in
local macro_rules | `(tactic| walk_at "dk") => `(tactic| first | with_reducible exact Dk.here | ((with_reducible apply Dk.there); (walk_at "sne"); walk_at "dk"))
set_option hygiene false in
local macro_rules | `(tactic| walk_at "dno") => `(tactic| first | with_reducible exact DNo.nil | ((with_reducible apply DNo.there); (walk_at "sne"); walk_at "dno"))
set_option hygiene false in
local macro_rules | `(tactic| walk_at "dpt") => `(tactic| first | ((with_reducible apply DPt.here); walk_at "dno") | ((with_reducible apply DPt.there); (walk_at "sne"); walk_at "dpt"))
set_option hygiene false in
local macro_rules | `(tactic| walk_at "get") => `(tactic| exact hC.get (by walk_at "mem"))
set_option hygiene false in
local macro_rules | `(tactic| walk_at "sqt") => `(tactic| exact hC.tup (by walk_at "mem"))
set_option hygiene false in
local macro_rules | `(tactic| walk_at "len") => `(tactic| first | (simp; done) | (simp only [List.length_append, List.length_cons, List.length_nil]; omega) | omega)
set_option hygiene false in
local macro_rules | `(tactic| walk_at "alli") => `(tactic| first | exact AllI.nil | (apply AllI.cons; walk_at "alli"))
set_option hygiene false in
local macro_rules | `(tactic| walk_at "tok") => `(tactic| first | with_reducible exact ToK.nil | ((with_reducible apply ToK.str); walk_at "tok") | ((with_reducible apply ToK.int); walk_at "tok"))
set_option hygiene false in
local macro_rules | `(tactic| walk_at "rdis") => `(tactic| first | with_reducible exact RDis.nil | ((with_reducible apply RDis.cons); (walk_at "dno"); walk_at "rdis"))
set_option hygiene false in
local macro_rules | `(tactic| walk_at "pull") => `(tactic| first | with_reducible exact Pull.here | ((with_reducible apply Pull.there); walk_at "pull"))
set_option hygiene false in
local macro_rules | `(tactic| walk_at "st3") => `(tactic| first
  | with_reducible refine s_for ?_
  | with_reducible refine s_il ?_
  | ((with_reducible refine' s_ilV ?sm ?_); (case sm => walk_at "get"))
  | with_reducible refine s_rng ?_
  | ((with_reducible refine' s_rngV ?s1 ?s2 ?_); (case s1 => omega); (case s2 => omega))
  | with_reducible refine s_sl ?_
  | with_reducible refine s_noPart ?_
  | with_reducible refine s_partE ?_
  | with_reducible refine s_partV ?_
  | ((with_reducible refine' s_slL hC ?sm ?_); (case sm => first | assumption | exact SqL.of (by walk_at "get")); clear hC; intro sp H hC)
  | with_reducible refine s_lc ?_
  | ((with_reducible refine' s_app hC ?sm ?sz ?su ?_); (case sm => walk_at "get"); (case sz => walk_at "len"); (case su => walk_at "up"); clear hC; intro H hC)
  | ((with_reducible refine' s_disp hC ?_); clear hC; intro dp H hC)
  | with_reducible refine s_pair ?_
  | with_reducible refine s_pnil ?_
  | ((with_reducible refine' s_dispV hC ?sm ?sh ?sn ?sz ?su ?_); (case sm => walk_at "get"); (case sh => walk_at "tok"); (case sn => walk_at "rdis"); (case sz => walk_at "len"); (case su => walk_at "up"); clear hC; intro H hC)
  | ((with_reducible refine' s_lam hC hT ?_); clear hC hT; intro H hC hT; try dsimp only)
  | ((with_reducible refine' s_toldE ?se ?_); (case se => walk_at "exc"))
  | ((with_reducible refine' s_addL hC ?s1 ?s2 ?sz ?_); (case s1 => walk_at "get"); (case s2 => walk_at "get"); (case sz => walk_at "len"); clear hC; intro lp H hC)
  | ((with_reducible refine' s_ixAny ?sm ?sa ?s0 ?s1 ?_); (case sm => walk_at "get"); (case sa => walk_at "alli"); (case s0 => omega); (case s1 => walk_at "len"); intro iz hiz; simp only [List.mem_cons, List.not_mem_nil, or_false] at hiz))
-- a step of no choice
set_option hygiene false in
local macro_rules | `(tactic| walk_at "st0") => `(tactic| first
  | ((with_reducible refine' s_var ?sa ?_); (case sa => first | rfl | assumption))
  | with_reducible refine s_c ?_
  | with_reducible refine s_op ?_
  | with_reducible refine s_fld ?_
  | ((with_reducible refine' s_fldV ?sm ?sc ?sn ?sl ?_); (case sm => walk_at "get"); (case sc => walk_at "cls"); (case sn => walk_at "na"); (case sl => walk_at "lk"))
  | with_reducible refine s_cons ?_
  | with_reducible refine s_nil ?_
  | with_reducible refine s_seq ?_
  | with_reducible refine s_asg ?_
  | ((with_reducible refine' s_name ?sa ?_); (case sa => walk_at "set"))
  | with_reducible refine s_nx ?_
  | with_reducible refine s_next ?_
  | with_reducible refine s_test ?_
  | with_reducible refine s_bl ?_
  | with_reducible refine s_tru ?_
  | with_reducible refine s_truB ?_
  | with_reducible refine s_truN ?_
  | with_reducible refine s_if ?_
  | with_reducible refine s_and ?_
  | with_reducible refine s_or ?_
  | with_reducible refine s_not ?_
  | with_reducible refine s_ifE ?_
  | with_reducible refine iteT ?_
  | with_reducible refine iteF ?_
  | with_reducible refine s_iteNT ?_
  | with_reducible refine s_iteNF ?_)
set_option hygiene false in
local macro_rules | `(tactic| walk_at "st1") => `(tactic| first
  | with_reducible refine s_addI ?_
  | with_reducible refine s_subI ?_
  | with_reducible refine s_iaddI ?_
  | with_reducible refine s_ltI ?_
  | with_reducible refine s_leI ?_
  | with_reducible refine s_gtI ?_
  | with_reducible refine s_geI ?_
  | ((with_reducible refine' s_eqIT ?sq ?_); (case sq => assumption))
  | ((with_reducible refine' s_eqIF ?sq ?_); (case sq => assumption))
  | with_reducible refine s_eqI ?_
  | with_reducible refine s_neIF ?_
  | with_reducible refine s_neI ?_
  | with_reducible refine s_isN_non ?_
  | with_reducible refine s_isN_ref ?_
  | with_reducible refine s_isN_int ?_
  | with_reducible refine s_isN_str ?_
  | with_reducible refine s_notN_non ?_
  | with_reducible refine s_notN_ref ?_
  | with_reducible refine s_notN_int ?_
  | with_reducible refine s_notN_str ?_
  | ((with_reducible refine' s_eqST ?sq ?_); (case sq => with_reducible rfl))
  | with_reducible refine s_eqS ?_
  | with_reducible refine s_neS ?_
  | with_reducible refine s_eqBs ?_
  | with_reducible refine s_eqTF ?_
  | with_reducible refine s_eqFT ?_
  | with_reducible refine s_eqB ?_
  | with_reducible refine s_neBs ?_
  | with_reducible refine s_neTF ?_
  | with_reducible refine s_neFT ?_
  | with_reducible refine s_neB ?_
  | with_reducible refine s_eqNS ?_
  | with_reducible refine s_eqSN ?_
  | with_reducible refine s_neNS ?_
  | ((with_reducible refine' s_mulI ?sc ?_); (case sc => first | exact .inr ⟨by decide, by decide⟩ | exact .inl ⟨by decide, by decide⟩ | exact .inr ⟨by omega, by omega⟩ | exact .inl ⟨by omega, by omega⟩))
  | ((with_reducible refine' s_modI ?sc ?_); (case sc => first | decide | omega))
  | ((with_reducible refine' s_divI ?sc ?_); (case sc => exact ⟨by first | decide | omega, by first | decide | omega⟩))
  | ((with_reducible refine' s_powI ?sc ?_); (case sc => exact ⟨by decide, by decide, by decide⟩))
  | (refine' s_ixT (j := 0) ?sm ?se ?_; (case sm => walk_at "sqt"); (case se => rfl))
  | (refine' s_ixT (j := 1) ?sm ?se ?_; (case sm => walk_at "sqt"); (case se => rfl))
  | ((with_reducible refine' s_ixD ?sm ?se ?_); (case sm => walk_at "get"); (case se => walk_at "dk"))
  | ((with_reducible refine' s_ixL ?sm ?se ?_); (case sm => walk_at "get"); (case se => rfl)))
set_option hygiene false in
local macro_rules | `(tactic| walk_at "st2") => `(tactic| first
  | with_reducible refine s_setF ?_
  | ((with_reducible refine' s_setV hC ?sm ?sc ?sn ?sz ?sp ?su ?_); (case sm => walk_at "get"); (case sc => walk_at "cls"); (case sn => walk_at "na"); (case sz => walk_at "len"); (case sp => walk_at "put"); (case su => walk_at "up"); clear hC; intro H hC)
  | with_reducible refine s_augF ?_
  | ((with_reducible refine' s_augV ?sm ?sc ?sn ?sl ?_); (case sm => walk_at "get"); (case sc => walk_at "cls"); (case sn => walk_at "na"); (case sl => walk_at "lk"))
  | ((with_reducible refine' s_augW hC ?sm ?sz ?sp ?su ?_); (case sm => walk_at "get"); (case sz => walk_at "len"); (case sp => walk_at "put"); (case su => walk_at "up"); clear hC; intro H hC)
  | with_reducible refine s_tup ?_
  | ((with_reducible refine' s_tupN hC ?sz ?_); (case sz => walk_at "len"); clear hC; intro tp H hC)
  | with_reducible refine s_lst ?_
  | ((with_reducible refine' s_lstN hC ?sz ?_); (case sz => walk_at "len"); clear hC; intro lp H hC)
  | with_reducible refine s_ret ?_
  | with_reducible refine s_retN ?_
  | with_reducible refine s_drop ?_
  | with_reducible refine s_bm ?_
  | ((with_reducible refine' s_tyL ?sm ?_); (case sm => walk_at "get"))
  | ((with_reducible refine' s_append hC ?sm ?sz ?su ?_); (case sm => walk_at "get"); (case sz => walk_at "len"); (case su => walk_at "up"); clear hC; intro H hC)
  | with_reducible refine s_cb ?_
  | with_reducible refine s_abs ?_
  | with_reducible refine s_max2 ?_
  | with_reducible refine s_min2 ?_
  | with_reducible refine s_int1 ?_
  | with_reducible refine s_int1T ?_
  | with_reducible refine s_int1F ?_
  | with_reducible refine s_int1b ?_
  | with_reducible refine s_par ?_
  | with_reducible refine s_par2V ?_
  | with_reducible refine s_par3 ?_
  | with_reducible refine s_par3V ?_
  | with_reducible refine s_subG ?_
  | ((with_reducible refine' s_putD hC ?sm ?sz ?sp ?su ?_); (case sm => walk_at "get"); (case sz => walk_at "len"); (case sp => walk_at "dpt"); (case su => walk_at "up"); clear hC; intro H hC)
  | ((with_reducible refine' s_putL (j := 0) hC ?sm ?se ?sw ?su ?_); (case sm => walk_at "get"); (case se => rfl); (case sw => walk_at "lset"); (case su => walk_at "up"); clear hC; intro H hC)
  | ((with_reducible refine' s_putL (j := 1) hC ?sm ?se ?sw ?su ?_); (case sm => walk_at "get"); (case se => rfl); (case sw => walk_at "lset"); (case su => walk_at "up"); clear hC; intro H hC)
  | ((with_reducible refine' s_putL (j := 2) hC ?sm ?se ?sw ?su ?_); (case sm => walk_at "get"); (case se => rfl); (case sw => walk_at "lset"); (case su => walk_at "up"); clear hC; intro H hC)
  | ((with_reducible refine' s_gtup ?sm ?sz ?_); (case sm => walk_at "sqt"); (case sz => rfl))
  | with_reducible refine s_gcons ?_
  | with_reducible refine s_gnil ?_
  | with_reducible refine s_call ?_
  | with_reducible refine s_callV ?_
  | with_reducible refine s_meth ?_
  | ((with_reducible refine' s_methV ?sm ?sn ?_); (case sm => walk_at "get"); (case sn => walk_at "nolk"))
  | with_reducible refine s_make ?_
  | ((with_reducible refine s_makeV hC ?_); clear hC; intro mx mdx H hC)
  | with_reducible refine s_raise ?_
  | with_reducible refine s_chain ?_
  | with_reducible refine s_chainB ?_
  | with_reducible refine s_andV ?_
  | with_reducible refine s_andB ?_
  | with_reducible refine s_orV ?_
  | with_reducible refine s_orB ?_
  | with_reducible refine s_notV ?_
  | with_reducible refine s_notB ?_
  | with_reducible refine s_un ?_
  | with_reducible refine s_negI ?_
  | with_reducible refine s_asg2 ?_
  | with_reducible refine s_break ?_
  | with_reducible refine s_cont ?_)
set_option hygiene false in
local macro_rules | `(tactic| walk_at "st") => `(tactic| first | walk_at "st0" | walk_at "st1" | walk_at "st2" | walk_at "stc" | walk_at "st3")
set_option hygiene false in
local macro_rules | `(tactic| walk_at "go") => `(tactic| repeat walk_at "st")
set_option hygiene false in
local macro_rules | `(tactic| walk_at "start") => `(tactic| simp only [L2.start, List.length_cons, List.length_nil, List.map_cons, List.map_nil, List.cons_append, List.nil_append, List.replicate, Nat.reduceAdd, Nat.reduceSub, List.range, List.range.loop, List.getElem?_cons_zero, List.getElem?_cons_succ])
set_option hygiene false in
local macro_rules | `(tactic| walk_at "perm2") => `(tactic| first | exact Perm2.nil | (apply Perm2.cons; (walk_at "pick"); walk_at "perm2"))
set_option hygiene false in
local macro_rules | `(tactic| walk_at "lay") => `(tactic| (apply Lay.perm2 hC.lay; walk_at "perm2"))
set_option hygiene false in
local macro_rules | `(tactic| walk_at "sp") => `(tactic| first | refine s_iteDT (by first | assumption | omega) ?_ | refine s_iteDF (by first | assumption | omega) ?_ | refine s_iteD (fun c => ?_) (fun c => ?_) | refine s_iteND (fun c => ?_) (fun c => ?_) | refine s_iteB (fun c => ?_) (fun c => ?_) | refine s_iteNB (fun c => ?_) (fun c => ?_))
set_option hygiene false in
local macro_rules | `(tactic| walk_at "all") => `(tactic| ((walk_at "go"); (try ((walk_at "sp") <;> walk_at "all"))))
set_option hygiene false in
local macro_rules | `(tactic| walk_at "tds") => `(tactic| first | exact TDs.nil | exact hC.dats (by walk_at "mem") | exact TDs.mono hC.sb (by assumption) | (apply TDs.cons; (walk_at "td"); walk_at "tds") | (apply TDs.snoc; (walk_at "tds"); walk_at "td") | (apply TDs.append; (walk_at "tds"); walk_at "tds"))
set_option hygiene false in
local macro_rules | `(tactic| walk_at "td") => `(tactic| first | exact TD.non | exact TD.int _ | exact TD.str _ | exact TD.bl _ | exact hC.dat (by walk_at "mem") | (apply TD.tupR; (walk_at "tds"); walk_at "sqt"))
set_option hygiene false in
local macro_rules | `(tactic| walk_at "dsl") => `(tactic| (try dsimp only [List.nil_append, List.cons_append] at hC))
set_option hygiene false in
local macro_rules | `(tactic| walk_at "cls") => `(tactic| first | with_reducible exact T.cl_Gestures | with_reducible exact T.cl_Touching)
set_option hygiene false in
local macro_rules | `(tactic| walk_at "na") => `(tactic| first | with_reducible exact T.na_Gestures_finger | with_reducible exact T.na_Gestures_last_tap | with_reducible exact T.na_Gestures_told | with_reducible exact T.na_Gestures_time | with_reducible exact T.na_Touching_first | with_reducible exact T.na_Touching_begun | with_reducible exact T.na_Touching_place | with_reducible exact T.na_Touching_moved | with_reducible exact T.na_Touching_is_long)
set_option hygiene false in
local macro_rules | `(tactic| walk_at "fow") => `(tactic| first | exact FOwn.non | exact FOwn.som (by walk_at "sqt") (by walk_at "sqt"))
set_option hygiene false in
local macro_rules | `(tactic| walk_at "sel") => `(tactic| first | with_reducible exact Sel.refl | ((with_reducible apply Sel.cons); (walk_at "pick"); walk_at "sel") | ((with_reducible apply Sel.skip); walk_at "sel"))
set_option hygiene false in
local macro_rules | `(tactic| walk_at "lay2") => `(tactic| first | exact hC.lay | ((try simp only [List.nil_append, List.cons_append]); (refine Sel.lay ?_ hC.lay); walk_at "sel"))
set_option hygiene false in
local macro_rules | `(tactic| walk_at "trp") => `(tactic| first | exact TRep.non | exact TRep.mono hC.sb (by assumption) | exact TRep.som (by walk_at "sqt") (by walk_at "sqt") | exact TRep.som (hC.sb.sqt (by assumption)) (hC.sb.sqt (by assumption)))
set_option hygiene false in
local macro_rules | `(tactic| walk_at "exc") => `(tactic| with_reducible exact T.ec_ViewFault)
set_option hygiene false in
local macro_rules | `(tactic| walk_at "stc") => `(tactic| first
  | ((with_reducible refine' c_apart ?sm ?se ?_); (case sm => walk_at "sqt"); (case se => walk_at "sqt"))
  | ((with_reducible refine' c_law_apart ?sm ?se ?_); (case sm => walk_at "sqt"); (case se => walk_at "sqt"))
  | ((with_reducible refine' c_need_non ?sm ?sl ?_); (case sm => walk_at "get"); (case sl => walk_at "lk"))
  | ((with_reducible refine' c_need_ref ?sm ?sl ?_); (case sm => walk_at "get"); (case sl => walk_at "lk"))
  | ((with_reducible refine' c_eod hC ?s1 ?s2 ?s3 ?s4 ?_); (case s1 => walk_at "mem"); (case s2 => walk_at "mem"); (case s3 => walk_at "sqt"); (case s4 => walk_at "sqt"); clear hC; intro ep H hC)
  | ((with_reducible refine' c_dice hC ?_); clear hC; intro dd di dj dl H hC)
  | ((with_reducible refine' c_roll hC ?sp ?s0 ?s1 ?_); (case sp => walk_at "pick"); (case s0 => omega); (case s1 => omega); clear hC; intro rr di dj dl H hr0 hr1 hC)
  | ((with_reducible refine' c_ginit hC ?sp ?_); (case sp => walk_at "pick"); clear hC; intro H hO hR hC; (replace hC := hC.add (i := imH K a _ _ hO) hR); walk_at "dsl"; refine ⟨rfl, ?_⟩)
  | ((with_reducible refine' c_tinit hC ?sp ?_); (case sp => walk_at "pick"); clear hC; intro H hO hR hC; (replace hC := hC.add (i := imF K _ _ _ hO) hR); walk_at "dsl"; refine ⟨rfl, ?_⟩))
section
variable {K : PySem.W.Frag} {mg : Str → Option Value} {a : Adr} {vs : List V} {H : Hp} {Q : VK} {E : XK}
theorem pure_apart (T : Txt K mg a) (h : sp_apart K a vs H Q E) : t_apart K a E { nx := fun _ H' => Q .non H', rt := Q } (L2.start N_apart vs) H := by
  obtain ⟨_, p, q, x, y, u, v, rfl, h1, h2, k⟩ := h
  have hC : Ctx K H H [] [.tup p [.int x, .int y], .tup q [.int u, .int v]] := ((Ctx.start Lay.nil).add (i := .tup q _) h2).add (i := .tup p _) h1
  unfold t_apart
  walk_at "start"
  walk_at "go"
  exact k
theorem pure_law_apart (T : Txt K mg a) (h : sp_law_apart K a vs H Q E) : t_law_apart K a E { nx := fun _ H' => Q .non H', rt := Q } (L2.start N_law_apart vs) H := by
  obtain ⟨_, p, q, x, y, u, v, rfl, h1, h2, k⟩ := h
  have hC : Ctx K H H [] [.tup p [.int x, .int y], .tup q [.int u, .int v]] := ((Ctx.start Lay.nil).add (i := .tup q _) h2).add (i := .tup p _) h1
  unfold t_law_apart
  walk_at "start"
  walk_at "go"
  exact k
theorem pure_Touching__init (T : Txt K mg a) (h : sp_Touching__init K a vs H Q E) : t_Touching__init K a E { nx := fun _ H' => Q .non H', rt := Q } (L2.start N_Touching__init vs) H := by
  obtain ⟨_, x, dx, l, t, u, F, rfl, h1, k⟩ := h
  have hC := Ctx.start (K := K) h1
  unfold t_Touching__init
  walk_at "start"
  walk_at "go"
  exact k _ _ hC.sb (.som (hC.tup (by walk_at "mem")) (hC.tup (by walk_at "mem"))) hC.lay
theorem pure_Gestures__init (T : Txt K mg a) (h : sp_Gestures__init K a vs H Q E) : t_Gestures__init K a E { nx := fun _ H' => Q .non H', rt := Q } (L2.start N_Gestures__init vs) H := by
  obtain ⟨_, x, dx, F, rfl, h1, k⟩ := h
  have hC := Ctx.start (K := K) h1
  unfold t_Gestures__init
  walk_at "start"
  walk_at "go"
  apply k _ _ hC.sb (.mk .non .non .nil)
  walk_at "lay"
theorem tick_ends {g : GS} {ph : Addr} {O F : List (Addr × HO)} {B : Hp} {I : List Im}
    (k : ∀ H' O', Stb B H' → HRep K H' a ph g O' → Lay H' (O' ++ F) → Q .non H') {L : List (Addr × HO)} (hC : Ctx K B H L I) (hr : HRep K H a ph g O) (hl : Lay H (O ++ F)) : Q .non H := k _ _ hC.sb hr hl
theorem pure_Gestures_tick (T : Txt K mg a) (h : sp_Gestures_tick K a vs H Q E) : t_Gestures_tick K a E { nx := fun _ H' => Q .non H', rt := Q } (L2.start N_Gestures_tick vs) H := by
  obtain ⟨_, ph, g, O, F, rfl, R, h1, hl, k⟩ := h
  cases R with
  | @mk dx pl vs vf vt FO hf ht hd =>
    obtain ⟨fg, tap, told, time⟩ := g
    dsimp only at hf ht hd hl h1
    have hC := Ctx.start (K := K) h1
    have hln := TDs.length hd
    unfold t_Gestures_tick
    walk_at "start"
    cases hf with
    | non =>
      dsimp only [List.nil_append, List.cons_append] at hC
      cases ht with
      | non =>
        walk_at "go"
        apply k _ _ hC.sb (HRep.mk .non .non (TDs.mono hC.sb hd))
        walk_at "lay"
      | @som s x y p p2 q1 q2 =>
        have hC := (hC.add (i := .tup p _) q1).add (i := .tup p2 _) q2
        walk_at "go"
        refine s_iteD (fun c => ?_) (fun c => ?_)
        · walk_at "go"
          have e : tickG ⟨none, some (s, x, y), told, time⟩ = ⟨none, none, told, time + 1⟩ := by simp [tickG, tick1, tick2, c]
          rw [e] at k
          apply k _ _ hC.sb (HRep.mk .non .non (TDs.mono hC.sb hd))
          walk_at "lay"
        · walk_at "go"
          have e : tickG ⟨none, some (s, x, y), told, time⟩ = ⟨none, some (s, x, y), told, time + 1⟩ := by simp [tickG, tick1, tick2, c]
          rw [e] at k
          apply k _ _ hC.sb (HRep.mk .non (.som (hC.sb.sqt q1) (hC.sb.sqt q2)) (TDs.mono hC.sb hd))
          walk_at "lay"
    | @som f pf dxf p1 p2 r1 r2 =>
      obtain ⟨fx, fy, px, py, bg, mv, lg⟩ := f
      dsimp only [List.nil_append, List.cons_append] at hC r1 r2
      have hC := (hC.add (i := .tup p1 _) r1).add (i := .tup p2 _) r2
      cases ht with
      | non =>
        cases mv <;> cases lg
        all_goals walk_at "all"
        all_goals (simp [tickG, tick1, tick2, tickLong, *] at k)
        all_goals first
          | (apply k _ _ hC.sb (HRep.mk (.som (hC.sb.sqt r1) (hC.sb.sqt r2)) .non (by walk_at "tds")); walk_at "lay")
      | @som s x y p p2 q1 q2 =>
        have hC := (hC.add (i := .tup p _) q1).add (i := .tup p2 _) q2
        cases mv <;> cases lg
        all_goals walk_at "all"
        all_goals (simp [tickG, tick1, tick2, tickLong, *] at k)
        all_goals first
          | (apply k _ _ hC.sb (HRep.mk (.som (hC.sb.sqt r1) (hC.sb.sqt r2)) .non (by walk_at "tds")); walk_at "lay")
          | (apply k _ _ hC.sb (HRep.mk (.som (hC.sb.sqt r1) (hC.sb.sqt r2)) (.som (hC.sb.sqt q1) (hC.sb.sqt q2)) (by walk_at "tds")); walk_at "lay")
end
section
variable {K : PySem.W.Frag} {mg : Str → Option Value} {a : Adr} {vs : List V} {H : Hp} {Q : VK} {E : XK}
theorem pure_Gestures_need (T : Txt K mg a) (h : sp_Gestures_need K a vs H Q E) : t_Gestures_need K a E { nx := fun _ H' => Q .non H', rt := Q } (L2.start N_Gestures_need vs) H := by
  obtain ⟨_, ph, dx, vf, fs, rfl, hp, hl, k1, k2, k3⟩ := h
  have st : ∀ (q : VK), q vf H → kFld K "finger" q (.ref ph) H := fun q hq => s_fldV hp T.cl_Gestures T.na_Gestures_finger hl hq
  unfold t_Gestures_need
  walk_at "start"
  walk_at "go"
  refine st _ ?_
  rcases k3 with e | ⟨p, e⟩
  · subst e
    walk_at "go"
    exact k1 rfl
  · subst e
    walk_at "go"
    exact st _ (k2 p rfl)
theorem pure_Gestures_cancel (T : Txt K mg a) (h : sp_Gestures_cancel K a vs H Q E) : t_Gestures_cancel K a E { nx := fun _ H' => Q .non H', rt := Q } (L2.start N_Gestures_cancel vs) H := by
  obtain ⟨_, ph, g, O, F, rfl, R, h1, k⟩ := h
  cases R with
  | @mk dx pl vs vf vt FO hf ht hd =>
    obtain ⟨fg, tap, told, time⟩ := g
    dsimp only at hf ht hd h1 k
    have hC := Ctx.start (K := K) h1
    unfold t_Gestures_cancel
    walk_at "start"
    cases hf with
    | non =>
      walk_at "dsl"
      walk_at "go"
      apply k _ _ hC.sb (HRep.mk .non (ht.mono hC.sb) (TDs.mono hC.sb hd))
      walk_at "lay"
    | som r1 r2 =>
      walk_at "dsl"
      walk_at "go"
      have hC := (hC.pick (.there (.there .here))).drop
      apply k _ _ hC.sb (HRep.mk .non (ht.mono hC.sb) (TDs.mono hC.sb hd))
      walk_at "lay"
theorem pure_Gestures_down (T : Txt K mg a) (h : sp_Gestures_down K a vs H Q E) : t_Gestures_down K a E { nx := fun _ H' => Q .non H', rt := Q } (L2.start N_Gestures_down vs) H := by
  obtain ⟨_, ph, x, y, g, O, F, rfl, R, h1, k1, k2⟩ := h
  cases R with
  | @mk dx pl vs vf vt FO hf ht hd =>
    obtain ⟨fg, tap, told, time⟩ := g
    dsimp only at hf ht hd h1 k1 k2
    have hC := Ctx.start (K := K) h1
    unfold t_Gestures_down
    walk_at "start"
    cases hf with
    | non =>
      walk_at "dsl"
      walk_at "go"
      have R1 : FRep K H a.c_Touching (some ⟨x, y, x, y, time, false, false⟩) (.ref mx) hO := hC.pr (P := fun H => FRep K H a.c_Touching (some ⟨x, y, x, y, time, false, false⟩) (.ref mx) hO) (by walk_at "mem")
      have k1 := k1 rfl
      simp only [downG] at k1
      apply k1 _ _ hC.sb (HRep.mk R1 (ht.mono hC.sb) (TDs.mono hC.sb hd))
      simp only [List.cons_append, List.nil_append]
      exact hC.lay.perm (List.Perm.cons _ (List.Perm.cons _ List.perm_append_comm))
    | @som f pf dxf p1 p2 r1 r2 =>
      walk_at "dsl"
      walk_at "go"
      exact k2 _ rfl
theorem pure_Gestures_end_of_drag (T : Txt K mg a) (h : sp_Gestures_end_of_drag K a vs H Q E) : t_Gestures_end_of_drag K a E { nx := fun _ H' => Q .non H', rt := Q } (L2.start N_Gestures_end_of_drag vs) H := by
  obtain ⟨_, ph, pf, dx, dxf, p1, p2, f, t, vf, vt, vl, L, rfl, h1, m1, m2, r1, r2, k⟩ := h
  have hC := ((Ctx.start (K := K) h1).add (i := .tup p1 _) r1).add (i := .tup p2 _) r2
  obtain ⟨fx, fy, px, py, bg, mv, lg⟩ := f
  dsimp only at m1 m2 hC
  unfold t_Gestures_end_of_drag
  walk_at "start"
  cases lg
  all_goals walk_at "all"
  all_goals (simp only [endG, absI, *, if_true, if_false, Bool.false_eq_true, or_true, true_or, false_or, or_false, reduceIte] at k)
  all_goals (refine k _ _ hC.sb hC.lay ?_)
  all_goals (walk_at "td")
theorem pure_law_roll (T : Txt K mg a) (h : sp_law_roll K a vs H Q E) : t_law_roll K a E { nx := fun _ H' => Q .non H', rt := Q } (L2.start N_law_roll vs) H := by
  obtain ⟨_, d, m, i, j, l, F, rfl, h1, m0, m1, k⟩ := h
  have hC := Ctx.start (K := K) h1
  unfold t_law_roll
  walk_at "start"
  walk_at "all"
  all_goals first
    | exact k _ _ _ _ _ (Int.emod_nonneg _ (by omega)) (Int.emod_lt_of_pos _ m0) hC.sb hC.lay
end
section
variable {K : PySem.W.Frag} {mg : Str → Option Value} {a : Adr} {vs : List V} {H : Hp} {Q : VK} {E : XK}
theorem pure_Gestures_move (T : Txt K mg a) (h : sp_Gestures_move K a vs H Q E) : t_Gestures_move K a E { nx := fun _ H' => Q .non H', rt := Q } (L2.start N_Gestures_move vs) H := by
  obtain ⟨_, ph, x, y, g, O, F, rfl, R, h1, hz, k1, k2⟩ := h
  cases R with
  | @mk dx pl vs vf vt FO hf ht hd =>
    obtain ⟨fg, tap, told, time⟩ := g
    dsimp only at hf ht hd h1 k1 k2 hz
    have hC := Ctx.start (K := K) h1
    have hln := TDs.length hd
    unfold t_Gestures_move
    walk_at "start"
    cases hf with
    | non =>
      walk_at "dsl"
      walk_at "go"
      exact k1 rfl
    | @som f pf dxf p1 p2 r1 r2 =>
      obtain ⟨fx, fy, px, py, bg, mv, lg⟩ := f
      dsimp only at r1 r2
      have hC := (hC.add (i := .tup p1 _) r1).add (i := .tup p2 _) r2
      walk_at "dsl"
      cases mv
      all_goals walk_at "all"
      all_goals (have k2 := k2 _ rfl; simp only [moveG, *, if_true, if_false, Bool.false_eq_true, or_true, true_or, false_or, or_false, reduceIte] at k2)
      all_goals (apply k2 _ _ hC.sb (HRep.mk (.som (by walk_at "sqt") (by walk_at "sqt")) (ht.mono hC.sb) (by walk_at "tds")))
      all_goals walk_at "lay"
theorem pure_Gestures_lift (T : Txt K mg a) (h : sp_Gestures_lift K a vs H Q E) : t_Gestures_lift K a E { nx := fun _ H' => Q .non H', rt := Q } (L2.start N_Gestures_lift vs) H := by
  obtain ⟨_, ph, g, O, F, rfl, R, h1, hz, k1, k2⟩ := h
  cases R with
  | @mk dx pl vs vf vt FO hf ht hd =>
    obtain ⟨fg, tap, told, time⟩ := g
    dsimp only at hf ht hd h1 k1 k2 hz
    have hC := Ctx.start (K := K) h1
    have hln := TDs.length hd
    unfold t_Gestures_lift
    walk_at "start"
    cases hf with
    | non =>
      walk_at "dsl"
      walk_at "go"
      exact k1 rfl
    | @som f pf dxf p1 p2 r1 r2 =>
      obtain ⟨fx, fy, px, py, bg, mv, lg⟩ := f
      dsimp only at r1 r2
      have hC := (hC.add (i := .tup p1 _) r1).add (i := .tup p2 _) r2
      walk_at "dsl"
      have k2 := k2 _ rfl
      simp only [liftG] at k2
      cases ht with
      | non =>
        cases mv <;> cases lg
        all_goals walk_at "all"
        all_goals (simp only [endTap, endRows, nearTap, *, if_true, if_false, Bool.false_eq_true, or_true, true_or, false_or, or_false, reduceIte, List.append_nil] at k2)
        all_goals (have hC := (hC.pick (.there (.there .here))).drop)
        all_goals first
          | (apply k2 _ _ hC.sb (HRep.mk .non .non (by walk_at "tds")); walk_at "lay"; done)
          | (apply k2 _ _ hC.sb (HRep.mk .non (.som (by walk_at "sqt") (by walk_at "sqt")) (by walk_at "tds")); walk_at "lay"; done)
      | @som s x y p p2 q1 q2 =>
        have hC := (hC.add (i := .tup p _) q1).add (i := .tup p2 _) q2
        cases mv <;> cases lg
        all_goals walk_at "all"
        all_goals (simp only [endTap, endRows, nearTap, *, if_true, if_false, Bool.false_eq_true, or_true, true_or, false_or, or_false, reduceIte, List.append_nil] at k2)
        all_goals (have hC := (hC.pick (.there (.there .here))).drop)
        all_goals first
          | (apply k2 _ _ hC.sb (HRep.mk .non .non (by walk_at "tds")); walk_at "lay"; done)
          | (apply k2 _ _ hC.sb (HRep.mk .non (.som (hC.sb.sqt q1) (hC.sb.sqt q2)) (by walk_at "tds")); walk_at "lay"; done)
          | (apply k2 _ _ hC.sb (HRep.mk .non (.som (by walk_at "sqt") (by walk_at "sqt")) (by walk_at "tds")); walk_at "lay"; done)
end
section
variable {K : PySem.W.Frag} {mg : Str → Option Value} {a : Adr} {vs : List V} {H : Hp} {Q : VK} {E : XK}
theorem pure_law_dice (T : Txt K mg a) (h : sp_law_dice K a vs H Q E) : t_law_dice K a E { nx := fun _ H' => Q .non H', rt := Q } (L2.start N_law_dice vs) H := by
  obtain ⟨_, c0, L, rfl, h1, k⟩ := h
  have hC := Ctx.start (K := K) h1
  unfold t_law_dice
  walk_at "start"
  walk_at "all"
  all_goals first
    | exact k _ _ _ _ _ hC.sb hC.lay
    | trace_state
theorem pure_law_ended (T : Txt K mg a) (h : sp_law_ended K a vs H Q E) : t_law_ended K a E { nx := fun _ H' => Q .non H', rt := Q } (L2.start N_law_ended vs) H := by
  obtain ⟨_, po, pf, p1, p2, f, t, g, vt, L, rfl, h1, m1, m2, r1, r2, ht, k⟩ := h
  have hC := ((Ctx.start (K := K) h1).add (i := .tup p1 _) r1).add (i := .tup p2 _) r2
  obtain ⟨fg, tap, told, time⟩ := g
  obtain ⟨fx, fy, px, py, bg, mv, lg⟩ := f
  dsimp only at m1 m2 hC ht
  unfold t_law_ended
  walk_at "start"
  cases ht with
  | non =>
    cases mv <;> cases lg
    all_goals walk_at "all"
    all_goals (simp only [endRows, endTap, endG, absI, nearTap, *, if_true, if_false, Bool.false_eq_true, or_true, true_or, false_or, or_false, reduceIte] at k)
    all_goals (refine k _ _ _ _ _ hC.sb hC.lay (by walk_at "sqt") ?_ ?_)
    all_goals first | walk_at "tds" | walk_at "trp"
  | @som s x y p p2 q1 q2 =>
    have hC := (hC.add (i := .tup p _) q1).add (i := .tup p2 _) q2
    cases mv <;> cases lg
    all_goals walk_at "all"
    all_goals (simp only [endRows, endTap, endG, absI, nearTap, *, if_true, if_false, Bool.false_eq_true, or_true, true_or, false_or, or_false, reduceIte] at k)
    all_goals (refine k _ _ _ _ _ hC.sb hC.lay (by walk_at "sqt") ?_ ?_)
    all_goals first | walk_at "tds" | walk_at "trp"
end
section
variable {K : PySem.W.Frag} {mg : Str → Option Value} {a : Adr} {vs : List V} {H : Hp} {Q : VK} {E : XK}
theorem DL.snoc {ds : List (Addr × Int × Int × Int)} {p : Addr} {i j l : Int} {x : Addr × HO} {L F : List (Addr × HO)} : ((p, HO.lst [.int i, .int j, .int l]) :: (x :: (F ++ (DL ds ++ L)))).Perm (x :: (F ++ (DL (ds ++ [(p, i, j, l)]) ++ L))) := by
  refine (List.Perm.swap _ _ _).trans (List.Perm.cons _ ?_)
  unfold DL
  rw [List.map_append, List.append_assoc]
  refine List.Perm.trans (List.perm_middle (l₁ := F)).symm ?_
  exact List.Perm.append_left F List.perm_middle.symm
theorem ints_cut {ns : List Int} {m : Int} (h0 : 0 ≤ m) (h1 : m ≤ 1000) : ∃ ms : List Int, cutV (ns.map V.int) none (some m) = ms.map V.int ∧ ms.length ≤ 1000 := by
  unfold cutV
  rw [← List.map_drop, ← List.map_take]
  refine ⟨_, rfl, ?_⟩
  rw [List.length_take]
  refine Nat.le_trans (Nat.min_le_left _ _) ?_
  obtain ⟨k, rfl⟩ := Int.eq_ofNat_of_zero_le h0
  show HT.sIx _ _ (some (k : Int)) - _ ≤ 1000
  rw [HT.sIx_nat]
  omega
theorem ints_dats (K : PySem.W.Frag) (H : Hp) : ∀ ns : List Int, TDs K H (ns.map V.int) (ns.map PyData.int)
  | [] => .nil
  | n :: r => .cons (.int n) (ints_dats K H r)
theorem ints_sh {n : Nat} : ∀ ns : List Int, ShL n (ns.map PyData.int)
  | [] => ShL.nil
  | i :: r => ShL.cons (Sh.int i) (ints_sh r)
theorem rounds_rest {B : Hp} {a : Adr} {v0 v1 : Option V} {q : Addr} {ms : List Int} {L F : List (Addr × HO)} (hC : Ctx K B H ((q, .lst (ms.map V.int)) :: (F ++ L)) []) (hm : ms.length ≤ 1000)
    (k : ∀ p (ds : List (Addr × Int × Int × Int)) H', Stb B H' → Lay H' ((p, .lst (ds.map fun d => V.ref d.1)) :: (DL ds ++ L)) → Q (.ref p) H') :
    kLc (gName 3) tYes (tCall (sp_law_dice K a) [] E0 (tCons (tVar 3) tNil)) [3] [v0, v1, some (.ref q), none] Q (Itl K q) H := by
  refine lc_lst (xs := ms.map V.int) hC (fun D i H1 => ∃ ds : List (Addr × Int × Int × Int), ds.length = i ∧ Ctx K B H1 ((D, .lst (ds.map fun d => V.ref d.1)) :: ((q, .lst (ms.map V.int)) :: (F ++ (DL ds ++ L)))) [])
    (fun D H1 hC => ⟨[], rfl, hC⟩) (fun i D H1 hi ⟨ds, e, hC⟩ => hC.get (by walk_at "mem")) ?_ ?_
  · rintro i x D H hx ⟨ds, e, hC⟩
    have hlt := (List.getElem?_eq_some_iff.mp hx).1
    rw [List.length_map] at hlt
    rw [List.getElem?_map] at hx
    obtain ⟨n, hn, rfl⟩ := Option.map_eq_some_iff.mp hx
    simp only [wipe, List.set_cons_zero, List.set_cons_succ]
    walk_at "go"
    refine ⟨rfl, ?_⟩
    walk_at "go"
    refine s_app hC (acc := ds.map fun d => V.ref d.1) (hC.get (by walk_at "mem")) (by rw [List.length_map]; omega) (.there .here) (fun H2 hC => ?_)
    refine ⟨ds ++ [(dd, di, dj, dl)], by rw [List.length_append, e]; rfl, ?_⟩
    rw [List.map_append]
    refine hC.perm ?_
    refine (List.Perm.swap _ _ _).trans (List.Perm.cons _ ?_)
    exact DL.snoc
  · rintro D H ⟨ds, e, hC⟩
    refine k D ds H hC.sb ?_
    have y := hC.lay.perm (List.Perm.swap _ _ _)
    have y := y.tail
    have z : ((D, HO.lst (ds.map fun d => V.ref d.1)) :: (F ++ (DL ds ++ L))).Perm (F ++ ((D, HO.lst (ds.map fun d => V.ref d.1)) :: (DL ds ++ L))) := List.perm_middle.symm
    have y := y.perm z
    exact ⟨(List.nodup_append.mp (by rw [← List.map_append]; exact y.nd)).2.1, fun p hp => y.at_ p (List.mem_append_right _ hp)⟩
theorem pure_law_rounds (T : Txt K mg a) (h : sp_law_rounds K a vs H Q E) : t_law_rounds K a E { nx := fun _ H' => Q .non H', rt := Q } (L2.start N_law_rounds vs) H := by
  obtain ⟨_, s, m, ns, L, rfl, hs, h1, m0, m1, k⟩ := h
  have hC := Ctx.start (K := K) h1
  unfold t_law_rounds
  walk_at "start"
  walk_at "go"
  obtain ⟨ms, e, hm⟩ := ints_cut (ns := ns) m0 m1
  rw [e] at hC
  refine s_eqD (Dp.lst (SqL.of (hC.get (by walk_at "mem"))) (ints_dats K _ ms).dp) (Dp.lst (SqL.of (hC.get (by walk_at "mem"))) .nil) ((ints_sh (n := 0) ms).list.shaped (by decide)) ((ShL.nil (n := 0)).list.shaped (by decide)) ?_
  walk_at "go"
  refine s_iteB (fun c => ?_) (fun c => ?_)
  · walk_at "go"
    exact rounds_rest (ms := [0]) (F := [_, _]) hC (by decide) k
  · walk_at "go"
    exact rounds_rest (ms := ms) (F := [_]) (hC.perm (List.Perm.swap _ _ _)) hm k
end
section
variable {K : PySem.W.Frag} {mg : Str → Option Value} {a : Adr} {vs : List V} {H : Hp} {Q : VK} {E : XK}
def t_tail (K : PySem.W.Frag) : TS := tIfS (tOr (tTest (tOp (rNeU K) (tFld K (tVar 2) "told") (tVar 4))) (tOr (tTest (tOp (rNeU K) (tOp rIsN (tFld K (tVar 2) "finger") (tC .non)) (tOp rIsN (tOp (rIxU K) (tVar 3) (tC (.str "finger"))) (tC .non)))) (tTest (tOp (rNeU K) (tFld K (tVar 2) "time") (tOp (rIxU K) (tVar 3) (tC (.str "time"))))))) (tRet (tC (.bl false))) tNext
theorem tail_ok (T : Txt K mg a) {σ : L2.St} {D : Ends} {ph po pl : Addr} {vf : V} {g : GS} {Oh Oo L : List (Addr × HO)} (R : HRep K H a ph g Oh) (R2 : ORep K H po pl vf g Oo) (hL : Lay H (Oh ++ (Oo ++ L))) (hz : g.told.length ≤ 5000) (hs : ShL 3 g.told)
    (e2 : σ[2]? = some (some (.ref ph))) (e3 : σ[3]? = some (some (.ref po))) (e4 : σ[4]? = some (some (.ref pl))) (k : D.nx σ H) : t_tail K D σ H := by
  cases D with
  | mk A Bt Cb Dc =>
  unfold t_tail
  obtain ⟨fg, tap, told, time⟩ := g
  have hC := Ctx.start (K := K) hL
  cases R with
  | @mk dx plh vsh vfh vth FOh hf ht hd =>
    cases R2 with
    | @mk vs vt FO hf2 ht2 hd2 =>
      dsimp only at hf ht hd hf2 ht2 hd2 hz hs
      have shp : SeqAt.shaped (.list told) = true := hs.list.shaped (by decide)
      have ev : PyData.eqv (.list told) (.list told) = true := eqv_self hs.list
      cases hf with
      | non =>
        cases hf2 with
        | non =>
          walk_at "dsl"
          walk_at "go"
          refine s_neD (Dp.lst (SqL.of (hC.get (by walk_at "mem"))) hd.dp) (Dp.lst (SqL.of (hC.get (by walk_at "mem"))) hd2.dp) shp shp ?_
          rw [ev]
          walk_at "go"
          exact k
      | @som f pf dxf p1 p2 r1 r2 =>
        cases hf2 with
        | @som _ pf' p1' p2' r1' r2' =>
          walk_at "dsl"
          walk_at "go"
          refine s_neD (Dp.lst (SqL.of (hC.get (by walk_at "mem"))) hd.dp) (Dp.lst (SqL.of (hC.get (by walk_at "mem"))) hd2.dp) shp shp ?_
          rw [ev]
          walk_at "go"
          exact k
theorem sh_pt (n : Nat) (x y : Int) : Sh (n + 1) (pt x y) := ShL.tuple (ShL.cons (Sh.int _) (ShL.cons (Sh.int _) ShL.nil))
theorem tick1_sh {g : GS} (h : ShL 3 g.told) : ShL 3 (tick1 g).told := by
  unfold tick1
  split
  · split
    · exact ShL.append h (ShL.cons (ShL.tuple (ShL.cons (Sh.str (by decide +kernel)) (ShL.cons (sh_pt 1 _ _) ShL.nil))) ShL.nil)
    · exact h
  · exact h
theorem tick1_len {g : GS} : (tick1 g).told.length ≤ g.told.length + 1 := by
  unfold tick1
  split
  · split
    · simp
    · exact Nat.le_succ _
  · exact Nat.le_succ _
theorem tick2_told {g : GS} : (tick2 g).told = g.told := by
  unfold tick2
  split
  · split <;> rfl
  · rfl
theorem tickG_sh {g : GS} (h : ShL 3 g.told) : ShL 3 (tickG g).told := by
  unfold tickG
  rw [tick2_told]
  exact tick1_sh h
theorem tickG_len {g : GS} : (tickG g).told.length ≤ g.told.length + 1 := by
  unfold tickG
  rw [tick2_told]
  exact tick1_len
theorem moveG_sh {g : GS} {x y : Int} {f : Fg} (h : ShL 3 g.told) : ShL 3 (moveG x y f g).told := by
  unfold moveG
  split
  · refine ShL.append h (ShL.cons (ShL.tuple (ShL.cons (Sh.str (by decide +kernel)) (ShL.cons ?_ (ShL.cons (sh_pt 1 _ _) ShL.nil)))) ShL.nil)
    split <;> exact sh_pt 1 _ _
  · exact h
theorem moveG_len {g : GS} {x y : Int} {f : Fg} : (moveG x y f g).told.length ≤ g.told.length + 1 := by
  unfold moveG
  split
  · simp
  · exact Nat.le_succ _
theorem endG_sh {t : Int} {f : Fg} : Sh 3 (endG t f) := by
  unfold endG
  split
  · exact ShL.tuple (ShL.cons (Sh.str (by decide +kernel)) (ShL.cons (sh_pt 1 _ _) ShL.nil))
  · split
    · refine ShL.tuple (ShL.cons (Sh.str (by decide +kernel)) (ShL.cons (Sh.str ?_) ShL.nil))
      split <;> decide +kernel
    · refine ShL.tuple (ShL.cons (Sh.str (by decide +kernel)) (ShL.cons (Sh.str ?_) ShL.nil))
      split <;> decide +kernel
theorem endRows_sh {g : GS} {f : Fg} : ShL 3 (endRows g f) := by
  unfold endRows
  split
  · exact ShL.cons endG_sh ShL.nil
  · split
    · exact ShL.nil
    · split
      · exact ShL.cons (ShL.tuple (ShL.cons (Sh.str (by decide +kernel)) (ShL.cons (sh_pt 1 _ _) ShL.nil))) ShL.nil
      · exact ShL.cons (ShL.tuple (ShL.cons (Sh.str (by decide +kernel)) (ShL.cons (sh_pt 1 _ _) ShL.nil))) ShL.nil
theorem endRows_len {g : GS} {f : Fg} : (endRows g f).length ≤ 1 := by
  unfold endRows
  split
  · exact Nat.le_refl _
  · split
    · exact Nat.zero_le _
    · split <;> exact Nat.le_refl _
def LI (K : PySem.W.Frag) (a : Adr) (d : Addr) (F : List (Addr × HO)) (n : Nat) (ph po pl : Addr) (vf : V) (H : Hp) : Prop := ∃ (g : GS) (Oh Oo : List (Addr × HO)) (i j l : Int), HRep K H a ph g Oh ∧ ORep K H po pl vf g Oo ∧
  Lay H ((d, .lst [.int i, .int j, .int l]) :: (Oo ++ (F ++ Oh))) ∧ g.told.length ≤ n ∧ ShL 3 g.told ∧ LamX.Tabs [(a.tb_law, lamq "law")] H
theorem LI.mk2 {d ph po pl : Addr} {F Oh FO : List (Addr × HO)} {n : Nat} {vf vt : V} {vs : List V} {g : GS} {i j l : Int} (R : HRep K H a ph g Oh) (hf : FOwn K H g.finger vf FO)
    (y : Lay H ((d, .lst [.int i, .int j, .int l]) :: (po, .dK [(Sum.inr "time", .int g.time), (Sum.inr "finger", vf), (Sum.inr "tap", vt)]) :: (pl, .lst vs) :: (FO ++ (F ++ Oh)))) (ht : TRep K H g.tap vt) (hd : TDs K H vs g.told)
    (hz : g.told.length ≤ n) (hs : ShL 3 g.told) (hT : LamX.Tabs [(a.tb_law, lamq "law")] H) : LI K a d F n ph po pl vf H := ⟨g, Oh, _, i, j, l, R, ORep.mk hf ht hd, y, hz, hs, hT⟩
theorem for0_ok (T : Txt K mg a) {A Cb Dc : L2.St → Hp → Prop} {Bt : VK} {d ph po pl : Addr} {F : List (Addr × HO)} {n : Nat} {vf : V} {v0 v5 v6 v7 v8 v10 v11 v12 v13 v14 : Option V} (hn : n ≤ 4000)
    (h : LI K a d F n ph po pl vf H) (k : ∀ H', LI K a d F (n + 1) ph po pl vf H' → A [v0, some (.ref d), some (.ref ph), some (.ref po), some (.ref pl), v5, v6, v7, v8, some vf, v10, v11, v12, v13, v14] H') :
    t_law_for0 K a E ⟨A, Bt, Cb, Dc⟩ [v0, some (.ref d), some (.ref ph), some (.ref po), some (.ref pl), v5, v6, v7, v8, some vf, v10, v11, v12, v13, v14] H := by
  obtain ⟨g, Oh, Oo, i, j, l, R, R2, y, hz, hs, hT⟩ := h
  obtain ⟨g1, e1⟩ : ∃ g1, tickG g = g1 := ⟨_, rfl⟩
  have z1 := tickG_len (g := g)
  have z2 := tickG_sh hs
  rw [e1] at z1 z2
  unfold t_law_for0
  cases R2 with
  | @mk vs vt FO hf ht hd =>
    obtain ⟨fg, tap, told, time⟩ := g
    dsimp only at hf ht hd y hz hs z1 z2
    have hC := (Ctx.start (K := K) y).add (i := .dats vs told) hd
    have hln := TDs.length hd
    cases hf with
    | non =>
      cases ht with
      | non =>
        walk_at "dsl"
        walk_at "go"
        refine c_meth hC R (by walk_at "pull") (by intros; walk_at "nolk") ?_
        walk_at "go"
        refine c_tick hC R (by walk_at "pull") (by dsimp only; omega) (fun H O1 R1 hC => ?_)
        rw [e1] at R1
        have hT := tabs_mono hC.sb hT
        have hC := hC.rebase
        walk_at "dsl"
        walk_at "all"
        all_goals (simp only [tickG, tick1, tick2, tickLong, *, if_true, if_false, Bool.false_eq_true, or_true, true_or, false_or, or_false, and_true, true_and, and_false, false_and, not_true_eq_false, not_false_eq_true, reduceCtorEq, reduceIte] at e1)
        all_goals subst e1
        all_goals apply k
        all_goals ((refine' LI.mk2 (R1.mono hC.sb) ?hf ?hy ?ht ?hd ?hz z2 (tabs_mono hC.sb hT)); (case hf => walk_at "fow"); (case hy => walk_at "lay2"); (case ht => walk_at "trp"); (case hd => walk_at "tds"); (case hz => (dsimp only at z1 ⊢; omega)))
      | @som s x y p p2 q1 q2 =>
        have hC := (hC.add (i := .tup p _) q1).add (i := .tup p2 _) q2
        walk_at "dsl"
        walk_at "go"
        refine c_meth hC R (by walk_at "pull") (by intros; walk_at "nolk") ?_
        walk_at "go"
        refine c_tick hC R (by walk_at "pull") (by dsimp only; omega) (fun H O1 R1 hC => ?_)
        rw [e1] at R1
        have hT := tabs_mono hC.sb hT
        have hC := hC.rebase
        walk_at "dsl"
        walk_at "all"
        all_goals (simp only [tickG, tick1, tick2, tickLong, *, if_true, if_false, Bool.false_eq_true, or_true, true_or, false_or, or_false, and_true, true_and, and_false, false_and, not_true_eq_false, not_false_eq_true, reduceCtorEq, reduceIte] at e1)
        all_goals subst e1
        all_goals apply k
        all_goals ((refine' LI.mk2 (R1.mono hC.sb) ?hf ?hy ?ht ?hd ?hz z2 (tabs_mono hC.sb hT)); (case hf => walk_at "fow"); (case hy => walk_at "lay2"); (case ht => walk_at "trp"); (case hd => walk_at "tds"); (case hz => (dsimp only at z1 ⊢; omega)))
    | @som f pf p1 p2 r1 r2 =>
      obtain ⟨fx, fy, px, py, bg, mv, lg⟩ := f
      dsimp only at r1 r2
      have hC := (hC.add (i := .tup p1 _) r1).add (i := .tup p2 _) r2
      cases ht with
      | non =>
        walk_at "dsl"
        walk_at "go"
        refine c_meth hC R (by walk_at "pull") (by intros; walk_at "nolk") ?_
        walk_at "go"
        refine c_tick hC R (by walk_at "pull") (by dsimp only; omega) (fun H O1 R1 hC => ?_)
        rw [e1] at R1
        have hT := tabs_mono hC.sb hT
        have hC := hC.rebase
        walk_at "dsl"
        cases mv <;> cases lg
        all_goals walk_at "all"
        all_goals (simp only [tickG, tick1, tick2, tickLong, *, if_true, if_false, Bool.false_eq_true, or_true, true_or, false_or, or_false, and_true, true_and, and_false, false_and, not_true_eq_false, not_false_eq_true, reduceCtorEq, reduceIte] at e1)
        all_goals subst e1
        all_goals apply k
        all_goals ((refine' LI.mk2 (R1.mono hC.sb) ?hf ?hy ?ht ?hd ?hz z2 (tabs_mono hC.sb hT)); (case hf => walk_at "fow"); (case hy => walk_at "lay2"); (case ht => walk_at "trp"); (case hd => walk_at "tds"); (case hz => (dsimp only at z1 ⊢; omega)))
      | @som s x y p p2 q1 q2 =>
        have hC := (hC.add (i := .tup p _) q1).add (i := .tup p2 _) q2
        walk_at "dsl"
        walk_at "go"
        refine c_meth hC R (by walk_at "pull") (by intros; walk_at "nolk") ?_
        walk_at "go"
        refine c_tick hC R (by walk_at "pull") (by dsimp only; omega) (fun H O1 R1 hC => ?_)
        rw [e1] at R1
        have hT := tabs_mono hC.sb hT
        have hC := hC.rebase
        walk_at "dsl"
        cases mv <;> cases lg
        all_goals walk_at "all"
        all_goals (simp only [tickG, tick1, tick2, tickLong, *, if_true, if_false, Bool.false_eq_true, or_true, true_or, false_or, or_false, and_true, true_and, and_false, false_and, not_true_eq_false, not_false_eq_true, reduceCtorEq, reduceIte] at e1)
        all_goals subst e1
        all_goals apply k
        all_goals ((refine' LI.mk2 (R1.mono hC.sb) ?hf ?hy ?ht ?hd ?hz z2 (tabs_mono hC.sb hT)); (case hf => walk_at "fow"); (case hy => walk_at "lay2"); (case ht => walk_at "trp"); (case hd => walk_at "tds"); (case hz => (dsimp only at z1 ⊢; omega)))
end
section
variable {K : PySem.W.Frag} {mg : Str → Option Value} {a : Adr} {vs : List V} {H : Hp} {Q : VK} {E : XK}
def t_ticks (K : PySem.W.Frag) (a : Adr) (E : XK) : TS :=
  (tFor (iRng1 (tCons (tOp (rAddU K) (tC (.int 1)) (tOp rMulU (tCall (sp_law_roll K a) [] E (tCons (tVar 1) (tCons (tC (.int 4)) tNil))) (tCB (rInt1) (tCons (tOp (rEqU K) (tVar 6) (tC (.int 4))) tNil)))) tNil)) (gName 10) (t_law_for0 K a E))
def t_down (K : PySem.W.Frag) (a : Adr) (E : XK) : TS :=
  (tSeq (tIfS (tTest (tOp (rNeU K) (tOp (rEqU K) (tLam [(a.tb_law, lamq "law")] (TTold K a.c_ViewFault "ViewFault") (fun E => (tMeth a.c_Gestures "down" (sp_Gestures_down K a) [] E (tVar 2) (tCons (tVar 7) (tCons (tVar 8) tNil))))) (tC (.str "ViewFault"))) (tOp rNotN (tVar 9) (tC .non)))) (tRet (tC (.bl false))) tNext) (tAsg (tIf (tTest (tOp rNotN (tVar 9) (tC .non))) (tVar 9) (tDisp (((tC (.str "first")), (tTup (tCons (tVar 7) (tCons (tVar 8) tNil)))) :: (((tC (.str "place")), (tTup (tCons (tVar 7) (tCons (tVar 8) tNil)))) :: (((tC (.str "begun")), (tOp (rIxU K) (tVar 3) (tC (.str "time")))) :: (((tC (.str "moved")), (tC (.bl false))) :: (((tC (.str "long")), (tC (.bl false))) :: []))))))) (gSub (tVar 3) (tC (.str "finger")) rSetU)))
def t_move (K : PySem.W.Frag) (a : Adr) (E : XK) : TS :=
  (tSeq (tIfS (tTest (tOp (rNeU K) (tOp (rEqU K) (tLam [(a.tb_law, lamq "law")] (TTold K a.c_ViewFault "ViewFault") (fun E => (tMeth a.c_Gestures "move" (sp_Gestures_move K a) [] E (tVar 2) (tCons (tVar 7) (tCons (tVar 8) tNil))))) (tC (.str "ViewFault"))) (tOp rIsN (tVar 9) (tC .non)))) (tRet (tC (.bl false))) tNext) (tIfS (tTest (tOp rNotN (tVar 9) (tC .non))) (tSeq (tAsg (tTup (tCons (tOp (rIxU K) (tVar 9) (tC (.str "place"))) (tCons (tTup (tCons (tVar 7) (tCons (tVar 8) tNil))) tNil))) (gTup K 2 (gCons (gName 11) (gCons (gSub (tVar 9) (tC (.str "place")) rSetU) gNil)))) (tIfS (tOr (tTruth K (tOp (rIxU K) (tVar 9) (tC (.str "moved")))) (tTest (tOp rGt (tCall (sp_law_apart K a) [] E (tCons (tOp (rIxU K) (tVar 9) (tC (.str "first"))) (tCons (tTup (tCons (tVar 7) (tCons (tVar 8) tNil))) tNil))) (tC (.int 3))))) (tSeq (tDrop (tBM K "list" rAppend (tVar 4) (tCons (tTup (tCons (tC (.str "drag")) (tCons (tIf (tTruth K (tOp (rIxU K) (tVar 9) (tC (.str "moved")))) (tVar 11) (tOp (rIxU K) (tVar 9) (tC (.str "first")))) (tCons (tTup (tCons (tVar 7) (tCons (tVar 8) tNil))) tNil)))) tNil))) (tAsg (tC (.bl true)) (gSub (tVar 9) (tC (.str "moved")) rSetU))) tNext)) tNext))
def t_lift (K : PySem.W.Frag) (a : Adr) (E : XK) : TS :=
  (tSeq (tIfS (tTest (tOp (rNeU K) (tOp (rEqU K) (tLam [(a.tb_law, lamq "law")] (TTold K a.c_ViewFault "ViewFault") (fun E => (tMeth a.c_Gestures "lift" (sp_Gestures_lift K a) [] E (tVar 2) tNil))) (tC (.str "ViewFault"))) (tOp rIsN (tVar 9) (tC .non)))) (tRet (tC (.bl false))) tNext) (tIfS (tTest (tOp rNotN (tVar 9) (tC .non))) (tSeq (tAsg (tCall (sp_law_ended K a) [] E (tCons (tVar 3) tNil)) (gTup K 2 (gCons (gName 12) (gCons (gName 13) gNil)))) (tAsg (tTup (tCons (tOp (rAddU K) (tVar 4) (tVar 12)) (tCons (tVar 13) (tCons (tC .non) tNil)))) (gTup K 3 (gCons (gName 4) (gCons (gSub (tVar 3) (tC (.str "tap")) rSetU) (gCons (gSub (tVar 3) (tC (.str "finger")) rSetU) gNil)))))) tNext))
def t_cancel (K : PySem.W.Frag) (a : Adr) (E : XK) : TS :=
  (tSeq (tDrop (tMeth a.c_Gestures "cancel" (sp_Gestures_cancel K a) [] E (tVar 2) tNil)) (tAsg (tC .non) (gSub (tVar 3) (tC (.str "finger")) rSetU)))
theorem LI.mkN {d ph po pl : Addr} {F Oh : List (Addr × HO)} {n : Nat} {vt : V} {vs : List V} {tap : Option (Int × Int × Int)} {told : List PyData} {time i j l : Int} (R : HRep K H a ph ⟨none, tap, told, time⟩ Oh)
    (y : Lay H ((d, .lst [.int i, .int j, .int l]) :: (po, .dK [(Sum.inr "time", .int time), (Sum.inr "finger", .non), (Sum.inr "tap", vt)]) :: (pl, .lst vs) :: (F ++ Oh))) (ht : TRep K H tap vt) (hd : TDs K H vs told)
    (hz : told.length ≤ n) (hs : ShL 3 told) (hT : LamX.Tabs [(a.tb_law, lamq "law")] H) : LI K a d F n ph po pl .non H := LI.mk2 (g := ⟨none, tap, told, time⟩) (FO := []) R .non y ht hd hz hs hT
theorem LI.mkS {d ph po pl pf p1 p2 : Addr} {F Oh : List (Addr × HO)} {n : Nat} {vt : V} {vs : List V} {tap : Option (Int × Int × Int)} {told : List PyData} {time i j l fx fy px py bg : Int} {mv lg : Bool} (R : HRep K H a ph ⟨some ⟨fx, fy, px, py, bg, mv, lg⟩, tap, told, time⟩ Oh)
    (y : Lay H ((d, .lst [.int i, .int j, .int l]) :: (po, .dK [(Sum.inr "time", .int time), (Sum.inr "finger", .ref pf), (Sum.inr "tap", vt)]) :: (pl, .lst vs) ::
      (pf, .dK [(Sum.inr "first", .ref p1), (Sum.inr "place", .ref p2), (Sum.inr "begun", .int bg), (Sum.inr "moved", .bl mv), (Sum.inr "long", .bl lg)]) :: (F ++ Oh)))
    (q1 : SqT K H p1 [.int fx, .int fy]) (q2 : SqT K H p2 [.int px, .int py]) (ht : TRep K H tap vt) (hd : TDs K H vs told)
    (hz : told.length ≤ n) (hs : ShL 3 told) (hT : LamX.Tabs [(a.tb_law, lamq "law")] H) : LI K a d F n ph po pl (.ref pf) H :=
  LI.mk2 (g := ⟨some ⟨fx, fy, px, py, bg, mv, lg⟩, tap, told, time⟩) (FO := [_]) R (.som q1 q2) y ht hd hz hs hT
section
variable {A Cb Dc : L2.St → Hp → Prop} {Bt : VK} {d ph po pl : Addr} {F : List (Addr × HO)} {n : Nat} {vf : V} {v0 v5 v6 v7 v8 v9 v10 v11 v12 v13 v14 : Option V} {x y : Int}
end
end
section
variable {K : PySem.W.Frag} {mg : Str → Option Value} {a : Adr} {vs : List V} {H : Hp} {Q : VK} {E : XK}
section
variable {A Cb Dc : L2.St → Hp → Prop} {Bt : VK} {d ph po pl : Addr} {F : List (Addr × HO)} {n : Nat} {vf : V} {v0 v5 v6 v7 v8 v9 v10 v11 v12 v13 v14 : Option V} {x y : Int}
theorem cancel_ok (T : Txt K mg a) (h : LI K a d F n ph po pl vf H) (k : ∀ vf' H', LI K a d F n ph po pl vf' H' → A [v0, some (.ref d), some (.ref ph), some (.ref po), some (.ref pl), v5, v6, v7, v8, v9, v10, v11, v12, v13, v14] H') : t_cancel K a E ⟨A, Bt, Cb, Dc⟩ [v0, some (.ref d), some (.ref ph), some (.ref po), some (.ref pl), v5, v6, v7, v8, v9, v10, v11, v12, v13, v14] H := by
  obtain ⟨g, Oh, Oo, i, j, l, R, R2, yl, hz, hs, hT⟩ := h
  unfold t_cancel
  cases R2 with
  | @mk vs vt FO hf ht hd =>
    obtain ⟨fg, tap, told, time⟩ := g
    dsimp only at hf ht hd yl hz hs
    have hln := TDs.length hd
    have hC := (((Ctx.start (K := K) yl).add (i := .dats vs told) hd).add (i := imT K tap vt) ht).add (i := imH K a ph _ Oh) R
    cases hf with
    | non =>
      walk_at "dsl"
      walk_at "go"
      refine c_meth hC (hrep hC (by walk_at "mem")) (by walk_at "pull") (by intros; walk_at "nolk") ?_
      walk_at "go"
      refine c_cancel hC (hrep hC (by walk_at "mem")) (by walk_at "pull") (fun H O1 R1 hC => ?_)
      have hT := tabs_mono hC.sb hT
      have hC := hC.rebase
      walk_at "dsl"
      walk_at "go"
      apply k
      first | ((refine' LI.mkN (R1.mono hC.sb) ?hy ?ht ?hd ?hz ?hs (tabs_mono hC.sb hT)); (case hy => walk_at "lay2"); (case ht => first | exact trep hC (by walk_at "mem") | walk_at "trp"); (case hd => walk_at "tds"); (case hz => first | assumption | (dsimp only at z1 ⊢; omega)); (case hs => assumption)) | ((refine' LI.mkS (R1.mono hC.sb) ?hy ?q1 ?q2 ?ht ?hd ?hz ?hs (tabs_mono hC.sb hT)); (case hy => walk_at "lay2"); (case q1 => walk_at "sqt"); (case q2 => walk_at "sqt"); (case ht => first | exact trep hC (by walk_at "mem") | walk_at "trp"); (case hd => walk_at "tds"); (case hz => first | assumption | (dsimp only at z1 ⊢; omega)); (case hs => assumption))
    | @som f pf p1 p2 r1 r2 =>
      obtain ⟨fx, fy, px, py, bg, mv, lg⟩ := f
      dsimp only at r1 r2
      have hC := (hC.add (i := .tup p1 _) r1).add (i := .tup p2 _) r2
      walk_at "dsl"
      walk_at "go"
      refine c_meth hC (hrep hC (by walk_at "mem")) (by walk_at "pull") (by intros; walk_at "nolk") ?_
      walk_at "go"
      refine c_cancel hC (hrep hC (by walk_at "mem")) (by walk_at "pull") (fun H O1 R1 hC => ?_)
      have hT := tabs_mono hC.sb hT
      have hC := hC.rebase
      walk_at "dsl"
      walk_at "go"
      apply k
      first | ((refine' LI.mkN (R1.mono hC.sb) ?hy ?ht ?hd ?hz ?hs (tabs_mono hC.sb hT)); (case hy => walk_at "lay2"); (case ht => first | exact trep hC (by walk_at "mem") | walk_at "trp"); (case hd => walk_at "tds"); (case hz => first | assumption | (dsimp only at z1 ⊢; omega)); (case hs => assumption)) | ((refine' LI.mkS (R1.mono hC.sb) ?hy ?q1 ?q2 ?ht ?hd ?hz ?hs (tabs_mono hC.sb hT)); (case hy => walk_at "lay2"); (case q1 => walk_at "sqt"); (case q2 => walk_at "sqt"); (case ht => first | exact trep hC (by walk_at "mem") | walk_at "trp"); (case hd => walk_at "tds"); (case hz => first | assumption | (dsimp only at z1 ⊢; omega)); (case hs => assumption))
theorem down_ok (T : Txt K mg a) (h : LI K a d F n ph po pl vf H) (k : ∀ vf' H', LI K a d F n ph po pl vf' H' → A [v0, some (.ref d), some (.ref ph), some (.ref po), some (.ref pl), v5, v6, some (.int x), some (.int y), some vf, v10, v11, v12, v13, v14] H') : t_down K a E ⟨A, Bt, Cb, Dc⟩ [v0, some (.ref d), some (.ref ph), some (.ref po), some (.ref pl), v5, v6, some (.int x), some (.int y), some vf, v10, v11, v12, v13, v14] H := by
  obtain ⟨g, Oh, Oo, i, j, l, R, R2, yl, hz, hs, hT⟩ := h
  unfold t_down
  cases R2 with
  | @mk vs vt FO hf ht hd =>
    obtain ⟨fg, tap, told, time⟩ := g
    dsimp only at hf ht hd yl hz hs
    have hln := TDs.length hd
    have hC := (((Ctx.start (K := K) yl).add (i := .dats vs told) hd).add (i := imT K tap vt) ht).add (i := imH K a ph _ Oh) R
    cases hf with
    | non =>
      walk_at "dsl"
      walk_at "go"
      refine c_meth hC (hrep hC (by walk_at "mem")) (by walk_at "pull") (by intros; walk_at "nolk") ?_
      walk_at "go"
      refine c_down hC (hrep hC (by walk_at "mem")) (by walk_at "pull") (fun _ H O1 R1 hC => ?_) (fun f e => by cases e)
      simp only [downG] at R1
      have hT := tabs_mono hC.sb hT
      have hC := hC.rebase
      walk_at "dsl"
      walk_at "go"
      apply k
      first | ((refine' LI.mkN (R1.mono hC.sb) ?hy ?ht ?hd ?hz ?hs (tabs_mono hC.sb hT)); (case hy => walk_at "lay2"); (case ht => first | exact trep hC (by walk_at "mem") | walk_at "trp"); (case hd => walk_at "tds"); (case hz => first | assumption | (dsimp only at z1 ⊢; omega)); (case hs => assumption)) | ((refine' LI.mkS (R1.mono hC.sb) ?hy ?q1 ?q2 ?ht ?hd ?hz ?hs (tabs_mono hC.sb hT)); (case hy => walk_at "lay2"); (case q1 => walk_at "sqt"); (case q2 => walk_at "sqt"); (case ht => first | exact trep hC (by walk_at "mem") | walk_at "trp"); (case hd => walk_at "tds"); (case hz => first | assumption | (dsimp only at z1 ⊢; omega)); (case hs => assumption))
    | @som f pf p1 p2 r1 r2 =>
      obtain ⟨fx, fy, px, py, bg, mv, lg⟩ := f
      dsimp only at r1 r2
      have hC := (hC.add (i := .tup p1 _) r1).add (i := .tup p2 _) r2
      walk_at "dsl"
      walk_at "go"
      refine c_meth hC (hrep hC (by walk_at "mem")) (by walk_at "pull") (by intros; walk_at "nolk") ?_
      walk_at "go"
      refine c_down hC (hrep hC (by walk_at "mem")) (by walk_at "pull") (fun e => by cases e) (fun f e => ?_)
      walk_at "go"
      apply k
      first | ((refine' LI.mkN (hrep hC (by walk_at "mem")) ?hy ?ht ?hd ?hz ?hs (tabs_mono hC.sb hT)); (case hy => walk_at "lay2"); (case ht => first | exact trep hC (by walk_at "mem") | walk_at "trp"); (case hd => walk_at "tds"); (case hz => first | assumption | (dsimp only at z1 ⊢; omega)); (case hs => assumption)) | ((refine' LI.mkS (hrep hC (by walk_at "mem")) ?hy ?q1 ?q2 ?ht ?hd ?hz ?hs (tabs_mono hC.sb hT)); (case hy => walk_at "lay2"); (case q1 => walk_at "sqt"); (case q2 => walk_at "sqt"); (case ht => first | exact trep hC (by walk_at "mem") | walk_at "trp"); (case hd => walk_at "tds"); (case hz => first | assumption | (dsimp only at z1 ⊢; omega)); (case hs => assumption))
end
end
section
variable {K : PySem.W.Frag} {mg : Str → Option Value} {a : Adr} {vs : List V} {H : Hp} {Q : VK} {E : XK}
section
variable {A Cb Dc : L2.St → Hp → Prop} {Bt : VK} {d ph po pl : Addr} {F : List (Addr × HO)} {n : Nat} {vf : V} {v0 v5 v6 v7 v8 v9 v10 v11 v12 v13 v14 : Option V} {x y : Int}
theorem move_ok (T : Txt K mg a) (hn : n ≤ 4500) (h : LI K a d F n ph po pl vf H) (k : ∀ w11 vf' H', LI K a d F (n + 1) ph po pl vf' H' → A [v0, some (.ref d), some (.ref ph), some (.ref po), some (.ref pl), v5, v6, some (.int x), some (.int y), some vf, v10, w11, v12, v13, v14] H') : t_move K a E ⟨A, Bt, Cb, Dc⟩ [v0, some (.ref d), some (.ref ph), some (.ref po), some (.ref pl), v5, v6, some (.int x), some (.int y), some vf, v10, v11, v12, v13, v14] H := by
  obtain ⟨g, Oh, Oo, i, j, l, R, R2, yl, hz, hs, hT⟩ := h
  unfold t_move
  cases R2 with
  | @mk vs vt FO hf ht hd =>
    obtain ⟨fg, tap, told, time⟩ := g
    dsimp only at hf ht hd yl hz hs
    have hln := TDs.length hd
    have hC := (((Ctx.start (K := K) yl).add (i := .dats vs told) hd).add (i := imT K tap vt) ht).add (i := imH K a ph _ Oh) R
    cases hf with
    | non =>
      walk_at "dsl"
      walk_at "go"
      refine c_meth hC (hrep hC (by walk_at "mem")) (by walk_at "pull") (by intros; walk_at "nolk") ?_
      walk_at "go"
      refine c_move hC (hrep hC (by walk_at "mem")) (by walk_at "pull") (by dsimp only; omega) (fun e => ?_) (fun f e => by cases e)
      walk_at "go"
      apply k
      have z1 : told.length ≤ told.length := Nat.le_refl _
      have R1 := hrep (O := Oh) hC (by walk_at "mem")
      first | ((refine' LI.mkN R1 ?hy ?ht ?hd ?hz ?hs (tabs_mono hC.sb hT)); (case hy => walk_at "lay2"); (case ht => first | exact trep hC (by walk_at "mem") | walk_at "trp"); (case hd => walk_at "tds"); (case hz => first | assumption | ((try dsimp only at z1 ⊢); omega)); (case hs => assumption)) | ((refine' LI.mkS R1 ?hy ?q1 ?q2 ?ht ?hd ?hz ?hs (tabs_mono hC.sb hT)); (case hy => walk_at "lay2"); (case q1 => walk_at "sqt"); (case q2 => walk_at "sqt"); (case ht => first | exact trep hC (by walk_at "mem") | walk_at "trp"); (case hd => walk_at "tds"); (case hz => first | assumption | ((try dsimp only at z1 ⊢); omega)); (case hs => assumption))
    | @som f pf p1 p2 r1 r2 =>
      obtain ⟨fx, fy, px, py, bg, mv, lg⟩ := f
      dsimp only at r1 r2
      have hC := (hC.add (i := .tup p1 _) r1).add (i := .tup p2 _) r2
      walk_at "dsl"
      walk_at "go"
      refine c_meth hC (hrep hC (by walk_at "mem")) (by walk_at "pull") (by intros; walk_at "nolk") ?_
      walk_at "go"
      have z1 := moveG_len (g := ⟨some ⟨fx, fy, px, py, bg, mv, lg⟩, tap, told, time⟩) (x := x) (y := y) (f := ⟨fx, fy, px, py, bg, mv, lg⟩)
      have z2 := moveG_sh (g := ⟨some ⟨fx, fy, px, py, bg, mv, lg⟩, tap, told, time⟩) (x := x) (y := y) (f := ⟨fx, fy, px, py, bg, mv, lg⟩) hs
      refine c_move hC (hrep hC (by walk_at "mem")) (by walk_at "pull") (by dsimp only; omega) (fun e => by cases e) (fun f e H O1 R1 hC => ?_)
      cases e
      obtain ⟨g1, e1⟩ : ∃ g1, moveG x y ⟨fx, fy, px, py, bg, mv, lg⟩ ⟨some ⟨fx, fy, px, py, bg, mv, lg⟩, tap, told, time⟩ = g1 := ⟨_, rfl⟩
      rw [e1] at R1 z1 z2
      have hT := tabs_mono hC.sb hT
      have hC := hC.rebase
      walk_at "dsl"
      cases mv
      all_goals walk_at "all"
      all_goals (simp only [moveG, *, if_true, if_false, Bool.false_eq_true, or_true, true_or, false_or, or_false, reduceIte] at e1)
      all_goals subst e1
      all_goals apply k
      all_goals first | ((refine' LI.mkN (R1.mono hC.sb) ?hy ?ht ?hd ?hz ?hs (tabs_mono hC.sb hT)); (case hy => walk_at "lay2"); (case ht => first | exact trep hC (by walk_at "mem") | walk_at "trp"); (case hd => walk_at "tds"); (case hz => first | assumption | ((try dsimp only at z1 ⊢); omega)); (case hs => assumption)) | ((refine' LI.mkS (R1.mono hC.sb) ?hy ?q1 ?q2 ?ht ?hd ?hz ?hs (tabs_mono hC.sb hT)); (case hy => walk_at "lay2"); (case q1 => walk_at "sqt"); (case q2 => walk_at "sqt"); (case ht => first | exact trep hC (by walk_at "mem") | walk_at "trp"); (case hd => walk_at "tds"); (case hz => first | assumption | ((try dsimp only at z1 ⊢); omega)); (case hs => assumption))
end
end
section
variable {K : PySem.W.Frag} {mg : Str → Option Value} {a : Adr} {vs : List V} {H : Hp} {Q : VK} {E : XK}
section
variable {A Cb Dc : L2.St → Hp → Prop} {Bt : VK} {d ph po pl : Addr} {F : List (Addr × HO)} {n : Nat} {vf : V} {v0 v5 v6 v7 v8 v9 v10 v11 v12 v13 v14 : Option V} {x y : Int}
theorem lift_ok (T : Txt K mg a) (hn : n ≤ 4500) (h : LI K a d F n ph po pl vf H) (k : ∀ pl' w12 w13 vf' H', LI K a d F (n + 1) ph po pl' vf' H' → A [v0, some (.ref d), some (.ref ph), some (.ref po), some (.ref pl'), v5, v6, some (.int x), some (.int y), some vf, v10, v11, w12, w13, v14] H') : t_lift K a E ⟨A, Bt, Cb, Dc⟩ [v0, some (.ref d), some (.ref ph), some (.ref po), some (.ref pl), v5, v6, some (.int x), some (.int y), some vf, v10, v11, v12, v13, v14] H := by
  obtain ⟨g, Oh, Oo, i, j, l, R, R2, yl, hz, hs, hT⟩ := h
  unfold t_lift
  cases R2 with
  | @mk vs vt FO hf ht hd =>
    obtain ⟨fg, tap, told, time⟩ := g
    dsimp only at hf ht hd yl hz hs
    have hln := TDs.length hd
    have hC := (((Ctx.start (K := K) yl).add (i := .dats vs told) hd).add (i := imT K tap vt) ht).add (i := imH K a ph _ Oh) R
    cases hf with
    | non =>
      walk_at "dsl"
      walk_at "go"
      refine c_meth hC (hrep hC (by walk_at "mem")) (by walk_at "pull") (by intros; walk_at "nolk") ?_
      walk_at "go"
      refine c_lift hC (hrep hC (by walk_at "mem")) (by walk_at "pull") (by dsimp only; omega) (fun e => ?_) (fun f e => by cases e)
      walk_at "go"
      apply k
      have z1 : told.length ≤ told.length := Nat.le_refl _
      have R1 := hrep (O := Oh) hC (by walk_at "mem")
      first | ((refine' LI.mkN R1 ?hy ?ht ?hd ?hz ?hs (tabs_mono hC.sb hT)); (case hy => walk_at "lay2"); (case ht => first | exact trep hC (by walk_at "mem") | walk_at "trp"); (case hd => walk_at "tds"); (case hz => first | assumption | ((try dsimp only at z1 ⊢); omega)); (case hs => assumption)) | ((refine' LI.mkS R1 ?hy ?q1 ?q2 ?ht ?hd ?hz ?hs (tabs_mono hC.sb hT)); (case hy => walk_at "lay2"); (case q1 => walk_at "sqt"); (case q2 => walk_at "sqt"); (case ht => first | exact trep hC (by walk_at "mem") | walk_at "trp"); (case hd => walk_at "tds"); (case hz => first | assumption | ((try dsimp only at z1 ⊢); omega)); (case hs => assumption))
    | @som f pf p1 p2 r1 r2 =>
      obtain ⟨fx, fy, px, py, bg, mv, lg⟩ := f
      dsimp only at r1 r2
      have hC := (hC.add (i := .tup p1 _) r1).add (i := .tup p2 _) r2
      walk_at "dsl"
      walk_at "go"
      refine c_meth hC (hrep hC (by walk_at "mem")) (by walk_at "pull") (by intros; walk_at "nolk") ?_
      walk_at "go"
      refine c_lift hC (hrep hC (by walk_at "mem")) (by walk_at "pull") (by dsimp only; omega) (fun e => by cases e) (fun f e H O1 R1 hC => ?_)
      cases e
      simp only [liftG] at R1
      have hT := tabs_mono hC.sb hT
      have hC := hC.rebase
      walk_at "dsl"
      walk_at "go"
      refine c_ended (f := ⟨fx, fy, px, py, bg, mv, lg⟩) (g := ⟨some ⟨fx, fy, px, py, bg, mv, lg⟩, tap, told, time⟩) hC (by walk_at "mem") (by walk_at "mem") (hC.tup (by walk_at "mem")) (hC.tup (by walk_at "mem")) (trep hC (by walk_at "mem")) (fun p pl2 ws v H q1 q2 q3 hC => ?_)
      have R1 := R1.mono hC.sb
      have hT := tabs_mono hC.sb hT
      have hC := ((hC.rebase.add (i := .tup p _) q1).add (i := .dats ws _) q2).add (i := imT K _ v) q3
      walk_at "dsl"
      have z3 := endRows_len (g := ⟨some ⟨fx, fy, px, py, bg, mv, lg⟩, tap, told, time⟩) (f := ⟨fx, fy, px, py, bg, mv, lg⟩)
      have z4 := TDs.length q2
      have z2 := ShL.append hs (endRows_sh (g := ⟨some ⟨fx, fy, px, py, bg, mv, lg⟩, tap, told, time⟩) (f := ⟨fx, fy, px, py, bg, mv, lg⟩))
      have z1 : (told ++ endRows ⟨some ⟨fx, fy, px, py, bg, mv, lg⟩, tap, told, time⟩ ⟨fx, fy, px, py, bg, mv, lg⟩).length ≤ n + 1 := by
        rw [List.length_append]
        omega
      walk_at "go"
      apply k
      first | ((refine' LI.mkN (R1.mono hC.sb) ?hy ?ht ?hd ?hz ?hs (tabs_mono hC.sb hT)); (case hy => walk_at "lay2"); (case ht => first | exact trep hC (by walk_at "mem") | walk_at "trp"); (case hd => walk_at "tds"); (case hz => first | assumption | ((try dsimp only at z1 ⊢); omega)); (case hs => assumption)) | ((refine' LI.mkS (R1.mono hC.sb) ?hy ?q1 ?q2 ?ht ?hd ?hz ?hs (tabs_mono hC.sb hT)); (case hy => walk_at "lay2"); (case q1 => walk_at "sqt"); (case q2 => walk_at "sqt"); (case ht => first | exact trep hC (by walk_at "mem") | walk_at "trp"); (case hd => walk_at "tds"); (case hz => first | assumption | ((try dsimp only at z1 ⊢); omega)); (case hs => assumption))
end
end
section
variable {K : PySem.W.Frag} {mg : Str → Option Value} {a : Adr} {vs : List V} {H : Hp} {Q : VK} {E : XK}
section
variable {A Cb Dc : L2.St → Hp → Prop} {Bt : VK} {d ph po pl : Addr} {F : List (Addr × HO)} {n : Nat} {vf : V} {v0 v5 v6 v7 v8 v9 v10 v11 v12 v13 v14 : Option V} {x y : Int}
theorem ticks_ok (T : Txt K mg a) {so : Int} (hn : n ≤ 3990) (h : LI K a d F n ph po pl vf H) (k : ∀ w10 H', LI K a d F (n + 4) ph po pl vf H' → A [v0, some (.ref d), some (.ref ph), some (.ref po), some (.ref pl), v5, some (.int so), v7, v8, some vf, w10, v11, v12, v13, v14] H') :
    t_ticks K a E ⟨A, Bt, Cb, Dc⟩ [v0, some (.ref d), some (.ref ph), some (.ref po), some (.ref pl), v5, some (.int so), v7, v8, some vf, v10, v11, v12, v13, v14] H := by
  obtain ⟨g, Oh, Oo, i, j, l, R, R2, yl, hz, hs, hT⟩ := h
  unfold t_ticks
  have hC := ((Ctx.start (K := K) yl).add (i := imH K a ph _ Oh) R).add (i := .pr (fun H => ORep K H po pl vf g Oo) (fun _ _ s h => h.mono0 s)) R2
  have fin : ∀ (r i' j' l' : Int) (H1 : Hp), 0 ≤ r → r ≤ 4 → Ctx K H H1 ((d, .lst [.int i', .int j', .int l']) :: (Oo ++ (F ++ Oh))) [.pr (fun H => ORep K H po pl vf g Oo) (fun _ _ s h => h.mono0 s), imH K a ph g Oh] →
      kFor (gName 10) (t_law_for0 K a E) ⟨A, Bt, Cb, Dc⟩ [v0, some (.ref d), some (.ref ph), some (.ref po), some (.ref pl), v5, some (.int so), v7, v8, some vf, v10, v11, v12, v13, v14] (Itr 0 r.toNat) H1 := by
    intro r i' j' l' H1 h0 h1 hC
    refine for_rng (fun t σ H => ∃ w10, σ = [v0, some (.ref d), some (.ref ph), some (.ref po), some (.ref pl), v5, some (.int so), v7, v8, some vf, w10, v11, v12, v13, v14] ∧ LI K a d F (n + t) ph po pl vf H)
      ⟨_, rfl, g, Oh, Oo, i', j', l', hrep hC (by walk_at "mem"), hC.pr (P := fun H => ORep K H po pl vf g Oo) (by walk_at "mem"), hC.lay, hz, hs, tabs_mono hC.sb hT⟩ ?_ ?_
    · rintro t σ H ht ⟨w10, rfl, h⟩
      walk_at "go"
      refine for0_ok T (by omega) h (fun H' h' => ⟨_, rfl, h'⟩)
    · rintro σ H ⟨w10, rfl, g, Oh, Oo, i, j, l, R, R2, yl, hz, hs, hT⟩
      exact k _ _ ⟨g, Oh, Oo, i, j, l, R, R2, yl, by omega, hs, hT⟩
  by_cases h4 : so = 4
  · walk_at "go"
    exact fin _ _ _ _ _ (by omega) (by omega) hC
  · walk_at "go"
    exact fin _ _ _ _ _ (by omega) (by omega) hC
theorem LI.le {m : Nat} (h : LI K a d F n ph po pl vf H) (z : n ≤ m) : LI K a d F m ph po pl vf H := by
  obtain ⟨g, Oh, Oo, i, j, l, R, R2, yl, hz, hs, hT⟩ := h
  exact ⟨g, Oh, Oo, i, j, l, R, R2, yl, Nat.le_trans hz z, hs, hT⟩
theorem tail_LI (T : Txt K mg a) {σ : L2.St} {D : Ends} (hn : n ≤ 5000) (h : LI K a d F n ph po pl vf H)
    (e2 : σ[2]? = some (some (.ref ph))) (e3 : σ[3]? = some (some (.ref po))) (e4 : σ[4]? = some (some (.ref pl))) (k : D.nx σ H) : t_tail K D σ H := by
  obtain ⟨g, Oh, Oo, i, j, l, R, R2, yl, hz, hs, hT⟩ := h
  have y := yl.tail
  rw [← List.append_assoc] at y
  exact tail_ok T R R2 ((y.perm List.perm_append_comm)) (Nat.le_trans hz hn) hs e2 e3 e4 k
theorem for1_ok (T : Txt K mg a) (hn : n ≤ 3990) (h : LI K a d F n ph po pl vf H)
    (k : ∀ pl' vf' w6 w7 w8 w9 w10 w11 w12 w13 H', LI K a d F (n + 5) ph po pl' vf' H' → A [v0, some (.ref d), some (.ref ph), some (.ref po), some (.ref pl'), v5, w6, w7, w8, w9, w10, w11, w12, w13, v14] H') :
    t_law_for1 K a E ⟨A, Bt, Cb, Dc⟩ [v0, some (.ref d), some (.ref ph), some (.ref po), some (.ref pl), v5, v6, v7, v8, v9, v10, v11, v12, v13, v14] H := by
  obtain ⟨g, Oh, Oo, i, j, l, R, R2, yl, hz, hs, hT⟩ := h
  unfold t_law_for1
  cases R2 with
  | @mk vs vt FO hf ht hd =>
    have hln := TDs.length hd
    have hC := (((Ctx.start (K := K) yl).add (i := .dats vs g.told) hd).add (i := imT K g.tap vt) ht).add (i := imH K a ph _ Oh) R
    have hC := hC.add (i := .pr (fun H => FOwn K H g.finger vf FO) (fun _ _ s h => h.mono0 s)) hf
    walk_at "dsl"
    walk_at "go"
    have h1 : LI K a d F n ph po pl vf H := by
      have R1 := hrep (O := Oh) hC (by walk_at "mem")
      refine' LI.mk2 R1 ?hf ?hy ?ht ?hd hz hs (tabs_mono hC.sb hT)
      case hf => exact hC.pr (P := fun H => FOwn K H g.finger vf FO) (by walk_at "mem")
      case hy => walk_at "lay2"
      case ht => exact trep hC (by walk_at "mem")
      case hd => walk_at "tds"
    refine s_iteD (fun c5 => ?_) (fun c5 => ?_)
    · exact ticks_ok (E := E) T hn h1 (fun w10 H' h' => tail_LI T (by omega) h' rfl rfl rfl (k _ _ _ _ _ _ _ _ _ _ _ (h'.le (by omega))))
    · walk_at "go"
      refine s_iteD (fun c8 => ?_) (fun c8 => ?_)
      · exact down_ok (E := E) T h1 (fun vf' H' h' => tail_LI T (by omega) h' rfl rfl rfl (k _ _ _ _ _ _ _ _ _ _ _ (h'.le (by omega))))
      · walk_at "go"
        refine s_iteD (fun c10 => ?_) (fun c10 => ?_)
        · exact move_ok (E := E) T (by omega) h1 (fun w11 vf' H' h' => tail_LI T (by omega) h' rfl rfl rfl (k _ _ _ _ _ _ _ _ _ _ _ (h'.le (by omega))))
        · walk_at "go"
          refine s_iteD (fun c11 => ?_) (fun c11 => ?_)
          · exact lift_ok (E := E) T (by omega) h1 (fun pl' w12 w13 vf' H' h' => tail_LI T (by omega) h' rfl rfl rfl (k _ _ _ _ _ _ _ _ _ _ _ (h'.le (by omega))))
          · exact cancel_ok (E := E) T h1 (fun vf' H' h' => tail_LI T (by omega) h' rfl rfl rfl (k _ _ _ _ _ _ _ _ _ _ _ (h'.le (by omega))))
end
end
section
variable {K : PySem.W.Frag} {mg : Str → Option Value} {a : Adr} {vs : List V} {H : Hp} {Q : VK} {E : XK}
theorem lay_appR {L F : List (Addr × HO)} (y : Lay H (L ++ F)) : Lay H F := ⟨(List.nodup_append.mp (by rw [← List.map_append]; exact y.nd)).2.1, fun p hp => y.at_ p (List.mem_append_right _ hp)⟩
theorem lay_appL {L F : List (Addr × HO)} (y : Lay H (L ++ F)) : Lay H L := ⟨(List.nodup_append.mp (by rw [← List.map_append]; exact y.nd)).1, fun p hp => y.at_ p (List.mem_append_left _ hp)⟩
section
variable {A Cb Dc : L2.St → Hp → Prop} {Bt : VK} {d : Addr} {F : List (Addr × HO)} {v0 v2 v3 v4 v5 v6 v7 v8 v9 v10 v11 v12 v13 v14 : Option V} {i j l : Int}
theorem for2_ok (T : Txt K mg a) (y : Lay H ((d, .lst [.int i, .int j, .int l]) :: F)) (hT : LamX.Tabs [(a.tb_law, lamq "law")] H)
    (k : ∀ w2 w3 w4 w5 w6 w7 w8 w9 w10 w11 w12 w13 w14 H', Lay H' F → LamX.Tabs [(a.tb_law, lamq "law")] H' → A [v0, some (.ref d), w2, w3, w4, w5, w6, w7, w8, w9, w10, w11, w12, w13, w14] H') :
    t_law_for2 K a E ⟨A, Bt, Cb, Dc⟩ [v0, some (.ref d), v2, v3, v4, v5, v6, v7, v8, v9, v10, v11, v12, v13, v14] H := by
  unfold t_law_for2
  have hC := Ctx.start (K := K) y
  walk_at "go"
  have R1 := hrep (O := hO) hC (by walk_at "mem")
  have h1 : LI K a d F 0 mx dp lp .non H := by
    refine' LI.mkN R1 ?hy .non ?hd (Nat.le_refl _) ShL.nil (tabs_mono hC.sb hT)
    case hy => walk_at "lay2"
    case hd => walk_at "tds"
  refine for_rng (fun t σ H => ∃ pl' vf' w5 w6 w7 w8 w9 w10 w11 w12 w13, σ = [v0, some (.ref d), some (.ref mx), some (.ref dp), some (.ref pl'), w5, w6, w7, w8, w9, w10, w11, w12, w13, v14] ∧ LI K a d F (5 * t) mx dp pl' vf' H)
    ⟨_, _, _, _, _, _, _, _, _, _, _, rfl, h1⟩ ?_ ?_
  · rintro t σ H ht ⟨pl', vf', w5, w6, w7, w8, w9, w10, w11, w12, w13, rfl, h⟩
    walk_at "go"
    refine for1_ok T (by omega) h (fun pl' vf' w6 w7 w8 w9 w10 w11 w12 w13 H' h' => ⟨_, _, _, _, _, _, _, _, _, _, _, rfl, h'.le (by omega)⟩)
  · rintro σ H ⟨pl', vf', w5, w6, w7, w8, w9, w10, w11, w12, w13, rfl, g, Oh, Oo, i, j, l, R, R2, yl, hz, hs, hT⟩
    have hC := Ctx.start (K := K) yl
    walk_at "go"
    refine k _ _ _ _ _ _ _ _ _ _ _ _ _ _ ?_ (tabs_mono hC.sb hT)
    exact lay_appL (lay_appR hC.lay.tail)
end
theorem pure_law (T : Txt K mg a) (h : sp_law K a vs H Q E) : t_law K a E { nx := fun _ H' => Q .non H', rt := Q } (L2.start N_law vs) H := by
  obtain ⟨_, s, ns, rfl, hs, hT, k⟩ := h
  unfold t_law
  walk_at "start"
  walk_at "go"
  refine ⟨rfl, s, 1, ns, [], rfl, hs, Lay.nil, by decide, by decide, fun p ds H1 s1 y => ?_⟩
  have hT := tabs_mono s1 hT
  have hC := Ctx.start (K := K) y
  walk_at "go"
  refine for_lst (xs := ds.map fun d => V.ref d.1) (fun t σ H => ∃ (w1 w2 w3 w4 w5 w6 w7 w8 w9 w10 w11 w12 w13 w14 : Option V) (es : List (Addr × Int × Int × Int)), σ = [some (.ref s), w1, w2, w3, w4, w5, w6, w7, w8, w9, w10, w11, w12, w13, w14] ∧
      es.map (fun d => V.ref d.1) = (ds.map fun d => V.ref d.1).drop t ∧ Lay H ((p, .lst (ds.map fun d => V.ref d.1)) :: DL es) ∧ LamX.Tabs [(a.tb_law, lamq "law")] H)
    ⟨_, _, _, _, _, _, _, _, _, _, _, _, _, _, ds, rfl, rfl, by rw [List.append_nil] at y; exact y, hT⟩ ?_ ?_ ?_
  · rintro t σ H ht ⟨w1, w2, w3, w4, w5, w6, w7, w8, w9, w10, w11, w12, w13, w14, es, rfl, he, y, hT⟩
    exact y.get List.mem_cons_self
  · rintro t x σ H hx ⟨w1, w2, w3, w4, w5, w6, w7, w8, w9, w10, w11, w12, w13, w14, es, rfl, he, y, hT⟩
    obtain ⟨hlt, hx⟩ := List.getElem?_eq_some_iff.mp hx
    rw [List.drop_eq_getElem_cons hlt, hx] at he
    cases es with
    | nil => cases he
    | cons e es =>
      rw [List.map_cons] at he
      obtain ⟨rfl, he2⟩ := List.cons.inj he
      obtain ⟨d, i, j, l⟩ := e
      walk_at "go"
      refine for2_ok T (F := (p, .lst (ds.map fun d => V.ref d.1)) :: DL es) (y.perm (List.Perm.swap _ _ _)) hT (fun w2 w3 w4 w5 w6 w7 w8 w9 w10 w11 w12 w13 w14 H' y' hT' => ⟨_, _, _, _, _, _, _, _, _, _, _, _, _, _, es, rfl, he2, y', hT'⟩)
  · rintro σ H ⟨w1, w2, w3, w4, w5, w6, w7, w8, w9, w10, w11, w12, w13, w14, es, rfl, he, y, hT⟩
    have hC := Ctx.start (K := K) y
    walk_at "go"
    have hT := tabs_mono hC.sb hT
    have hC := Ctx.start (K := K) (lay_appR hC.lay.tail)
    cases hR with
    | @som f pf dxf p1 p2 r1 r2 =>
      dsimp only at r1 r2
      have hC := (hC.add (i := .tup p1 _) r1).add (i := .tup p2 _) r2
      walk_at "go"
      refine s_eqD (TD.dp (.tup (hC.tup (by walk_at "mem")) (.cons (.int 1) (.cons (.int 2) .nil)))) (TD.dp (.tup (hC.tup (by walk_at "mem")) (.cons (.int 1) (.cons (.int 2) .nil)))) (by decide) (by decide) ?_
      rw [eqv_self (n := 64) ⟨by decide, by decide⟩]
      walk_at "go"
      have hT := tabs_mono hC.sb hT
      have hC := Ctx.start (K := K) hC.lay.tail
      cases hR with
      | @mk dx pl vs vf vt FO hf ht hd =>
        cases hd
        cases hf
        walk_at "dsl"
        walk_at "go"
        refine s_eqD (Dp.lst (SqL.of (hC.get (by walk_at "mem"))) .nil) (Dp.lst (SqL.of (hC.get (by walk_at "mem"))) .nil) (by decide) (by decide) ?_
        rw [eqv_self (n := 64) ⟨by decide, by decide⟩]
        walk_at "go"
        cases hR with
        | @mk dx pl vs vf vt FO hf ht hd =>
          cases hf
          walk_at "dsl"
          walk_at "go"
          exact k _
end
end Wk
namespace Wk
open PySem PySem.Spec PyProof.Rows L2 Ph
section
variable {K : PySem.W.Frag} {mg : Str → Option Value} {a : Adr} {vs : List V} {H : Hp} {Q : VK} {E : XK}
/-- as Fun.okX, the code object told -/
theorem Fun.okXC {P : Program} {w : World} {base : Heap} {x qual : Str} {st : Stmt} {f : Addr} {fd : FuncData} {N ps : List Str} {k : Nat} {sp : Sp} (F : Fun K x qual st f fd) (S : FnScope N ps (defScope st)) (len : ∀ vs H Q E, sp vs H Q E → vs.length = ps.length)
    (hbody : ∀ (cdv : Value) (A : Around) (outer : List Env) (s : Shared) (H : Hp) (vs : List V) (Q : VK) (E : XK), Room k (A.deeper (envOfC qual (defScope st) s.heap.objs.size f cdv)) → fd.code = cdv → sp vs H Q E →
      ∃ t, PSs (cxOf (L2.CX P w) P w K mg base N qual (defScope st) f cdv A outer s H E) (defBody st) t ∧ t { nx := fun _ H' => Q .non H', rt := Q } (L2.start N vs) H) : FnOk P w K mg base (L2.CX P w) (k + 1) f fd ps sp := by
  have ⟨oc, od, kV, doc, pm, an, cdv, ct, osl, q, lk, hcd⟩ := F.ex
  subst q
  exact fn_of lk hcd S len fun A outer s H vs Q E hr hsp => hbody cdv A outer s H vs Q E hr rfl hsp
/-- what leaves a lambda's body -/
theorem passLam {X : Cx} {A : Around} {outer : List Env} {s : Shared} {H : Hp} {E : XK} {scope : Scope} {f c' : Addr} : Passes (L2.CX X.prog X.w) (LamX.lamCx X A outer s H E scope f c') E := passes_call (takes_of rfl rfl rfl rfl) fun _ _ _ _ h => h
end
end Wk
namespace Wk
open PySem PySem.Spec PyProof.Rows L2 Ph
open LamX (TTold tLam told_gives pe_lamcall lamS_by TabB lamCx)
section
variable {P : Program} {w : World} {K : PySem.W.Frag} {mg : Str → Option Value} {base : Heap} {a : Adr}
theorem ok_Touching__init (T : Txt K mg a) : FnOk P w K mg base (L2.CX P w) 1 a.f_Touching__init a.fd_Touching__init ["self", "left", "top", "time"] (sp_Touching__init K a) := by
  refine Fun.okX T.fn_Touching__init sc_Touching__init (fun _ _ _ _ h => h.1) (fun cdv A outer s H vs Q E hr h => ⟨t_Touching__init K a E, ?_, pure_Touching__init T h⟩)
  have hu := hr.units
  exact (pss_cons (ps_fld (pv 0) (pe_tup (pa_cons (pv 1) (pa_cons (pv 2) pa_nil))) rfl) (pss_cons (ps_fld (pv 0) (pv 3) rfl) (pss_cons (ps_fld (pv 0) (pe_tup (pa_cons (pv 1) (pa_cons (pv 2) pa_nil))) rfl) (pss_cons (ps_fld (pv 0) pe_bl rfl) (pss_one (ps_fld (pv 0) pe_bl rfl))))))
theorem ok_Gestures__init (T : Txt K mg a) : FnOk P w K mg base (L2.CX P w) 1 a.f_Gestures__init a.fd_Gestures__init ["self"] (sp_Gestures__init K a) := by
  refine Fun.okX T.fn_Gestures__init sc_Gestures__init (fun _ _ _ _ h => h.1) (fun cdv A outer s H vs Q E hr h => ⟨t_Gestures__init K a E, ?_, pure_Gestures__init T h⟩)
  have hu := hr.units
  exact (pss_cons (ps_fld (pv 0) pe_non rfl) (pss_cons (ps_fld (pv 0) pe_non rfl) (pss_cons (ps_fld (pv 0) (pe_lst pa_nil) rfl) (pss_one (ps_fld (pv 0) pe_int rfl)))))
theorem ok_Gestures_tick (T : Txt K mg a) : FnOk P w K mg base (L2.CX P w) 1 a.f_Gestures_tick a.fd_Gestures_tick ["self"] (sp_Gestures_tick K a) := by
  refine Fun.okX T.fn_Gestures_tick sc_Gestures_tick (fun _ _ _ _ h => h.1) (fun cdv A outer s H vs Q E hr h => ⟨t_Gestures_tick K a E, ?_, pure_Gestures_tick T h⟩)
  have hu := hr.units
  exact (pss_cons (ps_fldaug (pv 0) pe_int (in_of u_iadd)) (pss_cons (ps_set (i := 1) sc_Gestures_tick.nd rfl (by first | exact Or.inl rfl | exact Or.inr rfl) (pe_fld (pv 0) rfl)) (pss_cons (ps_if (PW.pt (pw_and (pt_cmpR u_notN (pv 1) pe_non (nomark _)) (pw_and (pt_not (pt_tru (pe_fld (pv 1) rfl))) (pw_and (pt_not (pt_tru (pe_fld (pv 1) rfl))) (pw_and1 (pt_cmpR u_ge (pe_op u_sub (pe_fld (pv 0) rfl) (pe_fld (pv 1) rfl)) (pe_gint rfl T.gl_LONG) (nomark _))))))) (pss_cons (ps_fld (pv 1) pe_bl rfl) (pss_one (ps_expr (pe_bm PySem.F.plainAttrs_list PySem.F.slot_list_append PySem.F.type_list_append mt_append (pe_fld (pv 0) rfl) (pa_cons (pe_tup (pa_cons pe_str (pa_cons (pe_fld (pv 1) rfl) pa_nil))) pa_nil))))) pss_nil) (pss_one (ps_if (PW.pt (pw_and (pt_cmpR u_notN (pe_fld (pv 0) rfl) pe_non (nomark _)) (pw_and1 (pt_cmpR u_gt (pe_op u_sub (pe_fld (pv 0) rfl) (pe_ix (u_ix hu) (pe_fld (pv 0) rfl) pe_int (fun _ _ => rfl))) (pe_gint rfl T.gl_DOUBLE) (nomark _))))) (pss_one (ps_fld (pv 0) pe_non rfl)) pss_nil)))))
theorem ok_Gestures_down (T : Txt K mg a) (G_Touching__init : FnOk P w K mg base (L2.CX P w) 1 a.f_Touching__init a.fd_Touching__init ["self", "left", "top", "time"] (sp_Touching__init K a)) : FnOk P w K mg base (L2.CX P w) 3 a.f_Gestures_down a.fd_Gestures_down ["self", "left", "top"] (sp_Gestures_down K a) := by
  refine Fun.okX T.fn_Gestures_down sc_Gestures_down (fun _ _ _ _ h => h.1) (fun cdv A outer s H vs Q E hr h => ⟨t_Gestures_down K a E, ?_, pure_Gestures_down T h⟩)
  have hu := hr.units
  have hm_Touching__init := hr.mono (show 2 ≤ 2 by decide)
  exact (pss_cons (ps_if (pt_cmpR u_notN (pe_fld (pv 0) rfl) pe_non (nomark _)) (pss_one (ps_raise rfl (takes_of rfl rfl rfl rfl) (pmk_own PySem.F.excBase_ValueError T.xc_ViewFault T.mgc_ViewFault T.kc_ViewFault (raises_own T.bc_ViewFault T.tc_ViewFault) (by rfl)))) pss_nil) (pss_one (ps_fld (pv 0) (pe_make T.mk_Touching G_Touching__init hm_Touching__init rfl T.mgc_Touching T.bi_Touching__init .nil passX (pa_cons (pv 1) (pa_cons (pv 2) (pa_cons (pe_fld (pv 0) rfl) pa_nil)))) rfl)))
theorem ok_Gestures_move (T : Txt K mg a) (G_Gestures_need : FnOk P w K mg base (L2.CX P w) 1 a.f_Gestures_need a.fd_Gestures_need ["self"] (sp_Gestures_need K a)) (G_apart : FnOk P w K mg base (L2.CX P w) 1 a.f_apart a.fd_apart ["one", "other"] (sp_apart K a)) : FnOk P w K mg base (L2.CX P w) 2 a.f_Gestures_move a.fd_Gestures_move ["self", "left", "top"] (sp_Gestures_move K a) := by
  refine Fun.okX T.fn_Gestures_move sc_Gestures_move (fun _ _ _ _ h => h.1) (fun cdv A outer s H vs Q E hr h => ⟨t_Gestures_move K a E, ?_, pure_Gestures_move T h⟩)
  have hu := hr.units
  have hr_Gestures_need := hr.mono (show 1 ≤ 1 by decide)
  have hr_apart := hr.mono (show 1 ≤ 1 by decide)
  exact (pss_cons (ps_set (i := 3) sc_Gestures_move.nd rfl (by first | exact Or.inl rfl | exact Or.inr rfl) (pe_meth0 (pv 0) T.cl_Gestures T.me_Gestures_need G_Gestures_need hr_Gestures_need T.bi_Gestures_need .nil passX)) (pss_cons (ps_set (i := 4) sc_Gestures_move.nd rfl (by first | exact Or.inl rfl | exact Or.inr rfl) (pe_fld (pv 3) rfl)) (pss_cons (ps_fld (pv 3) (pe_tup (pa_cons (pv 1) (pa_cons (pv 2) pa_nil))) rfl) (pss_one (ps_if (PW.pt (pw_or (pt_tru (pe_fld (pv 3) rfl)) (pw_or1 (pt_cmpR u_gt (pe_call G_apart hr_apart rfl T.mg_apart T.fn_apart.kp T.bi_apart .nil passX (pa_cons (pe_fld (pv 3) rfl) (pa_cons (pe_fld (pv 3) rfl) pa_nil))) (pe_gint rfl T.gl_NEAR) (nomark _))))) (pss_cons (ps_expr (pe_bm PySem.F.plainAttrs_list PySem.F.slot_list_append PySem.F.type_list_append mt_append (pe_fld (pv 0) rfl) (pa_cons (pe_tup (pa_cons pe_str (pa_cons (pe_ifExp (pt_tru (pe_fld (pv 3) rfl)) (pv 4) (pe_fld (pv 3) rfl)) (pa_cons (pe_fld (pv 3) rfl) pa_nil)))) pa_nil))) (pss_one (ps_fld (pv 3) pe_bl rfl))) pss_nil)))))
theorem ok_Gestures_lift (T : Txt K mg a) (G_Gestures_end_of_drag : FnOk P w K mg base (L2.CX P w) 2 a.f_Gestures_end_of_drag a.fd_Gestures_end_of_drag ["self", "one"] (sp_Gestures_end_of_drag K a)) (G_Gestures_need : FnOk P w K mg base (L2.CX P w) 1 a.f_Gestures_need a.fd_Gestures_need ["self"] (sp_Gestures_need K a)) (G_apart : FnOk P w K mg base (L2.CX P w) 1 a.f_apart a.fd_apart ["one", "other"] (sp_apart K a)) : FnOk P w K mg base (L2.CX P w) 3 a.f_Gestures_lift a.fd_Gestures_lift ["self"] (sp_Gestures_lift K a) := by
  refine Fun.okX T.fn_Gestures_lift sc_Gestures_lift (fun _ _ _ _ h => h.1) (fun cdv A outer s H vs Q E hr h => ⟨t_Gestures_lift K a E, ?_, pure_Gestures_lift T h⟩)
  have hu := hr.units
  have hr_Gestures_end_of_drag := hr.mono (show 2 ≤ 2 by decide)
  have hr_Gestures_need := hr.mono (show 1 ≤ 2 by decide)
  have hr_apart := hr.mono (show 1 ≤ 2 by decide)
  exact (pss_cons (ps_set (i := 1) sc_Gestures_lift.nd rfl (by first | exact Or.inl rfl | exact Or.inr rfl) (pe_meth0 (pv 0) T.cl_Gestures T.me_Gestures_need G_Gestures_need hr_Gestures_need T.bi_Gestures_need .nil passX)) (pss_cons (ps_fld (pv 0) pe_non rfl) (pss_one (ps_if (pt_tru (pe_fld (pv 1) rfl)) (pss_cons (ps_expr (pe_bm PySem.F.plainAttrs_list PySem.F.slot_list_append PySem.F.type_list_append mt_append (pe_fld (pv 0) rfl) (pa_cons (pe_meth (pv 0) T.cl_Gestures T.me_Gestures_end_of_drag G_Gestures_end_of_drag hr_Gestures_end_of_drag T.bi_Gestures_end_of_drag .nil passX (pa_cons (pv 1) pa_nil)) pa_nil))) (pss_one (ps_fld (pv 0) pe_non rfl))) (pss_one (ps_if (pt_not (pt_tru (pe_fld (pv 1) rfl))) (pss_one (ps_if (PW.pt (pw_and (pt_cmpR u_notN (pe_fld (pv 0) rfl) pe_non (nomark _)) (pw_and1 (pt_cmpR u_le (pe_call G_apart hr_apart rfl T.mg_apart T.fn_apart.kp T.bi_apart .nil passX (pa_cons (pe_ix (u_ix hu) (pe_fld (pv 0) rfl) pe_int (fun _ _ => rfl)) (pa_cons (pe_fld (pv 1) rfl) pa_nil))) (pe_gint rfl T.gl_NEAR) (nomark _))))) (pss_cons (ps_expr (pe_bm PySem.F.plainAttrs_list PySem.F.slot_list_append PySem.F.type_list_append mt_append (pe_fld (pv 0) rfl) (pa_cons (pe_tup (pa_cons pe_str (pa_cons (pe_fld (pv 1) rfl) pa_nil))) pa_nil))) (pss_one (ps_fld (pv 0) pe_non rfl))) (pss_cons (ps_expr (pe_bm PySem.F.plainAttrs_list PySem.F.slot_list_append PySem.F.type_list_append mt_append (pe_fld (pv 0) rfl) (pa_cons (pe_tup (pa_cons pe_str (pa_cons (pe_fld (pv 1) rfl) pa_nil))) pa_nil))) (pss_one (ps_fld (pv 0) (pe_tup (pa_cons (pe_fld (pv 0) rfl) (pa_cons (pe_fld (pv 1) rfl) pa_nil))) rfl))))) pss_nil))))))
theorem ok_Gestures_end_of_drag (T : Txt K mg a) (G_apart : FnOk P w K mg base (L2.CX P w) 1 a.f_apart a.fd_apart ["one", "other"] (sp_apart K a)) : FnOk P w K mg base (L2.CX P w) 2 a.f_Gestures_end_of_drag a.fd_Gestures_end_of_drag ["self", "one"] (sp_Gestures_end_of_drag K a) := by
  refine Fun.okX T.fn_Gestures_end_of_drag sc_Gestures_end_of_drag (fun _ _ _ _ h => h.1) (fun cdv A outer s H vs Q E hr h => ⟨t_Gestures_end_of_drag K a E, ?_, pure_Gestures_end_of_drag T h⟩)
  have hu := hr.units
  have hr_apart := hr.mono (show 1 ≤ 1 by decide)
  exact (pss_cons (ps_if (PW.pt (pw_or (pt_tru (pe_fld (pv 1) rfl)) (pw_or (pt_cmpR u_gt (pe_op u_sub (pe_fld (pv 0) rfl) (pe_fld (pv 1) rfl)) (pe_gint rfl T.gl_LONG) (nomark _)) (pw_or1 (pt_cmpR u_lt (pe_call G_apart hr_apart rfl T.mg_apart T.fn_apart.kp T.bi_apart .nil passX (pa_cons (pe_fld (pv 1) rfl) (pa_cons (pe_fld (pv 1) rfl) pa_nil))) (pe_gint rfl T.gl_FAR) (nomark _)))))) (pss_one (ps_ret (pe_tup (pa_cons pe_str (pa_cons (pe_fld (pv 1) rfl) pa_nil))))) pss_nil) (pss_cons (ps_par (i := 2) (j := 3) rfl sc_Gestures_end_of_drag.nd rfl rfl (by decide) rfl rfl (pa_cons (pe_op u_sub (pe_ix (u_ix hu) (pe_fld (pv 1) rfl) pe_int (fun _ _ => rfl)) (pe_ix (u_ix hu) (pe_fld (pv 1) rfl) pe_int (fun _ _ => rfl))) (pa_cons (pe_op u_sub (pe_ix (u_ix hu) (pe_fld (pv 1) rfl) pe_int (fun _ _ => rfl)) (pe_ix (u_ix hu) (pe_fld (pv 1) rfl) pe_int (fun _ _ => rfl))) pa_nil)) (by rfl)) (pss_cons (ps_if (pt_cmpR u_ge (pe_callB call_abs (by rfl) T.no_abs (by decide +kernel) (pa_cons (pv 2) pa_nil)) (pe_callB call_abs (by rfl) T.no_abs (by decide +kernel) (pa_cons (pv 3) pa_nil)) (nomark _)) (pss_one (ps_ret (pe_tup (pa_cons pe_str (pa_cons (pe_ifExp (pt_cmpR u_gt (pv 2) pe_int (nomark _)) pe_str pe_str) pa_nil))))) pss_nil) (pss_one (ps_ret (pe_tup (pa_cons pe_str (pa_cons (pe_ifExp (pt_cmpR u_gt (pv 3) pe_int (nomark _)) pe_str pe_str) pa_nil))))))))
theorem ok_Gestures_cancel (T : Txt K mg a) : FnOk P w K mg base (L2.CX P w) 1 a.f_Gestures_cancel a.fd_Gestures_cancel ["self"] (sp_Gestures_cancel K a) := by
  refine Fun.okX T.fn_Gestures_cancel sc_Gestures_cancel (fun _ _ _ _ h => h.1) (fun cdv A outer s H vs Q E hr h => ⟨t_Gestures_cancel K a E, ?_, pure_Gestures_cancel T h⟩)
  have hu := hr.units
  exact (pss_one (ps_fld (pv 0) pe_non rfl))
theorem ok_Gestures_need (T : Txt K mg a) : FnOk P w K mg base (L2.CX P w) 1 a.f_Gestures_need a.fd_Gestures_need ["self"] (sp_Gestures_need K a) := by
  refine Fun.okX T.fn_Gestures_need sc_Gestures_need (fun _ _ _ _ h => h.1) (fun cdv A outer s H vs Q E hr h => ⟨t_Gestures_need K a E, ?_, pure_Gestures_need T h⟩)
  have hu := hr.units
  exact (pss_cons (ps_if (pt_cmpR u_isN (pe_fld (pv 0) rfl) pe_non (nomark _)) (pss_one (ps_raise rfl (takes_of rfl rfl rfl rfl) (pmk_own PySem.F.excBase_ValueError T.xc_ViewFault T.mgc_ViewFault T.kc_ViewFault (raises_own T.bc_ViewFault T.tc_ViewFault) (by rfl)))) pss_nil) (pss_one (ps_ret (pe_fld (pv 0) rfl))))
theorem ok_apart (T : Txt K mg a) : FnOk P w K mg base (L2.CX P w) 1 a.f_apart a.fd_apart ["one", "other"] (sp_apart K a) := by
  refine Fun.okX T.fn_apart sc_apart (fun _ _ _ _ h => h.1) (fun cdv A outer s H vs Q E hr h => ⟨t_apart K a E, ?_, pure_apart T h⟩)
  have hu := hr.units
  exact (pss_one (ps_ret (pe_callB (call_max2 rfl) (by rfl) T.no_max (by decide +kernel) (pa_cons (pe_callB call_abs (by rfl) T.no_abs (by decide +kernel) (pa_cons (pe_op u_sub (pe_ix (u_ix hu) (pv 0) pe_int (fun _ _ => rfl)) (pe_ix (u_ix hu) (pv 1) pe_int (fun _ _ => rfl))) pa_nil)) (pa_cons (pe_callB call_abs (by rfl) T.no_abs (by decide +kernel) (pa_cons (pe_op u_sub (pe_ix (u_ix hu) (pv 0) pe_int (fun _ _ => rfl)) (pe_ix (u_ix hu) (pv 1) pe_int (fun _ _ => rfl))) pa_nil)) pa_nil)))))
theorem ok_law_dice (T : Txt K mg a) : FnOk P w K mg base (L2.CX P w) 1 a.f_law_dice a.fd_law_dice ["cell"] (sp_law_dice K a) := by
  refine Fun.okX T.fn_law_dice sc_law_dice (fun _ _ _ _ h => h.1) (fun cdv A outer s H vs Q E hr h => ⟨t_law_dice K a E, ?_, pure_law_dice T h⟩)
  have hu := hr.units
  exact (pss_cons (ps_if (pt_chain u_lt u_lt (pe_op u_sub pe_int pe_int) (pv 0) pe_int) (pss_one (ps_ret (pe_lst (pa_cons (pe_callB call_abs (by rfl) T.no_abs (by decide +kernel) (pa_cons (pv 0) pa_nil)) (pa_cons pe_int (pa_cons pe_int pa_nil)))))) pss_nil) (pss_one (ps_ret (pe_lst (pa_cons (pv 0) (pa_cons (pe_op u_add pe_int (pe_op u_mod (pe_callTy call_int1 (by rfl) T.no_int (by decide +kernel) (pa_cons (pv 0) pa_nil)) pe_int)) (pa_cons (pe_callTy call_int1 (by rfl) T.no_int (by decide +kernel) (pa_cons (pe_cmpR u_ge (pv 0) (pe_op u_pow pe_int pe_int) (nomark _)) pa_nil)) pa_nil)))))))
theorem ok_law_roll (T : Txt K mg a) : FnOk P w K mg base (L2.CX P w) 1 a.f_law_roll a.fd_law_roll ["dice", "many"] (sp_law_roll K a) := by
  refine Fun.okX T.fn_law_roll sc_law_roll (fun _ _ _ _ h => h.1) (fun cdv A outer s H vs Q E hr h => ⟨t_law_roll K a E, ?_, pure_law_roll T h⟩)
  have hu := hr.units
  exact (pss_cons (ps_if (PW.pt (pw_or (pt_cmpR (u_eq hu) (pe_ix (u_ix hu) (pv 0) pe_int (fun _ _ => rfl)) pe_int (nomark _)) (pw_or1 (PW.pt (pw_and (pt_cmpR (u_eq hu) (pe_ix (u_ix hu) (pv 0) pe_int (fun _ _ => rfl)) pe_int (nomark _)) (pw_and1 (pt_cmpR u_gt (pe_ix (u_ix hu) (pv 0) pe_int (fun _ _ => rfl)) pe_int (nomark _)))))))) (pss_cons (ps_set (i := 2) sc_law_roll.nd rfl (by first | exact Or.inl rfl | exact Or.inr rfl) (pe_op u_mod (pe_callTy call_int1 (by rfl) T.no_int (by decide +kernel) (pa_cons (pe_ix (u_ix hu) (pv 0) pe_int (fun _ _ => rfl)) pa_nil)) (pv 1))) (pss_cons (ps_asg (pe_op u_div (pe_ix (u_ix hu) (pv 0) pe_int (fun _ _ => rfl)) (pv 1)) (pg_sub (pv 0) pe_int (u_set hu))) (pss_one (ps_ret (pv 2))))) pss_nil) (pss_cons (ps_asg pe_int (pg_sub (pv 0) pe_int (u_set hu))) (pss_cons (ps_if (pt_cmpR u_gt (pv 1) pe_int (nomark _)) pss_never pss_nil) (pss_cons (ps_asg (pe_op u_mod (pe_callTy call_int1 (by rfl) T.no_int (by decide +kernel) (pa_cons (pe_op u_add (pe_op u_add (pe_op u_mul (pe_ix (u_ix hu) (pv 0) pe_int (fun _ _ => rfl)) pe_int) (pe_op u_mul (pe_ix (u_ix hu) (pv 0) pe_int (fun _ _ => rfl)) pe_int)) pe_int) pa_nil)) pe_int) (pg_sub (pv 0) pe_int (u_set hu))) (pss_cons (ps_asg (pe_op u_add (pe_ix (u_ix hu) (pv 0) pe_int (fun _ _ => rfl)) pe_int) (pg_sub (pv 0) pe_int (u_set hu))) (pss_one (ps_ret (pe_op u_mod (pe_callTy call_int1 (by rfl) T.no_int (by decide +kernel) (pa_cons (pe_op u_div (pe_ix (u_ix hu) (pv 0) pe_int (fun _ _ => rfl)) pe_int) pa_nil)) (pv 1)))))))))
theorem ok_law_rounds (T : Txt K mg a) (G_law_dice : FnOk P w K mg base (L2.CX P w) 1 a.f_law_dice a.fd_law_dice ["cell"] (sp_law_dice K a)) : FnOk P w K mg base (L2.CX P w) 2 a.f_law_rounds a.fd_law_rounds ["script", "most"] (sp_law_rounds K a) := by
  refine Fun.okX T.fn_law_rounds sc_law_rounds (fun _ _ _ _ h => h.1) (fun cdv A outer s H vs Q E hr h => ⟨t_law_rounds K a E, ?_, pure_law_rounds T h⟩)
  have hu := hr.units
  have hr_law_dice := hr.mono (show 1 ≤ 1 by decide)
  exact (pss_cons (ps_set (i := 2) sc_law_rounds.nd rfl (by first | exact Or.inl rfl | exact Or.inr rfl) (pe_slice u_sl (pv 0) po_none (po_some (pv 1)))) (pss_cons (ps_if (pt_cmpR (u_eq hu) (pv 2) (pe_lst pa_nil) (nomark _)) (pss_one (ps_set (i := 2) sc_law_rounds.nd rfl (by first | exact Or.inl rfl | exact Or.inr rfl) (pe_lst (pa_cons pe_int pa_nil)))) pss_nil) (pss_one (ps_ret (pe_lc (own := [("cell", 3)]) (g := (gName 3)) (tt := tYes) rfl sc_law_rounds.nd (pi_list (pv 2)) (blkOk_by (N := N_law_rounds) (sc := defScope s_law_rounds) (by decide +kernel)) (fun _ _ _ _ _ => (pg_name (i := 3) sc_law_rounds.nd rfl (by first | exact Or.inl rfl | exact Or.inr rfl))) (fun _ _ _ _ _ => pts_nil) (fun _ _ _ _ _ => (pe_call G_law_dice hr_law_dice rfl T.mg_law_dice T.fn_law_dice.kp T.bi_law_dice .nil passL (pa_cons (pv 3) pa_nil))))))))
theorem ok_law_apart (T : Txt K mg a) : FnOk P w K mg base (L2.CX P w) 1 a.f_law_apart a.fd_law_apart ["one", "other"] (sp_law_apart K a) := by
  refine Fun.okX T.fn_law_apart sc_law_apart (fun _ _ _ _ h => h.1) (fun cdv A outer s H vs Q E hr h => ⟨t_law_apart K a E, ?_, pure_law_apart T h⟩)
  have hu := hr.units
  exact (pss_one (ps_ret (pe_callB (call_max2 rfl) (by rfl) T.no_max (by decide +kernel) (pa_cons (pe_callB call_abs (by rfl) T.no_abs (by decide +kernel) (pa_cons (pe_op u_sub (pe_ix (u_ix hu) (pv 0) pe_int (fun _ _ => rfl)) (pe_ix (u_ix hu) (pv 1) pe_int (fun _ _ => rfl))) pa_nil)) (pa_cons (pe_callB call_abs (by rfl) T.no_abs (by decide +kernel) (pa_cons (pe_op u_sub (pe_ix (u_ix hu) (pv 0) pe_int (fun _ _ => rfl)) (pe_ix (u_ix hu) (pv 1) pe_int (fun _ _ => rfl))) pa_nil)) pa_nil)))))
theorem ok_law_ended (T : Txt K mg a) (G_law_apart : FnOk P w K mg base (L2.CX P w) 1 a.f_law_apart a.fd_law_apart ["one", "other"] (sp_law_apart K a)) : FnOk P w K mg base (L2.CX P w) 2 a.f_law_ended a.fd_law_ended ["own"] (sp_law_ended K a) := by
  refine Fun.okX T.fn_law_ended sc_law_ended (fun _ _ _ _ h => h.1) (fun cdv A outer s H vs Q E hr h => ⟨t_law_ended K a E, ?_, pure_law_ended T h⟩)
  have hu := hr.units
  have hr_law_apart := hr.mono (show 1 ≤ 1 by decide)
  exact (pss_cons (ps_set (i := 1) sc_law_ended.nd rfl (by first | exact Or.inl rfl | exact Or.inr rfl) (pe_ix (u_ix hu) (pv 0) pe_str (fun _ _ => rfl))) (pss_cons (ps_par (i := 2) (j := 3) rfl sc_law_ended.nd rfl rfl (by decide) rfl rfl (pa_cons (pe_ix (u_ix hu) (pv 1) pe_str (fun _ _ => rfl)) (pa_cons (pe_ix (u_ix hu) (pv 1) pe_str (fun _ _ => rfl)) pa_nil)) (by rfl)) (pss_cons (ps_if (pt_tru (pe_ix (u_ix hu) (pv 1) pe_str (fun _ _ => rfl))) (pss_cons (ps_par (i := 4) (j := 5) rfl sc_law_ended.nd rfl rfl (by decide) rfl rfl (pa_cons (pe_op u_sub (pe_ix (u_ix hu) (pv 3) pe_int (fun _ _ => rfl)) (pe_ix (u_ix hu) (pv 2) pe_int (fun _ _ => rfl))) (pa_cons (pe_op u_sub (pe_ix (u_ix hu) (pv 3) pe_int (fun _ _ => rfl)) (pe_ix (u_ix hu) (pv 2) pe_int (fun _ _ => rfl))) pa_nil)) (by rfl)) (pss_cons (ps_if (PW.pt (pw_or (pt_tru (pe_ix (u_ix hu) (pv 1) pe_str (fun _ _ => rfl))) (pw_or (pt_cmpR u_gt (pe_op u_sub (pe_ix (u_ix hu) (pv 0) pe_str (fun _ _ => rfl)) (pe_ix (u_ix hu) (pv 1) pe_str (fun _ _ => rfl))) pe_int (nomark _)) (pw_or1 (pt_cmpR u_lt (pe_call G_law_apart hr_law_apart rfl T.mg_law_apart T.fn_law_apart.kp T.bi_law_apart .nil passX (pa_cons (pv 2) (pa_cons (pv 3) pa_nil))) pe_int (nomark _)))))) (pss_one (ps_ret (pe_tup (pa_cons (pe_lst (pa_cons (pe_tup (pa_cons pe_str (pa_cons (pv 3) pa_nil))) pa_nil)) (pa_cons pe_non pa_nil))))) pss_nil) (pss_cons (ps_set (i := 6) sc_law_ended.nd rfl (by first | exact Or.inl rfl | exact Or.inr rfl) (pe_ifExp (pt_cmpR u_ge (pe_callB call_abs (by rfl) T.no_abs (by decide +kernel) (pa_cons (pv 4) pa_nil)) (pe_callB call_abs (by rfl) T.no_abs (by decide +kernel) (pa_cons (pv 5) pa_nil)) (nomark _)) (pe_ifExp (pt_cmpR u_gt (pv 4) pe_int (nomark _)) pe_str pe_str) (pe_ifExp (pt_cmpR u_gt (pv 5) pe_int (nomark _)) pe_str pe_str))) (pss_one (ps_ret (pe_tup (pa_cons (pe_lst (pa_cons (pe_tup (pa_cons pe_str (pa_cons (pv 6) pa_nil))) pa_nil)) (pa_cons pe_non pa_nil)))))))) pss_nil) (pss_cons (ps_if (pt_tru (pe_ix (u_ix hu) (pv 1) pe_str (fun _ _ => rfl))) (pss_one (ps_ret (pe_tup (pa_cons (pe_lst pa_nil) (pa_cons (pe_ix (u_ix hu) (pv 0) pe_str (fun _ _ => rfl)) pa_nil))))) pss_nil) (pss_cons (ps_if (PW.pt (pw_and (pt_cmpR u_notN (pe_ix (u_ix hu) (pv 0) pe_str (fun _ _ => rfl)) pe_non (nomark _)) (pw_and1 (pt_cmpR u_le (pe_call G_law_apart hr_law_apart rfl T.mg_law_apart T.fn_law_apart.kp T.bi_law_apart .nil passX (pa_cons (pe_ix (u_ix hu) (pe_ix (u_ix hu) (pv 0) pe_str (fun _ _ => rfl)) pe_int (fun _ _ => rfl)) (pa_cons (pv 3) pa_nil))) pe_int (nomark _))))) (pss_one (ps_ret (pe_tup (pa_cons (pe_lst (pa_cons (pe_tup (pa_cons pe_str (pa_cons (pv 3) pa_nil))) pa_nil)) (pa_cons pe_non pa_nil))))) pss_nil) (pss_one (ps_ret (pe_tup (pa_cons (pe_lst (pa_cons (pe_tup (pa_cons pe_str (pa_cons (pv 3) pa_nil))) pa_nil)) (pa_cons (pe_tup (pa_cons (pe_ix (u_ix hu) (pv 0) pe_str (fun _ _ => rfl)) (pa_cons (pv 3) pa_nil))) pa_nil))))))))))
theorem ok_law (T : Txt K mg a) (G_Gestures__init : FnOk P w K mg base (L2.CX P w) 1 a.f_Gestures__init a.fd_Gestures__init ["self"] (sp_Gestures__init K a)) (G_Gestures_cancel : FnOk P w K mg base (L2.CX P w) 1 a.f_Gestures_cancel a.fd_Gestures_cancel ["self"] (sp_Gestures_cancel K a)) (G_Gestures_down : FnOk P w K mg base (L2.CX P w) 3 a.f_Gestures_down a.fd_Gestures_down ["self", "left", "top"] (sp_Gestures_down K a)) (G_Gestures_lift : FnOk P w K mg base (L2.CX P w) 3 a.f_Gestures_lift a.fd_Gestures_lift ["self"] (sp_Gestures_lift K a)) (G_Gestures_move : FnOk P w K mg base (L2.CX P w) 2 a.f_Gestures_move a.fd_Gestures_move ["self", "left", "top"] (sp_Gestures_move K a)) (G_Gestures_need : FnOk P w K mg base (L2.CX P w) 1 a.f_Gestures_need a.fd_Gestures_need ["self"] (sp_Gestures_need K a)) (G_Gestures_tick : FnOk P w K mg base (L2.CX P w) 1 a.f_Gestures_tick a.fd_Gestures_tick ["self"] (sp_Gestures_tick K a)) (G_Touching__init : FnOk P w K mg base (L2.CX P w) 1 a.f_Touching__init a.fd_Touching__init ["self", "left", "top", "time"] (sp_Touching__init K a)) (G_apart : FnOk P w K mg base (L2.CX P w) 1 a.f_apart a.fd_apart ["one", "other"] (sp_apart K a)) (G_law_apart : FnOk P w K mg base (L2.CX P w) 1 a.f_law_apart a.fd_law_apart ["one", "other"] (sp_law_apart K a)) (G_law_ended : FnOk P w K mg base (L2.CX P w) 2 a.f_law_ended a.fd_law_ended ["own"] (sp_law_ended K a)) (G_law_roll : FnOk P w K mg base (L2.CX P w) 1 a.f_law_roll a.fd_law_roll ["dice", "many"] (sp_law_roll K a)) (G_law_rounds : FnOk P w K mg base (L2.CX P w) 2 a.f_law_rounds a.fd_law_rounds ["script", "most"] (sp_law_rounds K a)) (TB : TabB base mg a.cc_law a.tb_law) : FnOk P w K mg base (L2.CX P w) 6 a.f_law a.fd_law ["script"] (sp_law K a) := by
  refine Fun.okXC T.fn_law sc_law (fun _ _ _ _ h => h.1) (fun cdv A outer s H vs Q E hr hcc h => ⟨t_law K a E, ?_, pure_law T h⟩)
  have hu := hr.units
  have hm_Gestures__init := hr.mono (show 2 ≤ 5 by decide)
  have hr_Gestures_cancel := hr.mono (show 1 ≤ 5 by decide)
  have hr_Gestures_tick := hr.mono (show 1 ≤ 5 by decide)
  have hm_Touching__init := hr.mono (show 2 ≤ 5 by decide)
  have hr_apart := hr.mono (show 1 ≤ 5 by decide)
  have hr_law_apart := hr.mono (show 1 ≤ 5 by decide)
  have hr_law_ended := hr.mono (show 2 ≤ 5 by decide)
  have hr_law_roll := hr.mono (show 1 ≤ 5 by decide)
  have hr_law_rounds := hr.mono (show 2 ≤ 5 by decide)
  have hr_lam := hr.mono (show 3 + 2 ≤ 5 by decide)
  obtain ⟨oc1, od1, kV1, doc1, pm1, an1, cd1, ct1, osl1, efd, lkT, hcdT⟩ := T.fn_law_told.ex
  have biT := T.bi_law_told
  rw [efd] at lkT biT
  have hcode : cdv = .ref a.cc_law := hcc.symm.trans T.cd_law
  subst hcode
  exact (pss_cons (ps_for (passes_of rfl) rfl (pi_list (pe_call G_law_rounds hr_law_rounds rfl T.mg_law_rounds T.fn_law_rounds.kp T.bi_law_rounds .nil passX (pa_cons (pv 0) (pa_cons pe_int pa_nil)))) (pg_name (i := 1) sc_law.nd rfl (by first | exact Or.inl rfl | exact Or.inr rfl)) (pss_cons (ps_asg (pe_tup (pa_cons (pe_make0 T.mk_Gestures G_Gestures__init hm_Gestures__init rfl T.mgc_Gestures T.bi_Gestures__init .nil passX) (pa_cons (pe_disp (pps_cons pe_str pe_int (pps_cons pe_str pe_non (pps_cons pe_str pe_non pps_nil))) (by rfl) (by rfl) (fun z => by cases z) (by decide)) (pa_cons (pe_lst pa_nil) pa_nil)))) (pg_tup rfl (pgs_cons (pg_name (i := 2) sc_law.nd rfl (by first | exact Or.inl rfl | exact Or.inr rfl)) (pgs_cons (pg_name (i := 3) sc_law.nd rfl (by first | exact Or.inl rfl | exact Or.inr rfl)) (pgs_cons (pg_name (i := 4) sc_law.nd rfl (by first | exact Or.inl rfl | exact Or.inr rfl)) pgs_nil))))) (pss_cons (ps_for (passes_of rfl) rfl (pi_range1 rfl T.no_range (pa_cons (pe_call G_law_roll hr_law_roll rfl T.mg_law_roll T.fn_law_roll.kp T.bi_law_roll .nil passX (pa_cons (pv 1) (pa_cons pe_int pa_nil))) pa_nil)) (pg_name (i := 5) sc_law.nd rfl (by first | exact Or.inl rfl | exact Or.inr rfl)) (pss_cons (ps_asg (pe_tup (pa_cons (pe_call G_law_roll hr_law_roll rfl T.mg_law_roll T.fn_law_roll.kp T.bi_law_roll .nil passX (pa_cons (pv 1) (pa_cons pe_int pa_nil))) (pa_cons (pe_call G_law_roll hr_law_roll rfl T.mg_law_roll T.fn_law_roll.kp T.bi_law_roll .nil passX (pa_cons (pv 1) (pa_cons (pe_ix (u_ix hu) (pe_lst (pa_cons pe_int (pa_cons pe_int pa_nil))) (pe_call G_law_roll hr_law_roll rfl T.mg_law_roll T.fn_law_roll.kp T.bi_law_roll .nil passX (pa_cons (pv 1) (pa_cons pe_int pa_nil))) (fun _ _ => rfl)) pa_nil))) (pa_cons (pe_call G_law_roll hr_law_roll rfl T.mg_law_roll T.fn_law_roll.kp T.bi_law_roll .nil passX (pa_cons (pv 1) (pa_cons (pe_ix (u_ix hu) (pe_lst (pa_cons pe_int (pa_cons pe_int pa_nil))) (pe_call G_law_roll hr_law_roll rfl T.mg_law_roll T.fn_law_roll.kp T.bi_law_roll .nil passX (pa_cons (pv 1) (pa_cons pe_int pa_nil))) (fun _ _ => rfl)) pa_nil))) pa_nil)))) (pg_tup rfl (pgs_cons (pg_name (i := 6) sc_law.nd rfl (by first | exact Or.inl rfl | exact Or.inr rfl)) (pgs_cons (pg_name (i := 7) sc_law.nd rfl (by first | exact Or.inl rfl | exact Or.inr rfl)) (pgs_cons (pg_name (i := 8) sc_law.nd rfl (by first | exact Or.inl rfl | exact Or.inr rfl)) pgs_nil))))) (pss_cons (ps_set (i := 9) sc_law.nd rfl (by first | exact Or.inl rfl | exact Or.inr rfl) (pe_ix (u_ix hu) (pv 3) pe_str (fun _ _ => rfl))) (pss_cons (ps_if (pt_cmpR u_lt (pv 6) pe_int (nomark _)) (pss_one (ps_for (passes_of rfl) rfl (pi_range1 rfl T.no_range (pa_cons (pe_op u_add pe_int (pe_op u_mul (pe_call G_law_roll hr_law_roll rfl T.mg_law_roll T.fn_law_roll.kp T.bi_law_roll .nil passX (pa_cons (pv 1) (pa_cons pe_int pa_nil))) (pe_callTy call_int1 (by rfl) T.no_int (by decide +kernel) (pa_cons (pe_cmpR (u_eq hu) (pv 6) pe_int (nomark _)) pa_nil)))) pa_nil)) (pg_name (i := 10) sc_law.nd rfl (by first | exact Or.inl rfl | exact Or.inr rfl)) (pss_cons (ps_expr (pe_meth0 (pv 2) T.cl_Gestures T.me_Gestures_tick G_Gestures_tick hr_Gestures_tick T.bi_Gestures_tick .nil passX)) (pss_cons (ps_asg (pe_op u_add (pe_ix (u_ix hu) (pv 3) pe_str (fun _ _ => rfl)) pe_int) (pg_sub (pv 3) pe_str (u_set hu))) (pss_cons (ps_if (PW.pt (pw_and (pt_cmpR u_notN (pv 9) pe_non (nomark _)) (pw_and (pt_not (pt_tru (pe_ix (u_ix hu) (pv 9) pe_str (fun _ _ => rfl)))) (pw_and (pt_not (pt_tru (pe_ix (u_ix hu) (pv 9) pe_str (fun _ _ => rfl)))) (pw_and1 (pt_cmpR u_ge (pe_op u_sub (pe_ix (u_ix hu) (pv 3) pe_str (fun _ _ => rfl)) (pe_ix (u_ix hu) (pv 9) pe_str (fun _ _ => rfl))) pe_int (nomark _))))))) (pss_cons (ps_asg pe_bl (pg_sub (pv 9) pe_str (u_set hu))) (pss_one (ps_expr (pe_bm PySem.F.plainAttrs_list PySem.F.slot_list_append PySem.F.type_list_append mt_append (pv 4) (pa_cons (pe_tup (pa_cons pe_str (pa_cons (pe_ix (u_ix hu) (pv 9) pe_str (fun _ _ => rfl)) pa_nil))) pa_nil))))) pss_nil) (pss_one (ps_if (PW.pt (pw_and (pt_cmpR u_notN (pe_ix (u_ix hu) (pv 3) pe_str (fun _ _ => rfl)) pe_non (nomark _)) (pw_and1 (pt_cmpR u_gt (pe_op u_sub (pe_ix (u_ix hu) (pv 3) pe_str (fun _ _ => rfl)) (pe_ix (u_ix hu) (pe_ix (u_ix hu) (pv 3) pe_str (fun _ _ => rfl)) pe_int (fun _ _ => rfl))) pe_int (nomark _))))) (pss_one (ps_asg pe_non (pg_sub (pv 3) pe_str (u_set hu)))) pss_nil))))))) (pss_one (ps_if (pt_cmpR u_lt (pv 6) pe_int (nomark _)) (pss_cons (ps_if (pt_cmpR (u_ne hu) (pe_cmpR (u_eq hu) (pe_lamcall (T := [(a.tb_law, lamq "law")]) (t := fun E => (tMeth a.c_Gestures "down" (sp_Gestures_down K a) [] E (tVar 2) (tCons (tVar 7) (tCons (tVar 8) tNil)))) rfl T.mg_law_told T.fn_law_told.kp lkT hcdT biT sc_law_told rfl (by first | exact Or.inl rfl | exact Or.inr (Or.inl rfl)) (told_gives rfl T.mgc_ViewFault (by decide) (fun _ => rfl)) TB rfl (List.mem_singleton.mpr rfl) (fun p hp _ => (congrArg Prod.snd (List.mem_singleton.mp hp)).trans rfl) hr_lam (lamS_by (sc := defScope s_law) (by decide +kernel)) rfl (by intros; rfl) (fun A outer s H E f c' hrl => (pe_meth (pv 2) T.cl_Gestures T.me_Gestures_down G_Gestures_down (hrl.mono (by decide)) T.bi_Gestures_down .nil passLam (pa_cons (pv 7) (pa_cons (pv 8) pa_nil))))) pe_str (nomark _)) (pe_cmpR u_notN (pv 9) pe_non (nomark _)) (nomark _)) (pss_one (ps_ret pe_bl)) pss_nil) (pss_one (ps_asg (pe_ifExp (pt_cmpR u_notN (pv 9) pe_non (nomark _)) (pv 9) (pe_disp (pps_cons pe_str (pe_tup (pa_cons (pv 7) (pa_cons (pv 8) pa_nil))) (pps_cons pe_str (pe_tup (pa_cons (pv 7) (pa_cons (pv 8) pa_nil))) (pps_cons pe_str (pe_ix (u_ix hu) (pv 3) pe_str (fun _ _ => rfl)) (pps_cons pe_str pe_bl (pps_cons pe_str pe_bl pps_nil))))) (by rfl) (by rfl) (fun z => by cases z) (by decide))) (pg_sub (pv 3) pe_str (u_set hu))))) (pss_one (ps_if (pt_cmpR u_lt (pv 6) pe_int (nomark _)) (pss_cons (ps_if (pt_cmpR (u_ne hu) (pe_cmpR (u_eq hu) (pe_lamcall (T := [(a.tb_law, lamq "law")]) (t := fun E => (tMeth a.c_Gestures "move" (sp_Gestures_move K a) [] E (tVar 2) (tCons (tVar 7) (tCons (tVar 8) tNil)))) rfl T.mg_law_told T.fn_law_told.kp lkT hcdT biT sc_law_told rfl (by first | exact Or.inl rfl | exact Or.inr (Or.inl rfl)) (told_gives rfl T.mgc_ViewFault (by decide) (fun _ => rfl)) TB rfl (List.mem_singleton.mpr rfl) (fun p hp _ => (congrArg Prod.snd (List.mem_singleton.mp hp)).trans rfl) hr_lam (lamS_by (sc := defScope s_law) (by decide +kernel)) rfl (by intros; rfl) (fun A outer s H E f c' hrl => (pe_meth (pv 2) T.cl_Gestures T.me_Gestures_move G_Gestures_move (hrl.mono (by decide)) T.bi_Gestures_move .nil passLam (pa_cons (pv 7) (pa_cons (pv 8) pa_nil))))) pe_str (nomark _)) (pe_cmpR u_isN (pv 9) pe_non (nomark _)) (nomark _)) (pss_one (ps_ret pe_bl)) pss_nil) (pss_one (ps_if (pt_cmpR u_notN (pv 9) pe_non (nomark _)) (pss_cons (ps_asg (pe_tup (pa_cons (pe_ix (u_ix hu) (pv 9) pe_str (fun _ _ => rfl)) (pa_cons (pe_tup (pa_cons (pv 7) (pa_cons (pv 8) pa_nil))) pa_nil))) (pg_tup rfl (pgs_cons (pg_name (i := 11) sc_law.nd rfl (by first | exact Or.inl rfl | exact Or.inr rfl)) (pgs_cons (pg_sub (pv 9) pe_str (u_set hu)) pgs_nil)))) (pss_one (ps_if (PW.pt (pw_or (pt_tru (pe_ix (u_ix hu) (pv 9) pe_str (fun _ _ => rfl))) (pw_or1 (pt_cmpR u_gt (pe_call G_law_apart hr_law_apart rfl T.mg_law_apart T.fn_law_apart.kp T.bi_law_apart .nil passX (pa_cons (pe_ix (u_ix hu) (pv 9) pe_str (fun _ _ => rfl)) (pa_cons (pe_tup (pa_cons (pv 7) (pa_cons (pv 8) pa_nil))) pa_nil))) pe_int (nomark _))))) (pss_cons (ps_expr (pe_bm PySem.F.plainAttrs_list PySem.F.slot_list_append PySem.F.type_list_append mt_append (pv 4) (pa_cons (pe_tup (pa_cons pe_str (pa_cons (pe_ifExp (pt_tru (pe_ix (u_ix hu) (pv 9) pe_str (fun _ _ => rfl))) (pv 11) (pe_ix (u_ix hu) (pv 9) pe_str (fun _ _ => rfl))) (pa_cons (pe_tup (pa_cons (pv 7) (pa_cons (pv 8) pa_nil))) pa_nil)))) pa_nil))) (pss_one (ps_asg pe_bl (pg_sub (pv 9) pe_str (u_set hu))))) pss_nil))) pss_nil))) (pss_one (ps_if (pt_cmpR (u_eq hu) (pv 6) pe_int (nomark _)) (pss_cons (ps_if (pt_cmpR (u_ne hu) (pe_cmpR (u_eq hu) (pe_lamcall (T := [(a.tb_law, lamq "law")]) (t := fun E => (tMeth a.c_Gestures "lift" (sp_Gestures_lift K a) [] E (tVar 2) tNil)) rfl T.mg_law_told T.fn_law_told.kp lkT hcdT biT sc_law_told rfl (by first | exact Or.inl rfl | exact Or.inr (Or.inl rfl)) (told_gives rfl T.mgc_ViewFault (by decide) (fun _ => rfl)) TB rfl (List.mem_singleton.mpr rfl) (fun p hp _ => (congrArg Prod.snd (List.mem_singleton.mp hp)).trans rfl) hr_lam (lamS_by (sc := defScope s_law) (by decide +kernel)) rfl (by intros; rfl) (fun A outer s H E f c' hrl => (pe_meth0 (pv 2) T.cl_Gestures T.me_Gestures_lift G_Gestures_lift (hrl.mono (by decide)) T.bi_Gestures_lift .nil passLam))) pe_str (nomark _)) (pe_cmpR u_isN (pv 9) pe_non (nomark _)) (nomark _)) (pss_one (ps_ret pe_bl)) pss_nil) (pss_one (ps_if (pt_cmpR u_notN (pv 9) pe_non (nomark _)) (pss_cons (ps_asg (pe_call G_law_ended hr_law_ended rfl T.mg_law_ended T.fn_law_ended.kp T.bi_law_ended .nil passX (pa_cons (pv 3) pa_nil)) (pg_tup rfl (pgs_cons (pg_name (i := 12) sc_law.nd rfl (by first | exact Or.inl rfl | exact Or.inr rfl)) (pgs_cons (pg_name (i := 13) sc_law.nd rfl (by first | exact Or.inl rfl | exact Or.inr rfl)) pgs_nil)))) (pss_one (ps_asg (pe_tup (pa_cons (pe_op u_add (pv 4) (pv 12)) (pa_cons (pv 13) (pa_cons pe_non pa_nil)))) (pg_tup rfl (pgs_cons (pg_name (i := 4) sc_law.nd rfl (by first | exact Or.inl rfl | exact Or.inr rfl)) (pgs_cons (pg_sub (pv 3) pe_str (u_set hu)) (pgs_cons (pg_sub (pv 3) pe_str (u_set hu)) pgs_nil))))))) pss_nil))) (pss_cons (ps_expr (pe_meth0 (pv 2) T.cl_Gestures T.me_Gestures_cancel G_Gestures_cancel hr_Gestures_cancel T.bi_Gestures_cancel .nil passX)) (pss_one (ps_asg pe_non (pg_sub (pv 3) pe_str (u_set hu)))))))))))) (pss_one (ps_if (PW.pt (pw_or (pt_cmpR (u_ne hu) (pe_fld (pv 2) rfl) (pv 4) (nomark _)) (pw_or (pt_cmpR (u_ne hu) (pe_cmpR u_isN (pe_fld (pv 2) rfl) pe_non (nomark _)) (pe_cmpR u_isN (pe_ix (u_ix hu) (pv 3) pe_str (fun _ _ => rfl)) pe_non (nomark _)) (nomark _)) (pw_or1 (pt_cmpR (u_ne hu) (pe_fld (pv 2) rfl) (pe_ix (u_ix hu) (pv 3) pe_str (fun _ _ => rfl)) (nomark _)))))) (pss_one (ps_ret pe_bl)) pss_nil)))))) (pss_cons (ps_par (i := 9) (j := 14) rfl sc_law.nd rfl rfl (by decide) rfl rfl (pa_cons (pe_tup (pa_cons (pe_call G_law_roll hr_law_roll rfl T.mg_law_roll T.fn_law_roll.kp T.bi_law_roll .nil passX (pa_cons (pv 1) (pa_cons pe_int pa_nil))) (pa_cons (pe_call G_law_roll hr_law_roll rfl T.mg_law_roll T.fn_law_roll.kp T.bi_law_roll .nil passX (pa_cons (pv 1) (pa_cons pe_int pa_nil))) pa_nil))) (pa_cons (pe_tup (pa_cons (pe_call G_law_roll hr_law_roll rfl T.mg_law_roll T.fn_law_roll.kp T.bi_law_roll .nil passX (pa_cons (pv 1) (pa_cons pe_int pa_nil))) (pa_cons (pe_call G_law_roll hr_law_roll rfl T.mg_law_roll T.fn_law_roll.kp T.bi_law_roll .nil passX (pa_cons (pv 1) (pa_cons pe_int pa_nil))) pa_nil))) pa_nil)) (by rfl)) (pss_one (ps_if (pt_cmpR (u_ne hu) (pe_call G_apart hr_apart rfl T.mg_apart T.fn_apart.kp T.bi_apart .nil passX (pa_cons (pv 9) (pa_cons (pv 14) pa_nil))) (pe_call G_law_apart hr_law_apart rfl T.mg_law_apart T.fn_law_apart.kp T.bi_law_apart .nil passX (pa_cons (pv 9) (pa_cons (pv 14) pa_nil))) (nomark _)) (pss_one (ps_ret pe_bl)) pss_nil)))))) (pss_one (ps_ret (pe_and (pe_cmpR (u_eq hu) (pe_fld (pe_make T.mk_Touching G_Touching__init hm_Touching__init rfl T.mgc_Touching T.bi_Touching__init .nil passX (pa_cons pe_int (pa_cons pe_int (pa_cons pe_int pa_nil)))) rfl) (pe_tup (pa_cons pe_int (pa_cons pe_int pa_nil))) (nomark _)) (pe_and (pe_cmpR (u_eq hu) (pe_fld (pe_make0 T.mk_Gestures G_Gestures__init hm_Gestures__init rfl T.mgc_Gestures T.bi_Gestures__init .nil passX) rfl) (pe_lst pa_nil) (nomark _)) (pe_one (pe_cmpR (u_eq hu) (pe_lamcall (T := [(a.tb_law, lamq "law")]) (t := fun E => (tMeth a.c_Gestures "need" (sp_Gestures_need K a) [] E (tMake a.c_Gestures (sp_Gestures__init K a) [] E tNil) tNil)) rfl T.mg_law_told T.fn_law_told.kp lkT hcdT biT sc_law_told rfl (by first | exact Or.inl rfl | exact Or.inr (Or.inl rfl)) (told_gives rfl T.mgc_ViewFault (by decide) (fun _ => rfl)) TB rfl (List.mem_singleton.mpr rfl) (fun p hp _ => (congrArg Prod.snd (List.mem_singleton.mp hp)).trans rfl) hr_lam (lamS_by (sc := defScope s_law) (by decide +kernel)) rfl (by intros; rfl) (fun A outer s H E f c' hrl => (pe_meth0 (pe_make0 T.mk_Gestures G_Gestures__init (hrl.mono (by decide)) rfl T.mgc_Gestures T.bi_Gestures__init .nil passLam) T.cl_Gestures T.me_Gestures_need G_Gestures_need (hrl.mono (by decide)) T.bi_Gestures_need .nil passLam))) pe_str (nomark _))))))))
end
end Wk
namespace Wk
open PySem PySem.Spec PyProof.Rows L2 Ph
open LamX (TabB)
section
variable {P : Program} {w : World} {K : PySem.W.Frag} {mg : Str → Option Value} {base : Heap} {a : Adr}
theorem ok_all (T : Txt K mg a) (TB : TabB base mg a.cc_law a.tb_law) : FnOk P w K mg base (L2.CX P w) 6 a.f_law a.fd_law ["script"] (sp_law K a) := by
  have G_Gestures__init : FnOk P w K mg base (L2.CX P w) 1 a.f_Gestures__init a.fd_Gestures__init ["self"] (sp_Gestures__init K a) := ok_Gestures__init T 
  have G_Gestures_cancel : FnOk P w K mg base (L2.CX P w) 1 a.f_Gestures_cancel a.fd_Gestures_cancel ["self"] (sp_Gestures_cancel K a) := ok_Gestures_cancel T 
  have G_Touching__init : FnOk P w K mg base (L2.CX P w) 1 a.f_Touching__init a.fd_Touching__init ["self", "left", "top", "time"] (sp_Touching__init K a) := ok_Touching__init T 
  have G_Gestures_down : FnOk P w K mg base (L2.CX P w) 3 a.f_Gestures_down a.fd_Gestures_down ["self", "left", "top"] (sp_Gestures_down K a) := ok_Gestures_down T G_Touching__init
  have G_apart : FnOk P w K mg base (L2.CX P w) 1 a.f_apart a.fd_apart ["one", "other"] (sp_apart K a) := ok_apart T 
  have G_Gestures_end_of_drag : FnOk P w K mg base (L2.CX P w) 2 a.f_Gestures_end_of_drag a.fd_Gestures_end_of_drag ["self", "one"] (sp_Gestures_end_of_drag K a) := ok_Gestures_end_of_drag T G_apart
  have G_Gestures_need : FnOk P w K mg base (L2.CX P w) 1 a.f_Gestures_need a.fd_Gestures_need ["self"] (sp_Gestures_need K a) := ok_Gestures_need T 
  have G_Gestures_lift : FnOk P w K mg base (L2.CX P w) 3 a.f_Gestures_lift a.fd_Gestures_lift ["self"] (sp_Gestures_lift K a) := ok_Gestures_lift T G_Gestures_end_of_drag G_Gestures_need G_apart
  have G_Gestures_move : FnOk P w K mg base (L2.CX P w) 2 a.f_Gestures_move a.fd_Gestures_move ["self", "left", "top"] (sp_Gestures_move K a) := ok_Gestures_move T G_Gestures_need G_apart
  have G_Gestures_tick : FnOk P w K mg base (L2.CX P w) 1 a.f_Gestures_tick a.fd_Gestures_tick ["self"] (sp_Gestures_tick K a) := ok_Gestures_tick T 
  have G_law_apart : FnOk P w K mg base (L2.CX P w) 1 a.f_law_apart a.fd_law_apart ["one", "other"] (sp_law_apart K a) := ok_law_apart T 
  have G_law_ended : FnOk P w K mg base (L2.CX P w) 2 a.f_law_ended a.fd_law_ended ["own"] (sp_law_ended K a) := ok_law_ended T G_law_apart
  have G_law_roll : FnOk P w K mg base (L2.CX P w) 1 a.f_law_roll a.fd_law_roll ["dice", "many"] (sp_law_roll K a) := ok_law_roll T 
  have G_law_dice : FnOk P w K mg base (L2.CX P w) 1 a.f_law_dice a.fd_law_dice ["cell"] (sp_law_dice K a) := ok_law_dice T 
  have G_law_rounds : FnOk P w K mg base (L2.CX P w) 2 a.f_law_rounds a.fd_law_rounds ["script", "most"] (sp_law_rounds K a) := ok_law_rounds T G_law_dice
  exact ok_law T G_Gestures__init G_Gestures_cancel G_Gestures_down G_Gestures_lift G_Gestures_move G_Gestures_need G_Gestures_tick G_Touching__init G_apart G_law_apart G_law_ended G_law_roll G_law_rounds TB
end
section
theorem exm_self {K : PySem.W.Frag} {S : Addr} (h1 : PySem.W.subIn K (.ref S) (.type "BaseException") = some true) (h2 : PySem.W.isClsIn K S = true) (h3 : PySem.W.typeIn K (.ref S) = some (.type "type")) (h4 : PySem.W.subIn K (.ref S) (.ref S) = some true) : PySem.W.exmOne K (.ref S) (.ref S) = some true := by
  have q2 : (PySem.W.clsIn K S).isSome = true := h2
  show (if (PySem.W.subIn K (.ref S) (.type "BaseException") == some true) = true then (if ((PySem.W.clsIn K S).isSome && PySem.W.typeIn K (.ref S) == some (.type "type")) = true then PySem.W.subIn K (.ref S) (.ref S) else none) else none) = some true
  rw [h1, q2, h3, h4]
  rfl
theorem all_mk {K : PySem.W.Frag} {h : Heap} {mg : Str → Option Value} {fa c_Touching c_Gestures c_ViewFault f_Touching__init f_Gestures__init f_Gestures_tick f_Gestures_down f_Gestures_move f_Gestures_lift f_Gestures_end_of_drag f_Gestures_cancel f_Gestures_need f_apart f_law_dice f_law_roll f_law_rounds f_law_told f_law_apart f_law_ended f_law cc_law tb_law : Addr} (X : K.In h) (G : h.Ns mainGlobals mg) (hfa : mg "law" = some (.ref fa)) {od_0 an_0 : Option Addr} {sl_0 : Array (Option Value)} {oc_0 kV_0 dc_0 pm_0 ct_0 cd_0 : Value} {od_1 an_1 : Option Addr} {sl_1 : Array (Option Value)} {oc_1 kV_1 dc_1 pm_1 ct_1 cd_1 : Value} {od_2 an_2 : Option Addr} {sl_2 : Array (Option Value)} {oc_2 kV_2 dc_2 pm_2 ct_2 cd_2 : Value} {od_3 an_3 : Option Addr} {sl_3 : Array (Option Value)} {oc_3 kV_3 dc_3 pm_3 ct_3 cd_3 : Value} {od_4 an_4 : Option Addr} {sl_4 : Array (Option Value)} {oc_4 kV_4 dc_4 pm_4 ct_4 cd_4 : Value} {od_5 an_5 : Option Addr} {sl_5 : Array (Option Value)} {oc_5 kV_5 dc_5 pm_5 ct_5 cd_5 : Value} {od_6 an_6 : Option Addr} {sl_6 : Array (Option Value)} {oc_6 kV_6 dc_6 pm_6 ct_6 cd_6 : Value} {od_7 an_7 : Option Addr} {sl_7 : Array (Option Value)} {oc_7 kV_7 dc_7 pm_7 ct_7 cd_7 : Value} {od_8 an_8 : Option Addr} {sl_8 : Array (Option Value)} {oc_8 kV_8 dc_8 pm_8 ct_8 cd_8 : Value} {od_9 an_9 : Option Addr} {sl_9 : Array (Option Value)} {oc_9 kV_9 dc_9 pm_9 ct_9 cd_9 : Value} {od_10 an_10 : Option Addr} {sl_10 : Array (Option Value)} {oc_10 kV_10 dc_10 pm_10 ct_10 cd_10 : Value} {od_11 an_11 : Option Addr} {sl_11 : Array (Option Value)} {oc_11 kV_11 dc_11 pm_11 ct_11 cd_11 : Value} {od_12 an_12 : Option Addr} {sl_12 : Array (Option Value)} {oc_12 kV_12 dc_12 pm_12 ct_12 cd_12 : Value} {od_13 an_13 : Option Addr} {sl_13 : Array (Option Value)} {oc_13 kV_13 dc_13 pm_13 ct_13 cd_13 : Value} {od_14 an_14 : Option Addr} {sl_14 : Array (Option Value)} {oc_14 kV_14 dc_14 pm_14 ct_14 cd_14 : Value} {od_15 an_15 : Option Addr} {sl_15 : Array (Option Value)} {oc_15 kV_15 dc_15 pm_15 ct_15 cd_15 : Value} {od_16 an_16 : Option Addr} {sl_16 : Array (Option Value)} {oc_16 kV_16 dc_16 pm_16 ct_16 : Value} {tk_DOUBLE : Tok} {tk_FAR : Tok} {tk_LONG : Tok} {tk_NEAR : Tok}
    (h1 : PySem.W.plainGet K c_Touching Str.empty = true)
    (h2 : PySem.W.hasDictIn K c_Touching = true)
    (h3 : PySem.W.plainOver K c_Touching = true)
    (h4 : PySem.W.findIn K (.ref c_Touching) "__setattr__" = some (some (.builtin "object.__setattr__")))
    (h5 : PySem.W.findIn K (.ref c_Touching) "first" = some none)
    (h6 : PySem.W.findIn K (.ref c_Touching) "begun" = some none)
    (h7 : PySem.W.findIn K (.ref c_Touching) "place" = some none)
    (h8 : PySem.W.findIn K (.ref c_Touching) "moved" = some none)
    (h9 : PySem.W.findIn K (.ref c_Touching) "is_long" = some none)
    (h10 : PySem.W.nsIn K mainGlobals "Touching" = some (some (.ref c_Touching)))
    (h11 : PySem.W.makesIn K c_Touching = true)
    (h12 : PySem.W.findIn K (.ref c_Touching) "__init__" = some (some (.ref f_Touching__init)))
    (h13 : PySem.W.isFn K (.ref f_Touching__init) = true)
    (h14 : PySem.W.keepIn K (.ref c_Touching) = true)
    (h15 : PySem.W.plainGet K c_Gestures Str.empty = true)
    (h16 : PySem.W.hasDictIn K c_Gestures = true)
    (h17 : PySem.W.plainOver K c_Gestures = true)
    (h18 : PySem.W.findIn K (.ref c_Gestures) "__setattr__" = some (some (.builtin "object.__setattr__")))
    (h19 : PySem.W.findIn K (.ref c_Gestures) "finger" = some none)
    (h20 : PySem.W.findIn K (.ref c_Gestures) "last_tap" = some none)
    (h21 : PySem.W.findIn K (.ref c_Gestures) "told" = some none)
    (h22 : PySem.W.findIn K (.ref c_Gestures) "time" = some none)
    (h23 : PySem.W.nsIn K mainGlobals "Gestures" = some (some (.ref c_Gestures)))
    (h24 : PySem.W.makesIn K c_Gestures = true)
    (h25 : PySem.W.findIn K (.ref c_Gestures) "__init__" = some (some (.ref f_Gestures__init)))
    (h26 : PySem.W.isFn K (.ref f_Gestures__init) = true)
    (h27 : PySem.W.keepIn K (.ref c_Gestures) = true)
    (h28 : K.lookup f_Touching__init = some ⟨oc_0, od_0, .func (PySem.W.fnOf "__init__" "Touching.__init__" (defArgs s_Touching__init) (defBody s_Touching__init) (defScope s_Touching__init) .none kV_0 dc_0 pm_0 an_0 cd_0 ct_0), sl_0⟩)
    (h29 : PySem.W.codeIn K cd_0 "Touching.__init__" = true)
    (h30 : PySem.W.keepIn K (.ref f_Touching__init) = true)
    (h31 : K.lookup f_Gestures__init = some ⟨oc_1, od_1, .func (PySem.W.fnOf "__init__" "Gestures.__init__" (defArgs s_Gestures__init) (defBody s_Gestures__init) (defScope s_Gestures__init) .none kV_1 dc_1 pm_1 an_1 cd_1 ct_1), sl_1⟩)
    (h32 : PySem.W.codeIn K cd_1 "Gestures.__init__" = true)
    (h33 : PySem.W.keepIn K (.ref f_Gestures__init) = true)
    (h34 : PySem.W.findIn K (.ref c_Gestures) "tick" = some (some (.ref f_Gestures_tick)))
    (h35 : PySem.W.isFn K (.ref f_Gestures_tick) = true)
    (h36 : PySem.W.keepIn K (.ref f_Gestures_tick) = true)
    (h37 : K.lookup f_Gestures_tick = some ⟨oc_2, od_2, .func (PySem.W.fnOf "tick" "Gestures.tick" (defArgs s_Gestures_tick) (defBody s_Gestures_tick) (defScope s_Gestures_tick) .none kV_2 dc_2 pm_2 an_2 cd_2 ct_2), sl_2⟩)
    (h38 : PySem.W.codeIn K cd_2 "Gestures.tick" = true)
    (h39 : PySem.W.findIn K (.ref c_Gestures) "down" = some (some (.ref f_Gestures_down)))
    (h40 : PySem.W.isFn K (.ref f_Gestures_down) = true)
    (h41 : PySem.W.keepIn K (.ref f_Gestures_down) = true)
    (h42 : K.lookup f_Gestures_down = some ⟨oc_3, od_3, .func (PySem.W.fnOf "down" "Gestures.down" (defArgs s_Gestures_down) (defBody s_Gestures_down) (defScope s_Gestures_down) .none kV_3 dc_3 pm_3 an_3 cd_3 ct_3), sl_3⟩)
    (h43 : PySem.W.codeIn K cd_3 "Gestures.down" = true)
    (h44 : PySem.W.findIn K (.ref c_Gestures) "move" = some (some (.ref f_Gestures_move)))
    (h45 : PySem.W.isFn K (.ref f_Gestures_move) = true)
    (h46 : PySem.W.keepIn K (.ref f_Gestures_move) = true)
    (h47 : K.lookup f_Gestures_move = some ⟨oc_4, od_4, .func (PySem.W.fnOf "move" "Gestures.move" (defArgs s_Gestures_move) (defBody s_Gestures_move) (defScope s_Gestures_move) .none kV_4 dc_4 pm_4 an_4 cd_4 ct_4), sl_4⟩)
    (h48 : PySem.W.codeIn K cd_4 "Gestures.move" = true)
    (h49 : PySem.W.findIn K (.ref c_Gestures) "lift" = some (some (.ref f_Gestures_lift)))
    (h50 : PySem.W.isFn K (.ref f_Gestures_lift) = true)
    (h51 : PySem.W.keepIn K (.ref f_Gestures_lift) = true)
    (h52 : K.lookup f_Gestures_lift = some ⟨oc_5, od_5, .func (PySem.W.fnOf "lift" "Gestures.lift" (defArgs s_Gestures_lift) (defBody s_Gestures_lift) (defScope s_Gestures_lift) .none kV_5 dc_5 pm_5 an_5 cd_5 ct_5), sl_5⟩)
    (h53 : PySem.W.codeIn K cd_5 "Gestures.lift" = true)
    (h54 : PySem.W.findIn K (.ref c_Gestures) "end_of_drag" = some (some (.ref f_Gestures_end_of_drag)))
    (h55 : PySem.W.isFn K (.ref f_Gestures_end_of_drag) = true)
    (h56 : PySem.W.keepIn K (.ref f_Gestures_end_of_drag) = true)
    (h57 : K.lookup f_Gestures_end_of_drag = some ⟨oc_6, od_6, .func (PySem.W.fnOf "end_of_drag" "Gestures.end_of_drag" (defArgs s_Gestures_end_of_drag) (defBody s_Gestures_end_of_drag) (defScope s_Gestures_end_of_drag) .none kV_6 dc_6 pm_6 an_6 cd_6 ct_6), sl_6⟩)
    (h58 : PySem.W.codeIn K cd_6 "Gestures.end_of_drag" = true)
    (h59 : PySem.W.findIn K (.ref c_Gestures) "cancel" = some (some (.ref f_Gestures_cancel)))
    (h60 : PySem.W.isFn K (.ref f_Gestures_cancel) = true)
    (h61 : PySem.W.keepIn K (.ref f_Gestures_cancel) = true)
    (h62 : K.lookup f_Gestures_cancel = some ⟨oc_7, od_7, .func (PySem.W.fnOf "cancel" "Gestures.cancel" (defArgs s_Gestures_cancel) (defBody s_Gestures_cancel) (defScope s_Gestures_cancel) .none kV_7 dc_7 pm_7 an_7 cd_7 ct_7), sl_7⟩)
    (h63 : PySem.W.codeIn K cd_7 "Gestures.cancel" = true)
    (h64 : PySem.W.findIn K (.ref c_Gestures) "need" = some (some (.ref f_Gestures_need)))
    (h65 : PySem.W.isFn K (.ref f_Gestures_need) = true)
    (h66 : PySem.W.keepIn K (.ref f_Gestures_need) = true)
    (h67 : K.lookup f_Gestures_need = some ⟨oc_8, od_8, .func (PySem.W.fnOf "need" "Gestures.need" (defArgs s_Gestures_need) (defBody s_Gestures_need) (defScope s_Gestures_need) .none kV_8 dc_8 pm_8 an_8 cd_8 ct_8), sl_8⟩)
    (h68 : PySem.W.codeIn K cd_8 "Gestures.need" = true)
    (h69 : PySem.W.nsIn K mainGlobals "apart" = some (some (.ref f_apart)))
    (h70 : K.lookup f_apart = some ⟨oc_9, od_9, .func (PySem.W.fnOf "apart" "apart" (defArgs s_apart) (defBody s_apart) (defScope s_apart) .none kV_9 dc_9 pm_9 an_9 cd_9 ct_9), sl_9⟩)
    (h71 : PySem.W.codeIn K cd_9 "apart" = true)
    (h72 : PySem.W.keepIn K (.ref f_apart) = true)
    (h73 : PySem.W.nsIn K mainGlobals "_law_dice" = some (some (.ref f_law_dice)))
    (h74 : K.lookup f_law_dice = some ⟨oc_10, od_10, .func (PySem.W.fnOf "_law_dice" "_law_dice" (defArgs s_law_dice) (defBody s_law_dice) (defScope s_law_dice) .none kV_10 dc_10 pm_10 an_10 cd_10 ct_10), sl_10⟩)
    (h75 : PySem.W.codeIn K cd_10 "_law_dice" = true)
    (h76 : PySem.W.keepIn K (.ref f_law_dice) = true)
    (h77 : PySem.W.nsIn K mainGlobals "_law_roll" = some (some (.ref f_law_roll)))
    (h78 : K.lookup f_law_roll = some ⟨oc_11, od_11, .func (PySem.W.fnOf "_law_roll" "_law_roll" (defArgs s_law_roll) (defBody s_law_roll) (defScope s_law_roll) .none kV_11 dc_11 pm_11 an_11 cd_11 ct_11), sl_11⟩)
    (h79 : PySem.W.codeIn K cd_11 "_law_roll" = true)
    (h80 : PySem.W.keepIn K (.ref f_law_roll) = true)
    (h81 : PySem.W.nsIn K mainGlobals "_law_rounds" = some (some (.ref f_law_rounds)))
    (h82 : K.lookup f_law_rounds = some ⟨oc_12, od_12, .func (PySem.W.fnOf "_law_rounds" "_law_rounds" (defArgs s_law_rounds) (defBody s_law_rounds) (defScope s_law_rounds) .none kV_12 dc_12 pm_12 an_12 cd_12 ct_12), sl_12⟩)
    (h83 : PySem.W.codeIn K cd_12 "_law_rounds" = true)
    (h84 : PySem.W.keepIn K (.ref f_law_rounds) = true)
    (h85 : PySem.W.nsIn K mainGlobals "_law_told" = some (some (.ref f_law_told)))
    (h86 : K.lookup f_law_told = some ⟨oc_13, od_13, .func (PySem.W.fnOf "_law_told" "_law_told" (defArgs s_law_told) (defBody s_law_told) (defScope s_law_told) .none kV_13 dc_13 pm_13 an_13 cd_13 ct_13), sl_13⟩)
    (h87 : PySem.W.codeIn K cd_13 "_law_told" = true)
    (h88 : PySem.W.keepIn K (.ref f_law_told) = true)
    (h89 : PySem.W.nsIn K mainGlobals "_law_apart" = some (some (.ref f_law_apart)))
    (h90 : K.lookup f_law_apart = some ⟨oc_14, od_14, .func (PySem.W.fnOf "_law_apart" "_law_apart" (defArgs s_law_apart) (defBody s_law_apart) (defScope s_law_apart) .none kV_14 dc_14 pm_14 an_14 cd_14 ct_14), sl_14⟩)
    (h91 : PySem.W.codeIn K cd_14 "_law_apart" = true)
    (h92 : PySem.W.keepIn K (.ref f_law_apart) = true)
    (h93 : PySem.W.nsIn K mainGlobals "_law_ended" = some (some (.ref f_law_ended)))
    (h94 : K.lookup f_law_ended = some ⟨oc_15, od_15, .func (PySem.W.fnOf "_law_ended" "_law_ended" (defArgs s_law_ended) (defBody s_law_ended) (defScope s_law_ended) .none kV_15 dc_15 pm_15 an_15 cd_15 ct_15), sl_15⟩)
    (h95 : PySem.W.codeIn K cd_15 "_law_ended" = true)
    (h96 : PySem.W.keepIn K (.ref f_law_ended) = true)
    (h97 : PySem.W.nsIn K mainGlobals "law" = some (some (.ref f_law)))
    (h98 : K.lookup f_law = some ⟨oc_16, od_16, .func (PySem.W.fnOf "law" "law" (defArgs s_law) (defBody s_law) (defScope s_law) .none kV_16 dc_16 pm_16 an_16 (.ref cc_law) ct_16), sl_16⟩)
    (h99 : PySem.W.codeIn K (.ref cc_law) "law" = true)
    (h100 : PySem.W.keepIn K (.ref f_law) = true)
    (h101 : PySem.W.nsIn K mainGlobals "abs" = some none)
    (h102 : PySem.W.nsIn K mainGlobals "int" = some none)
    (h103 : PySem.W.nsIn K mainGlobals "max" = some none)
    (h104 : PySem.W.nsIn K mainGlobals "range" = some none)
    (h105 : PySem.W.nsIn K mainGlobals "DOUBLE" = some (some (.int 6 tk_DOUBLE)))
    (h106 : PySem.W.nsIn K mainGlobals "FAR" = some (some (.int 12 tk_FAR)))
    (h107 : PySem.W.nsIn K mainGlobals "LONG" = some (some (.int 10 tk_LONG)))
    (h108 : PySem.W.nsIn K mainGlobals "NEAR" = some (some (.int 3 tk_NEAR)))
    (h109 : PySem.W.nsIn K mainGlobals "ViewFault" = some (some (.ref c_ViewFault)))
    (h110 : PySem.W.excIn K c_ViewFault [.type "ValueError", .type "Exception", .type "BaseException", .type "object"] "ValueError.__new__" = true)
    (h111 : PySem.W.keepIn K (.ref c_ViewFault) = true)
    (h112 : PySem.W.subIn K (.ref c_ViewFault) (.type "BaseException") = some true)
    (h113 : PySem.W.typeIn K (.ref c_ViewFault) = some (.type "type"))
    (h114 : PySem.W.isClsIn K c_ViewFault = true)
    (h115 : PySem.W.subIn K (.ref c_ViewFault) (.ref c_ViewFault) = some true) :
    ∃ a : Adr, a.f_law = fa ∧ Txt K mg a ∧ a.cc_law = cc_law ∧ a.tb_law = tb_law ∧ ∀ (s : Shared) (v : Value), BindsTo s a.fd_law ⟨[v], []⟩ [("script", v)] := by
  have e := hfa.symm.trans (PySem.W.mg_of X G h97)
  cases e
  exact ⟨⟨c_Touching, c_Gestures, c_ViewFault, f_Touching__init, PySem.W.fnOf "__init__" "Touching.__init__" (defArgs s_Touching__init) (defBody s_Touching__init) (defScope s_Touching__init) .none kV_0 dc_0 pm_0 an_0 cd_0 ct_0, f_Gestures__init, PySem.W.fnOf "__init__" "Gestures.__init__" (defArgs s_Gestures__init) (defBody s_Gestures__init) (defScope s_Gestures__init) .none kV_1 dc_1 pm_1 an_1 cd_1 ct_1, f_Gestures_tick, PySem.W.fnOf "tick" "Gestures.tick" (defArgs s_Gestures_tick) (defBody s_Gestures_tick) (defScope s_Gestures_tick) .none kV_2 dc_2 pm_2 an_2 cd_2 ct_2, f_Gestures_down, PySem.W.fnOf "down" "Gestures.down" (defArgs s_Gestures_down) (defBody s_Gestures_down) (defScope s_Gestures_down) .none kV_3 dc_3 pm_3 an_3 cd_3 ct_3, f_Gestures_move, PySem.W.fnOf "move" "Gestures.move" (defArgs s_Gestures_move) (defBody s_Gestures_move) (defScope s_Gestures_move) .none kV_4 dc_4 pm_4 an_4 cd_4 ct_4, f_Gestures_lift, PySem.W.fnOf "lift" "Gestures.lift" (defArgs s_Gestures_lift) (defBody s_Gestures_lift) (defScope s_Gestures_lift) .none kV_5 dc_5 pm_5 an_5 cd_5 ct_5, f_Gestures_end_of_drag, PySem.W.fnOf "end_of_drag" "Gestures.end_of_drag" (defArgs s_Gestures_end_of_drag) (defBody s_Gestures_end_of_drag) (defScope s_Gestures_end_of_drag) .none kV_6 dc_6 pm_6 an_6 cd_6 ct_6, f_Gestures_cancel, PySem.W.fnOf "cancel" "Gestures.cancel" (defArgs s_Gestures_cancel) (defBody s_Gestures_cancel) (defScope s_Gestures_cancel) .none kV_7 dc_7 pm_7 an_7 cd_7 ct_7, f_Gestures_need, PySem.W.fnOf "need" "Gestures.need" (defArgs s_Gestures_need) (defBody s_Gestures_need) (defScope s_Gestures_need) .none kV_8 dc_8 pm_8 an_8 cd_8 ct_8, f_apart, PySem.W.fnOf "apart" "apart" (defArgs s_apart) (defBody s_apart) (defScope s_apart) .none kV_9 dc_9 pm_9 an_9 cd_9 ct_9, f_law_dice, PySem.W.fnOf "_law_dice" "_law_dice" (defArgs s_law_dice) (defBody s_law_dice) (defScope s_law_dice) .none kV_10 dc_10 pm_10 an_10 cd_10 ct_10, f_law_roll, PySem.W.fnOf "_law_roll" "_law_roll" (defArgs s_law_roll) (defBody s_law_roll) (defScope s_law_roll) .none kV_11 dc_11 pm_11 an_11 cd_11 ct_11, f_law_rounds, PySem.W.fnOf "_law_rounds" "_law_rounds" (defArgs s_law_rounds) (defBody s_law_rounds) (defScope s_law_rounds) .none kV_12 dc_12 pm_12 an_12 cd_12 ct_12, f_law_told, PySem.W.fnOf "_law_told" "_law_told" (defArgs s_law_told) (defBody s_law_told) (defScope s_law_told) .none kV_13 dc_13 pm_13 an_13 cd_13 ct_13, f_law_apart, PySem.W.fnOf "_law_apart" "_law_apart" (defArgs s_law_apart) (defBody s_law_apart) (defScope s_law_apart) .none kV_14 dc_14 pm_14 an_14 cd_14 ct_14, f_law_ended, PySem.W.fnOf "_law_ended" "_law_ended" (defArgs s_law_ended) (defBody s_law_ended) (defScope s_law_ended) .none kV_15 dc_15 pm_15 an_15 cd_15 ct_15, fa, PySem.W.fnOf "law" "law" (defArgs s_law) (defBody s_law) (defScope s_law) .none kV_16 dc_16 pm_16 an_16 (.ref cc_law) ct_16, cc_law, tb_law⟩, rfl,
    { cl_Touching := ⟨h1, h2, h3, h4⟩,
      na_Touching_first := h5,
      na_Touching_begun := h6,
      na_Touching_place := h7,
      na_Touching_moved := h8,
      na_Touching_is_long := h9,
      mgc_Touching := PySem.W.mg_of X G h10,
      mk_Touching := ⟨h11, h12, h13, h14⟩,
      cl_Gestures := ⟨h15, h16, h17, h18⟩,
      na_Gestures_finger := h19,
      na_Gestures_last_tap := h20,
      na_Gestures_told := h21,
      na_Gestures_time := h22,
      mgc_Gestures := PySem.W.mg_of X G h23,
      mk_Gestures := ⟨h24, h25, h26, h27⟩,
      fn_Touching__init := fun_mk (st := s_Touching__init) h28 h29 h30,
      bi_Touching__init := (fun_mk (st := s_Touching__init) h28 h29 h30).binds (ps := ["self", "left", "top", "time"]) fun _ _ _ _ _ _ us hl => match us, hl with | [_, _, _, _], _ => rfl,
      fn_Gestures__init := fun_mk (st := s_Gestures__init) h31 h32 h33,
      bi_Gestures__init := (fun_mk (st := s_Gestures__init) h31 h32 h33).binds (ps := ["self"]) fun _ _ _ _ _ _ us hl => match us, hl with | [_], _ => rfl,
      me_Gestures_tick := ⟨h34, h35, h36⟩,
      fn_Gestures_tick := fun_mk (st := s_Gestures_tick) h37 h38 h36,
      bi_Gestures_tick := (fun_mk (st := s_Gestures_tick) h37 h38 h36).binds (ps := ["self"]) fun _ _ _ _ _ _ us hl => match us, hl with | [_], _ => rfl,
      me_Gestures_down := ⟨h39, h40, h41⟩,
      fn_Gestures_down := fun_mk (st := s_Gestures_down) h42 h43 h41,
      bi_Gestures_down := (fun_mk (st := s_Gestures_down) h42 h43 h41).binds (ps := ["self", "left", "top"]) fun _ _ _ _ _ _ us hl => match us, hl with | [_, _, _], _ => rfl,
      me_Gestures_move := ⟨h44, h45, h46⟩,
      fn_Gestures_move := fun_mk (st := s_Gestures_move) h47 h48 h46,
      bi_Gestures_move := (fun_mk (st := s_Gestures_move) h47 h48 h46).binds (ps := ["self", "left", "top"]) fun _ _ _ _ _ _ us hl => match us, hl with | [_, _, _], _ => rfl,
      me_Gestures_lift := ⟨h49, h50, h51⟩,
      fn_Gestures_lift := fun_mk (st := s_Gestures_lift) h52 h53 h51,
      bi_Gestures_lift := (fun_mk (st := s_Gestures_lift) h52 h53 h51).binds (ps := ["self"]) fun _ _ _ _ _ _ us hl => match us, hl with | [_], _ => rfl,
      me_Gestures_end_of_drag := ⟨h54, h55, h56⟩,
      fn_Gestures_end_of_drag := fun_mk (st := s_Gestures_end_of_drag) h57 h58 h56,
      bi_Gestures_end_of_drag := (fun_mk (st := s_Gestures_end_of_drag) h57 h58 h56).binds (ps := ["self", "one"]) fun _ _ _ _ _ _ us hl => match us, hl with | [_, _], _ => rfl,
      me_Gestures_cancel := ⟨h59, h60, h61⟩,
      fn_Gestures_cancel := fun_mk (st := s_Gestures_cancel) h62 h63 h61,
      bi_Gestures_cancel := (fun_mk (st := s_Gestures_cancel) h62 h63 h61).binds (ps := ["self"]) fun _ _ _ _ _ _ us hl => match us, hl with | [_], _ => rfl,
      me_Gestures_need := ⟨h64, h65, h66⟩,
      fn_Gestures_need := fun_mk (st := s_Gestures_need) h67 h68 h66,
      bi_Gestures_need := (fun_mk (st := s_Gestures_need) h67 h68 h66).binds (ps := ["self"]) fun _ _ _ _ _ _ us hl => match us, hl with | [_], _ => rfl,
      mg_apart := PySem.W.mg_of X G h69,
      fn_apart := fun_mk (st := s_apart) h70 h71 h72,
      bi_apart := (fun_mk (st := s_apart) h70 h71 h72).binds (ps := ["one", "other"]) fun _ _ _ _ _ _ us hl => match us, hl with | [_, _], _ => rfl,
      mg_law_dice := PySem.W.mg_of X G h73,
      fn_law_dice := fun_mk (st := s_law_dice) h74 h75 h76,
      bi_law_dice := (fun_mk (st := s_law_dice) h74 h75 h76).binds (ps := ["cell"]) fun _ _ _ _ _ _ us hl => match us, hl with | [_], _ => rfl,
      mg_law_roll := PySem.W.mg_of X G h77,
      fn_law_roll := fun_mk (st := s_law_roll) h78 h79 h80,
      bi_law_roll := (fun_mk (st := s_law_roll) h78 h79 h80).binds (ps := ["dice", "many"]) fun _ _ _ _ _ _ us hl => match us, hl with | [_, _], _ => rfl,
      mg_law_rounds := PySem.W.mg_of X G h81,
      fn_law_rounds := fun_mk (st := s_law_rounds) h82 h83 h84,
      bi_law_rounds := (fun_mk (st := s_law_rounds) h82 h83 h84).binds (ps := ["script", "most"]) fun _ _ _ _ _ _ us hl => match us, hl with | [_, _], _ => rfl,
      mg_law_told := PySem.W.mg_of X G h85,
      fn_law_told := fun_mk (st := s_law_told) h86 h87 h88,
      bi_law_told := (fun_mk (st := s_law_told) h86 h87 h88).binds (ps := ["what"]) fun _ _ _ _ _ _ us hl => match us, hl with | [_], _ => rfl,
      mg_law_apart := PySem.W.mg_of X G h89,
      fn_law_apart := fun_mk (st := s_law_apart) h90 h91 h92,
      bi_law_apart := (fun_mk (st := s_law_apart) h90 h91 h92).binds (ps := ["one", "other"]) fun _ _ _ _ _ _ us hl => match us, hl with | [_, _], _ => rfl,
      mg_law_ended := PySem.W.mg_of X G h93,
      fn_law_ended := fun_mk (st := s_law_ended) h94 h95 h96,
      bi_law_ended := (fun_mk (st := s_law_ended) h94 h95 h96).binds (ps := ["own"]) fun _ _ _ _ _ _ us hl => match us, hl with | [_], _ => rfl,
      mg_law := PySem.W.mg_of X G h97,
      fn_law := fun_mk (st := s_law) h98 h99 h100,
      bi_law := (fun_mk (st := s_law) h98 h99 h100).binds (ps := ["script"]) fun _ _ _ _ _ _ us hl => match us, hl with | [_], _ => rfl,
      no_abs := PySem.W.mg_none_of X G h101,
      no_int := PySem.W.mg_none_of X G h102,
      no_max := PySem.W.mg_none_of X G h103,
      no_range := PySem.W.mg_none_of X G h104,
      gl_DOUBLE := ⟨tk_DOUBLE, PySem.W.mg_of X G h105⟩,
      gl_FAR := ⟨tk_FAR, PySem.W.mg_of X G h106⟩,
      gl_LONG := ⟨tk_LONG, PySem.W.mg_of X G h107⟩,
      gl_NEAR := ⟨tk_NEAR, PySem.W.mg_of X G h108⟩,
      mgc_ViewFault := PySem.W.mg_of X G h109,
      xc_ViewFault := h110,
      kc_ViewFault := h111,
      bc_ViewFault := h112,
      tc_ViewFault := h113,
      ec_ViewFault := exm_self h112 h114 h113 h115,
      cd_law := rfl }, rfl, rfl, fun s v => .of_eq rfl⟩
theorem fin {l : PySem.W.OpenLaw} {w : World} {K : PySem.W.Frag} {h : Heap} {mg : Str → Option Value} {fa c_Touching c_Gestures c_ViewFault f_Touching__init f_Gestures__init f_Gestures_tick f_Gestures_down f_Gestures_move f_Gestures_lift f_Gestures_end_of_drag f_Gestures_cancel f_Gestures_need f_apart f_law_dice f_law_roll f_law_rounds f_law_told f_law_apart f_law_ended f_law cc_law tb_law : Addr} (X : K.In h) (G : h.Ns mainGlobals mg) (hfa : mg "law" = some (.ref fa)) {od_0 an_0 : Option Addr} {sl_0 : Array (Option Value)} {oc_0 kV_0 dc_0 pm_0 ct_0 cd_0 : Value} {od_1 an_1 : Option Addr} {sl_1 : Array (Option Value)} {oc_1 kV_1 dc_1 pm_1 ct_1 cd_1 : Value} {od_2 an_2 : Option Addr} {sl_2 : Array (Option Value)} {oc_2 kV_2 dc_2 pm_2 ct_2 cd_2 : Value} {od_3 an_3 : Option Addr} {sl_3 : Array (Option Value)} {oc_3 kV_3 dc_3 pm_3 ct_3 cd_3 : Value} {od_4 an_4 : Option Addr} {sl_4 : Array (Option Value)} {oc_4 kV_4 dc_4 pm_4 ct_4 cd_4 : Value} {od_5 an_5 : Option Addr} {sl_5 : Array (Option Value)} {oc_5 kV_5 dc_5 pm_5 ct_5 cd_5 : Value} {od_6 an_6 : Option Addr} {sl_6 : Array (Option Value)} {oc_6 kV_6 dc_6 pm_6 ct_6 cd_6 : Value} {od_7 an_7 : Option Addr} {sl_7 : Array (Option Value)} {oc_7 kV_7 dc_7 pm_7 ct_7 cd_7 : Value} {od_8 an_8 : Option Addr} {sl_8 : Array (Option Value)} {oc_8 kV_8 dc_8 pm_8 ct_8 cd_8 : Value} {od_9 an_9 : Option Addr} {sl_9 : Array (Option Value)} {oc_9 kV_9 dc_9 pm_9 ct_9 cd_9 : Value} {od_10 an_10 : Option Addr} {sl_10 : Array (Option Value)} {oc_10 kV_10 dc_10 pm_10 ct_10 cd_10 : Value} {od_11 an_11 : Option Addr} {sl_11 : Array (Option Value)} {oc_11 kV_11 dc_11 pm_11 ct_11 cd_11 : Value} {od_12 an_12 : Option Addr} {sl_12 : Array (Option Value)} {oc_12 kV_12 dc_12 pm_12 ct_12 cd_12 : Value} {od_13 an_13 : Option Addr} {sl_13 : Array (Option Value)} {oc_13 kV_13 dc_13 pm_13 ct_13 cd_13 : Value} {od_14 an_14 : Option Addr} {sl_14 : Array (Option Value)} {oc_14 kV_14 dc_14 pm_14 ct_14 cd_14 : Value} {od_15 an_15 : Option Addr} {sl_15 : Array (Option Value)} {oc_15 kV_15 dc_15 pm_15 ct_15 cd_15 : Value} {od_16 an_16 : Option Addr} {sl_16 : Array (Option Value)} {oc_16 kV_16 dc_16 pm_16 ct_16 : Value} {tk_DOUBLE : Tok} {tk_FAR : Tok} {tk_LONG : Tok} {tk_NEAR : Tok}
    (h1 : PySem.W.plainGet K c_Touching Str.empty = true)
    (h2 : PySem.W.hasDictIn K c_Touching = true)
    (h3 : PySem.W.plainOver K c_Touching = true)
    (h4 : PySem.W.findIn K (.ref c_Touching) "__setattr__" = some (some (.builtin "object.__setattr__")))
    (h5 : PySem.W.findIn K (.ref c_Touching) "first" = some none)
    (h6 : PySem.W.findIn K (.ref c_Touching) "begun" = some none)
    (h7 : PySem.W.findIn K (.ref c_Touching) "place" = some none)
    (h8 : PySem.W.findIn K (.ref c_Touching) "moved" = some none)
    (h9 : PySem.W.findIn K (.ref c_Touching) "is_long" = some none)
    (h10 : PySem.W.nsIn K mainGlobals "Touching" = some (some (.ref c_Touching)))
    (h11 : PySem.W.makesIn K c_Touching = true)
    (h12 : PySem.W.findIn K (.ref c_Touching) "__init__" = some (some (.ref f_Touching__init)))
    (h13 : PySem.W.isFn K (.ref f_Touching__init) = true)
    (h14 : PySem.W.keepIn K (.ref c_Touching) = true)
    (h15 : PySem.W.plainGet K c_Gestures Str.empty = true)
    (h16 : PySem.W.hasDictIn K c_Gestures = true)
    (h17 : PySem.W.plainOver K c_Gestures = true)
    (h18 : PySem.W.findIn K (.ref c_Gestures) "__setattr__" = some (some (.builtin "object.__setattr__")))
    (h19 : PySem.W.findIn K (.ref c_Gestures) "finger" = some none)
    (h20 : PySem.W.findIn K (.ref c_Gestures) "last_tap" = some none)
    (h21 : PySem.W.findIn K (.ref c_Gestures) "told" = some none)
    (h22 : PySem.W.findIn K (.ref c_Gestures) "time" = some none)
    (h23 : PySem.W.nsIn K mainGlobals "Gestures" = some (some (.ref c_Gestures)))
    (h24 : PySem.W.makesIn K c_Gestures = true)
    (h25 : PySem.W.findIn K (.ref c_Gestures) "__init__" = some (some (.ref f_Gestures__init)))
    (h26 : PySem.W.isFn K (.ref f_Gestures__init) = true)
    (h27 : PySem.W.keepIn K (.ref c_Gestures) = true)
    (h28 : K.lookup f_Touching__init = some ⟨oc_0, od_0, .func (PySem.W.fnOf "__init__" "Touching.__init__" (defArgs s_Touching__init) (defBody s_Touching__init) (defScope s_Touching__init) .none kV_0 dc_0 pm_0 an_0 cd_0 ct_0), sl_0⟩)
    (h29 : PySem.W.codeIn K cd_0 "Touching.__init__" = true)
    (h30 : PySem.W.keepIn K (.ref f_Touching__init) = true)
    (h31 : K.lookup f_Gestures__init = some ⟨oc_1, od_1, .func (PySem.W.fnOf "__init__" "Gestures.__init__" (defArgs s_Gestures__init) (defBody s_Gestures__init) (defScope s_Gestures__init) .none kV_1 dc_1 pm_1 an_1 cd_1 ct_1), sl_1⟩)
    (h32 : PySem.W.codeIn K cd_1 "Gestures.__init__" = true)
    (h33 : PySem.W.keepIn K (.ref f_Gestures__init) = true)
    (h34 : PySem.W.findIn K (.ref c_Gestures) "tick" = some (some (.ref f_Gestures_tick)))
    (h35 : PySem.W.isFn K (.ref f_Gestures_tick) = true)
    (h36 : PySem.W.keepIn K (.ref f_Gestures_tick) = true)
    (h37 : K.lookup f_Gestures_tick = some ⟨oc_2, od_2, .func (PySem.W.fnOf "tick" "Gestures.tick" (defArgs s_Gestures_tick) (defBody s_Gestures_tick) (defScope s_Gestures_tick) .none kV_2 dc_2 pm_2 an_2 cd_2 ct_2), sl_2⟩)
    (h38 : PySem.W.codeIn K cd_2 "Gestures.tick" = true)
    (h39 : PySem.W.findIn K (.ref c_Gestures) "down" = some (some (.ref f_Gestures_down)))
    (h40 : PySem.W.isFn K (.ref f_Gestures_down) = true)
    (h41 : PySem.W.keepIn K (.ref f_Gestures_down) = true)
    (h42 : K.lookup f_Gestures_down = some ⟨oc_3, od_3, .func (PySem.W.fnOf "down" "Gestures.down" (defArgs s_Gestures_down) (defBody s_Gestures_down) (defScope s_Gestures_down) .none kV_3 dc_3 pm_3 an_3 cd_3 ct_3), sl_3⟩)
    (h43 : PySem.W.codeIn K cd_3 "Gestures.down" = true)
    (h44 : PySem.W.findIn K (.ref c_Gestures) "move" = some (some (.ref f_Gestures_move)))
    (h45 : PySem.W.isFn K (.ref f_Gestures_move) = true)
    (h46 : PySem.W.keepIn K (.ref f_Gestures_move) = true)
    (h47 : K.lookup f_Gestures_move = some ⟨oc_4, od_4, .func (PySem.W.fnOf "move" "Gestures.move" (defArgs s_Gestures_move) (defBody s_Gestures_move) (defScope s_Gestures_move) .none kV_4 dc_4 pm_4 an_4 cd_4 ct_4), sl_4⟩)
    (h48 : PySem.W.codeIn K cd_4 "Gestures.move" = true)
    (h49 : PySem.W.findIn K (.ref c_Gestures) "lift" = some (some (.ref f_Gestures_lift)))
    (h50 : PySem.W.isFn K (.ref f_Gestures_lift) = true)
    (h51 : PySem.W.keepIn K (.ref f_Gestures_lift) = true)
    (h52 : K.lookup f_Gestures_lift = some ⟨oc_5, od_5, .func (PySem.W.fnOf "lift" "Gestures.lift" (defArgs s_Gestures_lift) (defBody s_Gestures_lift) (defScope s_Gestures_lift) .none kV_5 dc_5 pm_5 an_5 cd_5 ct_5), sl_5⟩)
    (h53 : PySem.W.codeIn K cd_5 "Gestures.lift" = true)
    (h54 : PySem.W.findIn K (.ref c_Gestures) "end_of_drag" = some (some (.ref f_Gestures_end_of_drag)))
    (h55 : PySem.W.isFn K (.ref f_Gestures_end_of_drag) = true)
    (h56 : PySem.W.keepIn K (.ref f_Gestures_end_of_drag) = true)
    (h57 : K.lookup f_Gestures_end_of_drag = some ⟨oc_6, od_6, .func (PySem.W.fnOf "end_of_drag" "Gestures.end_of_drag" (defArgs s_Gestures_end_of_drag) (defBody s_Gestures_end_of_drag) (defScope s_Gestures_end_of_drag) .none kV_6 dc_6 pm_6 an_6 cd_6 ct_6), sl_6⟩)
    (h58 : PySem.W.codeIn K cd_6 "Gestures.end_of_drag" = true)
    (h59 : PySem.W.findIn K (.ref c_Gestures) "cancel" = some (some (.ref f_Gestures_cancel)))
    (h60 : PySem.W.isFn K (.ref f_Gestures_cancel) = true)
    (h61 : PySem.W.keepIn K (.ref f_Gestures_cancel) = true)
    (h62 : K.lookup f_Gestures_cancel = some ⟨oc_7, od_7, .func (PySem.W.fnOf "cancel" "Gestures.cancel" (defArgs s_Gestures_cancel) (defBody s_Gestures_cancel) (defScope s_Gestures_cancel) .none kV_7 dc_7 pm_7 an_7 cd_7 ct_7), sl_7⟩)
    (h63 : PySem.W.codeIn K cd_7 "Gestures.cancel" = true)
    (h64 : PySem.W.findIn K (.ref c_Gestures) "need" = some (some (.ref f_Gestures_need)))
    (h65 : PySem.W.isFn K (.ref f_Gestures_need) = true)
    (h66 : PySem.W.keepIn K (.ref f_Gestures_need) = true)
    (h67 : K.lookup f_Gestures_need = some ⟨oc_8, od_8, .func (PySem.W.fnOf "need" "Gestures.need" (defArgs s_Gestures_need) (defBody s_Gestures_need) (defScope s_Gestures_need) .none kV_8 dc_8 pm_8 an_8 cd_8 ct_8), sl_8⟩)
    (h68 : PySem.W.codeIn K cd_8 "Gestures.need" = true)
    (h69 : PySem.W.nsIn K mainGlobals "apart" = some (some (.ref f_apart)))
    (h70 : K.lookup f_apart = some ⟨oc_9, od_9, .func (PySem.W.fnOf "apart" "apart" (defArgs s_apart) (defBody s_apart) (defScope s_apart) .none kV_9 dc_9 pm_9 an_9 cd_9 ct_9), sl_9⟩)
    (h71 : PySem.W.codeIn K cd_9 "apart" = true)
    (h72 : PySem.W.keepIn K (.ref f_apart) = true)
    (h73 : PySem.W.nsIn K mainGlobals "_law_dice" = some (some (.ref f_law_dice)))
    (h74 : K.lookup f_law_dice = some ⟨oc_10, od_10, .func (PySem.W.fnOf "_law_dice" "_law_dice" (defArgs s_law_dice) (defBody s_law_dice) (defScope s_law_dice) .none kV_10 dc_10 pm_10 an_10 cd_10 ct_10), sl_10⟩)
    (h75 : PySem.W.codeIn K cd_10 "_law_dice" = true)
    (h76 : PySem.W.keepIn K (.ref f_law_dice) = true)
    (h77 : PySem.W.nsIn K mainGlobals "_law_roll" = some (some (.ref f_law_roll)))
    (h78 : K.lookup f_law_roll = some ⟨oc_11, od_11, .func (PySem.W.fnOf "_law_roll" "_law_roll" (defArgs s_law_roll) (defBody s_law_roll) (defScope s_law_roll) .none kV_11 dc_11 pm_11 an_11 cd_11 ct_11), sl_11⟩)
    (h79 : PySem.W.codeIn K cd_11 "_law_roll" = true)
    (h80 : PySem.W.keepIn K (.ref f_law_roll) = true)
    (h81 : PySem.W.nsIn K mainGlobals "_law_rounds" = some (some (.ref f_law_rounds)))
    (h82 : K.lookup f_law_rounds = some ⟨oc_12, od_12, .func (PySem.W.fnOf "_law_rounds" "_law_rounds" (defArgs s_law_rounds) (defBody s_law_rounds) (defScope s_law_rounds) .none kV_12 dc_12 pm_12 an_12 cd_12 ct_12), sl_12⟩)
    (h83 : PySem.W.codeIn K cd_12 "_law_rounds" = true)
    (h84 : PySem.W.keepIn K (.ref f_law_rounds) = true)
    (h85 : PySem.W.nsIn K mainGlobals "_law_told" = some (some (.ref f_law_told)))
    (h86 : K.lookup f_law_told = some ⟨oc_13, od_13, .func (PySem.W.fnOf "_law_told" "_law_told" (defArgs s_law_told) (defBody s_law_told) (defScope s_law_told) .none kV_13 dc_13 pm_13 an_13 cd_13 ct_13), sl_13⟩)
    (h87 : PySem.W.codeIn K cd_13 "_law_told" = true)
    (h88 : PySem.W.keepIn K (.ref f_law_told) = true)
    (h89 : PySem.W.nsIn K mainGlobals "_law_apart" = some (some (.ref f_law_apart)))
    (h90 : K.lookup f_law_apart = some ⟨oc_14, od_14, .func (PySem.W.fnOf "_law_apart" "_law_apart" (defArgs s_law_apart) (defBody s_law_apart) (defScope s_law_apart) .none kV_14 dc_14 pm_14 an_14 cd_14 ct_14), sl_14⟩)
    (h91 : PySem.W.codeIn K cd_14 "_law_apart" = true)
    (h92 : PySem.W.keepIn K (.ref f_law_apart) = true)
    (h93 : PySem.W.nsIn K mainGlobals "_law_ended" = some (some (.ref f_law_ended)))
    (h94 : K.lookup f_law_ended = some ⟨oc_15, od_15, .func (PySem.W.fnOf "_law_ended" "_law_ended" (defArgs s_law_ended) (defBody s_law_ended) (defScope s_law_ended) .none kV_15 dc_15 pm_15 an_15 cd_15 ct_15), sl_15⟩)
    (h95 : PySem.W.codeIn K cd_15 "_law_ended" = true)
    (h96 : PySem.W.keepIn K (.ref f_law_ended) = true)
    (h97 : PySem.W.nsIn K mainGlobals "law" = some (some (.ref f_law)))
    (h98 : K.lookup f_law = some ⟨oc_16, od_16, .func (PySem.W.fnOf "law" "law" (defArgs s_law) (defBody s_law) (defScope s_law) .none kV_16 dc_16 pm_16 an_16 (.ref cc_law) ct_16), sl_16⟩)
    (h99 : PySem.W.codeIn K (.ref cc_law) "law" = true)
    (h100 : PySem.W.keepIn K (.ref f_law) = true)
    (h101 : PySem.W.nsIn K mainGlobals "abs" = some none)
    (h102 : PySem.W.nsIn K mainGlobals "int" = some none)
    (h103 : PySem.W.nsIn K mainGlobals "max" = some none)
    (h104 : PySem.W.nsIn K mainGlobals "range" = some none)
    (h105 : PySem.W.nsIn K mainGlobals "DOUBLE" = some (some (.int 6 tk_DOUBLE)))
    (h106 : PySem.W.nsIn K mainGlobals "FAR" = some (some (.int 12 tk_FAR)))
    (h107 : PySem.W.nsIn K mainGlobals "LONG" = some (some (.int 10 tk_LONG)))
    (h108 : PySem.W.nsIn K mainGlobals "NEAR" = some (some (.int 3 tk_NEAR)))
    (h109 : PySem.W.nsIn K mainGlobals "ViewFault" = some (some (.ref c_ViewFault)))
    (h110 : PySem.W.excIn K c_ViewFault [.type "ValueError", .type "Exception", .type "BaseException", .type "object"] "ValueError.__new__" = true)
    (h111 : PySem.W.keepIn K (.ref c_ViewFault) = true)
    (h112 : PySem.W.subIn K (.ref c_ViewFault) (.type "BaseException") = some true)
    (h113 : PySem.W.typeIn K (.ref c_ViewFault) = some (.type "type"))
    (h114 : PySem.W.isClsIn K c_ViewFault = true)
    (h115 : PySem.W.subIn K (.ref c_ViewFault) (.ref c_ViewFault) = some true)
    (ht_tb_law : h.get? tb_law = some { cls := .none, data := .fields #[] }) (hk_tb_law : K.lookup tb_law = none) (hc_tb_law : PySem.W.CodeHd h cc_law tb_law) :
    LamX.LawAtS l w K (L2.CX l.prog w) 6 63 "script" mg fa h := by
  obtain ⟨a, e0, T, ec0, et0, hb⟩ := all_mk (cc_law := cc_law) (tb_law := tb_law) X G hfa h1 h2 h3 h4 h5 h6 h7 h8 h9 h10 h11 h12 h13 h14 h15 h16 h17 h18 h19 h20 h21 h22 h23 h24 h25 h26 h27 h28 h29 h30 h31 h32 h33 h34 h35 h36 h37 h38 h39 h40 h41 h42 h43 h44 h45 h46 h47 h48 h49 h50 h51 h52 h53 h54 h55 h56 h57 h58 h59 h60 h61 h62 h63 h64 h65 h66 h67 h68 h69 h70 h71 h72 h73 h74 h75 h76 h77 h78 h79 h80 h81 h82 h83 h84 h85 h86 h87 h88 h89 h90 h91 h92 h93 h94 h95 h96 h97 h98 h99 h100 h101 h102 h103 h104 h105 h106 h107 h108 h109 h110 h111 h112 h113 h114 h115
  subst e0
  subst ec0 et0
  exact ⟨a.fd_law, [(a.cc_law, a.tb_law)], sp_law K a, List.forall_mem_cons.mpr ⟨ht_tb_law, fun _ h => nomatch h⟩, List.forall_mem_cons.mpr ⟨hk_tb_law, fun _ h => nomatch h⟩, List.forall_mem_cons.mpr ⟨hc_tb_law, fun _ h => nomatch h⟩, hb, fun H s ns hl hz hT hS => ⟨rfl, s, ns, rfl, hS, List.forall_mem_cons.mpr ⟨LamX.TabS.nil (hT (a.cc_law, a.tb_law) (List.mem_cons_self)), fun _ h => nomatch h⟩, fun _ => rfl⟩, fun base _ _ hTB => ok_all T (hTB (a.cc_law, a.tb_law) (List.mem_cons_self))⟩
end
end Wk
open PySem PySem.W PyProof.Rows L2 Ph Wk in
set_option maxRecDepth 100000 in
set_option maxHeartbeats 0 in
theorem PySem.Challenge.cw_phonestack_k13_what_fingers_do_holds : PySem.Challenge.rw_phonestack_k13_what_fingers_do.Holds := by
  w_on; o_law; k_head; (case hw => w_witness2)
  k_fill
  refine LamX.walk_ofTs (l := PySem.Challenge.rw_phonestack_k13_what_fingers_do) (n := 63) (k := 6) (x := "script") (CX := fun w => L2.CX (PySem.Challenge.rw_phonestack_k13_what_fingers_do).prog w) rfl (by decide) rfl ⟨rfl, by decide, by decide⟩ (fun w h Y => PySem.W.km_in_of Y) ?F (fun _ _ _ _ _ z => by
    obtain ⟨_, _, _, _, _, _, _, _, _, _, _, _, z⟩ := z
    exact z)
  case F =>
    intro w mg fa h Y KX G hmg
    have T8 := PySem.W.km_tabs_of Y
    refine' Wk.fin (tb_law := 179) KX G hmg ?h1 ?h2 ?h3 ?h4 ?h5 ?h6 ?h7 ?h8 ?h9 ?h10 ?h11 ?h12 ?h13 ?h14 ?h15 ?h16 ?h17 ?h18 ?h19 ?h20 ?h21 ?h22 ?h23 ?h24 ?h25 ?h26 ?h27 ?h28 ?h29 ?h30 ?h31 ?h32 ?h33 ?h34 ?h35 ?h36 ?h37 ?h38 ?h39 ?h40 ?h41 ?h42 ?h43 ?h44 ?h45 ?h46 ?h47 ?h48 ?h49 ?h50 ?h51 ?h52 ?h53 ?h54 ?h55 ?h56 ?h57 ?h58 ?h59 ?h60 ?h61 ?h62 ?h63 ?h64 ?h65 ?h66 ?h67 ?h68 ?h69 ?h70 ?h71 ?h72 ?h73 ?h74 ?h75 ?h76 ?h77 ?h78 ?h79 ?h80 ?h81 ?h82 ?h83 ?h84 ?h85 ?h86 ?h87 ?h88 ?h89 ?h90 ?h91 ?h92 ?h93 ?h94 ?h95 ?h96 ?h97 ?h98 ?h99 ?h100 ?h101 ?h102 ?h103 ?h104 ?h105 ?h106 ?h107 ?h108 ?h109 ?h110 ?h111 ?h112 ?h113 ?h114 ?h115 ?ht_tb_law ?hk_tb_law ?hc_tb_law
    (case h10 => k_is)
    (case h23 => k_is)
    (case h69 => k_is)
    (case h73 => k_is)
    (case h77 => k_is)
    (case h81 => k_is)
    (case h85 => k_is)
    (case h89 => k_is)
    (case h93 => k_is)
    (case h97 => k_is)
    (case h101 => k_is)
    (case h102 => k_is)
    (case h103 => k_is)
    (case h104 => k_is)
    (case h105 => k_is)
    (case h106 => k_is)
    (case h107 => k_is)
    (case h108 => k_is)
    (case h109 => k_is)
    (case h12 => k_is)
    (case h25 => k_is)
    (case h34 => k_is)
    (case h39 => k_is)
    (case h44 => k_is)
    (case h49 => k_is)
    (case h54 => k_is)
    (case h59 => k_is)
    (case h64 => k_is)
    (case h28 => k_is)
    (case h31 => k_is)
    (case h37 => k_is)
    (case h42 => k_is)
    (case h47 => k_is)
    (case h52 => k_is)
    (case h57 => k_is)
    (case h62 => k_is)
    (case h67 => k_is)
    (case h70 => k_is)
    (case h74 => k_is)
    (case h78 => k_is)
    (case h82 => k_is)
    (case h86 => k_is)
    (case h90 => k_is)
    (case h94 => k_is)
    (case h98 => k_is)
    (case h1 => k_is)
    (case h2 => k_is)
    (case h3 => k_is)
    (case h4 => k_is)
    (case h5 => k_is)
    (case h6 => k_is)
    (case h7 => k_is)
    (case h8 => k_is)
    (case h9 => k_is)
    (case h11 => k_is)
    (case h13 => k_is)
    (case h14 => k_is)
    (case h15 => k_is)
    (case h16 => k_is)
    (case h17 => k_is)
    (case h18 => k_is)
    (case h19 => k_is)
    (case h20 => k_is)
    (case h21 => k_is)
    (case h22 => k_is)
    (case h24 => k_is)
    (case h26 => k_is)
    (case h27 => k_is)
    (case h29 => k_is)
    (case h30 => k_is)
    (case h32 => k_is)
    (case h33 => k_is)
    (case h35 => k_is)
    (case h36 => k_is)
    (case h38 => k_is)
    (case h40 => k_is)
    (case h41 => k_is)
    (case h43 => k_is)
    (case h45 => k_is)
    (case h46 => k_is)
    (case h48 => k_is)
    (case h50 => k_is)
    (case h51 => k_is)
    (case h53 => k_is)
    (case h55 => k_is)
    (case h56 => k_is)
    (case h58 => k_is)
    (case h60 => k_is)
    (case h61 => k_is)
    (case h63 => k_is)
    (case h65 => k_is)
    (case h66 => k_is)
    (case h68 => k_is)
    (case h71 => k_is)
    (case h72 => k_is)
    (case h75 => k_is)
    (case h76 => k_is)
    (case h79 => k_is)
    (case h80 => k_is)
    (case h83 => k_is)
    (case h84 => k_is)
    (case h87 => k_is)
    (case h88 => k_is)
    (case h91 => k_is)
    (case h92 => k_is)
    (case h95 => k_is)
    (case h96 => k_is)
    (case h99 => k_is)
    (case h100 => k_is)
    (case h110 => k_exc)
    (case h111 => k_is)
    (case h112 => k_is)
    (case h113 => k_is)
    (case h114 => k_is)
    (case h115 => first | rfl | k_is)
    (case ht_tb_law => exact T8 179 (by decide))
    (case hk_tb_law => kernel_rfl)
    (case hc_tb_law => exact PySem.W.codeHd_of_K KX (by kernel_rfl))
