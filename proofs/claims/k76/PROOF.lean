import PyProof.Rows.All
import Wide.All
import OpenK.AllK
import Wide.FinOn
import HandS.ForMost
import HandS.ForExc
import HandS.TryMany
import HandS.ExcInit
import HandS.Small
import HandS.TupAny
import HandS.TupMul
import HandS.Conv
import HandS.Zip
import HandS.Walk
import HandS.Flow
import HandS.Style
import HandS.IsInst
import HandS.Lambda
import HandS.Deep
import HandS.Replace
import HandS.SetFor
import HandS.Zip0
import HandS.WordsExc
import HandS.ExcOwn
import HandS.ExcField
import HandS.ExcIs
import HandS.Defaults
import KE.KStateDown
import HandS.Head0
import HandS.Head1
import HandS.Head2
import HandS.HeadEnd
import HandS.HeadHook1
import HandS.HeadHook2
import HandS.HeadHook3
import HandS.HeadHook4
import HandS.HeadWalk
import HandS.EndTab
import HandS.NestedK
import PySem.Challenge.RW_cardroom_k76_whole_texts_on_cards
set_option Elab.async false
set_option linter.all false
set_option maxRecDepth 100000
set_option maxHeartbeats 4000000
set_option autoImplicit false
/-! Pf1: data that values stand for, slots, the state's invariant. -/
namespace Pf
open PySem PySem.Spec PyProof.Rows L2

abbrev D := PyData

/-! ### values and data over a ghost heap G of what never changes again -/
mutual
inductive Rp (K : PySem.W.Frag) (G : Hp) : V → D → Prop
  | n : Rp K G V.non PyData.none
  | b (x : Bool) : Rp K G (V.bl x) (PyData.bool x)
  | i (x : Int) : Rp K G (V.int x) (PyData.int x)
  | s (x : Str) : Rp K G (V.str x) (PyData.str x)
  | l {a : Addr} {vs : List V} {ds : List D} : G a = some (HO.lst vs) → Rs K G vs ds → Rp K G (V.ref a) (PyData.list ds)
  | t {a : Addr} {vs : List V} {ds : List D} : SqT K G a vs → Rs K G vs ds → Rp K G (V.ref a) (PyData.tuple ds)
inductive Rs (K : PySem.W.Frag) (G : Hp) : List V → List D → Prop
  | nil : Rs K G [] []
  | cons {v : V} {vs : List V} {d : D} {ds : List D} : Rp K G v d → Rs K G vs ds → Rs K G (v :: vs) (d :: ds)
end

def Sub (G G' : Hp) : Prop := ∀ a o, G a = some o → G' a = some o
theorem Sub.rfl' (G : Hp) : Sub G G := fun _ _ h => h
theorem Sub.tr {G G1 G2 : Hp} (a : Sub G G1) (b : Sub G1 G2) : Sub G G2 := fun c o h => b c o (a c o h)
theorem Sub.new {G : Hp} {p : Addr} {o : HO} (h : G p = none) : Sub G (upd G p o) := fun a u e => by
  rw [upd_ne (ne_of_none e h)]; exact e
theorem Sub.seqT {K : PySem.W.Frag} {G G' : Hp} {a : Addr} {vs : List V} (h : Sub G G') (x : SqT K G a vs) : SqT K G' a vs := by
  rcases x with (x | ⟨o, x⟩) | x
  · exact .inl (.inl (h _ _ x))
  · exact .inl (.inr ⟨o, h _ _ x⟩)
  · exact .inr x

section
variable {K : PySem.W.Frag} {G G' : Hp}
mutual
theorem Rp.mono (h : Sub G G') : ∀ (d : D) (v : V), Rp K G v d → Rp K G' v d
  | .none, _, x => by cases x; exact .n
  | .bool _, _, x => by cases x; exact .b _
  | .int _, _, x => by cases x; exact .i _
  | .str _, _, x => by cases x; exact .s _
  | .list ds, _, x => by
    cases x with
    | l e r => exact .l (h _ _ e) (Rs.mono h ds _ r)
  | .tuple ds, _, x => by
    cases x with
    | t e r => exact .t (h.seqT e) (Rs.mono h ds _ r)
  | .dict _, _, x => by cases x
theorem Rs.mono (h : Sub G G') : ∀ (ds : List D) (vs : List V), Rs K G vs ds → Rs K G' vs ds
  | [], _, x => by cases x; exact .nil
  | d :: ds, _, x => by
    cases x with
    | cons e r => exact .cons (Rp.mono h d _ e) (Rs.mono h ds _ r)
end
mutual
theorem Rp.dp : ∀ (d : D) (v : V), Rp K G v d → Dp K G v d
  | .none, _, x => by cases x; exact .non
  | .bool _, _, x => by cases x; exact .bl _
  | .int _, _, x => by cases x; exact .int _
  | .str _, _, x => by cases x; exact .str _
  | .list ds, _, x => by
    cases x with
    | l e r => exact .lst (.inl (.inl e)) (Rs.dp ds _ r)
  | .tuple ds, _, x => by
    cases x with
    | t e r => exact .tup e (Rs.dp ds _ r)
  | .dict _, _, x => by cases x
theorem Rs.dp : ∀ (ds : List D) (vs : List V), Rs K G vs ds → DpAll K G vs ds
  | [], _, x => by cases x; exact .nil
  | d :: ds, _, x => by
    cases x with
    | cons e r => exact .cons (Rp.dp d _ e) (Rs.dp ds _ r)
end
theorem Rs.length : ∀ {vs : List V} {ds : List D}, Rs K G vs ds → vs.length = ds.length
  | _, _, .nil => rfl
  | _, _, .cons _ r => by simp [Rs.length r]
theorem Rs.get : ∀ {vs : List V} {ds : List D} {i : Nat} {d : D}, Rs K G vs ds → ds[i]? = some d → ∃ v, vs[i]? = some v ∧ Rp K G v d
  | _, _, _, _, .nil, e => by simp at e
  | _, _, 0, _, .cons h _, e => by simp at e; subst e; exact ⟨_, rfl, h⟩
  | _, _, i + 1, d, .cons _ r, e => by
    obtain ⟨v, h1, h2⟩ := Rs.get (i := i) (d := d) r (by simpa using e)
    exact ⟨v, by simpa using h1, h2⟩
theorem Rs.getV : ∀ {vs : List V} {ds : List D} {i : Nat} {v : V}, Rs K G vs ds → vs[i]? = some v → ∃ d, ds[i]? = some d ∧ Rp K G v d
  | _, _, _, _, .nil, e => by simp at e
  | _, _, 0, _, .cons h _, e => by simp at e; subst e; exact ⟨_, rfl, h⟩
  | _, _, i + 1, v, .cons _ r, e => by
    obtain ⟨d, h1, h2⟩ := Rs.getV (i := i) (v := v) r (by simpa using e)
    exact ⟨d, by simpa using h1, h2⟩
theorem Rs.app : ∀ {vs ws : List V} {ds es : List D}, Rs K G vs ds → Rs K G ws es → Rs K G (vs ++ ws) (ds ++ es)
  | _, _, _, _, .nil, s => s
  | _, _, _, _, .cons h r, s => .cons h (Rs.app r s)
theorem Rs.take : ∀ {vs : List V} {ds : List D} (n : Nat), Rs K G vs ds → Rs K G (vs.take n) (ds.take n)
  | _, _, 0, _ => .nil
  | _, _, _ + 1, .nil => .nil
  | _, _, n + 1, .cons h r => .cons h (Rs.take n r)
theorem Rs.drop : ∀ {vs : List V} {ds : List D} (n : Nat), Rs K G vs ds → Rs K G (vs.drop n) (ds.drop n)
  | _, _, 0, r => r
  | _, _, _ + 1, .nil => .nil
  | _, _, n + 1, .cons _ r => Rs.drop n r
theorem Rs.set {v : V} {d : D} (h : Rp K G v d) : ∀ {vs : List V} {ds : List D} (i : Nat), Rs K G vs ds → Rs K G (vs.set i v) (ds.set i d)
  | _, _, _, .nil => .nil
  | _, _, 0, .cons _ r => .cons h r
  | _, _, i + 1, .cons q r => .cons q (Rs.set h i r)
theorem Rs.rep {vs : List V} {ds : List D} (h : Rs K G vs ds) : ∀ n : Nat, Rs K G (List.replicate n vs).flatten (List.replicate n ds).flatten
  | 0 => .nil
  | n + 1 => by
    rw [List.replicate_succ, List.replicate_succ, List.flatten_cons, List.flatten_cons]
    exact h.app (Rs.rep h n)
theorem Rs.ints : ∀ {vs : List V} {ns : List Int}, Rs K G vs (ns.map PyData.int) → vs = ns.map V.int
  | _, [], h => by cases h; rfl
  | _, n :: ns, h => by
    cases h with
    | cons a r => cases a; rw [Rs.ints r]; rfl
theorem Rs.strs : ∀ {vs : List V} {ns : List Str}, Rs K G vs (ns.map PyData.str) → vs = ns.map V.str
  | _, [], h => by cases h; rfl
  | _, n :: ns, h => by
    cases h with
    | cons a r => cases a; rw [Rs.strs r]; rfl
theorem Rs.bools : ∀ {vs : List V} {ns : List Bool}, Rs K G vs (ns.map PyData.bool) → vs = ns.map V.bl
  | _, [], h => by cases h; rfl
  | _, n :: ns, h => by
    cases h with
    | cons a r => cases a; rw [Rs.bools r]; rfl
theorem Rs.ofInts : ∀ ns : List Int, Rs K G (ns.map V.int) (ns.map PyData.int)
  | [] => .nil
  | n :: ns => .cons (.i n) (Rs.ofInts ns)
theorem Rs.ofStrs : ∀ ns : List Str, Rs K G (ns.map V.str) (ns.map PyData.str)
  | [] => .nil
  | n :: ns => .cons (.s n) (Rs.ofStrs ns)
end

/-! ### data without lists -/
mutual
def noL : D → Bool
  | .list _ => false
  | .tuple ds => noLs ds
  | .dict _ => false
  | _ => true
def noLs : List D → Bool
  | [] => true
  | d :: ds => noL d && noLs ds
end
section
variable {K : PySem.W.Frag} {G G' : Hp}
mutual
theorem Rp.keep (h : ∀ a vs, SqT K G a vs → SqT K G' a vs) : ∀ (d : D) (v : V), noL d = true → Rp K G v d → Rp K G' v d
  | .none, _, _, x => by cases x; exact .n
  | .bool _, _, _, x => by cases x; exact .b _
  | .int _, _, _, x => by cases x; exact .i _
  | .str _, _, _, x => by cases x; exact .s _
  | .list ds, _, q, x => by simp [noL] at q
  | .tuple ds, _, q, x => by
    cases x with
    | t e r => exact .t (h _ _ e) (Rs.keep h ds _ (by simpa [noL] using q) r)
  | .dict _, _, _, x => by cases x
theorem Rs.keep (h : ∀ a vs, SqT K G a vs → SqT K G' a vs) : ∀ (ds : List D) (vs : List V), noLs ds = true → Rs K G vs ds → Rs K G' vs ds
  | [], _, _, x => by cases x; exact .nil
  | d :: ds, _, q, x => by
    cases x with
    | cons e r =>
      have q' : noL d = true ∧ noLs ds = true := by simpa [noLs] using q
      exact .cons (Rp.keep h d _ q'.1 e) (Rs.keep h ds _ q'.2 r)
end
end

/-! ### slots -/
inductive Slot where
  | undef
  | imm (d : D)
  | own (ds : List D)
  | io (ds : List D)
  | scr (ns : List Int) (T : List (Addr × Str))
  | exc (a : Addr) (d : Option Addr) (fs : List (Str × D))
abbrev Rho := List Slot

structure Fx where
  H0 : Hp
  G0 : Hp
  w : Nat → Option Addr
  T : List (Addr × Str)

def ScrOk (K : PySem.W.Frag) (H : Hp) (a : Addr) (ns : List Int) : Prop :=
  (∃ o, H a = some (HO.frz o (HO.lst (ns.map V.int)))) ∨
    ∃ (o : Obj) (its : Array Value) (n : Nat), K.lookup a = some o ∧ o.cls = Value.type "list" ∧ o.dict = none ∧ o.data = Data.seq its n ∧ its.size ≤ sizeLine ∧ Vals (ns.map V.int) its.toList
theorem ScrOk.sq {K : PySem.W.Frag} {H : Hp} {a : Addr} {ns : List Int} (h : ScrOk K H a ns) : SqL K H a (ns.map V.int) := by
  rcases h with ⟨o, h⟩ | h
  · exact .inl (.inr ⟨o, h⟩)
  · exact .inr h

def FsOk (K : PySem.W.Frag) (G : Hp) : List (Str × V) → List (Str × D) → Prop
  | [], [] => True
  | (f, v) :: r, (g, d) :: s => f = g ∧ Rp K G v d ∧ FsOk K G r s
  | _, _ => False
def XdOk (K : PySem.W.Frag) (G H : Hp) (d : Option Addr) (fs : List (Str × D)) : Prop := fs ≠ [] → ∃ (dd : Addr) (vs : List (Str × V)), d = some dd ∧ H dd = some (HO.xd vs) ∧ FsOk K G vs fs
theorem FsOk.mono {K : PySem.W.Frag} {G G' : Hp} (s : Sub G G') : ∀ {vs : List (Str × V)} {fs : List (Str × D)}, FsOk K G vs fs → FsOk K G' vs fs
  | [], [], _ => True.intro
  | _ :: _, _ :: _, h => ⟨h.1, h.2.1.mono s _ _, FsOk.mono s h.2.2⟩
theorem XdOk.keep {K : PySem.W.Frag} {G G' H H' : Hp} {d : Option Addr} {fs : List (Str × D)} (h : XdOk K G H d fs) (s : Sub G G') (k : ∀ b vs, H b = some (HO.xd vs) → H' b = some (HO.xd vs)) : XdOk K G' H' d fs := fun ne => by
  obtain ⟨dd, vs, h1, h2, h3⟩ := h ne
  exact ⟨dd, vs, h1, k _ _ h2, h3.mono s⟩

def SlOk (K : PySem.W.Frag) (F : Fx) (G H : Hp) (i : Nat) (v : Option (Option V)) : Slot → Prop
  | .undef => True
  | .imm d => ∃ x, v = some (some x) ∧ Rp K G x d
  | .own ds => ∃ a vs, v = some (some (V.ref a)) ∧ H a = some (HO.lst vs) ∧ G a = none ∧ Rs K G vs ds ∧ F.H0 a = none
  | .io ds => ∃ a vs, v = some (some (V.ref a)) ∧ H a = some (HO.lst vs) ∧ G a = none ∧ Rs K G vs ds ∧ F.w i = some a
  | .scr ns T => (∃ a, v = some (some (V.ref a)) ∧ (ScrOk K H a ns ∨ G a = some (HO.lst (ns.map V.int)))) ∧ (T ≠ [] → T = F.T)
  | .exc a d fs => v = some (some (V.ref a)) ∧ XdOk K G H d fs

/-- the heap without its tables -/
def untab (H : Hp) : Hp := fun a => match H a with
  | some (.tbl _) => none
  | o => o
structure SI (K : PySem.W.Frag) (F : Fx) (G H : Hp) (σ : L2.St) (ρ : Rho) : Prop where
  gH : Sub G H
  gt : ∀ a ps, G a ≠ some (HO.tbl ps)
  g0 : Sub F.G0 G
  gn : ∀ a o, G a = some o → F.G0 a = some o ∨ F.H0 a = none
  h0 : ∀ a o, F.H0 a = some o → (∀ i, F.w i ≠ some a) → H a = some o
  hn : ∀ a, H a = none → F.H0 a = none
  w1 : ∀ (i : Nat) (a : Addr), F.w i = some a → F.H0 a ≠ none
  w2 : ∀ (i : Nat) (a : Addr), F.w i = some a → F.G0 a = none
  w3 : ∀ (i j : Nat) (a : Addr), F.w i = some a → F.w j = some a → i = j
  tb : LamX.Tabs F.T H
  len : ρ.length = σ.length
  sl : ∀ (i : Nat) (s : Slot), ρ[i]? = some s → SlOk K F G H i (σ[i]?) s
  dj : ∀ (i j : Nat) (a : Addr) (ds es : List D), ρ[i]? = some (Slot.own ds) → ρ[j]? = some (Slot.own es) → σ[i]? = some (some (V.ref a)) → σ[j]? = some (some (V.ref a)) → i = j
  ht : ∀ a ps, F.H0 a ≠ some (HO.tbl ps)
  w4 : ∀ (i : Nat) (a : Addr), F.w i = some a → ∃ vs, H a = some (HO.lst vs)

/-- all but lists is kept -/
def Kp (H H' : Hp) : Prop := ∀ b o, H b = some o → (∀ vs, o ≠ HO.lst vs) → H' b = some o
theorem Kp.of {H H' : Hp} (h : Sub H H') : Kp H H' := fun b o e _ => h b o e
theorem codeO_lst {c : Addr} {q : Str} (vs : List V) : LamX.CodeO c q ≠ HO.lst vs := fun z => by
  unfold LamX.CodeO at z
  cases z
theorem tabs_kp {T : List (Addr × Str)} {H H' : Hp} (t : LamX.Tabs T H) (k : Kp H H') : LamX.Tabs T H' := fun p hp => by
  obtain ⟨ps, h1, h2, h3⟩ := t p hp
  refine ⟨ps, k _ _ h1 (fun _ z => by cases z), h2, fun pos cv hc => ?_⟩
  obtain ⟨c, e1, e2⟩ := h3 pos cv hc
  exact ⟨c, e1, k _ _ e2 codeO_lst⟩

def Rho.lst? (ρ : Rho) (i : Nat) : Option (List D) :=
  match ρ[i]? with
  | some (.own ds) => some ds
  | some (.io ds) => some ds
  | _ => none
def Rho.put (ρ : Rho) (i : Nat) (ds : List D) : Rho :=
  match ρ[i]? with
  | some (.own _) => ρ.set i (.own ds)
  | some (.io _) => ρ.set i (.io ds)
  | _ => ρ

section
variable {K : PySem.W.Frag} {F : Fx} {G H : Hp} {σ : L2.St} {ρ : Rho}

theorem SI.scr (I : SI K F G H σ ρ) {a : Addr} {ns : List Int} (h : ScrOk K H a ns ∨ G a = some (HO.lst (ns.map V.int))) : SqL K H a (ns.map V.int) := by
  rcases h with h | h
  · exact h.sq
  · exact .inl (.inl (I.gH a _ h))
/-- slot i holds a list that may change, at a -/
def MutAt (K : PySem.W.Frag) (F : Fx) (G H : Hp) (σ : L2.St) (ρ : Rho) (i : Nat) (a : Addr) (ds : List D) : Prop :=
  σ[i]? = some (some (V.ref a)) ∧ (∃ vs, H a = some (HO.lst vs) ∧ Rs K G vs ds) ∧ G a = none ∧
    ((ρ[i]? = some (.own ds) ∧ F.H0 a = none) ∨ (ρ[i]? = some (.io ds) ∧ F.w i = some a))
theorem SI.at_ (I : SI K F G H σ ρ) {i : Nat} {ds : List D} (h : ρ.lst? i = some ds) : ∃ a, MutAt K F G H σ ρ i a ds := by
  unfold Rho.lst? at h
  split at h
  · rename_i es e
    cases h
    obtain ⟨a, vs, h1, h2, h3, h4, h5⟩ := I.sl i _ e
    exact ⟨a, h1, ⟨vs, h2, h4⟩, h3, .inl ⟨e, h5⟩⟩
  · rename_i es e
    cases h
    obtain ⟨a, vs, h1, h2, h3, h4, h5⟩ := I.sl i _ e
    exact ⟨a, h1, ⟨vs, h2, h4⟩, h3, .inr ⟨e, h5⟩⟩
  · cases h
theorem SI.apart (I : SI K F G H σ ρ) {i j : Nat} {a : Addr} {ds es : List D} (h1 : MutAt K F G H σ ρ i a ds) (h2 : MutAt K F G H σ ρ j a es) : i = j := by
  obtain ⟨s1, _, _, c1⟩ := h1
  obtain ⟨s2, _, _, c2⟩ := h2
  rcases c1 with ⟨r1, z1⟩ | ⟨r1, z1⟩
  · rcases c2 with ⟨r2, z2⟩ | ⟨r2, z2⟩
    · exact I.dj i j a _ _ r1 r2 s1 s2
    · exact absurd z1 (I.w1 j a z2)
  · rcases c2 with ⟨r2, z2⟩ | ⟨r2, z2⟩
    · exact absurd z2 (I.w1 i a z1)
    · exact I.w3 i j a z1 z2
/-- a new object in the heap, known for good -/
theorem SI.alloc (I : SI K F G H σ ρ) {p : Addr} {o : HO} (hp : H p = none) (ho : ∀ ps, o ≠ HO.tbl ps) : SI K F (upd G p o) (upd H p o) σ ρ := by
  have gp : G p = none := by
    cases q : G p with
    | none => rfl
    | some u => rw [I.gH p u q] at hp; cases hp
  have sG : Sub G (upd G p o) := Sub.new gp
  have sH : Sub H (upd H p o) := Sub.new hp
  refine ⟨fun a u e => ?_, fun a ps e => ?_, I.g0.tr sG, fun a u e => ?_, fun a u e h1 => sH _ _ (I.h0 a u e h1), fun a e => ?_, I.w1, I.w2, I.w3, tabs_kp I.tb (Kp.of sH), I.len, fun i s e => ?_, I.dj, I.ht, fun i a e => let ⟨vs, h⟩ := I.w4 i a e; ⟨vs, sH _ _ h⟩⟩
  · by_cases h : a = p
    · subst h; rw [upd_same] at e ⊢; exact e
    · rw [upd_ne h] at e ⊢; exact I.gH a u e
  · by_cases h : a = p
    · subst h; rw [upd_same] at e; exact ho ps (Option.some.inj e)
    · rw [upd_ne h] at e; exact I.gt a ps e
  · by_cases h : a = p
    · subst h; exact .inr (I.hn _ hp)
    · rw [upd_ne h] at e; exact I.gn a u e
  · by_cases h : a = p
    · subst h; rw [upd_same] at e; cases e
    · rw [upd_ne h] at e; exact I.hn a e
  · have x := I.sl i s e
    cases s with
    | undef => trivial
    | imm d => obtain ⟨v, h1, h2⟩ := x; exact ⟨v, h1, h2.mono sG _ _⟩
    | own ds =>
      obtain ⟨a, vs, h1, h2, h3, h4, h5⟩ := x
      exact ⟨a, vs, h1, sH _ _ h2, by rw [upd_ne (ne_of_none h2 hp)]; exact h3, h4.mono sG _ _, h5⟩
    | io ds =>
      obtain ⟨a, vs, h1, h2, h3, h4, h5⟩ := x
      exact ⟨a, vs, h1, sH _ _ h2, by rw [upd_ne (ne_of_none h2 hp)]; exact h3, h4.mono sG _ _, h5⟩
    | scr ns T =>
      obtain ⟨⟨a, h1, h2⟩, hT⟩ := x
      refine ⟨⟨a, h1, ?_⟩, hT⟩
      rcases h2 with (⟨ob, h2⟩ | h2) | h2
      · exact .inl (.inl ⟨ob, sH _ _ h2⟩)
      · exact .inl (.inr h2)
      · exact .inr (sG _ _ h2)
    | exc a d fs => exact ⟨x.1, x.2.keep sG fun b vs e => sH _ _ e⟩
/-- a new object in the heap, of which nothing more is said -/
theorem SI.allocH (I : SI K F G H σ ρ) {p : Addr} {o : HO} (hp : H p = none) : SI K F G (upd H p o) σ ρ := by
  have sH : Sub H (upd H p o) := Sub.new hp
  refine ⟨I.gH.tr sH, I.gt, I.g0, I.gn, fun a u e h1 => sH _ _ (I.h0 a u e h1), fun a e => ?_, I.w1, I.w2, I.w3, tabs_kp I.tb (Kp.of sH), I.len, fun i s e => ?_, I.dj, I.ht, fun i a e => let ⟨vs, h⟩ := I.w4 i a e; ⟨vs, sH _ _ h⟩⟩
  · by_cases h : a = p
    · subst h; rw [upd_same] at e; cases e
    · rw [upd_ne h] at e; exact I.hn a e
  · have x := I.sl i s e
    cases s with
    | undef => trivial
    | imm d => exact x
    | own ds =>
      obtain ⟨a, vs, h1, h2, h3, h4, h5⟩ := x
      exact ⟨a, vs, h1, sH _ _ h2, h3, h4, h5⟩
    | io ds =>
      obtain ⟨a, vs, h1, h2, h3, h4, h5⟩ := x
      exact ⟨a, vs, h1, sH _ _ h2, h3, h4, h5⟩
    | scr ns T =>
      obtain ⟨⟨a, h1, h2⟩, hT⟩ := x
      refine ⟨⟨a, h1, ?_⟩, hT⟩
      rcases h2 with (⟨ob, h2⟩ | h2) | h2
      · exact .inl (.inl ⟨ob, sH _ _ h2⟩)
      · exact .inl (.inr h2)
      · exact .inr h2
    | exc a d fs => exact ⟨x.1, x.2.keep (Sub.rfl' _) fun b vs e => sH _ _ e⟩
/-- a list that stands by itself: not known for good, in no slot -/
structure NewL (K : PySem.W.Frag) (F : Fx) (G H : Hp) (σ : L2.St) (ρ : Rho) (a : Addr) (ds : List D) : Prop where
  h : ∃ vs, H a = some (HO.lst vs) ∧ Rs K G vs ds
  g : G a = none
  z : F.H0 a = none
  sl : ∀ (i : Nat) (es : List D), ρ[i]? = some (Slot.own es) → σ[i]? ≠ some (some (V.ref a))
/-- it is known for good from now on -/
theorem SI.freeze (I : SI K F G H σ ρ) {a : Addr} {ds : List D} (n : NewL K F G H σ ρ a ds) : ∃ G', SI K F G' H σ ρ ∧ Sub G G' ∧ Rp K G' (V.ref a) (PyData.list ds) := by
  obtain ⟨⟨vs, hv, rv⟩, hg, hz, hs⟩ := n
  have sG : Sub G (upd G a (.lst vs)) := Sub.new hg
  refine ⟨upd G a (.lst vs), ⟨fun b u e => ?_, fun b ps e => ?_, I.g0.tr sG, fun b u e => ?_, I.h0, I.hn, I.w1, I.w2, I.w3, I.tb, I.len, fun i s e => ?_, I.dj, I.ht, I.w4⟩, sG, .l upd_same (rv.mono sG _ _)⟩
  · by_cases h : b = a
    · subst h; rw [upd_same] at e; cases e; exact hv
    · rw [upd_ne h] at e; exact I.gH b u e
  · by_cases h : b = a
    · subst h; rw [upd_same] at e; cases e
    · rw [upd_ne h] at e; exact I.gt b ps e
  · by_cases h : b = a
    · subst h; exact .inr hz
    · rw [upd_ne h] at e; exact I.gn b u e
  · have x := I.sl i s e
    cases s with
    | undef => trivial
    | imm d => obtain ⟨v, h1, h2⟩ := x; exact ⟨v, h1, h2.mono sG _ _⟩
    | own es =>
      obtain ⟨b, ws, h1, h2, h3, h4, h5⟩ := x
      have nb : b ≠ a := fun z => hs i es e (by rw [h1, z])
      exact ⟨b, ws, h1, h2, by rw [upd_ne nb]; exact h3, h4.mono sG _ _, h5⟩
    | io es =>
      obtain ⟨b, ws, h1, h2, h3, h4, h5⟩ := x
      have nb : b ≠ a := fun z => by subst z; exact I.w1 i b h5 hz
      exact ⟨b, ws, h1, h2, by rw [upd_ne nb]; exact h3, h4.mono sG _ _, h5⟩
    | scr ns T =>
      obtain ⟨⟨b, h1, h2⟩, hT⟩ := x
      refine ⟨⟨b, h1, ?_⟩, hT⟩
      rcases h2 with h2 | h2
      · exact .inl h2
      · exact .inr (sG _ _ h2)
    | exc b d fs => exact ⟨x.1, x.2.keep sG fun _ _ e => e⟩
theorem lst?_put {i : Nat} {ds es : List D} (h : ρ.lst? i = some ds) : (ρ.put i es).lst? i = some es := by
  unfold Rho.lst? at h
  unfold Rho.put Rho.lst?
  split at h
  · rename_i e
    have hi : i < ρ.length := (List.getElem?_eq_some_iff.mp e).1
    simp [e, hi]
  · rename_i e
    have hi : i < ρ.length := (List.getElem?_eq_some_iff.mp e).1
    simp [e, hi]
  · cases h
theorem put_length (ρ : Rho) (i : Nat) (ds : List D) : (ρ.put i ds).length = ρ.length := by
  unfold Rho.put
  split <;> simp
/-- the list of a slot changes -/
theorem SI.mut_ (I : SI K F G H σ ρ) {i : Nat} {a : Addr} {ds es : List D} {ws : List V} (m : MutAt K F G H σ ρ i a ds) (r : Rs K G ws es) : SI K F G (upd H a (.lst ws)) σ (ρ.put i es) := by
  obtain ⟨m1, ⟨vs, m2, m3⟩, m4, m5⟩ := id m
  have kp : Kp H (upd H a (.lst ws)) := fun b o e n => by
    have nb : b ≠ a := fun z => by subst z; rw [m2] at e; cases e; exact n vs rfl
    rw [upd_ne nb]; exact e
  have other : ∀ j b es', MutAt K F G H σ ρ j b es' → j ≠ i → b ≠ a := fun j b es' h n z => by subst z; exact n (I.apart h m)
  have hi : i < ρ.length := by
    rcases m5 with ⟨e, _⟩ | ⟨e, _⟩ <;> exact (List.getElem?_eq_some_iff.mp e).1
  have at_i : ∀ s, (ρ.put i es)[i]? = some s → (s = .own es ∧ F.H0 a = none) ∨ (s = .io es ∧ F.w i = some a) := fun s h => by
    unfold Rho.put at h
    rcases m5 with ⟨e, z⟩ | ⟨e, z⟩
    · rw [e] at h
      simp only [List.getElem?_set_self hi] at h
      exact .inl ⟨(Option.some.inj h).symm, z⟩
    · rw [e] at h
      simp only [List.getElem?_set_self hi] at h
      exact .inr ⟨(Option.some.inj h).symm, z⟩
  have at_j : ∀ j, j ≠ i → (ρ.put i es)[j]? = ρ[j]? := fun j n => by
    unfold Rho.put
    split
    · rw [List.getElem?_set_ne (Ne.symm n)]
    · rw [List.getElem?_set_ne (Ne.symm n)]
    · rfl
  refine ⟨fun b u e => ?_, I.gt, I.g0, I.gn, fun b u e h1 => ?_, fun b e => ?_, I.w1, I.w2, I.w3, tabs_kp I.tb kp, by rw [put_length]; exact I.len, fun j s e => ?_, fun j k b ds1 ds2 e1 e2 s1 s2 => ?_, I.ht, fun i b e => ?_⟩
  · have nb : b ≠ a := fun z => by subst z; rw [m4] at e; cases e
    rw [upd_ne nb]; exact I.gH b u e
  · have nb : b ≠ a := fun z => by
      subst z
      rcases m5 with ⟨_, z⟩ | ⟨_, z⟩
      · rw [z] at e; cases e
      · exact h1 i z
    rw [upd_ne nb]; exact I.h0 b u e h1
  · by_cases h : b = a
    · subst h; rw [upd_same] at e; cases e
    · rw [upd_ne h] at e; exact I.hn b e
  · by_cases hj : j = i
    · subst hj
      rcases at_i s e with ⟨rfl, z⟩ | ⟨rfl, z⟩
      · exact ⟨a, ws, m1, upd_same, m4, r, z⟩
      · exact ⟨a, ws, m1, upd_same, m4, r, z⟩
    · rw [at_j j hj] at e
      have x := I.sl j s e
      cases s with
      | undef => trivial
      | imm d => exact x
      | own ds' =>
        obtain ⟨b, us, h1, h2, h3, h4, h5⟩ := x
        exact ⟨b, us, h1, by rw [upd_ne (other j b ds' ⟨h1, ⟨us, h2, h4⟩, h3, .inl ⟨e, h5⟩⟩ hj)]; exact h2, h3, h4, h5⟩
      | io ds' =>
        obtain ⟨b, us, h1, h2, h3, h4, h5⟩ := x
        exact ⟨b, us, h1, by rw [upd_ne (other j b ds' ⟨h1, ⟨us, h2, h4⟩, h3, .inr ⟨e, h5⟩⟩ hj)]; exact h2, h3, h4, h5⟩
      | scr ns T =>
        obtain ⟨⟨b, h1, h2⟩, hT⟩ := x
        refine ⟨⟨b, h1, ?_⟩, hT⟩
        rcases h2 with (⟨ob, h2⟩ | h2) | h2
        · exact .inl (.inl ⟨ob, kp _ _ h2 (fun _ z => by cases z)⟩)
        · exact .inl (.inr h2)
        · exact .inr h2
      | exc b d fs => exact ⟨x.1, x.2.keep (Sub.rfl' _) fun _ _ e => kp _ _ e (fun _ z => by cases z)⟩
  · have own_of : ∀ (k : Nat) (ds' : List D), (ρ.put i es)[k]? = some (Slot.own ds') → ∃ ds'' : List D, ρ[k]? = some (Slot.own ds'') := fun k ds' e => by
      by_cases hk : k = i
      · subst hk
        rcases m5 with ⟨e', z⟩ | ⟨e', z⟩
        · exact ⟨_, e'⟩
        · rcases at_i _ e with ⟨h, _⟩ | ⟨h, _⟩
          · unfold Rho.put at e
            rw [e'] at e
            simp only [List.getElem?_set_self hi] at e
            cases e
          · cases h
      · rw [at_j k hk] at e; exact ⟨_, e⟩
    obtain ⟨q1, r1⟩ := own_of j ds1 e1
    obtain ⟨q2, r2⟩ := own_of k ds2 e2
    exact I.dj j k b _ _ r1 r2 s1 s2
  · by_cases hb : b = a
    · subst hb; exact ⟨ws, upd_same⟩
    · obtain ⟨us, h⟩ := I.w4 i b e
      exact ⟨us, by rw [upd_ne hb]; exact h⟩
/-- a slot is stored to: a value known for good -/
theorem SI.setImm (I : SI K F G H σ ρ) {i : Nat} {v : V} {d : D} (r : Rp K G v d) : SI K F G H (σ.set i (some v)) (ρ.set i (.imm d)) := by
  refine ⟨I.gH, I.gt, I.g0, I.gn, I.h0, I.hn, I.w1, I.w2, I.w3, I.tb, by simp [I.len], fun j s e => ?_, fun j k b ds1 ds2 e1 e2 s1 s2 => ?_, I.ht, I.w4⟩
  · by_cases hj : j = i
    · subst hj
      have hl : j < ρ.length := by
        have := (List.getElem?_eq_some_iff.mp e).1
        simpa using this
      rw [List.getElem?_set_self hl] at e
      cases e
      exact ⟨v, by rw [List.getElem?_set_self (by rw [← I.len]; exact hl)], r⟩
    · rw [List.getElem?_set_ne (Ne.symm hj)] at e ⊢
      exact I.sl j s e
  · have nj : ∀ k ds', (ρ.set i (.imm d))[k]? = some (.own ds') → k ≠ i := fun k ds' e z => by
      subst z
      have hl : k < ρ.length := by
        have := (List.getElem?_eq_some_iff.mp e).1
        simpa using this
      rw [List.getElem?_set_self hl] at e
      cases e
    have n1 := nj j _ e1
    have n2 := nj k _ e2
    rw [List.getElem?_set_ne (Ne.symm n1)] at e1 s1
    rw [List.getElem?_set_ne (Ne.symm n2)] at e2 s2
    exact I.dj j k b _ _ e1 e2 s1 s2
/-- .. a list that stands by itself -/
theorem SI.setOwn (I : SI K F G H σ ρ) {i : Nat} {a : Addr} {ds : List D} (n : NewL K F G H σ ρ a ds) : SI K F G H (σ.set i (some (V.ref a))) (ρ.set i (.own ds)) := by
  obtain ⟨⟨vs, hv, rv⟩, hg, hz, hs⟩ := n
  have keyj : ∀ k es, k ≠ i → ρ[k]? = some (.own es) → σ[k]? ≠ some (some (V.ref a)) := fun k es _ e => hs k es e
  refine ⟨I.gH, I.gt, I.g0, I.gn, I.h0, I.hn, I.w1, I.w2, I.w3, I.tb, by simp [I.len], fun j s e => ?_, fun j k b ds1 ds2 e1 e2 s1 s2 => ?_, I.ht, I.w4⟩
  · by_cases hj : j = i
    · subst hj
      have hl : j < ρ.length := by
        have := (List.getElem?_eq_some_iff.mp e).1
        simpa using this
      rw [List.getElem?_set_self hl] at e
      cases e
      exact ⟨a, vs, by rw [List.getElem?_set_self (by rw [← I.len]; exact hl)], hv, hg, rv, hz⟩
    · rw [List.getElem?_set_ne (Ne.symm hj)] at e ⊢
      exact I.sl j s e
  · by_cases hj : j = i
    · by_cases hk : k = i
      · rw [hj, hk]
      · subst hj
        rw [List.getElem?_set_ne (Ne.symm hk)] at e2 s2
        have hl : j < σ.length := by
          have := (List.getElem?_eq_some_iff.mp s1).1
          simpa using this
        rw [List.getElem?_set_self hl] at s1
        cases s1
        exact absurd s2 (keyj k ds2 hk e2)
    · rw [List.getElem?_set_ne (Ne.symm hj)] at e1 s1
      by_cases hk : k = i
      · subst hk
        have hl : k < σ.length := by
          have := (List.getElem?_eq_some_iff.mp s2).1
          simpa using this
        rw [List.getElem?_set_self hl] at s2
        cases s2
        exact absurd s1 (keyj j ds1 hj e1)
      · rw [List.getElem?_set_ne (Ne.symm hk)] at e2 s2
        exact I.dj j k b _ _ e1 e2 s1 s2
end
end Pf

/-! Pf2: what a piece of code denotes over slots; the judgements; blocks. -/
namespace Pf
open PySem PySem.Spec PyProof.Rows L2

/-- an error: its class by name, its fields -/
structure Ex where
  cls : Str
  fs : List (Str × D)

inductive R (α : Type) where
  | ok (a : α) (ρ : Rho)
  | err (x : Ex) (ρ : Rho)
  | bad
def R.bind {α β : Type} (r : R α) (f : α → Rho → R β) : R β :=
  match r with
  | .ok a ρ => f a ρ
  | .err x ρ => .err x ρ
  | .bad => .bad
def lift {α : Type} (o : Option α) (ρ : Rho) : R α :=
  match o with
  | some a => .ok a ρ
  | none => .bad

def ExOk (K : PySem.W.Frag) (mg : Str → Option Value) (G H : Hp) (x : Ex) (cls : Value) (dd : Option Addr) : Prop :=
  mg x.cls = some cls ∧ XdOk K G H dd x.fs ∧ (x.fs = [] → dd = none)

/-- what is known of a result: how the value b tells the datum a -/
abbrev Rel (α β : Type) := Fx → L2.St → Hp → Hp → Rho → β → α → Prop
def Post {α β : Type} (K : PySem.W.Frag) (mg : Str → Option Value) (F : Fx) (G : Hp) (σ : L2.St) (W : WX) (rel : Rel α β) (Q : β → Hp → Prop) : R α → Prop
  | .ok a ρ => ∀ G' H' b, SI K F G' H' σ ρ → Sub G G' → rel F σ G' H' ρ b a → Q b H'
  | .err x ρ => ∀ G' H' cls dd, SI K F G' H' σ ρ → Sub G G' → ExOk K mg G' H' x cls dd → W cls dd σ H'
  | .bad => False
def ROK {α β : Type} (K : PySem.W.Frag) (mg : Str → Option Value) (F : Fx) (W : WX) (rel : Rel α β) (t : L2.St → Hp → (β → Hp → Prop) → Prop) (den : Rho → R α) : Prop :=
  ∀ G H σ ρ Q, SI K F G H σ ρ → Post K mg F G σ W rel Q (den ρ) → t σ H Q

/-- a value known for good; one that is so now (a slot's own list); a list that stands by itself -/
def Bw (K : PySem.W.Frag) (G H : Hp) (v : V) (d : D) : Prop :=
  Rp K G v d ∨ ∃ (a : Addr) (vs : List V) (ds : List D), v = V.ref a ∧ d = PyData.list ds ∧ H a = some (HO.lst vs) ∧ Rs K G vs ds
def relE (K : PySem.W.Frag) : Rel D V := fun _ _ G _ _ v d => Rp K G v d
def relB (K : PySem.W.Frag) : Rel D V := fun _ _ G H _ v d => Bw K G H v d
def relN (K : PySem.W.Frag) : Rel (List D) V := fun F σ G H ρ v ds => ∃ a, v = V.ref a ∧ NewL K F G H σ ρ a ds
def relT : Rel Bool Bool := fun _ _ _ _ _ b a => b = a

section
variable {K : PySem.W.Frag} {mg : Str → Option Value} {F : Fx} {G G' H : Hp} {σ : L2.St} {W : WX} {α β γ δ : Type} {rel : Rel α β} {rel2 : Rel γ δ} {ρ : Rho}
theorem Post.mono {Q : β → Hp → Prop} {r : R α} (s : Sub G G') (p : Post K mg F G σ W rel Q r) : Post K mg F G' σ W rel Q r := by
  cases r with
  | ok a ρ => exact fun G2 H2 b I s2 r2 => p G2 H2 b I (s.tr s2) r2
  | err x ρ => exact fun G2 H2 c d I s2 r2 => p G2 H2 c d I (s.tr s2) r2
  | bad => exact p
theorem Post.bind {Q : δ → Hp → Prop} {Q1 : β → Hp → Prop} {r : R α} {f : α → Rho → R γ} (p : Post K mg F G σ W rel2 Q (r.bind f))
    (k : ∀ a ρ1 G1 H1 b, SI K F G1 H1 σ ρ1 → Sub G G1 → rel F σ G1 H1 ρ1 b a → Post K mg F G1 σ W rel2 Q (f a ρ1) → Q1 b H1) : Post K mg F G σ W rel Q1 r := by
  cases r with
  | ok a ρ => exact fun G2 H2 b I s2 r2 => k a ρ G2 H2 b I s2 r2 (Post.mono s2 p)
  | err x ρ => exact p
  | bad => exact p
theorem Post.lift {Q : β → Hp → Prop} {o : Option α} (p : Post K mg F G σ W rel Q (lift o ρ)) : ∃ a, o = some a ∧ Post K mg F G σ W rel Q (.ok a ρ) := by
  cases o with
  | some a => exact ⟨a, rfl, p⟩
  | none => exact p.elim
theorem Rp.bw {v : V} {d : D} (h : Rp K G v d) : Bw K G H v d := .inl h
theorem Bw.lst {v : V} {ds : List D} (h : Bw K G H v (PyData.list ds)) (s : Sub G H) : ∃ a vs, v = V.ref a ∧ H a = some (HO.lst vs) ∧ Rs K G vs ds := by
  rcases h with h | ⟨a, vs, es, e1, e2, e3, e4⟩
  · cases h with
    | l e r => exact ⟨_, _, rfl, s _ _ e, r⟩
  · cases e2
    exact ⟨a, vs, e1, e3, e4⟩
theorem Bw.tup {v : V} {ds : List D} (h : Bw K G H v (PyData.tuple ds)) (s : Sub G H) : ∃ a vs, v = V.ref a ∧ SqT K H a vs ∧ Rs K G vs ds := by
  rcases h with h | ⟨a, vs, es, e1, e2, e3, e4⟩
  · cases h with
    | t e r => exact ⟨_, _, rfl, s.seqT e, r⟩
  · cases e2
theorem Bw.dp {v : V} {d : D} (h : Bw K G H v d) (s : Sub G H) : Dp K H v d := by
  rcases h with h | ⟨a, vs, es, e1, e2, e3, e4⟩
  · exact (h.mono s _ _).dp _ _
  · subst e1 e2
    exact .lst (.inl (.inl e3)) ((e4.mono s _ _).dp _ _)
theorem Bw.int {v : V} {i : Int} (h : Bw K G H v (PyData.int i)) : v = V.int i := by
  rcases h with h | ⟨a, vs, es, e1, e2, e3, e4⟩
  · cases h; rfl
  · cases e2
theorem Bw.str {v : V} {i : Str} (h : Bw K G H v (PyData.str i)) : v = V.str i := by
  rcases h with h | ⟨a, vs, es, e1, e2, e3, e4⟩
  · cases h; rfl
  · cases e2
theorem Bw.bool {v : V} {i : Bool} (h : Bw K G H v (PyData.bool i)) : v = V.bl i := by
  rcases h with h | ⟨a, vs, es, e1, e2, e3, e4⟩
  · cases h; rfl
  · cases e2
theorem Bw.none_ {v : V} (h : Bw K G H v PyData.none) : v = V.non := by
  rcases h with h | ⟨a, vs, es, e1, e2, e3, e4⟩
  · cases h; rfl
  · cases e2
theorem Bw.mono {v : V} {d : D} (h : Bw K G H v d) (s : Sub G G') (sh : ∀ a vs, H a = some (HO.lst vs) → H a = some (HO.lst vs)) : Bw K G' H v d := by
  rcases h with h | ⟨a, vs, es, e1, e2, e3, e4⟩
  · exact .inl (h.mono s _ _)
  · exact .inr ⟨a, vs, es, e1, e2, e3, e4.mono s _ _⟩
end

/-! ### the judgements -/
def JE (X : Cx) (W : WX) (e : Expr) (den : Rho → R D) : Prop := ∃ t, PE X e t ∧ ∀ F, ROK X.K X.mg F W (relE X.K) t den
def JB (X : Cx) (W : WX) (e : Expr) (den : Rho → R D) : Prop := ∃ t, PE X e t ∧ ∀ F, ROK X.K X.mg F W (relB X.K) t den
def JN (X : Cx) (W : WX) (e : Expr) (den : Rho → R (List D)) : Prop := ∃ t, PE X e t ∧ ∀ F, ROK X.K X.mg F W (relN X.K) t den
def JT (X : Cx) (W : WX) (e : Expr) (den : Rho → R Bool) : Prop := ∃ t, PT X e t ∧ ∀ F, ROK X.K X.mg F W relT t den
def JW (X : Cx) (W : WX) (e : Expr) (den : Rho → R Bool) : Prop := ∃ t, PW X e t ∧ ∀ F, ROK X.K X.mg F W relT t den

inductive Out where
  | next (ρ : Rho)
  | ret (d : D) (ρ : Rho)
  | retN (ds : List D) (ρ : Rho)
  | brk (ρ : Rho)
  | cont (ρ : Rho)
  | err (x : Ex) (ρ : Rho)
  | bad
def SPost (K : PySem.W.Frag) (mg : Str → Option Value) (F : Fx) (G : Hp) (W : WX) (D : Ends) : Out → Prop
  | .next ρ => ∀ G' H' σ', SI K F G' H' σ' ρ → Sub G G' → D.nx σ' H'
  | .ret d ρ => ∀ G' H' σ' v, SI K F G' H' σ' ρ → Sub G G' → Rp K G' v d → D.rt v H'
  | .retN ds ρ => ∀ G' H' σ' a vs, SI K F G' H' σ' ρ → Sub G G' → H' a = some (HO.lst vs) → G' a = none → F.H0 a = none → Rs K G' vs ds → D.rt (V.ref a) H'
  | .brk ρ => ∀ G' H' σ', SI K F G' H' σ' ρ → Sub G G' → D.bk σ' H'
  | .cont ρ => ∀ G' H' σ', SI K F G' H' σ' ρ → Sub G G' → D.ct σ' H'
  | .err x ρ => ∀ G' H' σ' cls dd, SI K F G' H' σ' ρ → Sub G G' → ExOk K mg G' H' x cls dd → W cls dd σ' H'
  | .bad => False
def SOK (K : PySem.W.Frag) (mg : Str → Option Value) (F : Fx) (W : WX) (t : TS) (den : Rho → Out) : Prop :=
  ∀ G H σ ρ D, SI K F G H σ ρ → SPost K mg F G W D (den ρ) → t D σ H
def JS (X : Cx) (W : WX) (st : Stmt) (den : Rho → Out) : Prop := ∃ t, PS X st t ∧ ∀ F, SOK X.K X.mg F W t den
def JSs (X : Cx) (W : WX) (st : List Stmt) (den : Rho → Out) : Prop := ∃ t, PSs X st t ∧ ∀ F, SOK X.K X.mg F W t den

/-- a result goes on as a statement's end -/
def R.out {α : Type} (r : R α) (f : α → Rho → Out) : Out :=
  match r with
  | .ok a ρ => f a ρ
  | .err x ρ => .err x ρ
  | .bad => .bad
section
variable {K : PySem.W.Frag} {mg : Str → Option Value} {F : Fx} {G G' H : Hp} {σ : L2.St} {W : WX} {α β : Type} {rel : Rel α β} {ρ : Rho} {D : Ends}
theorem SPost.mono {o : Out} (s : Sub G G') (p : SPost K mg F G W D o) : SPost K mg F G' W D o := by
  cases o with
  | next ρ => exact fun G2 H2 σ2 I s2 => p G2 H2 σ2 I (s.tr s2)
  | ret d ρ => exact fun G2 H2 σ2 v I s2 r => p G2 H2 σ2 v I (s.tr s2) r
  | retN ds ρ => exact fun G2 H2 σ2 a vs I s2 h1 h2 h3 h4 => p G2 H2 σ2 a vs I (s.tr s2) h1 h2 h3 h4
  | brk ρ => exact fun G2 H2 σ2 I s2 => p G2 H2 σ2 I (s.tr s2)
  | cont ρ => exact fun G2 H2 σ2 I s2 => p G2 H2 σ2 I (s.tr s2)
  | err x ρ => exact fun G2 H2 σ2 c d I s2 r => p G2 H2 σ2 c d I (s.tr s2) r
  | bad => exact p
theorem SPost.bind {r : R α} {f : α → Rho → Out} {Q1 : β → Hp → Prop} (p : SPost K mg F G W D (r.out f))
    (k : ∀ a ρ1 G1 H1 b, SI K F G1 H1 σ ρ1 → Sub G G1 → rel F σ G1 H1 ρ1 b a → SPost K mg F G1 W D (f a ρ1) → Q1 b H1) : Post K mg F G σ W rel Q1 r := by
  cases r with
  | ok a ρ => exact fun G2 H2 b I s2 r2 => k a ρ G2 H2 b I s2 r2 (SPost.mono s2 p)
  | err x ρ => exact fun G2 H2 c d I s2 r2 => p G2 H2 σ c d I s2 r2
  | bad => exact p
end

/-! ### names, constants -/
def dImm (i : Nat) (ρ : Rho) : R D :=
  match ρ[i]? with
  | some (.imm d) => .ok d ρ
  | _ => .bad
/-- a slot's own list as it stands -/
def dOwn (i : Nat) (ρ : Rho) : R D :=
  match ρ.lst? i with
  | some ds => .ok (.list ds) ρ
  | none => .bad
/-- .. from now on never changed -/
def dFrz (i : Nat) (ρ : Rho) : R D :=
  match ρ[i]? with
  | some (.own ds) => .ok (.list ds) (ρ.set i (.imm (.list ds)))
  | some (.imm d) => .ok d ρ
  | _ => .bad
def dC (d : D) (ρ : Rho) : R D := .ok d ρ

section
variable {X : Cx} {W : WX} {e : Expr} {den : Rho → R D} {pos : Pos}
theorem je_var (i : Nat) {x : Str} (hN : X.N[i]? = some x := by rfl) (hv : Vis X.env.scope x := by first | exact Or.inl rfl | exact Or.inr (Or.inl rfl) | exact Or.inr (Or.inr rfl)) (hd : (x == ("__debug__" : Str)) = false := by decide)
    (hcd : (x == ("__classdict__" : Str)) = false := by decide) : JE X W (.Name x pos) (dImm i) := by
  refine ⟨_, pe_var (i := i) hN hv hd hcd, fun F G H σ ρ Q I p => ?_⟩
  unfold dImm at p
  split at p
  · rename_i d e
    obtain ⟨v, h1, h2⟩ := I.sl i _ e
    exact ⟨v, h1, p G H v I (Sub.rfl' G) h2⟩
  · exact p.elim
theorem jb_own (i : Nat) {x : Str} (hN : X.N[i]? = some x := by rfl) (hv : Vis X.env.scope x := by first | exact Or.inl rfl | exact Or.inr (Or.inl rfl) | exact Or.inr (Or.inr rfl)) (hd : (x == ("__debug__" : Str)) = false := by decide)
    (hcd : (x == ("__classdict__" : Str)) = false := by decide) : JB X W (.Name x pos) (dOwn i) := by
  refine ⟨_, pe_var (i := i) hN hv hd hcd, fun F G H σ ρ Q I p => ?_⟩
  unfold dOwn at p
  split at p
  · rename_i ds e
    obtain ⟨a, h1, ⟨vs, h2, h3⟩, _⟩ := I.at_ e
    exact ⟨_, h1, p G H _ I (Sub.rfl' G) (.inr ⟨a, vs, ds, rfl, rfl, h2, h3⟩)⟩
  · exact p.elim
theorem je_frz (i : Nat) {x : Str} (hN : X.N[i]? = some x := by rfl) (hv : Vis X.env.scope x := by first | exact Or.inl rfl | exact Or.inr (Or.inl rfl) | exact Or.inr (Or.inr rfl)) (hd : (x == ("__debug__" : Str)) = false := by decide)
    (hcd : (x == ("__classdict__" : Str)) = false := by decide) : JE X W (.Name x pos) (dFrz i) := by
  refine ⟨_, pe_var (i := i) hN hv hd hcd, fun F G H σ ρ Q I p => ?_⟩
  unfold dFrz at p
  split at p
  · rename_i ds e
    obtain ⟨a, vs, h1, h2, h3, h4, h5⟩ := I.sl i _ e
    have n : NewL X.K F G H (σ.set i none) (ρ.set i .undef) a ds := ⟨⟨vs, h2, h4⟩, h3, h5, fun j es ej z => by
      by_cases hj : j = i
      · subst hj
        rw [List.getElem?_set_self (List.getElem?_eq_some_iff.mp e).1] at ej
        cases ej
      · rw [List.getElem?_set_ne (Ne.symm hj)] at ej z
        exact hj (I.dj j i a _ _ ej e z h1)⟩
    have I0 : SI X.K F G H (σ.set i none) (ρ.set i .undef) := by
      refine ⟨I.gH, I.gt, I.g0, I.gn, I.h0, I.hn, I.w1, I.w2, I.w3, I.tb, by simp [I.len], fun j s ej => ?_, fun j k b ds1 ds2 e1 e2 s1 s2 => ?_, I.ht, I.w4⟩
      · by_cases hj : j = i
        · subst hj
          rw [List.getElem?_set_self (List.getElem?_eq_some_iff.mp e).1] at ej
          cases ej
          trivial
        · rw [List.getElem?_set_ne (Ne.symm hj)] at ej ⊢
          exact I.sl j s ej
      · have nj : ∀ (k : Nat) (ds' : List D), (ρ.set i Slot.undef)[k]? = some (Slot.own ds') → k ≠ i := fun k ds' ek z => by
          subst z
          rw [List.getElem?_set_self (List.getElem?_eq_some_iff.mp e).1] at ek
          cases ek
        have n1 := nj j _ e1
        have n2 := nj k _ e2
        rw [List.getElem?_set_ne (Ne.symm n1)] at e1 s1
        rw [List.getElem?_set_ne (Ne.symm n2)] at e2 s2
        exact I.dj j k b _ _ e1 e2 s1 s2
    obtain ⟨G', I1, s1, r1⟩ := I0.freeze n
    have I2 := I1.setImm (i := i) r1
    have e2 : (σ.set i none).set i (some (V.ref a)) = σ := by
      rw [List.set_set]
      refine List.ext_getElem? fun j => ?_
      by_cases hj : i = j
      · subst hj
        have hl : i < σ.length := (List.getElem?_eq_some_iff.mp h1).1
        rw [List.getElem?_set_self hl, h1]
      · rw [List.getElem?_set_ne hj]
    rw [e2, List.set_set] at I2
    exact ⟨_, h1, p G' H _ I2 s1 r1⟩
  · rename_i d e
    obtain ⟨v, h1, h2⟩ := I.sl i _ e
    exact ⟨v, h1, p G H v I (Sub.rfl' G) h2⟩
  · exact p.elim
theorem je_c {v : V} {d : D} (h : PE X e (tC v)) (r : ∀ G, Rp X.K G v d) : JE X W e (dC d) := ⟨_, h, fun _ G H _ _ _ I p => p G H v I (Sub.rfl' G) (r G)⟩
theorem je_int {i : Int} {j : Nat} : JE X W (.Constant (.int i) j pos) (dC (.int i)) := je_c pe_int fun _ => .i i
theorem je_str {i : Str} {j : Nat} : JE X W (.Constant (.str i) j pos) (dC (.str i)) := je_c pe_str fun _ => .s i
theorem je_bl {i : Bool} {j : Nat} : JE X W (.Constant (.bool i) j pos) (dC (.bool i)) := je_c pe_bl fun _ => .b i
theorem je_non {j : Nat} : JE X W (.Constant .none j pos) (dC .none) := je_c pe_non fun _ => .n
/-- a constant of the module -/
theorem je_gint {x : Str} {i : Int} (hg : Gl X x) (h : ∃ t, X.mg x = some (.int i t)) (hd : (x == ("__debug__" : Str)) = false := by decide) : JE X W (.Name x pos) (dC (.int i)) :=
  let ⟨t, e⟩ := h
  je_c (pe_glob (v := .int i) hg e ⟨t, rfl⟩ hd) fun _ => .i i
theorem je_gstr {x : Str} {i : Str} (hg : Gl X x) (h : ∃ t, X.mg x = some (.str i t)) (hd : (x == ("__debug__" : Str)) = false := by decide) : JE X W (.Name x pos) (dC (.str i)) :=
  let ⟨t, e⟩ := h
  je_c (pe_glob (v := .str i) hg e ⟨t, rfl⟩ hd) fun _ => .s i
theorem je_gnon {x : Str} (hg : Gl X x) (h : X.mg x = some .none) (hd : (x == ("__debug__" : Str)) = false := by decide) : JE X W (.Name x pos) (dC .none) :=
  je_c (pe_glob (v := .non) hg h rfl hd) fun _ => .n
/-! ### from one judgement to another -/
theorem jb_je (h : JE X W e den) : JB X W e den :=
  let ⟨t, ht, k⟩ := h
  ⟨t, ht, fun F G H σ ρ Q I p => k F G H σ ρ Q I (by
    cases q : den ρ with
    | ok d ρ' => rw [q] at p; exact fun G' H' v I' s r => p G' H' v I' s (.inl r)
    | err x ρ' => rw [q] at p; exact p
    | bad => rw [q] at p; exact p)⟩
def dLst (den : Rho → R (List D)) (ρ : Rho) : R D := (den ρ).bind fun ds ρ' => .ok (.list ds) ρ'
theorem je_new {den : Rho → R (List D)} (h : JN X W e den) : JE X W e (dLst den) :=
  let ⟨t, ht, k⟩ := h
  ⟨t, ht, fun F G H σ ρ Q I p => k F G H σ ρ Q I (p.bind fun ds ρ1 G1 H1 v I1 s1 ⟨a, e, n⟩ p1 => by
    subst e
    obtain ⟨G2, I2, s2, r2⟩ := I1.freeze n
    exact p1 G2 H1 _ I2 s2 r2)⟩
theorem je_to {den' : Rho → R D} (h : JE X W e den) (q : den = den') : JE X W e den' := q ▸ h
end

/-! ### blocks -/
def dSeq (a b : Rho → Out) (ρ : Rho) : Out :=
  match a ρ with
  | .next ρ' => b ρ'
  | o => o
def dNext (ρ : Rho) : Out := .next ρ
def dIf (c : Rho → R Bool) (a b : Rho → Out) (ρ : Rho) : Out := (c ρ).out fun k ρ' => if k = true then a ρ' else b ρ'
def dSet (i : Nat) (e : Rho → R D) (ρ : Rho) : Out := (e ρ).out fun d ρ' =>
  match ρ'[i]? with
  | some (.io _) => .bad
  | _ => .next (ρ'.set i (.imm d))
def dSetN (i : Nat) (e : Rho → R (List D)) (ρ : Rho) : Out := (e ρ).out fun d ρ' =>
  match ρ'[i]? with
  | some (.io _) => .bad
  | _ => .next (ρ'.set i (.own d))
def dRet (e : Rho → R D) (ρ : Rho) : Out := (e ρ).out fun d ρ' => .ret d ρ'
def dRetN (e : Rho → R (List D)) (ρ : Rho) : Out := (e ρ).out fun d ρ' => .retN d ρ'
/-- return x, x a slot's own list -/
def dRetOwn (i : Nat) (ρ : Rho) : Out :=
  match ρ[i]? with
  | some (.own ds) => .retN ds ρ
  | _ => .bad
def dDrop (e : Rho → R D) (ρ : Rho) : Out := (e ρ).out fun _ ρ' => .next ρ'
def dNever (_ : Rho) : Out := .bad
def dBrk (ρ : Rho) : Out := .brk ρ
def dCont (ρ : Rho) : Out := .cont ρ
section
variable {X : Cx} {W : WX} {e c : Expr} {den : Rho → R D} {pos : Pos} {st : Stmt} {rest a b : List Stmt} {d1 d2 : Rho → Out} {dc : Rho → R Bool}
theorem jss_nil : JSs X W [] dNext := ⟨_, pss_nil, fun _ G H σ _ _ I p => p G H σ I (Sub.rfl' G)⟩
theorem jss_one (h : JS X W st d1) : JSs X W [st] d1 :=
  let ⟨t, ht, k⟩ := h
  ⟨t, pss_one ht, k⟩
theorem jss_cons (h : JS X W st d1) (h2 : JSs X W rest d2) : JSs X W (st :: rest) (dSeq d1 d2) := by
  obtain ⟨t, ht, k⟩ := h
  obtain ⟨u, hu, k2⟩ := h2
  refine ⟨_, pss_cons ht hu, fun F G H σ ρ D I p => k F G H σ ρ _ I ?_⟩
  unfold dSeq at p
  cases q : d1 ρ with
  | next ρ' => rw [q] at p; exact fun G' H' σ' I' s => k2 F G' H' σ' ρ' D I' (SPost.mono s p)
  | ret d ρ' => rw [q] at p; exact p
  | retN d ρ' => rw [q] at p; exact p
  | brk ρ' => rw [q] at p; exact p
  | cont ρ' => rw [q] at p; exact p
  | err x ρ' => rw [q] at p; exact p
  | bad => rw [q] at p; exact p
theorem js_if (hc : JT X W c dc) (ha : JSs X W a d1) (hb : JSs X W b d2) : JS X W (.If c a b pos) (dIf dc d1 d2) := by
  obtain ⟨tc, hc, kc⟩ := hc
  obtain ⟨ta, ha, ka⟩ := ha
  obtain ⟨tb, hb, kb⟩ := hb
  refine ⟨_, ps_if hc ha hb, fun F G H σ ρ D I p => kc F G H σ ρ _ I (SPost.bind (rel := relT) p fun k ρ1 G1 H1 k' I1 s1 r1 p1 => ?_)⟩
  have r1 : k' = k := r1
  subst r1
  cases k' with
  | true => rw [if_pos rfl] at p1 ⊢; exact ka F G1 H1 σ ρ1 D I1 p1
  | false => rw [if_neg Bool.false_ne_true] at p1 ⊢; exact kb F G1 H1 σ ρ1 D I1 p1
theorem js_set (i : Nat) {x : Str} {pos' : Pos} (hN : X.N.Nodup) (he : JE X W e den) (hi : X.N[i]? = some x := by rfl) (hx : Loc X.env.scope x := by first | exact Or.inl rfl | exact Or.inr rfl) (hs : swapsWith e (some (.Name x pos')) pos.line X.env = pure false := by rfl)
    (hf : X.fn x = true ∨ X.env.scope.names.lookup x = some .local := by first | exact .inl rfl | exact .inr rfl | assumption) : JS X W (.Assign [.Name x pos'] e pos) (dSet i den) := by
  obtain ⟨t, ht, k⟩ := he
  refine ⟨_, ps_set (i := i) hN hi hx ht hs hf, fun F G H σ ρ D I p => k F G H σ ρ _ I (SPost.bind (rel := relE X.K) p fun d ρ1 G1 H1 v I1 s1 r1 p1 => ?_)⟩
  split at p1
  · exact p1.elim
  · exact p1 G1 H1 _ (I1.setImm r1) (Sub.rfl' _)
theorem js_setN (i : Nat) {x : Str} {pos' : Pos} {den : Rho → R (List D)} (hN : X.N.Nodup) (he : JN X W e den) (hi : X.N[i]? = some x := by rfl) (hx : Loc X.env.scope x := by first | exact Or.inl rfl | exact Or.inr rfl) (hs : swapsWith e (some (.Name x pos')) pos.line X.env = pure false := by rfl)
    (hf : X.fn x = true ∨ X.env.scope.names.lookup x = some .local := by first | exact .inl rfl | exact .inr rfl | assumption) : JS X W (.Assign [.Name x pos'] e pos) (dSetN i den) := by
  obtain ⟨t, ht, k⟩ := he
  refine ⟨_, ps_set (i := i) hN hi hx ht hs hf, fun F G H σ ρ D I p => k F G H σ ρ _ I (SPost.bind (rel := relN X.K) p fun d ρ1 G1 H1 v I1 s1 r1 p1 => ?_)⟩
  obtain ⟨a, e, n⟩ := r1
  subst e
  split at p1
  · exact p1.elim
  · exact p1 G1 H1 _ (I1.setOwn n) (Sub.rfl' _)
theorem js_ret (he : JE X W e den) : JS X W (.Return (some e) pos) (dRet den) := by
  obtain ⟨t, ht, k⟩ := he
  exact ⟨_, ps_ret ht, fun F G H σ ρ D I p => k F G H σ ρ _ I (SPost.bind (rel := relE X.K) p fun d ρ1 G1 H1 v I1 s1 r1 p1 => p1 G1 H1 σ v I1 (Sub.rfl' _) r1)⟩
theorem js_retN {den : Rho → R (List D)} (he : JN X W e den) : JS X W (.Return (some e) pos) (dRetN den) := by
  obtain ⟨t, ht, k⟩ := he
  refine ⟨_, ps_ret ht, fun F G H σ ρ D I p => k F G H σ ρ _ I (SPost.bind (rel := relN X.K) p fun d ρ1 G1 H1 v I1 s1 r1 p1 => ?_)⟩
  obtain ⟨a, e, ⟨⟨vs, h1, h2⟩, h3, h4, _⟩⟩ := r1
  subst e
  exact p1 G1 H1 σ a vs I1 (Sub.rfl' _) h1 h3 h4 h2
theorem js_retOwn (i : Nat) {x : Str} {pos' : Pos} (hN : X.N[i]? = some x := by rfl) (hv : Vis X.env.scope x := by first | exact Or.inl rfl | exact Or.inr (Or.inl rfl) | exact Or.inr (Or.inr rfl)) (hd : (x == ("__debug__" : Str)) = false := by decide)
    (hcd : (x == ("__classdict__" : Str)) = false := by decide) : JS X W (.Return (some (.Name x pos')) pos) (dRetOwn i) := by
  refine ⟨_, ps_ret (pe_var (i := i) hN hv hd hcd), fun F G H σ ρ D I p => ?_⟩
  unfold dRetOwn at p
  split at p
  · rename_i ds e
    obtain ⟨a, vs, h1, h2, h3, h4, h5⟩ := I.sl i _ e
    exact ⟨_, h1, p G H σ a vs I (Sub.rfl' _) h2 h3 h5 h4⟩
  · exact p.elim
theorem js_retNone : JS X W (.Return none pos) (dRet (dC .none)) := ⟨_, ps_retN, fun F G H σ ρ D I p => p G H σ _ I (Sub.rfl' _) .n⟩
theorem js_expr (he : JE X W e den) (hs : swapsWith e none pos.line X.env = pure false := by rfl) : JS X W (.Expr e pos) (dDrop den) := by
  obtain ⟨t, ht, k⟩ := he
  exact ⟨_, ps_expr ht hs, fun F G H σ ρ D I p => k F G H σ ρ _ I (SPost.bind (rel := relE X.K) p fun d ρ1 G1 H1 v I1 s1 r1 p1 => p1 G1 H1 σ I1 (Sub.rfl' _))⟩
theorem js_doc {x : Str} {j : Nat} {pos' : Pos} : JS X W (.Expr (.Constant (.str x) j pos) pos') dNext := ⟨_, ps_doc, fun _ G H σ _ _ I p => p G H σ I (Sub.rfl' G)⟩
theorem js_pass : JS X W (.Pass pos) dNext := ⟨_, ps_pass, fun _ G H σ _ _ I p => p G H σ I (Sub.rfl' G)⟩
theorem js_brk : JS X W (.Break pos) dBrk := ⟨_, ps_break, fun _ G H σ _ _ I p => p G H σ I (Sub.rfl' G)⟩
theorem js_cont : JS X W (.Continue pos) dCont := ⟨_, ps_continue, fun _ G H σ _ _ I p => p G H σ I (Sub.rfl' G)⟩
theorem js_never : JS X W st dNever := ⟨_, ps_never, fun _ _ _ _ _ _ _ p => p.elim⟩
theorem jss_never : JSs X W rest dNever := ⟨_, pss_never, fun _ _ _ _ _ _ _ p => p.elim⟩
end
end Pf

/-! Pf3: operators, tests, displays, subscripts. -/
namespace Pf
open PySem PySem.Spec PyProof.Rows L2

/-! ### operators by data -/
/-- what a reading asks, where the result is a datum known for good -/
def Gives (K : PySem.W.Frag) (F : Fx) (G H : Hp) (σ : L2.St) (ρ : Rho) (o : Option D) (Q : VK) : Prop :=
  ∃ d, o = some d ∧ ∀ G' H' v, SI K F G' H' σ ρ → Sub G G' → Rp K G' v d → Q v H'
def OpOK (K : PySem.W.Frag) (r : R2) (f : D → D → Option D) : Prop :=
  ∀ F G H σ ρ x y d1 d2 (Q : VK), SI K F G H σ ρ → Bw K G H x d1 → Bw K G H y d2 → Gives K F G H σ ρ (f d1 d2) Q → r x y H Q
def JOp (X : Cx) (fn : Value → Value → Sem Value) (f : D → D → Option D) : Prop := ∃ r, OpR X fn r ∧ OpOK X.K r f

section
variable {K : PySem.W.Frag} {mg : Str → Option Value} {F : Fx} {G G' H : Hp} {σ : L2.St} {W : WX} {ρ : Rho}
theorem Gives.here {d : D} {v : V} {o : Option D} {Q : VK} (g : Gives K F G H σ ρ o Q) (I : SI K F G H σ ρ) (e : o = some d) (r : Rp K G v d) : Q v H := by
  obtain ⟨d', e', k⟩ := g
  rw [e] at e'
  cases e'
  exact k G H v I (Sub.rfl' G) r
theorem Gives.tup {ds : List D} {vs : List V} {o : Option D} {Q : VK} {p : Addr} (g : Gives K F G H σ ρ o Q) (I : SI K F G H σ ρ) (e : o = some (PyData.tuple ds)) (r : Rs K G vs ds) (hp : H p = none) : Q (V.ref p) (upd H p (HO.tup vs)) := by
  obtain ⟨d', e', k⟩ := g
  rw [e] at e'
  cases e'
  have gp : G p = none := by
    cases q : G p with
    | none => rfl
    | some u => rw [I.gH p u q] at hp; cases hp
  exact k _ _ _ (I.alloc hp fun _ z => by cases z) (Sub.new gp) (.t (.inl (.inl upd_same)) (r.mono (Sub.new gp) _ _))
theorem Gives.lst {ds : List D} {vs : List V} {o : Option D} {Q : VK} {p : Addr} (g : Gives K F G H σ ρ o Q) (I : SI K F G H σ ρ) (e : o = some (PyData.list ds)) (r : Rs K G vs ds) (hp : H p = none) : Q (V.ref p) (upd H p (HO.lst vs)) := by
  obtain ⟨d', e', k⟩ := g
  rw [e] at e'
  cases e'
  have gp : G p = none := by
    cases q : G p with
    | none => rfl
    | some u => rw [I.gH p u q] at hp; cases hp
  exact k _ _ _ (I.alloc hp fun _ z => by cases z) (Sub.new gp) (.l upd_same (r.mono (Sub.new gp) _ _))
theorem Post.gives {Q : VK} {o : Option D} (p : Post K mg F G σ W (relE K) Q (Pf.lift o ρ)) : Gives K F G H σ ρ o Q := by
  obtain ⟨d, e, k⟩ := p.lift
  exact ⟨d, e, k⟩
end

def dOp (f : D → D → Option D) (a b : Rho → R D) (ρ : Rho) : R D := (a ρ).bind fun x ρ1 => (b ρ1).bind fun y ρ2 => lift (f x y) ρ2
/-- the left side a slot's own list: read behind the right side -/
def dOpO (f : D → D → Option D) (i : Nat) (b : Rho → R D) (ρ : Rho) : R D :=
  match ρ.lst? i with
  | none => .bad
  | some _ => (b ρ).bind fun y ρ2 =>
    match ρ2.lst? i with
    | some ds => lift (f (.list ds) y) ρ2
    | none => .bad
def dBool (a : Rho → R D) (ρ : Rho) : R Bool := (a ρ).bind fun d ρ' =>
  match d with
  | .bool b => .ok b ρ'
  | _ => .bad
section
variable {X : Cx} {W : WX} {a b c e : Expr} {da db dc : Rho → R D} {pos p2 : Pos} {f f' : D → D → Option D}
theorem rok_op {r : R2} {ta tb : TE} (ho : OpOK X.K r f) (ka : ∀ F, ROK X.K X.mg F W (relE X.K) ta da) (kb : ∀ F, ROK X.K X.mg F W (relB X.K) tb db) (F : Fx) : ROK X.K X.mg F W (relE X.K) (tOp r ta tb) (dOp f da db) := by
  intro G H σ ρ Q I p
  refine ka F G H σ ρ _ I (p.bind fun x ρ1 G1 H1 v I1 s1 r1 p1 => ?_)
  refine kb F G1 H1 σ ρ1 _ I1 (p1.bind fun y ρ2 G2 H2 u I2 s2 r2 p2 => ?_)
  exact ho F G2 H2 σ ρ2 _ _ _ _ Q I2 (.inl (r1.mono s2 _ _)) r2 p2.gives
theorem rok_opO {r : R2} {tb : TE} {i : Nat} (ho : OpOK X.K r f) (kb : ∀ F, ROK X.K X.mg F W (relB X.K) tb db) (F : Fx) : ROK X.K X.mg F W (relE X.K) (tOp r (tVar i) tb) (dOpO f i db) := by
  intro G H σ ρ Q I p
  unfold dOpO at p
  split at p
  · exact p.elim
  · rename_i ds e
    obtain ⟨a, h1, _⟩ := I.at_ e
    refine ⟨V.ref a, h1, kb F G H σ ρ _ I (p.bind fun y ρ2 G2 H2 u I2 s2 r2 p2 => ?_)⟩
    split at p2
    · rename_i es e2
      obtain ⟨a2, h2, ⟨vs, h3, h4⟩, _⟩ := I2.at_ e2
      have ea : a2 = a := by rw [h1] at h2; cases h2; rfl
      subst ea
      exact ho F G2 H2 σ ρ2 _ _ _ _ Q I2 (.inr ⟨_, vs, es, rfl, rfl, h3, h4⟩) r2 p2.gives
    · exact p2.elim
theorem je_bin {op : Operator} (o : JOp X (binaryOp op) f) (ha : JE X W a da) (hb : JB X W b db) : JE X W (.BinOp a op b pos) (dOp f da db) := by
  obtain ⟨r, h1, h2⟩ := o
  obtain ⟨ta, ha, ka⟩ := ha
  obtain ⟨tb, hb, kb⟩ := hb
  exact ⟨_, pe_op h1 ha hb, rok_op h2 ka kb⟩
theorem je_binO (i : Nat) {x : Str} {op : Operator} (o : JOp X (binaryOp op) f) (hb : JB X W b db) (hN : X.N[i]? = some x := by rfl) (hv : Vis X.env.scope x := by first | exact Or.inl rfl | exact Or.inr (Or.inl rfl) | exact Or.inr (Or.inr rfl)) (hd : (x == ("__debug__" : Str)) = false := by decide)
    (hcd : (x == ("__classdict__" : Str)) = false := by decide) : JE X W (.BinOp (.Name x p2) op b pos) (dOpO f i db) := by
  obtain ⟨r, h1, h2⟩ := o
  obtain ⟨tb, hb, kb⟩ := hb
  exact ⟨_, pe_op h1 (pe_var (i := i) hN hv hd hcd) hb, rok_opO h2 kb⟩
theorem je_cmp {op : CmpOp} (o : JOp X (compareOp op) f) (ha : JE X W a da) (hb : JB X W b db) (hm : behindInMarks op b = false := by first | exact nobehind _ (by decide) (by decide) | rfl) : JE X W (.Compare a [op] [b] pos) (dOp f da db) := by
  obtain ⟨r, h1, h2⟩ := o
  obtain ⟨ta, ha, ka⟩ := ha
  obtain ⟨tb, hb, kb⟩ := hb
  exact ⟨_, pe_cmpR h1 ha hb hm, rok_op h2 ka kb⟩
theorem je_cmpO (i : Nat) {x : Str} {op : CmpOp} (o : JOp X (compareOp op) f) (hb : JB X W b db) (hm : behindInMarks op b = false := by first | exact nobehind _ (by decide) (by decide) | rfl) (hN : X.N[i]? = some x := by rfl) (hv : Vis X.env.scope x := by first | exact Or.inl rfl | exact Or.inr (Or.inl rfl) | exact Or.inr (Or.inr rfl))
    (hd : (x == ("__debug__" : Str)) = false := by decide) (hcd : (x == ("__classdict__" : Str)) = false := by decide) : JE X W (.Compare (.Name x p2) [op] [b] pos) (dOpO f i db) := by
  obtain ⟨r, h1, h2⟩ := o
  obtain ⟨tb, hb, kb⟩ := hb
  exact ⟨_, pe_cmpR h1 (pe_var (i := i) hN hv hd hcd) hb hm, rok_opO h2 kb⟩
theorem rok_B {t : TE} {F : Fx} (k : ROK X.K X.mg F W (relE X.K) t da) : ROK X.K X.mg F W relT (tB t) (dBool da) := by
  intro G H σ ρ Q I p
  refine k G H σ ρ _ I (p.bind fun d ρ1 G1 H1 v I1 s1 r1 p1 => ?_)
  have r1 : Rp X.K G1 v d := r1
  cases d with
  | bool b => cases r1; exact ⟨b, rfl, p1 G1 H1 b I1 (Sub.rfl' _) rfl⟩
  | _ => exact p1.elim
theorem jt_cmp {op : CmpOp} (o : JOp X (compareOp op) f) (ha : JE X W a da) (hb : JB X W b db) (hm : behindInMarks op b = false := by first | exact nobehind _ (by decide) (by decide) | rfl) : JT X W (.Compare a [op] [b] pos) (dBool (dOp f da db)) := by
  obtain ⟨r, h1, h2⟩ := o
  obtain ⟨ta, ha, ka⟩ := ha
  obtain ⟨tb, hb, kb⟩ := hb
  exact ⟨_, pt_cmpR h1 ha hb hm, fun F => rok_B (rok_op h2 ka kb F)⟩
theorem jt_cmpO (i : Nat) {x : Str} {op : CmpOp} (o : JOp X (compareOp op) f) (hb : JB X W b db) (hm : behindInMarks op b = false := by first | exact nobehind _ (by decide) (by decide) | rfl) (hN : X.N[i]? = some x := by rfl) (hv : Vis X.env.scope x := by first | exact Or.inl rfl | exact Or.inr (Or.inl rfl) | exact Or.inr (Or.inr rfl))
    (hd : (x == ("__debug__" : Str)) = false := by decide) (hcd : (x == ("__classdict__" : Str)) = false := by decide) : JT X W (.Compare (.Name x p2) [op] [b] pos) (dBool (dOpO f i db)) := by
  obtain ⟨r, h1, h2⟩ := o
  obtain ⟨tb, hb, kb⟩ := hb
  exact ⟨_, pt_cmpR h1 (pe_var (i := i) hN hv hd hcd) hb hm, fun F => rok_B (rok_opO h2 kb F)⟩
/-- an expression whose value is a bool, as a test -/
theorem jt_val (he : JE X W e da) (h : ∀ whole, isTrue e X.env whole = (do let v ← whole; standAt e.pos; holding [v] (truthy v)) := by intro _; rfl) : JT X W e (dBool da) := by
  obtain ⟨t, ht, k⟩ := he
  exact ⟨_, pt_val ht h, fun F => rok_B (k F)⟩
/-- a < b < c -/
def dChain (f f' : D → D → Option D) (a b c : Rho → R D) (ρ : Rho) : R D := (a ρ).bind fun x ρ1 => (b ρ1).bind fun y ρ2 =>
  match f x y with
  | some (.bool true) => (c ρ2).bind fun z ρ3 => lift (f' y z) ρ3
  | some (.bool false) => .ok (.bool false) ρ2
  | _ => .bad
theorem rok_chain {r r' : R2} {ta tb tc : TE} (h : OpOK X.K r f) (h' : OpOK X.K r' f') (ka : ∀ F, ROK X.K X.mg F W (relE X.K) ta da) (kb : ∀ F, ROK X.K X.mg F W (relE X.K) tb db) (kc : ∀ F, ROK X.K X.mg F W (relB X.K) tc dc) (F : Fx) :
    ROK X.K X.mg F W (relE X.K) (tChain r r' ta tb tc) (dChain f f' da db dc) := by
  intro G H σ ρ Q I p
  refine ka F G H σ ρ _ I (p.bind fun x ρ1 G1 H1 v I1 s1 r1 p1 => ?_)
  refine kb F G1 H1 σ ρ1 _ I1 (p1.bind fun y ρ2 G2 H2 u I2 s2 r2 p2 => ?_)
  split at p2
  · rename_i e
    refine h F G2 H2 σ ρ2 _ _ _ _ _ I2 (.inl (r1.mono s2 _ _)) (.inl r2) ⟨_, e, fun G3 H3 z I3 s3 r3 => ?_⟩
    cases r3
    refine ⟨true, rfl, ?_⟩
    rw [if_pos rfl]
    refine kc F G3 H3 σ ρ2 _ I3 ((p2.mono s3).bind fun w ρ3 G4 H4 q I4 s4 r4 p4 => ?_)
    exact h' F G4 H4 σ ρ3 _ _ _ _ Q I4 (.inl (r2.mono (s3.tr s4) _ _)) r4 p4.gives
  · rename_i e
    refine h F G2 H2 σ ρ2 _ _ _ _ _ I2 (.inl (r1.mono s2 _ _)) (.inl r2) ⟨_, e, fun G3 H3 z I3 s3 r3 => ?_⟩
    cases r3
    refine ⟨false, rfl, ?_⟩
    rw [if_neg Bool.false_ne_true]
    exact p2 G3 H3 _ I3 s3 (.b false)
  · exact p2.elim
theorem je_chain {op op' : CmpOp} (o : JOp X (compareOp op) f) (o' : JOp X (compareOp op') f') (ha : JE X W a da) (hb : JE X W b db) (hc : JB X W c dc) (hm : lastMarks [op, op'] [b, c] = false := by with_unfolding_all rfl) :
    JE X W (.Compare a [op, op'] [b, c] pos) (dChain f f' da db dc) := by
  obtain ⟨r, h1, h2⟩ := o
  obtain ⟨r', h1', h2'⟩ := o'
  obtain ⟨ta, ha, ka⟩ := ha
  obtain ⟨tb, hb, kb⟩ := hb
  obtain ⟨tc, hc, kc⟩ := hc
  exact ⟨_, pe_chain h1 h1' ha hb hc hm, rok_chain h2 h2' ka kb kc⟩
theorem jt_chain {op op' : CmpOp} (o : JOp X (compareOp op) f) (o' : JOp X (compareOp op') f') (ha : JE X W a da) (hb : JE X W b db) (hc : JB X W c dc) (hm : lastMarks [op, op'] [b, c] = false := by with_unfolding_all rfl) :
    JT X W (.Compare a [op, op'] [b, c] pos) (dBool (dChain f f' da db dc)) := by
  obtain ⟨r, h1, h2⟩ := o
  obtain ⟨r', h1', h2'⟩ := o'
  obtain ⟨ta, ha, ka⟩ := ha
  obtain ⟨tb, hb, kb⟩ := hb
  obtain ⟨tc, hc, kc⟩ := hc
  exact ⟨_, pt_chain h1 h1' ha hb hc hm, fun F => rok_B (rok_chain h2 h2' ka kb kc F)⟩
end

/-! ### and, or, not, if-else -/
def dAnd (a b : Rho → R Bool) (ρ : Rho) : R Bool := (a ρ).bind fun k ρ' => if k = true then b ρ' else .ok false ρ'
def dOr (a b : Rho → R Bool) (ρ : Rho) : R Bool := (a ρ).bind fun k ρ' => if k = true then .ok true ρ' else b ρ'
def dNot (a : Rho → R Bool) (ρ : Rho) : R Bool := (a ρ).bind fun k ρ' => .ok (!k) ρ'
def dAndV (a b : Rho → R D) (ρ : Rho) : R D := (dBool a ρ).bind fun k ρ' => if k = true then b ρ' else .ok (.bool false) ρ'
def dOrV (a b : Rho → R D) (ρ : Rho) : R D := (dBool a ρ).bind fun k ρ' => if k = true then .ok (.bool true) ρ' else b ρ'
def dNotV (a : Rho → R D) (ρ : Rho) : R D := (dBool a ρ).bind fun k ρ' => .ok (.bool (!k)) ρ'
def dIfE {α : Type} (c : Rho → R Bool) (a b : Rho → R α) (ρ : Rho) : R α := (c ρ).bind fun k ρ' => if k = true then a ρ' else b ρ'
section
variable {X : Cx} {W : WX} {a b c e : Expr} {rest : List Expr} {da db : Rho → R D} {ea eb ec : Rho → R Bool} {pos : Pos}
theorem jt_jw (h : JW X W e ea) : JT X W e ea := let ⟨t, ht, k⟩ := h; ⟨t, ht.pt, k⟩
theorem jw_and1 (h : JT X W a ea) : JW X W (.BoolOp .And [a] pos) ea := let ⟨t, ht, k⟩ := h; ⟨t, pw_and1 ht, k⟩
theorem jw_or1 (h : JT X W a ea) : JW X W (.BoolOp .Or [a] pos) ea := let ⟨t, ht, k⟩ := h; ⟨t, pw_or1 ht, k⟩
theorem jw_and (ha : JT X W a ea) (hb : JW X W (.BoolOp .And (b :: rest) pos) eb) : JW X W (.BoolOp .And (a :: b :: rest) pos) (dAnd ea eb) := by
  obtain ⟨ta, ha, ka⟩ := ha
  obtain ⟨tb, hb, kb⟩ := hb
  refine ⟨_, pw_and ha hb, fun F G H σ ρ Q I p => ka F G H σ ρ _ I (p.bind fun k ρ1 G1 H1 k' I1 s1 r1 p1 => ?_)⟩
  obtain rfl : k' = k := r1
  cases k' with
  | true => rw [if_pos rfl] at p1 ⊢; exact kb F G1 H1 σ ρ1 Q I1 p1
  | false => rw [if_neg Bool.false_ne_true] at p1 ⊢; exact p1 G1 H1 _ I1 (Sub.rfl' _) rfl
theorem jw_or (ha : JT X W a ea) (hb : JW X W (.BoolOp .Or (b :: rest) pos) eb) : JW X W (.BoolOp .Or (a :: b :: rest) pos) (dOr ea eb) := by
  obtain ⟨ta, ha, ka⟩ := ha
  obtain ⟨tb, hb, kb⟩ := hb
  refine ⟨_, pw_or ha hb, fun F G H σ ρ Q I p => ka F G H σ ρ _ I (p.bind fun k ρ1 G1 H1 k' I1 s1 r1 p1 => ?_)⟩
  obtain rfl : k' = k := r1
  cases k' with
  | false => rw [if_neg Bool.false_ne_true] at p1 ⊢; exact kb F G1 H1 σ ρ1 Q I1 p1
  | true => rw [if_pos rfl] at p1 ⊢; exact p1 G1 H1 _ I1 (Sub.rfl' _) rfl
theorem jt_not (ha : JT X W a ea) : JT X W (.UnaryOp .Not a pos) (dNot ea) := by
  obtain ⟨ta, ha, ka⟩ := ha
  refine ⟨_, pt_not ha, fun F G H σ ρ Q I p => ka F G H σ ρ _ I (p.bind fun k ρ1 G1 H1 k' I1 s1 r1 p1 => ?_)⟩
  obtain rfl : k' = k := r1
  exact p1 G1 H1 _ I1 (Sub.rfl' _) rfl
theorem je_one {op : BoolOp} (h : JE X W a da) : JE X W (.BoolOp op [a] pos) da := let ⟨t, ht, k⟩ := h; ⟨t, pe_one ht, k⟩
theorem je_and (ha : JE X W a da) (hb : JE X W (.BoolOp .And (b :: rest) pos) db) : JE X W (.BoolOp .And (a :: b :: rest) pos) (dAndV da db) := by
  obtain ⟨ta, ha, ka⟩ := ha
  obtain ⟨tb, hb, kb⟩ := hb
  refine ⟨_, pe_and ha hb, fun F G H σ ρ Q I p => rok_B (ka F) G H σ ρ (fun c H1 => if c = true then tb σ H1 Q else Q (.bl false) H1) I (p.bind fun k ρ1 G1 H1 k' I1 s1 r1 p1 => ?_)⟩
  obtain rfl : k' = k := r1
  cases k' with
  | true => rw [if_pos rfl] at p1 ⊢; exact kb F G1 H1 σ ρ1 Q I1 p1
  | false => rw [if_neg Bool.false_ne_true] at p1 ⊢; exact p1 G1 H1 _ I1 (Sub.rfl' _) (.b false)
theorem je_or (ha : JE X W a da) (hb : JE X W (.BoolOp .Or (b :: rest) pos) db) : JE X W (.BoolOp .Or (a :: b :: rest) pos) (dOrV da db) := by
  obtain ⟨ta, ha, ka⟩ := ha
  obtain ⟨tb, hb, kb⟩ := hb
  refine ⟨_, pe_or ha hb, fun F G H σ ρ Q I p => rok_B (ka F) G H σ ρ (fun c H1 => if c = true then Q (.bl true) H1 else tb σ H1 Q) I (p.bind fun k ρ1 G1 H1 k' I1 s1 r1 p1 => ?_)⟩
  obtain rfl : k' = k := r1
  cases k' with
  | false => rw [if_neg Bool.false_ne_true] at p1 ⊢; exact kb F G1 H1 σ ρ1 Q I1 p1
  | true => rw [if_pos rfl] at p1 ⊢; exact p1 G1 H1 _ I1 (Sub.rfl' _) (.b true)
theorem je_not (ha : JE X W a da) : JE X W (.UnaryOp .Not a pos) (dNotV da) := by
  obtain ⟨ta, ha, ka⟩ := ha
  refine ⟨_, pe_not ha, fun F G H σ ρ Q I p => rok_B (ka F) G H σ ρ (fun c H1 => Q (.bl (!c)) H1) I (p.bind fun k ρ1 G1 H1 k' I1 s1 r1 p1 => ?_)⟩
  obtain rfl : k' = k := r1
  exact p1 G1 H1 _ I1 (Sub.rfl' _) (.b _)
theorem je_ifE (hc : JT X W c ec) (ha : JE X W a da) (hb : JE X W b db) : JE X W (.IfExp c a b pos) (dIfE ec da db) := by
  obtain ⟨tc, hc, kc⟩ := hc
  obtain ⟨ta, ha, ka⟩ := ha
  obtain ⟨tb, hb, kb⟩ := hb
  refine ⟨_, pe_ifExp hc ha hb, fun F G H σ ρ Q I p => kc F G H σ ρ _ I (p.bind fun k ρ1 G1 H1 k' I1 s1 r1 p1 => ?_)⟩
  obtain rfl : k' = k := r1
  cases k' with
  | true => rw [if_pos rfl] at p1 ⊢; exact ka F G1 H1 σ ρ1 Q I1 p1
  | false => rw [if_neg Bool.false_ne_true] at p1 ⊢; exact kb F G1 H1 σ ρ1 Q I1 p1
theorem jn_ifE {da db : Rho → R (List D)} (hc : JT X W c ec) (ha : JN X W a da) (hb : JN X W b db) : JN X W (.IfExp c a b pos) (dIfE ec da db) := by
  obtain ⟨tc, hc, kc⟩ := hc
  obtain ⟨ta, ha, ka⟩ := ha
  obtain ⟨tb, hb, kb⟩ := hb
  refine ⟨_, pe_ifExp hc ha hb, fun F G H σ ρ Q I p => kc F G H σ ρ _ I (p.bind fun k ρ1 G1 H1 k' I1 s1 r1 p1 => ?_)⟩
  obtain rfl : k' = k := r1
  cases k' with
  | true => rw [if_pos rfl] at p1 ⊢; exact ka F G1 H1 σ ρ1 Q I1 p1
  | false => rw [if_neg Bool.false_ne_true] at p1 ⊢; exact kb F G1 H1 σ ρ1 Q I1 p1
end

/-! ### displays -/
def relL (K : PySem.W.Frag) (n : Nat) : Rel (List D) (List V) := fun _ _ G _ _ vs ds => Rs K G vs ds ∧ vs.length = n
def JL (X : Cx) (W : WX) (es : List Expr) (den : Rho → R (List D)) : Prop := ∃ t, PA X es t ∧ ∀ F, ROK X.K X.mg F W (relL X.K es.length) t den
def dNil (ρ : Rho) : R (List D) := .ok [] ρ
def dCons (a : Rho → R D) (b : Rho → R (List D)) (ρ : Rho) : R (List D) := (a ρ).bind fun x ρ1 => (b ρ1).bind fun xs ρ2 => .ok (x :: xs) ρ2
def dTup (a : Rho → R (List D)) (ρ : Rho) : R D := (a ρ).bind fun xs ρ' => .ok (.tuple xs) ρ'
section
variable {X : Cx} {W : WX} {e : Expr} {es : List Expr} {da : Rho → R D} {dl : Rho → R (List D)} {pos : Pos}
theorem jl_nil : JL X W [] dNil := ⟨_, pa_nil, fun F G H σ ρ Q I p => p G H [] I (Sub.rfl' _) ⟨.nil, rfl⟩⟩
theorem jl_cons (ha : JE X W e da) (hb : JL X W es dl) (hs : starEach (e :: es) X.env = (false, eval e X.env) :: starEach es X.env := by rfl) : JL X W (e :: es) (dCons da dl) := by
  obtain ⟨ta, ha, ka⟩ := ha
  obtain ⟨tb, hb, kb⟩ := hb
  refine ⟨_, pa_cons ha hb hs, fun F G H σ ρ Q I p => ka F G H σ ρ _ I (p.bind fun x ρ1 G1 H1 v I1 s1 r1 p1 => ?_)⟩
  refine kb F G1 H1 σ ρ1 _ I1 (p1.bind fun xs ρ2 G2 H2 vs I2 s2 r2 p2 => ?_)
  exact p2 G2 H2 _ I2 (Sub.rfl' _) ⟨.cons (r1.mono s2 _ _) r2.1, by simp [r2.2]⟩
theorem je_tup {k : Nat} (h : JL X W es dl) (hn : es.length ≤ 1000 := by decide) : JE X W (.Tuple es k pos) (dTup dl) := by
  obtain ⟨t, ht, kk⟩ := h
  refine ⟨_, pe_tup ht, fun F G H σ ρ Q I p => kk F G H σ ρ _ I (p.bind fun xs ρ1 G1 H1 vs I1 s1 r1 p1 => ?_)⟩
  refine ⟨by rw [r1.2]; exact Nat.le_of_lt (small1000 hn), fun q hq => ?_⟩
  exact Gives.tup (o := some (PyData.tuple xs)) ⟨_, rfl, fun G' H' v I' s' r' => p1 G' H' v I' s' r'⟩ I1 rfl r1.1 hq
theorem SI.newL {K : PySem.W.Frag} {F : Fx} {G H : Hp} {σ : L2.St} {ρ : Rho} (I : SI K F G H σ ρ) {p : Addr} {vs : List V} {ds : List D} (hp : H p = none) (r : Rs K G vs ds) : SI K F G (upd H p (.lst vs)) σ ρ ∧ NewL K F G (upd H p (.lst vs)) σ ρ p ds := by
  refine ⟨I.allocH hp, ⟨⟨vs, upd_same, r⟩, ?_, I.hn p hp, fun i es e z => ?_⟩⟩
  · cases q : G p with
    | none => rfl
    | some u => rw [I.gH p u q] at hp; cases hp
  · obtain ⟨a, ws, h1, h2, _⟩ := I.sl i _ e
    rw [h1] at z
    cases z
    rw [hp] at h2
    cases h2
theorem jn_lst (h : JL X W es dl) (hn : es.length ≤ 1000 := by decide) : JN X W (.List es pos) dl := by
  obtain ⟨t, ht, kk⟩ := h
  refine ⟨_, pe_lst ht, fun F G H σ ρ Q I p => kk F G H σ ρ _ I ?_⟩
  cases q : dl ρ with
  | ok xs ρ1 =>
    rw [q] at p
    intro G1 H1 vs I1 s1 r1
    refine ⟨by rw [r1.2]; exact Nat.le_of_lt (small1000 hn), fun a ha => ?_⟩
    obtain ⟨I2, n⟩ := I1.newL ha r1.1
    exact p G1 _ _ I2 s1 ⟨a, rfl, n⟩
  | err x ρ1 => rw [q] at p; exact p
  | bad => rw [q] at p; exact p
end
/-- [cells, 0, ..]: as jn_lst -/
def dI (n : Nat) : Option Nat := some n

/-! ### the operators -/
def dAdd : D → D → Option D
  | .int a, .int b => some (.int (a + b))
  | .str a, .str b => if a.length + b.length ≤ sizeLine then some (.str (a ++ b)) else none
  | .list a, .list b => if a.length + b.length ≤ sizeLine then some (.list (a ++ b)) else none
  | .tuple a, .tuple b => if a.length + b.length ≤ sizeLine then some (.tuple (a ++ b)) else none
  | _, _ => none
def dSub : D → D → Option D
  | .int a, .int b => some (.int (a - b))
  | _, _ => none
instance (i j : Int) : Decidable (CMul i j) := by unfold CMul; infer_instance
instance (i j : Int) : Decidable (CDiv i j) := by unfold CDiv; infer_instance
instance (i j : Int) : Decidable (CPow i j) := by unfold CPow; infer_instance
/-- a text some times over -/
def repS (x : Str) (n : Int) : Str := if n < 1 then Str.empty else ⟨(List.replicate n.toNat x.cps.toList).flatten.toArray⟩
def dMul : D → D → Option D
  | .int a, .int b => if CMul a b then some (.int (a * b)) else none
  | .str a, .int b => if b ≤ 1000000 ∧ -1000000 ≤ b ∧ a.length ≤ 10 then some (.str (repS a b)) else none
  | .list a, .int b => if -1000 ≤ b ∧ b ≤ 1000 ∧ a.length ≤ 1000 then some (.list (List.replicate b.toNat a).flatten) else none
  | .tuple a, .int b => if 0 ≤ b ∧ b ≤ 1000 ∧ a.length ≤ 1000 ∧ a ≠ [] then some (.tuple (List.replicate b.toNat a).flatten) else none
  | _, _ => none
def dFdiv : D → D → Option D
  | .int a, .int b => if CDiv a b then some (.int (a / b)) else none
  | _, _ => none
def dMod : D → D → Option D
  | .int a, .int b => if 0 < b then some (.int (a % b)) else none
  | _, _ => none
def dPow : D → D → Option D
  | .int a, .int b => if CPow a b then some (.int (a ^ b.toNat)) else none
  | _, _ => none
def scalD : D → Bool
  | .none | .bool _ | .int _ | .str _ => true
  | _ => false
def dEq (a b : D) : Option D := if (SeqAt.shaped a && SeqAt.shaped b) = true then some (.bool (PyData.eqv a b)) else
  match a, b with
  | .str x, .str y => some (.bool (decide (x = y)))
  | _, _ => none
def dNe (a b : D) : Option D := if (SeqAt.shaped a && SeqAt.shaped b) = true then some (.bool (!PyData.eqv a b)) else
  match a, b with
  | .str x, .str y => some (.bool (!decide (x = y)))
  | _, _ => none
def dCmp (p : Int → Int → Bool) : D → D → Option D
  | .int a, .int b => some (.bool (p a b))
  | _, _ => none
def flatD : D → Bool
  | .none | .bool _ | .int _ | .str _ => true
  | _ => false
def dIn : D → D → Option D
  | .str x, .str z => if x.length = 1 then some (.bool (decide (x.cps.getD 0 0 ∈ z.cps.toList))) else none
  | x, .list ds => if (SeqAt.shaped x && SeqAt.shaped (.list ds)) = true then some (.bool (ds.any fun y => PyData.eqv y x)) else none
  | x, .tuple ds => if (flatD x && ds.all flatD) = true then some (.bool (ds.any fun y => PyData.eqv y x)) else none
  | _, _ => none
def dNotIn (a b : D) : Option D := (dIn a b).map fun d => match d with
  | .bool k => .bool (!k)
  | d => d
def dIs : D → D → Option D
  | .bool a, .bool b => some (.bool (decide (a = b)))
  | .none, .none => some (.bool true)
  | _, .none => some (.bool false)
  | _, _ => none
def dIsNot (a b : D) : Option D := (dIs a b).map fun d => match d with
  | .bool k => .bool (!k)
  | d => d
section
variable {X : Cx} {W : WX}
theorem OpOK.or {K : PySem.W.Frag} {r r' : R2} {f f' g : D → D → Option D} (h : OpOK K r f) (h' : OpOK K r' f') (e : ∀ a b, g a b = f a b ∨ g a b = f' a b ∨ g a b = none) : OpOK K (fun x y H Q => r x y H Q ∨ r' x y H Q) g := by
  intro F G H σ ρ x y d1 d2 Q I h1 h2 g'
  rcases e d1 d2 with q | q | q
  · rw [q] at g'; exact .inl (h F G H σ ρ x y d1 d2 Q I h1 h2 g')
  · rw [q] at g'; exact .inr (h' F G H σ ρ x y d1 d2 Q I h1 h2 g')
  · rw [q] at g'; obtain ⟨d, z, _⟩ := g'; cases z
theorem ok_int {K : PySem.W.Frag} {C : Int → Int → Prop} [∀ i j, Decidable (C i j)] {g : Int → Int → Int} : OpOK K (rI C fun i j => .int (g i j)) (fun a b => match a, b with | .int a, .int b => if C a b then some (.int (g a b)) else none | _, _ => none) := by
  intro F G H σ ρ x y d1 d2 Q I h1 h2 g'
  dsimp only at g'
  split at g'
  · rename_i a b
    obtain rfl := h1.int
    obtain rfl := h2.int
    split at g'
    · rename_i c
      exact ⟨_, _, rfl, rfl, c, g'.here I rfl (.i _)⟩
    · obtain ⟨d, z, _⟩ := g'; cases z
  · obtain ⟨d, z, _⟩ := g'; cases z
theorem ok_cmp {K : PySem.W.Frag} {p : Int → Int → Bool} : OpOK K (rI0 fun i j => .bl (p i j)) (dCmp p) := by
  intro F G H σ ρ x y d1 d2 Q I h1 h2 g'
  unfold dCmp at g'
  split at g'
  · obtain rfl := h1.int
    obtain rfl := h2.int
    exact ⟨_, _, rfl, rfl, g'.here I rfl (.b _)⟩
  · obtain ⟨d, z, _⟩ := g'; cases z
theorem o_sub : JOp X (binaryOp .Sub) dSub := ⟨_, op_sub, fun F G H σ ρ x y d1 d2 Q I h1 h2 g' => by
  unfold dSub at g'
  split at g'
  · obtain rfl := h1.int
    obtain rfl := h2.int
    exact ⟨_, _, rfl, rfl, g'.here I rfl (.i _)⟩
  · obtain ⟨d, z, _⟩ := g'; cases z⟩
theorem o_fdiv : JOp X (binaryOp .FloorDiv) dFdiv := ⟨_, op_fdiv, ok_int⟩
theorem o_mod : JOp X (binaryOp .Mod) dMod := ⟨_, op_mod, ok_int (C := fun _ j => 0 < j)⟩
theorem o_pow : JOp X (binaryOp .Pow) dPow := ⟨_, op_pow, ok_int⟩
theorem o_lt : JOp X (compareOp .Lt) (dCmp fun i j => decide (i < j)) := ⟨_, op_lt, ok_cmp⟩
theorem o_le : JOp X (compareOp .LtE) (dCmp fun i j => decide (i ≤ j)) := ⟨_, op_le, ok_cmp⟩
theorem o_gt : JOp X (compareOp .Gt) (dCmp fun i j => decide (j < i)) := ⟨_, op_gt, ok_cmp⟩
theorem o_ge : JOp X (compareOp .GtE) (dCmp fun i j => decide (j ≤ i)) := ⟨_, op_ge, ok_cmp⟩
theorem o_add : JOp X (binaryOp .Add) dAdd := by
  refine ⟨_, OpR.or op_add (OpR.or op_add_str (OpR.or op_cat op_catA)), fun F G H σ ρ x y d1 d2 Q I h1 h2 g' => ?_⟩
  have sH := I.gH
  unfold dAdd at g'
  split at g'
  · obtain rfl := h1.int
    obtain rfl := h2.int
    exact .inl ⟨_, _, rfl, rfl, g'.here I rfl (.i _)⟩
  · rename_i a b
    obtain rfl := h1.str
    obtain rfl := h2.str
    split at g'
    · rename_i c
      exact .inr (.inl ⟨_, _, rfl, rfl, c, g'.here I rfl (.s _)⟩)
    · obtain ⟨d, z, _⟩ := g'; cases z
  · rename_i a b
    obtain ⟨p, vs, rfl, e1, r1⟩ := h1.lst sH
    obtain ⟨q, ws, rfl, e2, r2⟩ := h2.lst sH
    split at g'
    · rename_i c
      exact .inr (.inr (.inl ⟨p, q, vs, ws, rfl, rfl, e1, e2, by rw [r1.length, r2.length]; exact c, fun u hu => g'.lst I rfl (r1.app r2) hu⟩))
    · obtain ⟨d, z, _⟩ := g'; cases z
  · rename_i a b
    obtain ⟨p, vs, rfl, e1, r1⟩ := h1.tup sH
    obtain ⟨q, ws, rfl, e2, r2⟩ := h2.tup sH
    split at g'
    · rename_i c
      refine .inr (.inr (.inr ⟨p, q, vs, ws, rfl, rfl, e1, e2, by rw [r1.length, r2.length]; exact c, fun z => ?_, fun _ z => ?_, fun _ _ u hu => g'.tup I rfl (r1.app r2) hu⟩))
      · subst z
        cases r1
        rcases h2 with h2 | ⟨_, _, _, _, z, _⟩
        · exact g'.here I rfl h2
        · cases z
      · subst z
        cases r2
        rw [List.append_nil] at g'
        rcases h1 with h1 | ⟨_, _, _, _, z, _⟩
        · exact g'.here I rfl h1
        · cases z
    · obtain ⟨d, z, _⟩ := g'; cases z
  · obtain ⟨d, z, _⟩ := g'; cases z
theorem o_eq (hu : X.A.units + 64 < cLine) : JOp X (compareOp .Eq) dEq := by
  refine ⟨_, OpR.or (op_eqD hu) op_eq, fun F G H σ ρ x y d1 d2 Q I h1 h2 g' => ?_⟩
  unfold dEq at g'
  split at g'
  · rename_i c
    obtain ⟨c1, c2⟩ := Bool.and_eq_true_iff.mp c
    exact .inl ⟨d1, d2, h1.dp I.gH, h2.dp I.gH, c1, c2, g'.here I rfl (.b _)⟩
  · split at g'
    · obtain rfl := h1.str
      obtain rfl := h2.str
      exact .inr ⟨rfl, by
        have q := g'.here I rfl (.b _)
        rename_i x y _
        have e : decide (V.str x = V.str y) = decide (x = y) := by
          by_cases z : x = y
          · subst z; simp
          · rw [decide_eq_false z, decide_eq_false fun w => z (by cases w; rfl)]
        rw [e]; exact q⟩
    · obtain ⟨d, z, _⟩ := g'; cases z
theorem o_ne (hu : X.A.units + 64 < cLine) : JOp X (compareOp .NotEq) dNe := by
  refine ⟨_, OpR.or (op_neD hu) op_ne, fun F G H σ ρ x y d1 d2 Q I h1 h2 g' => ?_⟩
  unfold dNe at g'
  split at g'
  · rename_i c
    obtain ⟨c1, c2⟩ := Bool.and_eq_true_iff.mp c
    exact .inl ⟨d1, d2, h1.dp I.gH, h2.dp I.gH, c1, c2, g'.here I rfl (.b _)⟩
  · split at g'
    · obtain rfl := h1.str
      obtain rfl := h2.str
      exact .inr ⟨rfl, by
        have q := g'.here I rfl (.b _)
        rename_i x y _
        have e : decide (V.str x = V.str y) = decide (x = y) := by
          by_cases z : x = y
          · subst z; simp
          · rw [decide_eq_false z, decide_eq_false fun w => z (by cases w; rfl)]
        rw [e]; exact q⟩
    · obtain ⟨d, z, _⟩ := g'; cases z
end
end Pf

namespace Pf
open PySem PySem.Spec PyProof.Rows L2
theorem tuple_mulOne (l : Addr) (items : Array Value) (n : Nat) (dd : Option Addr) (sl : Array (Option Value)) (u : Tok) :
    Meets (Builtin.«tuple.__mul__» ⟨[.ref l, .int 1 u], []⟩) (fun _ R s => s.heap.get? l = some { cls := .type "tuple", dict := dd, data := .seq items n, slots := sl } ∧
      R (.ok (.ret (Value.ref l))) s) :=
  .of_wp fun prog w A R s h => by
    obtain ⟨hp, g, d, tk, os⟩ := s
    obtain ⟨hl, h⟩ := h
    have f1 := AutoSeq1.idx_int
    have c1 : (items.isEmpty || (1 : Int) == 1) = true := by simp
    wp_walk using wpAny_loadPart' hl
    repeat (first
      | (refine wpAny_ite_false (decide_eq_false (by decide)) ?_; wp_walk using wpAny_loadPart' hl)
      | (refine wpAny_ite_true (decide_eq_true (by rw [c1])) ?_; wp_walk using wpAny_loadPart' hl))
    exact ⟨_, rfl, h⟩
theorem tuple_mulZero (l : Addr) (items : Array Value) (n : Nat) (dd : Option Addr) (sl : Array (Option Value)) (u : Tok) (c1 : (items.isEmpty || (0 : Int) == 1) = false) :
    Meets (Builtin.«tuple.__mul__» ⟨[.ref l, .int 0 u], []⟩) (fun _ R s => s.heap.get? l = some { cls := .type "tuple", dict := dd, data := .seq items n, slots := sl } ∧
      R (.ok (.ret (Value.ref s.heap.objs.size))) { s with heap := s.heap.push { cls := Value.type "tuple", data := Data.seq #[] }, toks := s.toks }) :=
  .of_wp fun prog w A R s h => by
    obtain ⟨hp, g, d, tk, os⟩ := s
    obtain ⟨hl, h⟩ := h
    have f1 := AutoSeq1.idx_int
    wp_walk using wpAny_loadPart' hl
    repeat (first
      | (refine wpAny_ite_false (decide_eq_false (by rw [c1]; exact Bool.false_ne_true)) ?_; wp_walk using wpAny_loadPart' hl)
      | (refine wpAny_ite_true (decide_eq_true (by simp)) ?_; wp_walk using wpAny_loadPart' hl)
      | (refine wpAny_ite_false (decide_eq_false (by decide)) ?_; wp_walk using wpAny_loadPart' hl))
    exact ⟨_, rfl, h⟩
def rRep01 (K : PySem.W.Frag) : R2 := fun x y H Q => ∃ l k xs, x = .ref l ∧ y = .int k ∧ SqT K H l xs ∧ xs ≠ [] ∧ ((k = 1 ∧ Q (.ref l) H) ∨ (k = 0 ∧ ∀ p, H p = none → Q (.ref p) (upd H p (.tup []))))
theorem op_rep01 {X : Cx} : OpR X (binaryOp .Mult) (rRep01 X.K) := by
  intro pins s σ H x y v u Q I rx ry h
  obtain ⟨l, k, xs, rfl, rfl, hT, hne, q⟩ := h
  cases rx
  obtain ⟨t, rfl⟩ := ry
  obtain ⟨its, r, ⟨⟨cls, dd, data, sl⟩, ho, hc, n, hd⟩, hs⟩ := I.tuple hT
  simp only at hc hd
  subst hc hd
  have hle : its.length = xs.length := r.length.symm
  have hi : its.toArray.isEmpty = false := by
    cases its with
    | nil => exact absurd (List.eq_nil_of_length_eq_zero hle.symm) hne
    | cons a b => rfl
  rcases q with ⟨rfl, q⟩ | ⟨rfl, q⟩
  · exact wpAny_binaryOp_repeat_ref (T := "tuple") (U := "int") (by decide) ⟨_, ho, rfl⟩ (fun s' => typeIs_int s' 1 t) noFill_tuple_mul F.fills_int_mul F.slot_int_rmul repeat_tuple F.slot_int_index.lookup
      (call_meets F.slot_int_rmul (typeIs_int s 1 t) F.entry_int_rmul (F.args_int_rmul_2 _ _) (int_rmul_tuple 1 t l its.toArray n dd sl)
        ⟨ho, rfl, ⟨_, ho, rfl⟩, call_meets F.slot_tuple_mul ⟨_, ho, rfl⟩ F.entry_tuple_mul (F.args_tuple_mul_2 _ _) (tuple_mulOne l its.toArray n dd sl t) ⟨ho, ⟨.ref l, H, I, rfl, q⟩⟩⟩)
  · refine wpAny_binaryOp_repeat_ref (T := "tuple") (U := "int") (by decide) ⟨_, ho, rfl⟩ (fun s' => typeIs_int s' 0 t) noFill_tuple_mul F.fills_int_mul F.slot_int_rmul repeat_tuple F.slot_int_index.lookup
      (call_meets F.slot_int_rmul (typeIs_int s 0 t) F.entry_int_rmul (F.args_int_rmul_2 _ _) (int_rmul_tuple 0 t l its.toArray n dd sl)
        ⟨ho, rfl, ⟨_, ho, rfl⟩, call_meets F.slot_tuple_mul ⟨_, ho, rfl⟩ F.entry_tuple_mul (F.args_tuple_mul_2 _ _) (tuple_mulZero l its.toArray n dd sl t (by rw [hi]; rfl)) ⟨ho, ?_⟩⟩)
    refine ⟨.ref s.heap.objs.size, _, I.laid (t' := s.toks) (o := .tup []) (fun b ob q => Heap.get?_push_of_some _ q) (Nat.le_refl _) ?_, rfl, q _ (I.hok.fresh (Nat.le_refl _))⟩
    exact ⟨by rw [sizeLine_eq]; decide, [], .nil, IsTup.new _ _⟩
end Pf

/-! Pf4: subscripts, slices, built-in calls, methods, stores. -/
namespace Pf
open PySem PySem.Spec PyProof.Rows L2

/-! ### a text some times over -/
def rMulS : R2 := fun x y H Q => ∃ (a : Str) (k : Int), x = .str a ∧ y = .int k ∧ (-1000000 ≤ k ∧ k ≤ 1000000 ∧ a.length ≤ 10) ∧ Q (.str (repS a k)) H
theorem repS_one (a : Str) : repS a 1 = a := by
  unfold repS
  rw [if_neg (by decide)]
  show (⟨(List.replicate 1 a.cps.toList).flatten.toArray⟩ : Str) = a
  simp
theorem repS_empty (a : Str) (k : Int) (h : a.length = 0) : repS a k = a := by
  have e : a.cps.toList = [] := by
    have : a.cps.size = 0 := h
    simpa using this
  have e2 : a = Str.empty := by
    cases a with
    | mk c =>
      have : c = #[] := Array.toList_eq_nil_iff.mp e
      subst this; rfl
  unfold repS
  split
  · exact e2.symm
  · rw [e, e2]
    have z : ∀ m : Nat, (List.replicate m ([] : List Nat)).flatten = [] := fun m => by simp
    rw [z]
    rfl
theorem foldl_reps (a : Array Nat) : ∀ (m : Nat) (b : Array Nat), List.foldl (fun x1 x2 => x1 ++ x2) b (List.replicate m a) = b ++ (List.replicate m a.toList).flatten.toArray
  | 0, b => by simp
  | m + 1, b => by
    rw [List.replicate_succ, List.foldl_cons, foldl_reps a m, List.replicate_succ, List.flatten_cons, Array.append_assoc]
    exact congrArg (b ++ ·) (Array.toList_inj.mp (by rw [Array.toList_append]))
theorem op_mulS {X : Cx} : OpR X (binaryOp .Mult) rMulS := by
  intro pins s σ H x y v u Q I rx ry h
  obtain ⟨a, k, rfl, rfl, ⟨h1, h2, h3⟩, q⟩ := h
  obtain ⟨t, rfl⟩ := rx
  obtain ⟨t', rfl⟩ := ry
  have c0 : (decide (k < -(2 ^ 63 : Int)) || decide (k ≥ 2 ^ 63)) = false := by
    rw [decide_eq_false (by omega), decide_eq_false (by omega)]; rfl
  refine PySem.P.mul_str c0 (fun hk _ => ?_) (fun hk _ => ?_) ?_
  · have hk' : 1 ≤ k := by omega
    have : (10 : Int) ≤ (2 ^ 63 - 1) / k := by
      rw [Int.le_ediv_iff_mul_le (by omega)]
      omega
    have : (a.length : Int) ≤ 10 := by omega
    omega
  · have hk' : 1 ≤ k := by omega
    have : a.length * k.toNat ≤ 10 * 1000000 := Nat.mul_le_mul h3 (by omega)
    unfold Builtin.Str.tooLong
    rw [sizeLine_eq]
    exact decide_eq_false (by omega)
  · by_cases hk : k < 1
    · rw [if_pos hk]
      have e : repS a k = Str.empty := by unfold repS; rw [if_pos hk]
      rw [e] at q
      exact ⟨by decide, .str Str.empty, H, I.tok _, ⟨_, rfl⟩, q⟩
    · rw [if_neg hk]
      by_cases hz : (k == 1 || a.length == 0) = true
      · rw [if_pos hz]
        have e : repS a k = a := by
          rcases Bool.or_eq_true_iff.mp hz with z | z
          · rw [eq_of_beq z]; exact repS_one a
          · exact repS_empty a k (eq_of_beq z)
        rw [e] at q
        exact ⟨.str a, H, I, ⟨_, rfl⟩, q⟩
      · rw [if_neg hz]
        have e : repS a k = ⟨(List.replicate k.toNat a.cps).foldl (· ++ ·) #[]⟩ := by
          unfold repS
          rw [if_neg hk, foldl_reps, Array.empty_append]
        rw [e] at q
        refine ⟨?_, .str _, H, I.tok _, ⟨_, rfl⟩, q⟩
        show _ ≤ _
        have l0 : ∀ m : Nat, ((List.replicate m a.cps.toList).flatten).length = m * a.length := fun m => by
          induction m with
          | zero => simp
          | succ m ih => rw [List.replicate_succ, List.flatten_cons, List.length_append, ih, Nat.succ_mul, Nat.add_comm]; rfl
        have : a.length * k.toNat ≤ 10 * 1000000 := Nat.mul_le_mul h3 (by omega)
        rw [foldl_reps, Array.empty_append]
        show ((List.replicate k.toNat a.cps.toList).flatten.toArray).size ≤ sizeLine
        rw [List.size_toArray, l0, sizeLine_eq, Nat.mul_comm]
        omega
/-! ### a tuple taken once -/
section
variable {X : Cx} {W : WX} {a b c e : Expr} {da db dc : Rho → R D} {pos p1 p2 p3 : Pos}
/-! ### the rest of the operators -/
theorem o_mul : JOp X (binaryOp .Mult) dMul := by
  refine ⟨_, OpR.or op_mul (OpR.or op_mulS (OpR.or op_rep (OpR.or op_repT op_rep01))), fun F G H σ ρ x y d1 d2 Q I h1 h2 g' => ?_⟩
  have sH := I.gH
  unfold dMul at g'
  split at g'
  · obtain rfl := h1.int
    obtain rfl := h2.int
    split at g'
    · rename_i c
      exact .inl ⟨_, _, rfl, rfl, c, g'.here I rfl (.i _)⟩
    · obtain ⟨d, z, _⟩ := g'; cases z
  · obtain rfl := h1.str
    obtain rfl := h2.int
    split at g'
    · rename_i c
      exact .inr (.inl ⟨_, _, rfl, rfl, ⟨c.2.1, c.1, c.2.2⟩, g'.here I rfl (.s _)⟩)
    · obtain ⟨d, z, _⟩ := g'; cases z
  · obtain ⟨p, vs, rfl, e1, r1⟩ := h1.lst sH
    obtain rfl := h2.int
    split at g'
    · rename_i c
      refine .inr (.inr (.inl ⟨p, _, vs, rfl, rfl, e1, by omega, by omega, ?_, fun u hu => g'.lst I rfl (r1.rep _) hu⟩))
      rw [r1.length, sizeLine_eq]
      exact Nat.le_trans (Nat.mul_le_mul c.2.2 (show _ ≤ 1000 by omega)) (by decide)
    · obtain ⟨d, z, _⟩ := g'; cases z
  · obtain ⟨p, vs, rfl, e1, r1⟩ := h1.tup sH
    obtain rfl := h2.int
    split at g'
    · rename_i c
      have ne : vs ≠ [] := fun z => by
        subst z
        cases r1
        exact c.2.2.2 rfl
      rename_i ds k
      by_cases c2 : 2 ≤ k
      · exact .inr (.inr (.inr (.inl ⟨p, _, vs, rfl, rfl, e1, ne, c2, c.2.1, by rw [r1.length]; exact c.2.2.1, fun u hu => g'.tup I rfl (r1.rep _) hu⟩)))
      · refine .inr (.inr (.inr (.inr ⟨p, _, vs, rfl, rfl, e1, ne, ?_⟩)))
        have : k = 0 ∨ k = 1 := by omega
        rcases this with rfl | rfl
        · exact .inr ⟨rfl, fun u hu => g'.tup I rfl .nil hu⟩
        · refine .inl ⟨rfl, ?_⟩
          have e : (List.replicate (1 : Int).toNat ds).flatten = ds := by
            show (List.replicate 1 ds).flatten = ds
            simp
          rw [e] at g'
          rcases h1 with h1 | ⟨_, _, _, _, z, _⟩
          · exact g'.here I rfl h1
          · cases z
    · obtain ⟨d, z, _⟩ := g'; cases z
  · obtain ⟨d, z, _⟩ := g'; cases z
def dNeg : D → Option D
  | .int a => some (.int (-a))
  | _ => none
def d1 (f : D → Option D) (a : Rho → R D) (ρ : Rho) : R D := (a ρ).bind fun x ρ1 => lift (f x) ρ1
theorem je_neg (ha : JE X W a da) : JE X W (.UnaryOp .USub a pos) (d1 dNeg da) := by
  obtain ⟨ta, ha, ka⟩ := ha
  refine ⟨_, pe_un un_neg ha, fun F G H σ ρ Q I p => ka F G H σ ρ _ I (p.bind fun d ρ1 G1 H1 v I1 s1 r1 p1 => ?_)⟩
  obtain ⟨d', e, p1⟩ := p1.lift
  unfold dNeg at e
  split at e
  · cases e
    cases r1
    exact ⟨_, rfl, p1 G1 H1 _ I1 (Sub.rfl' _) (.i _)⟩
  · cases e

/-! ### x[i] -/
def dIx : D → D → Option D
  | .list ds, .int i => atI ds i
  | .tuple ds, .int i => atI ds i
  | .str z, .int i => if z.length ≤ sizeLine then (atI z.cps.toList i).map fun c => .str ⟨#[c]⟩ else none
  | _, _ => none
theorem atI_rs {K : PySem.W.Frag} {G : Hp} {vs : List V} {ds : List D} {i : Int} {d : D} (r : Rs K G vs ds) (h : atI ds i = some d) : ∃ v, atI vs i = some v ∧ Rp K G v d := by
  unfold atI at h ⊢
  rw [r.length]
  cases q : ixN ds.length i with
  | none => rw [q] at h; cases h
  | some j =>
    rw [q] at h
    exact r.get (show ds[j]? = some d from h)
theorem ok_ix {K : PySem.W.Frag} : OpOK K (rIx K) dIx := fun F G H σ ρ x y d1 d2 Q I h1 h2 g' => by
  have sH := I.gH
  obtain ⟨d, e, k⟩ := g'
  unfold dIx at e
  split at e
  · obtain ⟨p, vs, rfl, e1, r1⟩ := h1.lst sH
    obtain rfl := h2.int
    obtain ⟨v, q1, q2⟩ := atI_rs r1 e
    exact .inl ⟨p, vs, _, v, rfl, rfl, .inl (.inl e1), q1, k G H v I (Sub.rfl' _) q2⟩
  · obtain ⟨p, vs, rfl, e1, r1⟩ := h1.tup sH
    obtain rfl := h2.int
    obtain ⟨v, q1, q2⟩ := atI_rs r1 e
    exact .inr (.inl ⟨p, vs, _, v, rfl, rfl, e1, q1, k G H v I (Sub.rfl' _) q2⟩)
  · obtain rfl := h1.str
    obtain rfl := h2.int
    split at e
    · rename_i z i c
      cases q : atI z.cps.toList i with
      | none => rw [q] at e; cases e
      | some u =>
        rw [q] at e
        cases e
        exact .inr (.inr ⟨z, i, u, rfl, rfl, c, q, k G H _ I (Sub.rfl' _) (.s _)⟩)
    · cases e
  · cases e
theorem je_ix (ha : JE X W a da) (hb : JB X W b db) (hs : PlainIx b := by exact fun _ _ => rfl) : JE X W (.Subscript a b pos) (dOp dIx da db) := by
  obtain ⟨ta, ha, ka⟩ := ha
  obtain ⟨tb, hb, kb⟩ := hb
  exact ⟨_, pe_ix ix_seq ha hb hs, rok_op ok_ix ka kb⟩
theorem je_ixO (i : Nat) {x : Str} (hb : JB X W b db) (hs : PlainIx b := by exact fun _ _ => rfl) (hN : X.N[i]? = some x := by rfl) (hv : Vis X.env.scope x := by first | exact Or.inl rfl | exact Or.inr (Or.inl rfl) | exact Or.inr (Or.inr rfl))
    (hd : (x == ("__debug__" : Str)) = false := by decide) (hcd : (x == ("__classdict__" : Str)) = false := by decide) : JE X W (.Subscript (.Name x p2) b pos) (dOpO dIx i db) := by
  obtain ⟨tb, hb, kb⟩ := hb
  exact ⟨_, pe_ix ix_seq (pe_var (i := i) hN hv hd hcd) hb hs, rok_opO ok_ix kb⟩

/-! ### x[lo:hi] -/
def JP (X : Cx) (W : WX) (o : Option Expr) (den : Rho → R (Option Int)) : Prop := ∃ t, PO X o t ∧ ∀ F, ROK X.K X.mg F W (fun _ _ _ _ _ b a => b = a) t den
def dNo (ρ : Rho) : R (Option Int) := .ok none ρ
def asInt : D → Option (Option Int)
  | .int i => some (some i)
  | _ => none
def dSm (e : Rho → R D) (ρ : Rho) : R (Option Int) := (e ρ).bind fun d ρ1 => lift (asInt d) ρ1
theorem jp_none : JP X W none dNo := ⟨_, po_none, fun F G H σ ρ Q I p => p G H _ I (Sub.rfl' G) rfl⟩
theorem jp_some (h : JE X W e da) : JP X W (some e) (dSm da) := by
  obtain ⟨t, ht, k⟩ := h
  refine ⟨_, po_some ht, fun F G H σ ρ Q I p => k F G H σ ρ _ I (p.bind fun d ρ1 G1 H1 v I1 s1 r1 p1 => ?_)⟩
  obtain ⟨d', e, p1⟩ := p1.lift
  unfold asInt at e
  split at e
  · cases e
    cases r1
    exact ⟨_, rfl, p1 G1 H1 _ I1 (Sub.rfl' _) rfl⟩
  · cases e
def cutD {α : Type} (xs : List α) (lo hi : Option Int) : List α := (xs.drop (HT.sIx xs.length 0 lo)).take (HT.sIx xs.length xs.length hi - HT.sIx xs.length 0 lo)
def dCut : D → Option Int → Option Int → Option D
  | .list ds, lo, hi => some (.list (cutD ds lo hi))
  | .tuple ds, lo, hi => some (.tuple (cutD ds lo hi))
  | .str z, lo, hi => if z.length ≤ sizeLine then some (.str (cutS z lo hi)) else none
  | _, _, _ => none
def dSl (a : Rho → R D) (lo hi : Rho → R (Option Int)) (ρ : Rho) : R D := (a ρ).bind fun x ρ1 => (lo ρ1).bind fun l ρ2 => (hi ρ2).bind fun h ρ3 => lift (dCut x l h) ρ3
/-- the value a slot's own list -/
def dSlO (i : Nat) (lo hi : Rho → R (Option Int)) (ρ : Rho) : R D :=
  match ρ.lst? i with
  | none => .bad
  | some _ => (lo ρ).bind fun l ρ2 => (hi ρ2).bind fun h ρ3 =>
    match ρ3.lst? i with
    | some ds => lift (dCut (.list ds) l h) ρ3
    | none => .bad
def rSl3 (K : PySem.W.Frag) : V → Option Int → Option Int → Hp → VK → Prop := fun x lo hi H Q => rSlL K x lo hi H Q ∨ rSlA K x lo hi H Q ∨ rSlS x lo hi H Q
theorem cut_rs {K : PySem.W.Frag} {G : Hp} {vs : List V} {ds : List D} {lo hi : Option Int} (r : Rs K G vs ds) : Rs K G (cutV vs lo hi) (cutD ds lo hi) := by
  unfold cutV cutD
  rw [r.length]
  exact (r.drop _).take _
theorem ok_cut {K : PySem.W.Frag} {F : Fx} {G H : Hp} {σ : L2.St} {ρ : Rho} {x : V} {d : D} {lo hi : Option Int} {Q : VK} (I : SI K F G H σ ρ) (h : Bw K G H x d) (g : Gives K F G H σ ρ (dCut d lo hi) Q) : rSl3 K x lo hi H Q := by
  have sH := I.gH
  unfold dCut at g
  split at g
  · obtain ⟨p, vs, rfl, e1, r1⟩ := h.lst sH
    exact .inl ⟨p, vs, rfl, .inl (.inl e1), fun q hq => g.lst I rfl (cut_rs r1) hq⟩
  · obtain ⟨p, vs, rfl, e1, r1⟩ := h.tup sH
    refine .inr (.inl ⟨p, vs, rfl, e1, fun z => ?_, fun _ q hq => g.tup I rfl (cut_rs r1) hq⟩)
    rename_i ds
    have e : cutD ds lo hi = ds := by
      unfold cutD
      rw [r1.length] at z
      rw [z.1, z.2]
      simp
    rw [e] at g
    rcases h with h | ⟨_, _, _, _, z, _⟩
    · exact g.here I rfl h
    · cases z
  · obtain rfl := h.str
    split at g
    · rename_i c
      exact .inr (.inr ⟨_, rfl, c, g.here I rfl (.s _)⟩)
    · obtain ⟨d, z, _⟩ := g; cases z
  · obtain ⟨d, z, _⟩ := g; cases z
theorem je_sl {lo hi : Option Expr} {dl dh : Rho → R (Option Int)} (ha : JE X W a da) (hl : JP X W lo dl) (hh : JP X W hi dh) : JE X W (.Subscript a (.Slice lo hi none p2) pos) (dSl da dl dh) := by
  obtain ⟨ta, ha, ka⟩ := ha
  obtain ⟨tl, hl, kl⟩ := hl
  obtain ⟨th, hh, kh⟩ := hh
  refine ⟨_, pe_slice (SlR.or sl_list (SlR.or sl_tupA sl_str)) ha hl hh, fun F G H σ ρ Q I p => ?_⟩
  refine ka F G H σ ρ _ I (p.bind fun x ρ1 G1 H1 v I1 s1 r1 p1 => ?_)
  refine kl F G1 H1 σ ρ1 _ I1 (p1.bind fun l ρ2 G2 H2 l' I2 s2 r2 p2 => ?_)
  obtain rfl : l' = l := r2
  refine kh F G2 H2 σ ρ2 _ I2 (p2.bind fun h ρ3 G3 H3 h' I3 s3 r3 p3 => ?_)
  obtain rfl : h' = h := r3
  exact ok_cut I3 (.inl (Rp.mono (s2.tr s3) _ _ r1)) p3.gives
theorem je_slO (i : Nat) {x : Str} {lo hi : Option Expr} {dl dh : Rho → R (Option Int)} (hl : JP X W lo dl) (hh : JP X W hi dh) (hN : X.N[i]? = some x := by rfl) (hv : Vis X.env.scope x := by first | exact Or.inl rfl | exact Or.inr (Or.inl rfl) | exact Or.inr (Or.inr rfl))
    (hd : (x == ("__debug__" : Str)) = false := by decide) (hcd : (x == ("__classdict__" : Str)) = false := by decide) : JE X W (.Subscript (.Name x p3) (.Slice lo hi none p2) pos) (dSlO i dl dh) := by
  obtain ⟨tl, hl, kl⟩ := hl
  obtain ⟨th, hh, kh⟩ := hh
  refine ⟨_, pe_slice (SlR.or sl_list (SlR.or sl_tupA sl_str)) (pe_var (i := i) hN hv hd hcd) hl hh, fun F G H σ ρ Q I p => ?_⟩
  unfold dSlO at p
  split at p
  · exact p.elim
  rename_i ds0 e0
  obtain ⟨a0, m1, _⟩ := I.at_ e0
  refine ⟨_, m1, kl F G H σ ρ _ I (p.bind fun l ρ2 G2 H2 l' I2 s2 r2 p2 => ?_)⟩
  obtain rfl : l' = l := r2
  refine kh F G2 H2 σ ρ2 _ I2 (p2.bind fun h ρ3 G3 H3 h' I3 s3 r3 p3 => ?_)
  obtain rfl : h' = h := r3
  split at p3
  · rename_i ds e3
    obtain ⟨a3, n1, ⟨vs, n2, n3⟩, _⟩ := I3.at_ e3
    obtain rfl : a3 = a0 := by rw [m1] at n1; cases n1; rfl
    exact ok_cut I3 (.inr ⟨_, vs, ds, rfl, rfl, n2, n3⟩) p3.gives
  · exact p3.elim
/-- script[:k], of the law's own ints -/
def dScr (i : Nat) (k : Int) (ρ : Rho) : R D :=
  match ρ[i]? with
  | some (.scr ns _) => .ok (.list ((cutD ns none (some k)).map .int)) ρ
  | _ => .bad
theorem cutV_map (ns : List Int) (lo hi : Option Int) : cutV (ns.map V.int) lo hi = (cutD ns lo hi).map V.int := by
  unfold cutV cutD
  simp [List.map_drop, List.map_take]
theorem je_scr (i : Nat) {x : Str} {k : Int} {j : Nat} (hN : X.N[i]? = some x := by rfl) (hv : Vis X.env.scope x := by first | exact Or.inl rfl | exact Or.inr (Or.inl rfl) | exact Or.inr (Or.inr rfl))
    (hd : (x == ("__debug__" : Str)) = false := by decide) (hcd : (x == ("__classdict__" : Str)) = false := by decide) : JE X W (.Subscript (.Name x p3) (.Slice none (some (.Constant (.int k) j p1)) none p2) pos) (dScr i k) := by
  refine ⟨_, pe_slice sl_list (pe_var (i := i) hN hv hd hcd) po_none (po_some pe_int), fun F G H σ ρ Q I p => ?_⟩
  unfold dScr at p
  split at p
  · rename_i ns T e
    obtain ⟨⟨a0, h1, h2⟩, _⟩ := I.sl i _ e
    refine ⟨_, h1, k, rfl, a0, _, rfl, I.scr h2, fun q hq => ?_⟩
    rw [cutV_map]
    exact Gives.lst (o := some (PyData.list ((cutD ns none (some k)).map .int))) ⟨_, rfl, fun G' H' v I' s' r' => p G' H' v I' s' r'⟩ I rfl (Rs.ofInts _) hq
  · exact p.elim
end

/-! ### built-in functions and types of one argument -/
abbrev CRt := List V → Hp → VK → Prop
def B1 (K : PySem.W.Frag) (r : CRt) (f : D → Option D) : Prop := ∀ F G H σ ρ x d (Q : VK), SI K F G H σ ρ → Bw K G H x d → Gives K F G H σ ρ (f d) Q → r [x] H Q
def B2 (K : PySem.W.Frag) (r : CRt) (f : D → D → Option D) : Prop := ∀ F G H σ ρ x y d d' (Q : VK), SI K F G H σ ρ → Rp K G x d → Rp K G y d' → Gives K F G H σ ρ (f d d') Q → r [x, y] H Q
section
variable {X : Cx} {W : WX} {a b c e : Expr} {da db dc : Rho → R D} {pos p1 p2 p3 : Pos} {x : Str}
theorem je_cb1 {r : CRt} {f : D → Option D} {id : String} (hc : CallR X (.builtin id) r) (ok : B1 X.K r f) (hg : Gl X x) (hm : X.mg x = none) (hb : JB X W b db) (hv : bootBuiltins x = some (.builtin id)) (hn : x ≠ "__name__" := by decide) (hdb : (x == ("__debug__" : Str)) = false := by decide)
    (hs : starEach [b] X.env = [(false, eval b X.env)] := by rfl) : JE X W (.Call (.Name x p1) [b] [] pos) (d1 f db) := by
  obtain ⟨tb, hb, kb⟩ := hb
  refine ⟨_, pe_callB hc hg hm hv (pa_cons hb pa_nil hs) hn hdb hs rfl, fun F G H σ ρ Q I p => kb F G H σ ρ _ I (p.bind fun d ρ1 G1 H1 v I1 s1 r1 p1 => ?_)⟩
  exact ok F G1 H1 σ ρ1 v d Q I1 r1 p1.gives
end
end Pf

/-! Pf5: built-in calls, methods, stores. -/
namespace Pf
open PySem PySem.Spec PyProof.Rows L2

/-! ### lists of one kind -/
def intsOf : List D → Option (List Int)
  | [] => some []
  | .int i :: r => (intsOf r).map (i :: ·)
  | _ :: _ => none
def strsOf : List D → Option (List Str)
  | [] => some []
  | .str i :: r => (strsOf r).map (i :: ·)
  | _ :: _ => none
def boolsOf : List D → Option (List Bool)
  | [] => some []
  | .bool i :: r => (boolsOf r).map (i :: ·)
  | _ :: _ => none
theorem intsOf_eq : ∀ {ds : List D} {ns : List Int}, intsOf ds = some ns → ds = ns.map .int
  | [], _, h => by cases h; rfl
  | .int i :: r, _, h => by
    unfold intsOf at h
    cases q : intsOf r with
    | none => rw [q] at h; cases h
    | some m => rw [q] at h; cases h; rw [intsOf_eq q]; rfl
  | .none :: _, _, h => by cases h
  | .bool _ :: _, _, h => by cases h
  | .str _ :: _, _, h => by cases h
  | .list _ :: _, _, h => by cases h
  | .tuple _ :: _, _, h => by cases h
  | .dict _ :: _, _, h => by cases h
theorem strsOf_eq : ∀ {ds : List D} {ns : List Str}, strsOf ds = some ns → ds = ns.map .str
  | [], _, h => by cases h; rfl
  | .str i :: r, _, h => by
    unfold strsOf at h
    cases q : strsOf r with
    | none => rw [q] at h; cases h
    | some m => rw [q] at h; cases h; rw [strsOf_eq q]; rfl
  | .none :: _, _, h => by cases h
  | .bool _ :: _, _, h => by cases h
  | .int _ :: _, _, h => by cases h
  | .list _ :: _, _, h => by cases h
  | .tuple _ :: _, _, h => by cases h
  | .dict _ :: _, _, h => by cases h
theorem boolsOf_eq : ∀ {ds : List D} {ns : List Bool}, boolsOf ds = some ns → ds = ns.map .bool
  | [], _, h => by cases h; rfl
  | .bool i :: r, _, h => by
    unfold boolsOf at h
    cases q : boolsOf r with
    | none => rw [q] at h; cases h
    | some m => rw [q] at h; cases h; rw [boolsOf_eq q]; rfl
  | .none :: _, _, h => by cases h
  | .str _ :: _, _, h => by cases h
  | .int _ :: _, _, h => by cases h
  | .list _ :: _, _, h => by cases h
  | .tuple _ :: _, _, h => by cases h
  | .dict _ :: _, _, h => by cases h
theorem intsOf_map : ∀ ns : List Int, intsOf (ns.map .int) = some ns
  | [] => rfl
  | n :: r => by rw [List.map_cons]; unfold intsOf; rw [intsOf_map r]; rfl
theorem strsOf_map : ∀ ns : List Str, strsOf (ns.map .str) = some ns
  | [] => rfl
  | n :: r => by rw [List.map_cons]; unfold strsOf; rw [strsOf_map r]; rfl
theorem boolsOf_map : ∀ ns : List Bool, boolsOf (ns.map .bool) = some ns
  | [] => rfl
  | n :: r => by rw [List.map_cons]; unfold boolsOf; rw [boolsOf_map r]; rfl

/-! ### what the built-ins answer -/
def dLen : D → Option D
  | .str z => if z.length ≤ sizeLine then some (.int z.length) else none
  | .list ds => some (.int ds.length)
  | .tuple ds => some (.int ds.length)
  | _ => none
def dAbs : D → Option D
  | .int i => some (.int (if i < 0 then -i else i))
  | _ => none
def dOrd : D → Option D
  | .str x => if x.length = 1 then some (.int (x.cps.getD 0 0 : Nat)) else none
  | _ => none
def dInt : D → Option D
  | .int i => some (.int i)
  | .bool k => some (.int (if k then 1 else 0))
  | .str a => if a.length ≤ 640 then (PySem.intText? a).map .int else none
  | _ => none
def dStr : D → Option D
  | .int i => if i.natAbs.log2 < 1920 then some (.str (toString i)) else none
  | _ => none
def dSum : D → Option D
  | .list ds => (intsOf ds).map fun ns => .int ns.sum
  | _ => none
def dAll : D → Option D
  | .list ds => (boolsOf ds).map fun ns => .bool (ns.all id)
  | _ => none
def dAny : D → Option D
  | .list ds => (boolsOf ds).map fun ns => .bool (ns.any id)
  | _ => none
def maxI : List Int → Int
  | [] => 0
  | [n] => n
  | n :: m :: r => max n (maxI (m :: r))
def minI : List Int → Int
  | [] => 0
  | [n] => n
  | n :: m :: r => min n (minI (m :: r))
def dMax1 : D → Option D
  | .list ds => (intsOf ds).bind fun ns => if ns = [] then none else some (.int (maxI ns))
  | _ => none
def dMin1 : D → Option D
  | .list ds => (intsOf ds).bind fun ns => if ns = [] then none else some (.int (minI ns))
  | _ => none
def dMax2 : D → D → Option D
  | .int i, .int j => some (.int (if j > i then j else i))
  | _, _ => none
def dMin2 : D → D → Option D
  | .int i, .int j => some (.int (if j < i then j else i))
  | _, _ => none
def dTuple : D → Option D
  | .list ds => some (.tuple ds)
  | .tuple ds => some (.tuple ds)
  | _ => none
theorem maxI_mem : ∀ ns : List Int, ns ≠ [] → maxI ns ∈ ns
  | [], h => absurd rfl h
  | [n], _ => by simp [maxI]
  | n :: m :: r, _ => by
    have := maxI_mem (m :: r) (by simp)
    unfold maxI
    rcases Int.le_total (maxI (m :: r)) n with h | h
    · rw [Int.max_eq_left h]; exact List.mem_cons_self
    · rw [Int.max_eq_right h]; exact List.mem_cons_of_mem _ this
theorem maxI_ge : ∀ (ns : List Int) (y : Int), y ∈ ns → y ≤ maxI ns
  | [], _, h => by cases h
  | [n], y, h => by cases h with
    | head => exact Int.le_refl _
    | tail _ h => cases h
  | n :: m :: r, y, h => by
    unfold maxI
    cases h with
    | head => exact Int.le_max_left _ _
    | tail _ h => exact Int.le_trans (maxI_ge (m :: r) y h) (Int.le_max_right _ _)
theorem minI_mem : ∀ ns : List Int, ns ≠ [] → minI ns ∈ ns
  | [], h => absurd rfl h
  | [n], _ => by simp [minI]
  | n :: m :: r, _ => by
    have := minI_mem (m :: r) (by simp)
    unfold minI
    rcases Int.le_total n (minI (m :: r)) with h | h
    · rw [Int.min_eq_left h]; exact List.mem_cons_self
    · rw [Int.min_eq_right h]; exact List.mem_cons_of_mem _ this
theorem minI_le : ∀ (ns : List Int) (y : Int), y ∈ ns → minI ns ≤ y
  | [], _, h => by cases h
  | [n], y, h => by cases h with
    | head => exact Int.le_refl _
    | tail _ h => cases h
  | n :: m :: r, y, h => by
    unfold minI
    cases h with
    | head => exact Int.min_le_left _ _
    | tail _ h => exact Int.le_trans (Int.min_le_right _ _) (minI_le (m :: r) y h)
section
variable {K : PySem.W.Frag}
theorem Gives.no {F : Fx} {G H : Hp} {σ : L2.St} {ρ : Rho} {Q : VK} {P : Prop} (g : Gives K F G H σ ρ none Q) : P := by obtain ⟨d, z, _⟩ := g; cases z
theorem Gives.map {α : Type} {F : Fx} {G H : Hp} {σ : L2.St} {ρ : Rho} {Q : VK} {o : Option α} {f : α → D} (g : Gives K F G H σ ρ (o.map f) Q) : ∃ a, o = some a ∧ Gives K F G H σ ρ (some (f a)) Q := by
  cases o with
  | none => exact g.no
  | some a => exact ⟨a, rfl, g⟩
theorem b1_len : B1 K (fun xs H Q => ∃ x n, xs = [x] ∧ LenV K x H n ∧ Q (.int n) H) dLen := fun F G H σ ρ x d Q I h g => by
  have sH := I.gH
  unfold dLen at g
  split at g
  · obtain rfl := h.str
    split at g
    · rename_i c
      exact ⟨_, _, rfl, ⟨c, rfl⟩, g.here I rfl (.i _)⟩
    · exact g.no
  · obtain ⟨p, vs, rfl, e1, r1⟩ := h.lst sH
    exact ⟨_, _, rfl, .inl ⟨vs, .inl (.inl e1), r1.length.symm⟩, g.here I rfl (.i _)⟩
  · obtain ⟨p, vs, rfl, e1, r1⟩ := h.tup sH
    exact ⟨_, _, rfl, .inr ⟨vs, e1, r1.length.symm⟩, g.here I rfl (.i _)⟩
  · exact g.no
theorem b1_abs : B1 K (fun xs H Q => ∃ i, xs = [.int i] ∧ Q (.int (if i < 0 then -i else i)) H) dAbs := fun F G H σ ρ x d Q I h g => by
  unfold dAbs at g
  split at g
  · obtain rfl := h.int
    exact ⟨_, rfl, g.here I rfl (.i _)⟩
  · exact g.no
theorem b1_ord : B1 K (fun xs H Q => ∃ x, xs = [.str x] ∧ x.length = 1 ∧ Q (.int (x.cps.getD 0 0 : Nat)) H) dOrd := fun F G H σ ρ x d Q I h g => by
  unfold dOrd at g
  split at g
  · obtain rfl := h.str
    split at g
    · rename_i c
      exact ⟨_, rfl, c, g.here I rfl (.i _)⟩
    · exact g.no
  · exact g.no
def rInt : CRt := fun xs H Q => ((∃ i, xs = [.int i] ∧ Q (.int i) H) ∨ ∃ k, xs = [.bl k] ∧ Q (.int (if k then 1 else 0)) H) ∨ (∃ a n, xs = [.str a] ∧ PySem.intText? a = some n ∧ a.length ≤ 640 ∧ Q (.int n) H)
theorem b1_int : B1 K rInt dInt := fun F G H σ ρ x d Q I h g => by
  unfold dInt at g
  split at g
  · obtain rfl := h.int
    exact .inl (.inl ⟨_, rfl, g.here I rfl (.i _)⟩)
  · obtain rfl := h.bool
    exact .inl (.inr ⟨_, rfl, g.here I rfl (.i _)⟩)
  · obtain rfl := h.str
    split at g
    · rename_i c
      obtain ⟨n, e, g⟩ := g.map
      exact .inr ⟨_, _, rfl, e, c, g.here I rfl (.i _)⟩
    · exact g.no
  · exact g.no
theorem b1_str : B1 K (fun xs H Q => ∃ i, xs = [.int i] ∧ i.natAbs.log2 < 1920 ∧ Q (.str (toString i)) H) dStr := fun F G H σ ρ x d Q I h g => by
  unfold dStr at g
  split at g
  · obtain rfl := h.int
    split at g
    · rename_i c
      exact ⟨_, rfl, c, g.here I rfl (.s _)⟩
    · exact g.no
  · exact g.no
theorem b1_sum : B1 K (rSum K) dSum := fun F G H σ ρ x d Q I h g => by
  unfold dSum at g
  split at g
  · obtain ⟨p, vs, rfl, e1, r1⟩ := h.lst I.gH
    obtain ⟨ns, e, g⟩ := g.map
    rw [intsOf_eq e] at r1
    exact ⟨p, ns, rfl, by rw [← r1.ints]; exact .inl (.inl e1), g.here I rfl (.i _)⟩
  · exact g.no
theorem b1_all : B1 K (rAll K) dAll := fun F G H σ ρ x d Q I h g => by
  unfold dAll at g
  split at g
  · obtain ⟨p, vs, rfl, e1, r1⟩ := h.lst I.gH
    obtain ⟨ns, e, g⟩ := g.map
    rw [boolsOf_eq e] at r1
    exact ⟨p, ns, rfl, by rw [← r1.bools]; exact .inl (.inl e1), g.here I rfl (.b _)⟩
  · exact g.no
theorem b1_any : B1 K (rAny K) dAny := fun F G H σ ρ x d Q I h g => by
  unfold dAny at g
  split at g
  · obtain ⟨p, vs, rfl, e1, r1⟩ := h.lst I.gH
    obtain ⟨ns, e, g⟩ := g.map
    rw [boolsOf_eq e] at r1
    exact ⟨p, ns, rfl, by rw [← r1.bools]; exact .inl (.inl e1), g.here I rfl (.b _)⟩
  · exact g.no
theorem b1_max : B1 K (rMax K) dMax1 := fun F G H σ ρ x d Q I h g => by
  unfold dMax1 at g
  split at g
  · obtain ⟨p, vs, rfl, e1, r1⟩ := h.lst I.gH
    rename_i ds
    cases e : intsOf ds with
    | none => rw [e] at g; exact g.no
    | some ns =>
      rw [e] at g
      have g : Gives K F G H σ ρ (if ns = [] then none else some (.int (maxI ns))) Q := g
      split at g
      · exact g.no
      rename_i ne
      rw [intsOf_eq e] at r1
      refine ⟨p, ns, rfl, by rw [← r1.ints]; exact .inl (.inl e1), List.length_pos_iff.mpr ne, fun m hm hy => ?_⟩
      obtain rfl : m = maxI ns := Int.le_antisymm (maxI_ge ns m hm) (hy _ (maxI_mem ns ne))
      exact g.here I rfl (.i _)
  · exact g.no
theorem b1_min : B1 K (rMin K) dMin1 := fun F G H σ ρ x d Q I h g => by
  unfold dMin1 at g
  split at g
  · obtain ⟨p, vs, rfl, e1, r1⟩ := h.lst I.gH
    rename_i ds
    cases e : intsOf ds with
    | none => rw [e] at g; exact g.no
    | some ns =>
      rw [e] at g
      have g : Gives K F G H σ ρ (if ns = [] then none else some (.int (minI ns))) Q := g
      split at g
      · exact g.no
      rename_i ne
      rw [intsOf_eq e] at r1
      refine ⟨p, ns, rfl, by rw [← r1.ints]; exact .inl (.inl e1), List.length_pos_iff.mpr ne, fun m hm hy => ?_⟩
      obtain rfl : m = minI ns := Int.le_antisymm (hy _ (minI_mem ns ne)) (minI_le ns m hm)
      exact g.here I rfl (.i _)
  · exact g.no
theorem b1_tuple : B1 K (fun xs H Q => ∃ p ys, xs = [.ref p] ∧ ((SqL K H p ys ∧ ∀ l, H l = none → Q (.ref l) (upd H l (.tup ys))) ∨ (SqT K H p ys ∧ Q (.ref p) H))) dTuple := fun F G H σ ρ x d Q I h g => by
  unfold dTuple at g
  split at g
  · obtain ⟨p, vs, rfl, e1, r1⟩ := h.lst I.gH
    exact ⟨p, vs, rfl, .inl ⟨.inl (.inl e1), fun l hl => g.tup I rfl r1 hl⟩⟩
  · obtain ⟨p, vs, rfl, e1, r1⟩ := id (h.tup I.gH)
    refine ⟨p, vs, rfl, .inr ⟨e1, ?_⟩⟩
    rcases h with h | ⟨_, _, _, _, z, _⟩
    · exact g.here I rfl h
    · cases z
  · exact g.no
theorem b2_max : B2 K (fun xs H Q => ∃ i j, xs = [.int i, .int j] ∧ Q (.int (if j > i then j else i)) H) dMax2 := fun F G H σ ρ x y d d' Q I h h' g => by
  unfold dMax2 at g
  split at g
  · cases h; cases h'
    exact ⟨_, _, rfl, g.here I rfl (.i _)⟩
  · exact g.no
theorem b2_min : B2 K (fun xs H Q => ∃ i j, xs = [.int i, .int j] ∧ Q (.int (if j < i then j else i)) H) dMin2 := fun F G H σ ρ x y d d' Q I h h' g => by
  unfold dMin2 at g
  split at g
  · cases h; cases h'
    exact ⟨_, _, rfl, g.here I rfl (.i _)⟩
  · exact g.no
end
/-! ### isinstance -/
def tyD : D → String
  | .none => "NoneType"
  | .bool _ => "bool"
  | .int _ => "int"
  | .str _ => "str"
  | .list _ => "list"
  | .tuple _ => "tuple"
  | .dict _ => "dict"
def isInt : D → Bool
  | .int _ | .bool _ => true
  | _ => false
def isBool : D → Bool
  | .bool _ => true
  | _ => false
def isStr : D → Bool
  | .str _ => true
  | _ => false
def isTup : D → Bool
  | .tuple _ => true
  | _ => false
def isLst : D → Bool
  | .list _ => true
  | _ => false
theorem tyx_of {K : PySem.W.Frag} {G H : Hp} {x : V} {d : D} (s : Sub G H) (h : Bw K G H x d) : TyX K H x (.type (tyD d)) := by
  cases d with
  | none => obtain rfl := h.none_; exact .base .non
  | bool b => obtain rfl := h.bool; exact .base (.bl _)
  | int b => obtain rfl := h.int; exact .base (.int _)
  | str b => obtain rfl := h.str; exact .base (.str _)
  | list ds => obtain ⟨p, vs, rfl, e1, r1⟩ := h.lst s; exact .base (.lst e1)
  | tuple ds =>
    obtain ⟨p, vs, rfl, e1, r1⟩ := h.tup s
    rcases e1 with (e1 | ⟨o, e1⟩) | ⟨o, its, n, e1, e2, _⟩
    · exact .base (.tup e1)
    · exact .fTuple e1
    · exact .kTuple e1 e2
  | dict ds =>
    rcases h with h | ⟨_, _, _, _, z, _⟩
    · cases h
    · cases z
def KitT (T : String) (f : D → Bool) : Prop := ∀ d, tyD d ≠ "dict" → kitB (tyD d) T = some (f d)
theorem kit_int : KitT "int" isInt := fun d h => by
  cases d with
  | none  => exact (by decide +kernel : kitB "NoneType" "int" = some false)
  | bool _ => exact (by decide +kernel : kitB "bool" "int" = some true)
  | int _ => exact (by decide +kernel : kitB "int" "int" = some true)
  | str _ => exact (by decide +kernel : kitB "str" "int" = some false)
  | list _ => exact (by decide +kernel : kitB "list" "int" = some false)
  | tuple _ => exact (by decide +kernel : kitB "tuple" "int" = some false)
  | dict _ => exact absurd rfl h
theorem kit_bool : KitT "bool" isBool := fun d h => by
  cases d with
  | none  => exact (by decide +kernel : kitB "NoneType" "bool" = some false)
  | bool _ => exact (by decide +kernel : kitB "bool" "bool" = some true)
  | int _ => exact (by decide +kernel : kitB "int" "bool" = some false)
  | str _ => exact (by decide +kernel : kitB "str" "bool" = some false)
  | list _ => exact (by decide +kernel : kitB "list" "bool" = some false)
  | tuple _ => exact (by decide +kernel : kitB "tuple" "bool" = some false)
  | dict _ => exact absurd rfl h
theorem kit_str : KitT "str" isStr := fun d h => by
  cases d with
  | none  => exact (by decide +kernel : kitB "NoneType" "str" = some false)
  | bool _ => exact (by decide +kernel : kitB "bool" "str" = some false)
  | int _ => exact (by decide +kernel : kitB "int" "str" = some false)
  | str _ => exact (by decide +kernel : kitB "str" "str" = some true)
  | list _ => exact (by decide +kernel : kitB "list" "str" = some false)
  | tuple _ => exact (by decide +kernel : kitB "tuple" "str" = some false)
  | dict _ => exact absurd rfl h
theorem kit_tup : KitT "tuple" isTup := fun d h => by
  cases d with
  | none  => exact (by decide +kernel : kitB "NoneType" "tuple" = some false)
  | bool _ => exact (by decide +kernel : kitB "bool" "tuple" = some false)
  | int _ => exact (by decide +kernel : kitB "int" "tuple" = some false)
  | str _ => exact (by decide +kernel : kitB "str" "tuple" = some false)
  | list _ => exact (by decide +kernel : kitB "list" "tuple" = some false)
  | tuple _ => exact (by decide +kernel : kitB "tuple" "tuple" = some true)
  | dict _ => exact absurd rfl h
theorem kit_lst : KitT "list" isLst := fun d h => by
  cases d with
  | none  => exact (by decide +kernel : kitB "NoneType" "list" = some false)
  | bool _ => exact (by decide +kernel : kitB "bool" "list" = some false)
  | int _ => exact (by decide +kernel : kitB "int" "list" = some false)
  | str _ => exact (by decide +kernel : kitB "str" "list" = some false)
  | list _ => exact (by decide +kernel : kitB "list" "list" = some true)
  | tuple _ => exact (by decide +kernel : kitB "tuple" "list" = some false)
  | dict _ => exact absurd rfl h
def dIsi (f : D → Bool) (a : Rho → R D) (ρ : Rho) : R D := (a ρ).bind fun x ρ1 => .ok (.bool (f x)) ρ1
section
variable {X : Cx} {W : WX} {a b c e : Expr} {da db dc : Rho → R D} {pos p1 p2 p3 : Pos} {x : Str}
theorem je_ct1 {r : CRt} {f : D → Option D} {T : String} (hc : CallR X (.type T) r) (ok : B1 X.K r f) (hg : Gl X x) (hm : X.mg x = none) (hb : JB X W b db) (hv : bootBuiltins x = some (.type T)) (hn : x ≠ "__name__" := by decide) (hdb : (x == ("__debug__" : Str)) = false := by decide)
    (hs : starEach [b] X.env = [(false, eval b X.env)] := by rfl) : JE X W (.Call (.Name x p1) [b] [] pos) (d1 f db) := by
  obtain ⟨tb, hb, kb⟩ := hb
  refine ⟨_, pe_callTy hc hg hm hv (pa_cons hb pa_nil hs) hn hdb hs rfl, fun F G H σ ρ Q I p => kb F G H σ ρ _ I (p.bind fun d ρ1 G1 H1 v I1 s1 r1 p1 => ?_)⟩
  exact ok F G1 H1 σ ρ1 v d Q I1 r1 p1.gives
def d2 (f : D → D → Option D) (a b : Rho → R D) (ρ : Rho) : R D := (a ρ).bind fun x ρ1 => (b ρ1).bind fun y ρ2 => lift (f x y) ρ2
theorem je_cb2 {r : CRt} {f : D → D → Option D} {id : String} (hc : CallR X (.builtin id) r) (ok : B2 X.K r f) (hg : Gl X x) (hm : X.mg x = none) (ha : JE X W a da) (hb : JE X W b db) (hv : bootBuiltins x = some (.builtin id)) (hn : x ≠ "__name__" := by decide) (hdb : (x == ("__debug__" : Str)) = false := by decide)
    (hs : starEach [a, b] X.env = (false, eval a X.env) :: starEach [b] X.env := by rfl) (hs2 : starEach [b] X.env = [(false, eval b X.env)] := by rfl) : JE X W (.Call (.Name x p1) [a, b] [] pos) (d2 f da db) := by
  obtain ⟨ta, ha, ka⟩ := ha
  obtain ⟨tb, hb, kb⟩ := hb
  refine ⟨_, pe_callB hc hg hm hv (pa_cons ha (pa_cons hb pa_nil hs2) hs) hn hdb hs (by rw [hs2]; rfl), fun F G H σ ρ Q I p => ka F G H σ ρ _ I (p.bind fun d ρ1 G1 H1 v I1 s1 r1 p1 => ?_)⟩
  refine kb F G1 H1 σ ρ1 _ I1 (p1.bind fun d' ρ2 G2 H2 u I2 s2 r2 p2 => ?_)
  exact ok F G2 H2 σ ρ2 v u d d' Q I2 (r1.mono s2 _ _) r2 p2.gives
theorem je_len (hg : Gl X "len") (hm : X.mg "len" = none) (hb : JB X W b db) (hs : starEach [b] X.env = [(false, eval b X.env)] := by rfl) : JE X W (.Call (.Name "len" p1) [b] [] pos) (d1 dLen db) := je_cb1 call_len b1_len hg hm hb (by rfl) (hs := hs)
theorem je_abs (hg : Gl X "abs") (hm : X.mg "abs" = none) (hb : JB X W b db) (hs : starEach [b] X.env = [(false, eval b X.env)] := by rfl) : JE X W (.Call (.Name "abs" p1) [b] [] pos) (d1 dAbs db) := je_cb1 call_abs b1_abs hg hm hb (by rfl) (hs := hs)
theorem je_ord (hg : Gl X "ord") (hm : X.mg "ord" = none) (hb : JB X W b db) (hs : starEach [b] X.env = [(false, eval b X.env)] := by rfl) : JE X W (.Call (.Name "ord" p1) [b] [] pos) (d1 dOrd db) := je_cb1 call_ord b1_ord hg hm hb (by rfl) (hs := hs)
theorem je_sum (hc : X.calm = true) (hg : Gl X "sum") (hm : X.mg "sum" = none) (hb : JB X W b db) (hs : starEach [b] X.env = [(false, eval b X.env)] := by rfl) : JE X W (.Call (.Name "sum" p1) [b] [] pos) (d1 dSum db) := je_cb1 (cr_sum hc) b1_sum hg hm hb (by rfl) (hs := hs)
theorem je_all (hc : X.calm = true) (hg : Gl X "all") (hm : X.mg "all" = none) (hb : JB X W b db) (hs : starEach [b] X.env = [(false, eval b X.env)] := by rfl) : JE X W (.Call (.Name "all" p1) [b] [] pos) (d1 dAll db) := je_cb1 (cr_all hc) b1_all hg hm hb (by rfl) (hs := hs)
theorem je_any (hc : X.calm = true) (hg : Gl X "any") (hm : X.mg "any" = none) (hb : JB X W b db) (hs : starEach [b] X.env = [(false, eval b X.env)] := by rfl) : JE X W (.Call (.Name "any" p1) [b] [] pos) (d1 dAny db) := je_cb1 (cr_any hc) b1_any hg hm hb (by rfl) (hs := hs)
theorem je_max1 (hc : X.calm = true) (hg : Gl X "max") (hm : X.mg "max" = none) (hb : JB X W b db) (hs : starEach [b] X.env = [(false, eval b X.env)] := by rfl) : JE X W (.Call (.Name "max" p1) [b] [] pos) (d1 dMax1 db) := je_cb1 (cr_max hc) b1_max hg hm hb (by rfl) (hs := hs)
theorem je_min1 (hc : X.calm = true) (hg : Gl X "min") (hm : X.mg "min" = none) (hb : JB X W b db) (hs : starEach [b] X.env = [(false, eval b X.env)] := by rfl) : JE X W (.Call (.Name "min" p1) [b] [] pos) (d1 dMin1 db) := je_cb1 (cr_min hc) b1_min hg hm hb (by rfl) (hs := hs)
theorem je_max2 (hc : X.calm = true) (hg : Gl X "max") (hm : X.mg "max" = none) (ha : JE X W a da) (hb : JE X W b db) (hs : starEach [a, b] X.env = (false, eval a X.env) :: starEach [b] X.env := by rfl) (hs2 : starEach [b] X.env = [(false, eval b X.env)] := by rfl) : JE X W (.Call (.Name "max" p1) [a, b] [] pos) (d2 dMax2 da db) := je_cb2 (call_max2 hc) b2_max hg hm ha hb (by rfl) (hs := hs) (hs2 := hs2)
theorem je_min2 (hc : X.calm = true) (hg : Gl X "min") (hm : X.mg "min" = none) (ha : JE X W a da) (hb : JE X W b db) (hs : starEach [a, b] X.env = (false, eval a X.env) :: starEach [b] X.env := by rfl) (hs2 : starEach [b] X.env = [(false, eval b X.env)] := by rfl) : JE X W (.Call (.Name "min" p1) [a, b] [] pos) (d2 dMin2 da db) := je_cb2 (call_min2 hc) b2_min hg hm ha hb (by rfl) (hs := hs) (hs2 := hs2)
theorem je_int1 (hg : Gl X "int") (hm : X.mg "int" = none) (hb : JB X W b db) (hs : starEach [b] X.env = [(false, eval b X.env)] := by rfl) : JE X W (.Call (.Name "int" p1) [b] [] pos) (d1 dInt db) := je_ct1 (CallR.or call_int1 call_int_str) b1_int hg hm hb (by rfl) (hs := hs)
theorem je_str1 (hg : Gl X "str") (hm : X.mg "str" = none) (hb : JB X W b db) (hs : starEach [b] X.env = [(false, eval b X.env)] := by rfl) : JE X W (.Call (.Name "str" p1) [b] [] pos) (d1 dStr db) := je_ct1 call_str_int b1_str hg hm hb (by rfl) (hs := hs)
theorem je_tuple (hg : Gl X "tuple") (hm : X.mg "tuple" = none) (hb : JB X W b db) (hs : starEach [b] X.env = [(false, eval b X.env)] := by rfl) : JE X W (.Call (.Name "tuple" p1) [b] [] pos) (d1 dTuple db) := je_ct1 call_tuple_of b1_tuple hg hm hb (by rfl) (hs := hs)
theorem je_isi {T : String} {f : D → Bool} {y : Str} (k : KitT T f) (hg : Gl X "isinstance") (hm : X.mg "isinstance" = none) (hgy : Gl X y) (hmy : X.mg y = none) (ha : JB X W a da) (hvy : bootBuiltins y = some (.type T)) (hny : y ≠ "__name__" := by decide) (hdy : (y == ("__debug__" : Str)) = false := by decide)
    (hs : starEach [a, .Name y p2] X.env = (false, eval a X.env) :: starEach [.Name y p2] X.env := by rfl) (hs2 : starEach [.Name y p2] X.env = [(false, eval (.Name y p2) X.env)] := by rfl) : JE X W (.Call (.Name "isinstance" p1) [a, .Name y p2] [] pos) (dIsi f da) := by
  obtain ⟨ta, ha, ka⟩ := ha
  refine ⟨_, pe_callB call_isi hg hm (by rfl) (pa_cons ha (pa_cons (pe_bltn (v := .ty T) hgy hmy hvy rfl hny hdy) pa_nil hs2) hs) (by decide) (by decide) hs (by rw [hs2]; rfl), fun F G H σ ρ Q I p => ka F G H σ ρ _ I (p.bind fun d ρ1 G1 H1 v I1 s1 r1 p1 => ?_)⟩
  have t := tyx_of I1.gH r1
  have nd : tyD d ≠ "dict" := fun z => by
    cases d with
    | dict ds =>
      rcases r1 with h | ⟨_, _, _, _, z, _⟩
      · cases h
      · cases z
    | none => exact absurd z (by decide : ("NoneType" : String) ≠ "dict")
    | bool _ => exact absurd z (by decide : ("bool" : String) ≠ "dict")
    | int _ => exact absurd z (by decide : ("int" : String) ≠ "dict")
    | str _ => exact absurd z (by decide : ("str" : String) ≠ "dict")
    | list _ => exact absurd z (by decide : ("list" : String) ≠ "dict")
    | tuple _ => exact absurd z (by decide : ("tuple" : String) ≠ "dict")
  exact ⟨v, .ty T, _, _, f d, rfl, .ty T, t, kit_ty (k d nd), p1 G1 H1 _ I1 (Sub.rfl' _) (.b _)⟩
end
end Pf

/-! Pf6: methods, stores, new lists. -/
namespace Pf
open PySem PySem.Spec PyProof.Rows L2

/-! ### ''.join(xs) -/
def dJoin : D → D → Option D
  | .str a, .list ds => (strsOf ds).bind fun ys => if (ys.map (·.length)).sum + ys.length * a.length ≤ 16777216 then some (.str (Txt.join a ys)) else none
  | .str a, .tuple ds => (strsOf ds).bind fun ys => if (ys.map (·.length)).sum + ys.length * a.length ≤ 16777216 then some (.str (Txt.join a ys)) else none
  | _, _ => none
def dJn (a b : Rho → R D) (ρ : Rho) : R D := (a ρ).bind fun x ρ1 =>
  match x with
  | .str z => (b ρ1).bind fun y ρ2 => lift (dJoin (.str z) y) ρ2
  | _ => .bad
/-! ### stores -/
def dApp (i : Nat) (e : Rho → R D) (ρ : Rho) : Out :=
  match ρ.lst? i with
  | none => .bad
  | some _ => (e ρ).out fun d ρ1 =>
    match ρ1.lst? i with
    | some ds => if ds.length < sizeLine then .next (ρ1.put i (ds ++ [d])) else .bad
    | none => .bad
def dExt (i : Nat) (e : Rho → R D) (ρ : Rho) : Out :=
  match ρ.lst? i with
  | none => .bad
  | some _ => (e ρ).out fun d ρ1 =>
    match ρ1.lst? i, d with
    | some ds, .list es => if ds.length + es.length ≤ sizeLine then .next (ρ1.put i (ds ++ es)) else .bad
    | _, _ => .bad
def dPop (i : Nat) (ρ : Rho) : R D :=
  match ρ.lst? i with
  | some ds => match ds[ds.length - 1]? with
    | some d => .ok d (ρ.put i ds.dropLast)
    | none => .bad
  | none => .bad
def dPut (i : Nat) (k e : Rho → R D) (ρ : Rho) : Out := (e ρ).out fun d ρ1 =>
  match ρ1.lst? i with
  | none => .bad
  | some _ => (k ρ1).out fun j ρ2 =>
    match ρ2.lst? i, j with
    | some ds, .int j => match ixN ds.length j with
      | some n => .next (ρ2.put i (ds.set n d))
      | none => .bad
    | _, _ => .bad
def dAug (f : D → D → Option D) (i : Nat) (e : Rho → R D) (ρ : Rho) : Out :=
  match ρ[i]? with
  | some (.imm x) => (e ρ).out fun y ρ1 =>
    match f x y with
    | some d => match ρ1[i]? with
      | some (.io _) => .bad
      | _ => .next (ρ1.set i (.imm d))
    | none => .bad
  | _ => .bad
theorem SPost.bindR {α β : Type} {K : PySem.W.Frag} {mg : Str → Option Value} {F : Fx} {G : Hp} {σ : L2.St} {W : WX} {rel : Rel α β} {D : Ends} {r : R α} {f : α → Rho → Out} {Q1 : β → Hp → Prop} (p : SPost K mg F G W D (r.out f))
    (k : ∀ a ρ1 G1 H1 b, SI K F G1 H1 σ ρ1 → Sub G G1 → rel F σ G1 H1 ρ1 b a → SPost K mg F G1 W D (f a ρ1) → Q1 b H1) : Post K mg F G σ W rel Q1 r := SPost.bind p k
theorem rs_last {K : PySem.W.Frag} {G : Hp} : ∀ {vs : List V} {ds : List D}, Rs K G vs ds → Rs K G vs.dropLast ds.dropLast
  | _, _, .nil => .nil
  | [_], [_], .cons _ .nil => .nil
  | _ :: _ :: _, _ :: _ :: _, .cons h (.cons h2 r) => .cons h (rs_last (.cons h2 r))
section
variable {X : Cx} {W : WX} {a b c e : Expr} {da db dc : Rho → R D} {pos p1 p2 p3 p4 p5 : Pos} {x : Str}
theorem je_join (ha : JE X W a da) (hb : JB X W b db) (hs : starEach [b] X.env = [(false, eval b X.env)] := by rfl) (hbase : attributeBase a "join" X.env (eval a X.env) = eval a X.env := by rfl) (hline : (p1.endLine == pos.line) = true := by rfl) :
    JE X W (.Call (.Attribute a "join" p1) [b] [] pos) (dJn da db) := by
  obtain ⟨ta, ha, ka⟩ := ha
  obtain ⟨tb, hb, kb⟩ := hb
  refine ⟨_, pe_join ha hb hs hbase hline, fun F G H σ ρ Q I p => ka F G H σ ρ _ I (p.bind fun d ρ1 G1 H1 v I1 s1 r1 p1 => ?_)⟩
  cases d with
  | str z =>
    cases r1
    refine ⟨⟨z, rfl⟩, kb F G1 H1 σ ρ1 _ I1 (p1.bind fun d' ρ2 G2 H2 u I2 s2 r2 p2 => ?_)⟩
    obtain ⟨w, ew, p2⟩ := p2.lift
    unfold dJoin at ew
    split at ew
    · rename_i a' ds e1
      cases e1
      cases q : strsOf ds with
      | none => rw [q] at ew; cases ew
      | some ys =>
        rw [q] at ew
        have ew : (if (ys.map (·.length)).sum + ys.length * z.length ≤ 16777216 then some (PyData.str (Txt.join z ys)) else none) = some w := ew
        split at ew
        · rename_i c
          cases ew
          rw [strsOf_eq q] at r2
          obtain ⟨pp, vs, rfl, e1, r3⟩ := r2.lst I2.gH
          exact ⟨z, pp, ys, rfl, rfl, .inl (by rw [← r3.strs]; exact .inl (.inl e1)), c, p2 G2 H2 _ I2 (Sub.rfl' _) (.s _)⟩
        · cases ew
    · rename_i a' ds e1
      cases e1
      cases q : strsOf ds with
      | none => rw [q] at ew; cases ew
      | some ys =>
        rw [q] at ew
        have ew : (if (ys.map (·.length)).sum + ys.length * z.length ≤ 16777216 then some (PyData.str (Txt.join z ys)) else none) = some w := ew
        split at ew
        · rename_i c
          cases ew
          rw [strsOf_eq q] at r2
          obtain ⟨pp, vs, rfl, e1, r3⟩ := r2.tup I2.gH
          exact ⟨z, pp, ys, rfl, rfl, .inr (by rw [← r3.strs]; exact e1), c, p2 G2 H2 _ I2 (Sub.rfl' _) (.s _)⟩
        · cases ew
    · cases ew
  | _ => exact p1.elim
theorem ty_lst {K : PySem.W.Frag} {H : Hp} {a : Addr} {vs : List V} (h : H a = some (.lst vs)) : tyV K "list" (V.ref a) H := .inl ⟨rfl, vs, .inl (.inl h)⟩
theorem js_app (i : Nat) (he : JE X W e da) (hN : X.N[i]? = some x := by rfl) (hv : Vis X.env.scope x := by first | exact Or.inl rfl | exact Or.inr (Or.inl rfl) | exact Or.inr (Or.inr rfl)) (hd : (x == ("__debug__" : Str)) = false := by decide)
    (hcd : (x == ("__classdict__" : Str)) = false := by decide)
    (hbase : attributeBase (.Name x p1) "append" X.env (eval (.Name x p1) X.env) = eval (.Name x p1) X.env := by rfl)
    (hfew : ((backTo p3 (starEach [e] X.env)).all (fun x => !x.1) && (backToKw p3 (keywordEach [] X.env)).all (fun x => x.1.isSome)
      && decide ([e].length + ([] : List Keyword).length + (if ([] : List Keyword).isEmpty then 0 else 1) < 30)) = true := by rfl)
    (hline : (p2.endLine == p3.line) = true := by rfl) (hs : starEach [e] X.env = (false, eval e X.env) :: starEach [] X.env := by rfl)
    (hsw : swapsWith (.Call (.Attribute (.Name x p1) "append" p2) [e] [] p3) none p4.line X.env = pure false := by rfl) : JS X W (.Expr (.Call (.Attribute (.Name x p1) "append" p2) [e] [] p3) p4) (dApp i da) := by
  obtain ⟨t, ht, k⟩ := he
  refine ⟨_, ps_expr (pe_bm PySem.F.plainAttrs_list PySem.F.slot_list_append PySem.F.type_list_append mt_append (pe_var (i := i) hN hv hd hcd) (pa_cons ht pa_nil hs) hbase hfew hline hs rfl) hsw, fun F G H σ ρ D I p => ?_⟩
  unfold dApp at p
  split at p
  · exact p.elim
  rename_i ds0 e0
  obtain ⟨a0, m1, ⟨vs0, m2, _⟩, _⟩ := I.at_ e0
  refine ⟨_, m1, ty_lst m2, k F G H σ ρ _ I (SPost.bind (rel := relE X.K) p fun d ρ1 G1 H1 v I1 s1 r1 p1 => ?_)⟩
  split at p1
  · rename_i ds e1
    obtain ⟨a1, m⟩ := I1.at_ e1
    obtain ⟨n1, ⟨vs, n2, n3⟩, _⟩ := id m
    obtain rfl : a1 = a0 := by rw [m1] at n1; cases n1; rfl
    split at p1
    · rename_i c
      exact ⟨a1, vs, v, rfl, rfl, n2, by rw [n3.length]; exact c, p1 G1 _ _ (I1.mut_ m (n3.app (.cons r1 .nil))) (Sub.rfl' _)⟩
    · exact p1.elim
  · exact p1.elim
theorem js_ext (i : Nat) (he : JB X W e da) (hN : X.N[i]? = some x := by rfl) (hv : Vis X.env.scope x := by first | exact Or.inl rfl | exact Or.inr (Or.inl rfl) | exact Or.inr (Or.inr rfl)) (hd : (x == ("__debug__" : Str)) = false := by decide)
    (hcd : (x == ("__classdict__" : Str)) = false := by decide)
    (hbase : attributeBase (.Name x p1) "extend" X.env (eval (.Name x p1) X.env) = eval (.Name x p1) X.env := by rfl)
    (hfew : ((backTo p3 (starEach [e] X.env)).all (fun x => !x.1) && (backToKw p3 (keywordEach [] X.env)).all (fun x => x.1.isSome)
      && decide ([e].length + ([] : List Keyword).length + (if ([] : List Keyword).isEmpty then 0 else 1) < 30)) = true := by rfl)
    (hline : (p2.endLine == p3.line) = true := by rfl) (hs : starEach [e] X.env = (false, eval e X.env) :: starEach [] X.env := by rfl)
    (hsw : swapsWith (.Call (.Attribute (.Name x p1) "extend" p2) [e] [] p3) none p4.line X.env = pure false := by rfl) : JS X W (.Expr (.Call (.Attribute (.Name x p1) "extend" p2) [e] [] p3) p4) (dExt i da) := by
  obtain ⟨t, ht, k⟩ := he
  refine ⟨_, ps_expr (pe_bm PySem.F.plainAttrs_list PySem.F.slot_list_extend PySem.F.type_list_extend mt_extend (pe_var (i := i) hN hv hd hcd) (pa_cons ht pa_nil hs) hbase hfew hline hs rfl) hsw, fun F G H σ ρ D I p => ?_⟩
  unfold dExt at p
  split at p
  · exact p.elim
  rename_i ds0 e0
  obtain ⟨a0, m1, ⟨vs0, m2, _⟩, _⟩ := I.at_ e0
  refine ⟨_, m1, ty_lst m2, k F G H σ ρ _ I (SPost.bind (rel := relB X.K) p fun d ρ1 G1 H1 v I1 s1 r1 p1 => ?_)⟩
  split at p1
  · rename_i ds es e1
    obtain ⟨a1, m⟩ := I1.at_ e1
    obtain ⟨n1, ⟨vs, n2, n3⟩, _⟩ := id m
    obtain rfl : a1 = a0 := by rw [m1] at n1; cases n1; rfl
    obtain ⟨b, zs, rfl, z2, z3⟩ := Bw.lst r1 I1.gH
    split at p1
    · rename_i c
      exact ⟨a1, b, vs, zs, rfl, rfl, n2, z2, by rw [n3.length, z3.length]; exact c, p1 G1 _ _ (I1.mut_ m (n3.app z3)) (Sub.rfl' _)⟩
    · exact p1.elim
  · exact p1.elim
theorem je_pop (i : Nat) (hN : X.N[i]? = some x := by rfl) (hv : Vis X.env.scope x := by first | exact Or.inl rfl | exact Or.inr (Or.inl rfl) | exact Or.inr (Or.inr rfl)) (hd : (x == ("__debug__" : Str)) = false := by decide)
    (hcd : (x == ("__classdict__" : Str)) = false := by decide)
    (hbase : attributeBase (.Name x p1) "pop" X.env (eval (.Name x p1) X.env) = eval (.Name x p1) X.env := by rfl) (hline : (p2.endLine == p3.line) = true := by rfl) : JE X W (.Call (.Attribute (.Name x p1) "pop" p2) [] [] p3) (dPop i) := by
  refine ⟨_, pe_bm0 PySem.F.plainAttrs_list PySem.F.slot_list_pop PySem.F.type_list_pop mt_pop (pe_var (i := i) hN hv hd hcd) hbase hline, fun F G H σ ρ Q I p => ?_⟩
  unfold dPop at p
  split at p
  · rename_i ds e0
    obtain ⟨a0, m⟩ := I.at_ e0
    obtain ⟨m1, ⟨vs, m2, m3⟩, _⟩ := id m
    split at p
    · rename_i d e1
      obtain ⟨v, q1, q2⟩ := m3.get e1
      exact ⟨_, m1, ty_lst m2, a0, vs, v, rfl, rfl, m2, by rw [m3.length]; exact q1, p G _ _ (I.mut_ m (rs_last m3)) (Sub.rfl' _) q2⟩
    · exact p.elim
  · exact p.elim
theorem js_put (i : Nat) {k : Expr} {dk : Rho → R D} (he : JE X W e da) (hk : JE X W k dk) (hN : X.N[i]? = some x := by rfl) (hv : Vis X.env.scope x := by first | exact Or.inl rfl | exact Or.inr (Or.inl rfl) | exact Or.inr (Or.inr rfl)) (hd : (x == ("__debug__" : Str)) = false := by decide)
    (hcd : (x == ("__classdict__" : Str)) = false := by decide)
    (has : ∀ v, assign (.Subscript (.Name x p1) k p2) X.env v = (do
      let ov ← holding [v] (eval (.Name x p1) X.env)
      let iv ← holding [v, ov] (eval k X.env)
      standAt p2
      holding [v, ov, iv] (setItem ov iv v)
      release [v, ov, iv] []) := by intro _; rfl)
    (hs : swapsWithSole [.Subscript (.Name x p1) k p2] e p3.line X.env = pure false := by rfl) (hw : swappedStores [.Subscript (.Name x p1) k p2] e X.env = pure none := by rfl)
    (h1 : (assignEach [.Subscript (.Name x p1) k p2] X.env).map (·.2) = [assign (.Subscript (.Name x p1) k p2) X.env] := by rfl) : JS X W (.Assign [.Subscript (.Name x p1) k p2] e p3) (dPut i dk da) := by
  obtain ⟨t, ht, kt⟩ := he
  obtain ⟨u, hu, ku⟩ := hk
  refine ⟨_, ps_asg ht (pg_sub (pe_var (i := i) hN hv hd hcd) hu set_list has) hs hw h1, fun F G H σ ρ D I p => kt F G H σ ρ _ I (SPost.bind (rel := relE X.K) p fun d ρ1 G1 H1 v I1 s1 r1 p1 => ?_)⟩
  split at p1
  · exact p1.elim
  rename_i ds0 e0
  obtain ⟨a0, m1, _⟩ := I1.at_ e0
  refine ⟨_, m1, ku F G1 H1 σ ρ1 _ I1 (SPost.bind (rel := relE X.K) p1 fun j ρ2 G2 H2 w I2 s2 r2 p2 => ?_)⟩
  split at p2
  · rename_i ds jj e1
    obtain ⟨a1, m⟩ := I2.at_ e1
    obtain ⟨n1, ⟨vs, n2, n3⟩, _⟩ := id m
    obtain rfl : a1 = a0 := by rw [m1] at n1; cases n1; rfl
    cases r2
    split at p2
    · rename_i n e2
      exact ⟨a1, vs, jj, n, rfl, rfl, n2, by rw [n3.length]; exact e2, p2 G2 _ _ (I2.mut_ m (n3.set (Rp.mono s2 _ _ r1) n)) (Sub.rfl' _)⟩
    · exact p2.elim
  · exact p2.elim
theorem js_aug {op : Operator} {r : R2} {f : D → D → Option D} (i : Nat) (hN : X.N.Nodup) (ho : OpR X (inplaceOp op) r) (ok : OpOK X.K r f) (he : JB X W e da) (hi : X.N[i]? = some x := by rfl) (hx : Loc X.env.scope x := by first | exact Or.inl rfl | exact Or.inr rfl)
    (hf : X.fn x = true ∨ X.env.scope.names.lookup x = some .local := by first | exact .inl rfl | exact .inr rfl | assumption) : JS X W (.AugAssign (.Name x p1) op e pos) (dAug f i da) := by
  obtain ⟨t, ht, k⟩ := he
  refine ⟨_, ps_aug (i := i) (ti := r) hN hi hx ht (fun pins s σ H x y v u Q I rx ry h => ho pins s σ H x y v u Q I rx ry h) hf, fun F G H σ ρ D I p => ?_⟩
  unfold dAug at p
  split at p
  · rename_i xd e0
    obtain ⟨v, m1, m2⟩ := I.sl i _ e0
    refine ⟨v, m1, k F G H σ ρ _ I (SPost.bind (rel := relB X.K) p fun y ρ1 G1 H1 u I1 s1 r1 p1 => ?_)⟩
    split at p1
    · rename_i d e1
      refine ok F G1 H1 σ ρ1 v u xd y _ I1 (.inl (m2.mono s1 _ _)) r1 ⟨d, e1, fun G2 H2 z I2 s2 r2 => ?_⟩
      split at p1
      · exact p1.elim
      · exact p1 G2 H2 _ (I2.setImm r2) s2
    · exact p1.elim
  · exact p.elim
end
end Pf

/-! Pf7: in, is, count, index, new lists. -/
namespace Pf
open PySem PySem.Spec PyProof.Rows L2

theorem eqV_eqv {K : PySem.W.Frag} {G : Hp} {v w : V} {d d' : D} (h : Rp K G v d) (h' : Rp K G w d') (f : flatD d = true) (f' : flatD d' = true) : eqV v w = PyData.eqv d d' := by
  cases d <;> first | cases f | skip
  all_goals cases d' <;> first | cases f' | skip
  all_goals (cases h; cases h'; simp [eqV, PyData.eqv])
theorem flat_v {K : PySem.W.Frag} {G : Hp} {v : V} {d : D} (h : Rp K G v d) (f : flatD d = true) : flatV v = true := by
  cases d <;> first | (cases h; rfl) | cases f
theorem flat_vs {K : PySem.W.Frag} {G : Hp} : ∀ {vs : List V} {ds : List D}, Rs K G vs ds → ds.all flatD = true → vs.all flatV = true
  | _, _, .nil, _ => rfl
  | _, _, .cons h r, f => by
    have f' : (flatD _ && List.all _ flatD) = true := f
    obtain ⟨f1, f2⟩ := Bool.and_eq_true_iff.mp f'
    show (flatV _ && List.all _ flatV) = true
    rw [flat_v h f1, flat_vs r f2]; rfl
theorem inV_any {K : PySem.W.Frag} {G : Hp} {x : V} {d : D} (h : Rp K G x d) (f : flatD d = true) : ∀ {vs : List V} {ds : List D}, Rs K G vs ds → ds.all flatD = true → inV x vs = ds.any fun y => PyData.eqv y d
  | _, _, .nil, _ => rfl
  | _, _, .cons q r, g => by
    have f' : (flatD _ && List.all _ flatD) = true := g
    obtain ⟨f1, f2⟩ := Bool.and_eq_true_iff.mp f'
    show (eqV _ x || inV x _) = (PyData.eqv _ d || List.any _ _)
    rw [eqV_eqv q h f1 f, inV_any h f r f2]
theorem one_cp {x : Str} (h : x.length = 1) : x = ⟨#[x.cps.getD 0 0]⟩ := by
  obtain ⟨c⟩ := x
  have h : c.size = 1 := h
  obtain ⟨l⟩ := c
  match l, h with
  | [y], _ => rfl
section
variable {X : Cx} {W : WX} {a b c e : Expr} {da db dc : Rho → R D} {pos p1 p2 p3 p4 p5 : Pos} {x : Str}
theorem o_in (hu : X.A.units + 65 < cLine) : JOp X (compareOp .In) dIn := by
  refine ⟨_, OpR.or op_in_sign (OpR.or (op_inD hu) op_in_seq), fun F G H σ ρ x y d1 d2 Q I h1 h2 g => ?_⟩
  unfold dIn at g
  split at g
  · obtain rfl := h1.str
    obtain rfl := h2.str
    split at g
    · rename_i c
      exact .inl ⟨_, _, congrArg V.str (one_cp c), rfl, g.here I rfl (.b _)⟩
    · exact g.no
  · split at g
    · rename_i c
      obtain ⟨c1, c2⟩ := Bool.and_eq_true_iff.mp c
      exact .inr (.inl ⟨d1, _, h1.dp I.gH, h2.dp I.gH, c1, c2, g.here I rfl (.b _)⟩)
    · exact g.no
  · split at g
    · rename_i c
      obtain ⟨c1, c2⟩ := Bool.and_eq_true_iff.mp c
      obtain ⟨p, vs, rfl, e1, r1⟩ := h2.tup I.gH
      rcases h1 with h1 | ⟨_, _, _, _, z, _⟩
      · refine .inr (.inr ⟨p, vs, rfl, .inr e1, flat_v h1 c1, flat_vs r1 c2, ?_⟩)
        have := g.here I rfl (.b _)
        rw [← inV_any h1 c1 r1 c2] at this
        exact this
      · subst z; cases c1
    · exact g.no
  · exact g.no
theorem o_notIn (hu : X.A.units + 65 < cLine) : JOp X (compareOp .NotIn) dNotIn := by
  refine ⟨_, OpR.or op_notIn_sign (OpR.or (op_notInD hu) op_notIn_seq), fun F G H σ ρ x y d1 d2 Q I h1 h2 g => ?_⟩
  unfold dNotIn at g
  obtain ⟨d, e, g⟩ := g.map
  unfold dIn at e
  split at e
  · obtain rfl := h1.str
    obtain rfl := h2.str
    split at e
    · rename_i c
      cases e
      exact .inl ⟨_, _, congrArg V.str (one_cp c), rfl, g.here I rfl (.b _)⟩
    · cases e
  · split at e
    · rename_i c
      cases e
      obtain ⟨c1, c2⟩ := Bool.and_eq_true_iff.mp c
      exact .inr (.inl ⟨d1, _, h1.dp I.gH, h2.dp I.gH, c1, c2, g.here I rfl (.b _)⟩)
    · cases e
  · split at e
    · rename_i c
      cases e
      obtain ⟨c1, c2⟩ := Bool.and_eq_true_iff.mp c
      obtain ⟨p, vs, rfl, e1, r1⟩ := h2.tup I.gH
      rcases h1 with h1 | ⟨_, _, _, _, z, _⟩
      · refine .inr (.inr ⟨p, vs, rfl, .inr e1, flat_v h1 c1, flat_vs r1 c2, ?_⟩)
        have := g.here I rfl (.b _)
        rw [← inV_any h1 c1 r1 c2] at this
        exact this
      · subst z; cases c1
    · cases e
  · cases e
def dIsB : D → D → Option D
  | .bool a, .bool b => some (.bool (decide (a = b)))
  | _, _ => none
def dIsNotB : D → D → Option D
  | .bool a, .bool b => some (.bool (!decide (a = b)))
  | _, _ => none
theorem o_is : JOp X (compareOp .Is) dIsB := ⟨_, op_isBl, fun F G H σ ρ x y d1 d2 Q I h1 h2 g => by
  unfold dIsB at g
  split at g
  · obtain rfl := h1.bool
    obtain rfl := h2.bool
    exact ⟨_, _, rfl, rfl, g.here I rfl (.b _)⟩
  · exact g.no⟩
theorem o_isNot : JOp X (compareOp .IsNot) dIsNotB := ⟨_, op_notBl, fun F G H σ ρ x y d1 d2 Q I h1 h2 g => by
  unfold dIsNotB at g
  split at g
  · obtain rfl := h1.bool
    obtain rfl := h2.bool
    exact ⟨_, _, rfl, rfl, g.here I rfl (.b _)⟩
  · exact g.no⟩
def isNon : D → Bool
  | .none => true
  | _ => false
theorem isNon_v {K : PySem.W.Frag} {G H : Hp} {v : V} {d : D} (h : Bw K G H v d) : decide (v = .non) = isNon d := by
  rcases h with h | ⟨a, vs, ds, rfl, rfl, _⟩
  · cases h <;> simp [isNon]
  · simp [isNon]
def dF (f : D → Bool) (a : Rho → R D) (ρ : Rho) : R D := (a ρ).bind fun d ρ1 => .ok (.bool (f d)) ρ1
theorem je_isN {j : Nat} (ha : JB X W a da) (hm : behindInMarks .Is (.Constant .none j p2) = false := by first | exact nobehind _ (by decide) (by decide) | rfl) : JE X W (.Compare a [.Is] [.Constant .none j p2] pos) (dF isNon da) := by
  obtain ⟨ta, ha, ka⟩ := ha
  refine ⟨_, pe_cmp (pc_isN ha) hm, fun F G H σ ρ Q I p => ka F G H σ ρ _ I (p.bind fun d ρ1 G1 H1 v I1 s1 r1 p1 => ?_)⟩
  have e := isNon_v r1
  show Q (.bl (decide (v = .non))) H1
  rw [e]
  exact p1 G1 H1 _ I1 (Sub.rfl' _) (.b _)
theorem je_notN {j : Nat} (ha : JB X W a da) (hm : behindInMarks .IsNot (.Constant .none j p2) = false := by first | exact nobehind _ (by decide) (by decide) | rfl) : JE X W (.Compare a [.IsNot] [.Constant .none j p2] pos) (dF (fun d => !isNon d) da) := by
  obtain ⟨ta, ha, ka⟩ := ha
  refine ⟨_, pe_cmp (pc_notN ha) hm, fun F G H σ ρ Q I p => ka F G H σ ρ _ I (p.bind fun d ρ1 G1 H1 v I1 s1 r1 p1 => ?_)⟩
  have e := isNon_v r1
  show Q (.bl (!decide (v = .non))) H1
  rw [e]
  exact p1 G1 H1 _ I1 (Sub.rfl' _) (.b _)
theorem jt_isN {j : Nat} (ha : JB X W a da) (hm : behindInMarks .Is (.Constant .none j p2) = false := by first | exact nobehind _ (by decide) (by decide) | rfl) : JT X W (.Compare a [.Is] [.Constant .none j p2] pos) (dBool (dF isNon da)) := by
  obtain ⟨ta, ha, ka⟩ := ha
  refine ⟨_, pt_cmp (pc_isN ha) hm, fun F => rok_B (fun G H σ ρ Q I p => ka F G H σ ρ _ I (p.bind fun d ρ1 G1 H1 v I1 s1 r1 p1 => ?_))⟩
  have e := isNon_v r1
  show Q (.bl (decide (v = .non))) H1
  rw [e]
  exact p1 G1 H1 _ I1 (Sub.rfl' _) (.b _)
theorem jt_notN {j : Nat} (ha : JB X W a da) (hm : behindInMarks .IsNot (.Constant .none j p2) = false := by first | exact nobehind _ (by decide) (by decide) | rfl) : JT X W (.Compare a [.IsNot] [.Constant .none j p2] pos) (dBool (dF (fun d => !isNon d) da)) := by
  obtain ⟨ta, ha, ka⟩ := ha
  refine ⟨_, pt_cmp (pc_notN ha) hm, fun F => rok_B (fun G H σ ρ Q I p => ka F G H σ ρ _ I (p.bind fun d ρ1 G1 H1 v I1 s1 r1 p1 => ?_))⟩
  have e := isNon_v r1
  show Q (.bl (!decide (v = .non))) H1
  rw [e]
  exact p1 G1 H1 _ I1 (Sub.rfl' _) (.b _)

/-! ### x.count(y), x.index(y) -/
def rCntD (K : PySem.W.Frag) : V → List V → Hp → VK → Prop := fun x xs H Q => ∃ (a : Addr) (y : V) (d : PyData) (ds : List PyData), x = V.ref a ∧ xs = [y] ∧ Dp K H (V.ref a) (.list ds) ∧ Dp K H y d ∧
  SeqAt.shaped (.list ds) = true ∧ SeqAt.shaped d = true ∧ Q (.int (ds.countP (fun z => PyData.eqv z d) : Nat)) H
theorem countP_read {f : Value → D} {p : D → Bool} : ∀ (its : List Value), its.countP (fun u => p (f u)) = (its.map f).countP p
  | [] => rfl
  | u :: r => by rw [List.map_cons, List.countP_cons, List.countP_cons, countP_read r]
theorem mt_countD (hu : X.A.units + 65 < cLine) : MtR X "list.count" (rCntD X.K) := by
  intro pins s σ H x xs v us Q I rx rxs h
  obtain ⟨a, y, d, ds, rfl, rfl, hl, hy, sl, sd, q⟩ := h
  cases rx
  obtain ⟨uy, rfl, ry⟩ := rxs.one
  obtain ⟨bs, r1⟩ := Dp.reads I d y uy hy ry
  have hxs : PyData.canLayAll0 ds = true := SeqAt.canLay_of_shaped sl
  have hroom : X.A.units + 1 + min (PyData.depthAll ds) d.depth < cLine := room_in_shaped sd hu
  cases hl with
  | lst hs ha =>
    obtain ⟨its, rv, ⟨⟨cls, dd, data, sls⟩, n, ho, hc, hdn, hdt⟩, hlen⟩ := I.list hs
    simp only at hc hdt
    subst hc hdt
    obtain ⟨as, h4⟩ := Dp.readsAll I ds _ its ha rv
    have hmap : its.map (SeqAt.readOf s.heap) = ds := SeqAt.readsAll_map ds its as hxs h4
    refine call_meets PySem.F.slot_list_count ⟨_, ho, rfl⟩ PySem.F.entry_list_count (PySem.F.args_list_count_2 _ _)
      (SeqAt.list_countAt a its.toArray n dd sls uy (fun u => PyData.eqv (SeqAt.readOf s.heap u) d)) ⟨ho, SeqAt.items_eqAt (vs := its.toArray) (show ReadsAll s.heap its.toArray.toList ds as from h4) r1 hxs (SeqAt.canLay_of_shaped sd) hroom, ?_⟩
    refine ⟨.int (ds.countP (fun z => PyData.eqv z d) : Nat), H, I.tok _, ⟨s.toks, ?_⟩, q⟩
    have e : its.toArray.toList.countP (fun u => PyData.eqv (SeqAt.readOf s.heap u) d) = ds.countP (fun z => PyData.eqv z d) := by
      rw [countP_read (p := fun z => PyData.eqv z d), ← hmap]
    show Value.int ((its.toArray.toList.countP (fun u => PyData.eqv (SeqAt.readOf s.heap u) d) : Nat) : Int) s.toks = _
    rw [e]
def dCount : D → D → Option D
  | .list ds, y => if (SeqAt.shaped (.list ds) && SeqAt.shaped y) = true then some (.int (ds.countP fun z => PyData.eqv z y)) else none
  | _, _ => none
def dIdx : D → D → Option D
  | .list ds, y => if (SeqAt.shaped (.list ds) && SeqAt.shaped y) = true then
      (if ds.findIdx (fun z => PyData.eqv z y) < ds.length then some (.int (ds.findIdx fun z => PyData.eqv z y)) else none) else none
  | _, _ => none
/-- the value is a list, else bad -/
def dOpL (f : D → D → Option D) (a b : Rho → R D) (ρ : Rho) : R D := (a ρ).bind fun x ρ1 =>
  match x with
  | .list ds => (b ρ1).bind fun y ρ2 => lift (f (.list ds) y) ρ2
  | _ => .bad
def MtOK (K : PySem.W.Frag) (r : V → List V → Hp → VK → Prop) (f : D → D → Option D) : Prop :=
  ∀ F G H σ ρ x y ds d (Q : VK), SI K F G H σ ρ → Bw K G H x (.list ds) → Rp K G y d → Gives K F G H σ ρ (f (.list ds) d) Q → r x [y] H Q
theorem mk_count {K : PySem.W.Frag} : MtOK K (rCntD K) dCount := fun F G H σ ρ x y ds d Q I h1 h2 g => by
  obtain ⟨p, vs, rfl, e1, r1⟩ := id (h1.lst I.gH)
  have g : Gives K F G H σ ρ (if (SeqAt.shaped (.list ds) && SeqAt.shaped d) = true then some (.int (ds.countP fun z => PyData.eqv z d)) else none) Q := g
  split at g
  · rename_i c
    obtain ⟨c1, c2⟩ := Bool.and_eq_true_iff.mp c
    exact ⟨p, y, d, ds, rfl, rfl, h1.dp I.gH, (h2.mono I.gH _ _).dp _ _, c1, c2, g.here I rfl (.i _)⟩
  · exact g.no
theorem mk_index {K : PySem.W.Frag} : MtOK K (rIndexD K) dIdx := fun F G H σ ρ x y ds d Q I h1 h2 g => by
  obtain ⟨p, vs, rfl, e1, r1⟩ := id (h1.lst I.gH)
  have g : Gives K F G H σ ρ (if (SeqAt.shaped (.list ds) && SeqAt.shaped d) = true then
      (if ds.findIdx (fun z => PyData.eqv z d) < ds.length then some (.int (ds.findIdx fun z => PyData.eqv z d)) else none) else none) Q := g
  split at g
  · rename_i c
    obtain ⟨c1, c2⟩ := Bool.and_eq_true_iff.mp c
    split at g
    · rename_i c3
      refine ⟨p, y, d, ds, _, _, rfl, rfl, h1.dp I.gH, (h2.mono I.gH _ _).dp _ _, c1, c2, List.getElem?_eq_getElem c3, List.findIdx_getElem (w := c3), fun m z hm hz => ?_, g.here I rfl (.i _)⟩
      have hml : m < ds.length := by omega
      rw [List.getElem?_eq_getElem hml] at hz
      cases hz
      have := List.not_of_lt_findIdx hm
      simpa using this
    · exact g.no
  · exact g.no
/-- as dOpL, the list a slot's own -/
def dOpLO (f : D → D → Option D) (i : Nat) (b : Rho → R D) (ρ : Rho) : R D :=
  match ρ.lst? i with
  | none => .bad
  | some _ => (b ρ).bind fun y ρ2 =>
    match ρ2.lst? i with
    | some ds => lift (f (.list ds) y) ρ2
    | none => .bad
theorem je_mt {r : V → List V → Hp → VK → Prop} {f : D → D → Option D} {name : Str} {id : String} (hm : MtR X id r) (ok : MtOK X.K r f) (slot : PySem.Slot "list" name id) (hty : typeOf (.builtin id) = pure (.type "method_descriptor")) (ha : JE X W a da) (hb : JE X W b db)
    (hbase : attributeBase a name X.env (eval a X.env) = eval a X.env := by rfl)
    (hfew : ((backTo p3 (starEach [b] X.env)).all (fun x => !x.1) && (backToKw p3 (keywordEach [] X.env)).all (fun x => x.1.isSome)
      && decide ([b].length + ([] : List Keyword).length + (if ([] : List Keyword).isEmpty then 0 else 1) < 30)) = true := by rfl)
    (hline : (p2.endLine == p3.line) = true := by rfl) (hs : starEach [b] X.env = (false, eval b X.env) :: starEach [] X.env := by rfl) : JE X W (.Call (.Attribute a name p2) [b] [] p3) (dOpL f da db) := by
  obtain ⟨ta, ha, ka⟩ := ha
  obtain ⟨tb, hb, kb⟩ := hb
  refine ⟨_, pe_bm PySem.F.plainAttrs_list slot hty hm ha (pa_cons hb pa_nil hs) hbase hfew hline hs rfl, fun F G H σ ρ Q I p => ka F G H σ ρ _ I (p.bind fun d ρ1 G1 H1 v I1 s1 r1 p1 => ?_)⟩
  cases d with
  | list ds =>
    have b1 : Bw X.K G1 H1 v (.list ds) := .inl r1
    obtain ⟨pa, vs, rfl, e1, q1⟩ := b1.lst I1.gH
    refine ⟨ty_lst e1, kb F G1 H1 σ ρ1 _ I1 (p1.bind fun y ρ2 G2 H2 w I2 s2 r2 p2 => ?_)⟩
    exact ok F G2 H2 σ ρ2 _ w ds y Q I2 (.inl (Rp.mono s2 _ _ r1)) r2 p2.gives
  | _ => exact p1.elim
theorem je_mtO {r : V → List V → Hp → VK → Prop} {f : D → D → Option D} {name : Str} {id : String} (i : Nat) (hm : MtR X id r) (ok : MtOK X.K r f) (slot : PySem.Slot "list" name id) (hty : typeOf (.builtin id) = pure (.type "method_descriptor")) (hb : JE X W b db)
    (hN : X.N[i]? = some x := by rfl) (hv : Vis X.env.scope x := by first | exact Or.inl rfl | exact Or.inr (Or.inl rfl) | exact Or.inr (Or.inr rfl)) (hd : (x == ("__debug__" : Str)) = false := by decide) (hcd : (x == ("__classdict__" : Str)) = false := by decide)
    (hbase : attributeBase (.Name x p1) name X.env (eval (.Name x p1) X.env) = eval (.Name x p1) X.env := by rfl)
    (hfew : ((backTo p3 (starEach [b] X.env)).all (fun x => !x.1) && (backToKw p3 (keywordEach [] X.env)).all (fun x => x.1.isSome)
      && decide ([b].length + ([] : List Keyword).length + (if ([] : List Keyword).isEmpty then 0 else 1) < 30)) = true := by rfl)
    (hline : (p2.endLine == p3.line) = true := by rfl) (hs : starEach [b] X.env = (false, eval b X.env) :: starEach [] X.env := by rfl) : JE X W (.Call (.Attribute (.Name x p1) name p2) [b] [] p3) (dOpLO f i db) := by
  obtain ⟨tb, hb, kb⟩ := hb
  refine ⟨_, pe_bm PySem.F.plainAttrs_list slot hty hm (pe_var (i := i) hN hv hd hcd) (pa_cons hb pa_nil hs) hbase hfew hline hs rfl, fun F G H σ ρ Q I p => ?_⟩
  unfold dOpLO at p
  split at p
  · exact p.elim
  rename_i ds0 e0
  obtain ⟨a0, m1, ⟨vs0, m2, _⟩, _⟩ := I.at_ e0
  refine ⟨_, m1, ty_lst m2, kb F G H σ ρ _ I (p.bind fun y ρ2 G2 H2 w I2 s2 r2 p2 => ?_)⟩
  split at p2
  · rename_i ds e3
    obtain ⟨a3, n1, ⟨vs, n2, n3⟩, _⟩ := I2.at_ e3
    obtain rfl : a3 = a0 := by rw [m1] at n1; cases n1; rfl
    exact ok F G2 H2 σ ρ2 _ w ds y Q I2 (.inr ⟨_, vs, ds, rfl, rfl, n2, n3⟩) r2 p2.gives
  · exact p2.elim
/-! ### text.index(sign) -/
def dSIdx : D → D → Option D
  | .str a, .str b => (Builtin.Str.occurrences a b 0 a.length 1).head?.map fun i => .int (i : Nat)
  | _, _ => none
def dOpS (f : D → D → Option D) (a b : Rho → R D) (ρ : Rho) : R D := (a ρ).bind fun x ρ1 =>
  match x with
  | .str z => (b ρ1).bind fun y ρ2 => lift (f (.str z) y) ρ2
  | _ => .bad
theorem je_sidx (ha : JE X W a da) (hb : JE X W b db) (hs : starEach [b] X.env = [(false, eval b X.env)] := by rfl) (hbase : attributeBase a "index" X.env (eval a X.env) = eval a X.env := by rfl) (hline : (p1.endLine == pos.line) = true := by rfl) :
    JE X W (.Call (.Attribute a "index" p1) [b] [] pos) (dOpS dSIdx da db) := by
  obtain ⟨ta, ha, ka⟩ := ha
  obtain ⟨tb, hb, kb⟩ := hb
  refine ⟨_, pe_m1 F.slot_str_index F.type_str_index mt_sindex ha hb hs hbase hline, fun F G H σ ρ Q I p => ka F G H σ ρ _ I (p.bind fun d ρ1 G1 H1 v I1 s1 r1 p1 => ?_)⟩
  cases d with
  | str z =>
    cases r1
    refine ⟨⟨z, rfl⟩, kb F G1 H1 σ ρ1 _ I1 (p1.bind fun d' ρ2 G2 H2 u I2 s2 r2 p2 => ?_)⟩
    obtain ⟨w, ew, p2⟩ := p2.lift
    unfold dSIdx at ew
    split at ew
    · rename_i a' b' e1
      cases e1
      cases r2
      cases q : Builtin.Str.occurrences z b' 0 z.length 1 with
      | nil => rw [q] at ew; cases ew
      | cons i rest =>
        rw [q] at ew
        cases ew
        exact ⟨z, b', i, rest, rfl, rfl, q, p2 G2 H2 _ I2 (Sub.rfl' _) (.i _)⟩
    · cases ew
  | _ => exact p1.elim
end
end Pf

/-! Pf8: enumerate over a list, a tuple, a text. -/
namespace Pf
open PySem PySem.Spec PyProof.Rows L2
/-- what a loop runs over -/
inductive Src where
  | l (a : Addr)
  | t (a : Addr)
  | s (x : Str)
def chrs (x : Str) : List V := x.cps.toList.map fun c => V.str ⟨#[c]⟩
def SqS (K : PySem.W.Frag) (H : Hp) : Src → List V → Prop
  | .l a, xs => SqL K H a xs
  | .t a, xs => SqT K H a xs
  | .s x, xs => xs = chrs x
def ItAt (h : Heap) (it : Addr) (i : Nat) : Src → Prop
  | .l a => h.IsListIter it a i
  | .t a => h.IsTupleIter it a i
  | .s x => ∃ t, h.IsStrIter it (strIterType x) x t i
theorem draws_mono {prog : Program} {w : World} {A : Around} {it : Addr} {fp : List Addr} {n : Nat} {P P' : Nat → Value → Prop} {St : Nat → Heap → Prop} (D : Draws prog w A it fp n P St) (k : ∀ i v, P i v → P' i v) : Draws prog w A it fp n P' St :=
  ⟨D.live, D.frame, fun i s Q E hi st hQ => D.item i s Q E hi st fun x h' tk p => hQ x h' tk (k _ _ p), D.done⟩
theorem draws_tuple {prog : Program} {w : World} {A : Around} (hh : A.handled = none) (it l : Addr) (hne : l ≠ it) (items : Array Value) :
    Draws prog w A it [it, l] items.size (fun i v => items[i]? = some v) (fun i h => h.IsTupleIter it l i ∧ h.IsTuple l items) where
  live := fun _ _ st => let ⟨o, ho, _⟩ := st.1; ⟨o, ho⟩
  frame := fun _ _ _ st hk => ⟨st.1.at fun o e => hk it (by simp) o e, let ⟨o, ho, r⟩ := st.2; ⟨o, hk l (by simp) o ho, r⟩⟩
  item := fun i s Q E hi st hQ => by
    refine RZ.nextOf_tuple_item st.1 st.2 (x := items[i]) (by simp [hi]) fun h' hit' hs' => ?_
    exact hQ _ h' s.toks (by simp [hi]) ⟨hit', let ⟨o, ho, r⟩ := st.2; ⟨o, hs'.extBut l o hne ho, r⟩⟩ hs'
  done := fun s Q E st hE => RZ.nextOf_tuple_end hh st.1 st.2 (by simp) hE
theorem draws_str {prog : Program} {w : World} {A : Around} (hh : A.handled = none) (it : Addr) (x : Str) (t : Tok) :
    Draws prog w A it [it] x.cps.size (fun i v => ∃ c u, x.cps[i]? = some c ∧ v = .str ⟨#[c]⟩ u) (fun i h => h.IsStrIter it (strIterType x) x t i) := by
  unfold strIterType
  split
  · exact Draws.strAscii hh it x t
  · exact Draws.strWide hh it x t
theorem vals_back {xs : List V} {us : List Value} {i : Nat} {u : Value} (r : Vals xs us) (h : us[i]? = some u) : ∃ x, xs[i]? = some x ∧ RelV x u := by
  have hi : i < xs.length := by rw [r.length]; exact (List.getElem?_eq_some_iff.mp h).1
  obtain ⟨u', h1, h2⟩ := r.get (List.getElem?_eq_getElem hi)
  rw [h] at h1
  cases h1
  exact ⟨_, List.getElem?_eq_getElem hi, h2⟩
theorem draws_src {X : Cx} {pins : List (Addr × Obj)} {σ : L2.St} {H : Hp} {s : Shared} {A : Around} (I : Inv X pins σ H s) (hh : A.handled = none) {src : Src} {xs : List V} (hq : SqS X.K H src xs) {it : Addr} {i : Nat} (hi : ItAt s.heap it i src) :
    ∃ (fp : List Addr) (St : Nat → Heap → Prop), Draws X.prog X.w A it fp xs.length (fun i v => ∃ x, xs[i]? = some x ∧ RelV x v) St ∧ (∀ j h, St j h → ItAt h it j src) ∧ St i s.heap ∧ it ∈ fp ∧
      (∀ b ∈ fp, b = it ∨ ∃ o, s.heap.get? b = some o ∧ (o.cls = .type "list" ∨ o.cls = .type "tuple")) := by
  cases src with
  | l a =>
    obtain ⟨its, rv, p, hz⟩ := I.list hq
    have hi : s.heap.IsListIter it a i := hi
    obtain ⟨o, ho, hc, hd⟩ := id hi
    obtain ⟨oa, na, ha, hca, _⟩ := id p
    have hne : a ≠ it := fun z => by
      subst z
      rw [ho] at ha
      cases ha
      rw [hc] at hca
      exact absurd hca (by decide)
    refine ⟨[it, a], fun i h => h.IsListIter it a i ∧ h.IsList a its.toArray, draws_mono (by have := Draws.list (prog := X.prog) (w := X.w) hh it a hne its.toArray; rw [show its.toArray.size = xs.length by rw [List.size_toArray, rv.length]] at this; exact this) fun j v e => ?_, fun j h st => st.1, ⟨hi, p.isList⟩, by simp, fun b hb => ?_⟩
    · have e : its[j]? = some v := by simpa using e
      obtain ⟨x, h1, h2⟩ := vals_back rv e
      exact ⟨x, h1, h2⟩
    · have : b = it ∨ b = a := by simpa using hb
      rcases this with z | z
      · exact .inl z
      · exact .inr ⟨oa, by rw [z]; exact ha, .inl hca⟩
  | t a =>
    obtain ⟨its, rv, p, hz⟩ := I.tuple hq
    have hi : s.heap.IsTupleIter it a i := hi
    obtain ⟨o, ho, hc, hd⟩ := id hi
    obtain ⟨oa, ha, hca, na, hda⟩ := id p
    have hne : a ≠ it := fun z => by
      subst z
      rw [ho] at ha
      cases ha
      rw [hc] at hca
      exact absurd hca (by decide)
    refine ⟨[it, a], fun i h => h.IsTupleIter it a i ∧ h.IsTuple a its.toArray, draws_mono (by have := draws_tuple (prog := X.prog) (w := X.w) hh it a hne its.toArray; rw [show its.toArray.size = xs.length by rw [List.size_toArray, rv.length]] at this; exact this) fun j v e => ?_, fun j h st => st.1, ⟨hi, p⟩, by simp, fun b hb => ?_⟩
    · have e : its[j]? = some v := by simpa using e
      obtain ⟨x, h1, h2⟩ := vals_back rv e
      exact ⟨x, h1, h2⟩
    · have : b = it ∨ b = a := by simpa using hb
      rcases this with z | z
      · exact .inl z
      · exact .inr ⟨oa, by rw [z]; exact ha, .inr hca⟩
  | s x =>
    obtain ⟨t, hi⟩ := hi
    have hq : xs = chrs x := hq
    subst hq
    refine ⟨[it], fun i h => h.IsStrIter it (strIterType x) x t i, draws_mono (by have := draws_str (prog := X.prog) (w := X.w) hh it x t; rw [show x.cps.size = (chrs x).length by simp [chrs]] at this; exact this) fun j v e => ?_, fun j h st => ⟨t, st⟩, hi, by simp, fun b hb => .inl (by simpa using hb)⟩
    obtain ⟨c, u, e1, e2⟩ := e
    exact ⟨V.str ⟨#[c]⟩, by simp [chrs, e1], by rw [e2]; exact ⟨u, rfl⟩⟩
/-- what it runs over as it stands at each turn, each item in a new pair -/
def Ites (K : PySem.W.Frag) (src : Src) : It :=
  ⟨fun i H => ∃ (xs : List V) (x : V), SqS K H src xs ∧ xs[i]? = some x, fun i H v H' => ∃ T x, v = .ref T ∧ H T = none ∧ H' = upd H T (.tup [.int (i : Nat), x]) ∧ ∀ xs, SqS K H src xs → xs[i]? = some x, fun i H => ∃ xs : List V, SqS K H src xs ∧ xs.length = i⟩
theorem sqs_inj {X : Cx} {pins : List (Addr × Obj)} {σ : L2.St} {H : Hp} {s : Shared} (I : Inv X pins σ H s) {src : Src} {xs ys : List V} (h1 : SqS X.K H src xs) (h2 : SqS X.K H src ys) : xs = ys := by
  cases src with
  | l a => exact I.list_inj h1 h2
  | t a => exact I.tuple_inj h1 h2
  | s x => exact (show xs = chrs x from h1).trans (show ys = chrs x from h2).symm
theorem ItAt.keep {h h' : Heap} {it : Addr} {i : Nat} {src : Src} (x : ItAt h it i src) (k : ∀ o, h.get? it = some o → h'.get? it = some o) : ItAt h' it i src := by
  cases src with
  | l a => exact (show h.IsListIter it a i from x).at k
  | t a => exact (show h.IsTupleIter it a i from x).at k
  | s z => obtain ⟨t, o, ho, r⟩ := x; exact ⟨t, o, k o ho, r⟩
theorem ItAt.obj {h : Heap} {it : Addr} {i : Nat} {src : Src} (x : ItAt h it i src) : ∃ o, h.get? it = some o ∧ (∀ v, o.data ≠ .cell v) ∧ o.cls ≠ .type "enumerate" ∧ o.cls ≠ .type "zip" := by
  cases src with
  | l a =>
    obtain ⟨o, ho, hc, hd⟩ := x
    refine ⟨o, ho, ?_, by rw [hc]; decide, by rw [hc]; decide⟩
    intro v q
    rw [hd] at q; cases q
  | t a =>
    obtain ⟨o, ho, hc, hd⟩ := x
    refine ⟨o, ho, ?_, by rw [hc]; decide, by rw [hc]; decide⟩
    intro v q
    rw [hd] at q; cases q
  | s z =>
    obtain ⟨t, o, ho, hc, hd⟩ := x
    refine ⟨o, ho, ?_, ?_, ?_⟩
    · intro v q
      rw [hd] at q; cases q
    · rw [hc]; unfold strIterType; split <;> decide
    · rw [hc]; unfold strIterType; split <;> decide
theorem turn_enumS {P : Program} {w : World} {K : PySem.W.Frag} {elts : List Expr} {kk : Nat} {tpos : Pos} (src : Src) (e it : Addr) :
    Turn P w K (.Tuple elts kk tpos) (Ites K src) [e, it] e (fun i h => (∃ old, IsEnum h e it ((i : Nat) : Int) old) ∧ ItAt h it i src ∧ e ≠ it) where
  mem := by simp
  obj := fun i h st b hb => by
    obtain ⟨⟨old, he⟩, hi, _⟩ := st
    obtain ⟨o, ho, hd, _⟩ := hi.obj
    have e' : b = e ∨ b = it := by simpa using hb
    rcases e' with z | z
    · rw [z]; exact ⟨_, he, fun v q => nomatch q⟩
    · rw [z]; exact ⟨o, ho, hd⟩
  keep := fun i h h' st k => let ⟨⟨old, he⟩, hi, hne⟩ := st; ⟨⟨old, k e (by simp) _ he⟩, hi.keep fun o q => k it (by simp) o q, hne⟩
  item := by
    intro X hP hw hK hc i pins s σ H E I hf st hg
    subst hP hw hK
    obtain ⟨⟨old, he⟩, hit, hne⟩ := st
    obtain ⟨xs, x, hq, hx⟩ := hg
    have hlt : i < xs.length := (List.getElem?_eq_some_iff.mp hx).1
    obtain ⟨fp, St, D, dI, st, hif, hfp⟩ := draws_src (A := X.A.in1) I (show X.A.in1.handled = none from I.ok.hd hc) hq hit
    have hef : e ∉ fp := fun z => by
      rcases hfp e z with z | ⟨o, ho, z⟩
      · exact hne z
      · rw [he] at ho
        cases ho
        rcases z with z | z
        · exact absurd (show Value.type "enumerate" = Value.type "list" from z) (by decide)
        · exact absurd (show Value.type "enumerate" = Value.type "tuple" from z) (by decide)
    have hel : e < s.heap.objs.size := Heap.lt_size he
    have hil : it < s.heap.objs.size := by obtain ⟨o, q, _⟩ := hit.obj; exact Heap.lt_size q
    refine wpAny_pyNext_enum_itemD D he st hlt hne hef fun u h' tk hu ho hst' hT hsz hk => ?_
    obtain ⟨x', hx', ru⟩ := hu
    rw [hx] at hx'
    cases hx'
    refine ⟨_, rfl, wpAny_letOwnedTupleGo_enum (s := { s with heap := h', toks := tk + 1 }) ho fun h'' he' sb => ?_⟩
    have hT2 : h''.get? s.heap.objs.size = some { cls := .type "tuple", data := .seq #[.int i tk, u] } := (sb.2 _ (Nat.ne_of_gt hel)).trans hT
    have new : ObjOk X.prog X.w (upd H s.heap.objs.size (.tup [.int (i : Nat), x])) h'' s.heap.objs.size (.tup [.int (i : Nat), x]) :=
      ⟨by show 2 ≤ sizeLine; decide, [.int i tk, u], .cons ⟨_, rfl⟩ (.cons ru .nil), ⟨_, hT2, rfl, _, rfl⟩⟩
    have I1 : Inv X pins σ (upd H s.heap.objs.size (.tup [.int (i : Nat), x])) { s with heap := h'', toks := tk + 1 } :=
      I.turnedNew (ch := [e, it]) (fun b ob hb q => (sb.2 b (fun z => hb (by simp [z]))).trans (hk b ob (fun z => hb (by simp [z])) (fun z => hb (by simp [z])) q)) hf (Nat.le_refl _) new
    refine ⟨.ref s.heap.objs.size, _, I1, rfl, ⟨_, x, rfl, I.hok.fresh (Nat.le_refl _), rfl, fun ys hy => by rw [sqs_inj I hy hq]; exact hx⟩, ⟨⟨u, ?_⟩, (dI _ _ hst').keep fun o q => (sb.2 it (Ne.symm hne)).trans q, hne⟩, fun b hb => ?_⟩
    · have e1 : ((i + 1 : Nat) : Int) = (i : Int) + 1 := by omega
      rw [e1]; exact he'
    · have hb' : b < s.heap.objs.size := by
        have e' : b = e ∨ b = it := by simpa using hb
        rcases e' with z | z
        · rw [z]; exact hel
        · rw [z]; exact hil
      rw [upd_ne (Nat.ne_of_lt hb')]
      exact (hf b hb).1
  done := by
    intro X hP hw hK hc i pins s σ H E I hf st hg
    subst hP hw hK
    obtain ⟨⟨old, he⟩, hit, hne⟩ := st
    obtain ⟨xs, hq, hx⟩ := hg
    subst hx
    obtain ⟨f0, f1, f2, f3, f4, f5⟩ := hf it (by simp)
    obtain ⟨fp, St, D, dI, st, hif, hfp⟩ := draws_src (A := X.A.in1) I (show X.A.in1.handled = none from I.ok.hd hc) hq hit
    exact wpAny_pyNext_enum_endD D he st fun h' eb => ⟨rfl, I.turned (t' := s.toks) (fun b o hb q => eb b o hb q) f0 f1 f3 f4 f5⟩
  self := fun A i s Q E st h => let ⟨⟨_, he⟩, _⟩ := st; wpAny_pyIter_enum he h

theorem meets_enumerate_newT (l : Addr) (items : Array Value) (n : Nat) (dct : Option Addr) (sl : Array (Option Value)) :
    Meets (Builtin.«enumerate.__new__» ⟨[.type "enumerate", .ref l], []⟩) (fun _ R s => s.heap.get? l = some { cls := .type "tuple", dict := dct, data := .seq items n, slots := sl } ∧
      R (.ok (.ret (.ref (s.heap.push { cls := .type "tuple_iterator", data := .fields #[.ref l, .int 0 0] }).objs.size)))
        { s with heap := (s.heap.push { cls := .type "tuple_iterator", data := .fields #[.ref l, .int 0 0] }).push { cls := .type "enumerate", data := .fields #[.none, .bool false, .ref s.heap.objs.size, rawInt 0, .none, .none] } }) :=
  .of_wp fun prog w A R s h => by
    obtain ⟨hp, g, d, tk, os⟩ := s; obtain ⟨hl, h⟩ := h
    have hsub := sub_enumerate
    have hL : Heap.IsTuple (Shared.heap ⟨hp, g, d, tk, os⟩) l items := ⟨_, hl, rfl, n, rfl⟩
    wp_walk using AutoSeq1.wpAny_loadPart' hl
    refine wpAny_stack_any fun st => wpAny_pure ?_
    split
    · rename_i c _ _ _ _ _
      cases (c == Value.type "enumerate")
      · wp_walk using AutoSeq1.wpAny_loadPart' hl, wpAny_pyIter_tuple hL
        exact ⟨_, rfl, h⟩
      · wp_walk using AutoSeq1.wpAny_loadPart' hl, wpAny_pyIter_tuple hL
        exact ⟨_, rfl, h⟩
    · wp_walk using AutoSeq1.wpAny_loadPart' hl, wpAny_pyIter_tuple hL
      exact ⟨_, rfl, h⟩
theorem call_enumerate_tuple {prog : Program} {w : World} {A : Around} {E : Value → Shared → Prop} {s : Shared} {l : Addr} {items : Array Value} {Q : Value → Shared → Prop} (hL : s.heap.IsTuple l items)
    (h : ∀ h', IsEnum h' (s.heap.objs.size + 1) s.heap.objs.size 0 .none → h'.IsTupleIter s.heap.objs.size l 0 → h'.objs.size = s.heap.objs.size + 2 →
      (∀ b o, s.heap.get? b = some o → h'.get? b = some o) → Q (.ref (s.heap.objs.size + 1)) { s with heap := h' }) :
    wpAny (model prog w) A (call (.type "enumerate") [.ref l]) Q E s := by
  obtain ⟨⟨c, dct, dt, sl⟩, hl, hc, n, hd⟩ := hL
  replace hc : c = .type "tuple" := hc
  replace hd : dt = .seq items n := hd
  subst hc hd
  refine callType_new F.called_enumerate (by decide) (F.typeCall_enumerate_1 _) (F.newCall_enumerate_1 _) (fun obj => F.args_object_init_2 obj _) F.entry_enumerate_new
    (meets_enumerate_newT l items n dct sl) ⟨hl, ?_⟩
  have hz : (s.heap.push { cls := .type "tuple_iterator", data := .fields #[.ref l, .int 0 0] }).objs.size = s.heap.objs.size + 1 := Heap.size_push ..
  show _ ∧ _
  rw [hz]
  have he : IsEnum ((s.heap.push { cls := .type "tuple_iterator", data := .fields #[.ref l, .int 0 0] }).push
      { cls := .type "enumerate", data := .fields #[.none, .bool false, .ref s.heap.objs.size, rawInt 0, .none, .none] }) (s.heap.objs.size + 1) s.heap.objs.size 0 .none := by
    have := Heap.get?_push_size (s.heap.push { cls := .type "tuple_iterator", data := .fields #[.ref l, .int 0 0] })
      (o := { cls := .type "enumerate", data := .fields #[.none, .bool false, .ref s.heap.objs.size, rawInt 0, .none, .none] }) rfl
    rw [hz] at this; exact this
  refine ⟨⟨_, he, rfl⟩, h _ he ⟨_, Heap.get?_push_of_some _ (Heap.get?_push_size _ rfl), rfl, rfl⟩ (by rw [Heap.size_push, hz]) fun b o x => Heap.get?_push_of_some _ (Heap.get?_push_of_some _ x)⟩
/-- the source a value is -/
def SrcV : V → Src → Prop
  | .str x, .s y => x = y
  | .ref a, .l b => a = b
  | .ref a, .t b => a = b
  | _, _ => False
theorem SrcV.l {v : V} {a : Addr} (h : SrcV v (.l a)) : v = .ref a := by
  cases v <;> first | exact h.elim | exact congrArg V.ref h
theorem SrcV.t {v : V} {a : Addr} (h : SrcV v (.t a)) : v = .ref a := by
  cases v <;> first | exact h.elim | exact congrArg V.ref h
theorem SrcV.s {v : V} {a : Str} (h : SrcV v (.s a)) : v = .str a := by
  cases v <;> first | exact h.elim | exact congrArg V.str h
def iEnumS (K : PySem.W.Frag) (ta : TA) : TI := fun σ H R => ta σ H fun vs H1 => ∃ v src xs, vs = [v] ∧ SrcV v src ∧ SqS K H1 src xs ∧ R (Ites K src) H1
theorem pi_enumS {X : Cx} {e : Expr} {ta : TA} {p pos tpos : Pos} {elts : List Expr} {kk : Nat} (hg : Gl X "enumerate") (hm : X.mg "enumerate" = none) (ha : PA X [e] ta) (hs : starEach [e] X.env = [(false, eval e X.env)] := by rfl) :
    PI X (.Tuple elts kk tpos) (.Call (.Name "enumerate" p) [e] [] pos) (iEnumS X.K ta) := by
  refine ⟨fun pins s σ H R I h => ?_⟩
  refine Call_ (ld_blt I hg hm boot_enumerate (PyProof.Rows.callWith_type1 (thn (ha.run pos pins s σ H _ I h) fun us s1 ⟨vs, H1, I1, r1, q1⟩ => ?_) hs rfl))
  obtain ⟨v, src, xs, ex, hv, hq, q⟩ := q1
  subst ex
  obtain ⟨u, rfl, r⟩ := r1.one
  have fin : ∀ h', IsEnum h' (s1.heap.objs.size + 1) s1.heap.objs.size 0 .none → ItAt h' s1.heap.objs.size 0 src → (∀ b o, s1.heap.get? b = some o → h'.get? b = some o) →
      wpAny (model X.prog X.w) X.A (pyIter (.ref (s1.heap.objs.size + 1))) (PIE X pins σ (.Tuple elts kk tpos) R) X.xe { s1 with heap := h' } := fun h' he hit hk => by
    have I2 : Inv X pins σ H1 { s1 with heap := h' } := I1.kept (t' := s1.toks) hk
    refine wpAny_pyIter_enum he ⟨s1.heap.objs.size + 1, [s1.heap.objs.size + 1, s1.heap.objs.size], _, _, H1, rfl, I2, turn_enumS src (s1.heap.objs.size + 1) s1.heap.objs.size, ⟨⟨.none, he⟩, hit, Nat.succ_ne_self _⟩, fun b hb => ?_, q⟩
    have e' : b = s1.heap.objs.size + 1 ∨ b = s1.heap.objs.size := by simpa using hb
    have hle : s1.heap.objs.size ≤ b := by
      rcases e' with z | z
      · rw [z]; exact Nat.le_add_right _ _
      · rw [z]; exact Nat.le_refl _
    exact I1.fpOk hle (I1.hok.fresh hle)
  cases src with
  | l a =>
    obtain rfl := hv.l
    cases r
    obtain ⟨its, rv, p', hz⟩ := I1.list hq
    exact call_enumerate_list p'.isList fun h' he hit hsz hk => fin h' he hit hk
  | t a =>
    obtain rfl := hv.t
    cases r
    obtain ⟨its, rv, p', hz⟩ := I1.tuple hq
    exact call_enumerate_tuple (show s1.heap.IsTuple a its.toArray from p') fun h' he hit hsz hk => fin h' he hit hk
  | s x =>
    obtain rfl := hv.s
    obtain ⟨t, rfl⟩ := r
    exact call_enumerate_str fun h' he hit hsz hk => fin h' he ⟨t, hit⟩ hk
theorem walk_enumS {K : PySem.W.Frag} {src : Src} {xs : List V} : Walk (Ites K src) xs.length (fun H => SqS K H src xs) (YPair (fun i => some (.int (i : Nat))) (fun i => xs[i]?)) := by
  refine ⟨fun i _ hi q => ⟨xs, xs[i], q, by simp [hi]⟩, fun _ q => ⟨xs, q, rfl⟩, fun i H v H' _ q y => ?_⟩
  obtain ⟨T, x, h1, h2, h3, h4⟩ := y
  exact ⟨T, .int (i : Nat), x, h1, h2, h3, rfl, h4 xs q⟩
end Pf

/-! Pf9: targets, sources, for. -/
namespace Pf
open PySem PySem.Spec PyProof.Rows L2

/-! ### targets -/
def OutOf (ixs : List Nat) (σ σ' : L2.St) : Prop := σ'.length = σ.length ∧ ∀ j, j ∉ ixs → σ'[j]? = σ[j]?
abbrev Bd := D → Rho → Option Rho
def JG (X : Cx) (tg : Expr) (ixs : List Nat) (b : Bd) : Prop := ∃ g, PG X tg g ∧ ∀ F G H σ ρ v d ρ' (Q : L2.St → Hp → Prop), SI X.K F G H σ ρ → Rp X.K G v d → b d ρ = some ρ' →
  (∀ σ', SI X.K F G H σ' ρ' → OutOf ixs σ σ' → Q σ' H) → g v σ H Q
def JGs (X : Cx) (tgs : List Expr) (ixs : List Nat) (b : List D → Rho → Option Rho) : Prop := ∃ g, PGs X tgs g ∧ ∀ F G H σ ρ vs ds ρ' (Q : L2.St → Hp → Prop), SI X.K F G H σ ρ → Rs X.K G vs ds → b ds ρ = some ρ' →
  (∀ σ', SI X.K F G H σ' ρ' → OutOf ixs σ σ' → Q σ' H) → g vs σ H Q
def bName (i : Nat) : Bd := fun d ρ =>
  match ρ[i]? with
  | some (.io _) => none
  | _ => some (ρ.set i (.imm d))
def bNil : List D → Rho → Option Rho
  | [], ρ => some ρ
  | _ :: _, _ => none
def bCons (a : Bd) (b : List D → Rho → Option Rho) : List D → Rho → Option Rho
  | [], _ => none
  | d :: ds, ρ => (a d ρ).bind fun ρ1 => b ds ρ1
def bTup (b : List D → Rho → Option Rho) : Bd := fun d ρ =>
  match d with
  | .tuple ds => b ds ρ
  | _ => none
section
variable {X : Cx} {W : WX} {pos : Pos} {x : Str}
theorem OutOf.rfl' (ixs : List Nat) (σ : L2.St) : OutOf ixs σ σ := ⟨rfl, fun _ _ => rfl⟩
theorem OutOf.tr {a b : List Nat} {σ σ1 σ2 : L2.St} (h : OutOf a σ σ1) (k : OutOf b σ1 σ2) : OutOf (a ++ b) σ σ2 :=
  ⟨k.1.trans h.1, fun j hj => (k.2 j fun z => hj (List.mem_append_right _ z)).trans (h.2 j fun z => hj (List.mem_append_left _ z))⟩
theorem jg_name (i : Nat) (hN : X.N.Nodup) (hi : X.N[i]? = some x := by rfl) (hx : Loc X.env.scope x := by first | exact Or.inl rfl | exact Or.inr rfl) (hf : X.fn x = true ∨ X.env.scope.names.lookup x = some .local := by first | exact .inl rfl | exact .inr rfl | assumption) :
    JG X (.Name x pos) [i] (bName i) := by
  refine ⟨_, pg_name (i := i) hN hi hx hf, fun F G H σ ρ v d ρ' Q I r e k => ?_⟩
  unfold bName at e
  split at e
  · cases e
  · rename_i hne
    cases e
    refine k _ (I.setImm r) ⟨by simp, fun j hj => ?_⟩
    have : j ≠ i := by simpa using hj
    rw [List.getElem?_set_ne (Ne.symm this)]
theorem jgs_nil : JGs X [] [] bNil := ⟨_, pgs_nil, fun F G H σ ρ vs ds ρ' Q I r e k => by
  cases r with
  | nil => cases e; exact ⟨rfl, k σ I (OutOf.rfl' _ _)⟩
  | cons _ _ => cases e⟩
theorem jgs_cons {e : Expr} {es : List Expr} {ia ib : List Nat} {a : Bd} {b : List D → Rho → Option Rho} (h : JG X e ia a) (h2 : JGs X es ib b)
    (hs : (assignEach (e :: es) X.env).map (·.2) = assign e X.env :: (assignEach es X.env).map (·.2) := by rfl) : JGs X (e :: es) (ia ++ ib) (bCons a b) := by
  obtain ⟨g, hg, kg⟩ := h
  obtain ⟨u, hu, ku⟩ := h2
  refine ⟨_, pgs_cons hg hu hs, fun F G H σ ρ vs ds ρ' Q I r e k => ?_⟩
  cases r with
  | nil => cases e
  | cons r rr =>
    rename_i v vs d ds
    have e : (a d ρ).bind (fun ρ1 => b ds ρ1) = some ρ' := e
    cases q : a d ρ with
    | none => rw [q] at e; cases e
    | some ρ1 =>
      rw [q] at e
      exact ⟨v, vs, rfl, kg F G H σ ρ v d ρ1 _ I r q fun σ1 I1 o1 => ku F G H σ1 ρ1 vs ds ρ' Q I1 rr e fun σ2 I2 o2 => k σ2 I2 (o1.tr o2)⟩
theorem jg_tup {es : List Expr} {ixs : List Nat} {b : List D → Rho → Option Rho} {k : Nat} (hc : X.calm = true) (h : JGs X es ixs b) (hb : ∀ ds ρ ρ', b ds ρ = some ρ' → ds.length = es.length)
    (hn : (assignEach es X.env).length = es.length := by rfl) (hst : (assignEach es X.env).findIdx? (·.1) = none := by rfl) : JG X (.Tuple es k pos) ixs (bTup b) := by
  obtain ⟨g, hg, kg⟩ := h
  refine ⟨_, pg_tup (n := es.length) hc hg hn hst, fun F G H σ ρ v d ρ' Q I r e kk => ?_⟩
  cases d with
  | tuple ds =>
    cases r with
    | t e1 r1 =>
      exact ⟨_, _, rfl, I.gH.seqT e1, by rw [r1.length]; exact hb ds ρ ρ' e, kg F G H σ ρ _ ds ρ' Q I r1 e kk⟩
  | _ => cases e
theorem bCons_len {a : Bd} {b : List D → Rho → Option Rho} {n : Nat} (h : ∀ ds ρ ρ', b ds ρ = some ρ' → ds.length = n) : ∀ ds ρ ρ', bCons a b ds ρ = some ρ' → ds.length = n + 1
  | [], _, _, e => by cases e
  | d :: ds, ρ, ρ', e => by
    have e : (a d ρ).bind (fun ρ1 => b ds ρ1) = some ρ' := e
    cases q : a d ρ with
    | none => rw [q] at e; cases e
    | some ρ1 => rw [q] at e; simp [h ds ρ1 ρ' e]
theorem bNil_len : ∀ ds ρ ρ', bNil ds ρ = some ρ' → ds.length = 0
  | [], _, _, _ => rfl
  | _ :: _, _, _, e => by cases e
end

/-! ### sources -/
/-- the iterator J gives the data ds -/
def IterG (K : PySem.W.Frag) (G : Hp) (J : It) (ds : List D) : Prop := ∃ (Gd : Hp → Prop) (Y : Nat → Hp → V → Hp → Prop), Walk J ds.length Gd Y ∧ (∀ G' H', Sub G G' → Sub G' H' → Gd H') ∧
  ∀ i H x H' d, ds[i]? = some d → Y i H x H' → (H' = H ∧ Rp K G x d) ∨ ∃ T v w d1 d2, x = V.ref T ∧ H T = none ∧ H' = upd H T (.tup [v, w]) ∧ d = .tuple [d1, d2] ∧ Rp K G v d1 ∧ Rp K G w d2
def JI (X : Cx) (W : WX) (tg iter : Expr) (den : Rho → R (List D)) : Prop := ∃ wi, PI X tg iter wi ∧ ∀ F G H σ ρ (Q : It → Hp → Prop), SI X.K F G H σ ρ →
  Post X.K X.mg F G σ W (fun F σ G H ρ J ds => IterG X.K G J ds) Q (den ρ) → wi σ H Q
theorem IterG.step {K : PySem.W.Frag} {F : Fx} {G G1 H H' : Hp} {σ : L2.St} {ρ : Rho} {x : V} {d : D} (I : SI K F G1 H σ ρ) (s : Sub G G1)
    (h : (H' = H ∧ Rp K G x d) ∨ ∃ T v w d1 d2, x = V.ref T ∧ H T = none ∧ H' = upd H T (.tup [v, w]) ∧ d = .tuple [d1, d2] ∧ Rp K G v d1 ∧ Rp K G w d2) :
    ∃ G2, SI K F G2 H' σ ρ ∧ Sub G1 G2 ∧ Rp K G2 x d := by
  rcases h with ⟨rfl, r⟩ | ⟨T, v, w, d1, d2, rfl, hT, rfl, rfl, r1, r2⟩
  · exact ⟨G1, I, Sub.rfl' _, r.mono s _ _⟩
  · have gp : G1 T = none := by
      cases q : G1 T with
      | none => rfl
      | some u => rw [I.gH T u q] at hT; cases hT
    have sn : Sub G1 (upd G1 T (.tup [v, w])) := Sub.new gp
    exact ⟨_, I.alloc hT (fun _ z => by cases z), sn, .t (.inl (.inl upd_same)) (.cons ((r1.mono s _ _).mono sn _ _) (.cons ((r2.mono s _ _).mono sn _ _) .nil))⟩
def seqD : D → Option (List D)
  | .list ds => some ds
  | .tuple ds => some ds
  | .str x => some (x.cps.toList.map fun c => .str ⟨#[c]⟩)
  | _ => none
def dSrcL (a : Rho → R D) (ρ : Rho) : R (List D) := (a ρ).bind fun d ρ1 =>
  match d with
  | .list ds => .ok ds ρ1
  | _ => .bad
def dSrcT (a : Rho → R D) (ρ : Rho) : R (List D) := (a ρ).bind fun d ρ1 =>
  match d with
  | .tuple ds => .ok ds ρ1
  | _ => .bad
def dSrcS (a : Rho → R D) (ρ : Rho) : R (List D) := (a ρ).bind fun d ρ1 =>
  match d with
  | .str x => .ok (x.cps.toList.map fun c => .str ⟨#[c]⟩) ρ1
  | _ => .bad
def numD (i : Nat) : List D → List D
  | [] => []
  | d :: ds => .tuple [.int i, d] :: numD (i + 1) ds
def dSrcE (a : Rho → R D) (ρ : Rho) : R (List D) := (a ρ).bind fun d ρ1 =>
  match seqD d with
  | some ds => .ok (numD 0 ds) ρ1
  | none => .bad
def rgD (lo c : Int) (n : Nat) : List D := (List.range n).map fun i : Nat => .int (lo + (i : Nat) * c)
def dRng1 (a : Rho → R D) (ρ : Rho) : R (List D) := (a ρ).bind fun d ρ1 =>
  match d with
  | .int j => if -(2 ^ 62) ≤ j ∧ j < 2 ^ 62 then .ok (rgD 0 1 j.toNat) ρ1 else .bad
  | _ => .bad
def dRng2 (a b : Rho → R D) (ρ : Rho) : R (List D) := (a ρ).bind fun d ρ1 => (b ρ1).bind fun e ρ2 =>
  match d, e with
  | .int i, .int j => if -(2 ^ 62) ≤ i ∧ i < 2 ^ 62 ∧ -(2 ^ 62) ≤ j ∧ j < 2 ^ 62 then .ok (rgD i 1 (j - i).toNat) ρ2 else .bad
  | _, _ => .bad
/-- range(lo, hi, c) -/
def dRng3 (a b c : Rho → R D) (ρ : Rho) : R (List D) := (a ρ).bind fun d ρ1 => (b ρ1).bind fun e ρ2 => (c ρ2).bind fun f ρ3 =>
  match d, e, f with
  | .int i, .int j, .int k => if k ≠ 0 ∧ k.natAbs < 1073741824 ∧ Builtin.Range.small i j k = true then .ok (rgD i k (Builtin.Range.rangeSize i j k).toNat) ρ3 else .bad
  | _, _, _ => .bad
theorem numD_at : ∀ (ds : List D) (k i : Nat), (numD k ds)[i]? = ds[i]?.map fun d => .tuple [.int ((k + i : Nat) : Int), d]
  | [], _, i => by simp [numD]
  | d :: ds, k, 0 => by simp [numD]
  | d :: ds, k, i + 1 => by
    have := numD_at ds (k + 1) i
    have e : k + 1 + i = k + (i + 1) := by omega
    simp [numD, this, e]
theorem numD_len : ∀ (ds : List D) (k : Nat), (numD k ds).length = ds.length
  | [], _ => rfl
  | _ :: ds, k => by simp [numD, numD_len ds (k + 1)]
section
variable {X : Cx} {W : WX} {pos p1 : Pos} {x : Str} {a b c tg : Expr} {da db dc : Rho → R D}
theorem ji_list (ha : JE X W a da) : JI X W tg a (dSrcL da) := by
  obtain ⟨t, ht, k⟩ := ha
  refine ⟨_, pi_list ht, fun F G H σ ρ Q I p => k F G H σ ρ _ I (p.bind fun d ρ1 G1 H1 v I1 s1 r1 p1 => ?_)⟩
  cases d with
  | list ds =>
    cases r1 with
    | l e r =>
      rename_i ad vs
      refine ⟨ad, rfl, ⟨vs, .inl (.inl (I1.gH _ _ e))⟩, p1 G1 H1 _ I1 (Sub.rfl' _) ⟨fun H => SqL X.K H ad vs, YAt vs, ?_, ?_, ?_⟩⟩
      · rw [← r.length]; exact walk_list
      · exact fun G' H' s s' => .inl (.inl (s' _ _ (s _ _ e)))
      · intro i H x H' d hd y
        obtain ⟨v, h1, h2⟩ := r.get hd
        refine .inl ⟨y.1, ?_⟩
        have := y.2
        rw [h1] at this
        cases this
        exact h2
  | _ => exact p1.elim
theorem ji_tup (ha : JE X W a da) : JI X W tg a (dSrcT da) := by
  obtain ⟨t, ht, k⟩ := ha
  refine ⟨_, pi_tup ht, fun F G H σ ρ Q I p => k F G H σ ρ _ I (p.bind fun d ρ1 G1 H1 v I1 s1 r1 p1 => ?_)⟩
  cases d with
  | tuple ds =>
    cases r1 with
    | t e r =>
      rename_i ad vs
      refine ⟨ad, rfl, ⟨vs, I1.gH.seqT e⟩, p1 G1 H1 _ I1 (Sub.rfl' _) ⟨fun H => SqT X.K H ad vs, YAt vs, ?_, ?_, ?_⟩⟩
      · rw [← r.length]; exact walk_tup
      · exact fun G' H' s s' => s'.seqT (s.seqT e)
      · intro i H x H' d hd y
        obtain ⟨v, h1, h2⟩ := r.get hd
        refine .inl ⟨y.1, ?_⟩
        have := y.2
        rw [h1] at this
        cases this
        exact h2
  | _ => exact p1.elim
theorem ji_str (ha : JE X W a da) : JI X W tg a (dSrcS da) := by
  obtain ⟨t, ht, k⟩ := ha
  refine ⟨_, pi_str ht, fun F G H σ ρ Q I p => k F G H σ ρ _ I (p.bind fun d ρ1 G1 H1 v I1 s1 r1 p1 => ?_)⟩
  cases d with
  | str z =>
    cases r1
    refine ⟨z, rfl, p1 G1 H1 _ I1 (Sub.rfl' _) ⟨fun _ => True, fun i H v H' => H' = H ∧ ∃ c, z.cps[i]? = some c ∧ v = .str ⟨#[c]⟩, ?_, ?_, ?_⟩⟩
    · rw [show (z.cps.toList.map fun c => PyData.str ⟨#[c]⟩).length = z.cps.size by simp]; exact walk_str
    · exact fun G' H' s s' => True.intro
    · intro i H x H' d hd y
      obtain ⟨e, c, h1, h2⟩ := y
      have : d = .str ⟨#[c]⟩ := by
        simp [h1] at hd
        exact hd.symm
      subst this
      exact .inl ⟨e, by rw [h2]; exact .s _⟩
  | _ => exact p1.elim
theorem rgD_walk {K : PySem.W.Frag} {G : Hp} {lo c : Int} {n : Nat} {J : It} (w : Walk J n (fun _ => True) (YFn fun i => .int (lo + (i : Nat) * c))) : IterG K G J (rgD lo c n) := by
  refine ⟨fun _ => True, YFn fun i => .int (lo + (i : Nat) * c), ?_, fun _ _ _ _ => True.intro, fun i H x H' d hd y => ?_⟩
  · rw [show (rgD lo c n).length = n by simp [rgD]]; exact w
  · obtain ⟨e1, e2⟩ := y
    have hi : i < n := by
      have := (List.getElem?_eq_some_iff.mp hd).1
      simpa [rgD] using this
    have : d = .int (lo + (i : Nat) * c) := by
      simp [rgD, hi] at hd
      exact hd.symm
    subst this
    exact .inl ⟨e1, by rw [e2]; exact .i _⟩
theorem ji_rng1 (hg : Gl X "range") (hm : X.mg "range" = none) (ha : JE X W a da) (hs : starEach [a] X.env = [(false, eval a X.env)] := by rfl) : JI X W tg (.Call (.Name "range" p1) [a] [] pos) (dRng1 da) := by
  obtain ⟨t, ht, k⟩ := ha
  refine ⟨_, pi_range1 hg hm (pa_cons ht pa_nil hs) hs, fun F G H σ ρ Q I p => k F G H σ ρ _ I (p.bind fun d ρ1 G1 H1 v I1 s1 r1 p1 => ?_)⟩
  cases d with
  | int j =>
    cases r1
    have p1 : Post X.K X.mg F G1 σ W (fun F σ G H ρ J ds => IterG X.K G J ds) Q (if -(2 ^ 62) ≤ j ∧ j < 2 ^ 62 then .ok (rgD 0 1 j.toNat) ρ1 else .bad) := p1
    split at p1
    · rename_i c
      refine ⟨j, rfl, c.1, c.2, p1 G1 H1 _ I1 (Sub.rfl' _) (rgD_walk ?_)⟩
      have w := walk_range (lo := 0) (n := j.toNat)
      exact w.mono (fun _ h => h) fun i H x H' _ _ y => ⟨y.1, by rw [y.2]; simp⟩
    · exact p1.elim
  | _ => exact p1.elim
theorem ji_rng2 (hg : Gl X "range") (hm : X.mg "range" = none) (ha : JE X W a da) (hb : JE X W b db) (hs : starEach [a, b] X.env = [(false, eval a X.env), (false, eval b X.env)] := by rfl) (hs2 : starEach [b] X.env = [(false, eval b X.env)] := by rfl) :
    JI X W tg (.Call (.Name "range" p1) [a, b] [] pos) (dRng2 da db) := by
  obtain ⟨t, ht, k⟩ := ha
  obtain ⟨u, hu, k2⟩ := hb
  refine ⟨_, pi_range2 hg hm (pa_cons ht (pa_cons hu pa_nil hs2) (by rw [hs, hs2])) hs hs2, fun F G H σ ρ Q I p => k F G H σ ρ _ I (p.bind fun d ρ1 G1 H1 v I1 s1 r1 p1 => k2 F G1 H1 σ ρ1 _ I1 (p1.bind fun e ρ2 G2 H2 w I2 s2 r2 p2 => ?_))⟩
  cases d with
  | int i =>
    cases e with
    | int j =>
      cases r1
      cases r2
      have p2 : Post X.K X.mg F G2 σ W (fun F σ G H ρ J ds => IterG X.K G J ds) Q (if -(2 ^ 62) ≤ i ∧ i < 2 ^ 62 ∧ -(2 ^ 62) ≤ j ∧ j < 2 ^ 62 then .ok (rgD i 1 (j - i).toNat) ρ2 else .bad) := p2
      split at p2
      · rename_i c
        refine ⟨i, j, rfl, c, p2 G2 H2 _ I2 (Sub.rfl' _) (rgD_walk ?_)⟩
        have w := walk_range (lo := i) (n := (j - i).toNat)
        exact w.mono (fun _ h => h) fun i H x H' _ _ y => ⟨y.1, by rw [y.2]; simp⟩
      · exact p2.elim
    | _ => exact p2.elim
  | _ => exact p2.elim
theorem ji_rng3 (hg : Gl X "range") (hm : X.mg "range" = none) (ha : JE X W a da) (hb : JE X W b db) (hc : JE X W c dc) (hs : starEach [a, b, c] X.env = (false, eval a X.env) :: starEach [b, c] X.env := by rfl) (hs2 : starEach [b, c] X.env = (false, eval b X.env) :: starEach [c] X.env := by rfl) (hs3 : starEach [c] X.env = [(false, eval c X.env)] := by rfl) :
    JI X W tg (.Call (.Name "range" p1) [a, b, c] [] pos) (dRng3 da db dc) := by
  obtain ⟨t, ht, k⟩ := ha
  obtain ⟨u, hu, k2⟩ := hb
  obtain ⟨w, hw, k3⟩ := hc
  refine ⟨_, pi_range3 hg hm (pa_cons ht (pa_cons hu (pa_cons hw pa_nil hs3) hs2) hs) hs (by rw [hs2, hs3]; rfl), fun F G H σ ρ Q I p => k F G H σ ρ _ I (p.bind fun d ρ1 G1 H1 v I1 s1 r1 p1 => k2 F G1 H1 σ ρ1 _ I1 (p1.bind fun e ρ2 G2 H2 w I2 s2 r2 p2 => k3 F G2 H2 σ ρ2 _ I2 (p2.bind fun f ρ3 G3 H3 z I3 s3 r3 p3 => ?_)))⟩
  cases d with
  | int i =>
    cases e with
    | int j =>
      cases f with
      | int k =>
        cases r1
        cases r2
        cases r3
        have p3 : Post X.K X.mg F G3 σ W (fun F σ G H ρ J ds => IterG X.K G J ds) Q (if k ≠ 0 ∧ k.natAbs < 1073741824 ∧ Builtin.Range.small i j k = true then .ok (rgD i k (Builtin.Range.rangeSize i j k).toNat) ρ3 else .bad) := p3
        split at p3
        · rename_i c
          exact ⟨i, j, k, _, rfl, ⟨c.1, c.2.1, c.2.2, rangeSize_toNat i j k⟩, p3 G3 H3 _ I3 (Sub.rfl' _) (rgD_walk walk_rangeC)⟩
        · exact p3.elim
      | _ => exact p3.elim
    | _ => exact p3.elim
  | _ => exact p3.elim
theorem ji_enum {elts : List Expr} {kk : Nat} {tpos : Pos} (hg : Gl X "enumerate") (hm : X.mg "enumerate" = none) (ha : JE X W a da) (hs : starEach [a] X.env = [(false, eval a X.env)] := by rfl) :
    JI X W (.Tuple elts kk tpos) (.Call (.Name "enumerate" p1) [a] [] pos) (dSrcE da) := by
  obtain ⟨t, ht, k⟩ := ha
  refine ⟨_, pi_enumS hg hm (pa_cons ht pa_nil hs) hs, fun F G H σ ρ Q I p => k F G H σ ρ _ I (p.bind fun d ρ1 G1 H1 v I1 s1 r1 p1 => ?_)⟩
  have fin : ∀ (src : Src) (xs : List V) (ds : List D), seqD d = some ds → SrcV v src → SqS X.K H1 src xs → Rs X.K G1 xs ds → (∀ G' H', Sub G1 G' → Sub G' H' → SqS X.K H' src xs) → iEnumS X.K (tCons (fun σ H Q => Q v H) tNil) σ H1 Q := fun src xs ds hd hv hq r st => by
    rw [hd] at p1
    refine ⟨v, src, xs, rfl, hv, hq, p1 G1 H1 _ I1 (Sub.rfl' _) ⟨fun H => SqS X.K H src xs, YPair (fun i => some (.int (i : Nat))) (fun i => xs[i]?), ?_, st, fun i H x H' d hd y => ?_⟩⟩
    · rw [numD_len, ← r.length]; exact walk_enumS
    · obtain ⟨T, v1, w1, h1, h2, h3, h4, h5⟩ := y
      rw [numD_at, Nat.zero_add] at hd
      obtain ⟨d', q1, q2⟩ := r.getV h5
      rw [q1] at hd
      cases h4
      cases hd
      exact .inr ⟨T, _, w1, _, d', h1, h2, h3, rfl, .i _, q2⟩
  cases d with
  | list ds =>
    cases r1 with
    | l e r =>
      rename_i ad vs
      exact fin (.l ad) vs ds rfl rfl (.inl (.inl (I1.gH _ _ e))) r fun G' H' s s' => .inl (.inl (s' _ _ (s _ _ e)))
  | tuple ds =>
    cases r1 with
    | t e r =>
      rename_i ad vs
      exact fin (.t ad) vs ds rfl rfl (I1.gH.seqT e) r fun G' H' s s' => s'.seqT (s.seqT e)
  | str z =>
    cases r1
    have cr : ∀ l : List Nat, Rs X.K G1 (l.map fun c => V.str ⟨#[c]⟩) (l.map fun c => .str ⟨#[c]⟩) := fun l => by
      induction l with
      | nil => exact .nil
      | cons c l ih => exact .cons (.s _) ih
    exact fin (.s z) (chrs z) _ rfl rfl rfl (cr _) fun G' H' s s' => rfl
  | _ => exact p1.elim
end

/-! ### for -/
def dLoop (bind : Bd) (body : Rho → Out) : List D → Rho → Out
  | [], ρ => .next ρ
  | d :: ds, ρ =>
    match bind d ρ with
    | none => .bad
    | some ρ1 =>
      match body ρ1 with
      | .next ρ2 => dLoop bind body ds ρ2
      | .cont ρ2 => dLoop bind body ds ρ2
      | .brk ρ2 => .next ρ2
      | o => o
def dFor (it : Rho → R (List D)) (bind : Bd) (body : Rho → Out) (ρ : Rho) : Out := (it ρ).out fun ds ρ1 => dLoop bind body ds ρ1
theorem js_for {X : Cx} {W : WX} {tg iter : Expr} {bodyS : List Stmt} {pos : Pos} {it : Rho → R (List D)} {ixs : List Nat} {bind : Bd} {body : Rho → Out} (hp : PassesOwn (model X.prog X.w) X.A X.env X.xe) (hc : X.calm = true)
    (hi : JI X W tg iter it) (hg : JG X tg ixs bind) (hb : JSs X W bodyS body) (hs : ∀ x, foldedSetIterable iter X.env x = pure x := by intro _; rfl) : JS X W (.For tg iter bodyS [] pos) (dFor it bind body) := by
  obtain ⟨wi, hi, ki⟩ := hi
  obtain ⟨g, hg, kg⟩ := hg
  obtain ⟨tb, hb, kb⟩ := hb
  refine ⟨_, ps_for hp hc hi hg hb hs, fun F G H σ ρ D I p => ki F G H σ ρ _ I (SPost.bind (rel := fun F σ G H ρ J ds => IterG X.K G J ds) p fun ds ρ1 G1 H1 J I1 s1 r1 p1 => ?_)⟩
  obtain ⟨Gd, Y, w, hGd, hY⟩ := r1
  refine for_it w (fun i σ' H' => ∃ G' ρ', SI X.K F G' H' σ' ρ' ∧ Sub G1 G' ∧ SPost X.K X.mg F G' W D (dLoop bind body (ds.drop i) ρ')) ⟨G1, ρ1, I1, Sub.rfl' _, p1⟩ (fun i σ' H' _ ⟨G', ρ', I', s', _⟩ => hGd G' H' s' I'.gH) ?_ ?_
  · intro i x σ' H' H2 hi ⟨G', ρ', I', s', p'⟩ y
    obtain ⟨d, hd⟩ : ∃ d, ds[i]? = some d := ⟨ds[i], List.getElem?_eq_getElem hi⟩
    have ed : ds.drop i = d :: ds.drop (i + 1) := by
      rw [List.drop_eq_getElem_cons hi]
      rw [List.getElem?_eq_getElem hi] at hd
      cases hd
      rfl
    rw [ed] at p'
    obtain ⟨G2, I2, s2, r2⟩ := IterG.step I' s' (hY i H' x H2 d hd y)
    unfold dLoop at p'
    split at p'
    · exact p'.elim
    · rename_i ρ2 hb2
      refine kg F G2 H2 σ' ρ' x d ρ2 _ I2 r2 hb2 fun σ2 I3 _ => ?_
      refine kb F G2 H2 σ2 ρ2 _ I3 ?_
      have p' := SPost.mono s2 p'
      cases q : body ρ2 with
      | next ρ3 => rw [q] at p'; exact fun G3 H3 σ3 I3 s3 => ⟨G3, ρ3, I3, (s'.tr s2).tr s3, SPost.mono s3 p'⟩
      | cont ρ3 => rw [q] at p'; exact fun G3 H3 σ3 I3 s3 => ⟨G3, ρ3, I3, (s'.tr s2).tr s3, SPost.mono s3 p'⟩
      | brk ρ3 => rw [q] at p'; exact p'
      | ret d ρ3 => rw [q] at p'; exact p'
      | retN d ρ3 => rw [q] at p'; exact p'
      | err d ρ3 => rw [q] at p'; exact p'
      | bad => rw [q] at p'; exact p'
  · intro σ' H' ⟨G', ρ', I', s', p'⟩
    rw [List.drop_length] at p'
    exact p' G' H' σ' I' (Sub.rfl' _)
end Pf

/-! Pf10: comprehensions. -/
namespace Pf
open PySem PySem.Spec PyProof.Rows L2

/-! ### slots forgotten and brought back -/
def wipeR (ρ : Rho) : List Nat → Rho
  | [] => ρ
  | v :: vs => (wipeR ρ vs).set v .undef
def backR (ρ ρ' : Rho) : List Nat → Rho
  | [] => ρ'
  | v :: vs => match ρ[v]? with
    | some s => (backR ρ ρ' vs).set v s
    | none => backR ρ ρ' vs
def calmS (ρ : Rho) (vs : List Nat) : Bool := vs.all fun v => match ρ[v]? with
  | some .undef => true
  | some (.imm _) => true
  | none => true
  | _ => false
theorem wipeR_len (ρ : Rho) : ∀ vs, (wipeR ρ vs).length = ρ.length
  | [] => rfl
  | v :: vs => by unfold wipeR; rw [List.length_set, wipeR_len ρ vs]
theorem backR_len (ρ ρ' : Rho) : ∀ vs, (backR ρ ρ' vs).length = ρ'.length
  | [] => rfl
  | v :: vs => by
    unfold backR
    split
    · rw [List.length_set, backR_len ρ ρ' vs]
    · exact backR_len ρ ρ' vs
theorem backR_in {ρ ρ' : Rho} {i : Nat} (hl : ρ.length = ρ'.length) : ∀ {vs : List Nat}, i ∈ vs → (backR ρ ρ' vs)[i]? = ρ[i]?
  | [], h => by cases h
  | v :: vs, h => by
    unfold backR
    by_cases e : v = i
    · subst e
      cases q : ρ[v]? with
      | some s =>
        have hv : v < (backR ρ ρ' vs).length := by rw [backR_len, ← hl]; exact (List.getElem?_eq_some_iff.mp q).1
        rw [List.getElem?_set_self hv]
      | none =>
        have hv : (backR ρ ρ' vs).length ≤ v := by rw [backR_len, ← hl]; exact List.getElem?_eq_none_iff.mp q
        exact List.getElem?_eq_none hv
    · have h' : i ∈ vs := by
        cases h with
        | head => exact absurd rfl e
        | tail _ h => exact h
      cases q : ρ[v]? with
      | some s =>
        show ((backR ρ ρ' vs).set v s)[i]? = ρ[i]?
        rw [List.getElem?_set_ne e]; exact backR_in hl h'
      | none => exact backR_in hl h'
theorem backR_out {ρ ρ' : Rho} {i : Nat} : ∀ {vs : List Nat}, i ∉ vs → (backR ρ ρ' vs)[i]? = ρ'[i]?
  | [], _ => rfl
  | v :: vs, h => by
    unfold backR
    have e : v ≠ i := fun e => h (by rw [e]; exact List.mem_cons_self)
    have h' : i ∉ vs := fun z => h (List.mem_cons_of_mem _ z)
    cases q : ρ[v]? with
    | some s =>
      show ((backR ρ ρ' vs).set v s)[i]? = ρ'[i]?
      rw [List.getElem?_set_ne e]; exact backR_out h'
    | none => exact backR_out h'
theorem wipe_in {σ : L2.St} {i : Nat} : ∀ {vs : List Nat}, i ∈ vs → i < σ.length → (wipe σ vs)[i]? = some none
  | [], h, _ => by cases h
  | v :: vs, h, hl => by
    unfold wipe
    by_cases e : v = i
    · subst e
      rw [List.getElem?_set_self (by rw [wipe_length]; exact hl)]
    · rw [List.getElem?_set_ne e]
      cases h with
      | head => exact absurd rfl e
      | tail _ h => exact wipe_in h hl
theorem wipe_eq {σ σ2 : L2.St} {ixs vs : List Nat} (h : OutOf ixs (wipe σ vs) σ2) (hs : ∀ i ∈ ixs, i ∈ vs) : wipe σ2 vs = wipe σ vs := by
  have hl : σ2.length = σ.length := h.1.trans (wipe_length σ vs)
  refine List.ext_getElem? fun i => ?_
  by_cases hi : i ∈ vs
  · by_cases hlt : i < σ.length
    · rw [wipe_in hi hlt, wipe_in hi (by rw [hl]; exact hlt)]
    · rw [List.getElem?_eq_none (by rw [wipe_length]; omega), List.getElem?_eq_none (by rw [wipe_length]; omega)]
  · rw [wipe_out hi, h.2 i fun z => hi (hs i z)]
section
variable {K : PySem.W.Frag} {F : Fx} {G G1 H H1 : Hp} {σ σ2 : L2.St} {ρ ρ2 : Rho}
theorem SI.undefV (I : SI K F G H σ ρ) (i : Nat) (v : Option V) : SI K F G H (σ.set i v) (ρ.set i .undef) := by
  refine ⟨I.gH, I.gt, I.g0, I.gn, I.h0, I.hn, I.w1, I.w2, I.w3, I.tb, by simp [I.len], fun j s ej => ?_, fun j k b ds1 ds2 e1 e2 s1 s2 => ?_, I.ht, I.w4⟩
  · by_cases hj : j = i
    · subst hj
      have hl : j < ρ.length := by
        have := (List.getElem?_eq_some_iff.mp ej).1
        simpa using this
      rw [List.getElem?_set_self hl] at ej
      cases ej
      trivial
    · rw [List.getElem?_set_ne (Ne.symm hj)] at ej ⊢
      exact I.sl j s ej
  · have nj : ∀ (k : Nat) (ds' : List D), (ρ.set i Slot.undef)[k]? = some (Slot.own ds') → k ≠ i := fun k ds' ek z => by
      subst z
      have hl : k < ρ.length := by
        have := (List.getElem?_eq_some_iff.mp ek).1
        simpa using this
      rw [List.getElem?_set_self hl] at ek
      cases ek
    have n1 := nj j _ e1
    have n2 := nj k _ e2
    rw [List.getElem?_set_ne (Ne.symm n1)] at e1 s1
    rw [List.getElem?_set_ne (Ne.symm n2)] at e2 s2
    exact I.dj j k b _ _ e1 e2 s1 s2
theorem SI.undef (I : SI K F G H σ ρ) (i : Nat) : SI K F G H (σ.set i none) (ρ.set i .undef) := I.undefV i none
theorem SI.wiped (I : SI K F G H σ ρ) : ∀ vs, SI K F G H (wipe σ vs) (wipeR ρ vs)
  | [] => I
  | v :: vs => (SI.wiped I vs).undef v
/-- back in the frame around a comprehension -/
theorem SI.back {vs : List Nat} {F1 : Fx} (I : SI K F1 G H σ ρ) (I2 : SI K F G1 H1 σ2 ρ2) (s : Sub G G1) (hc : calmS ρ vs = true) (hl : σ2.length = σ.length) (ho : ∀ j, j ∉ vs → σ2[j]? = σ[j]?) : SI K F G1 H1 σ (backR ρ ρ2 vs) := by
  have hlen : ρ.length = ρ2.length := by rw [I.len, I2.len, hl]
  have own_out : ∀ i (ds : List D), (backR ρ ρ2 vs)[i]? = some (.own ds) → i ∉ vs := fun i ds e z => by
    rw [backR_in hlen z] at e
    have := List.all_eq_true.mp hc i z
    rw [e] at this
    cases this
  refine ⟨I2.gH, I2.gt, I2.g0, I2.gn, I2.h0, I2.hn, I2.w1, I2.w2, I2.w3, I2.tb, by rw [backR_len, I2.len, hl], fun i t e => ?_, fun i j a ds es e1 e2 s1 s2 => ?_, I2.ht, I2.w4⟩
  · by_cases hi : i ∈ vs
    · rw [backR_in hlen hi] at e
      have c := List.all_eq_true.mp hc i hi
      rw [e] at c
      have x := I.sl i t e
      cases t with
      | undef => trivial
      | imm d => obtain ⟨v, h1, h2⟩ := x; exact ⟨v, h1, h2.mono s _ _⟩
      | own _ => cases c
      | io _ => cases c
      | scr _ _ => cases c
      | exc _ _ _ => cases c
    · rw [backR_out hi] at e
      rw [← ho i hi]
      exact I2.sl i t e
  · have h1 := own_out i _ e1
    have h2 := own_out j _ e2
    rw [backR_out h1] at e1
    rw [backR_out h2] at e2
    rw [← ho i h1] at s1
    rw [← ho j h2] at s2
    exact I2.dj i j a ds es e1 e2 s1 s2
/-! ### a list lent to the frame -/
def Fx.plus (F : Fx) (a : Addr) (vs : List V) : Fx := { F with H0 := upd F.H0 a (HO.lst vs) }
theorem SI.lend (I : SI K F G H σ ρ) {a : Addr} {vs : List V} (ha : H a = some (HO.lst vs)) (hg : G a = none) (hz : F.H0 a = none) (hs : ∀ (i : Nat) (es : List D), ρ[i]? = some (Slot.own es) → σ[i]? ≠ some (some (V.ref a))) : SI K (F.plus a vs) G H σ ρ := by
  refine ⟨I.gH, I.gt, I.g0, fun b o e => ?_, fun b o e h1 => ?_, fun b e => ?_, fun i b e => ?_, I.w2, I.w3, I.tb, I.len, fun i s e => ?_, I.dj, fun b ps e => ?_, I.w4⟩
  · have nb : b ≠ a := fun z => by subst z; rw [hg] at e; cases e
    rcases I.gn b o e with h | h
    · exact .inl h
    · exact .inr (by show upd F.H0 a _ b = none; rw [upd_ne nb]; exact h)
  · have e : upd F.H0 a (HO.lst vs) b = some o := e
    by_cases hb : b = a
    · subst hb; rw [upd_same] at e; cases e; exact ha
    · rw [upd_ne hb] at e; exact I.h0 b o e h1
  · have nb : b ≠ a := fun z => by subst z; rw [ha] at e; cases e
    show upd F.H0 a _ b = none
    rw [upd_ne nb]; exact I.hn b e
  · show upd F.H0 a _ b ≠ none
    by_cases hb : b = a
    · subst hb; rw [upd_same]; intro z; cases z
    · rw [upd_ne hb]; exact I.w1 i b e
  · have x := I.sl i s e
    cases s with
    | own ds =>
      obtain ⟨b, ws, h1, h2, h3, h4, h5⟩ := x
      have nb : b ≠ a := fun z => hs i ds e (by rw [h1, z])
      exact ⟨b, ws, h1, h2, h3, h4, by show upd F.H0 a _ b = none; rw [upd_ne nb]; exact h5⟩
    | _ => exact x
  · have e : upd F.H0 a (HO.lst vs) b = some (HO.tbl ps) := e
    by_cases hb : b = a
    · subst hb; rw [upd_same] at e; cases e
    · rw [upd_ne hb] at e; exact I.ht b ps e
theorem SI.unlend {a : Addr} {vs : List V} (I : SI K (F.plus a vs) G H σ ρ) (hz : F.H0 a = none) (hg : F.G0 a = none) (hw : ∀ i, F.w i ≠ some a) (hT : ∀ p ∈ F.T, p.1 ≠ a) : SI K F G H σ ρ ∧ H a = some (HO.lst vs) ∧ G a = none ∧ ∀ (i : Nat) (es : List D), ρ[i]? = some (Slot.own es) → σ[i]? ≠ some (some (V.ref a)) := by
  have ha : H a = some (HO.lst vs) := I.h0 a _ upd_same hw
  have pa : ∀ b, (F.plus a vs).H0 b = none → F.H0 b = none := fun b e => by
    by_cases hb : b = a
    · subst hb; exact hz
    · have e : upd F.H0 a (HO.lst vs) b = none := e
      rw [upd_ne hb] at e; exact e
  have ga : G a = none := by
    cases q : G a with
    | none => rfl
    | some o =>
      rcases I.gn a o q with h | h
      · have h : F.G0 a = some o := h
        rw [hg] at h; cases h
      · have h : upd F.H0 a (HO.lst vs) a = none := h
        rw [upd_same] at h; cases h
  refine ⟨⟨I.gH, I.gt, I.g0, fun b o e => ?_, fun b o e h1 => ?_, fun b e => pa b (I.hn b e), fun i b e => ?_, I.w2, I.w3, I.tb, I.len, fun i s e => ?_, I.dj, fun b ps e => ?_, I.w4⟩, ha, ga, fun i es e z => ?_⟩
  · rcases I.gn b o e with h | h
    · exact .inl h
    · exact .inr (pa b h)
  · refine I.h0 b o ?_ h1
    have nb : b ≠ a := fun z => by subst z; rw [hz] at e; cases e
    show upd F.H0 a _ b = some o
    rw [upd_ne nb]; exact e
  · intro z
    have h := I.w1 i b e
    have h : upd F.H0 a (HO.lst vs) b ≠ none := h
    have nb : b ≠ a := fun z => by subst z; exact hw i e
    rw [upd_ne nb] at h
    exact h z
  · have x := I.sl i s e
    cases s with
    | own ds =>
      obtain ⟨b, ws, h1, h2, h3, h4, h5⟩ := x
      exact ⟨b, ws, h1, h2, h3, h4, pa b h5⟩
    | _ => exact x
  · have nb : b ≠ a := fun z => by subst z; rw [hz] at e; cases e
    exact I.ht b ps (by show upd F.H0 a _ b = _; rw [upd_ne nb]; exact e)
  · obtain ⟨b, ws, h1, h2, h3, h4, h5⟩ := I.sl i _ e
    rw [z] at h1
    cases h1
    have h5 : upd F.H0 a (HO.lst vs) a = none := h5
    rw [upd_same] at h5
    cases h5
theorem SI.noTab (I : SI K F G H σ ρ) {a : Addr} {vs : List V} (ha : H a = some (HO.lst vs)) : ∀ p ∈ F.T, p.1 ≠ a := fun p hp z => by
  obtain ⟨ps, h1, _⟩ := I.tb p hp
  rw [z, ha] at h1
  cases h1
theorem SI.noW (I : SI K F G H σ ρ) {a : Addr} (hz : F.H0 a = none) : ∀ i, F.w i ≠ some a := fun i e => I.w1 i a e hz
theorem SI.updNew (I : SI K F G H σ ρ) {a : Addr} {ds es : List D} {ws : List V} (n : NewL K F G H σ ρ a ds) (r : Rs K G ws es) : SI K F G (upd H a (.lst ws)) σ ρ ∧ NewL K F G (upd H a (.lst ws)) σ ρ a es := by
  obtain ⟨⟨vs, hv, rv⟩, hg, hz, hs⟩ := n
  have kp : Kp H (upd H a (.lst ws)) := fun b o e n => by
    have nb : b ≠ a := fun z => by subst z; rw [hv] at e; cases e; exact n vs rfl
    rw [upd_ne nb]; exact e
  have nG : ∀ b o, G b = some o → b ≠ a := fun b o e z => by subst z; rw [hg] at e; cases e
  refine ⟨⟨fun b o e => by rw [upd_ne (nG b o e)]; exact I.gH b o e, I.gt, I.g0, I.gn, fun b o e h1 => ?_, fun b e => ?_, I.w1, I.w2, I.w3, tabs_kp I.tb kp, I.len, fun i s e => ?_, I.dj, I.ht, fun i b e => ?_⟩, ⟨⟨ws, upd_same, r⟩, hg, hz, hs⟩⟩
  · have nb : b ≠ a := fun z => by subst z; rw [hz] at e; cases e
    rw [upd_ne nb]; exact I.h0 b o e h1
  · by_cases hb : b = a
    · subst hb; exact hz
    · rw [upd_ne hb] at e; exact I.hn b e
  · have x := I.sl i s e
    cases s with
    | undef => trivial
    | imm d => exact x
    | own ds =>
      obtain ⟨b, us, h1, h2, h3, h4, h5⟩ := x
      have nb : b ≠ a := fun z => hs i ds e (by rw [h1, z])
      exact ⟨b, us, h1, by rw [upd_ne nb]; exact h2, h3, h4, h5⟩
    | io ds =>
      obtain ⟨b, us, h1, h2, h3, h4, h5⟩ := x
      have nb : b ≠ a := fun z => by subst z; exact I.w1 i b h5 hz
      exact ⟨b, us, h1, by rw [upd_ne nb]; exact h2, h3, h4, h5⟩
    | scr ns T =>
      obtain ⟨⟨b, h1, h2⟩, hT⟩ := x
      refine ⟨⟨b, h1, ?_⟩, hT⟩
      rcases h2 with (⟨o, h2⟩ | h2) | h2
      · have nb : b ≠ a := fun z => by subst z; rw [hv] at h2; cases h2
        exact .inl (.inl ⟨o, by rw [upd_ne nb]; exact h2⟩)
      · exact .inl (.inr h2)
      · exact .inr h2
    | exc b d fs =>
      refine ⟨x.1, x.2.keep (Sub.rfl' _) fun c us e => ?_⟩
      have nb : c ≠ a := fun z => by subst z; rw [hv] at e; cases e
      rw [upd_ne nb]; exact e
  · obtain ⟨us, h⟩ := I.w4 i b e
    have nb : b ≠ a := fun z => by subst z; exact I.w1 i b e hz
    exact ⟨us, by rw [upd_ne nb]; exact h⟩
end

/-! ### comprehensions -/
abbrev W0 : WX := fun _ _ _ _ => False
def JTs (X : Cx) (ifs : List Expr) (den : Rho → R Bool) : Prop := ∃ t, PTs X ifs t ∧ ∀ F, ROK X.K X.mg F W0 relT t den
def dYes (ρ : Rho) : R Bool := .ok true ρ
theorem jts_nil {X : Cx} : JTs X [] dYes := ⟨_, pts_nil, fun F G H σ ρ Q I p => p G H true I (Sub.rfl' G) rfl⟩
theorem jts_one {X : Cx} {c : Expr} {dc : Rho → R Bool} (h : JT X W0 c dc) : JTs X [c] dc := let ⟨t, ht, k⟩ := h; ⟨t, pts_one ht, k⟩
def dLcGo (vs : List Nat) (bind : Bd) (cond : Rho → R Bool) (elt : Rho → R D) : List D → Rho → List D → R (List D)
  | [], ρ, acc => .ok acc ρ
  | d :: ds, ρ, acc =>
    match bind d (wipeR ρ vs) with
    | none => .bad
    | some ρ1 =>
      match cond ρ1 with
      | .ok true ρ2 =>
        match elt ρ2 with
        | .ok y ρ3 => if acc.length < sizeLine then dLcGo vs bind cond elt ds (backR ρ ρ3 vs) (acc ++ [y]) else .bad
        | _ => .bad
      | .ok false ρ2 => dLcGo vs bind cond elt ds (backR ρ ρ2 vs) acc
      | _ => .bad
def dLc (vs : List Nat) (it : Rho → R (List D)) (bind : Bd) (cond : Rho → R Bool) (elt : Rho → R D) (ρ : Rho) : R (List D) := (it ρ).bind fun ds ρ1 => if calmS ρ1 vs = true then dLcGo vs bind cond elt ds ρ1 [] else .bad
theorem calmS_back {ρ ρ' : Rho} {vs : List Nat} (hl : ρ.length = ρ'.length) (h : calmS ρ vs = true) : calmS (backR ρ ρ' vs) vs = true := by
  refine List.all_eq_true.mpr fun i hi => ?_
  have := List.all_eq_true.mp h i hi
  rw [backR_in hl hi]
  exact this
section
variable {X : Cx} {W : WX} {elt tg iter : Expr} {ifs : List Expr} {scope : Scope} {own : List (Str × Nat)} {pos : Pos} {it : Rho → R (List D)} {ixs : List Nat} {bind : Bd} {cond : Rho → R Bool} {de : Rho → R D}
theorem lc_run {wi : TI} {g : TG} {tt : TT} {te : TE} {vs : List Nat}
    (ki : ∀ F G H σ ρ (Q : It → Hp → Prop), SI X.K F G H σ ρ → Post X.K X.mg F G σ W (fun F σ G H ρ J ds => IterG X.K G J ds) Q (it ρ) → wi σ H Q)
    (kg : ∀ F G H σ ρ v d ρ' (Q : L2.St → Hp → Prop), SI X.K F G H σ ρ → Rp X.K G v d → bind d ρ = some ρ' → (∀ σ', SI X.K F G H σ' ρ' → OutOf ixs σ σ' → Q σ' H) → g v σ H Q)
    (kt : ∀ F, ROK X.K X.mg F W0 relT tt cond) (ke : ∀ F, ROK X.K X.mg F W0 (relE X.K) te de) (hix : ∀ i ∈ ixs, i ∈ vs) (F : Fx) :
    ROK X.K X.mg F W (relN X.K) (tLc wi g tt te vs) (dLc vs it bind cond de) := by
  intro G H σ ρ Q I p
  refine ki F G H σ ρ _ I (p.bind fun ds ρ1 G1 H1 J I1 s1 r1 p1 => ?_)
  have p1 : Post X.K X.mg F G1 σ W (relN X.K) Q (if calmS ρ1 vs = true then dLcGo vs bind cond de ds ρ1 [] else .bad) := p1
  split at p1
  case isFalse => exact p1.elim
  rename_i hcalm
  intro A hA
  obtain ⟨Gd, Y, w, hGd, hY⟩ := r1
  obtain ⟨I2, n2⟩ := I1.newL hA (.nil : Rs X.K G1 [] [])
  refine lc_it w (fun i H' => ∃ G' ρ' acc, SI X.K F G' H' σ ρ' ∧ Sub G1 G' ∧ NewL X.K F G' H' σ ρ' A acc ∧ calmS ρ' vs = true ∧ Post X.K X.mg F G' σ W (relN X.K) Q (dLcGo vs bind cond de (ds.drop i) ρ' acc)) ⟨G1, ρ1, [], I2, Sub.rfl' _, n2, hcalm, p1⟩ (fun i H' _ ⟨G', ρ', _, I', s', _⟩ => hGd G' H' s' I'.gH) ?_ ?_
  · intro i x H' H2 hi ⟨G', ρ', acc, I', s', n', hc', p'⟩ y
    obtain ⟨d, hd⟩ : ∃ d, ds[i]? = some d := ⟨ds[i], List.getElem?_eq_getElem hi⟩
    have ed : ds.drop i = d :: ds.drop (i + 1) := by
      rw [List.drop_eq_getElem_cons hi]
      rw [List.getElem?_eq_getElem hi] at hd
      cases hd
      rfl
    rw [ed] at p'
    obtain ⟨⟨av, hv, rv⟩, hg, hz, hs⟩ := n'
    have I3 := I'.lend hv hg hz hs
    have hg0 : F.G0 A = none := by
      cases q : F.G0 A with
      | none => rfl
      | some o => rw [I'.g0 A o q] at hg; cases hg
    have hT := I'.noTab hv
    have hW := I'.noW hz
    obtain ⟨G2, I4, s4, r4⟩ := IterG.step I3 s' (hY i H' x H2 d hd y)
    have I5 := I4.wiped vs
    unfold dLcGo at p'
    split at p'
    · exact p'.elim
    rename_i ρ2 hb
    refine kg _ G2 H2 _ _ x d ρ2 _ I5 r4 hb fun σ2 I6 o6 => ⟨wipe_eq o6 hix, ?_⟩
    have hl2 : σ2.length = σ.length := o6.1.trans (wipe_length σ vs)
    have ho2 : ∀ j, j ∉ vs → σ2[j]? = σ[j]? := fun j hj => (o6.2 j fun z => hj (hix j z)).trans (wipe_out hj)
    have hlen : ∀ {G H ρ3}, SI X.K (F.plus A av) G H σ2 ρ3 → ρ'.length = ρ3.length := fun I => by rw [I'.len, I.len, hl2]
    have p' := Post.mono s4 p'
    refine kt _ G2 H2 σ2 ρ2 _ I6 ?_
    cases qc : cond ρ2 with
    | err _ _ => rw [qc] at p'; exact p'.elim
    | bad => rw [qc] at p'; exact p'.elim
    | ok b ρ3 =>
      intro G3 H3 b' I7 s7 eb
      obtain rfl : b' = b := eb
      cases b' with
      | false =>
        rw [qc] at p'
        rw [if_neg Bool.false_ne_true]
        have I8 := SI.back I' I7 (s4.tr s7) hc' hl2 ho2
        obtain ⟨I9, h9, g9, d9⟩ := I8.unlend hz hg0 hW hT
        exact ⟨G3, _, acc, I9, (s'.tr s4).tr s7, ⟨⟨av, h9, rv.mono (s4.tr s7) _ _⟩, g9, hz, d9⟩, calmS_back (hlen I7) hc', Post.mono s7 p'⟩
      | true =>
        rw [qc] at p'
        rw [if_pos rfl]
        refine ke _ G3 H3 σ2 ρ3 _ I7 ?_
        have p' := Post.mono s7 p'
        dsimp only at p'
        cases qe : de ρ3 with
        | err _ _ => rw [qe] at p'; exact p'.elim
        | bad => rw [qe] at p'; exact p'.elim
        | ok y ρ4 =>
          rw [qe] at p'
          intro G4 H4 v I8 s8 r8
          have I9 := SI.back I' I8 ((s4.tr s7).tr s8) hc' hl2 ho2
          obtain ⟨I10, h10, g10, d10⟩ := I9.unlend hz hg0 hW hT
          have rv' := rv.mono ((s4.tr s7).tr s8) _ _
          have p' : Post X.K X.mg F G3 σ W (relN X.K) Q (if acc.length < sizeLine then dLcGo vs bind cond de (ds.drop (i + 1)) (backR ρ' ρ4 vs) (acc ++ [y]) else .bad) := p'
          split at p'
          case isFalse => exact p'.elim
          rename_i hlt
          obtain ⟨I11, n11⟩ := I10.updNew ⟨⟨av, h10, rv'⟩, g10, hz, d10⟩ (rv'.app (.cons r8 .nil))
          exact ⟨av, h10, by rw [rv.length]; exact hlt, G4, _, _, I11, ((s'.tr s4).tr s7).tr s8, n11, calmS_back (hlen I8) hc', Post.mono s8 p'⟩
  · intro H' ⟨G', ρ', acc, I', s', n', hc', p'⟩
    rw [List.drop_length] at p'
    exact p' G' H' _ I' (Sub.rfl' _) ⟨A, rfl, n'⟩
/-- the contexts of a comprehension's own frame -/
structure Blk where
  s : Shared
  H : Hp
  C : Addr
  cl : List (Str × Addr)
  fp : List Addr
abbrev Blk.cx (X : Cx) (scope : Scope) (b : Blk) : Cx := X.blk b.s b.H scope (compEnvC scope b.cl b.C X.env) b.fp
/-- one g for all the contexts -/
theorem blk_jg (h : ∀ y : Blk, JG (y.cx X scope) tg ixs bind) : ∃ g, (∀ y : Blk, PG (y.cx X scope) tg g) ∧
    ∀ F G H σ ρ v d ρ' (Q : L2.St → Hp → Prop), SI X.K F G H σ ρ → Rp X.K G v d → bind d ρ = some ρ' → (∀ σ', SI X.K F G H σ' ρ' → OutOf ixs σ σ' → Q σ' H) → g v σ H Q := by
  refine ⟨fun v σ H Q => ∀ y : Blk, Classical.choose (h y) v σ H Q, fun y => ⟨fun pins s σ H v u Q I r hh => (Classical.choose_spec (h y)).1.run pins s σ H v u Q I r (hh y)⟩, fun F G H σ ρ v d ρ' Q I r eb k y => ?_⟩
  exact (Classical.choose_spec (h y)).2 F G H σ ρ v d ρ' Q I r eb k
theorem blk_je {e : Expr} {d : Rho → R D} (h : ∀ y : Blk, JE (y.cx X scope) W0 e d) : ∃ t, (∀ y : Blk, PE (y.cx X scope) e t) ∧ ∀ F, ROK X.K X.mg F W0 (relE X.K) t d := by
  refine ⟨fun σ H Q => ∀ y : Blk, Classical.choose (h y) σ H Q, fun y => ⟨fun pins s σ H Q I hh => (Classical.choose_spec (h y)).1.run pins s σ H Q I (hh y)⟩, fun F G H σ ρ Q I p y => ?_⟩
  exact (Classical.choose_spec (h y)).2 F G H σ ρ Q I p
theorem blk_jts {d : Rho → R Bool} (h : ∀ y : Blk, JTs (y.cx X scope) ifs d) : ∃ t, (∀ y : Blk, PTs (y.cx X scope) ifs t) ∧ ∀ F, ROK X.K X.mg F W0 relT t d := by
  refine ⟨fun σ H Q => ∀ y : Blk, Classical.choose (h y) σ H Q, fun y => ⟨fun pins s σ H Q I hh => (Classical.choose_spec (h y)).1.run pins s σ H Q I (hh y)⟩, fun F G H σ ρ Q I p y => ?_⟩
  exact (Classical.choose_spec (h y)).2 F G H σ ρ Q I p
theorem lc_parts (hg : ∀ b : Blk, JG (b.cx X scope) tg ixs bind) (ht : ∀ b : Blk, JTs (b.cx X scope) ifs cond) (he : ∀ b : Blk, JE (b.cx X scope) W0 elt de) :
    ∃ g tt te, (∀ b : Blk, PG (b.cx X scope) tg g) ∧ (∀ b : Blk, PTs (b.cx X scope) ifs tt) ∧ (∀ b : Blk, PE (b.cx X scope) elt te) ∧
      (∀ F G H σ ρ v d ρ' (Q : L2.St → Hp → Prop), SI X.K F G H σ ρ → Rp X.K G v d → bind d ρ = some ρ' → (∀ σ', SI X.K F G H σ' ρ' → OutOf ixs σ σ' → Q σ' H) → g v σ H Q) ∧
      (∀ F, ROK X.K X.mg F W0 relT tt cond) ∧ ∀ F, ROK X.K X.mg F W0 (relE X.K) te de := by
  obtain ⟨g, g1, g2⟩ := blk_jg hg
  obtain ⟨t, t1, t2⟩ := blk_jts ht
  obtain ⟨e, e1, e2⟩ := blk_je he
  exact ⟨g, t, e, g1, t1, e1, g2, t2, e2⟩
theorem jn_lc (hc : X.calm = true) (hN : X.N.Nodup) (hi : JI X W tg iter it) (ok : BlkOk X.N X.env.scope scope own) (hg : ∀ b : Blk, JG (b.cx X scope) tg ixs bind) (ht : ∀ b : Blk, JTs (b.cx X scope) ifs cond) (he : ∀ b : Blk, JE (b.cx X scope) W0 elt de)
    (hix : ∀ i ∈ ixs, i ∈ own.map (·.2) := by decide) (hs : ∀ x, foldedSetIterable iter X.env x = pure x := by intro _; rfl) : JN X W (.ListComp elt [⟨tg, iter, ifs, 0⟩] scope pos) (dLc (own.map (·.2)) it bind cond de) := by
  obtain ⟨wi, hi, ki⟩ := hi
  obtain ⟨g, tt, te, g1, t1, e1, g2, t2, e2⟩ := lc_parts hg ht he
  exact ⟨_, pe_lc hc hN hi ok (fun s H C cl fp => g1 ⟨s, H, C, cl, fp⟩) (fun s H C cl fp => t1 ⟨s, H, C, cl, fp⟩) (fun s H C cl fp => e1 ⟨s, H, C, cl, fp⟩) hs, lc_run ki g2 t2 e2 hix⟩
end
end Pf

/-! Pf11: defs and calls. -/
namespace Pf
open PySem PySem.Spec PyProof.Rows L2

inductive Res where
  | v (d : D)
  | n (ds : List D)
def relR (K : PySem.W.Frag) : Rel Res V := fun F σ G H ρ v r =>
  match r with
  | .v d => Rp K G v d
  | .n ds => ∃ a, v = V.ref a ∧ NewL K F G H σ ρ a ds

/-- what a def that denotes body promises -/
def spF (K : PySem.W.Frag) (mg : Str → Option Value) (n np : Nat) (body : Rho → Out) : Sp := fun vs H Q E =>
  ∃ (G : Hp) (w : Nat → Option Addr) (T : List (Addr × Str)) (ρ : Rho), vs.length = np ∧ SI K ⟨untab H, G, w, T⟩ G H (vs.map some ++ List.replicate (n - vs.length) none) ρ ∧
    SPost K mg ⟨untab H, G, w, T⟩ G (fun cls d _ H' => E cls d H') { nx := fun _ H' => Q .non H', rt := Q } (body ρ)
structure FnK (P : Program) (w : World) (K : PySem.W.Frag) (mg : Str → Option Value) (base : Heap) (x : Str) (k n np : Nat) (body : Rho → Out) : Prop where
  ex : ∃ (f : Addr) (fd : FuncData) (ps : List Str), FnOk P w K mg base (L2.CX P w) k f fd ps (spF K mg n np body) ∧ mg x = some (.ref f) ∧ PySem.W.keepIn K (.ref f) = true ∧ Binds K fd ps []
theorem fnF {P : Program} {w : World} {K : PySem.W.Frag} {mg : Str → Option Value} {base : Heap} {x qual : Str} {st : Stmt} {f : Addr} {fd : FuncData} {N ps : List Str} {k n np : Nat} {body : Rho → Out} (F : Fun K x qual st f fd) (S : FnScope N ps (defScope st)) (hn : N.length = n) (hp : ps.length = np)
    (hbody : ∀ (cdv : Value) (A : Around) (outer : List Env) (s : Shared) (H : Hp) (E : XK), Room k (A.deeper (envOfC qual (defScope st) s.heap.objs.size f cdv)) →
      JSs (cxOf (L2.CX P w) P w K mg base N qual (defScope st) f cdv A outer s H E) (fun cls d _ H' => E cls d H') (defBody st) body) : FnOk P w K mg base (L2.CX P w) (k + 1) f fd ps (spF K mg n np body) := by
  refine F.okX S (fun vs H Q E h => ?_) fun cdv A outer s H vs Q E hr h => ?_
  · obtain ⟨G, w', T, ρ, h1, _⟩ := h
    rw [h1, hp]
  · obtain ⟨G, w', T, ρ, h1, I, p⟩ := h
    obtain ⟨t, ht, kt⟩ := hbody cdv A outer s H E hr
    refine ⟨t, ht, kt ⟨untab H, G, w', T⟩ G H _ ρ _ ?_ p⟩
    unfold L2.start
    rw [hn]
    exact I

/-! ### the callee's slots at its entry -/
def AllSl (K : PySem.W.Frag) (F : Fx) (G H : Hp) : Nat → List Slot → List (Option V) → Prop
  | _, [], [] => True
  | k, s :: r, v :: q => SlOk K F G H k (some v) s ∧ AllSl K F G H (k + 1) r q
  | _, _, _ => False
theorem AllSl.get {K : PySem.W.Frag} {F : Fx} {G H : Hp} : ∀ {k : Nat} {r : List Slot} {q : List (Option V)}, AllSl K F G H k r q → ∀ (i : Nat) (s : Slot), r[i]? = some s → SlOk K F G H (k + i) (q[i]?) s
  | _, [], [], _, i, s, e => by simp at e
  | k, s0 :: r, v :: q, h, 0, s, e => by simp at e; subst e; exact h.1
  | k, s0 :: r, v :: q, h, i + 1, s, e => by
    have := AllSl.get h.2 i s (by simpa using e)
    have e2 : k + 1 + i = k + (i + 1) := by omega
    rw [e2] at this
    simpa using this
theorem AllSl.len {K : PySem.W.Frag} {F : Fx} {G H : Hp} : ∀ {k : Nat} {r : List Slot} {q : List (Option V)}, AllSl K F G H k r q → r.length = q.length
  | _, [], [], _ => rfl
  | _, _ :: _, _ :: _, h => by simp [AllSl.len h.2]
theorem AllSl.app {K : PySem.W.Frag} {F : Fx} {G H : Hp} : ∀ {k : Nat} {r r2 : List Slot} {q q2 : List (Option V)}, AllSl K F G H k r q → AllSl K F G H (k + r.length) r2 q2 → AllSl K F G H k (r ++ r2) (q ++ q2)
  | _, [], _, [], _, _, h2 => h2
  | k, s :: r, r2, v :: q, q2, h, h2 => ⟨h.1, AllSl.app h.2 (by
      have e2 : k + (s :: r).length = k + 1 + r.length := by simp; omega
      rw [e2] at h2
      exact h2)⟩
theorem AllSl.imms {K : PySem.W.Frag} {F : Fx} {G H : Hp} : ∀ {k : Nat} {vs : List V} {ds : List D}, Rs K G vs ds → AllSl K F G H k (ds.map .imm) (vs.map some)
  | _, _, _, .nil => True.intro
  | _, _, _, .cons r rr => ⟨⟨_, rfl, r⟩, AllSl.imms rr⟩
theorem AllSl.und {K : PySem.W.Frag} {F : Fx} {G H : Hp} : ∀ {k : Nat} (m : Nat), AllSl K F G H k (List.replicate m .undef) (List.replicate m none)
  | _, 0 => True.intro
  | _, m + 1 => ⟨True.intro, AllSl.und m⟩

/-! ### a call, by slots -/
/-- a parameter that the callee may change: none, or the list of the caller's slot i -/
def headS : Option Nat → Rho → Option (List Slot)
  | none, _ => some []
  | some i, ρ => (ρ.lst? i).map fun ds => [.io ds]
def backH : Option Nat → Rho → Rho → Option Rho
  | none, _, ρ => some ρ
  | some i, ρ', ρ => match List.head? ρ' with
    | some (Slot.io ds) => some (ρ.put i ds)
    | _ => none
def endsC (hd : Option Nat) (ρ : Rho) : Out → R Res
  | .next ρ' => match backH hd ρ' ρ with
    | some ρ2 => .ok (.v .none) ρ2
    | none => .bad
  | .ret d ρ' => match backH hd ρ' ρ with
    | some ρ2 => .ok (.v d) ρ2
    | none => .bad
  | .retN ds ρ' => match backH hd ρ' ρ with
    | some ρ2 => .ok (.n ds) ρ2
    | none => .bad
  | .err x ρ' => match backH hd ρ' ρ with
    | some ρ2 => .err x ρ2
    | none => .bad
  | _ => .bad
def callD (n : Nat) (body : Rho → Out) (hd : Option Nat) (ds : List D) (ρ : Rho) : R Res :=
  match headS hd ρ with
  | none => .bad
  | some hs => endsC hd ρ (body (hs ++ ds.map .imm ++ List.replicate (n - (hs.length + ds.length)) .undef))
section
variable {K : PySem.W.Frag} {mg : Str → Option Value} {F : Fx} {G H : Hp} {σ : L2.St} {ρ : Rho} {W : WX}
theorem untab_at {a : Addr} {o : HO} (h : H a = some o) (n : ∀ ps, o ≠ HO.tbl ps) : untab H a = some o := by
  unfold untab
  rw [h]
  cases o <;> first | rfl | exact absurd rfl (n _)
theorem at_untab {a : Addr} {o : HO} (h : untab H a = some o) : H a = some o ∧ ∀ ps, o ≠ HO.tbl ps := by
  unfold untab at h
  cases q : H a with
  | none => rw [q] at h; cases h
  | some u =>
    rw [q] at h
    cases u <;> first | (cases h; exact ⟨rfl, fun _ z => by cases z⟩) | cases h
theorem untab_none {a : Addr} (h : H a = none) : untab H a = none := by
  unfold untab
  rw [h]
theorem SI.un0 (I : SI K F G H σ ρ) {a : Addr} (h : untab H a = none) : F.H0 a = none := by
  cases q : F.H0 a with
  | none => rfl
  | some o =>
    have nt : ∀ ps, o ≠ HO.tbl ps := fun ps z => I.ht a ps (by rw [q, z])
    by_cases hw : ∃ i, F.w i = some a
    · obtain ⟨i, hw⟩ := hw
      obtain ⟨vs, e⟩ := I.w4 i a hw
      rw [untab_at e (fun _ z => by cases z)] at h; cases h
    · rw [untab_at (I.h0 a o q (fun i z => hw ⟨i, z⟩)) nt] at h; cases h
/-- the state behind a call -/
theorem SI.after (I : SI K F G H σ ρ) {hd : Option Nat} {a0 : Addr} {ds0 : List D} (hm : ∀ i, hd = some i → MutAt K F G H σ ρ i a0 ds0) {w : Nat → Option Addr} (hw : ∀ k a, w k = some a → hd ≠ none ∧ k = 0 ∧ a = a0)
    {G' H' : Hp} {σ' : L2.St} {ρ' ρ2 : Rho} (I' : SI K ⟨untab H, G, w, F.T⟩ G' H' σ' ρ') (hb : backH hd ρ' ρ = some ρ2) : SI K F G' H' σ ρ2 := by
  have nw : ∀ b, (∀ i, hd = some i → b ≠ a0) → ∀ k, w k ≠ some b := fun b h k e => by
    obtain ⟨h1, _, h3⟩ := hw k b e
    cases q : hd with
    | none => exact h1 q
    | some i => exact h i q h3
  have stay : ∀ b o, H b = some o → (∀ i, hd = some i → b ≠ a0) → (∀ ps, o ≠ HO.tbl ps) → H' b = some o := fun b o e h hT => I'.h0 b o (untab_at e hT) (nw b h)
  have lstT : ∀ (b : Addr) vs, H b = some (HO.lst vs) → ∀ ps, HO.lst vs ≠ HO.tbl ps := fun b vs e ps z => by cases z
  have gnone : ∀ b, G b = none → (∃ vs, H b = some (HO.lst vs)) → G' b = none := fun b e h => by
    cases q : G' b with
    | none => rfl
    | some o =>
      rcases I'.gn b o q with z | z
      · have z : G b = some o := z
        rw [e] at z; cases z
      · obtain ⟨vs, h⟩ := h
        have z : untab H b = none := z
        rw [untab_at h (fun _ z => by cases z)] at z; cases z
  have base : ∀ {ρ3 : Rho}, ρ3.length = ρ.length → (∀ (i : Nat) (s : Slot), ρ3[i]? = some s → SlOk K F G' H' i (σ[i]?) s) → (∀ (i : Nat) (ds : List D), ρ3[i]? = some (Slot.own ds) → ∃ es, ρ[i]? = some (Slot.own es)) → (∀ i, hd = some i → ∃ vs, H' a0 = some (HO.lst vs)) → SI K F G' H' σ ρ3 := fun {ρ3} hl hs ho hlst => by
    refine ⟨I'.gH, I'.gt, I.g0.tr I'.g0, fun b o e => ?_, fun b o e h1 => ?_, fun b e => I.un0 (I'.hn b e), I.w1, I.w2, I.w3, I'.tb, hl.trans I.len, hs, fun i j b ds es e1 e2 s1 s2 => ?_, I.ht, fun i b e => ?_⟩
    · rcases I'.gn b o e with z | z
      · exact I.gn b o z
      · exact .inr (I.un0 z)
    · refine stay b o (I.h0 b o e h1) (fun i q z => ?_) (fun ps z => I.ht b ps (by rw [e, z]))
      obtain ⟨m1, _, _, m4⟩ := hm i q
      rcases m4 with ⟨_, m5⟩ | ⟨_, m5⟩
      · rw [z, m5] at e; cases e
      · exact h1 i (by rw [z]; exact m5)
    · obtain ⟨_, f1⟩ := ho i ds e1
      obtain ⟨_, f2⟩ := ho j es e2
      exact I.dj i j b _ _ f1 f2 s1 s2
    · obtain ⟨vs, h⟩ := I.w4 i b e
      by_cases hb : ∃ i, hd = some i ∧ b = a0
      · obtain ⟨i', h1, h2⟩ := hb
        rw [h2]; exact hlst i' h1
      · exact ⟨vs, stay b _ h (fun i' q z => hb ⟨i', q, z⟩) (lstT b vs h)⟩
  have other : ∀ (j : Nat) (s : Slot), ρ[j]? = some s → (∀ i, hd = some i → j ≠ i) → SlOk K F G' H' j (σ[j]?) s := fun j s e hj => by
    have x := I.sl j s e
    cases s with
    | undef => trivial
    | imm d => obtain ⟨v, h1, h2⟩ := x; exact ⟨v, h1, h2.mono I'.g0 _ _⟩
    | own ds =>
      obtain ⟨a, vs, h1, h2, h3, h4, h5⟩ := x
      have na : ∀ i, hd = some i → a ≠ a0 := fun i q z => by
        subst z
        exact hj i q (I.apart (⟨h1, ⟨vs, h2, h4⟩, h3, .inl ⟨e, h5⟩⟩ : MutAt K F G H σ ρ j a ds) (hm i q))
      exact ⟨a, vs, h1, stay a _ h2 na (lstT a vs h2), gnone a h3 ⟨vs, h2⟩, h4.mono I'.g0 _ _, h5⟩
    | io ds =>
      obtain ⟨a, vs, h1, h2, h3, h4, h5⟩ := x
      have na : ∀ i, hd = some i → a ≠ a0 := fun i q z => by
        subst z
        exact hj i q (I.apart (⟨h1, ⟨vs, h2, h4⟩, h3, .inr ⟨e, h5⟩⟩ : MutAt K F G H σ ρ j a ds) (hm i q))
      exact ⟨a, vs, h1, stay a _ h2 na (lstT a vs h2), gnone a h3 ⟨vs, h2⟩, h4.mono I'.g0 _ _, h5⟩
    | scr ns T =>
      obtain ⟨⟨a, h1, h2⟩, hT⟩ := x
      refine ⟨⟨a, h1, ?_⟩, hT⟩
      rcases h2 with (⟨o, h2⟩ | h2) | h2
      · refine .inl (.inl ⟨o, stay a _ h2 (fun i q z => ?_) fun ps z => (by cases z)⟩)
        obtain ⟨_, ⟨vs, m2, _⟩, _⟩ := hm i q
        rw [z, m2] at h2; cases h2
      · exact .inl (.inr h2)
      · exact .inr (I'.g0 _ _ h2)
    | exc b d fs =>
      refine ⟨x.1, x.2.keep I'.g0 fun c us h2 => ?_⟩
      refine stay c _ h2 (fun i q z => ?_) fun ps z => (by cases z)
      obtain ⟨_, ⟨vs, m2, _⟩, _⟩ := hm i q
      rw [z, m2] at h2; cases h2
  cases q : hd with
  | none =>
    rw [q] at hb
    cases hb
    exact base rfl (fun j s e => other j s e fun i z => by rw [q] at z; cases z) (fun i ds e => ⟨ds, e⟩) (fun i z => by rw [q] at z; cases z)
  | some i =>
    rw [q] at hb
    unfold backH at hb
    dsimp only at hb
    split at hb
    · rename_i ds e0
      rw [List.head?_eq_getElem?] at e0
      cases hb
      obtain ⟨m1, m2, m3, m4⟩ := hm i q
      obtain ⟨a', vs, h1, h2, h3, h4, h5⟩ := I'.sl 0 _ e0
      obtain ⟨_, _, rfl⟩ := hw 0 a' h5
      have hi : i < ρ.length := by
        rcases m4 with ⟨e, _⟩ | ⟨e, _⟩ <;> exact (List.getElem?_eq_some_iff.mp e).1
      refine base (put_length _ _ _) (fun j s e => ?_) (fun j es e => ?_) (fun _ _ => ⟨vs, h2⟩)
      · by_cases hj : j = i
        · subst hj
          unfold Rho.put at e
          rcases m4 with ⟨m5, m6⟩ | ⟨m5, m6⟩
          · rw [m5] at e
            dsimp only at e
            rw [List.getElem?_set_self hi] at e
            cases e
            exact ⟨a', vs, m1, h2, h3, h4, m6⟩
          · rw [m5] at e
            dsimp only at e
            rw [List.getElem?_set_self hi] at e
            cases e
            exact ⟨a', vs, m1, h2, h3, h4, m6⟩
        · have e' : ρ[j]? = some s := by
            unfold Rho.put at e
            split at e
            · rw [List.getElem?_set_ne (Ne.symm hj)] at e; exact e
            · rw [List.getElem?_set_ne (Ne.symm hj)] at e; exact e
            · exact e
          exact other j s e' fun i' z => by rw [q] at z; cases z; exact hj
      · by_cases hj : j = i
        · subst hj
          rcases m4 with ⟨m5, m6⟩ | ⟨m5, m6⟩
          · exact ⟨_, m5⟩
          · unfold Rho.put at e
            rw [m5] at e
            dsimp only at e
            rw [List.getElem?_set_self hi] at e
            cases e
        · unfold Rho.put at e
          split at e
          · rw [List.getElem?_set_ne (Ne.symm hj)] at e; exact ⟨_, e⟩
          · rw [List.getElem?_set_ne (Ne.symm hj)] at e; exact ⟨_, e⟩
          · exact ⟨_, e⟩
    · cases hb
/-- the callee's promise from the caller's wish -/
theorem call_spec (I : SI K F G H σ ρ) {n np : Nat} {body : Rho → Out} {hd : Option Nat} {hv ws : List V} {ds : List D} {Q : VK} (hh : (hd = none ∧ hv = []) ∨ ∃ i v0, hd = some i ∧ hv = [v0] ∧ σ[i]? = some (some v0)) (r : Rs K G ws ds) (hl : hv.length + ws.length = np)
    (hn : np ≤ n) (p : Post K mg F G σ W (relR K) Q (callD n body hd ds ρ)) : spF K mg n np body (hv ++ ws) H Q (WE W σ) := by
  unfold callD at p
  split at p
  · exact p.elim
  rename_i hs ehs
  -- the head's address and list
  obtain ⟨a0, ds0, w, hm, hw, hhead⟩ : ∃ (a0 : Addr) (ds0 : List D) (w : Nat → Option Addr), (∀ i, hd = some i → MutAt K F G H σ ρ i a0 ds0) ∧ (∀ k a, w k = some a → hd ≠ none ∧ k = 0 ∧ a = a0) ∧
      AllSl K ⟨untab H, G, w, F.T⟩ G H 0 hs (hv.map some) := by
    rcases hh with ⟨e1, e2⟩ | ⟨i, v0, e1, e2, e3⟩
    · subst e1 e2
      cases ehs
      exact ⟨0, [], fun _ => none, fun i z => (by cases z), fun k a z => (by cases z), True.intro⟩
    · subst e1 e2
      unfold headS at ehs
      dsimp only at ehs
      cases q : ρ.lst? i with
      | none => rw [q] at ehs; cases ehs
      | some ds0 =>
        rw [q] at ehs
        cases ehs
        obtain ⟨a0, m⟩ := I.at_ q
        obtain ⟨m1, ⟨vs, m2, m3⟩, m4, _⟩ := id m
        rw [e3] at m1
        cases m1
        refine ⟨a0, ds0, fun k => if k = 0 then some a0 else none, fun i' z => (by cases z; exact m), fun k a z => ?_, ⟨⟨a0, vs, rfl, m2, m4, m3, rfl⟩, True.intro⟩⟩
        have z : (if k = 0 then some a0 else none) = some a := z
        split at z
        · rename_i hk; cases z; exact ⟨fun z => (by cases z), hk, rfl⟩
        · cases z
  have hhl : hs.length = hv.length := by have := hhead.len; simpa using this
  have hall : AllSl K ⟨untab H, G, w, F.T⟩ G H 0 (hs ++ ds.map .imm ++ List.replicate (n - (hs.length + ds.length)) .undef) ((hv ++ ws).map some ++ List.replicate (n - (hv ++ ws).length) none) := by
    rw [List.map_append]
    have e : n - (hs.length + ds.length) = n - (hv ++ ws).length := by rw [List.length_append, hhl, r.length]
    rw [e]
    exact (hhead.app (AllSl.imms r)).app (AllSl.und _)
  have I0 : SI K ⟨untab H, G, w, F.T⟩ G H ((hv ++ ws).map some ++ List.replicate (n - (hv ++ ws).length) none) (hs ++ ds.map .imm ++ List.replicate (n - (hs.length + ds.length)) .undef) := by
    refine ⟨I.gH, I.gt, Sub.rfl' _, fun a o e => .inl e, fun a o e _ => (at_untab e).1, fun a e => untab_none e, fun k a e => ?_, fun k a e => ?_, fun k l a e1 e2 => ?_, I.tb, hall.len, fun i s e => by have := hall.get i s e; rw [Nat.zero_add] at this; exact this, fun i j a d1 d2 e1 e2 s1 s2 => ?_, fun a ps e => (at_untab e).2 ps rfl, fun k a e => ?_⟩
    · obtain ⟨h1, _, h3⟩ := hw k a e
      cases q : hd with
      | none => exact absurd q h1
      | some i =>
        obtain ⟨_, ⟨vs, m2, _⟩, _⟩ := hm i q
        show untab H a ≠ none
        rw [h3, untab_at m2 (fun _ z => by cases z)]; intro z; cases z
    · obtain ⟨h1, _, h3⟩ := hw k a e
      cases q : hd with
      | none => exact absurd q h1
      | some i =>
        obtain ⟨_, _, m3, _⟩ := hm i q
        show G a = none
        rw [h3]; exact m3
    · exact (hw k a e1).2.1.trans (hw l a e2).2.1.symm
    · exfalso
      have x := hall.get i _ e1
      obtain ⟨b, vs, x1, x2, x3, x4, x5⟩ := x
      have x5 : untab H b = none := x5
      rw [untab_at x2 (fun _ z => by cases z)] at x5; cases x5
    · obtain ⟨h1, _, h3⟩ := hw k a e
      cases q : hd with
      | none => exact absurd q h1
      | some i =>
        obtain ⟨_, ⟨vs, m2, _⟩, _⟩ := hm i q
        exact ⟨vs, by rw [h3]; exact m2⟩
  refine ⟨G, w, F.T, _, by rw [List.length_append]; exact hl, I0, ?_⟩
  cases qo : body (hs ++ ds.map .imm ++ List.replicate (n - (hs.length + ds.length)) .undef) with
  | next ρ' =>
    rw [qo] at p
    unfold endsC at p
    dsimp only at p
    split at p
    · rename_i ρ2 hb
      intro G' H' σ' I' s'
      exact p G' H' _ (I.after hm hw I' hb) s' .n
    · exact p.elim
  | ret d ρ' =>
    rw [qo] at p
    unfold endsC at p
    dsimp only at p
    split at p
    · rename_i ρ2 hb
      intro G' H' σ' v I' s' r'
      exact p G' H' _ (I.after hm hw I' hb) s' r'
    · exact p.elim
  | retN d ρ' =>
    rw [qo] at p
    unfold endsC at p
    dsimp only at p
    split at p
    · rename_i ρ2 hb
      intro G' H' σ' a vs I' s' h1 h2 h3 h4
      have I2 := I.after hm hw I' hb
      have h3 : untab H a = none := h3
      refine p G' H' _ I2 s' ⟨a, rfl, ⟨vs, h1, h4⟩, h2, I.un0 h3, fun i es e z => ?_⟩
      obtain ⟨b, us, k1, k2, k3, k4, k5⟩ := I2.sl i _ e
      rw [z] at k1
      cases k1
      -- an own slot's list lay in the heap ahead of the call
      have : ∃ es', ρ[i]? = some (.own es') := by
        cases q : hd with
        | none => rw [q] at hb; cases hb; exact ⟨es, e⟩
        | some j =>
          rw [q] at hb
          unfold backH at hb
          dsimp only at hb
          split at hb
          · cases hb
            unfold Rho.put at e
            split at e
            · rename_i es' e'
              by_cases hj : j = i
              · subst hj; exact ⟨_, e'⟩
              · rw [List.getElem?_set_ne hj] at e; exact ⟨_, e⟩
            · rename_i es' e'
              by_cases hj : j = i
              · subst hj
                rw [List.getElem?_set_self (List.getElem?_eq_some_iff.mp e').1] at e
                cases e
              · rw [List.getElem?_set_ne hj] at e; exact ⟨_, e⟩
            · exact ⟨_, e⟩
          · cases hb
      obtain ⟨es', e'⟩ := this
      obtain ⟨b', us', l1, l2, _⟩ := I.sl i _ e'
      rw [z] at l1
      cases l1
      rw [untab_at l2 (fun _ z => by cases z)] at h3
      cases h3
    · exact p.elim
  | err x ρ' =>
    rw [qo] at p
    unfold endsC at p
    dsimp only at p
    split at p
    · rename_i ρ2 hb
      intro G' H' σ' cls dd I' s' ex
      exact p G' H' cls dd (I.after hm hw I' hb) s' ex
    · exact p.elim
  | brk ρ' => rw [qo] at p; exact p.elim
  | cont ρ' => rw [qo] at p; exact p.elim
  | bad => rw [qo] at p; exact p.elim
end
end Pf

/-! Pf12: calls as expressions. -/
namespace Pf
open PySem PySem.Spec PyProof.Rows L2

def JR (X : Cx) (W : WX) (e : Expr) (den : Rho → R Res) : Prop := ∃ t, PE X e t ∧ ∀ F, ROK X.K X.mg F W (relR X.K) t den
def dVal (r : Rho → R Res) (ρ : Rho) : R D := (r ρ).bind fun x ρ1 =>
  match x with
  | .v d => .ok d ρ1
  | .n ds => .ok (.list ds) ρ1
def dNew (r : Rho → R Res) (ρ : Rho) : R (List D) := (r ρ).bind fun x ρ1 =>
  match x with
  | .v _ => .bad
  | .n ds => .ok ds ρ1
def dCallV (n : Nat) (body : Rho → Out) (dl : Rho → R (List D)) (ρ : Rho) : R Res := (dl ρ).bind fun ds ρ1 => callD n body none ds ρ1
def dCallH (n : Nat) (body : Rho → Out) (i : Nat) (dl : Rho → R (List D)) (ρ : Rho) : R Res :=
  match ρ.lst? i with
  | none => .bad
  | some _ => (dl ρ).bind fun ds ρ1 => callD n body (some i) ds ρ1
def dCall0 (n : Nat) (body : Rho → Out) (ρ : Rho) : R Res := callD n body none [] ρ
def dCallS (n : Nat) (body : Rho → Out) (i : Nat) (ρ : Rho) : R Res :=
  match ρ[i]? with
  | some (.scr ns _) => endsC none ρ (body (.scr ns [] :: List.replicate (n - 1) .undef))
  | _ => .bad
section
variable {X : Cx} {W : WX} {e : Expr} {es : List Expr} {den : Rho → R Res} {dl : Rho → R (List D)} {pos p1 p2 : Pos} {x y : Str} {k n np : Nat} {body : Rho → Out}
theorem je_res (h : JR X W e den) : JE X W e (dVal den) := by
  obtain ⟨t, ht, kt⟩ := h
  refine ⟨t, ht, fun F G H σ ρ Q I p => kt F G H σ ρ Q I (p.bind fun r ρ1 G1 H1 v I1 s1 r1 p1 => ?_)⟩
  cases r with
  | v d => exact p1 G1 H1 v I1 (Sub.rfl' _) r1
  | n ds =>
    obtain ⟨a, rfl, nl⟩ := r1
    obtain ⟨G2, I2, s2, r2⟩ := I1.freeze nl
    exact p1 G2 H1 _ I2 s2 r2
theorem jn_res (h : JR X W e den) : JN X W e (dNew den) := by
  obtain ⟨t, ht, kt⟩ := h
  refine ⟨t, ht, fun F G H σ ρ Q I p => kt F G H σ ρ Q I (p.bind fun r ρ1 G1 H1 v I1 s1 r1 p1 => ?_)⟩
  cases r with
  | v d => exact p1.elim
  | n ds => exact p1 G1 H1 v I1 (Sub.rfl' _) r1
theorem jr_call (hF : FnK X.prog X.w X.K X.mg X.base x k n np body) (hr : Room k X.A) (hg : Gl X x) (tk : Takes X W) (ha : JL X W (e :: es) dl) (hl : (e :: es).length = np := by rfl) (hn : np ≤ n := by decide)
    (hdb : (x == ("__debug__" : Str)) = false := by decide) (he : starEach (e :: es) X.env = (false, eval e X.env) :: starEach es X.env := by rfl) (hpl : (backTo pos (starEach es X.env)).any (·.1) = false := by rfl) : JR X W (.Call (.Name x p1) (e :: es) [] pos) (dCallV n body dl) := by
  obtain ⟨f, fd, ps, F, hm, hk, hb⟩ := hF.ex
  obtain ⟨t, ht, kt⟩ := ha
  refine ⟨_, pe_callS F hr hg hm hk hb (passAt tk) ht hdb he hpl, fun Fx G H σ ρ Q I p => kt Fx G H σ ρ _ I (p.bind fun ds ρ1 G1 H1 vs I1 s1 r1 p1 => ?_)⟩
  exact call_spec I1 (hv := []) (hd := none) (.inl ⟨rfl, rfl⟩) r1.1 (by rw [List.length_nil, Nat.zero_add, r1.2]; exact hl) hn p1
theorem jr_callH (i : Nat) (hF : FnK X.prog X.w X.K X.mg X.base x k n np body) (hr : Room k X.A) (hg : Gl X x) (tk : Takes X W) (ha : JL X W es dl) (hl : es.length + 1 = np := by rfl) (hn : np ≤ n := by decide) (hN : X.N[i]? = some y := by rfl)
    (hv : Vis X.env.scope y := by first | exact Or.inl rfl | exact Or.inr (Or.inl rfl) | exact Or.inr (Or.inr rfl)) (hd : (y == ("__debug__" : Str)) = false := by decide) (hcd : (y == ("__classdict__" : Str)) = false := by decide)
    (hdb : (x == ("__debug__" : Str)) = false := by decide) (he : starEach (.Name y p2 :: es) X.env = (false, eval (.Name y p2) X.env) :: starEach es X.env := by rfl) (hpl : (backTo pos (starEach es X.env)).any (·.1) = false := by rfl) :
    JR X W (.Call (.Name x p1) (.Name y p2 :: es) [] pos) (dCallH n body i dl) := by
  obtain ⟨f, fd, ps, F, hm, hk, hb⟩ := hF.ex
  obtain ⟨t, ht, kt⟩ := ha
  refine ⟨_, pe_callS F hr hg hm hk hb (passAt tk) (pa_cons (pe_var (i := i) hN hv hd hcd) ht he) hdb he hpl, fun Fx G H σ ρ Q I p => ?_⟩
  unfold dCallH at p
  split at p
  · exact p.elim
  rename_i ds0 e0
  obtain ⟨a0, m1, _⟩ := I.at_ e0
  refine ⟨_, m1, kt Fx G H σ ρ _ I (p.bind fun ds ρ1 G1 H1 vs I1 s1 r1 p1 => ?_)⟩
  exact call_spec I1 (hv := [V.ref a0]) (hd := some i) (.inr ⟨i, _, rfl, rfl, m1⟩) r1.1 (by rw [r1.2]; show 1 + es.length = np; omega) hn p1
theorem pe_callS0 {f : Addr} {fd : FuncData} {ps : List Str} {sp : Sp} {CX : CXT} {E : L2.St → XK} (F : FnOk X.prog X.w X.K X.mg X.base CX k f fd ps sp) (hr : Room k X.A) (hg : Gl X x) (hm : X.mg x = some (.ref f)) (hk : PySem.W.keepIn X.K (.ref f) = true) (hb : Binds X.K fd ps []) (hx : ∀ σ, PassesAt CX X σ (E σ))
    (hdb : (x == ("__debug__" : Str)) = false := by decide) : PE X (.Call (.Name x p1) [] [] pos) (tCallS sp E tNil) := by
  refine ⟨fun pins s σ H Q I h => ?_⟩
  refine wpAny_Call_Name_kw (ld_glob I hg hm ?_ hdb)
  exact PySem.W.callWith_K0 I.kIn hk (run_fnS (us := []) F hr hb (hx σ) I .nil h)
theorem jr_call0 (hF : FnK X.prog X.w X.K X.mg X.base x k n 0 body) (hr : Room k X.A) (hg : Gl X x) (tk : Takes X W) (hdb : (x == ("__debug__" : Str)) = false := by decide) : JR X W (.Call (.Name x p1) [] [] pos) (dCall0 n body) := by
  obtain ⟨f, fd, ps, F, hm, hk, hb⟩ := hF.ex
  refine ⟨_, pe_callS0 F hr hg hm hk hb (passAt tk) hdb, fun Fx G H σ ρ Q I p => ?_⟩
  exact call_spec I (hv := []) (ws := []) (hd := none) (.inl ⟨rfl, rfl⟩) .nil rfl (Nat.zero_le _) p
theorem jr_callScr (i : Nat) (hF : FnK X.prog X.w X.K X.mg X.base x k n 1 body) (hr : Room k X.A) (hg : Gl X x) (tk : Takes X W) (hn : 1 ≤ n := by decide) (hN : X.N[i]? = some y := by rfl)
    (hv : Vis X.env.scope y := by first | exact Or.inl rfl | exact Or.inr (Or.inl rfl) | exact Or.inr (Or.inr rfl)) (hd : (y == ("__debug__" : Str)) = false := by decide) (hcd : (y == ("__classdict__" : Str)) = false := by decide)
    (hdb : (x == ("__debug__" : Str)) = false := by decide) (he : starEach [.Name y p2] X.env = (false, eval (.Name y p2) X.env) :: starEach [] X.env := by rfl) (hpl : (backTo pos (starEach [] X.env)).any (·.1) = false := by rfl) :
    JR X W (.Call (.Name x p1) [.Name y p2] [] pos) (dCallS n body i) := by
  obtain ⟨f, fd, ps, F, hm, hk, hb⟩ := hF.ex
  refine ⟨_, pe_callS F hr hg hm hk hb (passAt tk) (pa_cons (pe_var (i := i) hN hv hd hcd) pa_nil he) hdb he hpl, fun Fx G H σ ρ Q I p => ?_⟩
  unfold dCallS at p
  split at p
  case h_2 => exact p.elim
  rename_i ns T e0
  obtain ⟨⟨a0, h1, h2⟩, _⟩ := I.sl i _ e0
  refine ⟨_, h1, ?_⟩
  have hall : AllSl X.K ⟨untab H, G, fun _ => none, Fx.T⟩ G H 0 (.scr ns [] :: List.replicate (n - 1) .undef) ([V.ref a0].map some ++ List.replicate (n - 1) none) := ⟨⟨⟨a0, rfl, h2⟩, fun z => absurd rfl z⟩, AllSl.und _⟩
  have I0 : SI X.K ⟨untab H, G, fun _ => none, Fx.T⟩ G H ([V.ref a0].map some ++ List.replicate (n - 1) none) (.scr ns [] :: List.replicate (n - 1) .undef) := by
    refine ⟨I.gH, I.gt, Sub.rfl' _, fun a o e => .inl e, fun a o e _ => (at_untab e).1, fun a e => untab_none e, fun k a e => (by cases e), fun k a e => (by cases e), fun k l a e1 e2 => (by cases e1), I.tb, hall.len, fun i s e => by have := hall.get i s e; rw [Nat.zero_add] at this; exact this, fun i j a d1 d2 e1 e2 s1 s2 => ?_, fun a ps e => (at_untab e).2 ps rfl, fun k a e => (by cases e)⟩
    exfalso
    obtain ⟨b, vs, x1, x2, x3, x4, x5⟩ := hall.get i _ e1
    have x5 : untab H b = none := x5
    rw [untab_at x2 (fun _ z => by cases z)] at x5; cases x5
  refine ⟨G, fun _ => none, Fx.T, _, rfl, I0, ?_⟩
  have aft : ∀ {G' H' : Hp} {σ' : L2.St} {ρ' : Rho}, SI X.K ⟨untab H, G, fun _ => none, Fx.T⟩ G' H' σ' ρ' → SI X.K Fx G' H' σ ρ := fun I' => I.after (hd := none) (a0 := 0) (ds0 := []) (fun i z => (by cases z)) (fun k a z => (by cases z)) I' rfl
  cases qo : body (.scr ns [] :: List.replicate (n - 1) .undef) with
  | next ρ' => rw [qo] at p; exact fun G' H' σ' I' s' => p G' H' _ (aft I') s' .n
  | ret d ρ' => rw [qo] at p; exact fun G' H' σ' v I' s' r' => p G' H' _ (aft I') s' r'
  | retN d ρ' =>
    rw [qo] at p
    intro G' H' σ' a vs I' s' k1 k2 k3 k4
    have k3 : untab H a = none := k3
    refine p G' H' _ (aft I') s' ⟨a, rfl, ⟨vs, k1, k4⟩, k2, I.un0 k3, fun j es ej z => ?_⟩
    obtain ⟨b', us', l1, l2, _⟩ := I.sl j _ ej
    rw [z] at l1
    cases l1
    rw [untab_at l2 (fun _ z => by cases z)] at k3
    cases k3
  | err x ρ' => rw [qo] at p; exact fun G' H' σ' cls dd I' s' ex => p G' H' cls dd (aft I') s' ex
  | brk ρ' => rw [qo] at p; exact p.elim
  | cont ρ' => rw [qo] at p; exact p.elim
  | bad => rw [qo] at p; exact p.elim
end
end Pf

/-! Pf13: try with several clauses, each with a name or without. -/
namespace Pf
open PySem PySem.Spec PyProof.Rows L2

abbrev SuT := Addr → Value → Option Addr → TS
/-- a clause: its class, the slot of its name, the suite -/
structure Cl where
  c : Value
  i : Option Nat
  ts : SuT
def offN (i : Option Nat) (σ : L2.St) : L2.St := match i with
  | none => σ
  | some i => σ.set i none
def onN (i : Option Nat) (a : Addr) (σ : L2.St) : L2.St := match i with
  | none => σ
  | some i => σ.set i (some (.ref a))
def offD (i : Option Nat) (D : Ends) : Ends := { nx := fun σ H => D.nx (offN i σ) H, rt := D.rt, bk := fun σ H => D.bk (offN i σ) H, ct := fun σ H => D.ct (offN i σ) H }
def wMulti (K : PySem.W.Frag) (Wout : WX) (D : Ends) : List Cl → WX
  | [] => Wout
  | k :: r => fun cls d σ H => ∃ b, PySem.W.exmOne K cls k.c = some b ∧ (b = true → ∀ a, H a = none → k.ts a cls d (offD k.i D) (onN k.i a σ) H) ∧ (b = false → wMulti K Wout D r cls d σ H)
/-- the clause's name is no name at all or a local of the slot -/
def NmOk (X : Cx) (n : Option Str) (i : Option Nat) : Prop := match n, i with
  | none, none => True
  | some n, some i => X.N[i]? = some n ∧ X.env.kindOf n = some .local
  | _, _ => False
inductive HdsM (X : Cx) : List ExceptHandler → List Cl → Prop
  | nil : HdsM X [] []
  | cons {x : Str} {k : Cl} {n : Option Str} {b₀ : Stmt} {suite : List Stmt} {np pos' : Pos} {hds : List ExceptHandler} {l : List Cl} (hc : Names X x k.c) (hn : NmOk X n k.i)
      (hsu : ∀ (a : Addr) (oe : Obj) (cls : Value) (d : Option Addr) (pn : List (Addr × Obj)), Zc cls d oe → (∃ vs, oe.data = .fields vs) → PSs (X.suite a ((a, oe) :: pn)) (b₀ :: suite) (k.ts a cls d)) (r : HdsM X hds l) :
      HdsM X (.ExceptHandler (some (.Name x np)) n (b₀ :: suite) pos' :: hds) (k :: l)
section
variable {X : Cx} {body : List Stmt} {h₀ : ExceptHandler} {hds : List ExceptHandler} {l : List Cl} {pos : Pos} {tb : WX → TS} {Wout : WX}
theorem ps_try_multi (hs : X.stack = X.env :: X.outer) (hf : X.env.frame = some X.env.locals) (hN : X.N.Nodup) (tk : Takes X Wout)
    (hb : ∀ (W : WX) (pn : List (Addr × Obj)) (xe : Value → Shared → Prop), Takes (X.tr pn xe) W → PassesOwn (model X.prog X.w) X.A X.env xe → PSs (X.tr pn xe) body (tb W))
    (hh : HdsM X (h₀ :: hds) l) : PS X (.Try body (h₀ :: hds) [] [] pos) (fun D σ H => tb (fun cls d σ' H' => σ'.length = X.N.length → wMulti X.K Wout D l cls d σ' H') D σ H) := by
  refine ⟨fun pins s σ H D I h => ?_⟩
  have ok := I.ok
  have hfr : X.A.frames = some (X.env :: X.outer) := by rw [ok.frames, hs]
  refine wpAny_Try_except ?_
  refine wpAny_mono ((hb (fun cls d σ' H' => σ'.length = X.N.length → wMulti X.K Wout D l cls d σ' H') (X.pn ++ pins) (fun e s₁ => wpAny (model X.prog X.w) X.A (noteFrame e X.env) (fun _ s₂ => wpAny (model X.prog X.w) X.A (setFlight e none) (fun _ s₃ =>
    wpAny (model X.prog X.w) X.A (handleBy e X.env (h₀ :: hds)) (SP X pins D) X.xe s₃) X.xe s₂) X.xe s₁) (fun u s' xx => ?_) PassesOwn.looking).run [] s σ H D (I.toTry _) h) (fun f s1 hsp => ?_) (fun e s1 he => he)
  · obtain ⟨a, B, sI, pins', σ', H', cls, d, rfl, J', nb, up, sky, na, os, ag, w⟩ := xx
    have J : Inv X pins σ' H' sI := J'.ofTry ok
    have sky' : Sky B (X.env :: X.outer) a (Zc cls d) X.env.locals s'.heap := by rw [← hs]; exact sky
    show wpAny (model X.prog X.w) X.A (noteFrame (.ref a) X.env) _ _ _
    refine Sky.land Zc.steady hfr hf sky' fun h3 fl3 up3 => ?_
    have J3 : Inv X pins σ' H' { s' with heap := h3 } := J.landed nb fl3.1 (up.trans up3) os ag
    obtain ⟨oe3, vs3, he3, hz3, hd3⟩ := fl3.there
    have notFr : ∀ {h : Heap} {o : Obj} {vs : Array Value}, h.FunFrames B (X.env :: X.outer) → h.get? a = some o → o.data = .fields vs → a ∉ frs (X.env :: X.outer) := fun {h o vs} ff e dd hm => by
      obtain ⟨_, o', e', hnf⟩ := ff.mem hm
      rw [e] at e'; cases e'
      exact hnf _ dd
    have nfr := notFr fl3.2.2.1 he3 hd3
    have nL : a ≠ X.env.locals := fun z => nfr (List.mem_filterMap.mpr ⟨X.env, List.mem_cons_self, by rw [hf, z]⟩)
    have nF : a ∉ X.fs := fun hm => by
      obtain ⟨e, he, q⟩ := List.mem_filterMap.mp hm
      exact nfr (List.mem_filterMap.mpr ⟨e, List.mem_cons_of_mem _ he, q⟩)
    have S3 := J3.suite he3 hd3 na nL nF
    have go : ∀ {hds' : List ExceptHandler} {l' : List Cl}, HdsM X hds' l' → wMulti X.K Wout D l' cls d σ' H' →
        wpAny (model X.prog X.w) X.A (handleBy (.ref a) X.env hds') (SP X pins D) X.xe { s' with heap := h3 } := by
      intro hds' l' hk
      induction hk with
      | nil =>
        intro w
        refine wpAny_handleBy_nil ?_
        obtain ⟨k1, k2, k3, oe, vs, T, oT, ts', he, hz, hd, h1, hr⟩ := id fl3
        unfold PySem.passOn
        refine wpAny_bind (wpAny_field he hd h1 ?_)
        rw [if_neg (show ¬ ((Value.ref T == Value.none) = true) from by simp)]
        have fin : wpAny (model X.prog X.w) X.A (setFlight (.ref a) X.env.frame) (fun _ s4 => wpAny (model X.prog X.w) X.A (throw (.ref a) : Sem Flow) (SP X pins D) X.xe s4) X.xe { s' with heap := h3 } := by
          rw [hf]
          refine HandSPX.setFlight_upZ fl3 fun h4 hh4 up4 => wpAny_throw (tk _ _ ?_)
          exact ⟨a, B, sI, pins, σ', H', cls, d, rfl, J, nb, (up.trans up3).trans up4, .inr (.inr (by rw [hs]; exact hh4)), na, os, ag, w⟩
        first
          | exact wpAny_bind (wpAny_pure (wpAny_bind fin))
          | exact wpAny_bind fin
      | @cons x k n b₀ suite np pos' hds2 l2 hc hn hsu r ih =>
        intro w
        obtain ⟨b, hb1, hyes, hno⟩ := w
        refine wpAny_handleBy_cons (codeAny_handlers_test ?_) (by intro q; cases q)
        have LT : PySem.W.Looks (model X.prog X.w) h3 (typeOf (.ref a)) cls := fun A Q E s k q => wpAny_typeOf_ref (k _ _ he3) (by rw [hz3.1]; exact q)
        have LM := PySem.W.exm_one (M := model X.prog X.w) (J3.kIn) LT hb1
        have test : ∀ {Q : Value → Shared → Prop} {E : Value → Shared → Prop}, Q k.c { s' with heap := h3 } → wpAny (model X.prog X.w) (X.A.mark (some (.ref a))) (eval (.Name x np) X.env) Q E { s' with heap := h3 } := fun {Q E} q => by
          obtain ⟨hg, hdbg, hm | ⟨hm, hv, hnn⟩⟩ := hc
          · exact ld_glob (X := X.suite a ((a, oe3) :: (X.pn ++ pins))) S3 hg hm q hdbg
          · exact ld_blt (X := X.suite a ((a, oe3) :: (X.pn ++ pins))) S3 hg hm hv q hnn hdbg
        refine test (LM.here ?_)
        cases b with
        | false =>
          show wpAny _ X.A (handleBy (.ref a) X.env hds2) _ _ _
          exact ih (hno rfl)
        | true =>
          have hy := hyes rfl a na
          obtain ⟨kc, ki, kts⟩ := k
          cases n with
          | none =>
            cases ki with
            | some i => exact False.elim hn
            | none =>
              refine codeAny_handlers_suite ?_
              refine HandSPX.lands_againZ fl3 fun h4 fl4 up4 => ?_
              have J4 : Inv X pins σ' H' { s' with heap := h4 } := J.landed nb fl4.1 ((up.trans up3).trans up4) os ag
              obtain ⟨oe4, vs4, he4, hz4, hd4⟩ := fl4.there
              have S4 := J4.suite he4 hd4 na nL nF
              refine wpAny_mono ((hsu a oe4 cls d (X.pn ++ pins) hz4 ⟨_, hd4⟩).run [] _ _ H' _ S4 hy) (fun f s6 hsp => ?_) (fun _ _ z => False.elim z)
              cases f with
              | next =>
                obtain ⟨σ6, H6, S6, q6⟩ := hsp
                exact ⟨_, _, S6.unsuite ok, q6⟩
              | brk =>
                obtain ⟨σ6, H6, S6, q6⟩ := hsp
                exact ⟨_, _, S6.unsuite ok, q6⟩
              | cont =>
                obtain ⟨σ6, H6, S6, q6⟩ := hsp
                exact ⟨_, _, S6.unsuite ok, q6⟩
              | ret u =>
                obtain ⟨v6, σ6, H6, S6, r6, q6⟩ := hsp
                exact ⟨_, _, _, S6.unsuite ok, r6, q6⟩
          | some n =>
            cases ki with
            | none => exact False.elim hn
            | some i =>
              obtain ⟨hi, hln⟩ := hn
              have hloc : Loc X.env.scope n := .inl hln
              refine codeAny_handlers_suite_as ?_
              refine HandSPX.lands_againZ fl3 fun h4 fl4 up4 => ?_
              have J4 : Inv X pins σ' H' { s' with heap := h4 } := J.landed nb fl4.1 ((up.trans up3).trans up4) os ag
              obtain ⟨oe4, vs4, he4, hz4, hd4⟩ := fl4.there
              have S4 := J4.suite he4 hd4 na nL nF
              refine store_ok (X := X.suite a ((a, oe4) :: (X.pn ++ pins))) (v := .ref a) S4 hN hi hloc rfl (fun s5 S5 => ?_) (.inr hln)
              refine wpAny_mono ((hsu a oe4 cls d (X.pn ++ pins) hz4 ⟨_, hd4⟩).run [] s5 _ H' _ S5 hy) (fun f s6 hsp => ?_) (fun _ _ z => False.elim z)
              have end_ : ∀ {σ6 : L2.St} {H6 : Hp} {Q : Shared → Prop}, Inv (X.suite a ((a, oe4) :: (X.pn ++ pins))) [] σ6 H6 s6 → (∀ s7, Inv X pins (σ6.set i none) H6 s7 → Q s7) →
                  wpAny (model X.prog X.w) X.A (do bindName X.env n .none; unbindBehindTheSuite X.env n pos') (fun _ s7 => Q s7) X.xe s6 := fun {σ6 H6 Q} S6 hq => gone_ok (S6.unsuite ok) hN hi hln hq
              cases f with
              | next =>
                obtain ⟨σ6, H6, S6, q6⟩ := hsp
                exact end_ S6 fun s7 J7 => ⟨_, _, J7, q6⟩
              | brk =>
                obtain ⟨σ6, H6, S6, q6⟩ := hsp
                exact end_ S6 fun s7 J7 => ⟨_, _, J7, q6⟩
              | cont =>
                obtain ⟨σ6, H6, S6, q6⟩ := hsp
                exact end_ S6 fun s7 J7 => ⟨_, _, J7, q6⟩
              | ret u =>
                obtain ⟨v6, σ6, H6, S6, r6, q6⟩ := hsp
                exact end_ S6 fun s7 J7 => ⟨_, _, _, J7, r6, q6⟩
    exact go hh (w J.len)
  · cases f with
    | next =>
      obtain ⟨σ', H', J', q⟩ := hsp
      exact wpAny_execs_nil ⟨σ', H', J'.ofTry ok, q⟩
    | brk =>
      obtain ⟨σ', H', J', q⟩ := hsp
      exact ⟨σ', H', J'.ofTry ok, q⟩
    | cont =>
      obtain ⟨σ', H', J', q⟩ := hsp
      exact ⟨σ', H', J'.ofTry ok, q⟩
    | ret u =>
      obtain ⟨v, σ', H', J', r, q⟩ := hsp
      exact ⟨v, σ', H', J'.ofTry ok, r, q⟩
end
end Pf

/-! Pf14: raise, try. -/
namespace Pf
open PySem PySem.Spec PyProof.Rows L2

def relX (K : PySem.W.Frag) (mg : Str → Option Value) : Rel Ex (Value × Option Addr) := fun _ _ G H _ b x => ExOk K mg G H x b.1 b.2
def JX (X : Cx) (W : WX) (e : Expr) (den : Rho → R Ex) : Prop := ∃ t, PMk X e t ∧ ∀ F G H σ ρ (Q : XK), SI X.K F G H σ ρ → Post X.K X.mg F G σ W (relX X.K X.mg) (fun b H' => Q b.1 b.2 H') (den ρ) → t σ H Q
def dRaise (e : Rho → R Ex) (ρ : Rho) : Out := (e ρ).out fun x ρ1 => .err x ρ1
theorem js_raise {X : Cx} {W : WX} {e : Expr} {de : Rho → R Ex} {pos : Pos} (hc : X.calm = true) (tk : Takes X W) (h : JX X W e de) : JS X W (.Raise (some e) none pos) (dRaise de) := by
  obtain ⟨t, ht, k⟩ := h
  refine ⟨_, ps_raise hc tk ht, fun F G H σ ρ D I p => k F G H σ ρ _ I (SPost.bind (rel := relX X.K X.mg) p fun x ρ1 G1 H1 b I1 s1 r1 p1 => ?_)⟩
  exact p1 G1 H1 σ b.1 b.2 I1 (Sub.rfl' _) r1

section
variable {X : Cx} {W : WX} {bmB : List Value} {B newId initId : String} {C : Addr} {x f : Str} {p pos p1 p2 : Pos} {e : Expr} {de : Rho → R D}
theorem pmk_own0 (F : ExcBaseFacts B newId initId bmB) (q : PySem.W.excIn X.K C bmB newId = true) (gC : X.mg x = some (.ref C)) (kC : PySem.W.keepIn X.K (.ref C) = true) (r : Raises X (.ref C)) (hg : Gl X x)
    (hdb : (x == ("__debug__" : Str)) = false := by decide) : PMk X (.Call (.Name x p) [] [] pos) (fun _ H Q => Q (.ref C) none H) := by
  intro pins s σ H Q I h
  refine wpAny_Call_Name_kw (ld_glob I hg gC ?_ hdb)
  refine PySem.W.callWith_K0 I.kIn kC ?_
  show wpAny _ _ (call (.ref C) []) _ _ _
  obtain ⟨bm, N, nm, qn, bs, hdct, sn, sub, ab, col, dd, k0, k1, k2, k3, k5, mN, hC, hN, hni, T⟩ := exc_obj I.kIn q
  refine wpAny_call_exc_subT F T hC hN hni (fun h' e hm => ?_) (by show 0 ≤ sizeLine; exact Nat.zero_le _)
  exact mk_of I hm r h (I.hok.gone hm.new)
end
abbrev mroVE : List Value := [.type "ValueError", .type "Exception", .type "BaseException", .type "object"]
/-- an own exception class without fields -/
structure ExK0 (K : PySem.W.Frag) (mg : Str → Option Value) (x : Str) : Prop where
  ex : ∃ C, mg x = some (.ref C) ∧ PySem.W.excIn K C mroVE "ValueError.__new__" = true ∧ PySem.W.keepIn K (.ref C) = true ∧ PySem.W.subIn K (.ref C) (.type "BaseException") = some true ∧ PySem.W.typeIn K (.ref C) = some (.type "type")
/-- self.f = the argument -/
def spIni (K : PySem.W.Frag) (f : Str) : Sp := fun vs H Q _ => ∃ (a C : Addr) (y : V), vs = [.ref a, y] ∧ OexC K C ∧ PySem.W.findIn K (.ref C) f = some none ∧ H a = some (exo a C none) ∧
  ∀ dx, H dx = none → dx ≠ a → Q .non (upd (upd H dx (exd dx [(f, y)])) a (exo a C (some dx)))
/-- an own exception class with one field -/
structure ExK1 (P : Program) (w : World) (K : PySem.W.Frag) (mg : Str → Option Value) (base : Heap) (x f : Str) : Prop where
  ex : ∃ (C fI : Addr) (fd : FuncData) (ps : List Str), mg x = some (.ref C) ∧ OexC K C ∧ PySem.W.findIn K (.ref C) f = some none ∧ PySem.W.findIn K (.ref C) "__init__" = some (some (.ref fI)) ∧ PySem.W.typeIn K (.ref fI) = some (.type "function") ∧
    FnOk P w K mg base (L2.CX P w) 1 fI fd ps (spIni K f) ∧ Binds K fd ps []
def dExc0 (x : Str) (ρ : Rho) : R Ex := .ok ⟨x, []⟩ ρ
def dExc1 (x f : Str) (e : Rho → R D) (ρ : Rho) : R Ex := (e ρ).bind fun d ρ1 => .ok ⟨x, [(f, d)]⟩ ρ1
section
variable {X : Cx} {W : WX} {x f : Str} {p pos p1 p2 : Pos} {e : Expr} {de : Rho → R D}
theorem jx_own0 (E : ExK0 X.K X.mg x) (hg : Gl X x) (hdb : (x == ("__debug__" : Str)) = false := by decide) : JX X W (.Call (.Name x p) [] [] pos) (dExc0 x) := by
  obtain ⟨C, gC, q, kC, h1, h2⟩ := E.ex
  exact ⟨_, pmk_own0 PySem.F.excBase_ValueError q gC kC (raises_own h1 h2) hg hdb, fun F G H σ ρ Q I p => p G H (.ref C, none) I (Sub.rfl' _) ⟨gC, fun h => absurd rfl h, fun _ => rfl⟩⟩
theorem jx_own1 (E : ExK1 X.prog X.w X.K X.mg X.base x f) (hr : Room 2 X.A) (hg : Gl X x) (he : JE X W e de) (hdb : (x == ("__debug__" : Str)) = false := by decide) (hs : starEach [e] X.env = (false, eval e X.env) :: starEach [] X.env := by rfl) :
    JX X W (.Call (.Name x p) [e] [] pos) (dExc1 x f de) := by
  obtain ⟨C, fI, fd, ps, gC, T, hno, iC, tI, F1, hb⟩ := E.ex
  obtain ⟨t, ht, kt⟩ := he
  refine ⟨_, pmk_oex T iC tI F1 hr hb .nil passL hg gC (pa_cons ht pa_nil hs) hdb hs rfl, fun F G H σ ρ Q I p => kt F G H σ ρ _ I (p.bind fun d ρ1 G1 H1 v I1 s1 r1 p1 => ?_)⟩
  refine ⟨by show 1 ≤ 1000; decide, fun a ha => ⟨a, C, v, rfl, T, hno, upd_same, fun dx hdx ndx => ⟨rfl, dx, [(f, v)], upd_same, ?_, ?_, ?_⟩⟩⟩
  · rw [upd_ne ndx, upd_same]
  · rw [upd_ne ndx] at hdx; exact hdx
  · rw [upd_ne ndx] at hdx
    have e : upd (del (upd (upd (upd H1 a (exo a C none)) dx (exd dx [(f, v)])) a (exo a C (some dx))) a) dx (HO.xd [(f, v)]) = upd H1 dx (HO.xd [(f, v)]) := by
      funext b
      by_cases hb : b = dx
      · subst hb; rw [upd_same, upd_same]
      · rw [upd_ne hb, upd_ne hb]
        by_cases ha' : b = a
        · subst ha'; rw [del_same]; exact ha.symm
        · rw [del_ne ha', upd_ne ha', upd_ne hb, upd_ne ha']
    rw [e]
    exact p1 G1 _ (.ref C, some dx) (I1.allocH hdx) (Sub.rfl' _) ⟨gC, fun _ => ⟨dx, _, rfl, upd_same, ⟨rfl, r1, True.intro⟩⟩, fun z => (by cases z)⟩
end

/-! ### suites -/
structure SuC where
  a : Addr
  oe : Obj
  cls : Value
  d : Option Addr
  pn : List (Addr × Obj)
abbrev SuC.cx (c : SuC) (X : Cx) : Cx := X.suite c.a ((c.a, c.oe) :: c.pn)
def SuC.ok (c : SuC) : Prop := Zc c.cls c.d c.oe ∧ ∃ vs, c.oe.data = .fields vs
/-- an expression, a statement of a suite that may look at the exception in slot i -/
def JEu (X : Cx) (i : Option Nat) (e : Expr) (den : Ex → Rho → R D) : Prop := ∀ c : SuC, c.ok → ∃ t, PE (c.cx X) e t ∧ ∀ F G H σ ρ x (Q : VK), SI X.K F G H σ ρ → (∀ j, i = some j → σ[j]? = some (some (V.ref c.a))) → ExOk X.K X.mg G H x c.cls c.d →
  Post X.K X.mg F G σ W0 (relE X.K) Q (den x ρ) → t σ H Q
def JEnu (X : Cx) (i : Option Nat) (e : Expr) (den : Ex → Rho → R (List D)) : Prop := ∀ c : SuC, c.ok → ∃ t, PE (c.cx X) e t ∧ ∀ F G H σ ρ x (Q : VK), SI X.K F G H σ ρ → (∀ j, i = some j → σ[j]? = some (some (V.ref c.a))) → ExOk X.K X.mg G H x c.cls c.d →
  Post X.K X.mg F G σ W0 (relN X.K) Q (den x ρ) → t σ H Q
def JSu (X : Cx) (i : Option Nat) (st : Stmt) (den : Ex → Rho → Out) : Prop := ∀ c : SuC, c.ok → ∃ t, PS (c.cx X) st t ∧ ∀ F G H σ ρ x D, SI X.K F G H σ ρ → (∀ j, i = some j → σ[j]? = some (some (V.ref c.a))) → ExOk X.K X.mg G H x c.cls c.d →
  SPost X.K X.mg F G W0 D (den x ρ) → t D σ H
def JSsu (X : Cx) (i : Option Nat) (st : List Stmt) (den : Ex → Rho → Out) : Prop := ∀ c : SuC, c.ok → ∃ t, PSs (c.cx X) st t ∧ ∀ F G H σ ρ x D, SI X.K F G H σ ρ → (∀ j, i = some j → σ[j]? = some (some (V.ref c.a))) → ExOk X.K X.mg G H x c.cls c.d →
  SPost X.K X.mg F G W0 D (den x ρ) → t D σ H
section
variable {X : Cx} {i : Option Nat} {e : Expr} {st : Stmt} {sts : List Stmt} {pos p1 p2 p3 : Pos} {y f cn : Str}
theorem jssu_of {d : Rho → Out} (h : ∀ c : SuC, c.ok → JSs (c.cx X) W0 sts d) : JSsu X i sts (fun _ => d) := fun c hc => by
  obtain ⟨t, ht, k⟩ := h c hc
  exact ⟨t, ht, fun F G H σ ρ x D I _ _ p => k F G H σ ρ D I p⟩
theorem jssu_one {d : Ex → Rho → Out} (h : JSu X i st d) : JSsu X i [st] d := fun c hc => by
  obtain ⟨t, ht, k⟩ := h c hc
  exact ⟨t, pss_one ht, k⟩
theorem jssu_cons {d : Ex → Rho → Out} {d2 : Rho → Out} (h : JSu X i st d) (h2 : ∀ c : SuC, c.ok → JSs (c.cx X) W0 sts d2) : JSsu X i (st :: sts) (fun x => dSeq (d x) d2) := fun c hc => by
  obtain ⟨t, ht, k⟩ := h c hc
  obtain ⟨u, hu, k2⟩ := h2 c hc
  refine ⟨_, pss_cons ht hu, fun F G H σ ρ x D I hi hx p => k F G H σ ρ x _ I hi hx ?_⟩
  have p : SPost X.K X.mg F G W0 D (dSeq (d x) d2 ρ) := p
  unfold dSeq at p
  cases q : d x ρ with
  | next ρ' => rw [q] at p; exact fun G' H' σ' I' s => k2 F G' H' σ' ρ' D I' (SPost.mono s p)
  | ret d ρ' => rw [q] at p; exact p
  | retN d ρ' => rw [q] at p; exact p
  | brk ρ' => rw [q] at p; exact p
  | cont ρ' => rw [q] at p; exact p
  | err x ρ' => rw [q] at p; exact p
  | bad => rw [q] at p; exact p
theorem jsu_set (k : Nat) {d : Ex → Rho → R D} (hN : X.N.Nodup) (he : JEu X i e d) (hi : X.N[k]? = some y := by rfl) (hx : Loc X.env.scope y := by first | exact Or.inl rfl | exact Or.inr rfl)
    (hs : ∀ c : SuC, swapsWith e (some (.Name y p1)) pos.line (c.cx X).env = pure false := by intro _; rfl) (hf : X.fn y = true ∨ X.env.scope.names.lookup y = some .local := by first | exact .inl rfl | exact .inr rfl | assumption) : JSu X i (.Assign [.Name y p1] e pos) (fun x => dSet k (d x)) := fun c hc => by
  obtain ⟨t, ht, kt⟩ := he c hc
  refine ⟨_, ps_set (X := c.cx X) (i := k) hN hi hx ht (hs c) hf, fun F G H σ ρ x D I hi hx p => kt F G H σ ρ x _ I hi hx (SPost.bind (rel := relE X.K) p fun d ρ1 G1 H1 v I1 s1 r1 p1 => ?_)⟩
  split at p1
  · exact p1.elim
  · exact p1 G1 H1 _ (I1.setImm r1) (Sub.rfl' _)
theorem jsu_setN (k : Nat) {d : Ex → Rho → R (List D)} (hN : X.N.Nodup) (he : JEnu X i e d) (hi : X.N[k]? = some y := by rfl) (hx : Loc X.env.scope y := by first | exact Or.inl rfl | exact Or.inr rfl)
    (hs : ∀ c : SuC, swapsWith e (some (.Name y p1)) pos.line (c.cx X).env = pure false := by intro _; rfl) (hf : X.fn y = true ∨ X.env.scope.names.lookup y = some .local := by first | exact .inl rfl | exact .inr rfl | assumption) : JSu X i (.Assign [.Name y p1] e pos) (fun x => dSetN k (d x)) := fun c hc => by
  obtain ⟨t, ht, kt⟩ := he c hc
  refine ⟨_, ps_set (X := c.cx X) (i := k) hN hi hx ht (hs c) hf, fun F G H σ ρ x D I hi hx p => kt F G H σ ρ x _ I hi hx (SPost.bind (rel := relN X.K) p fun d ρ1 G1 H1 v I1 s1 r1 p1 => ?_)⟩
  obtain ⟨a, e, n⟩ := r1
  subst e
  split at p1
  · exact p1.elim
  · exact p1 G1 H1 _ (I1.setOwn n) (Sub.rfl' _)
/-- e.f of the class named cn -/
def dXf (cn f : Str) (x : Ex) (ρ : Rho) : R D := if x.cls = cn then lift (x.fs.lookup f) ρ else .bad
theorem fsOk_lookup {K : PySem.W.Frag} {G : Hp} {f : Str} : ∀ {vs : List (Str × V)} {fs : List (Str × D)} {d : D}, FsOk K G vs fs → fs.lookup f = some d → ∃ v, vs.lookup f = some v ∧ Rp K G v d
  | [], [], _, _, e => by cases e
  | (g, v) :: vs, (g', d') :: fs, d, h, e => by
    obtain ⟨h1, h2, h3⟩ := h
    subst h1
    by_cases q : f = g
    · subst q
      simp [List.lookup] at e ⊢
      subst e
      exact h2
    · have q' : (f == g) = false := by simpa using q
      simp [List.lookup, q'] at e ⊢
      exact fsOk_lookup h3 e
theorem jeu_xf (j : Nat) {C : Addr} (gC : X.mg cn = some (.ref C)) (T : XfC X.K C) (hno : PySem.W.findIn X.K (.ref C) f = some none) (hij : i = some j) (hN : X.N[j]? = some y := by rfl) (hv : Vis X.env.scope y := by first | exact Or.inl rfl | exact Or.inr (Or.inl rfl) | exact Or.inr (Or.inr rfl))
    (hd : (y == ("__debug__" : Str)) = false := by decide) (hcd : (y == ("__classdict__" : Str)) = false := by decide) (hb : ∀ c : SuC, attributeBase (.Name y p1) f (c.cx X).env (eval (.Name y p1) (c.cx X).env) = eval (.Name y p1) (c.cx X).env := by intro _; rfl) :
    JEu X i (.Attribute (.Name y p1) f pos) (dXf cn f) := fun c hc => by
  refine ⟨_, pe_xf T hno hc.1 hc.2 (pe_var (X := c.cx X) (i := j) hN hv hd hcd) (hb c), fun F G H σ ρ x Q I hi hx p => ?_⟩
  unfold dXf at p
  split at p
  · rename_i ec
    obtain ⟨d, e1, p⟩ := p.lift
    obtain ⟨h1, h2, h3⟩ := hx
    rw [ec, gC] at h1
    have ne : x.fs ≠ [] := fun z => by rw [z] at e1; cases e1
    obtain ⟨dd, vs, h4, h5, h6⟩ := h2 ne
    obtain ⟨v, q1, q2⟩ := fsOk_lookup h6 e1
    exact ⟨_, hi j hij, rfl, (Option.some.inj h1).symm, dd, vs, v, h4, h5, q1, p G H v I (Sub.rfl' _) q2⟩
  · exact p.elim
/-- (a text, e.f) -/
def dXt (m cn f : Str) (x : Ex) (ρ : Rho) : R D := (dXf cn f x ρ).bind fun d ρ1 => .ok (.tuple [.str m, d]) ρ1
theorem jeu_xt {e : Expr} {m : Str} {k j : Nat} (h : JEu X i e (dXf cn f)) (hs1 : ∀ c : SuC, starEach [.Constant (.str m) k p2, e] (c.cx X).env = (false, eval (.Constant (.str m) k p2) (c.cx X).env) :: starEach [e] (c.cx X).env := by intro _; rfl)
    (hs2 : ∀ c : SuC, starEach [e] (c.cx X).env = (false, eval e (c.cx X).env) :: starEach [] (c.cx X).env := by intro _; rfl) : JEu X i (.Tuple [.Constant (.str m) k p2, e] j pos) (dXt m cn f) := fun c hc => by
  obtain ⟨t, ht, kt⟩ := h c hc
  refine ⟨_, pe_tup (pa_cons pe_str (pa_cons ht pa_nil (hs2 c)) (hs1 c)), fun F G H σ ρ x Q I hi hx p => ?_⟩
  refine kt F G H σ ρ x _ I hi hx (p.bind fun d ρ1 G1 H1 v I1 s1 r1 p1 => ⟨Nat.le_of_lt (small1000 (by show 2 ≤ 1000; decide)), fun q hq => ?_⟩)
  exact Gives.tup (o := some (PyData.tuple [.str m, d])) ⟨_, rfl, fun G' H' v I' s' r' => p1 G' H' v I' s' r'⟩ I1 rfl (.cons (.s m) (.cons r1 .nil)) hq
end
end Pf

/-! Pf15: isinstance of the exception, try, while, pairs, new lists. -/
namespace Pf
open PySem PySem.Spec PyProof.Rows L2

/-! ### isinstance(e, X) -/
/-- what the written part says of the classes known, as isinstance(.., A) asks -/
structure ExA (K : PySem.W.Frag) (mg : Str → Option Value) (known : List Str) (A : Str) : Prop where
  ex : ∃ CA, mg A = some (.ref CA) ∧ ∀ nm ∈ known, ∃ D, mg nm = some (.ref D) ∧ ExcC K D ∧ PySem.W.kitOne K (.ref D) (.ref CA) = some (decide (nm = A))
/-- quiet expressions of a suite: nothing is asked of the heap, nothing is changed -/
def JEq (X : Cx) (i : Nat) (e : Expr) (f : Ex → Option D) : Prop := ∀ c : SuC, c.ok → ∃ t, PE (c.cx X) e t ∧ ∀ σ H x d (Q : VK), σ[i]? = some (some (V.ref c.a)) → X.mg x.cls = some c.cls → (x.fs = [] → c.d = none) → f x = some d → (∀ v, (∀ G, Rp X.K G v d) → Q v H) → t σ H Q
def JLq (X : Cx) (i : Nat) (es : List Expr) (f : Ex → Option (List D)) : Prop := ∀ c : SuC, c.ok → ∃ t, PA (c.cx X) es t ∧ ∀ σ H x d (Q : List V → Hp → Prop), σ[i]? = some (some (V.ref c.a)) → X.mg x.cls = some c.cls → (x.fs = [] → c.d = none) → f x = some d → (∀ v, (∀ G, Rs X.K G v d) → Q v H) → t σ H Q
def fIs (known : List Str) (A : Str) (x : Ex) : Option D := if x.cls ∈ known ∧ x.fs = [] then some (.bool (decide (x.cls = A))) else none
def fNil (_ : Ex) : Option (List D) := some []
def fCons (a : Ex → Option D) (b : Ex → Option (List D)) (x : Ex) : Option (List D) := match a x, b x with
  | some d, some ds => some (d :: ds)
  | _, _ => none
def dQ (f : Ex → Option (List D)) (x : Ex) (ρ : Rho) : R (List D) := lift (f x) ρ
theorem exO_cls {K : PySem.W.Frag} {mg : Str → Option Value} {G H : Hp} {x : Ex} {cls : Value} {d : Option Addr} (h : ExOk K mg G H x cls d) : mg x.cls = some cls := h.1
section
variable {X : Cx} {i : Nat} {e : Expr} {es : List Expr} {pos p1 p2 p3 : Pos} {y A : Str} {known : List Str}
theorem jeq_is (E : ExA X.K X.mg known A) (hg : Gl X "isinstance") (hm : X.mg "isinstance" = none) (hgA : Gl X A) (hdA : (A == ("__debug__" : Str)) = false := by decide) (hN : X.N[i]? = some y := by rfl) (hv : Vis X.env.scope y := by first | exact Or.inl rfl | exact Or.inr (Or.inl rfl) | exact Or.inr (Or.inr rfl))
    (hd : (y == ("__debug__" : Str)) = false := by decide) (hcd : (y == ("__classdict__" : Str)) = false := by decide)
    (hs1 : ∀ c : SuC, starEach [.Name y p1, .Name A p2] (c.cx X).env = (false, eval (.Name y p1) (c.cx X).env) :: starEach [.Name A p2] (c.cx X).env := by intro _; rfl)
    (hs2 : ∀ c : SuC, starEach [.Name A p2] (c.cx X).env = (false, eval (.Name A p2) (c.cx X).env) :: starEach [] (c.cx X).env := by intro _; rfl) : JEq X i (.Call (.Name "isinstance" p3) [.Name y p1, .Name A p2] [] pos) (fIs known A) := fun c hc => by
  obtain ⟨CA, gA, hk⟩ := E.ex
  by_cases hD : ∃ D, c.cls = .ref D ∧ c.d = none ∧ ExcC X.K D
  · obtain ⟨D, e1, e2, TD⟩ := hD
    have hz : Zc (.ref D) none c.oe := by have := hc.1; rw [e1, e2] at this; exact this
    refine ⟨_, pe_callB (X := c.cx X) (call_isE TD hz hc.2) hg hm (by rfl) (pa_cons (pe_var (X := c.cx X) (i := i) hN hv hd hcd) (pa_cons (pe_glob (X := c.cx X) (v := .ref CA) hgA gA rfl hdA) pa_nil (hs2 c)) (hs1 c)) (by decide) (by decide) (hs1 c) (by rw [hs2 c]; rfl), fun σ H x d Q hi hx hn hf k => ?_⟩
    unfold fIs at hf
    split at hf
    · rename_i h
      cases hf
      obtain ⟨D', g', T', q'⟩ := hk x.cls h.1
      rw [hx, e1] at g'
      cases g'
      exact ⟨_, hi, V.ref CA, .ref CA, _, rfl, fun u hu => hu, q', k (.bl _) fun G => .b _⟩
    · cases hf
  · refine ⟨fun _ _ _ => False, ⟨fun pins s σ H Q I h => h.elim⟩, fun σ H x d Q hi hx hn hf k => ?_⟩
    unfold fIs at hf
    split at hf
    · rename_i h
      obtain ⟨D', g', T', q'⟩ := hk x.cls h.1
      rw [hx] at g'
      exact hD ⟨D', Option.some.inj g', hn h.2, T'⟩
    · cases hf
theorem jlq_nil : JLq X i [] fNil := fun c hc => ⟨_, pa_nil, fun σ H x d Q _ _ _ hf k => by cases hf; exact k [] fun G => .nil⟩
theorem jlq_cons {f : Ex → Option D} {g : Ex → Option (List D)} (h : JEq X i e f) (h2 : JLq X i es g) (hs : ∀ c : SuC, starEach (e :: es) (c.cx X).env = (false, eval e (c.cx X).env) :: starEach es (c.cx X).env := by intro _; rfl) : JLq X i (e :: es) (fCons f g) := fun c hc => by
  obtain ⟨t, ht, k1⟩ := h c hc
  obtain ⟨u, hu, k2⟩ := h2 c hc
  refine ⟨_, pa_cons ht hu (hs c), fun σ H x d Q hi hx hn hf k => ?_⟩
  unfold fCons at hf
  split at hf
  · rename_i d1 ds e1 e2
    cases hf
    exact k1 σ H x d1 _ hi hx hn e1 fun v r => k2 σ H x ds _ hi hx hn e2 fun vs rs => k (v :: vs) fun G => .cons (r G) (rs G)
  · cases hf
theorem jenu_lst {f : Ex → Option (List D)} (h : JLq X i es f) (hn : es.length ≤ 1000 := by decide) (hl : ∀ x ds, f x = some ds → ds.length = es.length) : JEnu X (some i) (.List es pos) (dQ f) := fun c hc => by
  obtain ⟨t, ht, kt⟩ := h c hc
  refine ⟨_, pe_lst ht, fun F G H σ ρ x Q I hi hx p => ?_⟩
  obtain ⟨ds, e1, p⟩ := p.lift
  refine kt σ H x ds _ (hi i rfl) hx.1 (fun z => hx.2.2 z) e1 fun vs r => ⟨?_, fun a ha => ?_⟩
  · rw [(r G).length, hl x ds e1]; exact Nat.le_of_lt (small1000 hn)
  · obtain ⟨I2, n⟩ := I.newL ha (r G)
    exact p G _ _ I2 (Sub.rfl' _) ⟨a, rfl, n⟩
theorem fCons_len {f : Ex → Option D} {g : Ex → Option (List D)} {n : Nat} (h : ∀ x ds, g x = some ds → ds.length = n) : ∀ x ds, fCons f g x = some ds → ds.length = n + 1 := fun x ds e => by
  unfold fCons at e
  split at e
  · rename_i d ds' _ e2
    cases e
    simp [h x ds' e2]
  · cases e
theorem fNil_len : ∀ x ds, fNil x = some ds → ds.length = 0 := fun x ds e => by cases e; rfl
end

/-! ### try -/
/-- a clause: its class by name, the slot of its name, its suite -/
structure ClD where
  c : Str
  i : Option Nat
  den : Ex → Rho → Out
/-- is nm a kind of c: the classes of the module are flat below base -/
def subC (base nm c : Str) : Bool := decide (c = base) || decide (nm = c)
def offR (i : Option Nat) (ρ : Rho) : Rho := match i with
  | none => ρ
  | some i => ρ.set i .undef
def offO (i : Option Nat) : Out → Out
  | .next ρ => .next (offR i ρ)
  | .brk ρ => .brk (offR i ρ)
  | .cont ρ => .cont (offR i ρ)
  | .err _ _ => .bad
  | o => o
def lenOk (i : Option Nat) (ρ : Rho) : Bool := match i with
  | none => true
  | some i => decide (i < ρ.length)
def dCls (base : Str) : List ClD → Ex → Rho → Out
  | [], x, ρ => .err x ρ
  | k :: r, x, ρ => if subC base x.cls k.c = true then (if lenOk k.i ρ = true then offO k.i (k.den x (offR k.i ρ)) else .bad) else dCls base r x ρ
def dTry (base : Str) (known : List Str) (body : Rho → Out) (l : List ClD) (ρ : Rho) : Out :=
  match body ρ with
  | .err x ρ1 => if x.cls ∈ known then dCls base l x ρ1 else .bad
  | o => o
/-- what an except clause asks of the classes known -/
structure ExM (K : PySem.W.Frag) (mg : Str → Option Value) (base : Str) (known : List Str) (c : Str) : Prop where
  ex : ∃ C, mg c = some (.ref C) ∧ ∀ nm ∈ known, ∃ D, mg nm = some (.ref D) ∧ PySem.W.exmOne K (.ref D) (.ref C) = some (subC base nm c)
inductive HdsD (X : Cx) (base : Str) (known : List Str) : List ExceptHandler → List ClD → Prop
  | nil : HdsD X base known [] []
  | cons {x : Str} {k : ClD} {n : Option Str} {b₀ : Stmt} {suite : List Stmt} {np pos' : Pos} {hds : List ExceptHandler} {l : List ClD} (E : ExM X.K X.mg base known k.c) (ec : x = k.c) (hg : Gl X x) (hd : (x == ("__debug__" : Str)) = false) (hn : NmOk X n k.i)
      (hs : JSsu X k.i (b₀ :: suite) k.den) (r : HdsD X base known hds l) : HdsD X base known (.ExceptHandler (some (.Name x np)) n (b₀ :: suite) pos' :: hds) (k :: l)
theorem offO_post {K : PySem.W.Frag} {mg : Str → Option Value} {F : Fx} {G : Hp} {W : WX} {D : Ends} {i : Option Nat} {o : Out} (p : SPost K mg F G W D (offO i o)) : SPost K mg F G W0 (offD i D) o := by
  have key : ∀ {G' H' : Hp} {σ' : L2.St} {ρ : Rho}, SI K F G' H' σ' ρ → SI K F G' H' (offN i σ') (offR i ρ) := fun {G' H' σ' ρ} I => by
    cases i with
    | none => exact I
    | some i => exact I.undef i
  cases o with
  | next ρ => exact fun G' H' σ' I s => p G' H' _ (key I) s
  | brk ρ => exact fun G' H' σ' I s => p G' H' _ (key I) s
  | cont ρ => exact fun G' H' σ' I s => p G' H' _ (key I) s
  | ret d ρ => exact p
  | retN d ρ => exact p
  | err x ρ => exact p.elim
  | bad => exact p.elim
theorem hds_make {X : Cx} {base : Str} {known : List Str} {hds : List ExceptHandler} {l : List ClD} (h : HdsD X base known hds l) : ∃ l' : List Cl, HdsM X hds l' ∧ ∀ F G H σ ρ x cls d (W : WX) D, SI X.K F G H σ ρ → ExOk X.K X.mg G H x cls d → x.cls ∈ known →
    SPost X.K X.mg F G W D (dCls base l x ρ) → wMulti X.K W D l' cls d σ H := by
  induction h with
  | nil => exact ⟨[], .nil, fun F G H σ ρ x cls d W D I hx _ p => p G H σ cls d I (Sub.rfl' _) hx⟩
  | @cons x k n b₀ suite np pos' hds l E ec hg hd hn hs r ih =>
    obtain ⟨l', hm, ih⟩ := ih
    obtain ⟨C, gC, hC⟩ := E.ex
    subst ec
    refine ⟨⟨.ref C, k.i, fun a cls d D σ H => ∀ (oe : Obj) (pn : List (Addr × Obj)) (ok : (⟨a, oe, cls, d, pn⟩ : SuC).ok), Classical.choose (hs ⟨a, oe, cls, d, pn⟩ ok) D σ H⟩ :: l', ?_, ?_⟩
    · refine .cons (k := ⟨.ref C, k.i, _⟩) ⟨hg, hd, .inl gC⟩ hn (fun a oe cls d pn hz hf => ?_) hm
      exact ⟨fun pins s σ H D I h => (Classical.choose_spec (hs ⟨a, oe, cls, d, pn⟩ ⟨hz, hf⟩)).1.run pins s σ H D I (h oe pn ⟨hz, hf⟩)⟩
    · intro F G H σ ρ x cls d W D I hx hk p
      obtain ⟨D', g', q'⟩ := hC x.cls hk
      have ecls : cls = .ref D' := by have := hx.1; rw [g'] at this; exact (Option.some.inj this).symm
      refine ⟨subC base x.cls k.c, by rw [ecls]; exact q', fun hb a ha oe pn ok => ?_, fun hb => ?_⟩
      · have p : SPost X.K X.mg F G W D (if subC base x.cls k.c = true then (if lenOk k.i ρ = true then offO k.i (k.den x (offR k.i ρ)) else .bad) else dCls base l x ρ) := p
        rw [if_pos hb] at p
        split at p
        case isFalse => exact p.elim
        rename_i hlen
        have hnm : ∀ j, k.i = some j → j < σ.length → (onN k.i a σ)[j]? = some (some (V.ref a)) := fun j hj hl => by
          rw [hj]
          show (σ.set j (some (V.ref a)))[j]? = _
          rw [List.getElem?_set_self hl]
        have Io : SI X.K F G H (onN k.i a σ) (offR k.i ρ) := by
          cases q : k.i with
          | none => exact I
          | some i => exact I.undefV i _
        refine (Classical.choose_spec (hs ⟨a, oe, cls, d, pn⟩ ok)).2 F G H _ _ x _ Io (fun j hj => hnm j hj ?_) hx (offO_post p)
        rw [hj] at hlen
        rw [← I.len]
        exact of_decide_eq_true hlen
      · have p : SPost X.K X.mg F G W D (if subC base x.cls k.c = true then (if lenOk k.i ρ = true then offO k.i (k.den x (offR k.i ρ)) else .bad) else dCls base l x ρ) := p
        rw [if_neg (by rw [hb]; exact Bool.false_ne_true)] at p
        exact ih F G H σ ρ x cls d W D I hx hk p
theorem js_try {X : Cx} {W : WX} {base : Str} {known : List Str} {bodyS : List Stmt} {h₀ : ExceptHandler} {hds : List ExceptHandler} {body : Rho → Out} {l : List ClD} {pos : Pos} (hs : X.stack = X.env :: X.outer) (hf : X.env.frame = some X.env.locals) (hN : X.N.Nodup) (tk : Takes X W)
    (hb : ∀ (W' : WX) (pn : List (Addr × Obj)) (xe : Value → Shared → Prop), Takes (X.tr pn xe) W' → PassesOwn (model X.prog X.w) X.A X.env xe → JSs (X.tr pn xe) W' bodyS body) (hh : HdsD X base known (h₀ :: hds) l) : JS X W (.Try bodyS (h₀ :: hds) [] [] pos) (dTry base known body l) := by
  obtain ⟨l', hm, hw⟩ := hds_make hh
  refine ⟨_, ps_try_multi (tb := fun W' D σ H => ∀ (pn : List (Addr × Obj)) (xe : Value → Shared → Prop) (t : Takes (X.tr pn xe) W') (po : PassesOwn (model X.prog X.w) X.A X.env xe), Classical.choose (hb W' pn xe t po) D σ H) hs hf hN tk
    (fun W' pn xe t po => ⟨fun pins s σ H D I h => (Classical.choose_spec (hb W' pn xe t po)).1.run pins s σ H D I (h pn xe t po)⟩) hm, fun F G H σ ρ D I p pn xe t po => ?_⟩
  refine (Classical.choose_spec (hb _ pn xe t po)).2 F G H σ ρ D I ?_
  unfold dTry at p
  cases q : body ρ with
  | err x ρ1 =>
    rw [q] at p
    have p : SPost X.K X.mg F G W D (if x.cls ∈ known then dCls base l x ρ1 else .bad) := p
    split at p
    · rename_i hk
      exact fun G' H' σ' cls dd I' s' ex _ => hw F G' H' σ' ρ1 x cls dd W D I' ex hk (SPost.mono s' p)
    · exact p.elim
  | next ρ1 => rw [q] at p; exact p
  | ret d ρ1 => rw [q] at p; exact p
  | retN d ρ1 => rw [q] at p; exact p
  | brk ρ1 => rw [q] at p; exact p
  | cont ρ1 => rw [q] at p; exact p
  | bad => rw [q] at p; exact p
end Pf

/-! Pf16: x(lambda: body), x a def: word = 'let' / try: call() / except ..: .. / return word. -/
namespace Pf
open PySem PySem.Spec PyProof.Rows L2

section
variable {K : PySem.W.Frag} {mg : Str → Option Value} {F : Fx} {G H H1 : Hp} {σ : L2.St} {ρ : Rho}
theorem SI.ext (I : SI K F G H σ ρ) (e : LamX.ExtN H H1) (t : LamX.Tabs F.T H1) : SI K F G H1 σ ρ := by
  refine ⟨fun a o h => e a o (I.gH a o h) (fun ps z => I.gt a ps (by rw [h, z])), I.gt, I.g0, I.gn, fun a o h w => e a o (I.h0 a o h w) (fun ps z => I.ht a ps (by rw [h, z])), fun a h => ?_, I.w1, I.w2, I.w3, t, I.len, fun i s q => ?_, I.dj, I.ht, fun i a q => ?_⟩
  · cases q : F.H0 a with
    | none => rfl
    | some o =>
      exfalso
      by_cases hw : ∃ i, F.w i = some a
      · obtain ⟨i, hw⟩ := hw
        obtain ⟨vs, z⟩ := I.w4 i a hw
        rw [e a _ z (fun _ z => by cases z)] at h; cases h
      · rw [e a _ (I.h0 a o q fun i z => hw ⟨i, z⟩) (fun ps z => I.ht a ps (by rw [q, z]))] at h; cases h
  · have x := I.sl i s q
    cases s with
    | undef => trivial
    | imm d => exact x
    | own ds => obtain ⟨a, vs, h1, h2, h3, h4, h5⟩ := x; exact ⟨a, vs, h1, e _ _ h2 (fun _ z => by cases z), h3, h4, h5⟩
    | io ds => obtain ⟨a, vs, h1, h2, h3, h4, h5⟩ := x; exact ⟨a, vs, h1, e _ _ h2 (fun _ z => by cases z), h3, h4, h5⟩
    | scr ns T =>
      obtain ⟨⟨a, h1, h2⟩, hT⟩ := x
      refine ⟨⟨a, h1, ?_⟩, hT⟩
      rcases h2 with (⟨o, h2⟩ | h2) | h2
      · exact .inl (.inl ⟨o, e _ _ h2 (fun _ z => by cases z)⟩)
      · exact .inl (.inr h2)
      · exact .inr h2
    | exc a d fs => exact ⟨x.1, x.2.keep (Sub.rfl' _) fun b vs h => e _ _ h (fun _ z => by cases z)⟩
  · obtain ⟨vs, h⟩ := I.w4 i a q
    exact ⟨vs, e _ _ h (fun _ z => by cases z)⟩
/-- a fresh frame over the same heap -/
theorem SI.fresh (I : SI K F G H σ ρ) (σ' : L2.St) : SI K ⟨untab H, G, fun _ => none, F.T⟩ G H σ' (List.replicate σ'.length .undef) := by
  refine ⟨I.gH, I.gt, Sub.rfl' _, fun a o e => .inl e, fun a o e _ => (at_untab e).1, fun a e => untab_none e, fun k a e => (by cases e), fun k a e => (by cases e), fun k l a e1 e2 => (by cases e1), I.tb, by simp, fun i s e => ?_, fun i j a d1 d2 e1 e2 s1 s2 => ?_, fun a ps e => (at_untab e).2 ps rfl, fun k a e => (by cases e)⟩
  · have : s = .undef := by
      rw [List.getElem?_replicate] at e
      split at e
      · exact (Option.some.inj e).symm
      · cases e
    subst this; trivial
  · rw [List.getElem?_replicate] at e1
    split at e1 <;> cases e1
end

/-- what the def answers of an exception -/
def dWord (n wi : Nat) (base : Str) (known : List Str) (l : List ClD) (x : Ex) : Option D :=
  if x.cls ∈ known then
    match dCls base l x (List.replicate n .undef) with
    | .next ρ => match ρ[wi]? with
      | some (.imm d) => some d
      | _ => none
    | _ => none
  else none
def wordS (wd a : Str) (m : Str) (j : Nat) (h₀ : ExceptHandler) (hds : List ExceptHandler) (p1 p2 p3 p4 p5 p6 p7 p8 p9 : Pos) : List Stmt :=
  [.Assign [.Name wd p3] (.Constant (.str m) j p4) p5, .Try [.Expr (.Call (.Name a p1) [] [] p2) p6] (h₀ :: hds) [] [] p7, .Return (some (.Name wd p8)) p9]
abbrev TTt := (XK → Hp → VK → Prop) → Hp → VK → Prop
def TTw (K : PySem.W.Frag) (mg : Str → Option Value) (n wi : Nat) (base : Str) (known : List Str) (l : List ClD) (m : Str) : TTt := fun tl H Q =>
  ∃ (F : Fx) (G : Hp) (σ : L2.St), ∀ P : Hp → Prop, (∀ H', Q (.str m) H' → P H') →
    tl (fun cls d H' => ∃ (G' : Hp) (x : Ex) (ρ1 : Rho) (dv : D), SI K F G' H' σ ρ1 ∧ ExOk K mg G' H' x cls d ∧ dWord n wi base known l x = some dv ∧ ∀ G'' H'' v, SI K F G'' H'' σ ρ1 → Sub G' G'' → Rp K G'' v dv → Q v H'') H (fun _ H' => P H')
abbrev wCx (X : Cx) (Ng : List Str) (x : Str) (sg : Scope) (g : Addr) (cdg : Value) (s : Shared) (H : Hp) : Cx := (cxOf C8.CX0 X.prog X.w X.K X.mg X.base Ng x sg g cdg X.A X.stack s H C8.E0).nox
theorem word_gives {X : Cx} {Ng : List Str} {x a wd q m base : Str} {known : List Str} {sg : Scope} {g : Addr} {cdg : Value} {wi j n : Nat} {h₀ : ExceptHandler} {hds : List ExceptHandler} {l : List ClD} {p1 p2 p3 p4 p5 p6 p7 p8 p9 : Pos}
    (hN : Ng.Nodup) (hl : Ng.length = n) (h0n : 0 < n) (hwi : Ng[wi]? = some wd) (hw0 : wi ≠ 0) (hwl : sg.names.lookup wd = some .local) (hwd : (wd == ("__debug__" : Str)) = false) (hwc : (wd == ("__classdict__" : Str)) = false)
    (hH : ∀ (s : Shared) (H : Hp), HdsD (wCx X Ng x sg g cdg s H) base known (h₀ :: hds) l)
    (hs1 : ∀ (s : Shared) (H : Hp), swapsWith (.Constant (.str m) j p4) (some (.Name wd p3)) p5.line (wCx X Ng x sg g cdg s H).env = pure false) :
    LamX.GivesTo X Ng x sg g cdg (wordS wd a m j h₀ hds p1 p2 p3 p4 p5 p6 p7 p8 p9) a q (TTw X.K X.mg n wi base known l m) := by
  intro f c' s H Q tl act hc h
  obtain ⟨F, G, σc, h⟩ := h
  obtain ⟨l', hm, hw⟩ := hds_make (hH s H)
  have hwi' : wi < n := by rw [← hl]; exact (List.getElem?_eq_some_iff.mp hwi).1
  have hvis : Vis (wCx X Ng x sg g cdg s H).env.scope wd := .inl hwl
  refine ⟨_, pss_cons (ps_set (X := wCx X Ng x sg g cdg s H) (i := wi) hN hwi (.inl hwl) pe_str (hs1 s H) (.inr hwl))
    (pss_cons (ps_try_multi (X := wCx X Ng x sg g cdg s H) (Wout := fun _ _ _ _ => False)
      (tb := fun W D σ H => ∃ Ech : XK, (∀ cls d σ' H', Ech cls d H' → W cls d σ' H') ∧ σ[0]? = some (some (.ref f)) ∧ H c' = some (LamX.CodeO c' q) ∧ tl Ech H (fun _ H1 => D.nx σ H1))
      rfl rfl hN LamX.takes0 (fun W pn xe tk _ => ?_) hm) (pss_one (ps_ret (pe_var (X := wCx X Ng x sg g cdg s H) (i := wi) hwi hvis hwd hwc)))), ?_⟩
  · refine ⟨fun pins s' σ H' D I h' => ?_⟩
    obtain ⟨Ech, hW, h1, h2, h3⟩ := h'
    have hp := act W pn xe Ech p1 p2 tk hW
    have hq := pss_one (ps_expr (pos := p6) hp (by rfl))
    exact hq.run pins s' σ H' D I ⟨h1, h2, h3⟩
  · have hst : (L2.start Ng [V.ref f]).length = n := by
      unfold L2.start
      rw [List.length_append, List.length_map, List.length_replicate, hl]
      show 1 + (n - 1) = n
      omega
    have h0 : ((L2.start Ng [V.ref f]).set wi (some (.str m)))[0]? = some (some (.ref f)) := by
      rw [List.getElem?_set_ne hw0]
      rfl
    refine ⟨fun cls d H' => ∃ (G' : Hp) (x : Ex) (ρ1 : Rho) (dv : D), SI X.K F G' H' σc ρ1 ∧ ExOk X.K X.mg G' H' x cls d ∧ dWord n wi base known l x = some dv ∧ ∀ G'' H'' v, SI X.K F G'' H'' σc ρ1 → Sub G' G'' → Rp X.K G'' v dv → Q v H'', ?_, h0, hc, h _ fun H' hq => ⟨_, ?_, hq⟩⟩
    · intro cls d σ' H' ⟨G', x, ρ1, dv, I1, ex, ew, k⟩ hlen
      have hlen : σ'.length = n := hlen.trans hl
      have I0 := I1.fresh σ'
      rw [hlen] at I0
      unfold dWord at ew
      split at ew
      case isFalse => cases ew
      rename_i hk
      refine hw _ G' H' σ' _ x cls d _ _ I0 ex hk ?_
      split at ew
      case h_2 => cases ew
      rename_i ρ' eo
      rw [eo]
      intro G'' H'' σ'' I'' s''
      split at ew
      case h_2 => cases ew
      rename_i d' ei
      cases ew
      obtain ⟨v, e1, e2⟩ := I''.sl wi _ ei
      exact ⟨v, e1, k G'' H'' v (I1.after (hd := none) (a0 := 0) (ds0 := []) (fun i z => (by cases z)) (fun k a z => (by cases z)) I'' rfl) s'' e2⟩
    · rw [List.getElem?_set_self (by rw [hst]; exact hwi')]
end Pf

/-! Pf17: the call of such a def with a lambda. -/
namespace Pf
open PySem PySem.Spec PyProof.Rows L2

/-- what is known of the def word = 'let' / try: call() / .. / return word -/
structure WordK (P : Program) (w : World) (K : PySem.W.Frag) (mg : Str → Option Value) (base : Heap) (x : Str) (n wi : Nat) (eb : Str) (known : List Str) (l : List ClD) (m : Str) : Prop where
  ex : ∃ (st : Stmt) (g : Addr) (fd : FuncData) (Ng : List Str) (a : Str), L2.Fun K x x st g fd ∧ mg x = some (.ref g) ∧ Binds K fd [a] [] ∧ FnScope Ng [a] (defScope st) ∧ Ng[0]? = some a ∧ Vis (defScope st) a ∧ (a == ("__debug__" : Str)) = false ∧ (a == ("__classdict__" : Str)) = false ∧
    ∀ (X : Cx) (q : Str) (cdg : Value), Room 1 X.A → X.prog = P → X.w = w → X.K = K → X.mg = mg → X.base = base → LamX.GivesTo X Ng x (defScope st) g cdg (defBody st) a q (TTw K mg n wi eb known l m)
def dLam (n wi : Nat) (eb : Str) (known : List Str) (l : List ClD) (m : Str) (T : List (Addr × Str)) (i0 : Nat) (db : Rho → R D) (ρ : Rho) : R D :=
  match ρ[i0]? with
  | some (.scr _ T') => if T' = T ∧ T ≠ [] then
      (match db ρ with
      | .ok _ ρ1 => .ok (.str m) ρ1
      | .err x ρ1 => lift (dWord n wi eb known l x) ρ1
      | .bad => .bad) else .bad
  | _ => .bad
theorem je_word {X : Cx} {W : WX} {x eb m : Str} {n wi k i0 : Nat} {known : List Str} {l : List ClD} {T : List (Addr × Str)} {c P : Addr} {params : Arguments} {body : Expr} {scope : Scope} {db : Rho → R D} {p lpos pos : Pos} (WF : WordK X.prog X.w X.K X.mg X.base x n wi eb known l m)
    (hg : Gl X x) (TB : LamX.TabB X.base X.mg c P) (hcode : X.env.code = .ref c) (hmT : (P, X.env.qual ++ "<lambda>") ∈ T) (hu : ∀ p ∈ T, p.1 = P → p.2 = X.env.qual ++ "<lambda>") (hr : Room (k + 2) X.A) (L : LamX.LamS X.env.scope scope) (hdef : defaultsOf params X.env = ([], []))
    (hbind : ∀ (q : Str) (cl : List (Str × Addr)) (pm cv ctv : Value), bindArgs (PySem.W.kla_fn "<lambda>" q params body scope cl pm cv ctv) ⟨[], []⟩ = pure [])
    (hbody : ∀ (A : Around) (outer : List Env) (s : Shared) (H : Hp) (E : XK) (f c' : Addr), Room k (A.deeper (LamX.lamEnv X scope s.heap.objs.size f c')) → JE (LamX.lamCx X A outer s H E scope f c') (fun cls d _ H' => E cls d H') body db)
    (hdb : (x == ("__debug__" : Str)) = false := by decide) : JE X W (.Call (.Name x p) [.Lambda params body scope lpos] [] pos) (dLam n wi eb known l m T i0 db) := by
  obtain ⟨st, g, fd, Ng, a, Fw, hm, hb, Sg, hNg, hva, hd, hcd, hG⟩ := WF.ex
  obtain ⟨oc, od, kV, doc, pm, an, cdv, ct, osl, rfl, lk, hcg⟩ := Fw.ex
  have t_ok : ∀ (E : XK), (∀ (A : Around) (outer : List Env) (s : Shared) (H : Hp) (f c' : Addr), Room k (A.deeper (LamX.lamEnv X scope s.heap.objs.size f c')) →
      PE (LamX.lamCx X A outer s H E scope f c') body (fun σ H0 Q => ∀ (A : Around) (outer : List Env) (s : Shared) (H : Hp) (f c' : Addr) (hr : Room k (A.deeper (LamX.lamEnv X scope s.heap.objs.size f c'))), Classical.choose (hbody A outer s H E f c' hr) σ H0 Q)) :=
    fun E A outer s H f c' hr => ⟨fun pins s1 σ H0 Q I h => (Classical.choose_spec (hbody A outer s H E f c' hr)).1.run pins s1 σ H0 Q I (h A outer s H f c' hr)⟩
  refine ⟨_, LamX.pe_lamcall (T := T) (TT := TTw X.K X.mg n wi eb known l m) (t := fun E σ H0 Q => ∀ (A : Around) (outer : List Env) (s : Shared) (H : Hp) (f c' : Addr) (hr : Room k (A.deeper (LamX.lamEnv X scope s.heap.objs.size f c'))), Classical.choose (hbody A outer s H E f c' hr) σ H0 Q)
    hg hm Fw.kp lk hcg hb Sg hNg hva (hG X _ cdv (hr.mono (by omega)) rfl rfl rfl rfl rfl) TB hcode hmT hu hr L hdef hbind (fun A outer s H E f c' hr => t_ok E A outer s H f c' hr) hdb hd hcd, fun F G H σ ρ Q I p => ?_⟩
  unfold dLam at p
  split at p
  case h_2 => exact p.elim
  rename_i ns T' e0
  split at p
  case isFalse => exact p.elim
  rename_i hT
  obtain ⟨_, hT2⟩ := I.sl i0 _ e0
  have eT : T = F.T := by rw [← hT.1]; exact hT2 (by rw [hT.1]; exact hT.2)
  refine ⟨by rw [eT]; exact I.tb, fun H1 eN T1 => ⟨F, G, σ, fun P' hP A outer s H0 f c' hr => ?_⟩⟩
  have I1 : SI X.K F G H1 σ ρ := I.ext eN (by rw [← eT]; exact T1)
  refine (Classical.choose_spec (hbody A outer s H0 _ f c' hr)).2 F G H1 σ ρ _ I1 ?_
  cases q : db ρ with
  | ok d ρ1 =>
    rw [q] at p
    exact fun G' H' b I' s' _ => hP H' (p G' H' _ I' s' (.s m))
  | err ex ρ1 =>
    rw [q] at p
    obtain ⟨dv, ew, p⟩ := Post.lift p
    exact fun G' H' cls dd I' s' hx => ⟨G', ex, ρ1, dv, I', hx, ew, fun G'' H'' v I'' s'' r => p G'' H'' v I'' (s'.tr s'') r⟩
  | bad => rw [q] at p; exact p.elim
end Pf

/-! Pf18: while, pairs, new lists. -/
namespace Pf
open PySem PySem.Spec PyProof.Rows L2

/-! ### while -/
def dWhile (c : Rho → R Bool) (b : Rho → Out) : Nat → Rho → Out
  | 0, _ => .bad
  | n + 1, ρ => (c ρ).out fun k ρ1 => if k = true then
      (match b ρ1 with
      | .next ρ2 => dWhile c b n ρ2
      | .cont ρ2 => dWhile c b n ρ2
      | .brk ρ2 => .next ρ2
      | o => o) else .next ρ1
theorem js_while {X : Cx} {W : WX} {c : Expr} {bodyS : List Stmt} {dc : Rho → R Bool} {body : Rho → Out} {pos : Pos} (fuel : Nat) (hp : PassesOwn (model X.prog X.w) X.A X.env X.xe) (hc : JT X W c dc) (hb : JSs X W bodyS body) : JS X W (.While c bodyS [] pos) (dWhile dc body fuel) := by
  obtain ⟨tc, hc, kc⟩ := hc
  obtain ⟨tb, hb, kb⟩ := hb
  refine ⟨_, ps_while hp hc hb, fun F G H σ ρ D I p => ⟨fun m σ' H' => ∃ G' ρ', SI X.K F G' H' σ' ρ' ∧ Sub G G' ∧ SPost X.K X.mg F G' W D (dWhile dc body m ρ'), ⟨fuel, G, ρ, I, Sub.rfl' _, p⟩, fun m σ' H' ⟨G', ρ', I', s', p'⟩ => ?_⟩⟩
  cases m with
  | zero => exact p'.elim
  | succ n =>
    unfold dWhile at p'
    refine kc F G' H' σ' ρ' _ I' (SPost.bind (rel := relT) p' fun k ρ1 G1 H1 k' I1 s1 r1 p1 => ?_)
    obtain rfl : k' = k := r1
    cases k' with
    | false => rw [if_neg Bool.false_ne_true] at p1 ⊢; exact p1 G1 H1 _ I1 (Sub.rfl' _)
    | true =>
      rw [if_pos rfl] at p1 ⊢
      refine ⟨fun σ2 H2 => ∃ G2 ρ2, SI X.K F G2 H2 σ2 ρ2 ∧ Sub G G2 ∧ SPost X.K X.mg F G2 W D (dWhile dc body n ρ2), fun σ2 H2 h => ⟨n, Nat.lt_succ_self n, h⟩, kb F G1 H1 σ' ρ1 _ I1 ?_⟩
      cases q : body ρ1 with
      | next ρ3 => rw [q] at p1; exact fun G3 H3 σ3 I3 s3 => ⟨G3, ρ3, I3, (s'.tr s1).tr s3, SPost.mono s3 p1⟩
      | cont ρ3 => rw [q] at p1; exact fun G3 H3 σ3 I3 s3 => ⟨G3, ρ3, I3, (s'.tr s1).tr s3, SPost.mono s3 p1⟩
      | brk ρ3 => rw [q] at p1; exact p1
      | ret d ρ3 => rw [q] at p1; exact p1
      | retN d ρ3 => rw [q] at p1; exact p1
      | err d ρ3 => rw [q] at p1; exact p1
      | bad => rw [q] at p1; exact p1

/-! ### target = e, any target -/
def dAsg (b : Bd) (e : Rho → R D) (ρ : Rho) : Out := (e ρ).out fun d ρ1 => match b d ρ1 with
  | some ρ2 => .next ρ2
  | none => .bad
def isIo (ρ : Rho) (i : Nat) : Bool := match ρ[i]? with
  | some (.io _) => true
  | _ => false
/-- a, b = e, f -/
def dParEE (i j : Nat) (a b : Rho → R D) (ρ : Rho) : Out := (a ρ).out fun x ρ1 => (b ρ1).out fun y ρ2 => if (isIo ρ2 i || isIo ρ2 j) = true then .bad else .next ((ρ2.set i (.imm x)).set j (.imm y))
def dParEN (i j : Nat) (a : Rho → R D) (b : Rho → R (List D)) (ρ : Rho) : Out := (a ρ).out fun x ρ1 => (b ρ1).out fun y ρ2 => if (isIo ρ2 i || isIo ρ2 j) = true then .bad else .next ((ρ2.set i (.imm x)).set j (.own y))
def dParNN (i j : Nat) (a : Rho → R (List D)) (b : Rho → R (List D)) (ρ : Rho) : Out := (a ρ).out fun x ρ1 => (b ρ1).out fun y ρ2 => if (isIo ρ2 i || isIo ρ2 j) = true then .bad else .next ((ρ2.set i (.own x)).set j (.own y))
def dParNE (i j : Nat) (a : Rho → R (List D)) (b : Rho → R D) (ρ : Rho) : Out := (a ρ).out fun x ρ1 => (b ρ1).out fun y ρ2 => if (isIo ρ2 i || isIo ρ2 j) = true then .bad else .next ((ρ2.set i (.own x)).set j (.imm y))
theorem R.out_bind {α β : Type} (r : R α) (f : α → Rho → R β) (g : β → Rho → Out) : (r.out fun x ρ1 => (f x ρ1).out g) = (r.bind f).out g := by
  cases r <;> rfl
section
variable {K : PySem.W.Frag} {F : Fx} {G G' H H' : Hp} {σ : L2.St} {ρ ρ' : Rho}
theorem NewL.setImm {a : Addr} {ds : List D} {v : V} {i : Nat} {d : D} (n : NewL K F G H σ ρ a ds) : NewL K F G H (σ.set i (some v)) (ρ.set i (.imm d)) a ds :=
  ⟨n.h, n.g, n.z, fun j es e z => by
    by_cases hj : j = i
    · subst hj
      have hl : j < ρ.length := by
        have := (List.getElem?_eq_some_iff.mp e).1
        simpa using this
      rw [List.getElem?_set_self hl] at e
      cases e
    · rw [List.getElem?_set_ne (Ne.symm hj)] at e z
      exact n.sl j es e z⟩
theorem NewL.setOwn {a b : Addr} {ds es : List D} {i : Nat} (n : NewL K F G H σ ρ a ds) (ne : b ≠ a) : NewL K F G H (σ.set i (some (V.ref b))) (ρ.set i (.own es)) a ds :=
  ⟨n.h, n.g, n.z, fun j fs e z => by
    by_cases hj : j = i
    · subst hj
      have hl : j < σ.length := by
        have := (List.getElem?_eq_some_iff.mp z).1
        simpa using this
      rw [List.getElem?_set_self hl] at z
      cases z
      exact ne rfl
    · rw [List.getElem?_set_ne (Ne.symm hj)] at e z
      exact n.sl j fs e z⟩
end
def dCatN (a b : Rho → R D) (ρ : Rho) : R (List D) := (a ρ).bind fun x ρ1 => (b ρ1).bind fun y ρ2 =>
  match x, y with
  | .list xs, .list ys => if xs.length + ys.length ≤ sizeLine then .ok (xs ++ ys) ρ2 else .bad
  | _, _ => .bad
def dCatNO (i : Nat) (b : Rho → R D) (ρ : Rho) : R (List D) :=
  match ρ.lst? i with
  | none => .bad
  | some _ => (b ρ).bind fun y ρ2 =>
    match ρ2.lst? i, y with
    | some xs, .list ys => if xs.length + ys.length ≤ sizeLine then .ok (xs ++ ys) ρ2 else .bad
    | _, _ => .bad
def dListN (a : Rho → R D) (ρ : Rho) : R (List D) := (a ρ).bind fun x ρ1 =>
  match x with
  | .list xs => .ok xs ρ1
  | .tuple xs => .ok xs ρ1
  | _ => .bad
section
variable {X : Cx} {W : WX} {a b e : Expr} {da db : Rho → R D} {na nb : Rho → R (List D)} {pos p1 p2 p3 pt : Pos} {x y : Str} {kt k2 : Nat} {pt2 : Pos}
theorem js_asg {tg : Expr} {ixs : List Nat} {bd : Bd} (he : JE X W e da) (hg : JG X tg ixs bd) (hs : swapsWithSole [tg] e pos.line X.env = pure false := by rfl) (hw : swappedStores [tg] e X.env = pure none := by rfl)
    (h1 : (assignEach [tg] X.env).map (·.2) = [assign tg X.env] := by rfl) : JS X W (.Assign [tg] e pos) (dAsg bd da) := by
  obtain ⟨t, ht, k⟩ := he
  obtain ⟨g, hg, kg⟩ := hg
  refine ⟨_, ps_asg ht hg hs hw h1, fun F G H σ ρ D I p => k F G H σ ρ _ I (SPost.bind (rel := relE X.K) p fun d ρ1 G1 H1 v I1 s1 r1 p1 => ?_)⟩
  split at p1
  · rename_i ρ2 e2
    exact kg F G1 H1 σ ρ1 v d ρ2 _ I1 r1 e2 fun σ' I' _ => p1 G1 H1 σ' I' (Sub.rfl' _)
  · exact p1.elim
theorem js_parEE (i j : Nat) {px py : Pos} (hc : X.calm = true) (hN : X.N.Nodup) (ha : JE X W a da) (hb : JE X W b db) (hi : X.N[i]? = some x := by rfl) (hj : X.N[j]? = some y := by rfl) (hij : i ≠ j := by decide)
    (hx : X.env.scope.names.lookup x = some .local := by rfl) (hy : X.env.scope.names.lookup y = some .local := by rfl)
    (hw : swappedStores [.Tuple [.Name x px, .Name y py] kt pt] (.Tuple [a, b] k2 pt2) X.env = pure (some [x, y]) := by rfl) (hs : swapsWithSole [.Tuple [.Name x px, .Name y py] kt pt] (.Tuple [a, b] k2 pt2) pos.line X.env = pure false := by rfl)
    (hs1 : starEach [a, b] X.env = (false, eval a X.env) :: starEach [b] X.env := by rfl) (hs2 : starEach [b] X.env = (false, eval b X.env) :: starEach [] X.env := by rfl) :
    JS X W (.Assign [.Tuple [.Name x px, .Name y py] kt pt] (.Tuple [a, b] k2 pt2) pos) (dParEE i j da db) := by
  obtain ⟨t, ht, kt⟩ := ha
  obtain ⟨u, hu, ku⟩ := hb
  refine ⟨_, ps_par hc hN hi hj hij hx hy (pa_cons ht (pa_cons hu pa_nil hs2) hs1) hw hs, fun F G H σ ρ D I p => kt F G H σ ρ _ I (SPost.bind (rel := relE X.K) p fun d ρ1 G1 H1 v I1 s1 r1 p1 => ku F G1 H1 σ ρ1 _ I1 (SPost.bind (rel := relE X.K) p1 fun d2 ρ2 G2 H2 v2 I2 s2 r2 p2 => ?_))⟩
  split at p2
  · exact p2.elim
  · exact ⟨v, v2, rfl, p2 G2 H2 _ ((I2.setImm (Rp.mono s2 _ _ r1)).setImm r2) (Sub.rfl' _)⟩
theorem js_parEN (i j : Nat) {px py : Pos} (hc : X.calm = true) (hN : X.N.Nodup) (ha : JE X W a da) (hb : JN X W b nb) (hi : X.N[i]? = some x := by rfl) (hj : X.N[j]? = some y := by rfl) (hij : i ≠ j := by decide)
    (hx : X.env.scope.names.lookup x = some .local := by rfl) (hy : X.env.scope.names.lookup y = some .local := by rfl)
    (hw : swappedStores [.Tuple [.Name x px, .Name y py] kt pt] (.Tuple [a, b] k2 pt2) X.env = pure (some [x, y]) := by rfl) (hs : swapsWithSole [.Tuple [.Name x px, .Name y py] kt pt] (.Tuple [a, b] k2 pt2) pos.line X.env = pure false := by rfl)
    (hs1 : starEach [a, b] X.env = (false, eval a X.env) :: starEach [b] X.env := by rfl) (hs2 : starEach [b] X.env = (false, eval b X.env) :: starEach [] X.env := by rfl) :
    JS X W (.Assign [.Tuple [.Name x px, .Name y py] kt pt] (.Tuple [a, b] k2 pt2) pos) (dParEN i j da nb) := by
  obtain ⟨t, ht, kt⟩ := ha
  obtain ⟨u, hu, ku⟩ := hb
  refine ⟨_, ps_par hc hN hi hj hij hx hy (pa_cons ht (pa_cons hu pa_nil hs2) hs1) hw hs, fun F G H σ ρ D I p => kt F G H σ ρ _ I (SPost.bind (rel := relE X.K) p fun d ρ1 G1 H1 v I1 s1 r1 p1 => ku F G1 H1 σ ρ1 _ I1 (SPost.bind (rel := relN X.K) p1 fun d2 ρ2 G2 H2 v2 I2 s2 r2 p2 => ?_))⟩
  obtain ⟨c, rfl, n⟩ := r2
  split at p2
  · exact p2.elim
  · exact ⟨v, _, rfl, p2 G2 H2 _ ((I2.setImm (Rp.mono s2 _ _ r1)).setOwn n.setImm) (Sub.rfl' _)⟩
/-- a list that stands by itself through a further reading -/
theorem lent {K : PySem.W.Frag} {mg : Str → Option Value} {F : Fx} {G H : Hp} {σ : L2.St} {ρ : Rho} {α β : Type} {rel : Rel α β} {t : L2.St → Hp → (β → Hp → Prop) → Prop} {den : Rho → R α} (kt : ∀ F, ROK K mg F W rel t den) (I : SI K F G H σ ρ) {c : Addr} {ds : List D} (n : NewL K F G H σ ρ c ds) {Q : β → Hp → Prop}
    (p : ∀ vs, Post K mg (F.plus c vs) G σ W rel Q (den ρ)) : t σ H Q := by
  obtain ⟨⟨vs, h1, h2⟩, h3, h4, h5⟩ := n
  exact kt (F.plus c vs) G H σ ρ Q (I.lend h1 h3 h4 h5) (p vs)
theorem NewL.back {K : PySem.W.Frag} {F : Fx} {G G2 H H2 : Hp} {σ : L2.St} {ρ ρ2 : Rho} {c : Addr} {ds : List D} {vs : List V} (I : SI K F G H σ ρ) (n : NewL K F G H σ ρ c ds) (hv : H c = some (.lst vs)) (I2 : SI K (F.plus c vs) G2 H2 σ ρ2) (s : Sub G G2) : SI K F G2 H2 σ ρ2 ∧ NewL K F G2 H2 σ ρ2 c ds := by
  obtain ⟨⟨vs', h1, h2⟩, h3, h4, h5⟩ := n
  rw [h1] at hv
  cases hv
  have hg0 : F.G0 c = none := by
    cases q : F.G0 c with
    | none => rfl
    | some o => rw [I.g0 c o q] at h3; cases h3
  obtain ⟨I3, k1, k2, k3⟩ := I2.unlend h4 hg0 (I.noW h4) (I.noTab h1)
  exact ⟨I3, ⟨⟨vs, k1, h2.mono s _ _⟩, k2, h4, k3⟩⟩
theorem js_parNN (i j : Nat) {px py : Pos} (hc : X.calm = true) (hN : X.N.Nodup) (ha : JN X W a na) (hb : JN X W b nb) (hi : X.N[i]? = some x := by rfl) (hj : X.N[j]? = some y := by rfl) (hij : i ≠ j := by decide)
    (hx : X.env.scope.names.lookup x = some .local := by rfl) (hy : X.env.scope.names.lookup y = some .local := by rfl)
    (hw : swappedStores [.Tuple [.Name x px, .Name y py] kt pt] (.Tuple [a, b] k2 pt2) X.env = pure (some [x, y]) := by rfl) (hs : swapsWithSole [.Tuple [.Name x px, .Name y py] kt pt] (.Tuple [a, b] k2 pt2) pos.line X.env = pure false := by rfl)
    (hs1 : starEach [a, b] X.env = (false, eval a X.env) :: starEach [b] X.env := by rfl) (hs2 : starEach [b] X.env = (false, eval b X.env) :: starEach [] X.env := by rfl) :
    JS X W (.Assign [.Tuple [.Name x px, .Name y py] kt pt] (.Tuple [a, b] k2 pt2) pos) (dParNN i j na nb) := by
  obtain ⟨t, ht, kt⟩ := ha
  obtain ⟨u, hu, ku⟩ := hb
  refine ⟨_, ps_par hc hN hi hj hij hx hy (pa_cons ht (pa_cons hu pa_nil hs2) hs1) hw hs, fun F G H σ ρ D I p => kt F G H σ ρ _ I (SPost.bind (rel := relN X.K) p fun d ρ1 G1 H1 v I1 s1 r1 p1 => ?_)⟩
  obtain ⟨c, rfl, n⟩ := r1
  obtain ⟨vs, hv, rv⟩ := id n.h
  refine ku (F.plus c vs) G1 H1 σ ρ1 _ (I1.lend hv n.g n.z n.sl) ?_
  cases q : nb ρ1 with
  | ok d2 ρ2 =>
    rw [q] at p1
    intro G2 H2 v2 I2' s2 r2
    obtain ⟨I2, n2⟩ := NewL.back I1 n hv I2' s2
    obtain ⟨c2, rfl, m⟩ := r2
    have ne : c ≠ c2 := fun z => by
      subst z
      have := m.z
      have : upd F.H0 c (HO.lst vs) c = none := this
      rw [upd_same] at this; cases this
    have m' : NewL X.K F G2 H2 σ ρ2 c2 d2 := ⟨m.h, m.g, by
      have := m.z
      have : upd F.H0 c (HO.lst vs) c2 = none := this
      rw [upd_ne (Ne.symm ne)] at this; exact this, m.sl⟩
    have p1 : SPost X.K X.mg F G1 W D (if (isIo ρ2 i || isIo ρ2 j) = true then .bad else .next ((ρ2.set i (.own d)).set j (.own d2))) := p1
    split at p1
    · exact p1.elim
    · exact ⟨_, _, rfl, p1 G2 H2 _ ((I2.setOwn n2).setOwn (m'.setOwn ne)) s2⟩
  | err z ρ2 =>
    rw [q] at p1
    intro G2 H2 cls dd I2' s2 hx
    obtain ⟨I2, n2⟩ := NewL.back I1 n hv I2' s2
    exact p1 G2 H2 σ cls dd I2 s2 hx
  | bad => rw [q] at p1; exact p1.elim
theorem js_parNE (i j : Nat) {px py : Pos} (hc : X.calm = true) (hN : X.N.Nodup) (ha : JN X W a na) (hb : JE X W b db) (hi : X.N[i]? = some x := by rfl) (hj : X.N[j]? = some y := by rfl) (hij : i ≠ j := by decide)
    (hx : X.env.scope.names.lookup x = some .local := by rfl) (hy : X.env.scope.names.lookup y = some .local := by rfl)
    (hw : swappedStores [.Tuple [.Name x px, .Name y py] kt pt] (.Tuple [a, b] k2 pt2) X.env = pure (some [x, y]) := by rfl) (hs : swapsWithSole [.Tuple [.Name x px, .Name y py] kt pt] (.Tuple [a, b] k2 pt2) pos.line X.env = pure false := by rfl)
    (hs1 : starEach [a, b] X.env = (false, eval a X.env) :: starEach [b] X.env := by rfl) (hs2 : starEach [b] X.env = (false, eval b X.env) :: starEach [] X.env := by rfl) :
    JS X W (.Assign [.Tuple [.Name x px, .Name y py] kt pt] (.Tuple [a, b] k2 pt2) pos) (dParNE i j na db) := by
  obtain ⟨t, ht, kt⟩ := ha
  obtain ⟨u, hu, ku⟩ := hb
  refine ⟨_, ps_par hc hN hi hj hij hx hy (pa_cons ht (pa_cons hu pa_nil hs2) hs1) hw hs, fun F G H σ ρ D I p => kt F G H σ ρ _ I (SPost.bind (rel := relN X.K) p fun d ρ1 G1 H1 v I1 s1 r1 p1 => ?_)⟩
  obtain ⟨c, rfl, n⟩ := r1
  obtain ⟨vs, hv, rv⟩ := id n.h
  refine ku (F.plus c vs) G1 H1 σ ρ1 _ (I1.lend hv n.g n.z n.sl) ?_
  cases q : db ρ1 with
  | ok d2 ρ2 =>
    rw [q] at p1
    intro G2 H2 v2 I2' s2 r2
    obtain ⟨I2, n2⟩ := NewL.back I1 n hv I2' s2
    have p1 : SPost X.K X.mg F G1 W D (if (isIo ρ2 i || isIo ρ2 j) = true then .bad else .next ((ρ2.set i (.own d)).set j (.imm d2))) := p1
    split at p1
    · exact p1.elim
    · exact ⟨_, _, rfl, p1 G2 H2 _ ((I2.setOwn n2).setImm r2) s2⟩
  | err z ρ2 =>
    rw [q] at p1
    intro G2 H2 cls dd I2' s2 hx
    obtain ⟨I2, n2⟩ := NewL.back I1 n hv I2' s2
    exact p1 G2 H2 σ cls dd I2 s2 hx
  | bad => rw [q] at p1; exact p1.elim
/-- x = [.. for ..], x a plain local -/
theorem js_setLc (i : Nat) {elt tg iter : Expr} {ifs : List Expr} {scope : Scope} {own : List (Str × Nat)} {py spos : Pos} {it : Rho → R (List D)} {ixs : List Nat} {bind : Bd} {cond : Rho → R Bool} {de : Rho → R D} (hc : X.calm = true) (hN : X.N.Nodup) (hi : JI X W tg iter it) (ok : BlkOk X.N X.env.scope scope own)
    (hg : ∀ b : Blk, JG (b.cx X scope) tg ixs bind) (ht : ∀ b : Blk, JTs (b.cx X scope) ifs cond) (he : ∀ b : Blk, JE (b.cx X scope) W0 elt de) (hix : ∀ i ∈ ixs, i ∈ own.map (·.2) := by decide) (hy : X.N[i]? = some y := by rfl) (hyl : X.env.scope.names.lookup y = some .local := by rfl)
    (hsw : swapsWith (.ListComp elt [⟨tg, iter, ifs, 0⟩] scope pos) (some (.Name y py)) spos.line X.env = pure true := by rfl) (hs : ∀ x, foldedSetIterable iter X.env x = pure x := by intro _; rfl) :
    JS X W (.Assign [.Name y py] (.ListComp elt [⟨tg, iter, ifs, 0⟩] scope pos) spos) (dSetN i (dLc (own.map (·.2)) it bind cond de)) := by
  obtain ⟨wi, hi, ki⟩ := hi
  obtain ⟨g, tt, te, g1, t1, e1, g2, t2, e2⟩ := lc_parts hg ht he
  refine ⟨_, ps_setLc hc hN hy hyl hsw hi ok (fun s H C cl fp => g1 ⟨s, H, C, cl, fp⟩) (fun s H C cl fp => t1 ⟨s, H, C, cl, fp⟩) (fun s H C cl fp => e1 ⟨s, H, C, cl, fp⟩) hs, fun F G H σ ρ D I p => ?_⟩
  refine lc_run ki g2 t2 e2 hix F G H σ ρ _ I (SPost.bind (rel := relN X.K) p fun d ρ1 G1 H1 v I1 s1 r1 p1 => ?_)
  obtain ⟨a, e, n⟩ := r1
  subst e
  split at p1
  · exact p1.elim
  · exact p1 G1 H1 _ (I1.setOwn n) (Sub.rfl' _)
theorem jn_cat (ha : JE X W a da) (hb : JB X W b db) : JN X W (.BinOp a .Add b pos) (dCatN da db) := by
  obtain ⟨ta, ha, ka⟩ := ha
  obtain ⟨tb, hb, kb⟩ := hb
  refine ⟨_, pe_op op_cat ha hb, fun F G H σ ρ Q I p => ka F G H σ ρ _ I (p.bind fun x ρ1 G1 H1 v I1 s1 r1 p1 => kb F G1 H1 σ ρ1 _ I1 (p1.bind fun y ρ2 G2 H2 u I2 s2 r2 p2 => ?_))⟩
  split at p2
  · obtain ⟨q1, vs, rfl, e1, w1⟩ := Bw.lst (H := H2) (.inl (Rp.mono s2 _ _ r1)) I2.gH
    obtain ⟨q2, ws, rfl, e2, w2⟩ := Bw.lst r2 I2.gH
    split at p2
    · rename_i c
      refine ⟨q1, q2, vs, ws, rfl, rfl, e1, e2, by rw [w1.length, w2.length]; exact c, fun q hq => ?_⟩
      obtain ⟨I3, n⟩ := I2.newL hq (w1.app w2)
      exact p2 G2 _ _ I3 (Sub.rfl' _) ⟨q, rfl, n⟩
    · exact p2.elim
  · exact p2.elim
theorem jn_catO (i : Nat) (hb : JB X W b db) (hN : X.N[i]? = some x := by rfl) (hv : Vis X.env.scope x := by first | exact Or.inl rfl | exact Or.inr (Or.inl rfl) | exact Or.inr (Or.inr rfl)) (hd : (x == ("__debug__" : Str)) = false := by decide)
    (hcd : (x == ("__classdict__" : Str)) = false := by decide) : JN X W (.BinOp (.Name x p2) .Add b pos) (dCatNO i db) := by
  obtain ⟨tb, hb, kb⟩ := hb
  refine ⟨_, pe_op op_cat (pe_var (i := i) hN hv hd hcd) hb, fun F G H σ ρ Q I p => ?_⟩
  unfold dCatNO at p
  split at p
  · exact p.elim
  rename_i ds0 e0
  obtain ⟨a0, m1, _⟩ := I.at_ e0
  refine ⟨_, m1, kb F G H σ ρ _ I (p.bind fun y ρ2 G2 H2 u I2 s2 r2 p2 => ?_)⟩
  split at p2
  · rename_i xs ys e3
    obtain ⟨a3, n1, ⟨vs, n2, n3⟩, _⟩ := I2.at_ e3
    obtain rfl : a3 = a0 := by rw [m1] at n1; cases n1; rfl
    obtain ⟨q2, ws, rfl, e2, w2⟩ := Bw.lst r2 I2.gH
    split at p2
    · rename_i c
      refine ⟨_, q2, vs, ws, rfl, rfl, n2, e2, by rw [n3.length, w2.length]; exact c, fun q hq => ?_⟩
      obtain ⟨I3, n⟩ := I2.newL hq (n3.app w2)
      exact p2 G2 _ _ I3 (Sub.rfl' _) ⟨q, rfl, n⟩
    · exact p2.elim
  · exact p2.elim
end
end Pf

/-! Pf19: a loop over any source, list(x), defs by the head's facts. -/
namespace Pf
open PySem PySem.Spec PyProof.Rows L2

section
variable {P : Program} {w : World} {K : PySem.W.Frag} {mg : Str → Option Value} {base : Heap}
theorem fun_of {x : Str} {st : Stmt} {f : Addr} {fd : FuncData} (F : FunD K x x (defArgs st) (defBody st) (defScope st) [] [] f fd) : L2.Fun K x x st f fd := by
  obtain ⟨oc, od, dV, kV, doc, pm, an, cdv, ct, osl, e, lk, hcd, hD, hK⟩ := F.ex
  rcases hD with ⟨_, rfl⟩ | ⟨e, _⟩
  · exact ⟨⟨oc, od, kV, doc, pm, an, cdv, ct, osl, e, lk, hcd⟩, F.kp⟩
  · exact absurd rfl e
/-- a def of the head -/
theorem fnK_of {x : Str} {st : Stmt} {f : Addr} {N ps : List Str} {k n np : Nat} {body : Rho → Out} (F : ∃ fd, FunD K x x (defArgs st) (defBody st) (defScope st) [] [] f fd) (g : mg x = some (.ref f)) (S : FnScope N ps (defScope st)) (hn : N.length = n) (hp : ps.length = np)
    (hb : ∀ (kV doc pm : Value) (an : Option Addr) (cdv ct : Value) (us : List Value), us.length = ps.length → bindArgs (PySem.W.fnOf x x (defArgs st) (defBody st) (defScope st) .none kV doc pm an cdv ct) ⟨us, []⟩ = pure (ps.zip us))
    (hbody : ∀ (cdv : Value) (A : Around) (outer : List Env) (s : Shared) (H : Hp) (E : XK), Room k (A.deeper (envOfC x (defScope st) s.heap.objs.size f cdv)) →
      JSs (cxOf (L2.CX P w) P w K mg base N x (defScope st) f cdv A outer s H E) (fun cls d _ H' => E cls d H') (defBody st) body) : FnK P w K mg base x (k + 1) n np body := by
  obtain ⟨fd, F⟩ := F
  exact ⟨f, fd, ps, fnF (fun_of F) S hn hp hbody, g, F.kp, F.bindsN hb⟩
end
/-! ### a loop over a list, a tuple or a text -/
def iAny (K : PySem.W.Frag) (te : TE) : TI := fun σ H R => te σ H fun x H1 => (∃ a xs, x = .ref a ∧ SqL K H1 a xs ∧ R (Itl K a) H1) ∨ (∃ a xs, x = .ref a ∧ SqT K H1 a xs ∧ R (Itt K a) H1) ∨ ∃ z, x = .str z ∧ R (Its z) H1
theorem pi_any {X : Cx} {tg e : Expr} {te : TE} (he : PE X e te) : PI X tg e (iAny X.K te) := by
  refine ⟨fun pins s σ H R I h => ?_⟩
  refine thn (he.run pins s σ H _ I h) fun v s1 ⟨y, H1, I1, r1, q⟩ => ?_
  rcases q with ⟨a, xs, rfl, hq, q⟩ | ⟨a, xs, rfl, hq, q⟩ | ⟨x, rfl, q⟩
  · cases r1
    obtain ⟨its, rv, p, hz⟩ := I1.list hq
    refine wpAny_pyIter_list p.isList ?_
    refine ⟨s1.heap.objs.size, [s1.heap.objs.size], _, _, H1, rfl, I1.kept (t' := s1.toks) fun b o e => Heap.get?_push_of_some _ e, turn_list a _, ⟨_, Heap.get?_push_size _ rfl, rfl, rfl⟩, fun b hb => ?_, q⟩
    have e : b = s1.heap.objs.size := by simpa using hb
    subst e
    exact I1.fpOk (Nat.le_refl _) (I1.hok.fresh (Nat.le_refl _))
  · cases r1
    obtain ⟨its, rv, p, hz⟩ := I1.tuple hq
    refine wpAny_pyIter_tuple (show s1.heap.IsTuple a its.toArray from p) ?_
    refine ⟨s1.heap.objs.size, [s1.heap.objs.size], _, _, H1, rfl, I1.kept (t' := s1.toks) fun b o e => Heap.get?_push_of_some _ e, turn_tuple a _, ⟨_, Heap.get?_push_size _ rfl, rfl, rfl⟩, fun b hb => ?_, q⟩
    have e : b = s1.heap.objs.size := by simpa using hb
    subst e
    exact I1.fpOk (Nat.le_refl _) (I1.hok.fresh (Nat.le_refl _))
  · obtain ⟨t, rfl⟩ := r1
    cases ha : x.cps.all (· < 128)
    · exact wpAny_pyIter_wide ha (pi_one (tk := s1.toks) I1 _ (turn_str _ x t "str_iterator" (.inr rfl)) ⟨_, Heap.get?_push_size _ rfl, rfl, rfl⟩ q)
    · exact wpAny_pyIter_ascii ha (pi_one (tk := s1.toks) I1 _ (turn_str _ x t "str_ascii_iterator" (.inl rfl)) ⟨_, Heap.get?_push_size _ rfl, rfl, rfl⟩ q)
def dSrc (a : Rho → R D) (ρ : Rho) : R (List D) := (a ρ).bind fun d ρ1 => lift (seqD d) ρ1
theorem ji_any {X : Cx} {W : WX} {tg a : Expr} {da : Rho → R D} (ha : JE X W a da) : JI X W tg a (dSrc da) := by
  obtain ⟨t, ht, k⟩ := ha
  refine ⟨_, pi_any ht, fun F G H σ ρ Q I p => k F G H σ ρ _ I (p.bind fun d ρ1 G1 H1 v I1 s1 r1 p1 => ?_)⟩
  cases d with
  | list ds =>
    cases r1 with
    | l e r =>
      rename_i ad vs
      refine .inl ⟨ad, vs, rfl, .inl (.inl (I1.gH _ _ e)), p1 G1 H1 _ I1 (Sub.rfl' _) ⟨fun H => SqL X.K H ad vs, YAt vs, ?_, ?_, ?_⟩⟩
      · rw [← r.length]; exact walk_list
      · exact fun G' H' s s' => .inl (.inl (s' _ _ (s _ _ e)))
      · intro i H x H' d hd y
        obtain ⟨v, h1, h2⟩ := r.get hd
        refine .inl ⟨y.1, ?_⟩
        have := y.2
        rw [h1] at this
        cases this
        exact h2
  | tuple ds =>
    cases r1 with
    | t e r =>
      rename_i ad vs
      refine .inr (.inl ⟨ad, vs, rfl, I1.gH.seqT e, p1 G1 H1 _ I1 (Sub.rfl' _) ⟨fun H => SqT X.K H ad vs, YAt vs, ?_, ?_, ?_⟩⟩)
      · rw [← r.length]; exact walk_tup
      · exact fun G' H' s s' => s'.seqT (s.seqT e)
      · intro i H x H' d hd y
        obtain ⟨v, h1, h2⟩ := r.get hd
        refine .inl ⟨y.1, ?_⟩
        have := y.2
        rw [h1] at this
        cases this
        exact h2
  | str z =>
    cases r1
    refine .inr (.inr ⟨z, rfl, p1 G1 H1 _ I1 (Sub.rfl' _) ⟨fun _ => True, fun i H v H' => H' = H ∧ ∃ c, z.cps[i]? = some c ∧ v = .str ⟨#[c]⟩, ?_, ?_, ?_⟩⟩)
    · rw [show (z.cps.toList.map fun c => PyData.str ⟨#[c]⟩).length = z.cps.size by simp]; exact walk_str
    · exact fun G' H' s s' => True.intro
    · intro i H x H' d hd y
      obtain ⟨e, c, h1, h2⟩ := y
      have : d = .str ⟨#[c]⟩ := by
        simp [h1] at hd
        exact hd.symm
      subst this
      exact .inl ⟨e, by rw [h2]; exact .s _⟩
  | _ => exact p1.elim
/-! ### list(x) -/
theorem jn_list {X : Cx} {W : WX} {b : Expr} {db : Rho → R D} {pos p1 : Pos} (hg : Gl X "list") (hm : X.mg "list" = none) (hb : JB X W b db) (hs : starEach [b] X.env = [(false, eval b X.env)] := by rfl) : JN X W (.Call (.Name "list" p1) [b] [] pos) (dListN db) := by
  obtain ⟨tb, hb, kb⟩ := hb
  refine ⟨_, pe_callTy call_list_of hg hm (by rfl) (pa_cons hb pa_nil hs) (by decide) (by decide) hs rfl, fun F G H σ ρ Q I p => kb F G H σ ρ _ I (p.bind fun d ρ1 G1 H1 v I1 s1 r1 p1 => ?_)⟩
  cases d with
  | list ds =>
    obtain ⟨q1, vs, rfl, e1, w1⟩ := Bw.lst r1 I1.gH
    refine ⟨q1, vs, rfl, .inl (.inl (.inl e1)), fun q hq => ?_⟩
    obtain ⟨I3, n⟩ := I1.newL hq w1
    exact p1 G1 _ _ I3 (Sub.rfl' _) ⟨q, rfl, n⟩
  | tuple ds =>
    obtain ⟨q1, vs, rfl, e1, w1⟩ := Bw.tup r1 I1.gH
    refine ⟨q1, vs, rfl, .inr e1, fun q hq => ?_⟩
    obtain ⟨I3, n⟩ := I1.newL hq w1
    exact p1 G1 _ _ I3 (Sub.rfl' _) ⟨q, rfl, n⟩
  | _ => exact p1.elim
end Pf

/-! Pf20: a slot read as it stands, whatever its kind. -/
namespace Pf
open PySem PySem.Spec PyProof.Rows L2

def Rho.rd (ρ : Rho) (i : Nat) : Option D :=
  match ρ[i]? with
  | some (.imm d) => some d
  | some (.own ds) => some (.list ds)
  | some (.io ds) => some (.list ds)
  | _ => none
theorem SI.rd {K : PySem.W.Frag} {F : Fx} {G H : Hp} {σ : L2.St} {ρ : Rho} (I : SI K F G H σ ρ) {i : Nat} {d : D} (h : ρ.rd i = some d) : ∃ v, σ[i]? = some (some v) ∧ Bw K G H v d := by
  unfold Rho.rd at h
  split at h
  · rename_i d' e
    cases h
    obtain ⟨v, h1, h2⟩ := I.sl i _ e
    exact ⟨v, h1, .inl h2⟩
  · rename_i ds e
    cases h
    obtain ⟨a, vs, h1, h2, h3, h4, h5⟩ := I.sl i _ e
    exact ⟨_, h1, .inr ⟨a, vs, ds, rfl, rfl, h2, h4⟩⟩
  · rename_i ds e
    cases h
    obtain ⟨a, vs, h1, h2, h3, h4, h5⟩ := I.sl i _ e
    exact ⟨_, h1, .inr ⟨a, vs, ds, rfl, rfl, h2, h4⟩⟩
  · cases h
def dRd (i : Nat) (ρ : Rho) : R D := lift (ρ.rd i) ρ
/-- the left side a slot, read behind the right side -/
def dOpR (f : D → D → Option D) (i : Nat) (b : Rho → R D) (ρ : Rho) : R D :=
  match ρ.rd i with
  | none => .bad
  | some _ => (b ρ).bind fun y ρ2 => lift ((ρ2.rd i).bind fun x => f x y) ρ2
def dSlR (i : Nat) (lo hi : Rho → R (Option Int)) (ρ : Rho) : R D :=
  match ρ.rd i with
  | none => .bad
  | some _ => (lo ρ).bind fun l ρ2 => (hi ρ2).bind fun h ρ3 => lift ((ρ3.rd i).bind fun x => dCut x l h) ρ3
section
variable {X : Cx} {W : WX} {a b c e : Expr} {da db dc : Rho → R D} {pos p2 p3 : Pos} {f : D → D → Option D} {x : Str}
theorem jb_rd (i : Nat) (hN : X.N[i]? = some x := by rfl) (hv : Vis X.env.scope x := by first | exact Or.inl rfl | exact Or.inr (Or.inl rfl) | exact Or.inr (Or.inr rfl)) (hd : (x == ("__debug__" : Str)) = false := by decide)
    (hcd : (x == ("__classdict__" : Str)) = false := by decide) : JB X W (.Name x pos) (dRd i) := by
  refine ⟨_, pe_var (i := i) hN hv hd hcd, fun F G H σ ρ Q I p => ?_⟩
  obtain ⟨d, e, p⟩ := Post.lift p
  obtain ⟨v, h1, h2⟩ := I.rd e
  exact ⟨v, h1, p G H v I (Sub.rfl' G) h2⟩
theorem rok_opR {r : R2} {tb : TE} {i : Nat} (ho : OpOK X.K r f) (kb : ∀ F, ROK X.K X.mg F W (relB X.K) tb db) (F : Fx) : ROK X.K X.mg F W (relE X.K) (tOp r (tVar i) tb) (dOpR f i db) := by
  intro G H σ ρ Q I p
  unfold dOpR at p
  split at p
  · exact p.elim
  · rename_i d0 e
    obtain ⟨v, h1, _⟩ := I.rd e
    refine ⟨v, h1, kb F G H σ ρ _ I (p.bind fun y ρ2 G2 H2 u I2 s2 r2 p2 => ?_)⟩
    cases q : ρ2.rd i with
    | none => rw [q] at p2; exact p2.elim
    | some d =>
      rw [q] at p2
      obtain ⟨v2, h2, h3⟩ := I2.rd q
      obtain rfl : v2 = v := by rw [h1] at h2; cases h2; rfl
      exact ho F G2 H2 σ ρ2 _ _ _ _ Q I2 h3 r2 p2.gives
theorem je_binR (i : Nat) {op : Operator} (o : JOp X (binaryOp op) f) (hb : JB X W b db) (hN : X.N[i]? = some x := by rfl) (hv : Vis X.env.scope x := by first | exact Or.inl rfl | exact Or.inr (Or.inl rfl) | exact Or.inr (Or.inr rfl)) (hd : (x == ("__debug__" : Str)) = false := by decide)
    (hcd : (x == ("__classdict__" : Str)) = false := by decide) : JE X W (.BinOp (.Name x p2) op b pos) (dOpR f i db) := by
  obtain ⟨r, h1, h2⟩ := o
  obtain ⟨tb, hb, kb⟩ := hb
  exact ⟨_, pe_op h1 (pe_var (i := i) hN hv hd hcd) hb, rok_opR h2 kb⟩
theorem je_cmpR (i : Nat) {op : CmpOp} (o : JOp X (compareOp op) f) (hb : JB X W b db) (hm : behindInMarks op b = false := by first | exact nobehind _ (by decide) (by decide) | rfl) (hN : X.N[i]? = some x := by rfl) (hv : Vis X.env.scope x := by first | exact Or.inl rfl | exact Or.inr (Or.inl rfl) | exact Or.inr (Or.inr rfl))
    (hd : (x == ("__debug__" : Str)) = false := by decide) (hcd : (x == ("__classdict__" : Str)) = false := by decide) : JE X W (.Compare (.Name x p2) [op] [b] pos) (dOpR f i db) := by
  obtain ⟨r, h1, h2⟩ := o
  obtain ⟨tb, hb, kb⟩ := hb
  exact ⟨_, pe_cmpR h1 (pe_var (i := i) hN hv hd hcd) hb hm, rok_opR h2 kb⟩
theorem jt_cmpR (i : Nat) {op : CmpOp} (o : JOp X (compareOp op) f) (hb : JB X W b db) (hm : behindInMarks op b = false := by first | exact nobehind _ (by decide) (by decide) | rfl) (hN : X.N[i]? = some x := by rfl) (hv : Vis X.env.scope x := by first | exact Or.inl rfl | exact Or.inr (Or.inl rfl) | exact Or.inr (Or.inr rfl))
    (hd : (x == ("__debug__" : Str)) = false := by decide) (hcd : (x == ("__classdict__" : Str)) = false := by decide) : JT X W (.Compare (.Name x p2) [op] [b] pos) (dBool (dOpR f i db)) := by
  obtain ⟨r, h1, h2⟩ := o
  obtain ⟨tb, hb, kb⟩ := hb
  exact ⟨_, pt_cmpR h1 (pe_var (i := i) hN hv hd hcd) hb hm, fun F => rok_B (rok_opR h2 kb F)⟩
theorem je_ixR (i : Nat) (hb : JB X W b db) (hs : PlainIx b := by exact fun _ _ => rfl) (hN : X.N[i]? = some x := by rfl) (hv : Vis X.env.scope x := by first | exact Or.inl rfl | exact Or.inr (Or.inl rfl) | exact Or.inr (Or.inr rfl))
    (hd : (x == ("__debug__" : Str)) = false := by decide) (hcd : (x == ("__classdict__" : Str)) = false := by decide) : JE X W (.Subscript (.Name x p2) b pos) (dOpR dIx i db) := by
  obtain ⟨tb, hb, kb⟩ := hb
  exact ⟨_, pe_ix ix_seq (pe_var (i := i) hN hv hd hcd) hb hs, rok_opR ok_ix kb⟩
theorem je_slR (i : Nat) {lo hi : Option Expr} {dl dh : Rho → R (Option Int)} (hl : JP X W lo dl) (hh : JP X W hi dh) (hN : X.N[i]? = some x := by rfl) (hv : Vis X.env.scope x := by first | exact Or.inl rfl | exact Or.inr (Or.inl rfl) | exact Or.inr (Or.inr rfl))
    (hd : (x == ("__debug__" : Str)) = false := by decide) (hcd : (x == ("__classdict__" : Str)) = false := by decide) : JE X W (.Subscript (.Name x p3) (.Slice lo hi none p2) pos) (dSlR i dl dh) := by
  obtain ⟨tl, hl, kl⟩ := hl
  obtain ⟨th, hh, kh⟩ := hh
  refine ⟨_, pe_slice (SlR.or sl_list (SlR.or sl_tupA sl_str)) (pe_var (i := i) hN hv hd hcd) hl hh, fun F G H σ ρ Q I p => ?_⟩
  unfold dSlR at p
  split at p
  · exact p.elim
  rename_i d0 e0
  obtain ⟨v, m1, _⟩ := I.rd e0
  refine ⟨_, m1, kl F G H σ ρ _ I (p.bind fun l ρ2 G2 H2 l' I2 s2 r2 p2 => ?_)⟩
  obtain rfl : l' = l := r2
  refine kh F G2 H2 σ ρ2 _ I2 (p2.bind fun h ρ3 G3 H3 h' I3 s3 r3 p3 => ?_)
  obtain rfl : h' = h := r3
  cases q : ρ3.rd i with
  | none => rw [q] at p3; exact p3.elim
  | some d =>
    rw [q] at p3
    obtain ⟨v2, h2, h3⟩ := I3.rd q
    obtain rfl : v2 = v := by rw [m1] at h2; cases h2; rfl
    exact ok_cut I3 h3 p3.gives
end
def dIadd : D → D → Option D
  | .int a, .int b => some (.int (a + b))
  | .str a, .str b => if a.length + b.length ≤ sizeLine then some (.str (a ++ b)) else none
  | _, _ => none
def rIadd : R2 := fun x y H Q => rI0 (fun i j => .int (i + j)) x y H Q ∨ (∃ i j, x = .str i ∧ y = .str j ∧ i.length + j.length ≤ sizeLine ∧ Q (.str (i ++ j)) H)
theorem op_iadd {X : Cx} : OpR X (inplaceOp .Add) rIadd := OpR.or iop_add iop_add_str
theorem ok_iadd {K : PySem.W.Frag} : OpOK K rIadd dIadd := fun F G H σ ρ x y d1 d2 Q I h1 h2 g => by
  unfold dIadd at g
  split at g
  · obtain rfl := h1.int
    obtain rfl := h2.int
    exact .inl ⟨_, _, rfl, rfl, g.here I rfl (.i _)⟩
  · obtain rfl := h1.str
    obtain rfl := h2.str
    split at g
    · rename_i c
      exact .inr ⟨_, _, rfl, rfl, c, g.here I rfl (.s _)⟩
    · exact g.no
  · exact g.no
theorem hu65 {k : Nat} {A : Around} (r : Room k A) : A.units + 65 < cLine := by have := r.un; omega
end Pf

/-! Pf21: from the head's facts to the law. -/
namespace Pf
open PySem PySem.Spec PyProof.Rows L2

theorem jeu_xfE {X : Cx} {i : Option Nat} {y f cn : Str} {p1 pos : Pos} (j : Nat) (h : ∃ C, X.mg cn = some (.ref C) ∧ XfC X.K C ∧ PySem.W.findIn X.K (.ref C) f = some none) (hij : i = some j) (hN : X.N[j]? = some y := by rfl) (hv : Vis X.env.scope y := by first | exact Or.inl rfl | exact Or.inr (Or.inl rfl) | exact Or.inr (Or.inr rfl))
    (hd : (y == ("__debug__" : Str)) = false := by decide) (hcd : (y == ("__classdict__" : Str)) = false := by decide) (hb : ∀ c : SuC, attributeBase (.Name y p1) f (c.cx X).env (eval (.Name y p1) (c.cx X).env) = eval (.Name y p1) (c.cx X).env := by intro _; rfl) :
    JEu X i (.Attribute (.Name y p1) f pos) (dXf cn f) := by
  obtain ⟨C, h1, h2, h3⟩ := h
  exact jeu_xf j h1 h2 h3 hij hN hv hd hcd hb
def qLam (x : Str) : Str := (x ++ ".<locals>.") ++ "<lambda>"

section
variable {P : Program} {w : World} {K : PySem.W.Frag} {mg : Str → Option Value} {base : Heap}
/-- the law's def, with the table of its lambdas -/
theorem fnL {x : Str} {st : Stmt} {N ps : List Str} {k n np : Nat} {body : Rho → Out} {fd : FuncData} (F : FunD K x x (defArgs st) (defBody st) (defScope st) [] [] (He.fAd K (x, none)) fd) (S : FnScope N ps (defScope st)) (hn : N.length = n) (hp : ps.length = np)
    (hbody : ∀ (c : Addr) (A : Around) (outer : List Env) (s : Shared) (H : Hp) (E : XK), c = (He.cT K (x, none)).1 → Room k (A.deeper (envOfC x (defScope st) s.heap.objs.size (He.fAd K (x, none)) (.ref c))) →
      JSs (cxOf (L2.CX P w) P w K mg base N x (defScope st) (He.fAd K (x, none)) (.ref c) A outer s H E) (fun cls d _ H' => E cls d H') (defBody st) body) : FnOk P w K mg base (L2.CX P w) (k + 1) (He.fAd K (x, none)) fd ps (spF K mg n np body) := by
  obtain ⟨oc, od, dV, kV, doc, pm, an, cdv, ct, osl, rfl, lk, hcd, _, _⟩ := F.ex
  obtain ⟨c, rfl⟩ := He.codeIn_ref hcd
  have ec : c = (He.cT K (x, none)).1 := (He.codeOf_eq lk rfl).symm
  refine fn_of lk hcd S (fun vs H Q E h => ?_) fun A outer s H vs Q E hr h => ?_
  · obtain ⟨G, w', T, ρ, h1, _⟩ := h
    rw [h1, hp]
  · obtain ⟨G, w', T, ρ, h1, I, p⟩ := h
    obtain ⟨t, ht, kt⟩ := hbody c A outer s H E ec hr
    refine ⟨t, ht, kt ⟨untab H, G, w', T⟩ G H _ ρ _ ?_ p⟩
    unfold L2.start
    rw [hn]
    exact I
/-- the promise at the law's own start -/
theorem law_start {n : Nat} {body : Rho → Out} {H : Hp} {a : Addr} {ns : List Int} {T : List (Addr × Str)} (hT : LamX.Tabs T H) (hS : SqL K H a (ns.map V.int)) (hn : 0 < n)
    (h : ∃ ρ', body (.scr ns T :: List.replicate (n - 1) .undef) = .ret (.bool true) ρ') : spF K mg n 1 body [.ref a] H (fun v _ => v = .bl true) (fun _ _ _ => False) := by
  obtain ⟨ρ', h⟩ := h
  have key : ∀ G : Hp, Sub G H → (∀ b o, G b = some o → ∃ vs, o = .lst vs) → (ScrOk K H a ns ∨ G a = some (HO.lst (ns.map V.int))) → spF K mg n 1 body [.ref a] H (fun v _ => v = .bl true) (fun _ _ _ => False) := fun G hG hl hs => by
    have hall : AllSl K ⟨untab H, G, fun _ => none, T⟩ G H 0 (.scr ns T :: List.replicate (n - 1) .undef) ([V.ref a].map some ++ List.replicate (n - 1) none) := ⟨⟨⟨a, rfl, hs⟩, fun _ => rfl⟩, AllSl.und _⟩
    refine ⟨G, fun _ => none, T, .scr ns T :: List.replicate (n - 1) .undef, rfl, ⟨hG, fun b ps e => ?_, Sub.rfl' _, fun a o e => .inl e, fun a o e _ => (at_untab e).1, fun a e => untab_none e, fun k a e => (by cases e), fun k a e => (by cases e), fun k l a e1 e2 => (by cases e1), hT, hall.len, fun i s e => by have := hall.get i s e; rw [Nat.zero_add] at this; exact this, fun i j a d1 d2 e1 e2 s1 s2 => ?_, fun a ps e => (at_untab e).2 ps rfl, fun k a e => (by cases e)⟩, ?_⟩
    · obtain ⟨vs, z⟩ := hl b _ e
      cases z
    · exfalso
      obtain ⟨b, vs, x1, x2, x3, x4, x5⟩ := hall.get i _ e1
      have x5 : untab H b = none := x5
      rw [untab_at x2 (fun _ z => by cases z)] at x5; cases x5
    · rw [h]
      intro G' H' σ' v I' s' r
      cases r
      rfl
  have key0 : ScrOk K H a ns → spF K mg n 1 body [.ref a] H (fun v _ => v = .bl true) (fun _ _ _ => False) := fun hs => key (fun _ => none) (fun a o e => by cases e) (fun b o e => by cases e) (.inl hs)
  rcases hS with (hS | ⟨o, hS⟩) | hS
  · refine key (fun b => if b = a then some (HO.lst (ns.map V.int)) else none) (fun b o e => ?_) (fun b o e => ?_) (.inr (if_pos rfl))
    · have e : (if b = a then some (HO.lst (ns.map V.int)) else none) = some o := e
      split at e
      · rename_i hb; rw [hb, ← Option.some.inj e]; exact hS
      · cases e
    · have e : (if b = a then some (HO.lst (ns.map V.int)) else none) = some o := e
      split at e
      · exact ⟨_, (Option.some.inj e).symm⟩
      · cases e
  · exact key0 (.inl ⟨o, hS⟩)
  · exact key0 (.inr hS)
end
/-- THE END: what is known at the head, the law's def, the plain law -/
theorem lawAt {l : PySem.W.OpenLaw} {w : World} {K : PySem.W.Frag} {mg : Str → Option Value} {h : Heap} {fa : List He.Fa} {fn : List He.DefD} {ex : PySem.W.Frag → Bool} {st : Stmt} {N : List Str} {k n : Nat} {body : List (Addr × Str) → Rho → Out} (KX : K.In h) (G : h.Ns mainGlobals mg)
    (c : He.SaysX fa fn [] [(PySem.Str.ofString "law", none)] ex w h K) (FD : ∃ fd, FunD K (PySem.Str.ofString "law") (PySem.Str.ofString "law") (defArgs st) (defBody st) (defScope st) [] [] (He.fAd K (PySem.Str.ofString "law", none)) fd) (S : FnScope N [PySem.Str.ofString "script"] (defScope st)) (hn : N.length = n) (h0 : 0 < n)
    (hb : ∀ (kV doc pm : Value) (an : Option Addr) (cdv ct : Value) (us : List Value), us.length = 1 → bindArgs (PySem.W.fnOf (PySem.Str.ofString "law") (PySem.Str.ofString "law") (defArgs st) (defBody st) (defScope st) .none kV doc pm an cdv ct) ⟨us, []⟩ = pure ([PySem.Str.ofString "script"].zip us))
    (hbody : ∀ (base : Heap) (T : List (Addr × Str)) (c P : Addr), K.In base → base.Ns mainGlobals mg → LamX.TabB base mg c P → T = [(P, qLam (PySem.Str.ofString "law"))] → ∀ (A : Around) (outer : List Env) (s : Shared) (H : Hp) (E : XK), Room k (A.deeper (envOfC (PySem.Str.ofString "law") (defScope st) s.heap.objs.size (He.fAd K (PySem.Str.ofString "law", none)) (.ref c))) →
      JSs (cxOf (L2.CX l.prog w) l.prog w K mg base N (PySem.Str.ofString "law") (defScope st) (He.fAd K (PySem.Str.ofString "law", none)) (.ref c) A outer s H E) (fun cls d _ H' => E cls d H') (defBody st) (body T))
    (plain : ∀ (ns : List Int) (T : List (Addr × Str)), ns.length ≤ 63 → (∀ z ∈ ns, Builtin.Int.intBits z ≤ 1048576) → T ≠ [] → ∃ ρ', body T (.scr ns T :: List.replicate (n - 1) .undef) = .ret (.bool true) ρ') :
    LamX.LawAtS l w K (L2.CX l.prog w) (k + 1) 63 (PySem.Str.ofString "script") mg (He.fAd K (PySem.Str.ofString "law", none)) h := by
  obtain ⟨fd, F⟩ := FD
  have hm : (PySem.Str.ofString "law", (none : Option Str)) ∈ [(PySem.Str.ofString "law", (none : Option Str))] := List.mem_cons_self
  refine ⟨fd, [He.cT K (PySem.Str.ofString "law", none)], spF K mg n 1 (body [((He.cT K (PySem.Str.ofString "law", none)).2, qLam (PySem.Str.ofString "law"))]), fun p hp => ?_, fun p hp => ?_, fun p hp => ?_, fun s u => ?_, fun H a ns hl hz hT hS => ?_, fun base KB GB TB => ?_⟩
  · obtain rfl := List.mem_singleton.mp hp; exact c.empty _ hm
  · obtain rfl := List.mem_singleton.mp hp; exact c.out _ hm
  · obtain rfl := List.mem_singleton.mp hp; exact PySem.W.codeHd_of_K KX (c.hd _ hm)
  · exact FunD.bindsA (ps := [PySem.Str.ofString "script"]) F hb s [u] rfl
  · refine law_start (fun p hp => ?_) hS h0 (plain ns _ hl hz (by simp))
    obtain rfl := List.mem_singleton.mp hp
    exact .nil (hT _ List.mem_cons_self)
  · refine fnL F S hn rfl fun c' A outer s H E ec hr => ?_
    subst ec
    exact hbody base _ _ _ KB GB (TB _ List.mem_cons_self) rfl A outer s H E hr
end Pf

/-! Pf22: the head's further checks; own exceptions by them. -/
namespace Pf
open PySem PySem.Spec PyProof.Rows L2

def oexB (K : PySem.W.Frag) (C : Addr) : Bool := (match K.lookup C with
  | some ⟨.type "type", _, .cls cd, sl⟩ => (match cd.mro, sl.toList with
    | .ref C' :: bm, [_, _, _, _, some (.builtin n), _] => C' == C && n == "ValueError.__new__" && !cd.hasDel && cd.hasDict && PySem.HandSPX.refsVE bm
    | _, _ => false)
  | _ => false) && (decide (PySem.W.findIn K (.ref C) "__setattr__" = some (some (.builtin "object.__setattr__"))) && (decide (PySem.W.subIn K (.ref C) (.type "BaseException") = some true) && (decide (PySem.W.typeIn K (.ref C) = some (.type "type")) && PySem.W.keepIn K (.ref C))))
theorem oexB_ok {K : PySem.W.Frag} {C : Addr} (h : oexB K C = true) : OexC K C := by
  obtain ⟨h0, h⟩ := He.ba h
  obtain ⟨h1, h⟩ := He.ba h
  obtain ⟨h2, h⟩ := He.ba h
  obtain ⟨h3, h4⟩ := He.ba h
  refine ⟨?_, of_decide_eq_true h1, of_decide_eq_true h2, of_decide_eq_true h3, h4⟩
  split at h0
  · rename_i dd cd sl ho
    split at h0
    · rename_i C' bm k0 k1 k2 k3 n k5 hm hs
      simp only [Bool.and_eq_true, beq_iff_eq, Bool.not_eq_true'] at h0
      obtain ⟨⟨⟨⟨rfl, rfl⟩, hdel⟩, hdi⟩, ht⟩ := h0
      obtain ⟨nm, bs, mro, ns, qn, hd, sn, sub, ab, col, del⟩ := cd
      dsimp only at hm hdel hdi
      subst hm hdel hdi
      have hsl : sl = #[k0, k1, k2, k3, some (.builtin "ValueError.__new__"), k5] := by
        obtain ⟨l⟩ := sl
        simp only at hs
        rw [hs]
      subst hsl
      exact ⟨nm, qn, ns, bs, bm, sn, sub, ab, col, dd, k0, k1, k2, k3, k5, ho, ht⟩
    · cases h0
  · cases h0
def excCB (K : PySem.W.Frag) (C : Addr) : Bool := decide (PySem.W.findIn K (.ref C) "__getattribute__" = some (some (.builtin "BaseException.__getattribute__"))) && (decide (PySem.W.findIn K (.ref C) "__getattr__" = some none) && (decide (PySem.W.subIn K (.ref C) (.type "BaseException") = some true) && (PySem.W.hasDictIn K C &&
  (decide (PySem.W.findIn K (.ref C) "__class__" = some (some (.builtin "object.__class__"))) && (decide (PySem.W.specialIn K (.builtin "object.__class__") "__get__" = some (some (.builtin "getset_descriptor.__get__"))) && (decide (PySem.W.takesIn K (.builtin "object.__class__") = some true) && decide (PySem.W.mroIn K C (.type "object") = some true)))))))
theorem excCB_ok {K : PySem.W.Frag} {C : Addr} (h : excCB K C = true) : ExcC K C := by
  obtain ⟨h1, h⟩ := He.ba h
  obtain ⟨h2, h⟩ := He.ba h
  obtain ⟨h3, h⟩ := He.ba h
  obtain ⟨h4, h⟩ := He.ba h
  obtain ⟨h5, h⟩ := He.ba h
  obtain ⟨h6, h⟩ := He.ba h
  obtain ⟨h7, h8⟩ := He.ba h
  exact ⟨of_decide_eq_true h1, of_decide_eq_true h2, of_decide_eq_true h3, h4, of_decide_eq_true h5, of_decide_eq_true h6, of_decide_eq_true h7, of_decide_eq_true h8⟩
/-- isinstance(e, A) of every class known; A's class -/
def isaB (K : PySem.W.Frag) (known : List Str) (A : Str) : Bool := known.all fun nm => excCB K (He.ga K nm) && decide (PySem.W.kitOne K (.ref (He.ga K nm)) (.ref (He.ga K A)) = some (decide (nm = A)))
def exmB (K : PySem.W.Frag) (base : Str) (known : List Str) (c : Str) : Bool := known.all fun nm => decide (PySem.W.exmOne K (.ref (He.ga K nm)) (.ref (He.ga K c)) = some (subC base nm c))
/-- a class with one field -/
def exFB (K : PySem.W.Frag) (x f : Str) : Bool := oexB K (He.ga K x) && (xfB K (He.ga K x) && (decide (PySem.W.findIn K (.ref (He.ga K x)) f = some none) && (decide (PySem.W.findIn K (.ref (He.ga K x)) "__init__" = some (some (.ref (He.ma K (He.ga K x) "__init__")))) &&
  decide (PySem.W.typeIn K (.ref (He.ma K (He.ga K x) "__init__")) = some (.type "function")))))
section
variable {P : Program} {w : World} {K : PySem.W.Frag} {mg : Str → Option Value} {base : Heap}
theorem exA_of {known : List Str} {A : Str} (h : isaB K known A = true) (g : ∀ x ∈ known, mg x = some (.ref (He.ga K x))) (gA : mg A = some (.ref (He.ga K A))) : ExA K mg known A :=
  ⟨_, gA, fun nm hnm => by
    obtain ⟨h1, h2⟩ := He.ba (List.all_eq_true.mp h nm hnm)
    exact ⟨_, g nm hnm, excCB_ok h1, of_decide_eq_true h2⟩⟩
theorem exM_of {b : Str} {known : List Str} {c : Str} (h : exmB K b known c = true) (g : ∀ x ∈ known, mg x = some (.ref (He.ga K x))) (gA : mg c = some (.ref (He.ga K c))) : ExM K mg b known c :=
  ⟨_, gA, fun nm hnm => ⟨_, g nm hnm, of_decide_eq_true (List.all_eq_true.mp h nm hnm)⟩⟩
theorem exK0_of {x : Str} (c : (He.Fa.exc x).ok K = true) (g : mg x = some (.ref (He.ga K x))) : ExK0 K mg x := by
  obtain ⟨h1, h2, h3, h4⟩ := He.exc_ok c
  exact ⟨_, g, h1, h2, h3, h4⟩
theorem exF_of {x f : Str} (h : exFB K x f = true) (g : mg x = some (.ref (He.ga K x))) : ∃ C, mg x = some (.ref C) ∧ XfC K C ∧ PySem.W.findIn K (.ref C) f = some none := by
  obtain ⟨_, h⟩ := He.ba h
  obtain ⟨h1, h⟩ := He.ba h
  obtain ⟨h2, h⟩ := He.ba h
  exact ⟨_, g, xfB_ok h1, of_decide_eq_true h2⟩
/-- def __init__(self, y): self.f = y -/
theorem exK1_of {x f q y : Str} {st : Stmt} {p1 p2 p3 p4 : Pos} (h : exFB K x f = true) (g : mg x = some (.ref (He.ga K x))) (FD : ∃ fd, FunD K (PySem.Str.ofString "__init__") q (defArgs st) (defBody st) (defScope st) [] [] (He.fAd K (x, some (PySem.Str.ofString "__init__"))) fd)
    (hst : defBody st = [.Assign [.Attribute (.Name (PySem.Str.ofString "self") p1) f p2] (.Name y p3) p4]) (S : FnScope [PySem.Str.ofString "self", y] [PySem.Str.ofString "self", y] (defScope st))
    (hb : ∀ (kV doc pm : Value) (an : Option Addr) (cdv ct : Value) (us : List Value), us.length = 2 → bindArgs (PySem.W.fnOf (PySem.Str.ofString "__init__") q (defArgs st) (defBody st) (defScope st) .none kV doc pm an cdv ct) ⟨us, []⟩ = pure ([PySem.Str.ofString "self", y].zip us))
    (hv0 : Vis (defScope st) (PySem.Str.ofString "self")) (hv1 : Vis (defScope st) y) (hd : (y == ("__debug__" : Str)) = false) (hcd : (y == ("__classdict__" : Str)) = false) : ExK1 P w K mg base x f := by
  obtain ⟨fd, F⟩ := FD
  obtain ⟨h0, h⟩ := He.ba h
  obtain ⟨h1, h⟩ := He.ba h
  obtain ⟨h2, h⟩ := He.ba h
  obtain ⟨h3, h4⟩ := He.ba h
  refine ⟨He.ga K x, He.ma K (He.ga K x) (PySem.Str.ofString "__init__"), fd, _, g, oexB_ok h0, of_decide_eq_true h2, of_decide_eq_true h3, of_decide_eq_true h4, ?_, FunD.bindsN (ps := [PySem.Str.ofString "self", y]) F hb⟩
  refine FunD.ok F S (fun vs H Q E h => ?_) fun cdv A outer s H vs Q E hr h => ?_
  · obtain ⟨a, C, v, rfl, _⟩ := h
    rfl
  · rw [hst]
    obtain ⟨a, C, v, rfl, T, hno, ha, hq⟩ := h
    refine ⟨_, pss_one (ps_ost (pe_var (i := 0) rfl hv0) (pe_var (i := 1) rfl hv1 hd hcd)), ?_⟩
    exact ⟨v, rfl, .ref a, rfl, a, C, rfl, T, hno, .inl ⟨ha, hq⟩⟩
end
/-- the statements of a class -/
def clsBody : Stmt → List Stmt
  | .ClassDef _ _ _ b _ _ _ _ _ _ _ => b
  | _ => []
end Pf

namespace Pf
open PySem PySem.Spec PyProof.Rows L2
def top (i : Nat) : Stmt := PySem.Challenge.pw_cardroom_k76_whole_texts_on_cards.main.body.getD i (.Pass ⟨0, 0, 0, 0⟩)
abbrev known : List Str := [(PySem.Str.ofString "BadCard"), (PySem.Str.ofString "BadText"), (PySem.Str.ofString "NoDeck"), (PySem.Str.ofString "NoText"), (PySem.Str.ofString "NoWidth"), (PySem.Str.ofString "TooMany")]
abbrev s_is_integer : Stmt := top 13
abbrev N_is_integer : List Str := [(PySem.Str.ofString "thing")]
theorem sc_is_integer : FnScope N_is_integer [(PySem.Str.ofString "thing")] (defScope s_is_integer) := ⟨rfl, rfl, rfl, by decide +kernel, rfl, by decide +kernel, by decide +kernel⟩
abbrev s_is_within : Stmt := top 14
abbrev N_is_within : List Str := [(PySem.Str.ofString "thing"), (PySem.Str.ofString "low"), (PySem.Str.ofString "high")]
theorem sc_is_within : FnScope N_is_within [(PySem.Str.ofString "thing"), (PySem.Str.ofString "low"), (PySem.Str.ofString "high")] (defScope s_is_within) := ⟨rfl, rfl, rfl, by decide +kernel, rfl, by decide +kernel, by decide +kernel⟩
abbrev s_is_few : Stmt := top 15
abbrev N_is_few : List Str := [(PySem.Str.ofString "thing"), (PySem.Str.ofString "most")]
theorem sc_is_few : FnScope N_is_few [(PySem.Str.ofString "thing"), (PySem.Str.ofString "most")] (defScope s_is_few) := ⟨rfl, rfl, rfl, by decide +kernel, rfl, by decide +kernel, by decide +kernel⟩
abbrev s_is_width : Stmt := top 16
abbrev N_is_width : List Str := [(PySem.Str.ofString "thing")]
theorem sc_is_width : FnScope N_is_width [(PySem.Str.ofString "thing")] (defScope s_is_width) := ⟨rfl, rfl, rfl, by decide +kernel, rfl, by decide +kernel, by decide +kernel⟩
abbrev s_check_width : Stmt := top 17
abbrev N_check_width : List Str := [(PySem.Str.ofString "width")]
theorem sc_check_width : FnScope N_check_width [(PySem.Str.ofString "width")] (defScope s_check_width) := ⟨rfl, rfl, rfl, by decide +kernel, rfl, by decide +kernel, by decide +kernel⟩
abbrev s_raw_is_card : Stmt := top 18
abbrev N_raw_is_card : List Str := [(PySem.Str.ofString "width"), (PySem.Str.ofString "thing"), (PySem.Str.ofString "sign")]
theorem sc_raw_is_card : FnScope N_raw_is_card [(PySem.Str.ofString "width"), (PySem.Str.ofString "thing")] (defScope s_raw_is_card) := ⟨rfl, rfl, rfl, by decide +kernel, rfl, by decide +kernel, by decide +kernel⟩
abbrev s_raw_is_deck : Stmt := top 19
abbrev N_raw_is_deck : List Str := [(PySem.Str.ofString "width"), (PySem.Str.ofString "thing"), (PySem.Str.ofString "card")]
theorem sc_raw_is_deck : FnScope N_raw_is_deck [(PySem.Str.ofString "width"), (PySem.Str.ofString "thing")] (defScope s_raw_is_deck) := ⟨rfl, rfl, rfl, by decide +kernel, rfl, by decide +kernel, by decide +kernel⟩
abbrev s_is_deck : Stmt := top 20
abbrev N_is_deck : List Str := [(PySem.Str.ofString "width"), (PySem.Str.ofString "thing")]
theorem sc_is_deck : FnScope N_is_deck [(PySem.Str.ofString "width"), (PySem.Str.ofString "thing")] (defScope s_is_deck) := ⟨rfl, rfl, rfl, by decide +kernel, rfl, by decide +kernel, by decide +kernel⟩
abbrev s_check_text : Stmt := top 23
abbrev N_check_text : List Str := [(PySem.Str.ofString "text")]
theorem sc_check_text : FnScope N_check_text [(PySem.Str.ofString "text")] (defScope s_check_text) := ⟨rfl, rfl, rfl, by decide +kernel, rfl, by decide +kernel, by decide +kernel⟩
abbrev s_code_of : Stmt := top 32
abbrev N_code_of : List Str := [(PySem.Str.ofString "sign"), (PySem.Str.ofString "number")]
theorem sc_code_of : FnScope N_code_of [(PySem.Str.ofString "sign")] (defScope s_code_of) := ⟨rfl, rfl, rfl, by decide +kernel, rfl, by decide +kernel, by decide +kernel⟩
abbrev s_is_coded : Stmt := top 33
abbrev N_is_coded : List Str := [(PySem.Str.ofString "sign")]
theorem sc_is_coded : FnScope N_is_coded [(PySem.Str.ofString "sign")] (defScope s_is_coded) := ⟨rfl, rfl, rfl, by decide +kernel, rfl, by decide +kernel, by decide +kernel⟩
abbrev s_raw_text_deck : Stmt := top 34
abbrev N_raw_text_deck : List Str := [(PySem.Str.ofString "text"), (PySem.Str.ofString "found"), (PySem.Str.ofString "at"), (PySem.Str.ofString "signs"), (PySem.Str.ofString "number"), (PySem.Str.ofString "head"), (PySem.Str.ofString "sign")]
theorem sc_raw_text_deck : FnScope N_raw_text_deck [(PySem.Str.ofString "text")] (defScope s_raw_text_deck) := ⟨rfl, rfl, rfl, by decide +kernel, rfl, by decide +kernel, by decide +kernel⟩
abbrev s_text_deck : Stmt := top 35
abbrev N_text_deck : List Str := [(PySem.Str.ofString "text"), (PySem.Str.ofString "sign"), (PySem.Str.ofString "at")]
theorem sc_text_deck : FnScope N_text_deck [(PySem.Str.ofString "text")] (defScope s_text_deck) := ⟨rfl, rfl, rfl, by decide +kernel, rfl, by decide +kernel, by decide +kernel⟩
abbrev s_sign_of : Stmt := top 36
abbrev N_sign_of : List Str := [(PySem.Str.ofString "figures"), (PySem.Str.ofString "number"), (PySem.Str.ofString "sign")]
theorem sc_sign_of : FnScope N_sign_of [(PySem.Str.ofString "figures")] (defScope s_sign_of) := ⟨rfl, rfl, rfl, by decide +kernel, rfl, by decide +kernel, by decide +kernel⟩
abbrev s_share_of : Stmt := top 37
abbrev N_share_of : List Str := [(PySem.Str.ofString "card"), (PySem.Str.ofString "found"), (PySem.Str.ofString "pairs"), (PySem.Str.ofString "pair"), (PySem.Str.ofString "sign"), (PySem.Str.ofString "at")]
theorem sc_share_of : FnScope N_share_of [(PySem.Str.ofString "card")] (defScope s_share_of) := ⟨rfl, rfl, rfl, by decide +kernel, rfl, by decide +kernel, by decide +kernel⟩
abbrev s_raw_deck_text : Stmt := top 38
abbrev N_raw_deck_text : List Str := [(PySem.Str.ofString "deck"), (PySem.Str.ofString "found"), (PySem.Str.ofString "at"), (PySem.Str.ofString "card"), (PySem.Str.ofString "number"), (PySem.Str.ofString "share")]
theorem sc_raw_deck_text : FnScope N_raw_deck_text [(PySem.Str.ofString "deck")] (defScope s_raw_deck_text) := ⟨rfl, rfl, rfl, by decide +kernel, rfl, by decide +kernel, by decide +kernel⟩
abbrev s_text_of_deck : Stmt := top 39
abbrev N_text_of_deck : List Str := [(PySem.Str.ofString "deck")]
theorem sc_text_of_deck : FnScope N_text_of_deck [(PySem.Str.ofString "deck")] (defScope s_text_of_deck) := ⟨rfl, rfl, rfl, by decide +kernel, rfl, by decide +kernel, by decide +kernel⟩
abbrev s_is_punched_text : Stmt := top 40
abbrev N_is_punched_text : List Str := [(PySem.Str.ofString "thing")]
theorem sc_is_punched_text : FnScope N_is_punched_text [(PySem.Str.ofString "thing")] (defScope s_is_punched_text) := ⟨rfl, rfl, rfl, by decide +kernel, rfl, by decide +kernel, by decide +kernel⟩
abbrev s__law_signs : Stmt := top 42
abbrev N__law_signs : List Str := [(PySem.Str.ofString "first")]
theorem sc__law_signs : FnScope N__law_signs [] (defScope s__law_signs) := ⟨rfl, rfl, rfl, by decide +kernel, rfl, by decide +kernel, by decide +kernel⟩
abbrev s__law_hand : Stmt := top 43
abbrev N__law_hand : List Str := [(PySem.Str.ofString "script"), (PySem.Str.ofString "cells"), (PySem.Str.ofString "cell")]
theorem sc__law_hand : FnScope N__law_hand [(PySem.Str.ofString "script")] (defScope s__law_hand) := ⟨rfl, rfl, rfl, by decide +kernel, rfl, by decide +kernel, by decide +kernel⟩
abbrev s__law_draw : Stmt := top 44
abbrev N__law_draw : List Str := [(PySem.Str.ofString "hand"), (PySem.Str.ofString "many"), (PySem.Str.ofString "cell"), (PySem.Str.ofString "digit"), (PySem.Str.ofString "number")]
theorem sc__law_draw : FnScope N__law_draw [(PySem.Str.ofString "hand"), (PySem.Str.ofString "many")] (defScope s__law_draw) := ⟨rfl, rfl, rfl, by decide +kernel, rfl, by decide +kernel, by decide +kernel⟩
abbrev s__law_any : Stmt := top 45
abbrev N__law_any : List Str := [(PySem.Str.ofString "hand"), (PySem.Str.ofString "some")]
theorem sc__law_any : FnScope N__law_any [(PySem.Str.ofString "hand"), (PySem.Str.ofString "some")] (defScope s__law_any) := ⟨rfl, rfl, rfl, by decide +kernel, rfl, by decide +kernel, by decide +kernel⟩
abbrev s__law_code : Stmt := top 46
abbrev N__law_code : List Str := [(PySem.Str.ofString "sign"), (PySem.Str.ofString "number")]
theorem sc__law_code : FnScope N__law_code [(PySem.Str.ofString "sign")] (defScope s__law_code) := ⟨rfl, rfl, rfl, by decide +kernel, rfl, by decide +kernel, by decide +kernel⟩
abbrev s__law_punched : Stmt := top 47
abbrev N__law_punched : List Str := [(PySem.Str.ofString "text"), (PySem.Str.ofString "found"), (PySem.Str.ofString "at"), (PySem.Str.ofString "share"), (PySem.Str.ofString "number"), (PySem.Str.ofString "head"), (PySem.Str.ofString "sign")]
theorem sc__law_punched : FnScope N__law_punched [(PySem.Str.ofString "text")] (defScope s__law_punched) := ⟨rfl, rfl, rfl, by decide +kernel, rfl, by decide +kernel, by decide +kernel⟩
abbrev s__law_text : Stmt := top 48
abbrev N__law_text : List Str := [(PySem.Str.ofString "hand"), (PySem.Str.ofString "most"), (PySem.Str.ofString "found"), (PySem.Str.ofString "step"), (PySem.Str.ofString "number")]
theorem sc__law_text : FnScope N__law_text [(PySem.Str.ofString "hand"), (PySem.Str.ofString "most")] (defScope s__law_text) := ⟨rfl, rfl, rfl, by decide +kernel, rfl, by decide +kernel, by decide +kernel⟩
abbrev s__law_bent : Stmt := top 50
abbrev N__law_bent : List Str := [(PySem.Str.ofString "hand"), (PySem.Str.ofString "deck"), (PySem.Str.ofString "at"), (PySem.Str.ofString "card"), (PySem.Str.ofString "some")]
theorem sc__law_bent : FnScope N__law_bent [(PySem.Str.ofString "hand"), (PySem.Str.ofString "deck")] (defScope s__law_bent) := ⟨rfl, rfl, rfl, by decide +kernel, rfl, by decide +kernel, by decide +kernel⟩
abbrev s__law_word : Stmt := top 49
abbrev N__law_word : List Str := [(PySem.Str.ofString "call"), (PySem.Str.ofString "word"), (PySem.Str.ofString "e"), (PySem.Str.ofString "flags")]
theorem sc__law_word : FnScope N__law_word [(PySem.Str.ofString "call")] (defScope s__law_word) := ⟨rfl, rfl, rfl, by decide +kernel, rfl, by decide +kernel, by decide +kernel⟩
abbrev s_law : Stmt := top 51
abbrev N_law : List Str := [(PySem.Str.ofString "script"), (PySem.Str.ofString "hand"), (PySem.Str.ofString "turn"), (PySem.Str.ofString "text"), (PySem.Str.ofString "deck"), (PySem.Str.ofString "bent"), (PySem.Str.ofString "at"), (PySem.Str.ofString "off")]
theorem sc_law : FnScope N_law [(PySem.Str.ofString "script")] (defScope s_law) := ⟨rfl, rfl, rfl, by decide +kernel, rfl, by decide +kernel, by decide +kernel⟩
def d_is_integer : Rho → Out :=
  dRet (dAndV (dIsi isInt (dImm 0)) (dNotV (dIsi isBool (dImm 0))))
def d_is_within : Rho → Out :=
  dRet (dAndV (dVal (dCallV 1 d_is_integer (dCons (dImm 0) (dNil)))) (dChain (dCmp fun i j => decide (i ≤ j)) (dCmp fun i j => decide (i ≤ j)) (dImm 1) (dImm 0) (dImm 2)))
def d_is_few : Rho → Out :=
  dRet (dAndV (dIsi isTup (dImm 0)) (dOp (dCmp fun i j => decide (i ≤ j)) (d1 dLen (dImm 0)) (dImm 1)))
def d_is_width : Rho → Out :=
  dRet (dVal (dCallV 3 d_is_within (dCons (dImm 0) (dCons (dC (.int 1)) (dCons (dC (.int 8)) (dNil))))))
def d_check_width : Rho → Out :=
  dIf (dNot (dBool (dVal (dCallV 1 d_is_width (dCons (dImm 0) (dNil)))))) (dRaise (dExc0 (PySem.Str.ofString "NoWidth"))) (dNext)
def c_raw_is_card_1 : Rho → R (List D) :=
  dLc [2] (dSrc (dImm 1)) (bName 2) (dYes) (dOp dIn (dImm 2) (dC (.str (PySem.Str.ofString "0123456789x."))))
def d_raw_is_card : Rho → Out :=
  dRet (dAndV (dIsi isStr (dImm 1)) (dAndV (dOp dEq (d1 dLen (dImm 1)) (dImm 0)) (d1 dAll (dLst (c_raw_is_card_1)))))
def c_raw_is_deck_1 : Rho → R (List D) :=
  dLc [2] (dSrc (dImm 1)) (bName 2) (dYes) (dVal (dCallV 3 d_raw_is_card (dCons (dImm 0) (dCons (dImm 2) (dNil)))))
def d_raw_is_deck : Rho → Out :=
  dRet (dAndV (dVal (dCallV 2 d_is_few (dCons (dImm 1) (dCons (dC (.int 400)) (dNil))))) (d1 dAll (dLst (c_raw_is_deck_1))))
def d_is_deck : Rho → Out :=
  dSeq (dDrop (dVal (dCallV 1 d_check_width (dCons (dImm 0) (dNil)))))
  (dRet (dVal (dCallV 3 d_raw_is_deck (dCons (dImm 0) (dCons (dImm 1) (dNil))))))
def d_check_text : Rho → Out :=
  dIf (dOr (dNot (dBool (dIsi isStr (dImm 0)))) (dBool (dOp (dCmp fun i j => decide (j < i)) (d1 dLen (dImm 0)) (dC (.int 20000))))) (dRaise (dExc0 (PySem.Str.ofString "NoText"))) (dNext)
def d_code_of : Rho → Out :=
  dSeq (dSet 1 (dIfE (dBool (dOp dEq (dImm 0) (dC (.str (PySem.Str.ofString "\n"))))) (dC (.int 95)) (dOp dSub (d1 dOrd (dImm 0)) (dC (.int 32)))))
  (dRet (dOp dAdd (dOp dIx (dC (.str (PySem.Str.ofString "0123456789"))) (dOp dFdiv (dImm 1) (dC (.int 10)))) (dOp dIx (dC (.str (PySem.Str.ofString "0123456789"))) (dOp dMod (d1 dInt (dImm 1)) (dC (.int 10))))))
def d_is_coded : Rho → Out :=
  dRet (dOrV (dOp dEq (dImm 0) (dC (.str (PySem.Str.ofString "\n")))) (dChain (dCmp fun i j => decide (i ≤ j)) (dCmp fun i j => decide (i < j)) (dC (.int 32)) (d1 dOrd (dImm 0)) (dOp dAdd (dC (.int 32)) (dC (.int 95)))))
def c_raw_text_deck_1 : Rho → R (List D) :=
  dLc [6] (dSrc (dSl (dImm 0) (dSm (dImm 2)) (dSm (dOp dAdd (dImm 2) (dC (.int 3)))))) (bName 6) (dYes) (dVal (dCallV 2 d_code_of (dCons (dImm 6) (dNil))))
def b_raw_text_deck_1 : Rho → Out :=
  dSeq (dSet 3 (dJn (dC (.str (PySem.Str.ofString ""))) (dLst (c_raw_text_deck_1))))
  (dSeq (dSet 4 (dOp dMod (d1 dInt (dOp dFdiv (dImm 2) (dC (.int 3)))) (dC (.int 100))))
  (dSeq (dSet 5 (dOp dAdd (dOp dIx (dC (.str (PySem.Str.ofString "0123456789"))) (dOp dFdiv (dImm 4) (dC (.int 10)))) (dOp dIx (dC (.str (PySem.Str.ofString "0123456789"))) (dOp dMod (d1 dInt (dImm 4)) (dC (.int 10))))))
  (dApp 1 (dOp dAdd (dOp dAdd (dImm 5) (dImm 3)) (dOp dMul (dC (.str (PySem.Str.ofString ".."))) (dOp dSub (dC (.int 3)) (d1 dLen (dSl (dImm 0) (dSm (dImm 2)) (dSm (dOp dAdd (dImm 2) (dC (.int 3))))))))))))
def f_raw_text_deck_1 : Rho → Out :=
  dFor (dRng3 (dC (.int 0)) (d1 dLen (dImm 0)) (dC (.int 3))) (bName 2) b_raw_text_deck_1
def d_raw_text_deck : Rho → Out :=
  dSeq (dSetN 1 (dNil))
  (dSeq (f_raw_text_deck_1)
  (dRet (d1 dTuple (dRd 1))))
def c_text_deck_1 : Rho → R (List D) :=
  dLc [1] (dSrc (dImm 0)) (bName 1) (dYes) (dVal (dCallV 1 d_is_coded (dCons (dImm 1) (dNil))))
def d_text_deck : Rho → Out :=
  dSeq (dDrop (dVal (dCallV 1 d_check_text (dCons (dImm 0) (dNil)))))
  (dSeq (dIf (dNot (dBool (d1 dAll (dLst (c_text_deck_1))))) (dNever) (dNext))
  (dSeq (dIf (dBool (dOp (dCmp fun i j => decide (j < i)) (d1 dLen (dImm 0)) (dOp dMul (dC (.int 3)) (dC (.int 400))))) (dRaise (dExc1 (PySem.Str.ofString "TooMany") (PySem.Str.ofString "most") (dOp dMul (dC (.int 3)) (dC (.int 400))))) (dNext))
  (dRet (dVal (dCallV 7 d_raw_text_deck (dCons (dImm 0) (dNil)))))))
def c_sign_of_1 : Rho → R (List D) :=
  dLc [2] (dSrc (dImm 0)) (bName 2) (dYes) (dOp dIn (dImm 2) (dC (.str (PySem.Str.ofString "0123456789"))))
def d_sign_of : Rho → Out :=
  dSeq (dIf (dNot (dBool (d1 dAll (dLst (c_sign_of_1))))) (dRet (dC .none)) (dNext))
  (dSeq (dSet 1 (dOp dAdd (dOp dMul (dC (.int 10)) (dOpS dSIdx (dC (.str (PySem.Str.ofString "0123456789"))) (dOp dIx (dImm 0) (dC (.int 0))))) (dOpS dSIdx (dC (.str (PySem.Str.ofString "0123456789"))) (dOp dIx (dImm 0) (dC (.int 1))))))
  (dSeq (dIf (dBool (dOp (dCmp fun i j => decide (j < i)) (dImm 1) (dC (.int 95)))) (dRet (dC .none)) (dNext))
  (dRet (dIfE (dBool (dOp dEq (dImm 1) (dC (.int 95)))) (dC (.str (PySem.Str.ofString "\n"))) (dOp dIx (dOp dAdd (dC (.str (PySem.Str.ofString " !\"#$%&'()*+,-./0123456789:;<=>?@"))) (dC (.str (PySem.Str.ofString "ABCDEFGHIJKLMNOPQRSTUVWXYZ[\\]^_`abcdefghijklmnopqrstuvwxyz{|}~")))) (dImm 1))))))
def c_share_of_1 : Rho → R (List D) :=
  dLc [5] (dRng3 (dC (.int 2)) (dC (.int 8)) (dC (.int 2))) (bName 5) (dYes) (dSl (dImm 0) (dSm (dImm 5)) (dSm (dOp dAdd (dImm 5) (dC (.int 2)))))
def b_share_of_1 : Rho → Out :=
  dDrop (dPop 2)
def w_share_of_1 : Rho → Out :=
  dWhile (dAnd (dBool (dOp (dCmp fun i j => decide (j < i)) (d1 dLen (dRd 2)) (dC (.int 0)))) (dBool (dOp dEq (dOpR dIx 2 (d1 dNeg (dC (.int 1)))) (dC (.str (PySem.Str.ofString "..")))))) b_share_of_1 100000
def b_share_of_2 : Rho → Out :=
  dSeq (dSet 4 (dVal (dCallV 3 d_sign_of (dCons (dImm 3) (dNil)))))
  (dSeq (dIf (dBool (dF isNon (dImm 4))) (dRet (dC .none)) (dNext))
  (dAug dIadd 1 (dImm 4)))
def f_share_of_1 : Rho → Out :=
  dFor (dSrc (dFrz 2)) (bName 3) b_share_of_2
def d_share_of : Rho → Out :=
  dSeq (dParEN 1 2 (dC (.str (PySem.Str.ofString ""))) (c_share_of_1))
  (dSeq (w_share_of_1)
  (dSeq (f_share_of_1)
  (dRet (dImm 1))))
def b_raw_deck_text_1 : Rho → Out :=
  dSeq (dSet 4 (dOp dMod (d1 dInt (dImm 2)) (dC (.int 100))))
  (dSeq (dSet 5 (dVal (dCallV 6 d_share_of (dCons (dImm 3) (dNil)))))
  (dSeq (dIf (dOr (dBool (dOp dNe (dSl (dImm 3) (dNo) (dSm (dC (.int 2)))) (dOp dAdd (dOp dIx (dC (.str (PySem.Str.ofString "0123456789"))) (dOp dFdiv (dImm 4) (dC (.int 10)))) (dOp dIx (dC (.str (PySem.Str.ofString "0123456789"))) (dOp dMod (d1 dInt (dImm 4)) (dC (.int 10))))))) (dOr (dBool (dF isNon (dImm 5))) (dBool (dOp dEq (dImm 5) (dC (.str (PySem.Str.ofString ""))))))) (dRaise (dExc1 (PySem.Str.ofString "BadCard") (PySem.Str.ofString "card") (dImm 2))) (dNext))
  (dSeq (dIf (dAnd (dBool (dOp (dCmp fun i j => decide (i < j)) (d1 dLen (dImm 5)) (dC (.int 3)))) (dBool (dOp (dCmp fun i j => decide (i < j)) (dImm 2) (dOp dSub (d1 dLen (dImm 0)) (dC (.int 1)))))) (dRaise (dExc1 (PySem.Str.ofString "BadCard") (PySem.Str.ofString "card") (dImm 2))) (dNext))
  (dAug dIadd 1 (dImm 5)))))
def f_raw_deck_text_1 : Rho → Out :=
  dFor (dSrcE (dImm 0)) (bTup (bCons (bName 2) (bCons (bName 3) (bNil)))) b_raw_deck_text_1
def d_raw_deck_text : Rho → Out :=
  dSeq (dSet 1 (dC (.str (PySem.Str.ofString ""))))
  (dSeq (f_raw_deck_text_1)
  (dRet (dImm 1)))
def d_text_of_deck : Rho → Out :=
  dSeq (dIf (dNot (dBool (dVal (dCallV 3 d_raw_is_deck (dCons (dC (.int 8)) (dCons (dImm 0) (dNil))))))) (dRaise (dExc0 (PySem.Str.ofString "NoDeck"))) (dNext))
  (dRet (dVal (dCallV 6 d_raw_deck_text (dCons (dImm 0) (dNil)))))
def d_is_punched_text : Rho → Out :=
  dSeq (dIf (dNot (dBool (dVal (dCallV 3 d_raw_is_deck (dCons (dC (.int 8)) (dCons (dImm 0) (dNil))))))) (dRet (dC (.bool false))) (dNext))
  (dTry (PySem.Str.ofString "CardError") known (dRet (dOp dEq (dVal (dCallV 7 d_raw_text_deck (dCons (dVal (dCallV 6 d_raw_deck_text (dCons (dImm 0) (dNil)))) (dNil)))) (dImm 0)))
  (⟨(PySem.Str.ofString "BadCard"), none, (fun _ => dRet (dC (.bool false)))⟩ :: []))
def d__law_signs : Rho → Out :=
  dSeq (dSet 0 (dC (.str (PySem.Str.ofString " !\"#$&&'()*+,-./0123456789:;<=>?@"))))
  (dRet (dOp dAdd (dImm 0) (dC (.str (PySem.Str.ofString "ABCDEFGHIJKLMNOPQRSTUVWXYZ[\\]^_`abcdefghijklmnopqrstuvwxyz{|}~")))))
def c__law_hand_1 : Rho → R (List D) :=
  dLc [2] (dSrc (dScr 0 63)) (bName 2) (dYes) (d1 dAbs (d1 dInt (dImm 2)))
def d__law_hand : Rho → Out :=
  dSeq (dSetN 1 (c__law_hand_1))
  (dRetN (dCons (dFrz 1) (dCons (dC (.int 0)) (dCons (dC (.int 0)) (dCons (dOp dAdd (dC (.int 83)) (dOp dMul (dC (.int 7)) (d1 dLen (dRd 1)))) (dCons (dC (.int 0)) (dNil)))))))
def d__law_draw : Rho → Out :=
  dSeq (dIf (dAnd (dBool (dOp dEq (dOpR dIx 0 (dC (.int 2))) (dC (.int 0)))) (dBool (dOp (dCmp fun i j => decide (i < j)) (dOpR dIx 0 (dC (.int 1))) (d1 dLen (dOpR dIx 0 (dC (.int 0))))))) (dSeq (dSet 2 (dOp dIx (dOpR dIx 0 (dC (.int 0))) (dOpR dIx 0 (dC (.int 1)))))
  (dSeq (dPut 0 (dC (.int 1)) (dOp dAdd (dOpR dIx 0 (dC (.int 1))) (dC (.int 1))))
  (dSeq (dPut 0 (dC (.int 3)) (dOp dMod (d1 dInt (dOp dAdd (dOp dAdd (dOp dMul (dOpR dIx 0 (dC (.int 3))) (dC (.int 69621))) (dOp dMul (dImm 2) (dC (.int 40692)))) (dC (.int 31)))) (dC (.int 2147483629))))
  (dIf (dBool (dOp (dCmp fun i j => decide (j ≤ i)) (dImm 2) (dOp dPow (dC (.int 10)) (dC (.int 18))))) (dPut 0 (dC (.int 2)) (dImm 2)) (dNext))))) (dNext))
  (dSeq (dIf (dBool (dOp (dCmp fun i j => decide (j < i)) (dOpR dIx 0 (dC (.int 2))) (dC (.int 0)))) (dSeq (dSet 3 (dOp dMod (d1 dInt (dOpR dIx 0 (dC (.int 2)))) (dImm 1)))
  (dSeq (dPut 0 (dC (.int 2)) (dOp dFdiv (dOpR dIx 0 (dC (.int 2))) (dImm 1)))
  (dRet (dImm 3)))) (dNext))
  (dSeq (dPut 0 (dC (.int 4)) (dOp dAdd (dOpR dIx 0 (dC (.int 4))) (dC (.int 1))))
  (dSeq (dSet 4 (dOp dMod (d1 dInt (dOp dMul (d1 dInt (dOp dAdd (dOpR dIx 0 (dC (.int 3))) (dOp dMul (dC (.int 7919)) (dOpR dIx 0 (dC (.int 4)))))) (dC (.int 48271)))) (dC (.int 2147483647))))
  (dSeq (dSet 4 (dOp dMod (d1 dInt (dOp dMul (dImm 4) (dOp dAdd (dOp dFdiv (dImm 4) (dC (.int 1009))) (dC (.int 69621))))) (dC (.int 2147483647))))
  (dSeq (dSet 4 (dOp dMod (d1 dInt (dOp dMul (dImm 4) (dOp dAdd (dOp dFdiv (dImm 4) (dC (.int 2003))) (dC (.int 40014))))) (dC (.int 2147483563))))
  (dRet (dOp dMod (d1 dInt (dOp dFdiv (dImm 4) (dC (.int 16)))) (dImm 1))))))))
def d__law_any : Rho → Out :=
  dRet (dOp dIx (dImm 1) (dVal (dCallH 5 d__law_draw 0 (dCons (d1 dLen (dImm 1)) (dNil)))))
def d__law_code : Rho → Out :=
  dSeq (dSet 1 (dIfE (dBool (dOp dEq (dImm 0) (dC (.str (PySem.Str.ofString "\n"))))) (dC (.int 95)) (dOp dSub (d1 dOrd (dImm 0)) (dC (.int 32)))))
  (dRet (dOp dAdd (d1 dStr (dOp dFdiv (dImm 1) (dC (.int 10)))) (d1 dStr (dOp dMod (d1 dInt (dImm 1)) (dC (.int 10))))))
def c__law_punched_1 : Rho → R (List D) :=
  dLc [6] (dSrc (dImm 3)) (bName 6) (dYes) (dVal (dCallV 2 d__law_code (dCons (dImm 6) (dNil))))
def b__law_punched_1 : Rho → Out :=
  dSeq (dSet 3 (dSl (dImm 0) (dSm (dImm 2)) (dSm (dOp dAdd (dImm 2) (dC (.int 3))))))
  (dSeq (dSet 4 (dOp dMod (d1 dInt (dOp dFdiv (dImm 2) (dC (.int 3)))) (dC (.int 100))))
  (dSeq (dSet 5 (dOp dAdd (d1 dStr (dOp dFdiv (dImm 4) (dC (.int 10)))) (d1 dStr (dOp dMod (d1 dInt (dImm 4)) (dC (.int 10))))))
  (dApp 1 (dOp dAdd (dOp dAdd (dImm 5) (dJn (dC (.str (PySem.Str.ofString ""))) (dLst (c__law_punched_1)))) (dOp dMul (dC (.str (PySem.Str.ofString ".."))) (dOp dSub (dC (.int 3)) (d1 dLen (dImm 3))))))))
def f__law_punched_1 : Rho → Out :=
  dFor (dRng3 (dC (.int 0)) (d1 dLen (dImm 0)) (dC (.int 3))) (bName 2) b__law_punched_1
def d__law_punched : Rho → Out :=
  dSeq (dSetN 1 (dNil))
  (dSeq (f__law_punched_1)
  (dRet (d1 dTuple (dRd 1))))
def b__law_text_1 : Rho → Out :=
  dSeq (dSet 4 (dVal (dCallH 5 d__law_draw 0 (dCons (dC (.int 96)) (dNil)))))
  (dSet 2 (dOp dAdd (dImm 2) (dIfE (dBool (dOp dEq (dImm 4) (dC (.int 95)))) (dC (.str (PySem.Str.ofString "\n"))) (dOp dIx (dVal (dCall0 1 d__law_signs)) (dImm 4)))))
def f__law_text_1 : Rho → Out :=
  dFor (dRng1 (dVal (dCallH 5 d__law_draw 0 (dCons (dOp dAdd (dImm 1) (dC (.int 1))) (dNil))))) (bName 3) b__law_text_1
def d__law_text : Rho → Out :=
  dSeq (dSet 2 (dC (.str (PySem.Str.ofString ""))))
  (dSeq (f__law_text_1)
  (dRet (dImm 2)))
def d__law_bent : Rho → Out :=
  dSeq (dSet 2 (dVal (dCallH 5 d__law_draw 0 (dCons (d1 dLen (dImm 1)) (dNil)))))
  (dSeq (dSet 3 (dOp dIx (dImm 1) (dImm 2)))
  (dSeq (dSetN 4 (dCons (dOp dAdd (dOp dAdd (dSl (dImm 3) (dNo) (dSm (dC (.int 2)))) (dC (.str (PySem.Str.ofString "96")))) (dSl (dImm 3) (dSm (dC (.int 4))) (dNo))) (dCons (dOp dAdd (dOp dAdd (dSl (dImm 3) (dNo) (dSm (dC (.int 2)))) (dC (.str (PySem.Str.ofString "x0")))) (dSl (dImm 3) (dSm (dC (.int 4))) (dNo))) (dCons (dOp dAdd (dSl (dImm 3) (dNo) (dSm (dC (.int 2)))) (dC (.str (PySem.Str.ofString "......")))) (dNil)))))
  (dSeq (dApp 4 (dOp dAdd (dOp dAdd (dOp dAdd (dSl (dImm 3) (dNo) (dSm (dC (.int 2)))) (dC (.str (PySem.Str.ofString "..")))) (dSl (dImm 3) (dSm (dC (.int 4))) (dSm (dC (.int 6))))) (dC (.str (PySem.Str.ofString "00")))))
  (dSeq (dSetN 4 (dCatNO 4 (dLst (dCons (dOp dAdd (dOp dAdd (dSl (dImm 3) (dNo) (dSm (dC (.int 2)))) (dC (.str (PySem.Str.ofString "0.")))) (dSl (dImm 3) (dSm (dC (.int 4))) (dNo))) (dCons (dOp dAdd (dC (.str (PySem.Str.ofString "x"))) (dSl (dImm 3) (dSm (dC (.int 1))) (dNo))) (dCons (dOp dAdd (dOp dAdd (dSl (dImm 3) (dNo) (dSm (dC (.int 1)))) (dC (.str (PySem.Str.ofString ".")))) (dSl (dImm 3) (dSm (dC (.int 2))) (dNo))) (dNil)))))))
  (dSeq (dApp 4 (dOp dAdd (dOp dAdd (dSl (dImm 3) (dNo) (dSm (dC (.int 1)))) (d1 dStr (dOp dMod (d1 dInt (dOp dAdd (d1 dInt (dOp dIx (dImm 3) (dC (.int 1)))) (dC (.int 1)))) (dC (.int 10))))) (dSl (dImm 3) (dSm (dC (.int 2))) (dNo))))
  (dSeq (dIf (dBool (dOp (dCmp fun i j => decide (i < j)) (dImm 2) (dOp dSub (d1 dLen (dImm 1)) (dC (.int 1))))) (dSetN 4 (dCatNO 4 (dLst (dCons (dOp dAdd (dSl (dImm 3) (dNo) (dSm (dC (.int 6)))) (dC (.str (PySem.Str.ofString "..")))) (dCons (dOp dAdd (dSl (dImm 3) (dNo) (dSm (dC (.int 4)))) (dC (.str (PySem.Str.ofString "....")))) (dNil)))))) (dNext))
  (dRet (dTup (dCons (dOp dAdd (dOp dAdd (dSl (dImm 1) (dNo) (dSm (dImm 2))) (dTup (dCons (dVal (dCallH 2 d__law_any 0 (dCons (dFrz 4) (dNil)))) (dNil)))) (dSl (dImm 1) (dSm (dOp dAdd (dImm 2) (dC (.int 1)))) (dNo))) (dCons (dImm 2) (dNil)))))))))))
def cl__law_word : List ClD := ⟨(PySem.Str.ofString "BadCard"), (some 2), (fun x => dSet 1 (dXf (PySem.Str.ofString "BadCard") (PySem.Str.ofString "card") x))⟩ :: ⟨(PySem.Str.ofString "TooMany"), (some 2), (fun x => dSet 1 (dXt (PySem.Str.ofString "many") (PySem.Str.ofString "TooMany") (PySem.Str.ofString "most") x))⟩ :: ⟨(PySem.Str.ofString "CardError"), (some 2), (fun x => dSeq (dSetN 3 (dQ (fCons (fIs known (PySem.Str.ofString "NoDeck")) (fCons (fIs known (PySem.Str.ofString "NoText")) (fNil))) x)) (dSet 1 (dIfE (dBool (dOp dEq (dOpLO dCount 3 (dC (.bool true))) (dC (.int 1)))) (dOp dIx (dLst (dCons (dC (.str (PySem.Str.ofString "deck"))) (dCons (dC (.str (PySem.Str.ofString "text"))) (dNil)))) (dOpLO dIdx 3 (dC (.bool true)))) (dC (.str (PySem.Str.ofString "other"))))))⟩ :: []
def dLamL__law_word (T : List (Addr × Str)) (db : Rho → R D) : Rho → R D := dLam 4 1 (PySem.Str.ofString "CardError") known cl__law_word (PySem.Str.ofString "let") T 0 db
def b_law_1 (T : List (Addr × Str)) : Rho → Out :=
  dSeq (dSet 3 (dVal (dCallH 5 d__law_text 1 (dCons (dVal (dCallH 2 d__law_any 1 (dCons (dLst (dCons (dC (.int 5)) (dCons (dC (.int 30)) (dCons (dC (.int 400)) (dNil))))) (dNil)))) (dNil)))))
  (dSeq (dSet 4 (dVal (dCallV 7 d__law_punched (dCons (dImm 3) (dNil)))))
  (dSeq (dIf (dOr (dBool (dOp dNe (dVal (dCallV 3 d_text_deck (dCons (dImm 3) (dNil)))) (dImm 4))) (dOr (dBool (dOp dNe (dVal (dCallV 1 d_text_of_deck (dCons (dImm 4) (dNil)))) (dImm 3))) (dBool (dOp dIsNotB (dVal (dCallV 2 d_is_deck (dCons (dC (.int 8)) (dCons (dImm 4) (dNil))))) (dC (.bool true)))))) (dRet (dC (.bool false))) (dNext))
  (dSeq (dIf (dBool (dOp dIsNotB (dVal (dCallV 1 d_is_punched_text (dCons (dImm 4) (dNil)))) (dC (.bool true)))) (dRet (dC (.bool false))) (dNext))
  (dSeq (dIf (dBool (dOp dNe (dImm 4) (dTup (dNil)))) (dSeq (dAsg (bTup (bCons (bName 5) (bCons (bName 6) (bNil)))) (dVal (dCallH 5 d__law_bent 1 (dCons (dImm 4) (dNil)))))
  (dIf (dOr (dBool (dOp dNe (dLamL__law_word T (dVal (dCallV 1 d_text_of_deck (dCons (dImm 5) (dNil))))) (dImm 6))) (dBool (dOp dIsNotB (dVal (dCallV 1 d_is_punched_text (dCons (dImm 5) (dNil)))) (dC (.bool false))))) (dRet (dC (.bool false))) (dNext))) (dNext))
  (dSeq (dSet 7 (dVal (dCallH 2 d__law_any 1 (dCons (dLst (dCons (dC .none) (dCons (dLst (dListN (dImm 4))) (dCons (dOp dAdd (dImm 4) (dTup (dCons (dC (.str (PySem.Str.ofString "12"))) (dNil)))) (dCons (dOp dAdd (dImm 4) (dTup (dCons (dC (.int 12345678)) (dNil)))) (dCons (dJn (dC (.str (PySem.Str.ofString ""))) (dImm 4)) (dCons (dOp dMul (dTup (dCons (dC (.str (PySem.Str.ofString "........"))) (dNil))) (dC (.int 401))) (dNil)))))))) (dNil)))))
  (dSeq (dIf (dOr (dBool (dOp dNe (dLamL__law_word T (dVal (dCallV 1 d_text_of_deck (dCons (dImm 7) (dNil))))) (dC (.str (PySem.Str.ofString "deck"))))) (dBool (dOp dIsNotB (dVal (dCallV 1 d_is_punched_text (dCons (dImm 7) (dNil)))) (dC (.bool false))))) (dRet (dC (.bool false))) (dNext))
  (dSeq (dIf (dBool (dOp dNe (dLamL__law_word T (dVal (dCallV 3 d_text_deck (dCons (dVal (dCallH 2 d__law_any 1 (dCons (dLst (dCons (dC .none) (dCons (dC (.int 0)) (dCons (dLst (dCons (dC (.str (PySem.Str.ofString "a"))) (dNil))) (dCons (dTup (dCons (dC (.str (PySem.Str.ofString "a"))) (dNil))) (dCons (dC (.bool true)) (dCons (dOp dMul (dC (.str (PySem.Str.ofString "a"))) (dC (.int 20001))) (dNil)))))))) (dNil)))) (dNil))))) (dC (.str (PySem.Str.ofString "text"))))) (dRet (dC (.bool false))) (dNext))
  (dIf (dBool (dOp dNe (dLamL__law_word T (dVal (dCallV 3 d_text_deck (dCons (dOp dMul (dC (.str (PySem.Str.ofString "a"))) (dOp dAdd (dC (.int 1201)) (dVal (dCallH 5 d__law_draw 1 (dCons (dC (.int 99)) (dNil)))))) (dNil))))) (dTup (dCons (dC (.str (PySem.Str.ofString "many"))) (dCons (dC (.int 1200)) (dNil)))))) (dRet (dC (.bool false))) (dNext)))))))))
def f_law_1 (T : List (Addr × Str)) : Rho → Out :=
  dFor (dRng1 (dC (.int 5))) (bName 2) (b_law_1 T)
def d_law (T : List (Addr × Str)) : Rho → Out :=
  dSeq (dSetN 1 (dNew (dCallS 3 d__law_hand 0)))
  (dSeq ((f_law_1 T))
  (dRet (dOp dEq (d1 dLen (dVal (dCallV 3 d_text_deck (dCons (dOp dMul (dC (.str (PySem.Str.ofString "b"))) (dC (.int 1200))) (dNil))))) (dC (.int 400)))))
--PLAIN
structure Fct (P : Program) (w : World) (K : PySem.W.Frag) (mg : Str → Option Value) (base : Heap) : Prop where
  a_NoDeck : ExA K mg known (PySem.Str.ofString "NoDeck")
  a_NoText : ExA K mg known (PySem.Str.ofString "NoText")
  b_abs : mg (PySem.Str.ofString "abs") = none
  b_all : mg (PySem.Str.ofString "all") = none
  b_bool : mg (PySem.Str.ofString "bool") = none
  b_enumerate : mg (PySem.Str.ofString "enumerate") = none
  b_int : mg (PySem.Str.ofString "int") = none
  b_isinstance : mg (PySem.Str.ofString "isinstance") = none
  b_len : mg (PySem.Str.ofString "len") = none
  b_list : mg (PySem.Str.ofString "list") = none
  b_ord : mg (PySem.Str.ofString "ord") = none
  b_range : mg (PySem.Str.ofString "range") = none
  b_str : mg (PySem.Str.ofString "str") = none
  b_tuple : mg (PySem.Str.ofString "tuple") = none
  f_BadCard : ∃ C, mg (PySem.Str.ofString "BadCard") = some (.ref C) ∧ XfC K C ∧ PySem.W.findIn K (.ref C) (PySem.Str.ofString "card") = some none
  f_TooMany : ∃ C, mg (PySem.Str.ofString "TooMany") = some (.ref C) ∧ XfC K C ∧ PySem.W.findIn K (.ref C) (PySem.Str.ofString "most") = some none
  i_BLANK : ∃ t, mg (PySem.Str.ofString "BLANK") = some (.int 32 t)
  i_FEED : ∃ t, mg (PySem.Str.ofString "FEED") = some (.int 95 t)
  i_MOST_CARDS : ∃ t, mg (PySem.Str.ofString "MOST_CARDS") = some (.int 400 t)
  i_MOST_TEXT : ∃ t, mg (PySem.Str.ofString "MOST_TEXT") = some (.int 20000 t)
  i_MOST_WIDTH : ∃ t, mg (PySem.Str.ofString "MOST_WIDTH") = some (.int 8 t)
  i_PLACES : ∃ t, mg (PySem.Str.ofString "PLACES") = some (.int 2 t)
  i_SHARE : ∃ t, mg (PySem.Str.ofString "SHARE") = some (.int 3 t)
  m_BadCard : ExM K mg (PySem.Str.ofString "CardError") known (PySem.Str.ofString "BadCard")
  m_CardError : ExM K mg (PySem.Str.ofString "CardError") known (PySem.Str.ofString "CardError")
  m_TooMany : ExM K mg (PySem.Str.ofString "CardError") known (PySem.Str.ofString "TooMany")
  s_EMPTY : ∃ t, mg (PySem.Str.ofString "EMPTY") = some (.str (PySem.Str.ofString "..") t)
  s_FIGURES : ∃ t, mg (PySem.Str.ofString "FIGURES") = some (.str (PySem.Str.ofString "0123456789") t)
  s_FIRST_SIGNS : ∃ t, mg (PySem.Str.ofString "FIRST_SIGNS") = some (.str (PySem.Str.ofString " !\"#$%&'()*+,-./0123456789:;<=>?@") t)
  s_LAST_SIGNS : ∃ t, mg (PySem.Str.ofString "LAST_SIGNS") = some (.str (PySem.Str.ofString "ABCDEFGHIJKLMNOPQRSTUVWXYZ[\\]^_`abcdefghijklmnopqrstuvwxyz{|}~") t)
  s_SIGNS : ∃ t, mg (PySem.Str.ofString "SIGNS") = some (.str (PySem.Str.ofString "0123456789x.") t)
  x0_NoDeck : ExK0 K mg (PySem.Str.ofString "NoDeck")
  x0_NoText : ExK0 K mg (PySem.Str.ofString "NoText")
  x0_NoWidth : ExK0 K mg (PySem.Str.ofString "NoWidth")
  x1_BadCard : ExK1 P w K mg base (PySem.Str.ofString "BadCard") (PySem.Str.ofString "card")
  x1_TooMany : ExK1 P w K mg base (PySem.Str.ofString "TooMany") (PySem.Str.ofString "most")
section
variable {P : Program} {w : World} {K : PySem.W.Frag} {mg : Str → Option Value} {base : Heap}
theorem ok_is_integer {f : Addr} (E : Fct P w K mg base)  (FD : ∃ fd, FunD K (PySem.Str.ofString "is_integer") (PySem.Str.ofString "is_integer") (defArgs s_is_integer) (defBody s_is_integer) (defScope s_is_integer) [] [] f fd) (g : mg (PySem.Str.ofString "is_integer") = some (.ref f)) : FnK P w K mg base (PySem.Str.ofString "is_integer") 1 1 1 d_is_integer := by
  refine fnK_of FD g sc_is_integer rfl rfl (fun _ _ _ _ _ _ us hl => match us, hl with | [_], _ => rfl) fun cdv A outer s H E1 hr => ?_
  have hN := (sc_is_integer).nd
  exact (jss_one (js_ret (je_and (je_isi kit_int (by rfl) E.b_isinstance (by rfl) E.b_int (jb_je (je_var 0)) (by rfl)) (je_one (je_not (je_isi kit_bool (by rfl) E.b_isinstance (by rfl) E.b_bool (jb_je (je_var 0)) (by rfl)))))))
theorem ok_is_within {f : Addr} (E : Fct P w K mg base) (F_is_integer : FnK P w K mg base (PySem.Str.ofString "is_integer") 1 1 1 d_is_integer) (FD : ∃ fd, FunD K (PySem.Str.ofString "is_within") (PySem.Str.ofString "is_within") (defArgs s_is_within) (defBody s_is_within) (defScope s_is_within) [] [] f fd) (g : mg (PySem.Str.ofString "is_within") = some (.ref f)) : FnK P w K mg base (PySem.Str.ofString "is_within") 2 3 3 d_is_within := by
  refine fnK_of FD g sc_is_within rfl rfl (fun _ _ _ _ _ _ us hl => match us, hl with | [_, _, _], _ => rfl) fun cdv A outer s H E1 hr => ?_
  have hN := (sc_is_within).nd
  exact (jss_one (js_ret (je_and (je_res (jr_call F_is_integer (hr.mono (by decide)) (by rfl) (takes_of rfl rfl rfl rfl) (jl_cons (je_var 0) jl_nil))) (je_one (je_chain o_le o_le (je_var 1) (je_var 0) (jb_je (je_var 2)))))))
theorem ok_is_few {f : Addr} (E : Fct P w K mg base)  (FD : ∃ fd, FunD K (PySem.Str.ofString "is_few") (PySem.Str.ofString "is_few") (defArgs s_is_few) (defBody s_is_few) (defScope s_is_few) [] [] f fd) (g : mg (PySem.Str.ofString "is_few") = some (.ref f)) : FnK P w K mg base (PySem.Str.ofString "is_few") 1 2 2 d_is_few := by
  refine fnK_of FD g sc_is_few rfl rfl (fun _ _ _ _ _ _ us hl => match us, hl with | [_, _], _ => rfl) fun cdv A outer s H E1 hr => ?_
  have hN := (sc_is_few).nd
  exact (jss_one (js_ret (je_and (je_isi kit_tup (by rfl) E.b_isinstance (by rfl) E.b_tuple (jb_je (je_var 0)) (by rfl)) (je_one (je_cmp o_le (je_len (by rfl) E.b_len (jb_je (je_var 0))) (jb_je (je_var 1)))))))
theorem ok_is_width {f : Addr} (E : Fct P w K mg base) (F_is_within : FnK P w K mg base (PySem.Str.ofString "is_within") 2 3 3 d_is_within) (FD : ∃ fd, FunD K (PySem.Str.ofString "is_width") (PySem.Str.ofString "is_width") (defArgs s_is_width) (defBody s_is_width) (defScope s_is_width) [] [] f fd) (g : mg (PySem.Str.ofString "is_width") = some (.ref f)) : FnK P w K mg base (PySem.Str.ofString "is_width") 3 1 1 d_is_width := by
  refine fnK_of FD g sc_is_width rfl rfl (fun _ _ _ _ _ _ us hl => match us, hl with | [_], _ => rfl) fun cdv A outer s H E1 hr => ?_
  have hN := (sc_is_width).nd
  exact (jss_one (js_ret (je_res (jr_call F_is_within (hr.mono (by decide)) (by rfl) (takes_of rfl rfl rfl rfl) (jl_cons (je_var 0) (jl_cons je_int (jl_cons (je_gint (by rfl) E.i_MOST_WIDTH) jl_nil)))))))
theorem ok_check_width {f : Addr} (E : Fct P w K mg base) (F_is_width : FnK P w K mg base (PySem.Str.ofString "is_width") 3 1 1 d_is_width) (FD : ∃ fd, FunD K (PySem.Str.ofString "check_width") (PySem.Str.ofString "check_width") (defArgs s_check_width) (defBody s_check_width) (defScope s_check_width) [] [] f fd) (g : mg (PySem.Str.ofString "check_width") = some (.ref f)) : FnK P w K mg base (PySem.Str.ofString "check_width") 4 1 1 d_check_width := by
  refine fnK_of FD g sc_check_width rfl rfl (fun _ _ _ _ _ _ us hl => match us, hl with | [_], _ => rfl) fun cdv A outer s H E1 hr => ?_
  have hN := (sc_check_width).nd
  exact (jss_one (js_if (jt_not (jt_val (je_res (jr_call F_is_width (hr.mono (by decide)) (by rfl) (takes_of rfl rfl rfl rfl) (jl_cons (je_var 0) jl_nil)))))
  (jss_one (js_raise rfl (takes_of rfl rfl rfl rfl) (jx_own0 E.x0_NoWidth (by rfl))))
  jss_nil))
theorem ok_raw_is_card {f : Addr} (E : Fct P w K mg base)  (FD : ∃ fd, FunD K (PySem.Str.ofString "raw_is_card") (PySem.Str.ofString "raw_is_card") (defArgs s_raw_is_card) (defBody s_raw_is_card) (defScope s_raw_is_card) [] [] f fd) (g : mg (PySem.Str.ofString "raw_is_card") = some (.ref f)) : FnK P w K mg base (PySem.Str.ofString "raw_is_card") 1 3 2 d_raw_is_card := by
  refine fnK_of FD g sc_raw_is_card rfl rfl (fun _ _ _ _ _ _ us hl => match us, hl with | [_, _], _ => rfl) fun cdv A outer s H E1 hr => ?_
  have hN := (sc_raw_is_card).nd
  exact (jss_one (js_ret (je_and (je_isi kit_str (by rfl) E.b_isinstance (by rfl) E.b_str (jb_je (je_var 1)) (by rfl)) (je_and (je_cmp (o_eq hr.units) (je_len (by rfl) E.b_len (jb_je (je_var 1))) (jb_je (je_var 0))) (je_one (je_all rfl (by rfl) E.b_all (jb_je (je_new (jn_lc rfl hN (ji_any (je_var 1)) (blkOk_by (own := [((PySem.Str.ofString "sign"), 2)]) (show blkC N_raw_is_card (defScope s_raw_is_card) _ _ = true from by decide +kernel)) (fun b => (jg_name 2 hN)) (fun b => jts_nil) (fun b => (je_cmp (o_in (hu65 hr)) (je_var 2) (jb_je (je_gstr (by rfl) E.s_SIGNS)))))))))))))
theorem ok_raw_is_deck {f : Addr} (E : Fct P w K mg base) (F_is_few : FnK P w K mg base (PySem.Str.ofString "is_few") 1 2 2 d_is_few) (F_raw_is_card : FnK P w K mg base (PySem.Str.ofString "raw_is_card") 1 3 2 d_raw_is_card) (FD : ∃ fd, FunD K (PySem.Str.ofString "raw_is_deck") (PySem.Str.ofString "raw_is_deck") (defArgs s_raw_is_deck) (defBody s_raw_is_deck) (defScope s_raw_is_deck) [] [] f fd) (g : mg (PySem.Str.ofString "raw_is_deck") = some (.ref f)) : FnK P w K mg base (PySem.Str.ofString "raw_is_deck") 2 3 2 d_raw_is_deck := by
  refine fnK_of FD g sc_raw_is_deck rfl rfl (fun _ _ _ _ _ _ us hl => match us, hl with | [_, _], _ => rfl) fun cdv A outer s H E1 hr => ?_
  have hN := (sc_raw_is_deck).nd
  exact (jss_one (js_ret (je_and (je_res (jr_call F_is_few (hr.mono (by decide)) (by rfl) (takes_of rfl rfl rfl rfl) (jl_cons (je_var 1) (jl_cons (je_gint (by rfl) E.i_MOST_CARDS) jl_nil)))) (je_one (je_all rfl (by rfl) E.b_all (jb_je (je_new (jn_lc rfl hN (ji_any (je_var 1)) (blkOk_by (own := [((PySem.Str.ofString "card"), 2)]) (show blkC N_raw_is_deck (defScope s_raw_is_deck) _ _ = true from by decide +kernel)) (fun b => (jg_name 2 hN)) (fun b => jts_nil) (fun b => (je_res (jr_call F_raw_is_card (hr.mono (by decide)) (by rfl) takes0 (jl_cons (je_var 0) (jl_cons (je_var 2) jl_nil)))))))))))))
theorem ok_is_deck {f : Addr} (E : Fct P w K mg base) (F_check_width : FnK P w K mg base (PySem.Str.ofString "check_width") 4 1 1 d_check_width) (F_raw_is_deck : FnK P w K mg base (PySem.Str.ofString "raw_is_deck") 2 3 2 d_raw_is_deck) (FD : ∃ fd, FunD K (PySem.Str.ofString "is_deck") (PySem.Str.ofString "is_deck") (defArgs s_is_deck) (defBody s_is_deck) (defScope s_is_deck) [] [] f fd) (g : mg (PySem.Str.ofString "is_deck") = some (.ref f)) : FnK P w K mg base (PySem.Str.ofString "is_deck") 5 2 2 d_is_deck := by
  refine fnK_of FD g sc_is_deck rfl rfl (fun _ _ _ _ _ _ us hl => match us, hl with | [_, _], _ => rfl) fun cdv A outer s H E1 hr => ?_
  have hN := (sc_is_deck).nd
  exact (jss_cons (js_expr (je_res (jr_call F_check_width (hr.mono (by decide)) (by rfl) (takes_of rfl rfl rfl rfl) (jl_cons (je_var 0) jl_nil))))
  (jss_one (js_ret (je_res (jr_call F_raw_is_deck (hr.mono (by decide)) (by rfl) (takes_of rfl rfl rfl rfl) (jl_cons (je_var 0) (jl_cons (je_var 1) jl_nil)))))))
theorem ok_check_text {f : Addr} (E : Fct P w K mg base)  (FD : ∃ fd, FunD K (PySem.Str.ofString "check_text") (PySem.Str.ofString "check_text") (defArgs s_check_text) (defBody s_check_text) (defScope s_check_text) [] [] f fd) (g : mg (PySem.Str.ofString "check_text") = some (.ref f)) : FnK P w K mg base (PySem.Str.ofString "check_text") 1 1 1 d_check_text := by
  refine fnK_of FD g sc_check_text rfl rfl (fun _ _ _ _ _ _ us hl => match us, hl with | [_], _ => rfl) fun cdv A outer s H E1 hr => ?_
  have hN := (sc_check_text).nd
  exact (jss_one (js_if (jt_jw (jw_or (jt_not (jt_val (je_isi kit_str (by rfl) E.b_isinstance (by rfl) E.b_str (jb_je (je_var 0)) (by rfl)))) (jw_or1 (jt_cmp o_gt (je_len (by rfl) E.b_len (jb_je (je_var 0))) (jb_je (je_gint (by rfl) E.i_MOST_TEXT))))))
  (jss_one (js_raise rfl (takes_of rfl rfl rfl rfl) (jx_own0 E.x0_NoText (by rfl))))
  jss_nil))
theorem ok_code_of {f : Addr} (E : Fct P w K mg base)  (FD : ∃ fd, FunD K (PySem.Str.ofString "code_of") (PySem.Str.ofString "code_of") (defArgs s_code_of) (defBody s_code_of) (defScope s_code_of) [] [] f fd) (g : mg (PySem.Str.ofString "code_of") = some (.ref f)) : FnK P w K mg base (PySem.Str.ofString "code_of") 1 2 1 d_code_of := by
  refine fnK_of FD g sc_code_of rfl rfl (fun _ _ _ _ _ _ us hl => match us, hl with | [_], _ => rfl) fun cdv A outer s H E1 hr => ?_
  have hN := (sc_code_of).nd
  exact (jss_cons (js_set 1 hN (je_ifE (jt_cmp (o_eq hr.units) (je_var 0) (jb_je je_str)) (je_gint (by rfl) E.i_FEED) (je_bin o_sub (je_ord (by rfl) E.b_ord (jb_je (je_var 0))) (jb_je (je_gint (by rfl) E.i_BLANK)))))
  (jss_one (js_ret (je_bin o_add (je_ix (je_gstr (by rfl) E.s_FIGURES) (jb_je (je_bin o_fdiv (je_var 1) (jb_je je_int)))) (jb_je (je_ix (je_gstr (by rfl) E.s_FIGURES) (jb_je (je_bin o_mod (je_int1 (by rfl) E.b_int (jb_je (je_var 1))) (jb_je je_int)))))))))
theorem ok_is_coded {f : Addr} (E : Fct P w K mg base)  (FD : ∃ fd, FunD K (PySem.Str.ofString "is_coded") (PySem.Str.ofString "is_coded") (defArgs s_is_coded) (defBody s_is_coded) (defScope s_is_coded) [] [] f fd) (g : mg (PySem.Str.ofString "is_coded") = some (.ref f)) : FnK P w K mg base (PySem.Str.ofString "is_coded") 1 1 1 d_is_coded := by
  refine fnK_of FD g sc_is_coded rfl rfl (fun _ _ _ _ _ _ us hl => match us, hl with | [_], _ => rfl) fun cdv A outer s H E1 hr => ?_
  have hN := (sc_is_coded).nd
  exact (jss_one (js_ret (je_or (je_cmp (o_eq hr.units) (je_var 0) (jb_je je_str)) (je_one (je_chain o_le o_lt (je_gint (by rfl) E.i_BLANK) (je_ord (by rfl) E.b_ord (jb_je (je_var 0))) (jb_je (je_bin o_add (je_gint (by rfl) E.i_BLANK) (jb_je (je_gint (by rfl) E.i_FEED)))))))))
theorem ok_raw_text_deck {f : Addr} (E : Fct P w K mg base) (F_code_of : FnK P w K mg base (PySem.Str.ofString "code_of") 1 2 1 d_code_of) (FD : ∃ fd, FunD K (PySem.Str.ofString "raw_text_deck") (PySem.Str.ofString "raw_text_deck") (defArgs s_raw_text_deck) (defBody s_raw_text_deck) (defScope s_raw_text_deck) [] [] f fd) (g : mg (PySem.Str.ofString "raw_text_deck") = some (.ref f)) : FnK P w K mg base (PySem.Str.ofString "raw_text_deck") 2 7 1 d_raw_text_deck := by
  refine fnK_of FD g sc_raw_text_deck rfl rfl (fun _ _ _ _ _ _ us hl => match us, hl with | [_], _ => rfl) fun cdv A outer s H E1 hr => ?_
  have hN := (sc_raw_text_deck).nd
  exact (jss_cons (js_setN 1 hN (jn_lst jl_nil))
  (jss_cons (js_for (passes_of rfl) rfl (ji_rng3 (by rfl) E.b_range je_int (je_len (by rfl) E.b_len (jb_je (je_var 0))) (je_gint (by rfl) E.i_SHARE)) (jg_name 2 hN)
  (jss_cons (js_set 3 hN (je_join je_str (jb_je (je_new (jn_lc rfl hN (ji_any (je_sl (je_var 0) (jp_some (je_var 2)) (jp_some (je_bin o_add (je_var 2) (jb_je (je_gint (by rfl) E.i_SHARE)))))) (blkOk_by (own := [((PySem.Str.ofString "sign"), 6)]) (show blkC N_raw_text_deck (defScope s_raw_text_deck) _ _ = true from by decide +kernel)) (fun b => (jg_name 6 hN)) (fun b => jts_nil) (fun b => (je_res (jr_call F_code_of (hr.mono (by decide)) (by rfl) takes0 (jl_cons (je_var 6) jl_nil)))))))))
  (jss_cons (js_set 4 hN (je_bin o_mod (je_int1 (by rfl) E.b_int (jb_je (je_bin o_fdiv (je_var 2) (jb_je (je_gint (by rfl) E.i_SHARE))))) (jb_je je_int)))
  (jss_cons (js_set 5 hN (je_bin o_add (je_ix (je_gstr (by rfl) E.s_FIGURES) (jb_je (je_bin o_fdiv (je_var 4) (jb_je je_int)))) (jb_je (je_ix (je_gstr (by rfl) E.s_FIGURES) (jb_je (je_bin o_mod (je_int1 (by rfl) E.b_int (jb_je (je_var 4))) (jb_je je_int)))))))
  (jss_one (js_app 1 (je_bin o_add (je_bin o_add (je_var 5) (jb_je (je_var 3))) (jb_je (je_bin o_mul (je_gstr (by rfl) E.s_EMPTY) (jb_je (je_bin o_sub (je_gint (by rfl) E.i_SHARE) (jb_je (je_len (by rfl) E.b_len (jb_je (je_sl (je_var 0) (jp_some (je_var 2)) (jp_some (je_bin o_add (je_var 2) (jb_je (je_gint (by rfl) E.i_SHARE)))))))))))))))))))
  (jss_one (js_ret (je_tuple (by rfl) E.b_tuple (jb_rd 1))))))
theorem ok_text_deck {f : Addr} (E : Fct P w K mg base) (F_check_text : FnK P w K mg base (PySem.Str.ofString "check_text") 1 1 1 d_check_text) (F_is_coded : FnK P w K mg base (PySem.Str.ofString "is_coded") 1 1 1 d_is_coded) (F_raw_text_deck : FnK P w K mg base (PySem.Str.ofString "raw_text_deck") 2 7 1 d_raw_text_deck) (FD : ∃ fd, FunD K (PySem.Str.ofString "text_deck") (PySem.Str.ofString "text_deck") (defArgs s_text_deck) (defBody s_text_deck) (defScope s_text_deck) [] [] f fd) (g : mg (PySem.Str.ofString "text_deck") = some (.ref f)) : FnK P w K mg base (PySem.Str.ofString "text_deck") 3 3 1 d_text_deck := by
  refine fnK_of FD g sc_text_deck rfl rfl (fun _ _ _ _ _ _ us hl => match us, hl with | [_], _ => rfl) fun cdv A outer s H E1 hr => ?_
  have hN := (sc_text_deck).nd
  exact (jss_cons (js_expr (je_res (jr_call F_check_text (hr.mono (by decide)) (by rfl) (takes_of rfl rfl rfl rfl) (jl_cons (je_var 0) jl_nil))))
  (jss_cons (js_if (jt_not (jt_val (je_all rfl (by rfl) E.b_all (jb_je (je_new (jn_lc rfl hN (ji_any (je_var 0)) (blkOk_by (own := [((PySem.Str.ofString "sign"), 1)]) (show blkC N_text_deck (defScope s_text_deck) _ _ = true from by decide +kernel)) (fun b => (jg_name 1 hN)) (fun b => jts_nil) (fun b => (je_res (jr_call F_is_coded (hr.mono (by decide)) (by rfl) takes0 (jl_cons (je_var 1) jl_nil))))))))))
  jss_never
  jss_nil)
  (jss_cons (js_if (jt_cmp o_gt (je_len (by rfl) E.b_len (jb_je (je_var 0))) (jb_je (je_bin o_mul (je_gint (by rfl) E.i_SHARE) (jb_je (je_gint (by rfl) E.i_MOST_CARDS)))))
  (jss_one (js_raise rfl (takes_of rfl rfl rfl rfl) (jx_own1 E.x1_TooMany (hr.mono (by decide)) (by rfl) (je_bin o_mul (je_gint (by rfl) E.i_SHARE) (jb_je (je_gint (by rfl) E.i_MOST_CARDS))))))
  jss_nil)
  (jss_one (js_ret (je_res (jr_call F_raw_text_deck (hr.mono (by decide)) (by rfl) (takes_of rfl rfl rfl rfl) (jl_cons (je_var 0) jl_nil))))))))
theorem ok_sign_of {f : Addr} (E : Fct P w K mg base)  (FD : ∃ fd, FunD K (PySem.Str.ofString "sign_of") (PySem.Str.ofString "sign_of") (defArgs s_sign_of) (defBody s_sign_of) (defScope s_sign_of) [] [] f fd) (g : mg (PySem.Str.ofString "sign_of") = some (.ref f)) : FnK P w K mg base (PySem.Str.ofString "sign_of") 1 3 1 d_sign_of := by
  refine fnK_of FD g sc_sign_of rfl rfl (fun _ _ _ _ _ _ us hl => match us, hl with | [_], _ => rfl) fun cdv A outer s H E1 hr => ?_
  have hN := (sc_sign_of).nd
  exact (jss_cons (js_if (jt_not (jt_val (je_all rfl (by rfl) E.b_all (jb_je (je_new (jn_lc rfl hN (ji_any (je_var 0)) (blkOk_by (own := [((PySem.Str.ofString "sign"), 2)]) (show blkC N_sign_of (defScope s_sign_of) _ _ = true from by decide +kernel)) (fun b => (jg_name 2 hN)) (fun b => jts_nil) (fun b => (je_cmp (o_in (hu65 hr)) (je_var 2) (jb_je (je_gstr (by rfl) E.s_FIGURES))))))))))
  (jss_one (js_ret je_non))
  jss_nil)
  (jss_cons (js_set 1 hN (je_bin o_add (je_bin o_mul je_int (jb_je (je_sidx (je_gstr (by rfl) E.s_FIGURES) (je_ix (je_var 0) (jb_je je_int))))) (jb_je (je_sidx (je_gstr (by rfl) E.s_FIGURES) (je_ix (je_var 0) (jb_je je_int))))))
  (jss_cons (js_if (jt_cmp o_gt (je_var 1) (jb_je (je_gint (by rfl) E.i_FEED)))
  (jss_one (js_ret je_non))
  jss_nil)
  (jss_one (js_ret (je_ifE (jt_cmp (o_eq hr.units) (je_var 1) (jb_je (je_gint (by rfl) E.i_FEED))) je_str (je_ix (je_bin o_add (je_gstr (by rfl) E.s_FIRST_SIGNS) (jb_je (je_gstr (by rfl) E.s_LAST_SIGNS))) (jb_je (je_var 1)))))))))
theorem ok_share_of {f : Addr} (E : Fct P w K mg base) (F_sign_of : FnK P w K mg base (PySem.Str.ofString "sign_of") 1 3 1 d_sign_of) (FD : ∃ fd, FunD K (PySem.Str.ofString "share_of") (PySem.Str.ofString "share_of") (defArgs s_share_of) (defBody s_share_of) (defScope s_share_of) [] [] f fd) (g : mg (PySem.Str.ofString "share_of") = some (.ref f)) : FnK P w K mg base (PySem.Str.ofString "share_of") 2 6 1 d_share_of := by
  refine fnK_of FD g sc_share_of rfl rfl (fun _ _ _ _ _ _ us hl => match us, hl with | [_], _ => rfl) fun cdv A outer s H E1 hr => ?_
  have hN := (sc_share_of).nd
  exact (jss_cons (js_parEN 1 2 rfl hN je_str (jn_lc rfl hN (ji_rng3 (by rfl) E.b_range (je_gint (by rfl) E.i_PLACES) (je_gint (by rfl) E.i_MOST_WIDTH) (je_gint (by rfl) E.i_PLACES)) (blkOk_by (own := [((PySem.Str.ofString "at"), 5)]) (show blkC N_share_of (defScope s_share_of) _ _ = true from by decide +kernel)) (fun b => (jg_name 5 hN)) (fun b => jts_nil) (fun b => (je_sl (je_var 0) (jp_some (je_var 5)) (jp_some (je_bin o_add (je_var 5) (jb_je (je_gint (by rfl) E.i_PLACES))))))))
  (jss_cons (js_while 100000 (passes_of rfl) (jt_jw (jw_and (jt_cmp o_gt (je_len (by rfl) E.b_len (jb_rd 2)) (jb_je je_int)) (jw_and1 (jt_cmp (o_eq hr.units) (je_ixR 2 (jb_je (je_neg je_int))) (jb_je (je_gstr (by rfl) E.s_EMPTY)))))) (jss_one (js_expr (je_pop 2))))
  (jss_cons (js_for (passes_of rfl) rfl (ji_any (je_frz 2)) (jg_name 3 hN)
  (jss_cons (js_set 4 hN (je_res (jr_call F_sign_of (hr.mono (by decide)) (by rfl) (takes_of rfl rfl rfl rfl) (jl_cons (je_var 3) jl_nil))))
  (jss_cons (js_if (jt_isN (jb_je (je_var 4)))
  (jss_one (js_ret je_non))
  jss_nil)
  (jss_one (js_aug 1 hN op_iadd ok_iadd (jb_je (je_var 4)))))))
  (jss_one (js_ret (je_var 1))))))
theorem ok_raw_deck_text {f : Addr} (E : Fct P w K mg base) (F_share_of : FnK P w K mg base (PySem.Str.ofString "share_of") 2 6 1 d_share_of) (FD : ∃ fd, FunD K (PySem.Str.ofString "raw_deck_text") (PySem.Str.ofString "raw_deck_text") (defArgs s_raw_deck_text) (defBody s_raw_deck_text) (defScope s_raw_deck_text) [] [] f fd) (g : mg (PySem.Str.ofString "raw_deck_text") = some (.ref f)) : FnK P w K mg base (PySem.Str.ofString "raw_deck_text") 3 6 1 d_raw_deck_text := by
  refine fnK_of FD g sc_raw_deck_text rfl rfl (fun _ _ _ _ _ _ us hl => match us, hl with | [_], _ => rfl) fun cdv A outer s H E1 hr => ?_
  have hN := (sc_raw_deck_text).nd
  exact (jss_cons (js_set 1 hN je_str)
  (jss_cons (js_for (passes_of rfl) rfl (ji_enum (by rfl) E.b_enumerate (je_var 0)) (jg_tup rfl (jgs_cons (jg_name 2 hN) (jgs_cons (jg_name 3 hN) jgs_nil)) (bCons_len (bCons_len bNil_len)))
  (jss_cons (js_set 4 hN (je_bin o_mod (je_int1 (by rfl) E.b_int (jb_je (je_var 2))) (jb_je je_int)))
  (jss_cons (js_set 5 hN (je_res (jr_call F_share_of (hr.mono (by decide)) (by rfl) (takes_of rfl rfl rfl rfl) (jl_cons (je_var 3) jl_nil))))
  (jss_cons (js_if (jt_jw (jw_or (jt_cmp (o_ne hr.units) (je_sl (je_var 3) jp_none (jp_some (je_gint (by rfl) E.i_PLACES))) (jb_je (je_bin o_add (je_ix (je_gstr (by rfl) E.s_FIGURES) (jb_je (je_bin o_fdiv (je_var 4) (jb_je je_int)))) (jb_je (je_ix (je_gstr (by rfl) E.s_FIGURES) (jb_je (je_bin o_mod (je_int1 (by rfl) E.b_int (jb_je (je_var 4))) (jb_je je_int)))))))) (jw_or (jt_isN (jb_je (je_var 5))) (jw_or1 (jt_cmp (o_eq hr.units) (je_var 5) (jb_je je_str))))))
  (jss_one (js_raise rfl (takes_of rfl rfl rfl rfl) (jx_own1 E.x1_BadCard (hr.mono (by decide)) (by rfl) (je_var 2))))
  jss_nil)
  (jss_cons (js_if (jt_jw (jw_and (jt_cmp o_lt (je_len (by rfl) E.b_len (jb_je (je_var 5))) (jb_je (je_gint (by rfl) E.i_SHARE))) (jw_and1 (jt_cmp o_lt (je_var 2) (jb_je (je_bin o_sub (je_len (by rfl) E.b_len (jb_je (je_var 0))) (jb_je je_int)))))))
  (jss_one (js_raise rfl (takes_of rfl rfl rfl rfl) (jx_own1 E.x1_BadCard (hr.mono (by decide)) (by rfl) (je_var 2))))
  jss_nil)
  (jss_one (js_aug 1 hN op_iadd ok_iadd (jb_je (je_var 5)))))))))
  (jss_one (js_ret (je_var 1)))))
theorem ok_text_of_deck {f : Addr} (E : Fct P w K mg base) (F_raw_is_deck : FnK P w K mg base (PySem.Str.ofString "raw_is_deck") 2 3 2 d_raw_is_deck) (F_raw_deck_text : FnK P w K mg base (PySem.Str.ofString "raw_deck_text") 3 6 1 d_raw_deck_text) (FD : ∃ fd, FunD K (PySem.Str.ofString "text_of_deck") (PySem.Str.ofString "text_of_deck") (defArgs s_text_of_deck) (defBody s_text_of_deck) (defScope s_text_of_deck) [] [] f fd) (g : mg (PySem.Str.ofString "text_of_deck") = some (.ref f)) : FnK P w K mg base (PySem.Str.ofString "text_of_deck") 4 1 1 d_text_of_deck := by
  refine fnK_of FD g sc_text_of_deck rfl rfl (fun _ _ _ _ _ _ us hl => match us, hl with | [_], _ => rfl) fun cdv A outer s H E1 hr => ?_
  have hN := (sc_text_of_deck).nd
  exact (jss_cons (js_if (jt_not (jt_val (je_res (jr_call F_raw_is_deck (hr.mono (by decide)) (by rfl) (takes_of rfl rfl rfl rfl) (jl_cons (je_gint (by rfl) E.i_MOST_WIDTH) (jl_cons (je_var 0) jl_nil))))))
  (jss_one (js_raise rfl (takes_of rfl rfl rfl rfl) (jx_own0 E.x0_NoDeck (by rfl))))
  jss_nil)
  (jss_one (js_ret (je_res (jr_call F_raw_deck_text (hr.mono (by decide)) (by rfl) (takes_of rfl rfl rfl rfl) (jl_cons (je_var 0) jl_nil))))))
theorem ok_is_punched_text {f : Addr} (E : Fct P w K mg base) (F_raw_is_deck : FnK P w K mg base (PySem.Str.ofString "raw_is_deck") 2 3 2 d_raw_is_deck) (F_raw_text_deck : FnK P w K mg base (PySem.Str.ofString "raw_text_deck") 2 7 1 d_raw_text_deck) (F_raw_deck_text : FnK P w K mg base (PySem.Str.ofString "raw_deck_text") 3 6 1 d_raw_deck_text) (FD : ∃ fd, FunD K (PySem.Str.ofString "is_punched_text") (PySem.Str.ofString "is_punched_text") (defArgs s_is_punched_text) (defBody s_is_punched_text) (defScope s_is_punched_text) [] [] f fd) (g : mg (PySem.Str.ofString "is_punched_text") = some (.ref f)) : FnK P w K mg base (PySem.Str.ofString "is_punched_text") 4 1 1 d_is_punched_text := by
  refine fnK_of FD g sc_is_punched_text rfl rfl (fun _ _ _ _ _ _ us hl => match us, hl with | [_], _ => rfl) fun cdv A outer s H E1 hr => ?_
  have hN := (sc_is_punched_text).nd
  exact (jss_cons (js_if (jt_not (jt_val (je_res (jr_call F_raw_is_deck (hr.mono (by decide)) (by rfl) (takes_of rfl rfl rfl rfl) (jl_cons (je_gint (by rfl) E.i_MOST_WIDTH) (jl_cons (je_var 0) jl_nil))))))
  (jss_one (js_ret je_bl))
  jss_nil)
  (jss_one (js_try rfl rfl hN (takes_of rfl rfl rfl rfl) (fun W1 pn1 xe1 tk1 po1 => (jss_one (js_ret (je_cmp (o_eq hr.units) (je_res (jr_call F_raw_text_deck (hr.mono (by decide)) (by rfl) tk1 (jl_cons (je_res (jr_call F_raw_deck_text (hr.mono (by decide)) (by rfl) tk1 (jl_cons (je_var 0) jl_nil))) jl_nil))) (jb_je (je_var 0))))))
  (.cons E.m_BadCard rfl (by rfl) (by decide) True.intro (jssu_of fun c hc => (jss_one (js_ret je_bl))) .nil))))
theorem ok__law_signs {f : Addr} (E : Fct P w K mg base)  (FD : ∃ fd, FunD K (PySem.Str.ofString "_law_signs") (PySem.Str.ofString "_law_signs") (defArgs s__law_signs) (defBody s__law_signs) (defScope s__law_signs) [] [] f fd) (g : mg (PySem.Str.ofString "_law_signs") = some (.ref f)) : FnK P w K mg base (PySem.Str.ofString "_law_signs") 1 1 0 d__law_signs := by
  refine fnK_of FD g sc__law_signs rfl rfl (fun _ _ _ _ _ _ us hl => match us, hl with | [], _ => rfl) fun cdv A outer s H E1 hr => ?_
  have hN := (sc__law_signs).nd
  exact (jss_cons (js_set 0 hN je_str)
  (jss_one (js_ret (je_bin o_add (je_var 0) (jb_je je_str)))))
theorem ok__law_hand {f : Addr} (E : Fct P w K mg base)  (FD : ∃ fd, FunD K (PySem.Str.ofString "_law_hand") (PySem.Str.ofString "_law_hand") (defArgs s__law_hand) (defBody s__law_hand) (defScope s__law_hand) [] [] f fd) (g : mg (PySem.Str.ofString "_law_hand") = some (.ref f)) : FnK P w K mg base (PySem.Str.ofString "_law_hand") 1 3 1 d__law_hand := by
  refine fnK_of FD g sc__law_hand rfl rfl (fun _ _ _ _ _ _ us hl => match us, hl with | [_], _ => rfl) fun cdv A outer s H E1 hr => ?_
  have hN := (sc__law_hand).nd
  exact (jss_cons (js_setLc 1 rfl hN (ji_any (je_scr 0)) (blkOk_by (own := [((PySem.Str.ofString "cell"), 2)]) (show blkC N__law_hand (defScope s__law_hand) _ _ = true from by decide +kernel)) (fun b => (jg_name 2 hN)) (fun b => jts_nil) (fun b => (je_abs (by rfl) E.b_abs (jb_je (je_int1 (by rfl) E.b_int (jb_je (je_var 2)))))))
  (jss_one (js_retN (jn_lst (jl_cons (je_frz 1) (jl_cons je_int (jl_cons je_int (jl_cons (je_bin o_add je_int (jb_je (je_bin o_mul je_int (jb_je (je_len (by rfl) E.b_len (jb_rd 1)))))) (jl_cons je_int jl_nil)))))))))
theorem ok__law_draw {f : Addr} (E : Fct P w K mg base)  (FD : ∃ fd, FunD K (PySem.Str.ofString "_law_draw") (PySem.Str.ofString "_law_draw") (defArgs s__law_draw) (defBody s__law_draw) (defScope s__law_draw) [] [] f fd) (g : mg (PySem.Str.ofString "_law_draw") = some (.ref f)) : FnK P w K mg base (PySem.Str.ofString "_law_draw") 1 5 2 d__law_draw := by
  refine fnK_of FD g sc__law_draw rfl rfl (fun _ _ _ _ _ _ us hl => match us, hl with | [_, _], _ => rfl) fun cdv A outer s H E1 hr => ?_
  have hN := (sc__law_draw).nd
  exact (jss_cons (js_if (jt_jw (jw_and (jt_cmp (o_eq hr.units) (je_ixR 0 (jb_je je_int)) (jb_je je_int)) (jw_and1 (jt_cmp o_lt (je_ixR 0 (jb_je je_int)) (jb_je (je_len (by rfl) E.b_len (jb_je (je_ixR 0 (jb_je je_int)))))))))
  (jss_cons (js_set 2 hN (je_ix (je_ixR 0 (jb_je je_int)) (jb_je (je_ixR 0 (jb_je je_int)))))
  (jss_cons (js_put 0 (je_bin o_add (je_ixR 0 (jb_je je_int)) (jb_je je_int)) je_int)
  (jss_cons (js_put 0 (je_bin o_mod (je_int1 (by rfl) E.b_int (jb_je (je_bin o_add (je_bin o_add (je_bin o_mul (je_ixR 0 (jb_je je_int)) (jb_je je_int)) (jb_je (je_bin o_mul (je_var 2) (jb_je je_int)))) (jb_je je_int)))) (jb_je je_int)) je_int)
  (jss_one (js_if (jt_cmp o_ge (je_var 2) (jb_je (je_bin o_pow je_int (jb_je je_int))))
  (jss_one (js_put 0 (je_var 2) je_int))
  jss_nil)))))
  jss_nil)
  (jss_cons (js_if (jt_cmp o_gt (je_ixR 0 (jb_je je_int)) (jb_je je_int))
  (jss_cons (js_set 3 hN (je_bin o_mod (je_int1 (by rfl) E.b_int (jb_je (je_ixR 0 (jb_je je_int)))) (jb_je (je_var 1))))
  (jss_cons (js_put 0 (je_bin o_fdiv (je_ixR 0 (jb_je je_int)) (jb_je (je_var 1))) je_int)
  (jss_one (js_ret (je_var 3)))))
  jss_nil)
  (jss_cons (js_put 0 (je_bin o_add (je_ixR 0 (jb_je je_int)) (jb_je je_int)) je_int)
  (jss_cons (js_set 4 hN (je_bin o_mod (je_int1 (by rfl) E.b_int (jb_je (je_bin o_mul (je_int1 (by rfl) E.b_int (jb_je (je_bin o_add (je_ixR 0 (jb_je je_int)) (jb_je (je_bin o_mul je_int (jb_je (je_ixR 0 (jb_je je_int)))))))) (jb_je je_int)))) (jb_je je_int)))
  (jss_cons (js_set 4 hN (je_bin o_mod (je_int1 (by rfl) E.b_int (jb_je (je_bin o_mul (je_var 4) (jb_je (je_bin o_add (je_bin o_fdiv (je_var 4) (jb_je je_int)) (jb_je je_int)))))) (jb_je je_int)))
  (jss_cons (js_set 4 hN (je_bin o_mod (je_int1 (by rfl) E.b_int (jb_je (je_bin o_mul (je_var 4) (jb_je (je_bin o_add (je_bin o_fdiv (je_var 4) (jb_je je_int)) (jb_je je_int)))))) (jb_je je_int)))
  (jss_one (js_ret (je_bin o_mod (je_int1 (by rfl) E.b_int (jb_je (je_bin o_fdiv (je_var 4) (jb_je je_int)))) (jb_je (je_var 1)))))))))))
theorem ok__law_any {f : Addr} (E : Fct P w K mg base) (F__law_draw : FnK P w K mg base (PySem.Str.ofString "_law_draw") 1 5 2 d__law_draw) (FD : ∃ fd, FunD K (PySem.Str.ofString "_law_any") (PySem.Str.ofString "_law_any") (defArgs s__law_any) (defBody s__law_any) (defScope s__law_any) [] [] f fd) (g : mg (PySem.Str.ofString "_law_any") = some (.ref f)) : FnK P w K mg base (PySem.Str.ofString "_law_any") 2 2 2 d__law_any := by
  refine fnK_of FD g sc__law_any rfl rfl (fun _ _ _ _ _ _ us hl => match us, hl with | [_, _], _ => rfl) fun cdv A outer s H E1 hr => ?_
  have hN := (sc__law_any).nd
  exact (jss_one (js_ret (je_ix (je_var 1) (jb_je (je_res (jr_callH 0 F__law_draw (hr.mono (by decide)) (by rfl) (takes_of rfl rfl rfl rfl) (jl_cons (je_len (by rfl) E.b_len (jb_je (je_var 1))) jl_nil)))))))
theorem ok__law_code {f : Addr} (E : Fct P w K mg base)  (FD : ∃ fd, FunD K (PySem.Str.ofString "_law_code") (PySem.Str.ofString "_law_code") (defArgs s__law_code) (defBody s__law_code) (defScope s__law_code) [] [] f fd) (g : mg (PySem.Str.ofString "_law_code") = some (.ref f)) : FnK P w K mg base (PySem.Str.ofString "_law_code") 1 2 1 d__law_code := by
  refine fnK_of FD g sc__law_code rfl rfl (fun _ _ _ _ _ _ us hl => match us, hl with | [_], _ => rfl) fun cdv A outer s H E1 hr => ?_
  have hN := (sc__law_code).nd
  exact (jss_cons (js_set 1 hN (je_ifE (jt_cmp (o_eq hr.units) (je_var 0) (jb_je je_str)) je_int (je_bin o_sub (je_ord (by rfl) E.b_ord (jb_je (je_var 0))) (jb_je je_int))))
  (jss_one (js_ret (je_bin o_add (je_str1 (by rfl) E.b_str (jb_je (je_bin o_fdiv (je_var 1) (jb_je je_int)))) (jb_je (je_str1 (by rfl) E.b_str (jb_je (je_bin o_mod (je_int1 (by rfl) E.b_int (jb_je (je_var 1))) (jb_je je_int)))))))))
theorem ok__law_punched {f : Addr} (E : Fct P w K mg base) (F__law_code : FnK P w K mg base (PySem.Str.ofString "_law_code") 1 2 1 d__law_code) (FD : ∃ fd, FunD K (PySem.Str.ofString "_law_punched") (PySem.Str.ofString "_law_punched") (defArgs s__law_punched) (defBody s__law_punched) (defScope s__law_punched) [] [] f fd) (g : mg (PySem.Str.ofString "_law_punched") = some (.ref f)) : FnK P w K mg base (PySem.Str.ofString "_law_punched") 2 7 1 d__law_punched := by
  refine fnK_of FD g sc__law_punched rfl rfl (fun _ _ _ _ _ _ us hl => match us, hl with | [_], _ => rfl) fun cdv A outer s H E1 hr => ?_
  have hN := (sc__law_punched).nd
  exact (jss_cons (js_setN 1 hN (jn_lst jl_nil))
  (jss_cons (js_for (passes_of rfl) rfl (ji_rng3 (by rfl) E.b_range je_int (je_len (by rfl) E.b_len (jb_je (je_var 0))) je_int) (jg_name 2 hN)
  (jss_cons (js_set 3 hN (je_sl (je_var 0) (jp_some (je_var 2)) (jp_some (je_bin o_add (je_var 2) (jb_je je_int)))))
  (jss_cons (js_set 4 hN (je_bin o_mod (je_int1 (by rfl) E.b_int (jb_je (je_bin o_fdiv (je_var 2) (jb_je je_int)))) (jb_je je_int)))
  (jss_cons (js_set 5 hN (je_bin o_add (je_str1 (by rfl) E.b_str (jb_je (je_bin o_fdiv (je_var 4) (jb_je je_int)))) (jb_je (je_str1 (by rfl) E.b_str (jb_je (je_bin o_mod (je_int1 (by rfl) E.b_int (jb_je (je_var 4))) (jb_je je_int)))))))
  (jss_one (js_app 1 (je_bin o_add (je_bin o_add (je_var 5) (jb_je (je_join je_str (jb_je (je_new (jn_lc rfl hN (ji_any (je_var 3)) (blkOk_by (own := [((PySem.Str.ofString "sign"), 6)]) (show blkC N__law_punched (defScope s__law_punched) _ _ = true from by decide +kernel)) (fun b => (jg_name 6 hN)) (fun b => jts_nil) (fun b => (je_res (jr_call F__law_code (hr.mono (by decide)) (by rfl) takes0 (jl_cons (je_var 6) jl_nil)))))))))) (jb_je (je_bin o_mul je_str (jb_je (je_bin o_sub je_int (jb_je (je_len (by rfl) E.b_len (jb_je (je_var 3)))))))))))))))
  (jss_one (js_ret (je_tuple (by rfl) E.b_tuple (jb_rd 1))))))
theorem ok__law_text {f : Addr} (E : Fct P w K mg base) (F__law_signs : FnK P w K mg base (PySem.Str.ofString "_law_signs") 1 1 0 d__law_signs) (F__law_draw : FnK P w K mg base (PySem.Str.ofString "_law_draw") 1 5 2 d__law_draw) (FD : ∃ fd, FunD K (PySem.Str.ofString "_law_text") (PySem.Str.ofString "_law_text") (defArgs s__law_text) (defBody s__law_text) (defScope s__law_text) [] [] f fd) (g : mg (PySem.Str.ofString "_law_text") = some (.ref f)) : FnK P w K mg base (PySem.Str.ofString "_law_text") 2 5 2 d__law_text := by
  refine fnK_of FD g sc__law_text rfl rfl (fun _ _ _ _ _ _ us hl => match us, hl with | [_, _], _ => rfl) fun cdv A outer s H E1 hr => ?_
  have hN := (sc__law_text).nd
  exact (jss_cons (js_set 2 hN je_str)
  (jss_cons (js_for (passes_of rfl) rfl (ji_rng1 (by rfl) E.b_range (je_res (jr_callH 0 F__law_draw (hr.mono (by decide)) (by rfl) (takes_of rfl rfl rfl rfl) (jl_cons (je_bin o_add (je_var 1) (jb_je je_int)) jl_nil)))) (jg_name 3 hN)
  (jss_cons (js_set 4 hN (je_res (jr_callH 0 F__law_draw (hr.mono (by decide)) (by rfl) (takes_of rfl rfl rfl rfl) (jl_cons je_int jl_nil))))
  (jss_one (js_set 2 hN (je_bin o_add (je_var 2) (jb_je (je_ifE (jt_cmp (o_eq hr.units) (je_var 4) (jb_je je_int)) je_str (je_ix (je_res (jr_call0 F__law_signs (hr.mono (by decide)) (by rfl) (takes_of rfl rfl rfl rfl))) (jb_je (je_var 4))))))))))
  (jss_one (js_ret (je_var 2)))))
theorem ok__law_bent {f : Addr} (E : Fct P w K mg base) (F__law_draw : FnK P w K mg base (PySem.Str.ofString "_law_draw") 1 5 2 d__law_draw) (F__law_any : FnK P w K mg base (PySem.Str.ofString "_law_any") 2 2 2 d__law_any) (FD : ∃ fd, FunD K (PySem.Str.ofString "_law_bent") (PySem.Str.ofString "_law_bent") (defArgs s__law_bent) (defBody s__law_bent) (defScope s__law_bent) [] [] f fd) (g : mg (PySem.Str.ofString "_law_bent") = some (.ref f)) : FnK P w K mg base (PySem.Str.ofString "_law_bent") 3 5 2 d__law_bent := by
  refine fnK_of FD g sc__law_bent rfl rfl (fun _ _ _ _ _ _ us hl => match us, hl with | [_, _], _ => rfl) fun cdv A outer s H E1 hr => ?_
  have hN := (sc__law_bent).nd
  exact (jss_cons (js_set 2 hN (je_res (jr_callH 0 F__law_draw (hr.mono (by decide)) (by rfl) (takes_of rfl rfl rfl rfl) (jl_cons (je_len (by rfl) E.b_len (jb_je (je_var 1))) jl_nil))))
  (jss_cons (js_set 3 hN (je_ix (je_var 1) (jb_je (je_var 2))))
  (jss_cons (js_setN 4 hN (jn_lst (jl_cons (je_bin o_add (je_bin o_add (je_sl (je_var 3) jp_none (jp_some je_int)) (jb_je je_str)) (jb_je (je_sl (je_var 3) (jp_some je_int) jp_none))) (jl_cons (je_bin o_add (je_bin o_add (je_sl (je_var 3) jp_none (jp_some je_int)) (jb_je je_str)) (jb_je (je_sl (je_var 3) (jp_some je_int) jp_none))) (jl_cons (je_bin o_add (je_sl (je_var 3) jp_none (jp_some je_int)) (jb_je je_str)) jl_nil)))))
  (jss_cons (js_app 4 (je_bin o_add (je_bin o_add (je_bin o_add (je_sl (je_var 3) jp_none (jp_some je_int)) (jb_je je_str)) (jb_je (je_sl (je_var 3) (jp_some je_int) (jp_some je_int)))) (jb_je je_str)))
  (jss_cons (js_setN 4 hN (jn_catO 4 (jb_je (je_new (jn_lst (jl_cons (je_bin o_add (je_bin o_add (je_sl (je_var 3) jp_none (jp_some je_int)) (jb_je je_str)) (jb_je (je_sl (je_var 3) (jp_some je_int) jp_none))) (jl_cons (je_bin o_add je_str (jb_je (je_sl (je_var 3) (jp_some je_int) jp_none))) (jl_cons (je_bin o_add (je_bin o_add (je_sl (je_var 3) jp_none (jp_some je_int)) (jb_je je_str)) (jb_je (je_sl (je_var 3) (jp_some je_int) jp_none))) jl_nil))))))))
  (jss_cons (js_app 4 (je_bin o_add (je_bin o_add (je_sl (je_var 3) jp_none (jp_some je_int)) (jb_je (je_str1 (by rfl) E.b_str (jb_je (je_bin o_mod (je_int1 (by rfl) E.b_int (jb_je (je_bin o_add (je_int1 (by rfl) E.b_int (jb_je (je_ix (je_var 3) (jb_je je_int)))) (jb_je je_int)))) (jb_je je_int)))))) (jb_je (je_sl (je_var 3) (jp_some je_int) jp_none))))
  (jss_cons (js_if (jt_cmp o_lt (je_var 2) (jb_je (je_bin o_sub (je_len (by rfl) E.b_len (jb_je (je_var 1))) (jb_je je_int))))
  (jss_one (js_setN 4 hN (jn_catO 4 (jb_je (je_new (jn_lst (jl_cons (je_bin o_add (je_sl (je_var 3) jp_none (jp_some je_int)) (jb_je je_str)) (jl_cons (je_bin o_add (je_sl (je_var 3) jp_none (jp_some je_int)) (jb_je je_str)) jl_nil))))))))
  jss_nil)
  (jss_one (js_ret (je_tup (jl_cons (je_bin o_add (je_bin o_add (je_sl (je_var 1) jp_none (jp_some (je_var 2))) (jb_je (je_tup (jl_cons (je_res (jr_callH 0 F__law_any (hr.mono (by decide)) (by rfl) (takes_of rfl rfl rfl rfl) (jl_cons (je_frz 4) jl_nil))) jl_nil)))) (jb_je (je_sl (je_var 1) (jp_some (je_bin o_add (je_var 2) (jb_je je_int))) jp_none))) (jl_cons (je_var 2) jl_nil))))))))))))
theorem wf__law_word {f : Addr} (E : Fct P w K mg base) (FD : ∃ fd, FunD K (PySem.Str.ofString "_law_word") (PySem.Str.ofString "_law_word") (defArgs s__law_word) (defBody s__law_word) (defScope s__law_word) [] [] f fd) (g : mg (PySem.Str.ofString "_law_word") = some (.ref f)) : WordK P w K mg base (PySem.Str.ofString "_law_word") 4 1 (PySem.Str.ofString "CardError") known cl__law_word (PySem.Str.ofString "let") := by
  obtain ⟨fd, F⟩ := FD
  have hN := (sc__law_word).nd
  refine ⟨⟨s__law_word, f, fd, N__law_word, (PySem.Str.ofString "call"), fun_of F, g, F.bindsN (ps := [(PySem.Str.ofString "call")]) (fun _ _ _ _ _ _ us hl => match us, hl with | [_], _ => rfl), sc__law_word, rfl, Or.inl rfl, by decide, by decide, fun X q cdg hr0 h1 h2 h3 h4 h5 => ?_⟩⟩
  subst h1 h2 h3 h4 h5
  exact word_gives hN rfl (by decide) rfl (by decide) rfl (by decide) (by decide) (fun s H => (.cons E.m_BadCard rfl (by rfl) (by decide) ⟨rfl, rfl⟩ (jssu_one (jsu_set 1 hN (jeu_xfE 2 E.f_BadCard rfl))) (.cons E.m_TooMany rfl (by rfl) (by decide) ⟨rfl, rfl⟩ (jssu_one (jsu_set 1 hN (jeu_xt (jeu_xfE 2 E.f_TooMany rfl)))) (.cons E.m_CardError rfl (by rfl) (by decide) ⟨rfl, rfl⟩ (jssu_cons (jsu_setN 3 hN (jenu_lst (jlq_cons (jeq_is E.a_NoDeck (by rfl) E.b_isinstance (by rfl)) (jlq_cons (jeq_is E.a_NoText (by rfl) E.b_isinstance (by rfl)) jlq_nil)) (hl := (fCons_len (fCons_len fNil_len))))) fun c hc => (jss_one (js_set 1 hN (je_ifE (jt_cmp (o_eq (by have z := hr0.un; show X.A.units + 3 + 64 < _; omega)) (je_mtO 3 (mt_countD (by have z := hr0.un; show X.A.units + 3 + 65 < _; omega)) mk_count PySem.F.slot_list_count PySem.F.type_list_count je_bl) (jb_je je_int)) (je_ix (je_new (jn_lst (jl_cons je_str (jl_cons je_str jl_nil)))) (jb_je (je_mtO 3 (mt_indexD (by have z := hr0.un; show X.A.units + 3 + 65 < _; omega)) mk_index PySem.F.slot_list_index PySem.F.type_list_index je_bl))) je_str)))) .nil)))) (fun s H => rfl)
theorem ok_law {f c P0 : Addr} {T : List (Addr × Str)} (E : Fct P w K mg base) (F_is_deck : FnK P w K mg base (PySem.Str.ofString "is_deck") 5 2 2 d_is_deck) (F_text_deck : FnK P w K mg base (PySem.Str.ofString "text_deck") 3 3 1 d_text_deck) (F_text_of_deck : FnK P w K mg base (PySem.Str.ofString "text_of_deck") 4 1 1 d_text_of_deck) (F_is_punched_text : FnK P w K mg base (PySem.Str.ofString "is_punched_text") 4 1 1 d_is_punched_text) (F__law_hand : FnK P w K mg base (PySem.Str.ofString "_law_hand") 1 3 1 d__law_hand) (F__law_draw : FnK P w K mg base (PySem.Str.ofString "_law_draw") 1 5 2 d__law_draw) (F__law_any : FnK P w K mg base (PySem.Str.ofString "_law_any") 2 2 2 d__law_any) (F__law_punched : FnK P w K mg base (PySem.Str.ofString "_law_punched") 2 7 1 d__law_punched) (F__law_text : FnK P w K mg base (PySem.Str.ofString "_law_text") 2 5 2 d__law_text) (F__law_bent : FnK P w K mg base (PySem.Str.ofString "_law_bent") 3 5 2 d__law_bent) (WF__law_word : WordK P w K mg base (PySem.Str.ofString "_law_word") 4 1 (PySem.Str.ofString "CardError") known cl__law_word (PySem.Str.ofString "let")) (TB : LamX.TabB base mg c P0) (hT : T = [(P0, qLam (PySem.Str.ofString "law"))]) (A : Around) (outer : List Env) (s : Shared) (H : Hp) (E1 : XK) (hr : Room 6 (A.deeper (envOfC (PySem.Str.ofString "law") (defScope s_law) s.heap.objs.size f (.ref c)))) :
    JSs (cxOf (L2.CX P w) P w K mg base N_law (PySem.Str.ofString "law") (defScope s_law) f (.ref c) A outer s H E1) (fun cls d _ H1 => E1 cls d H1) (defBody s_law) (d_law T) := by
  have hN := (sc_law).nd
  have hcode : (Value.ref c) = Value.ref c := rfl
  have hmT : (P0, qLam (PySem.Str.ofString "law")) ∈ T := by rw [hT]; exact List.mem_cons_self
  have hu : ∀ p ∈ T, p.1 = P0 → p.2 = qLam (PySem.Str.ofString "law") := fun p hp _ => by rw [hT] at hp; rw [List.mem_singleton.mp hp]
  exact (jss_cons (js_setN 1 hN (jn_res (jr_callScr 0 F__law_hand (hr.mono (by decide)) (by rfl) (takes_of rfl rfl rfl rfl))))
  (jss_cons (js_for (passes_of rfl) rfl (ji_rng1 (by rfl) E.b_range je_int) (jg_name 2 hN)
  (jss_cons (js_set 3 hN (je_res (jr_callH 1 F__law_text (hr.mono (by decide)) (by rfl) (takes_of rfl rfl rfl rfl) (jl_cons (je_res (jr_callH 1 F__law_any (hr.mono (by decide)) (by rfl) (takes_of rfl rfl rfl rfl) (jl_cons (je_new (jn_lst (jl_cons je_int (jl_cons je_int (jl_cons je_int jl_nil))))) jl_nil))) jl_nil))))
  (jss_cons (js_set 4 hN (je_res (jr_call F__law_punched (hr.mono (by decide)) (by rfl) (takes_of rfl rfl rfl rfl) (jl_cons (je_var 3) jl_nil))))
  (jss_cons (js_if (jt_jw (jw_or (jt_cmp (o_ne hr.units) (je_res (jr_call F_text_deck (hr.mono (by decide)) (by rfl) (takes_of rfl rfl rfl rfl) (jl_cons (je_var 3) jl_nil))) (jb_je (je_var 4))) (jw_or (jt_cmp (o_ne hr.units) (je_res (jr_call F_text_of_deck (hr.mono (by decide)) (by rfl) (takes_of rfl rfl rfl rfl) (jl_cons (je_var 4) jl_nil))) (jb_je (je_var 3))) (jw_or1 (jt_cmp o_isNot (je_res (jr_call F_is_deck (hr.mono (by decide)) (by rfl) (takes_of rfl rfl rfl rfl) (jl_cons je_int (jl_cons (je_var 4) jl_nil)))) (jb_je je_bl))))))
  (jss_one (js_ret je_bl))
  jss_nil)
  (jss_cons (js_if (jt_cmp o_isNot (je_res (jr_call F_is_punched_text (hr.mono (by decide)) (by rfl) (takes_of rfl rfl rfl rfl) (jl_cons (je_var 4) jl_nil))) (jb_je je_bl))
  (jss_one (js_ret je_bl))
  jss_nil)
  (jss_cons (js_if (jt_cmp (o_ne hr.units) (je_var 4) (jb_je (je_tup jl_nil)))
  (jss_cons (js_asg (je_res (jr_callH 1 F__law_bent (hr.mono (by decide)) (by rfl) (takes_of rfl rfl rfl rfl) (jl_cons (je_var 4) jl_nil))) (jg_tup rfl (jgs_cons (jg_name 5 hN) (jgs_cons (jg_name 6 hN) jgs_nil)) (bCons_len (bCons_len bNil_len))))
  (jss_one (js_if (jt_jw (jw_or (jt_cmp (o_ne hr.units) (je_word (k := 4) WF__law_word (by rfl) TB hcode hmT hu (hr.mono (by decide)) (LamX.lamS_by (show LamX.lamSB (defScope s_law) _ = true from by decide +kernel)) (by rfl) (by intros; rfl) (fun A outer s H E1 f c1 hrl => (je_res (jr_call F_text_of_deck (hrl.mono (by decide)) (by rfl) (takes_of rfl rfl rfl rfl) (jl_cons (je_var 5) jl_nil))))) (jb_je (je_var 6))) (jw_or1 (jt_cmp o_isNot (je_res (jr_call F_is_punched_text (hr.mono (by decide)) (by rfl) (takes_of rfl rfl rfl rfl) (jl_cons (je_var 5) jl_nil))) (jb_je je_bl)))))
  (jss_one (js_ret je_bl))
  jss_nil)))
  jss_nil)
  (jss_cons (js_set 7 hN (je_res (jr_callH 1 F__law_any (hr.mono (by decide)) (by rfl) (takes_of rfl rfl rfl rfl) (jl_cons (je_new (jn_lst (jl_cons je_non (jl_cons (je_new (jn_list (by rfl) E.b_list (jb_je (je_var 4)))) (jl_cons (je_bin o_add (je_var 4) (jb_je (je_tup (jl_cons je_str jl_nil)))) (jl_cons (je_bin o_add (je_var 4) (jb_je (je_tup (jl_cons je_int jl_nil)))) (jl_cons (je_join je_str (jb_je (je_var 4))) (jl_cons (je_bin o_mul (je_tup (jl_cons je_str jl_nil)) (jb_je je_int)) jl_nil)))))))) jl_nil))))
  (jss_cons (js_if (jt_jw (jw_or (jt_cmp (o_ne hr.units) (je_word (k := 4) WF__law_word (by rfl) TB hcode hmT hu (hr.mono (by decide)) (LamX.lamS_by (show LamX.lamSB (defScope s_law) _ = true from by decide +kernel)) (by rfl) (by intros; rfl) (fun A outer s H E1 f c1 hrl => (je_res (jr_call F_text_of_deck (hrl.mono (by decide)) (by rfl) (takes_of rfl rfl rfl rfl) (jl_cons (je_var 7) jl_nil))))) (jb_je je_str)) (jw_or1 (jt_cmp o_isNot (je_res (jr_call F_is_punched_text (hr.mono (by decide)) (by rfl) (takes_of rfl rfl rfl rfl) (jl_cons (je_var 7) jl_nil))) (jb_je je_bl)))))
  (jss_one (js_ret je_bl))
  jss_nil)
  (jss_cons (js_if (jt_cmp (o_ne hr.units) (je_word (k := 3) WF__law_word (by rfl) TB hcode hmT hu (hr.mono (by decide)) (LamX.lamS_by (show LamX.lamSB (defScope s_law) _ = true from by decide +kernel)) (by rfl) (by intros; rfl) (fun A outer s H E1 f c1 hrl => (je_res (jr_call F_text_deck (hrl.mono (by decide)) (by rfl) (takes_of rfl rfl rfl rfl) (jl_cons (je_res (jr_callH 1 F__law_any (hrl.mono (by decide)) (by rfl) (takes_of rfl rfl rfl rfl) (jl_cons (je_new (jn_lst (jl_cons je_non (jl_cons je_int (jl_cons (je_new (jn_lst (jl_cons je_str jl_nil))) (jl_cons (je_tup (jl_cons je_str jl_nil)) (jl_cons je_bl (jl_cons (je_bin o_mul je_str (jb_je je_int)) jl_nil)))))))) jl_nil))) jl_nil))))) (jb_je je_str))
  (jss_one (js_ret je_bl))
  jss_nil)
  (jss_one (js_if (jt_cmp (o_ne hr.units) (je_word (k := 3) WF__law_word (by rfl) TB hcode hmT hu (hr.mono (by decide)) (LamX.lamS_by (show LamX.lamSB (defScope s_law) _ = true from by decide +kernel)) (by rfl) (by intros; rfl) (fun A outer s H E1 f c1 hrl => (je_res (jr_call F_text_deck (hrl.mono (by decide)) (by rfl) (takes_of rfl rfl rfl rfl) (jl_cons (je_bin o_mul je_str (jb_je (je_bin o_add je_int (jb_je (je_res (jr_callH 1 F__law_draw (hrl.mono (by decide)) (by rfl) (takes_of rfl rfl rfl rfl) (jl_cons je_int jl_nil))))))) jl_nil))))) (jb_je (je_tup (jl_cons je_str (jl_cons je_int jl_nil)))))
  (jss_one (js_ret je_bl))
  jss_nil)))))))))))
  (jss_one (js_ret (je_cmp (o_eq hr.units) (je_len (by rfl) E.b_len (jb_je (je_res (jr_call F_text_deck (hr.mono (by decide)) (by rfl) (takes_of rfl rfl rfl rfl) (jl_cons (je_bin o_mul je_str (jb_je je_int)) jl_nil))))) (jb_je je_int))))))
end
--HEAD
abbrev i_BadCard : Stmt := (clsBody (top 2)).getD 0 (.Pass ⟨0, 0, 0, 0⟩)
theorem sci_BadCard : FnScope [(PySem.Str.ofString "self"), (PySem.Str.ofString "card")] [(PySem.Str.ofString "self"), (PySem.Str.ofString "card")] (defScope i_BadCard) := ⟨rfl, rfl, rfl, by decide +kernel, rfl, by decide +kernel, by decide +kernel⟩
abbrev i_TooMany : Stmt := (clsBody (top 7)).getD 0 (.Pass ⟨0, 0, 0, 0⟩)
theorem sci_TooMany : FnScope [(PySem.Str.ofString "self"), (PySem.Str.ofString "most")] [(PySem.Str.ofString "self"), (PySem.Str.ofString "most")] (defScope i_TooMany) := ⟨rfl, rfl, rfl, by decide +kernel, rfl, by decide +kernel, by decide +kernel⟩
def fn0 : List He.DefD := [⟨((PySem.Str.ofString "is_integer"), none), (PySem.Str.ofString "is_integer"), (PySem.Str.ofString "is_integer"), defArgs s_is_integer, defBody s_is_integer, defScope s_is_integer, [], []⟩,
  ⟨((PySem.Str.ofString "is_within"), none), (PySem.Str.ofString "is_within"), (PySem.Str.ofString "is_within"), defArgs s_is_within, defBody s_is_within, defScope s_is_within, [], []⟩,
  ⟨((PySem.Str.ofString "is_few"), none), (PySem.Str.ofString "is_few"), (PySem.Str.ofString "is_few"), defArgs s_is_few, defBody s_is_few, defScope s_is_few, [], []⟩,
  ⟨((PySem.Str.ofString "is_width"), none), (PySem.Str.ofString "is_width"), (PySem.Str.ofString "is_width"), defArgs s_is_width, defBody s_is_width, defScope s_is_width, [], []⟩,
  ⟨((PySem.Str.ofString "check_width"), none), (PySem.Str.ofString "check_width"), (PySem.Str.ofString "check_width"), defArgs s_check_width, defBody s_check_width, defScope s_check_width, [], []⟩,
  ⟨((PySem.Str.ofString "raw_is_card"), none), (PySem.Str.ofString "raw_is_card"), (PySem.Str.ofString "raw_is_card"), defArgs s_raw_is_card, defBody s_raw_is_card, defScope s_raw_is_card, [], []⟩,
  ⟨((PySem.Str.ofString "raw_is_deck"), none), (PySem.Str.ofString "raw_is_deck"), (PySem.Str.ofString "raw_is_deck"), defArgs s_raw_is_deck, defBody s_raw_is_deck, defScope s_raw_is_deck, [], []⟩,
  ⟨((PySem.Str.ofString "is_deck"), none), (PySem.Str.ofString "is_deck"), (PySem.Str.ofString "is_deck"), defArgs s_is_deck, defBody s_is_deck, defScope s_is_deck, [], []⟩,
  ⟨((PySem.Str.ofString "check_text"), none), (PySem.Str.ofString "check_text"), (PySem.Str.ofString "check_text"), defArgs s_check_text, defBody s_check_text, defScope s_check_text, [], []⟩,
  ⟨((PySem.Str.ofString "code_of"), none), (PySem.Str.ofString "code_of"), (PySem.Str.ofString "code_of"), defArgs s_code_of, defBody s_code_of, defScope s_code_of, [], []⟩,
  ⟨((PySem.Str.ofString "is_coded"), none), (PySem.Str.ofString "is_coded"), (PySem.Str.ofString "is_coded"), defArgs s_is_coded, defBody s_is_coded, defScope s_is_coded, [], []⟩,
  ⟨((PySem.Str.ofString "raw_text_deck"), none), (PySem.Str.ofString "raw_text_deck"), (PySem.Str.ofString "raw_text_deck"), defArgs s_raw_text_deck, defBody s_raw_text_deck, defScope s_raw_text_deck, [], []⟩,
  ⟨((PySem.Str.ofString "text_deck"), none), (PySem.Str.ofString "text_deck"), (PySem.Str.ofString "text_deck"), defArgs s_text_deck, defBody s_text_deck, defScope s_text_deck, [], []⟩,
  ⟨((PySem.Str.ofString "sign_of"), none), (PySem.Str.ofString "sign_of"), (PySem.Str.ofString "sign_of"), defArgs s_sign_of, defBody s_sign_of, defScope s_sign_of, [], []⟩,
  ⟨((PySem.Str.ofString "share_of"), none), (PySem.Str.ofString "share_of"), (PySem.Str.ofString "share_of"), defArgs s_share_of, defBody s_share_of, defScope s_share_of, [], []⟩,
  ⟨((PySem.Str.ofString "raw_deck_text"), none), (PySem.Str.ofString "raw_deck_text"), (PySem.Str.ofString "raw_deck_text"), defArgs s_raw_deck_text, defBody s_raw_deck_text, defScope s_raw_deck_text, [], []⟩,
  ⟨((PySem.Str.ofString "text_of_deck"), none), (PySem.Str.ofString "text_of_deck"), (PySem.Str.ofString "text_of_deck"), defArgs s_text_of_deck, defBody s_text_of_deck, defScope s_text_of_deck, [], []⟩,
  ⟨((PySem.Str.ofString "is_punched_text"), none), (PySem.Str.ofString "is_punched_text"), (PySem.Str.ofString "is_punched_text"), defArgs s_is_punched_text, defBody s_is_punched_text, defScope s_is_punched_text, [], []⟩,
  ⟨((PySem.Str.ofString "_law_signs"), none), (PySem.Str.ofString "_law_signs"), (PySem.Str.ofString "_law_signs"), defArgs s__law_signs, defBody s__law_signs, defScope s__law_signs, [], []⟩,
  ⟨((PySem.Str.ofString "_law_hand"), none), (PySem.Str.ofString "_law_hand"), (PySem.Str.ofString "_law_hand"), defArgs s__law_hand, defBody s__law_hand, defScope s__law_hand, [], []⟩,
  ⟨((PySem.Str.ofString "_law_draw"), none), (PySem.Str.ofString "_law_draw"), (PySem.Str.ofString "_law_draw"), defArgs s__law_draw, defBody s__law_draw, defScope s__law_draw, [], []⟩,
  ⟨((PySem.Str.ofString "_law_any"), none), (PySem.Str.ofString "_law_any"), (PySem.Str.ofString "_law_any"), defArgs s__law_any, defBody s__law_any, defScope s__law_any, [], []⟩,
  ⟨((PySem.Str.ofString "_law_code"), none), (PySem.Str.ofString "_law_code"), (PySem.Str.ofString "_law_code"), defArgs s__law_code, defBody s__law_code, defScope s__law_code, [], []⟩,
  ⟨((PySem.Str.ofString "_law_punched"), none), (PySem.Str.ofString "_law_punched"), (PySem.Str.ofString "_law_punched"), defArgs s__law_punched, defBody s__law_punched, defScope s__law_punched, [], []⟩,
  ⟨((PySem.Str.ofString "_law_text"), none), (PySem.Str.ofString "_law_text"), (PySem.Str.ofString "_law_text"), defArgs s__law_text, defBody s__law_text, defScope s__law_text, [], []⟩,
  ⟨((PySem.Str.ofString "_law_bent"), none), (PySem.Str.ofString "_law_bent"), (PySem.Str.ofString "_law_bent"), defArgs s__law_bent, defBody s__law_bent, defScope s__law_bent, [], []⟩,
  ⟨((PySem.Str.ofString "_law_word"), none), (PySem.Str.ofString "_law_word"), (PySem.Str.ofString "_law_word"), defArgs s__law_word, defBody s__law_word, defScope s__law_word, [], []⟩,
  ⟨((PySem.Str.ofString "law"), none), (PySem.Str.ofString "law"), (PySem.Str.ofString "law"), defArgs s_law, defBody s_law, defScope s_law, [], []⟩,
  ⟨((PySem.Str.ofString "BadCard"), some (PySem.Str.ofString "__init__")), (PySem.Str.ofString "__init__"), (PySem.Str.ofString "BadCard.__init__"), defArgs i_BadCard, defBody i_BadCard, defScope i_BadCard, [], []⟩,
  ⟨((PySem.Str.ofString "TooMany"), some (PySem.Str.ofString "__init__")), (PySem.Str.ofString "__init__"), (PySem.Str.ofString "TooMany.__init__"), defArgs i_TooMany, defBody i_TooMany, defScope i_TooMany, [], []⟩]
def fn : List He.DefD := fn0
def fa0 : List He.Fa := [.glo (PySem.Str.ofString "BadCard"),
  .glo (PySem.Str.ofString "BadText"),
  .glo (PySem.Str.ofString "NoDeck"),
  .glo (PySem.Str.ofString "NoText"),
  .glo (PySem.Str.ofString "NoWidth"),
  .glo (PySem.Str.ofString "TooMany"),
  .free (PySem.Str.ofString "abs"),
  .free (PySem.Str.ofString "all"),
  .free (PySem.Str.ofString "bool"),
  .free (PySem.Str.ofString "enumerate"),
  .free (PySem.Str.ofString "int"),
  .free (PySem.Str.ofString "isinstance"),
  .free (PySem.Str.ofString "len"),
  .free (PySem.Str.ofString "list"),
  .free (PySem.Str.ofString "ord"),
  .free (PySem.Str.ofString "range"),
  .free (PySem.Str.ofString "str"),
  .free (PySem.Str.ofString "tuple"),
  .int (PySem.Str.ofString "BLANK") 32,
  .int (PySem.Str.ofString "FEED") 95,
  .int (PySem.Str.ofString "MOST_CARDS") 400,
  .int (PySem.Str.ofString "MOST_TEXT") 20000,
  .int (PySem.Str.ofString "MOST_WIDTH") 8,
  .int (PySem.Str.ofString "PLACES") 2,
  .int (PySem.Str.ofString "SHARE") 3,
  .glo (PySem.Str.ofString "CardError"),
  .str (PySem.Str.ofString "EMPTY") (PySem.Str.ofString ".."),
  .str (PySem.Str.ofString "FIGURES") (PySem.Str.ofString "0123456789"),
  .str (PySem.Str.ofString "FIRST_SIGNS") (PySem.Str.ofString " !\"#$%&'()*+,-./0123456789:;<=>?@"),
  .str (PySem.Str.ofString "LAST_SIGNS") (PySem.Str.ofString "ABCDEFGHIJKLMNOPQRSTUVWXYZ[\\]^_`abcdefghijklmnopqrstuvwxyz{|}~")]
def fa1 : List He.Fa := [.str (PySem.Str.ofString "SIGNS") (PySem.Str.ofString "0123456789x."),
  .exc (PySem.Str.ofString "NoDeck"),
  .exc (PySem.Str.ofString "NoText"),
  .exc (PySem.Str.ofString "NoWidth"),
  .glo (PySem.Str.ofString "is_integer"),
  .glo (PySem.Str.ofString "is_within"),
  .glo (PySem.Str.ofString "is_few"),
  .glo (PySem.Str.ofString "is_width"),
  .glo (PySem.Str.ofString "check_width"),
  .glo (PySem.Str.ofString "raw_is_card"),
  .glo (PySem.Str.ofString "raw_is_deck"),
  .glo (PySem.Str.ofString "is_deck"),
  .glo (PySem.Str.ofString "check_text"),
  .glo (PySem.Str.ofString "code_of"),
  .glo (PySem.Str.ofString "is_coded"),
  .glo (PySem.Str.ofString "raw_text_deck"),
  .glo (PySem.Str.ofString "text_deck"),
  .glo (PySem.Str.ofString "sign_of"),
  .glo (PySem.Str.ofString "share_of"),
  .glo (PySem.Str.ofString "raw_deck_text"),
  .glo (PySem.Str.ofString "text_of_deck"),
  .glo (PySem.Str.ofString "is_punched_text"),
  .glo (PySem.Str.ofString "_law_signs"),
  .glo (PySem.Str.ofString "_law_hand"),
  .glo (PySem.Str.ofString "_law_draw"),
  .glo (PySem.Str.ofString "_law_any"),
  .glo (PySem.Str.ofString "_law_code"),
  .glo (PySem.Str.ofString "_law_punched"),
  .glo (PySem.Str.ofString "_law_text"),
  .glo (PySem.Str.ofString "_law_bent")]
def fa2 : List He.Fa := [.glo (PySem.Str.ofString "_law_word"),
  .glo (PySem.Str.ofString "law")]
def fa : List He.Fa := fa0 ++ fa1 ++ fa2
def ex (K : PySem.W.Frag) : Bool := isaB K known (PySem.Str.ofString "NoDeck") && (isaB K known (PySem.Str.ofString "NoText") && (exFB K (PySem.Str.ofString "BadCard") (PySem.Str.ofString "card") && (exFB K (PySem.Str.ofString "TooMany") (PySem.Str.ofString "most") && (exmB K (PySem.Str.ofString "CardError") known (PySem.Str.ofString "BadCard") && (exmB K (PySem.Str.ofString "CardError") known (PySem.Str.ofString "CardError") && (exmB K (PySem.Str.ofString "CardError") known (PySem.Str.ofString "TooMany")))))))
def loose0 : List Str := [(PySem.Str.ofString "CardError"),
  (PySem.Str.ofString "BadCard"),
  (PySem.Str.ofString "BadText"),
  (PySem.Str.ofString "NoDeck"),
  (PySem.Str.ofString "NoText"),
  (PySem.Str.ofString "NoWidth"),
  (PySem.Str.ofString "TooMany"),
  (PySem.Str.ofString "FIGURES"),
  (PySem.Str.ofString "SIGNS"),
  (PySem.Str.ofString "MOST_WIDTH"),
  (PySem.Str.ofString "MOST_CARDS"),
  (PySem.Str.ofString "is_integer"),
  (PySem.Str.ofString "is_within"),
  (PySem.Str.ofString "is_few"),
  (PySem.Str.ofString "is_width"),
  (PySem.Str.ofString "check_width"),
  (PySem.Str.ofString "raw_is_card"),
  (PySem.Str.ofString "raw_is_deck"),
  (PySem.Str.ofString "is_deck"),
  (PySem.Str.ofString "MOST_TEXT"),
  (PySem.Str.ofString "check_text"),
  (PySem.Str.ofString "BLANK"),
  (PySem.Str.ofString "FIRST_SIGNS"),
  (PySem.Str.ofString "LAST_SIGNS"),
  (PySem.Str.ofString "FEED"),
  (PySem.Str.ofString "SHARE"),
  (PySem.Str.ofString "EMPTY"),
  (PySem.Str.ofString "PLACES"),
  (PySem.Str.ofString "code_of"),
  (PySem.Str.ofString "is_coded")]
def loose1 : List Str := [(PySem.Str.ofString "raw_text_deck"),
  (PySem.Str.ofString "text_deck"),
  (PySem.Str.ofString "sign_of"),
  (PySem.Str.ofString "share_of"),
  (PySem.Str.ofString "raw_deck_text"),
  (PySem.Str.ofString "text_of_deck"),
  (PySem.Str.ofString "is_punched_text"),
  (PySem.Str.ofString "_law_signs"),
  (PySem.Str.ofString "_law_hand"),
  (PySem.Str.ofString "_law_draw"),
  (PySem.Str.ofString "_law_any"),
  (PySem.Str.ofString "_law_code"),
  (PySem.Str.ofString "_law_punched"),
  (PySem.Str.ofString "_law_text"),
  (PySem.Str.ofString "_law_word"),
  (PySem.Str.ofString "_law_bent")]
def loose : List Str := loose0 ++ loose1
abbrev hk : PySem.W.Hook := He.hookX 6 fa fn [] [((PySem.Str.ofString "law"), none)] ex
def ob (s : PySem.W.SharedT) : He.AlX := He.obsX 6 fa fn [] [((PySem.Str.ofString "law"), none)] ex (HandSHeadRun.getT s)
theorem ob_eq (s : PySem.W.SharedT) : ob s = hk.obs s.abs := He.obsX_eq (HandSHeadRun.getT_eq s)
theorem run (w : World) : HandSHeadRun.RunEq (PySem.W.OpenLaw.row PySem.Challenge.rw_cardroom_k76_whole_texts_on_cards) (PySem.W.view (PySem.W.OpenLaw.row PySem.Challenge.rw_cardroom_k76_whole_texts_on_cards).prog [51]) hk ob 6000 loose w := by
  intro os
  kernel_rfl
theorem fct_of {P : Program} {w : World} {K : PySem.W.Frag} {mg : Str → Option Value} {base h : Heap} (KX : K.In h) (G : h.Ns mainGlobals mg) (c : He.SaysX fa fn [] [((PySem.Str.ofString "law"), none)] ex w h K) : Fct P w K mg base := by
  have xs : ex K = true := c.more
  unfold ex at xs
  obtain ⟨x0, xs⟩ := He.ba xs
  obtain ⟨x1, xs⟩ := He.ba xs
  obtain ⟨x2, xs⟩ := He.ba xs
  obtain ⟨x3, xs⟩ := He.ba xs
  obtain ⟨x4, xs⟩ := He.ba xs
  obtain ⟨x5, xs⟩ := He.ba xs
  have x6 := xs
  have gk : ∀ x ∈ known, mg x = some (.ref (He.ga K x)) := fun x hx => by
    simp only [known, List.mem_cons, List.not_mem_nil, or_false] at hx
    rcases hx with rfl | rfl | rfl | rfl | rfl | rfl
    · exact He.glo_ok KX G (c.t.d.fact 0 rfl)
    · exact He.glo_ok KX G (c.t.d.fact 1 rfl)
    · exact He.glo_ok KX G (c.t.d.fact 2 rfl)
    · exact He.glo_ok KX G (c.t.d.fact 3 rfl)
    · exact He.glo_ok KX G (c.t.d.fact 4 rfl)
    · exact He.glo_ok KX G (c.t.d.fact 5 rfl)
  exact {
    a_NoDeck := exA_of x0 gk (He.glo_ok KX G (c.t.d.fact 2 rfl))
    a_NoText := exA_of x1 gk (He.glo_ok KX G (c.t.d.fact 3 rfl))
    b_abs := He.free_ok KX G (c.t.d.fact 6 rfl)
    b_all := He.free_ok KX G (c.t.d.fact 7 rfl)
    b_bool := He.free_ok KX G (c.t.d.fact 8 rfl)
    b_enumerate := He.free_ok KX G (c.t.d.fact 9 rfl)
    b_int := He.free_ok KX G (c.t.d.fact 10 rfl)
    b_isinstance := He.free_ok KX G (c.t.d.fact 11 rfl)
    b_len := He.free_ok KX G (c.t.d.fact 12 rfl)
    b_list := He.free_ok KX G (c.t.d.fact 13 rfl)
    b_ord := He.free_ok KX G (c.t.d.fact 14 rfl)
    b_range := He.free_ok KX G (c.t.d.fact 15 rfl)
    b_str := He.free_ok KX G (c.t.d.fact 16 rfl)
    b_tuple := He.free_ok KX G (c.t.d.fact 17 rfl)
    f_BadCard := exF_of x2 (He.glo_ok KX G (c.t.d.fact 0 rfl))
    f_TooMany := exF_of x3 (He.glo_ok KX G (c.t.d.fact 5 rfl))
    i_BLANK := He.int_ok KX G (c.t.d.fact 18 rfl)
    i_FEED := He.int_ok KX G (c.t.d.fact 19 rfl)
    i_MOST_CARDS := He.int_ok KX G (c.t.d.fact 20 rfl)
    i_MOST_TEXT := He.int_ok KX G (c.t.d.fact 21 rfl)
    i_MOST_WIDTH := He.int_ok KX G (c.t.d.fact 22 rfl)
    i_PLACES := He.int_ok KX G (c.t.d.fact 23 rfl)
    i_SHARE := He.int_ok KX G (c.t.d.fact 24 rfl)
    m_BadCard := exM_of x4 gk (He.glo_ok KX G (c.t.d.fact 0 rfl))
    m_CardError := exM_of x5 gk (He.glo_ok KX G (c.t.d.fact 25 rfl))
    m_TooMany := exM_of x6 gk (He.glo_ok KX G (c.t.d.fact 5 rfl))
    s_EMPTY := He.str_ok KX G (c.t.d.fact 26 rfl)
    s_FIGURES := He.str_ok KX G (c.t.d.fact 27 rfl)
    s_FIRST_SIGNS := He.str_ok KX G (c.t.d.fact 28 rfl)
    s_LAST_SIGNS := He.str_ok KX G (c.t.d.fact 29 rfl)
    s_SIGNS := He.str_ok KX G (c.t.d.fact 30 rfl)
    x0_NoDeck := exK0_of (c.t.d.fact 31 rfl) (He.glo_ok KX G (c.t.d.fact 2 rfl))
    x0_NoText := exK0_of (c.t.d.fact 32 rfl) (He.glo_ok KX G (c.t.d.fact 3 rfl))
    x0_NoWidth := exK0_of (c.t.d.fact 33 rfl) (He.glo_ok KX G (c.t.d.fact 4 rfl))
    x1_BadCard := exK1_of (st := i_BadCard) x2 (He.glo_ok KX G (c.t.d.fact 0 rfl)) (c.t.d.def_ 28 rfl) rfl sci_BadCard (fun _ _ _ _ _ _ us hl => match us, hl with | [_, _], _ => rfl) (Or.inl rfl) (Or.inl rfl) (by decide) (by decide)
    x1_TooMany := exK1_of (st := i_TooMany) x3 (He.glo_ok KX G (c.t.d.fact 5 rfl)) (c.t.d.def_ 29 rfl) rfl sci_TooMany (fun _ _ _ _ _ _ us hl => match us, hl with | [_, _], _ => rfl) (Or.inl rfl) (Or.inl rfl) (by decide) (by decide) }
theorem facts_law {w : World} {K : PySem.W.Frag} {mg : Str → Option Value} {h : Heap} (KX : K.In h) (G : h.Ns mainGlobals mg) (c : He.SaysX fa fn [] [((PySem.Str.ofString "law"), none)] ex w h K)
    (plain : ∀ (ns : List Int) (T : List (Addr × Str)), ns.length ≤ 63 → (∀ z ∈ ns, Builtin.Int.intBits z ≤ 1048576) → T ≠ [] → ∃ ρ1, d_law T (.scr ns T :: List.replicate (8 - 1) .undef) = .ret (.bool true) ρ1) :
    LamX.LawAtS PySem.Challenge.rw_cardroom_k76_whole_texts_on_cards w K (L2.CX PySem.Challenge.rw_cardroom_k76_whole_texts_on_cards.prog w) (6 + 1) 63 (PySem.Str.ofString "script") mg (He.fAd K ((PySem.Str.ofString "law"), none)) h := by
  refine lawAt (N := N_law) (st := s_law) (n := 8) KX G c (c.t.d.def_ 27 rfl) sc_law rfl (by decide) (fun _ _ _ _ _ _ us hl => match us, hl with | [_], _ => rfl) (fun base T c0 P0 KB GB TB hT A outer s H E1 hr => ?_) plain
  have E : Fct PySem.Challenge.rw_cardroom_k76_whole_texts_on_cards.prog w K mg base := fct_of KX G c
  have F_is_integer := ok_is_integer E  (c.t.d.def_ 0 rfl) (He.glo_ok KX G (c.t.d.fact 34 rfl))
  have F_is_within := ok_is_within E F_is_integer (c.t.d.def_ 1 rfl) (He.glo_ok KX G (c.t.d.fact 35 rfl))
  have F_is_few := ok_is_few E  (c.t.d.def_ 2 rfl) (He.glo_ok KX G (c.t.d.fact 36 rfl))
  have F_is_width := ok_is_width E F_is_within (c.t.d.def_ 3 rfl) (He.glo_ok KX G (c.t.d.fact 37 rfl))
  have F_check_width := ok_check_width E F_is_width (c.t.d.def_ 4 rfl) (He.glo_ok KX G (c.t.d.fact 38 rfl))
  have F_raw_is_card := ok_raw_is_card E  (c.t.d.def_ 5 rfl) (He.glo_ok KX G (c.t.d.fact 39 rfl))
  have F_raw_is_deck := ok_raw_is_deck E F_is_few F_raw_is_card (c.t.d.def_ 6 rfl) (He.glo_ok KX G (c.t.d.fact 40 rfl))
  have F_is_deck := ok_is_deck E F_check_width F_raw_is_deck (c.t.d.def_ 7 rfl) (He.glo_ok KX G (c.t.d.fact 41 rfl))
  have F_check_text := ok_check_text E  (c.t.d.def_ 8 rfl) (He.glo_ok KX G (c.t.d.fact 42 rfl))
  have F_code_of := ok_code_of E  (c.t.d.def_ 9 rfl) (He.glo_ok KX G (c.t.d.fact 43 rfl))
  have F_is_coded := ok_is_coded E  (c.t.d.def_ 10 rfl) (He.glo_ok KX G (c.t.d.fact 44 rfl))
  have F_raw_text_deck := ok_raw_text_deck E F_code_of (c.t.d.def_ 11 rfl) (He.glo_ok KX G (c.t.d.fact 45 rfl))
  have F_text_deck := ok_text_deck E F_check_text F_is_coded F_raw_text_deck (c.t.d.def_ 12 rfl) (He.glo_ok KX G (c.t.d.fact 46 rfl))
  have F_sign_of := ok_sign_of E  (c.t.d.def_ 13 rfl) (He.glo_ok KX G (c.t.d.fact 47 rfl))
  have F_share_of := ok_share_of E F_sign_of (c.t.d.def_ 14 rfl) (He.glo_ok KX G (c.t.d.fact 48 rfl))
  have F_raw_deck_text := ok_raw_deck_text E F_share_of (c.t.d.def_ 15 rfl) (He.glo_ok KX G (c.t.d.fact 49 rfl))
  have F_text_of_deck := ok_text_of_deck E F_raw_is_deck F_raw_deck_text (c.t.d.def_ 16 rfl) (He.glo_ok KX G (c.t.d.fact 50 rfl))
  have F_is_punched_text := ok_is_punched_text E F_raw_is_deck F_raw_text_deck F_raw_deck_text (c.t.d.def_ 17 rfl) (He.glo_ok KX G (c.t.d.fact 51 rfl))
  have F__law_signs := ok__law_signs E  (c.t.d.def_ 18 rfl) (He.glo_ok KX G (c.t.d.fact 52 rfl))
  have F__law_hand := ok__law_hand E  (c.t.d.def_ 19 rfl) (He.glo_ok KX G (c.t.d.fact 53 rfl))
  have F__law_draw := ok__law_draw E  (c.t.d.def_ 20 rfl) (He.glo_ok KX G (c.t.d.fact 54 rfl))
  have F__law_any := ok__law_any E F__law_draw (c.t.d.def_ 21 rfl) (He.glo_ok KX G (c.t.d.fact 55 rfl))
  have F__law_code := ok__law_code E  (c.t.d.def_ 22 rfl) (He.glo_ok KX G (c.t.d.fact 56 rfl))
  have F__law_punched := ok__law_punched E F__law_code (c.t.d.def_ 23 rfl) (He.glo_ok KX G (c.t.d.fact 57 rfl))
  have F__law_text := ok__law_text E F__law_signs F__law_draw (c.t.d.def_ 24 rfl) (He.glo_ok KX G (c.t.d.fact 58 rfl))
  have F__law_bent := ok__law_bent E F__law_draw F__law_any (c.t.d.def_ 25 rfl) (He.glo_ok KX G (c.t.d.fact 59 rfl))
  have WF__law_word := wf__law_word E (c.t.d.def_ 26 rfl) (He.glo_ok KX G (c.t.d.fact 60 rfl))
  exact ok_law E F_is_deck F_text_deck F_text_of_deck F_is_punched_text F__law_hand F__law_draw F__law_any F__law_punched F__law_text F__law_bent WF__law_word TB hT A outer s H E1 hr
end Pf
/-! Pf23: plain laws: what the denotations answer, by rewriting. -/
namespace Pf
open PySem PySem.Spec PyProof.Rows L2

/-! ### texts as lists of signs -/
def mk (l : List Nat) : Str := ⟨l.toArray⟩
theorem str_mk (s : Str) : s = mk s.cps.toList := by cases s; rfl
@[simp] theorem mk_cps (l : List Nat) : (mk l).cps.toList = l := by simp [mk]
@[simp] theorem mk_len (l : List Nat) : (mk l).length = l.length := by simp [mk, Str.length]
@[simp] theorem mk_inj (a b : List Nat) : (mk a = mk b) = (a = b) := by simp [mk]
@[simp] theorem mk_app (a b : List Nat) : mk a ++ mk b = mk (a ++ b) := by
  show Str.append _ _ = _
  simp [Str.append, mk]
@[simp] theorem mk_cut (l : List Nat) (lo hi : Option Int) : cutS (mk l) lo hi = mk (cutD l lo hi) := by
  simp [cutS, cutD, mk, Str.length]
@[simp] theorem mk_one (c : Nat) : (⟨#[c]⟩ : Str) = mk [c] := rfl
@[simp] theorem mk_get (l : List Nat) (i : Nat) : (mk l).cps[i]? = l[i]? := by simp [mk]
theorem mk_join (ls : List (List Nat)) : Txt.join (mk []) (ls.map mk) = mk ls.flatten := by
  rw [TL.join_eq]
  induction ls with
  | nil => rfl
  | cons a r ih =>
    cases r with
    | nil => simp [Str.join]
    | cons b r =>
      have e : Str.join (mk []) ((a :: b :: r).map mk) = mk a ++ mk [] ++ Str.join (mk []) ((b :: r).map mk) := rfl
      rw [e, ih]; simp
abbrev sD (l : List Nat) : D := .str (mk l)

/-! ### rewriting a run -/
section
variable {α β : Type}
@[simp] theorem bind_ok (a : α) (ρ : Rho) (f : α → Rho → R β) : (R.ok a ρ).bind f = f a ρ := rfl
@[simp] theorem bind_err (x : Ex) (ρ : Rho) (f : α → Rho → R β) : (R.err x ρ).bind f = .err x ρ := rfl
@[simp] theorem out_ok (a : α) (ρ : Rho) (f : α → Rho → Out) : (R.ok a ρ).out f = f a ρ := rfl
@[simp] theorem out_err (x : Ex) (ρ : Rho) (f : α → Rho → Out) : (R.err (α := α) x ρ).out f = .err x ρ := rfl
@[simp] theorem lift_some (a : α) (ρ : Rho) : lift (some a) ρ = .ok a ρ := rfl
end
@[simp] theorem dImm_e (i : Nat) (ρ : Rho) : dImm i ρ = (
  match ρ[i]? with
  | some (.imm d) => .ok d ρ
  | _ => .bad) := rfl
@[simp] theorem dFrz_e (i : Nat) (ρ : Rho) : dFrz i ρ = (
  match ρ[i]? with
  | some (.own ds) => .ok (.list ds) (ρ.set i (.imm (.list ds)))
  | some (.imm d) => .ok d ρ
  | _ => .bad) := rfl
@[simp] theorem dC_e (d : D) (ρ : Rho) : dC d ρ = ( .ok d ρ) := rfl
@[simp] theorem dLst_e (den : Rho → R (List D)) (ρ : Rho) : dLst den ρ = ( (den ρ).bind fun ds ρ' => .ok (.list ds) ρ') := rfl
@[simp] theorem dSeq_e (a b : Rho → Out) (ρ : Rho) : dSeq a b ρ = (
  match a ρ with
  | .next ρ' => b ρ'
  | o => o) := rfl
@[simp] theorem dNext_e (ρ : Rho) : dNext ρ = ( .next ρ) := rfl
@[simp] theorem dIf_e (c : Rho → R Bool) (a b : Rho → Out) (ρ : Rho) : dIf c a b ρ = ( (c ρ).out fun k ρ' => if k = true then a ρ' else b ρ') := rfl
@[simp] theorem dRet_e (e : Rho → R D) (ρ : Rho) : dRet e ρ = ( (e ρ).out fun d ρ' => .ret d ρ') := rfl
@[simp] theorem dRetN_e (e : Rho → R (List D)) (ρ : Rho) : dRetN e ρ = ( (e ρ).out fun d ρ' => .retN d ρ') := rfl
@[simp] theorem dRetOwn_e (i : Nat) (ρ : Rho) : dRetOwn i ρ = (
  match ρ[i]? with
  | some (.own ds) => .retN ds ρ
  | _ => .bad) := rfl
@[simp] theorem dDrop_e (e : Rho → R D) (ρ : Rho) : dDrop e ρ = ( (e ρ).out fun _ ρ' => .next ρ') := rfl
@[simp] theorem dNever_e (ρ : Rho) : dNever ρ = ( .bad) := rfl
@[simp] theorem dBrk_e (ρ : Rho) : dBrk ρ = ( .brk ρ) := rfl
@[simp] theorem dCont_e (ρ : Rho) : dCont ρ = ( .cont ρ) := rfl
@[simp] theorem dOp_e (f : D → D → Option D) (a b : Rho → R D) (ρ : Rho) : dOp f a b ρ = ( (a ρ).bind fun x ρ1 => (b ρ1).bind fun y ρ2 => lift (f x y) ρ2) := rfl
@[simp] theorem dBool_e (a : Rho → R D) (ρ : Rho) : dBool a ρ = ( (a ρ).bind fun d ρ' =>
  match d with
  | .bool b => .ok b ρ'
  | _ => .bad) := rfl
@[simp] theorem dChain_e (f f' : D → D → Option D) (a b c : Rho → R D) (ρ : Rho) : dChain f f' a b c ρ = ( (a ρ).bind fun x ρ1 => (b ρ1).bind fun y ρ2 =>
  match f x y with
  | some (.bool true) => (c ρ2).bind fun z ρ3 => lift (f' y z) ρ3
  | some (.bool false) => .ok (.bool false) ρ2
  | _ => .bad) := rfl
@[simp] theorem dAnd_e (a b : Rho → R Bool) (ρ : Rho) : dAnd a b ρ = ( (a ρ).bind fun k ρ' => if k = true then b ρ' else .ok false ρ') := rfl
@[simp] theorem dOr_e (a b : Rho → R Bool) (ρ : Rho) : dOr a b ρ = ( (a ρ).bind fun k ρ' => if k = true then .ok true ρ' else b ρ') := rfl
@[simp] theorem dNot_e (a : Rho → R Bool) (ρ : Rho) : dNot a ρ = ( (a ρ).bind fun k ρ' => .ok (!k) ρ') := rfl
@[simp] theorem dAndV_e (a b : Rho → R D) (ρ : Rho) : dAndV a b ρ = ( (dBool a ρ).bind fun k ρ' => if k = true then b ρ' else .ok (.bool false) ρ') := rfl
@[simp] theorem dOrV_e (a b : Rho → R D) (ρ : Rho) : dOrV a b ρ = ( (dBool a ρ).bind fun k ρ' => if k = true then .ok (.bool true) ρ' else b ρ') := rfl
@[simp] theorem dNotV_e (a : Rho → R D) (ρ : Rho) : dNotV a ρ = ( (dBool a ρ).bind fun k ρ' => .ok (.bool (!k)) ρ') := rfl
@[simp] theorem dIfE_e {α : Type} (c : Rho → R Bool) (a b : Rho → R α) (ρ : Rho) : dIfE c a b ρ = ( (c ρ).bind fun k ρ' => if k = true then a ρ' else b ρ') := rfl
@[simp] theorem dNil_e (ρ : Rho) : dNil ρ = ( .ok [] ρ) := rfl
@[simp] theorem dCons_e (a : Rho → R D) (b : Rho → R (List D)) (ρ : Rho) : dCons a b ρ = ( (a ρ).bind fun x ρ1 => (b ρ1).bind fun xs ρ2 => .ok (x :: xs) ρ2) := rfl
@[simp] theorem dTup_e (a : Rho → R (List D)) (ρ : Rho) : dTup a ρ = ( (a ρ).bind fun xs ρ' => .ok (.tuple xs) ρ') := rfl
@[simp] theorem d1_e (f : D → Option D) (a : Rho → R D) (ρ : Rho) : d1 f a ρ = ( (a ρ).bind fun x ρ1 => lift (f x) ρ1) := rfl
@[simp] theorem dNo_e (ρ : Rho) : dNo ρ = ( .ok none ρ) := rfl
@[simp] theorem dSm_e (e : Rho → R D) (ρ : Rho) : dSm e ρ = ( (e ρ).bind fun d ρ1 => lift (asInt d) ρ1) := rfl
@[simp] theorem dSl_e (a : Rho → R D) (lo hi : Rho → R (Option Int)) (ρ : Rho) : dSl a lo hi ρ = ( (a ρ).bind fun x ρ1 => (lo ρ1).bind fun l ρ2 => (hi ρ2).bind fun h ρ3 => lift (dCut x l h) ρ3) := rfl
@[simp] theorem dScr_e (i : Nat) (k : Int) (ρ : Rho) : dScr i k ρ = (
  match ρ[i]? with
  | some (.scr ns _) => .ok (.list ((cutD ns none (some k)).map .int)) ρ
  | _ => .bad) := rfl
@[simp] theorem dIsi_e (f : D → Bool) (a : Rho → R D) (ρ : Rho) : dIsi f a ρ = ( (a ρ).bind fun x ρ1 => .ok (.bool (f x)) ρ1) := rfl
@[simp] theorem d2_e (f : D → D → Option D) (a b : Rho → R D) (ρ : Rho) : d2 f a b ρ = ( (a ρ).bind fun x ρ1 => (b ρ1).bind fun y ρ2 => lift (f x y) ρ2) := rfl
@[simp] theorem dJn_e (a b : Rho → R D) (ρ : Rho) : dJn a b ρ = ( (a ρ).bind fun x ρ1 =>
  match x with
  | .str z => (b ρ1).bind fun y ρ2 => lift (dJoin (.str z) y) ρ2
  | _ => .bad) := rfl
@[simp] theorem dApp_e (i : Nat) (e : Rho → R D) (ρ : Rho) : dApp i e ρ = (
  match ρ.lst? i with
  | none => .bad
  | some _ => (e ρ).out fun d ρ1 =>
    match ρ1.lst? i with
    | some ds => if ds.length < sizeLine then .next (ρ1.put i (ds ++ [d])) else .bad
    | none => .bad) := rfl
@[simp] theorem dExt_e (i : Nat) (e : Rho → R D) (ρ : Rho) : dExt i e ρ = (
  match ρ.lst? i with
  | none => .bad
  | some _ => (e ρ).out fun d ρ1 =>
    match ρ1.lst? i, d with
    | some ds, .list es => if ds.length + es.length ≤ sizeLine then .next (ρ1.put i (ds ++ es)) else .bad
    | _, _ => .bad) := rfl
@[simp] theorem dPop_e (i : Nat) (ρ : Rho) : dPop i ρ = (
  match ρ.lst? i with
  | some ds => match ds[ds.length - 1]? with
    | some d => .ok d (ρ.put i ds.dropLast)
    | none => .bad
  | none => .bad) := rfl
@[simp] theorem dPut_e (i : Nat) (k e : Rho → R D) (ρ : Rho) : dPut i k e ρ = ( (e ρ).out fun d ρ1 =>
  match ρ1.lst? i with
  | none => .bad
  | some _ => (k ρ1).out fun j ρ2 =>
    match ρ2.lst? i, j with
    | some ds, .int j => match ixN ds.length j with
      | some n => .next (ρ2.put i (ds.set n d))
      | none => .bad
    | _, _ => .bad) := rfl
@[simp] theorem dF_e (f : D → Bool) (a : Rho → R D) (ρ : Rho) : dF f a ρ = ( (a ρ).bind fun d ρ1 => .ok (.bool (f d)) ρ1) := rfl
@[simp] theorem dOpL_e (f : D → D → Option D) (a b : Rho → R D) (ρ : Rho) : dOpL f a b ρ = ( (a ρ).bind fun x ρ1 =>
  match x with
  | .list ds => (b ρ1).bind fun y ρ2 => lift (f (.list ds) y) ρ2
  | _ => .bad) := rfl
@[simp] theorem dOpLO_e (f : D → D → Option D) (i : Nat) (b : Rho → R D) (ρ : Rho) : dOpLO f i b ρ = (
  match ρ.lst? i with
  | none => .bad
  | some _ => (b ρ).bind fun y ρ2 =>
    match ρ2.lst? i with
    | some ds => lift (f (.list ds) y) ρ2
    | none => .bad) := rfl
@[simp] theorem dOpS_e (f : D → D → Option D) (a b : Rho → R D) (ρ : Rho) : dOpS f a b ρ = ( (a ρ).bind fun x ρ1 =>
  match x with
  | .str z => (b ρ1).bind fun y ρ2 => lift (f (.str z) y) ρ2
  | _ => .bad) := rfl
@[simp] theorem bTup_e (b : List D → Rho → Option Rho) (d : D) (ρ : Rho) : bTup b d ρ = (
  match d with
  | .tuple ds => b ds ρ
  | _ => none) := rfl
@[simp] theorem dSrc_e (a : Rho → R D) (ρ : Rho) : dSrc a ρ = ( (a ρ).bind fun d ρ1 => lift (seqD d) ρ1) := rfl
@[simp] theorem dSrcE_e (a : Rho → R D) (ρ : Rho) : dSrcE a ρ = ( (a ρ).bind fun d ρ1 =>
  match seqD d with
  | some ds => .ok (numD 0 ds) ρ1
  | none => .bad) := rfl
@[simp] theorem dFor_e (it : Rho → R (List D)) (bind : Bd) (body : Rho → Out) (ρ : Rho) : dFor it bind body ρ = ( (it ρ).out fun ds ρ1 => dLoop bind body ds ρ1) := rfl
@[simp] theorem dYes_e (ρ : Rho) : dYes ρ = ( .ok true ρ) := rfl
@[simp] theorem dVal_e (r : Rho → R Res) (ρ : Rho) : dVal r ρ = ( (r ρ).bind fun x ρ1 =>
  match x with
  | .v d => .ok d ρ1
  | .n ds => .ok (.list ds) ρ1) := rfl
@[simp] theorem dNew_e (r : Rho → R Res) (ρ : Rho) : dNew r ρ = ( (r ρ).bind fun x ρ1 =>
  match x with
  | .v _ => .bad
  | .n ds => .ok ds ρ1) := rfl
@[simp] theorem dCallV_e (n : Nat) (body : Rho → Out) (dl : Rho → R (List D)) (ρ : Rho) : dCallV n body dl ρ = ( (dl ρ).bind fun ds ρ1 => callD n body none ds ρ1) := rfl
@[simp] theorem dCallH_e (n : Nat) (body : Rho → Out) (i : Nat) (dl : Rho → R (List D)) (ρ : Rho) : dCallH n body i dl ρ = (
  match ρ.lst? i with
  | none => .bad
  | some _ => (dl ρ).bind fun ds ρ1 => callD n body (some i) ds ρ1) := rfl
@[simp] theorem dCall0_e (n : Nat) (body : Rho → Out) (ρ : Rho) : dCall0 n body ρ = ( callD n body none [] ρ) := rfl
@[simp] theorem dRaise_e (e : Rho → R Ex) (ρ : Rho) : dRaise e ρ = ( (e ρ).out fun x ρ1 => .err x ρ1) := rfl
@[simp] theorem dExc0_e (x : Str) (ρ : Rho) : dExc0 x ρ = ( .ok ⟨x, []⟩ ρ) := rfl
@[simp] theorem dExc1_e (x f : Str) (e : Rho → R D) (ρ : Rho) : dExc1 x f e ρ = ( (e ρ).bind fun d ρ1 => .ok ⟨x, [(f, d)]⟩ ρ1) := rfl
@[simp] theorem dAsg_e (b : Bd) (e : Rho → R D) (ρ : Rho) : dAsg b e ρ = ( (e ρ).out fun d ρ1 => match b d ρ1 with
  | some ρ2 => .next ρ2
  | none => .bad) := rfl
@[simp] theorem dCatN_e (a b : Rho → R D) (ρ : Rho) : dCatN a b ρ = ( (a ρ).bind fun x ρ1 => (b ρ1).bind fun y ρ2 =>
  match x, y with
  | .list xs, .list ys => if xs.length + ys.length ≤ sizeLine then .ok (xs ++ ys) ρ2 else .bad
  | _, _ => .bad) := rfl
@[simp] theorem dCatNO_e (i : Nat) (b : Rho → R D) (ρ : Rho) : dCatNO i b ρ = (
  match ρ.lst? i with
  | none => .bad
  | some _ => (b ρ).bind fun y ρ2 =>
    match ρ2.lst? i, y with
    | some xs, .list ys => if xs.length + ys.length ≤ sizeLine then .ok (xs ++ ys) ρ2 else .bad
    | _, _ => .bad) := rfl
@[simp] theorem dListN_e (a : Rho → R D) (ρ : Rho) : dListN a ρ = ( (a ρ).bind fun x ρ1 =>
  match x with
  | .list xs => .ok xs ρ1
  | .tuple xs => .ok xs ρ1
  | _ => .bad) := rfl
@[simp] theorem dRd_e (i : Nat) (ρ : Rho) : dRd i ρ = ( lift (ρ.rd i) ρ) := rfl
@[simp] theorem dOpR_e (f : D → D → Option D) (i : Nat) (b : Rho → R D) (ρ : Rho) : dOpR f i b ρ = (
  match ρ.rd i with
  | none => .bad
  | some _ => (b ρ).bind fun y ρ2 => lift ((ρ2.rd i).bind fun x => f x y) ρ2) := rfl
@[simp] theorem dSlR_e (i : Nat) (lo hi : Rho → R (Option Int)) (ρ : Rho) : dSlR i lo hi ρ = (
  match ρ.rd i with
  | none => .bad
  | some _ => (lo ρ).bind fun l ρ2 => (hi ρ2).bind fun h ρ3 => lift ((ρ3.rd i).bind fun x => dCut x l h) ρ3) := rfl
@[simp] theorem dXf_e (cn f : Str) (x : Ex) (ρ : Rho) : dXf cn f x ρ = ( if x.cls = cn then lift (x.fs.lookup f) ρ else .bad) := rfl
@[simp] theorem dXt_e (m cn f : Str) (x : Ex) (ρ : Rho) : dXt m cn f x ρ = ( (dXf cn f x ρ).bind fun d ρ1 => .ok (.tuple [.str m, d]) ρ1) := rfl
@[simp] theorem dQ_e (f : Ex → Option (List D)) (x : Ex) (ρ : Rho) : dQ f x ρ = ( lift (f x) ρ) := rfl

def fr : Slot → Bool
  | .io _ => false
  | _ => true
@[simp] theorem fr_undef : fr .undef = true := rfl
@[simp] theorem fr_imm (d : D) : fr (.imm d) = true := rfl
@[simp] theorem fr_own (d : List D) : fr (.own d) = true := rfl
def frAt (ρ : Rho) (i : Nat) : Bool := match ρ[i]? with
  | some s => fr s
  | none => true
@[simp] theorem frAt_0 (s : Slot) (r : List Slot) : frAt (s :: r) 0 = fr s := rfl
@[simp] theorem frAt_succ (s : Slot) (r : List Slot) (i : Nat) : frAt (s :: r) (i + 1) = frAt r i := rfl
theorem io_split {α : Type} (ρ : Rho) (i : Nat) (a b : α) : (match ρ[i]? with | some (.io _) => a | _ => b) = if frAt ρ i = true then b else a := by
  unfold frAt
  split
  · rename_i h; rw [h]; rfl
  · rename_i h
    cases e : ρ[i]? with
    | none => rfl
    | some s => cases s <;> first | rfl | exact absurd e (h _)
theorem isIo_fr (ρ : Rho) (i : Nat) : isIo ρ i = !frAt ρ i := by
  unfold isIo frAt
  cases e : ρ[i]? with
  | none => rfl
  | some s => cases s <;> rfl
@[simp] theorem dSet_e (i : Nat) (e : Rho → R D) (ρ : Rho) : dSet i e ρ = (e ρ).out fun d ρ' => if frAt ρ' i = true then .next (ρ'.set i (.imm d)) else .bad := by
  unfold dSet
  congr 1; funext d ρ'; exact io_split ρ' i _ _
@[simp] theorem dSetN_e (i : Nat) (e : Rho → R (List D)) (ρ : Rho) : dSetN i e ρ = (e ρ).out fun d ρ' => if frAt ρ' i = true then .next (ρ'.set i (.own d)) else .bad := by
  unfold dSetN
  congr 1; funext d ρ'; exact io_split ρ' i _ _
@[simp] theorem bName_e (i : Nat) (d : D) (ρ : Rho) : bName i d ρ = if frAt ρ i = true then some (ρ.set i (.imm d)) else none := io_split ρ i _ _
@[simp] theorem dAug_e (f : D → D → Option D) (i : Nat) (e : Rho → R D) (ρ : Rho) : dAug f i e ρ = (match ρ[i]? with
    | some (.imm x) => (e ρ).out fun y ρ1 => (match f x y with
      | some d => if frAt ρ1 i = true then .next (ρ1.set i (.imm d)) else .bad
      | none => .bad)
    | _ => .bad) := by
  unfold dAug
  cases h : ρ[i]? with
  | none => rfl
  | some s =>
    cases s with
    | imm x =>
      show R.out _ _ = R.out _ _
      congr 1; funext y ρ1
      cases h2 : f x y with
      | none => rfl
      | some d => exact io_split ρ1 i _ _
    | undef => rfl
    | own _ => rfl
    | io _ => rfl
    | scr _ _ => rfl
    | exc _ _ _ => rfl
@[simp] theorem dParEE_e (i j : Nat) (a b : Rho → R D) (ρ : Rho) : dParEE i j a b ρ = (a ρ).out fun x ρ1 => (b ρ1).out fun y ρ2 => if frAt ρ2 i = true ∧ frAt ρ2 j = true then .next ((ρ2.set i (.imm x)).set j (.imm y)) else .bad := by
  unfold dParEE
  congr 1; funext x ρ1; congr 1; funext y ρ2
  rw [isIo_fr, isIo_fr]
  cases frAt ρ2 i <;> cases frAt ρ2 j <;> rfl
@[simp] theorem dParEN_e (i j : Nat) (a : Rho → R D) (b : Rho → R (List D)) (ρ : Rho) : dParEN i j a b ρ = (a ρ).out fun x ρ1 => (b ρ1).out fun y ρ2 => if frAt ρ2 i = true ∧ frAt ρ2 j = true then .next ((ρ2.set i (.imm x)).set j (.own y)) else .bad := by
  unfold dParEN
  congr 1; funext x ρ1; congr 1; funext y ρ2
  rw [isIo_fr, isIo_fr]
  cases frAt ρ2 i <;> cases frAt ρ2 j <;> rfl
@[simp] theorem dParNE_e (i j : Nat) (a : Rho → R (List D)) (b : Rho → R D) (ρ : Rho) : dParNE i j a b ρ = (a ρ).out fun x ρ1 => (b ρ1).out fun y ρ2 => if frAt ρ2 i = true ∧ frAt ρ2 j = true then .next ((ρ2.set i (.own x)).set j (.imm y)) else .bad := by
  unfold dParNE
  congr 1; funext x ρ1; congr 1; funext y ρ2
  rw [isIo_fr, isIo_fr]
  cases frAt ρ2 i <;> cases frAt ρ2 j <;> rfl
@[simp] theorem dParNN_e (i j : Nat) (a : Rho → R (List D)) (b : Rho → R (List D)) (ρ : Rho) : dParNN i j a b ρ = (a ρ).out fun x ρ1 => (b ρ1).out fun y ρ2 => if frAt ρ2 i = true ∧ frAt ρ2 j = true then .next ((ρ2.set i (.own x)).set j (.own y)) else .bad := by
  unfold dParNN
  congr 1; funext x ρ1; congr 1; funext y ρ2
  rw [isIo_fr, isIo_fr]
  cases frAt ρ2 i <;> cases frAt ρ2 j <;> rfl
@[simp] theorem rd_imm (d : D) (r : List Slot) : Rho.rd (.imm d :: r) 0 = some d := rfl
@[simp] theorem rd_own (ds : List D) (r : List Slot) : Rho.rd (.own ds :: r) 0 = some (.list ds) := rfl
@[simp] theorem rd_io (ds : List D) (r : List Slot) : Rho.rd (.io ds :: r) 0 = some (.list ds) := rfl
@[simp] theorem rd_succ (s : Slot) (r : List Slot) (i : Nat) : Rho.rd (s :: r) (i + 1) = Rho.rd r i := rfl
@[simp] theorem rl_own (ds : List D) (r : List Slot) : Rho.lst? (.own ds :: r) 0 = some ds := rfl
@[simp] theorem rl_io (ds : List D) (r : List Slot) : Rho.lst? (.io ds :: r) 0 = some ds := rfl
@[simp] theorem rl_succ (s : Slot) (r : List Slot) (i : Nat) : Rho.lst? (s :: r) (i + 1) = Rho.lst? r i := rfl
@[simp] theorem rp_own (ds es : List D) (r : List Slot) : Rho.put (.own ds :: r) 0 es = .own es :: r := rfl
@[simp] theorem rp_io (ds es : List D) (r : List Slot) : Rho.put (.io ds :: r) 0 es = .io es :: r := rfl
@[simp] theorem rp_succ (s : Slot) (r : List Slot) (i : Nat) (es : List D) : Rho.put (s :: r) (i + 1) es = s :: Rho.put r i es := by
  unfold Rho.put
  simp only [List.getElem?_cons_succ]
  split
  · rename_i h; simp [h]
  · rename_i h; simp [h]
  · rfl
@[simp] theorem szl : sizeLine = 16777216 := rfl
section
variable {i j : Int} {a b : List Nat} {xs ys : List D} {p q : Bool}
@[simp] theorem dAdd_ii : dAdd (.int i) (.int j) = some (.int (i + j)) := rfl
@[simp] theorem dAdd_ss : dAdd (.str (mk a)) (.str (mk b)) = if a.length + b.length ≤ 16777216 then some (.str (mk (a ++ b))) else none := by simp [dAdd]
@[simp] theorem dAdd_tt : dAdd (.tuple xs) (.tuple ys) = if xs.length + ys.length ≤ 16777216 then some (.tuple (xs ++ ys)) else none := rfl
@[simp] theorem dAdd_ll : dAdd (.list xs) (.list ys) = if xs.length + ys.length ≤ 16777216 then some (.list (xs ++ ys)) else none := rfl
@[simp] theorem dIadd_ii : dIadd (.int i) (.int j) = some (.int (i + j)) := rfl
@[simp] theorem dIadd_ss : dIadd (.str (mk a)) (.str (mk b)) = if a.length + b.length ≤ 16777216 then some (.str (mk (a ++ b))) else none := by simp [dIadd]
@[simp] theorem dSub_ii : dSub (.int i) (.int j) = some (.int (i - j)) := rfl
@[simp] theorem dMul_ii : dMul (.int i) (.int j) = if CMul i j then some (.int (i * j)) else none := rfl
theorem cmul_l {i j : Int} (h : -(2 ^ 64) < i) (h' : i < 2 ^ 64) : CMul i j := .inl ⟨h, h'⟩
theorem cmul_r {i j : Int} (h : -(2 ^ 64) < j) (h' : j < 2 ^ 64) : CMul i j := .inr ⟨h, h'⟩
@[simp] theorem dFdiv_ii : dFdiv (.int i) (.int j) = if 0 < j ∧ j < 1073741824 then some (.int (i / j)) else none := rfl
@[simp] theorem dMod_ii : dMod (.int i) (.int j) = if 0 < j then some (.int (i % j)) else none := rfl
@[simp] theorem dPow_ii : dPow (.int i) (.int j) = if 0 ≤ j ∧ j ≤ 1000000 ∧ i.natAbs < 2 ^ 64 then some (.int (i ^ j.toNat)) else none := rfl
@[simp] theorem dNeg_i : dNeg (.int i) = some (.int (-i)) := rfl
@[simp] theorem dEq_ii : dEq (.int i) (.int j) = some (.bool (decide (i = j))) := by
  show some (PyData.bool (i == j)) = _
  rw [Bool.beq_eq_decide_eq]
@[simp] theorem dEq_ss {a b : Str} : dEq (.str a) (.str b) = some (.bool (decide (a = b))) := by
  have e : PyData.eqv (.str a) (.str b) = decide (a = b) := by simp [PyData.eqv, Bool.beq_eq_decide_eq]
  unfold dEq
  split
  · rw [e]
  · rfl
@[simp] theorem dNe_ii : dNe (.int i) (.int j) = some (.bool (!decide (i = j))) := by
  show some (PyData.bool (!(i == j))) = _
  rw [Bool.beq_eq_decide_eq]
@[simp] theorem dNe_ss {a b : Str} : dNe (.str a) (.str b) = some (.bool (!decide (a = b))) := by
  have e : PyData.eqv (.str a) (.str b) = decide (a = b) := by simp [PyData.eqv, Bool.beq_eq_decide_eq]
  unfold dNe
  split
  · rw [e]
  · rfl
@[simp] theorem dCmp_ii {f : Int → Int → Bool} : dCmp f (.int i) (.int j) = some (.bool (f i j)) := rfl
@[simp] theorem dIn_s {c : Nat} : dIn (.str (mk [c])) (.str (mk b)) = some (.bool (decide (c ∈ b))) := by simp [dIn]
@[simp] theorem dLen_s : dLen (.str (mk a)) = if a.length ≤ 16777216 then some (.int a.length) else none := by simp [dLen]
@[simp] theorem dLen_l : dLen (.list xs) = some (.int xs.length) := rfl
@[simp] theorem dLen_t : dLen (.tuple xs) = some (.int xs.length) := rfl
@[simp] theorem dOrd_s {c : Nat} : dOrd (.str (mk [c])) = some (.int (c : Nat)) := by simp [dOrd]
@[simp] theorem dInt_i : dInt (.int i) = some (.int i) := rfl
@[simp] theorem dAbs_i : dAbs (.int i) = some (.int (if i < 0 then -i else i)) := rfl
@[simp] theorem dTuple_l : dTuple (.list xs) = some (.tuple xs) := rfl
@[simp] theorem dTuple_t : dTuple (.tuple xs) = some (.tuple xs) := rfl
@[simp] theorem dIx_l : dIx (.list xs) (.int i) = atI xs i := rfl
@[simp] theorem dIx_t : dIx (.tuple xs) (.int i) = atI xs i := rfl
@[simp] theorem dIx_s : dIx (.str (mk a)) (.int i) = if a.length ≤ 16777216 then (atI a i).map fun c => .str (mk [c]) else none := by simp [dIx]
@[simp] theorem dCut_l {lo hi : Option Int} : dCut (.list xs) lo hi = some (.list (cutD xs lo hi)) := rfl
@[simp] theorem dCut_t {lo hi : Option Int} : dCut (.tuple xs) lo hi = some (.tuple (cutD xs lo hi)) := rfl
@[simp] theorem dCut_s {lo hi : Option Int} : dCut (.str (mk a)) lo hi = if a.length ≤ 16777216 then some (.str (mk (cutD a lo hi))) else none := by simp [dCut]
theorem dStr_i : dStr (.int i) = if i.natAbs.log2 < 1920 then some (.str (toString i)) else none := rfl
theorem repS_mk (a : List Nat) (j : Int) : repS (mk a) j = mk (List.replicate j.toNat a).flatten := by
  unfold repS
  split
  · have : j.toNat = 0 := by omega
    rw [this]
    rfl
  · simp [mk]
@[simp] theorem dMul_si : dMul (.str (mk a)) (.int j) = if j ≤ 1000000 ∧ -1000000 ≤ j ∧ a.length ≤ 10 then some (.str (mk (List.replicate j.toNat a).flatten)) else none := by
  have e : dMul (.str (mk a)) (.int j) = if j ≤ 1000000 ∧ -1000000 ≤ j ∧ (mk a).length ≤ 10 then some (.str (repS (mk a) j)) else none := rfl
  rw [e, repS_mk]
  simp only [mk_len]
@[simp] theorem dMul_ti : dMul (.tuple xs) (.int j) = if 0 ≤ j ∧ j ≤ 1000 ∧ xs.length ≤ 1000 ∧ xs ≠ [] then some (.tuple (List.replicate j.toNat xs).flatten) else none := rfl
@[simp] theorem dMul_li : dMul (.list xs) (.int j) = if -1000 ≤ j ∧ j ≤ 1000 ∧ xs.length ≤ 1000 then some (.list (List.replicate j.toNat xs).flatten) else none := rfl
theorem joinL_nil : ∀ ls : List (List Nat), TL.joinL [] ls = ls.flatten
  | [] => rfl
  | [p] => by simp [TL.joinL]
  | p :: q :: r => by
    have := joinL_nil (q :: r)
    simp [TL.joinL] at this ⊢
    exact this
theorem join_mk (g : List Nat) (ls : List (List Nat)) : Txt.join (mk g) (ls.map mk) = mk (TL.joinL g ls) := by
  have e := TL.tl_join (mk g) (ls.map mk)
  have e1 : (ls.map mk).map TL.tl = ls := by
    rw [List.map_map]
    have : TL.tl ∘ mk = id := by funext l; exact mk_cps l
    rw [this, List.map_id]
  rw [e1] at e
  rw [TL.join_eq, str_mk (Str.join _ _)]
  have e2 : TL.tl (mk g) = g := mk_cps g
  rw [e2] at e
  exact congrArg mk e
theorem lens_mk (ls : List (List Nat)) : (ls.map mk).map (·.length) = ls.map (·.length) := by
  rw [List.map_map]
  exact List.map_congr_left fun l _ => mk_len l
theorem dJoin_l (ls : List (List Nat)) : dJoin (.str (mk a)) (.list (ls.map fun l => .str (mk l))) = if (ls.map (·.length)).sum + ls.length * a.length ≤ 16777216 then some (.str (mk (TL.joinL a ls))) else none := by
  have e : (ls.map fun l => PyData.str (mk l)) = (ls.map mk).map .str := by simp
  have e2 : dJoin (.str (mk a)) (.list ((ls.map mk).map .str)) = (strsOf ((ls.map mk).map .str)).bind fun ys => if (ys.map (·.length)).sum + ys.length * (mk a).length ≤ 16777216 then some (.str (Txt.join (mk a) ys)) else none := rfl
  rw [e, e2, strsOf_map]
  simp only [Option.bind_some]
  rw [lens_mk, join_mk, mk_len, List.length_map]
theorem dJoin_t (ls : List (List Nat)) : dJoin (.str (mk a)) (.tuple (ls.map fun l => .str (mk l))) = if (ls.map (·.length)).sum + ls.length * a.length ≤ 16777216 then some (.str (mk (TL.joinL a ls))) else none := dJoin_l ls
@[simp] theorem asInt_i : asInt (.int i) = some (some i) := rfl
@[simp] theorem dAll_b {l : List Bool} : dAll (.list (l.map .bool)) = some (.bool (l.all id)) := by simp [dAll, boolsOf_map]
@[simp] theorem dAny_b {l : List Bool} : dAny (.list (l.map .bool)) = some (.bool (l.any id)) := by simp [dAny, boolsOf_map]
@[simp] theorem dSum_i {l : List Int} : dSum (.list (l.map .int)) = some (.int l.sum) := by simp [dSum, intsOf_map]
theorem dAll_map {α : Type} (l : List α) (p : α → Bool) : dAll (.list (l.map fun c => .bool (p c))) = some (.bool (l.all p)) := by
  have e : (l.map fun c => PyData.bool (p c)) = (l.map p).map .bool := by simp
  rw [e, dAll_b]
  simp
theorem dAny_map {α : Type} (l : List α) (p : α → Bool) : dAny (.list (l.map fun c => .bool (p c))) = some (.bool (l.any p)) := by
  have e : (l.map fun c => PyData.bool (p c)) = (l.map p).map .bool := by simp
  rw [e, dAny_b]
  simp
theorem dSum_map {α : Type} (l : List α) (p : α → Int) : dSum (.list (l.map fun c => .int (p c))) = some (.int (l.map p).sum) := by
  have e : (l.map fun c => PyData.int (p c)) = (l.map p).map .int := by simp
  rw [e, dSum_i]
@[simp] theorem dIsB_b : dIsB (.bool p) (.bool q) = some (.bool (decide (p = q))) := rfl
@[simp] theorem dIsNotB_b : dIsNotB (.bool p) (.bool q) = some (.bool (!decide (p = q))) := rfl
@[simp] theorem seqD_l : seqD (.list xs) = some xs := rfl
@[simp] theorem seqD_t : seqD (.tuple xs) = some xs := rfl
@[simp] theorem seqD_s : seqD (.str (mk a)) = some (a.map fun c => .str (mk [c])) := by simp [seqD]
@[simp] theorem isNon_n : isNon .none = true := rfl
@[simp] theorem isNon_i : isNon (.int i) = false := rfl
@[simp] theorem isNon_s {x : Str} : isNon (.str x) = false := rfl
@[simp] theorem isNon_t : isNon (.tuple xs) = false := rfl
@[simp] theorem isNon_l : isNon (.list xs) = false := rfl
theorem atI_nat {α : Type} (xs : List α) (n : Nat) : atI xs (n : Int) = xs[n]? := by
  unfold atI ixN
  by_cases h : n < xs.length
  · simp [h]
  · simp [h]
theorem ixN_nat (n k : Nat) : ixN n (k : Int) = if k < n then some k else none := by
  unfold ixN
  simp
theorem atI_last {α : Type} (xs : List α) (n : Nat) (h0 : 0 < n) (h : n ≤ xs.length) : atI xs (-(n : Int)) = xs[xs.length - n]? := by
  unfold atI ixN
  rw [if_neg (by omega), if_pos (by omega)]
  show xs[(-(n : Int) + (xs.length : Int)).toNat]? = _
  congr 1
  omega
theorem cutD_nn {α : Type} (xs : List α) (i j : Nat) : cutD xs (some (i : Int)) (some (j : Int)) = (xs.drop i).take (j - i) := by
  unfold cutD
  rw [HT.sIx_nat, HT.sIx_nat]
  rcases Nat.le_total i xs.length with h | h
  · rw [Nat.min_eq_left h]
    rcases Nat.le_total j xs.length with h2 | h2
    · rw [Nat.min_eq_left h2]
    · rw [Nat.min_eq_right h2, List.take_of_length_le (by simp), List.take_of_length_le (by simp; omega)]
  · rw [Nat.min_eq_right h, List.drop_of_length_le (Nat.le_refl _), List.drop_of_length_le h]
    simp
theorem cutD_0n {α : Type} (xs : List α) (j : Nat) : cutD xs none (some (j : Int)) = xs.take j := by
  have := cutD_nn xs 0 j
  unfold cutD at this ⊢
  rw [HT.sIx_nat xs.length 0 0] at this
  simpa [HT.sIx_none] using this
theorem cutD_n0 {α : Type} (xs : List α) (i : Nat) : cutD xs (some (i : Int)) none = xs.drop i := by
  unfold cutD
  rw [HT.sIx_nat, HT.sIx_none]
  rcases Nat.le_total i xs.length with h | h
  · rw [Nat.min_eq_left h, List.take_of_length_le (by simp)]
  · rw [Nat.min_eq_right h, List.drop_of_length_le (Nat.le_refl _), List.drop_of_length_le h]
    simp
end
theorem dRng1_v {a : Rho → R D} {ρ ρ1 : Rho} {j : Int} (ha : a ρ = .ok (.int j) ρ1) (h0 : -1000000000 < j) (h1 : j < 1000000000) : dRng1 a ρ = .ok (rgD 0 1 j.toNat) ρ1 := by
  have h : -(2 ^ 62) ≤ j ∧ j < 2 ^ 62 := by omega
  unfold dRng1
  rw [ha]
  exact if_pos h
theorem dRng2_v {a b : Rho → R D} {ρ ρ1 ρ2 : Rho} {i j : Int} (ha : a ρ = .ok (.int i) ρ1) (hb : b ρ1 = .ok (.int j) ρ2) (h0 : -1000000000 < j) (h1 : j < 1000000000) (h2 : -1000000000 < i) (h3 : i < 1000000000) : dRng2 a b ρ = .ok (rgD i 1 (j - i).toNat) ρ2 := by
  have h : -(2 ^ 62) ≤ i ∧ i < 2 ^ 62 ∧ -(2 ^ 62) ≤ j ∧ j < 2 ^ 62 := by omega
  unfold dRng2
  rw [ha]
  show R.bind (b ρ1) _ = _
  rw [hb]
  exact if_pos h
theorem dRng3_v {a b c : Rho → R D} {ρ ρ1 ρ2 ρ3 : Rho} {i j k : Int} (ha : a ρ = .ok (.int i) ρ1) (hb : b ρ1 = .ok (.int j) ρ2) (hc : c ρ2 = .ok (.int k) ρ3) (h0 : 0 < k) (hk : k < 1000000000) (hs : Builtin.Range.small i j k = true) :
    dRng3 a b c ρ = .ok (rgD i k (Builtin.Range.rangeSize i j k).toNat) ρ3 := by
  have h : k ≠ 0 ∧ k.natAbs < 1073741824 ∧ Builtin.Range.small i j k = true := ⟨by omega, by omega, hs⟩
  unfold dRng3
  rw [ha]
  show R.bind (b ρ1) _ = _
  rw [hb]
  show R.bind (c ρ2) _ = _
  rw [hc]
  exact if_pos h
/-! ### loops -/
theorem dLoop_inv {bind : Bd} {body : Rho → Out} (P : Nat → Rho → Prop) : ∀ (ds : List D) (k : Nat) (ρ : Rho), P k ρ → (∀ i d ρ, ds[i]? = some d → P (k + i) ρ → ∃ ρ1 ρ2, bind d ρ = some ρ1 ∧ body ρ1 = .next ρ2 ∧ P (k + i + 1) ρ2) →
    ∃ ρ', dLoop bind body ds ρ = .next ρ' ∧ P (k + ds.length) ρ'
  | [], k, ρ, h0, _ => ⟨ρ, rfl, h0⟩
  | d :: ds, k, ρ, h0, hs => by
    obtain ⟨ρ1, ρ2, e1, e2, p⟩ := hs 0 d ρ rfl h0
    obtain ⟨ρ', e3, p'⟩ := dLoop_inv P ds (k + 1) ρ2 p fun i d ρ hi hp => by
      have := hs (i + 1) d ρ hi (by rw [show k + (i + 1) = k + 1 + i by omega]; exact hp)
      rw [show k + (i + 1) + 1 = k + 1 + i + 1 by omega] at this
      exact this
    refine ⟨ρ', ?_, by rw [show k + (d :: ds).length = k + 1 + ds.length by simp; omega]; exact p'⟩
    unfold dLoop
    rw [e1]
    simp only
    rw [e2]
    exact e3
/-- a comprehension over one name, its element a plain function of the item -/
theorem dLcGo_pure {v : Nat} {elt : Rho → R D} {α : Type} {g f : α → D} {ρ : Rho} {s : Slot} (hs : ρ[v]? = some s) : ∀ (ds : List α) (acc : List D), acc.length + ds.length ≤ 16777216 → (∀ d ∈ ds, elt (ρ.set v (.imm (g d))) = .ok (f d) (ρ.set v (.imm (g d)))) →
    dLcGo [v] (bName v) dYes elt (ds.map g) ρ acc = .ok (acc ++ ds.map f) ρ
  | [], acc, _, _ => by simp [dLcGo]
  | d :: ds, acc, hl, he => by
    have hv : v < ρ.length := by
      rcases Nat.lt_or_ge v ρ.length with h | h
      · exact h
      · rw [List.getElem?_eq_none h] at hs; cases hs
    have ew : wipeR ρ [v] = ρ.set v .undef := rfl
    have eg : (ρ.set v Slot.undef)[v]? = some .undef := by simp [hv]
    have eb : backR ρ (ρ.set v (.imm (g d))) [v] = ρ := by
      show (match ρ[v]? with | some s => ((ρ.set v (.imm (g d))).set v s) | none => ρ.set v (.imm (g d))) = ρ
      rw [hs]
      simp only
      rw [List.set_set]
      apply List.ext_getElem?
      intro j
      rw [List.getElem?_set]
      split
      · rename_i h; subst h; rw [hs]
      · rfl
    rw [List.map_cons]
    unfold dLcGo
    rw [ew]
    have e1 : bName v (g d) (ρ.set v Slot.undef) = some (ρ.set v (.imm (g d))) := by
      show (match (ρ.set v Slot.undef)[v]? with | some (.io _) => none | _ => some ((ρ.set v Slot.undef).set v (.imm (g d)))) = _
      rw [eg]
      simp
    rw [e1]
    simp only [dYes]
    rw [he d (List.mem_cons_self ..)]
    simp only
    rw [if_pos (by simp at hl ⊢; omega), eb, dLcGo_pure hs ds (acc ++ [f d]) (by simp at hl ⊢; omega) fun d' h => he d' (List.mem_cons_of_mem _ h)]
    simp
theorem dLc_pure {v : Nat} {elt : Rho → R D} {α : Type} {g : α → D} (f : α → D) {ρ ρ0 : Rho} {s : Slot} {it : Rho → R (List D)} {ds : List α} (hi : it ρ0 = .ok (ds.map g) ρ) (hs : ρ[v]? = some s) (hc : calmS ρ [v] = true) (hl : ds.length ≤ 16777216) (he : ∀ d ∈ ds, elt (ρ.set v (.imm (g d))) = .ok (f d) (ρ.set v (.imm (g d)))) :
    dLc [v] it (bName v) dYes elt ρ0 = .ok (ds.map f) ρ := by
  unfold dLc
  rw [hi]
  simp only [bind_ok]
  rw [if_pos hc, dLcGo_pure hs ds [] (by simpa using hl) he]
  rfl
/-! ### calls -/
theorem call_v {n : Nat} {body : Rho → Out} {ds : List D} {d : D} (h : ∃ ρ', body (ds.map .imm ++ List.replicate (n - ds.length) .undef) = .ret d ρ') (ρ : Rho) : callD n body none ds ρ = .ok (.v d) ρ := by
  obtain ⟨ρ', h⟩ := h
  simp [callD, headS, h, endsC, backH]
theorem call_err {n : Nat} {body : Rho → Out} {ds : List D} {x : Ex} (h : ∃ ρ', body (ds.map .imm ++ List.replicate (n - ds.length) .undef) = .err x ρ') (ρ : Rho) : callD n body none ds ρ = .err x ρ := by
  obtain ⟨ρ', h⟩ := h
  simp [callD, headS, h, endsC, backH]
theorem call_none {n : Nat} {body : Rho → Out} {ds : List D} (h : ∃ ρ', body (ds.map .imm ++ List.replicate (n - ds.length) .undef) = .next ρ') (ρ : Rho) : callD n body none ds ρ = .ok (.v .none) ρ := by
  obtain ⟨ρ', h⟩ := h
  simp [callD, headS, h, endsC, backH]
/-- a call whose first argument is a list that may change -/
theorem call_h {n : Nat} {body : Rho → Out} {ds ds0 ds' : List D} {d : D} {i : Nat} {ρ : Rho} (hi : ρ.lst? i = some ds0) (h : ∃ ρ', body (.io ds0 :: (ds.map .imm ++ List.replicate (n - (1 + ds.length)) .undef)) = .ret d (.io ds' :: ρ')) :
    callD n body (some i) ds ρ = .ok (.v d) (ρ.put i ds') := by
  obtain ⟨ρ', h⟩ := h
  simp only [callD, headS, hi, Option.map_some, List.length_cons, List.length_nil, List.cons_append, List.nil_append]
  rw [Nat.zero_add, h]
  simp [endsC, backH]
theorem call_hn {n : Nat} {body : Rho → Out} {ds ds0 ds' : List D} {d : List D} {i : Nat} {ρ : Rho} (hi : ρ.lst? i = some ds0) (h : ∃ ρ', body (.io ds0 :: (ds.map .imm ++ List.replicate (n - (1 + ds.length)) .undef)) = .retN d (.io ds' :: ρ')) :
    callD n body (some i) ds ρ = .ok (.n d) (ρ.put i ds') := by
  obtain ⟨ρ', h⟩ := h
  simp only [callD, headS, hi, Option.map_some, List.length_cons, List.length_nil, List.cons_append, List.nil_append]
  rw [Nat.zero_add, h]
  simp [endsC, backH]
end Pf

namespace Pf
open PySem PySem.Spec PyProof.Rows L2
@[simp] theorem st_0 : PySem.Str.ofString "BadCard" = mk [66, 97, 100, 67, 97, 114, 100] := by decide +kernel
@[simp] theorem st_1 : PySem.Str.ofString "BadText" = mk [66, 97, 100, 84, 101, 120, 116] := by decide +kernel
@[simp] theorem st_2 : PySem.Str.ofString "NoDeck" = mk [78, 111, 68, 101, 99, 107] := by decide +kernel
@[simp] theorem st_3 : PySem.Str.ofString "NoText" = mk [78, 111, 84, 101, 120, 116] := by decide +kernel
@[simp] theorem st_4 : PySem.Str.ofString "NoWidth" = mk [78, 111, 87, 105, 100, 116, 104] := by decide +kernel
@[simp] theorem st_5 : PySem.Str.ofString "TooMany" = mk [84, 111, 111, 77, 97, 110, 121] := by decide +kernel
@[simp] theorem st_6 : PySem.Str.ofString "0123456789x." = mk [48, 49, 50, 51, 52, 53, 54, 55, 56, 57, 120, 46] := by decide +kernel
@[simp] theorem st_7 : PySem.Str.ofString "\n" = mk [10] := by decide +kernel
@[simp] theorem st_8 : PySem.Str.ofString "0123456789" = mk [48, 49, 50, 51, 52, 53, 54, 55, 56, 57] := by decide +kernel
@[simp] theorem st_9 : PySem.Str.ofString "" = mk [] := by decide +kernel
@[simp] theorem st_10 : PySem.Str.ofString ".." = mk [46, 46] := by decide +kernel
@[simp] theorem st_11 : PySem.Str.ofString "most" = mk [109, 111, 115, 116] := by decide +kernel
@[simp] theorem st_12 : PySem.Str.ofString " !\"#$%&'()*+,-./0123456789:;<=>?@" = mk [32, 33, 34, 35, 36, 37, 38, 39, 40, 41, 42, 43, 44, 45, 46, 47, 48, 49, 50, 51, 52, 53, 54, 55, 56, 57, 58, 59, 60, 61, 62, 63, 64] := by decide +kernel
@[simp] theorem st_13 : PySem.Str.ofString "ABCDEFGHIJKLMNOPQRSTUVWXYZ[\\]^_`abcdefghijklmnopqrstuvwxyz{|}~" = mk [65, 66, 67, 68, 69, 70, 71, 72, 73, 74, 75, 76, 77, 78, 79, 80, 81, 82, 83, 84, 85, 86, 87, 88, 89, 90, 91, 92, 93, 94, 95, 96, 97, 98, 99, 100, 101, 102, 103, 104, 105, 106, 107, 108, 109, 110, 111, 112, 113, 114, 115, 116, 117, 118, 119, 120, 121, 122, 123, 124, 125, 126] := by decide +kernel
@[simp] theorem st_14 : PySem.Str.ofString "card" = mk [99, 97, 114, 100] := by decide +kernel
@[simp] theorem st_15 : PySem.Str.ofString "CardError" = mk [67, 97, 114, 100, 69, 114, 114, 111, 114] := by decide +kernel
@[simp] theorem st_16 : PySem.Str.ofString " !\"#$&&'()*+,-./0123456789:;<=>?@" = mk [32, 33, 34, 35, 36, 38, 38, 39, 40, 41, 42, 43, 44, 45, 46, 47, 48, 49, 50, 51, 52, 53, 54, 55, 56, 57, 58, 59, 60, 61, 62, 63, 64] := by decide +kernel
@[simp] theorem st_17 : PySem.Str.ofString "96" = mk [57, 54] := by decide +kernel
@[simp] theorem st_18 : PySem.Str.ofString "x0" = mk [120, 48] := by decide +kernel
@[simp] theorem st_19 : PySem.Str.ofString "......" = mk [46, 46, 46, 46, 46, 46] := by decide +kernel
@[simp] theorem st_20 : PySem.Str.ofString "00" = mk [48, 48] := by decide +kernel
@[simp] theorem st_21 : PySem.Str.ofString "0." = mk [48, 46] := by decide +kernel
@[simp] theorem st_22 : PySem.Str.ofString "x" = mk [120] := by decide +kernel
@[simp] theorem st_23 : PySem.Str.ofString "." = mk [46] := by decide +kernel
@[simp] theorem st_24 : PySem.Str.ofString "...." = mk [46, 46, 46, 46] := by decide +kernel
@[simp] theorem st_25 : PySem.Str.ofString "many" = mk [109, 97, 110, 121] := by decide +kernel
@[simp] theorem st_26 : PySem.Str.ofString "deck" = mk [100, 101, 99, 107] := by decide +kernel
@[simp] theorem st_27 : PySem.Str.ofString "text" = mk [116, 101, 120, 116] := by decide +kernel
@[simp] theorem st_28 : PySem.Str.ofString "other" = mk [111, 116, 104, 101, 114] := by decide +kernel
@[simp] theorem st_29 : PySem.Str.ofString "let" = mk [108, 101, 116] := by decide +kernel
@[simp] theorem st_30 : PySem.Str.ofString "12" = mk [49, 50] := by decide +kernel
@[simp] theorem st_31 : PySem.Str.ofString "........" = mk [46, 46, 46, 46, 46, 46, 46, 46] := by decide +kernel
@[simp] theorem st_32 : PySem.Str.ofString "a" = mk [97] := by decide +kernel
@[simp] theorem st_33 : PySem.Str.ofString "b" = mk [98] := by decide +kernel
/-- the hand of a law: its cells, the place, what is left of a great cell, the state, the count -/
def hand (cs : List Int) (p : Nat) (q r s : Int) : List D := [.list (cs.map .int), .int p, .int q, .int r, .int s]
@[simp] theorem cmul_a (x y : Int) : CMul (x % 2147483647) y := .inl (by omega)
@[simp] theorem cmul_b (y : Int) : CMul 7919 y := .inl (by decide)
@[simp] theorem cmul_c (y : Int) : CMul y 48271 := .inr (by decide)
@[simp] theorem cmul_d (y : Int) : CMul y 40692 := .inr (by decide)
@[simp] theorem cmul_e (y : Int) : CMul y 69621 := .inr (by decide)
@[simp] theorem cmul_f (y : Int) : CMul 7 y := .inl (by decide)
theorem draw_body (cs : List Int) (p : Nat) (q r s many : Int) (hc : ∀ c ∈ cs, 0 ≤ c) (h0 : 0 < many) (h1 : many < 1073741824) (hq : 0 ≤ q) :
    ∃ (v : Int) (p' : Nat) (q' r' s' : Int) (ρ' : Rho), d__law_draw [.io (hand cs p q r s), .imm (.int many), .undef, .undef, .undef] = .ret (.int v) (.io (hand cs p' q' r' s') :: ρ') ∧ 0 ≤ v ∧ v < many ∧ 0 ≤ q' := by
  have hm : ∀ x : Int, 0 ≤ x % many ∧ x % many < many := fun x => ⟨Int.emod_nonneg _ (by omega), Int.emod_lt_of_pos _ h0⟩
  have hd : ∀ x : Int, 0 ≤ x → 0 ≤ x / many := fun x hx => Int.ediv_nonneg hx (by omega)
  generalize ho : d__law_draw [.io (hand cs p q r s), .imm (.int many), .undef, .undef, .undef] = o
  unfold d__law_draw hand at ho
  by_cases hh : q = 0 ∧ p < cs.length
  · obtain ⟨e, hp⟩ := hh
    have hp' : (p : Int) < (cs.length : Int) := by omega
    by_cases hb : (10 : Int) ^ 18 ≤ cs[p]
    · have hb' : 0 < cs[p] := by omega
      have hb2 : 1000000000000000000 ≤ cs[p] := by simpa using hb
      simp [atI, ixN, hp, hp', h0, h1, hb2, hb', e] at ho
      subst ho
      exact ⟨cs[p] % many, p + 1, cs[p] / many, _, s, _, rfl, (hm _).1, (hm _).2, hd _ (by omega)⟩
    · have hb2 : ¬ 1000000000000000000 ≤ cs[p] := by simpa using hb
      simp [atI, ixN, hp, hp', h0, h1, hb2, e] at ho
      subst ho
      exact ⟨_, p + 1, 0, _, s + 1, _, rfl, (hm _).1, (hm _).2, Int.le_refl _⟩
  · by_cases hq0 : 0 < q
    · simp [atI, ixN, Int.ne_of_gt hq0, hq0, h0, h1] at ho
      subst ho
      exact ⟨q % many, p, q / many, r, s, _, rfl, (hm _).1, (hm _).2, hd _ hq⟩
    · have : q = 0 := by omega
      subst this
      have hp : ¬ p < cs.length := fun h => hh ⟨rfl, h⟩
      have hp' : ¬ ((p : Int) < (cs.length : Int)) := by omega
      simp [atI, ixN, hp, hp', h0, h1] at ho
      subst ho
      exact ⟨_, p, 0, r, s + 1, _, rfl, (hm _).1, (hm _).2, Int.le_refl _⟩

def Hd (ds : List D) : Prop := ∃ (cs : List Int) (p : Nat) (q r s : Int), ds = hand cs p q r s ∧ (∀ c ∈ cs, 0 ≤ c) ∧ 0 ≤ q
/-- one draw -/
theorem draw {ds : List D} (h : Hd ds) (many : Nat) (h0 : 0 < many) (h1 : many < 1073741824) :
    ∃ (v : Nat) (ds' : List D), v < many ∧ Hd ds' ∧ ∀ (ρ : Rho) (i : Nat), ρ.lst? i = some ds → callD 5 d__law_draw (some i) [.int (many : Int)] ρ = .ok (.v (.int (v : Int))) (ρ.put i ds') := by
  obtain ⟨cs, p, q, r, s, rfl, hc, hq⟩ := h
  obtain ⟨v, p', q', r', s', ρ', e, v0, v1, hq'⟩ := draw_body cs p q r s many hc (by omega) (by omega) hq
  refine ⟨v.toNat, hand cs p' q' r' s', by omega, ⟨cs, p', q', r', s', rfl, hc, hq'⟩, fun ρ i hi => call_h hi ⟨ρ', ?_⟩⟩
  have ev : ((v.toNat : Nat) : Int) = v := by omega
  rw [ev]
  exact e
theorem any_ {ds : List D} (h : Hd ds) (xs : List D) (h0 : xs ≠ []) (h1 : xs.length < 1073741824) :
    ∃ (x : D) (ds' : List D), x ∈ xs ∧ Hd ds' ∧ ∀ (ρ : Rho) (i : Nat), ρ.lst? i = some ds → callD 2 d__law_any (some i) [.list xs] ρ = .ok (.v x) (ρ.put i ds') := by
  have hl : 0 < xs.length := List.length_pos_iff.mpr h0
  obtain ⟨v, ds', hv, hd, e⟩ := draw h xs.length hl h1
  refine ⟨xs[v], ds', List.getElem_mem hv, hd, fun ρ i hi => ?_⟩
  have hx : xs[v]? = some xs[v] := List.getElem?_eq_getElem hv
  refine call_h hi ?_
  have e0 := e [.io ds, .imm (.list xs)] 0 rfl
  simp [d__law_any, e0, atI_nat, hx]
theorem anyT {ds : List D} (h : Hd ds) (xs : List D) (h0 : xs ≠ []) (h1 : xs.length < 1073741824) :
    ∃ (x : D) (ds' : List D), x ∈ xs ∧ Hd ds' ∧ ∀ (ρ : Rho) (i : Nat), ρ.lst? i = some ds → callD 2 d__law_any (some i) [.tuple xs] ρ = .ok (.v x) (ρ.put i ds') := by
  have hl : 0 < xs.length := List.length_pos_iff.mpr h0
  obtain ⟨v, ds', hv, hd, e⟩ := draw h xs.length hl h1
  refine ⟨xs[v], ds', List.getElem_mem hv, hd, fun ρ i hi => ?_⟩
  have hx : xs[v]? = some xs[v] := List.getElem?_eq_getElem hv
  refine call_h hi ?_
  have e0 := e [.io ds, .imm (.tuple xs)] 0 rfl
  simp [d__law_any, e0, atI_nat, hx]
theorem hand_start (ns : List Int) (hl : ns.length ≤ 63) : ∃ ds ρ', d__law_hand [.scr ns [], .undef, .undef] = .retN ds ρ' ∧ Hd ds := by
  have ec : ns.take 63 = ns := List.take_of_length_le hl
  have e1 : c__law_hand_1 [.scr ns [], .undef, .undef] = .ok (ns.map fun i => .int (if i < 0 then -i else i)) [.scr ns [], .undef, .undef] := by
    unfold c__law_hand_1
    refine dLc_pure (g := .int) (ds := ns) (s := .undef) _ ?_ rfl rfl (by omega) fun n hn => ?_
    · have := cutD_0n ns 63
      simp only [Int.cast_ofNat_Int] at this
      simp [this, ec]
    · simp
  generalize ho : d__law_hand [.scr ns [], .undef, .undef] = o
  unfold d__law_hand at ho
  simp [e1] at ho
  subst ho
  refine ⟨_, _, rfl, ns.map fun i => if i < 0 then -i else i, 0, 0, 83 + 7 * (ns.length : Int), 0, ?_, ?_, by omega⟩
  · unfold hand
    simp
  · intro c h
    obtain ⟨n, _, rfl⟩ := List.mem_map.mp h
    split <;> omega
theorem figN (n : Nat) (h : n < 10) : atI [48, 49, 50, 51, 52, 53, 54, 55, 56, 57] (n : Int) = some (48 + n) := by
  rw [atI_nat]
  match n, h with
  | 0, _ | 1, _ | 2, _ | 3, _ | 4, _ | 5, _ | 6, _ | 7, _ | 8, _ | 9, _ => rfl
theorem strN (n : Nat) (h : n < 10) : dStr (.int (n : Int)) = some (.str (mk [48 + n])) := by
  have key : ∀ k : Fin 10, PySem.Str.ofString (toString (k.val : Int)) = mk [48 + k.val] := by decide +kernel
  have kl : ∀ k : Fin 10, (k.val : Int).natAbs.log2 < 1920 := by decide +kernel
  rw [dStr_i, if_pos (kl ⟨n, h⟩), key ⟨n, h⟩]
def cod (c : Nat) : Nat := if c = 10 then 95 else c - 32
def Gd (c : Nat) : Prop := c = 10 ∨ (32 ≤ c ∧ c < 127)
theorem cod_lt {c : Nat} (h : Gd c) : cod c < 96 := by unfold cod; unfold Gd at h; split <;> omega
def two (n : Nat) : List Nat := [48 + n / 10, 48 + n % 10]
def codL (c : Nat) : List Nat := two (cod c)
theorem fig2 {n : Nat} (h : n < 100) : atI [48, 49, 50, 51, 52, 53, 54, 55, 56, 57] ((n : Int) / 10) = some (48 + n / 10) ∧ atI [48, 49, 50, 51, 52, 53, 54, 55, 56, 57] ((n : Int) % 10) = some (48 + n % 10) := by
  have e1 : (n : Int) / 10 = ((n / 10 : Nat) : Int) := by omega
  have e2 : (n : Int) % 10 = ((n % 10 : Nat) : Int) := by omega
  rw [e1, e2, figN _ (by omega), figN _ (by omega)]
  exact ⟨rfl, rfl⟩
theorem str2 {n : Nat} (h : n < 100) : dStr (.int ((n : Int) / 10)) = some (.str (mk [48 + n / 10])) ∧ dStr (.int ((n : Int) % 10)) = some (.str (mk [48 + n % 10])) := by
  have e1 : (n : Int) / 10 = ((n / 10 : Nat) : Int) := by omega
  have e2 : (n : Int) % 10 = ((n % 10 : Nat) : Int) := by omega
  rw [e1, e2, strN _ (by omega), strN _ (by omega)]
  exact ⟨rfl, rfl⟩
theorem code_v {c : Nat} (h : Gd c) (ρ : Rho) : callD 2 d_code_of none [.str (mk [c])] ρ = .ok (.v (.str (mk (codL c)))) ρ := by
  refine call_v ?_ ρ
  have f := fig2 (n := cod c) (by have := cod_lt h; omega)
  by_cases hc : c = 10
  · subst hc
    have e : cod 10 = 95 := rfl
    rw [e] at f
    simp [d_code_of, codL, two, e]
    simp at f
    simp [f]
  · have e : (cod c : Int) = (c : Int) - 32 := by unfold cod; unfold Gd at h; rw [if_neg hc]; omega
    rw [e] at f
    simp [d_code_of, codL, two, hc, f]
theorem lcode_v {c : Nat} (h : Gd c) (ρ : Rho) : callD 2 d__law_code none [.str (mk [c])] ρ = .ok (.v (.str (mk (codL c)))) ρ := by
  refine call_v ?_ ρ
  have f := str2 (n := cod c) (by have := cod_lt h; omega)
  by_cases hc : c = 10
  · subst hc
    have e : cod 10 = 95 := rfl
    rw [e] at f
    simp [d__law_code, codL, two, e]
    simp at f
    simp [f]
  · have e : (cod c : Int) = (c : Int) - 32 := by unfold cod; unfold Gd at h; rw [if_neg hc]; omega
    rw [e] at f
    simp [d__law_code, codL, two, hc, f]
theorem coded_v {c : Nat} (h : Gd c) (ρ : Rho) : callD 1 d_is_coded none [.str (mk [c])] ρ = .ok (.v (.bool true)) ρ := by
  refine call_v ?_ ρ
  by_cases hc : c = 10
  · subst hc
    simp [d_is_coded]
  · unfold Gd at h
    have h1 : (32 : Int) ≤ c := by omega
    have h2 : (c : Int) < 127 := by omega
    simp [d_is_coded, hc, h1, h2]
def blank (k : Nat) : List Nat := (List.replicate k [46, 46]).flatten
def cods (sh : List Nat) : List Nat := (sh.map codL).flatten
def card (i : Nat) (sh : List Nat) : List Nat := two (i % 100) ++ cods sh ++ blank (3 - sh.length)
def third (l : List Nat) (i : Nat) : List Nat := (l.drop (3 * i)).take 3
def deck (l : List Nat) : List (List Nat) := (List.range ((l.length + 2) / 3)).map fun i => card i (third l i)
def tD (c : List (List Nat)) : D := .tuple (c.map fun x => .str (mk x))
theorem Gd_third {l : List Nat} (h : ∀ c ∈ l, Gd c) (i : Nat) : ∀ c ∈ third l i, Gd c := fun c hc => h c (List.mem_of_mem_drop (List.mem_of_mem_take hc))
theorem join_codes {sh : List Nat} (hl : sh.length ≤ 3) : dJoin (.str (mk [])) (.list (sh.map fun c => .str (mk (codL c)))) = some (.str (mk (cods sh))) := by
  have e : (sh.map fun c => PyData.str (mk (codL c))) = (sh.map codL).map fun l => .str (mk l) := by simp
  have hs : ((sh.map codL).map (·.length)).sum = 2 * sh.length := by
    induction sh with
    | nil => rfl
    | cons a r ih => simp at hl ih ⊢; have := ih (by omega); simp [codL, two] at this ⊢; omega
  rw [e, dJoin_l, joinL_nil, hs, if_pos (by simp; omega)]
  rfl
theorem rng3 (n : Nat) (hn : n ≤ 1000000) : Builtin.Range.small 0 n 3 = true ∧ (Builtin.Range.rangeSize 0 n 3).toNat = (n + 2) / 3 := by
  refine ⟨?_, ?_⟩
  · unfold Builtin.Range.small Builtin.Range.rangeSize Builtin.Range.rangeFitsLong
    simp
    split <;> omega
  · simp [Builtin.Range.rangeSize]
    split <;> omega
theorem rgD_get {lo c : Int} {n i : Nat} {d : D} (h : (rgD lo c n)[i]? = some d) : i < n ∧ d = .int (lo + (i : Nat) * c) := by
  unfold rgD at h
  rw [List.getElem?_map] at h
  rcases Nat.lt_or_ge i n with hi | hi
  · rw [List.getElem?_range hi] at h
    exact ⟨hi, (Option.some.inj h).symm⟩
  · rw [List.getElem?_eq_none (by simpa using hi)] at h
    cases h
theorem rgD_len (lo c : Int) (n : Nat) : (rgD lo c n).length = n := by simp [rgD]
theorem len_third (l : List Nat) (i : Nat) : (third l i).length ≤ 3 := by unfold third; simp; omega
theorem cut3 (l : List Nat) (i : Nat) : cutD l (some (3 * (i : Int))) (some (3 * (i : Int) + 3)) = third l i := by
  have e0 : 3 * (i : Int) = ((3 * i : Nat) : Int) := by omega
  have e : 3 * (i : Int) + 3 = ((3 * i + 3 : Nat) : Int) := by omega
  rw [e, e0, cutD_nn]
  unfold third
  congr 1
  omega
theorem lpunched_c {l : List Nat} (hl : l.length ≤ 3) (hg : ∀ c ∈ l, Gd c) (s0 s1 s2 s4 s5 : Slot) :
    c__law_punched_1 [s0, s1, s2, .imm (.str (mk l)), s4, s5, .undef] = .ok (l.map fun c => .str (mk (codL c))) [s0, s1, s2, .imm (.str (mk l)), s4, s5, .undef] := by
  unfold c__law_punched_1
  exact dLc_pure (g := fun c => .str (mk [c])) _ (by simp) rfl rfl (by omega) fun c hc => by simp [lcode_v (hg c hc)]
theorem str3 (i : Nat) : dStr (.int ((i : Int) % 100 / 10)) = some (.str (mk [48 + i % 100 / 10])) ∧ dStr (.int ((i : Int) % 10)) = some (.str (mk [48 + i % 10])) := by
  have h := str2 (n := i % 100) (by omega)
  have e : ((i % 100 : Nat) : Int) = (i : Int) % 100 := by omega
  have e2 : (i : Int) % 100 % 10 = (i : Int) % 10 := by omega
  have e3 : i % 100 % 10 = i % 10 := by omega
  rw [e, e2, e3] at h
  exact h
theorem fig3 (i : Nat) : atI [48, 49, 50, 51, 52, 53, 54, 55, 56, 57] ((i : Int) % 100 / 10) = some (48 + i % 100 / 10) ∧ atI [48, 49, 50, 51, 52, 53, 54, 55, 56, 57] ((i : Int) % 10) = some (48 + i % 10) := by
  have h := fig2 (n := i % 100) (by omega)
  have e : ((i % 100 : Nat) : Int) = (i : Int) % 100 := by omega
  have e2 : (i : Int) % 100 % 10 = (i : Int) % 10 := by omega
  have e3 : i % 100 % 10 = i % 10 := by omega
  rw [e, e2, e3] at h
  exact h
theorem rep3 (k : Nat) : (List.replicate k [46, 46]).flatten = blank k := rfl
theorem len_codes (sh : List Nat) : (cods sh).length = 2 * sh.length := by
  unfold cods
  induction sh with
  | nil => rfl
  | cons a r ih => simp at ih ⊢; simp [codL, two] at ih ⊢; omega
theorem len_blank (k : Nat) : (blank k).length = 2 * k := by simp [blank]; omega
theorem lpunched_b {l : List Nat} (hl : l.length ≤ 10000) (hg : ∀ c ∈ l, Gd c) (i : Nat) (a : List D) (s3 s4 s5 : Slot) (h3 : fr s3 = true) (h4 : fr s4 = true) (h5 : fr s5 = true) (ha : a.length ≤ 10000) :
    ∃ s3' s4' s5', fr s3' = true ∧ fr s4' = true ∧ fr s5' = true ∧ b__law_punched_1 [.imm (.str (mk l)), .own a, .imm (.int (3 * (i : Int))), s3, s4, s5, .undef] = .next [.imm (.str (mk l)), .own (a ++ [.str (mk (card i (third l i)))]), .imm (.int (3 * (i : Int))), s3', s4', s5', .undef] := by
  generalize ho : b__law_punched_1 [.imm (.str (mk l)), .own a, .imm (.int (3 * (i : Int))), s3, s4, s5, .undef] = o
  unfold b__law_punched_1 at ho
  have h3l := len_third l i
  have hl' : l.length ≤ 16777216 := by omega
  have b1 : (third l i).length ≤ 16777216 := by omega
  have b2 : 2 + 2 * (third l i).length ≤ 16777216 := by omega
  have b3 : (3 - ((third l i).length : Int)) ≤ 1000000 ∧ -1000000 ≤ (3 - ((third l i).length : Int)) := by omega
  have b6 := len_blank (3 - (third l i).length)
  have b5 : 2 * (third l i).length + 1 + 1 + (blank (3 - (third l i).length)).length ≤ 16777216 := by omega
  have b4 : a.length < 16777216 := by omega
  simp [h3, h4, h5, hl', cut3, str3, lpunched_c (len_third l i) (Gd_third hg i), join_codes h3l, len_codes, b1, b2, b3, rep3, b4, b5] at ho
  subst ho
  exact ⟨.imm (.str (mk (third l i))), .imm (.int ((i : Int) % 100)), .imm (.str (mk [48 + i % 100 / 10, 48 + i % 10])), rfl, rfl, rfl, by simp [card, two]⟩
def cardsD (l : List Nat) (k : Nat) : List D := (List.range k).map fun i => .str (mk (card i (third l i)))
theorem cardsD_succ (l : List Nat) (k : Nat) : cardsD l (k + 1) = cardsD l k ++ [.str (mk (card k (third l k)))] := by
  unfold cardsD
  rw [List.range_succ, List.map_append]
  rfl
theorem cardsD_len (l : List Nat) (k : Nat) : (cardsD l k).length = k := by simp [cardsD]
theorem tD_deck (l : List Nat) : PyData.tuple (cardsD l ((l.length + 2) / 3)) = tD (deck l) := by
  unfold tD deck cardsD
  rw [List.map_map]
  rfl
theorem deck_loop_e {body : Rho → Out} {l : List Nat} (hl : l.length ≤ 3000) (ρ : Rho) (h0 : ρ[0]? = some (.imm (.str (mk l)))) : dFor (dRng3 (dC (.int 0)) (d1 dLen (dImm 0)) (dC (.int 3))) (bName 2) body ρ = dLoop (bName 2) body (rgD 0 3 ((l.length + 2) / 3)) ρ := by
  have r := rng3 l.length (by omega)
  have hz : l.length ≤ 16777216 := by omega
  have e : dRng3 (dC (.int 0)) (d1 dLen (dImm 0)) (dC (.int 3)) ρ = .ok (rgD 0 3 ((l.length + 2) / 3)) ρ := by
    rw [← r.2]
    exact dRng3_v rfl (by simp [h0, hz]) rfl (by decide) (by decide) r.1
  unfold dFor
  rw [e]
  rfl
theorem deck_loop {body : Rho → Out} {l : List Nat} (hl : l.length ≤ 3000)
    (hb : ∀ (i : Nat) (a : List D) (s3 s4 s5 : Slot), fr s3 = true → fr s4 = true → fr s5 = true → a.length ≤ 10000 →
      ∃ s3' s4' s5', fr s3' = true ∧ fr s4' = true ∧ fr s5' = true ∧ body [.imm (.str (mk l)), .own a, .imm (.int (3 * (i : Int))), s3, s4, s5, .undef] = .next [.imm (.str (mk l)), .own (a ++ [.str (mk (card i (third l i)))]), .imm (.int (3 * (i : Int))), s3', s4', s5', .undef]) :
    ∃ s2 s3 s4 s5, dFor (dRng3 (dC (.int 0)) (d1 dLen (dImm 0)) (dC (.int 3))) (bName 2) body [.imm (.str (mk l)), .own [], .undef, .undef, .undef, .undef, .undef] = .next [.imm (.str (mk l)), .own (cardsD l ((l.length + 2) / 3)), s2, s3, s4, s5, .undef] := by
  have r := rng3 l.length (by omega)
  have hz : l.length ≤ 16777216 := by omega
  rw [deck_loop_e hl _ rfl]
  obtain ⟨ρ', h1, h2⟩ := dLoop_inv (bind := bName 2) (body := body) (fun k ρ => ∃ s2 s3 s4 s5, fr s2 = true ∧ fr s3 = true ∧ fr s4 = true ∧ fr s5 = true ∧ ρ = [.imm (.str (mk l)), .own (cardsD l k), s2, s3, s4, s5, .undef]) (rgD 0 3 ((l.length + 2) / 3)) 0 [.imm (.str (mk l)), .own [], .undef, .undef, .undef, .undef, .undef] ⟨_, _, _, _, rfl, rfl, rfl, rfl, rfl⟩ (by
    intro i d ρ hd hp
    obtain ⟨hi, rfl⟩ := rgD_get hd
    obtain ⟨s2, s3, s4, s5, f2, f3, f4, f5, rfl⟩ := hp
    obtain ⟨s3', s4', s5', g3, g4, g5, hb⟩ := hb i (cardsD l (0 + i)) s3 s4 s5 f3 f4 f5 (by rw [cardsD_len]; omega)
    refine ⟨[.imm (.str (mk l)), .own (cardsD l (0 + i)), .imm (.int (3 * (i : Int))), s3, s4, s5, .undef], _, by simp [f2, Int.mul_comm], hb, ⟨.imm (.int (3 * (i : Int))), s3', s4', s5', rfl, g3, g4, g5, by rw [cardsD_succ, Nat.zero_add]⟩⟩)
  obtain ⟨s2, s3, s4, s5, _, _, _, _, rfl⟩ := h2
  rw [h1, rgD_len]
  exact ⟨s2, s3, s4, s5, by simp⟩
theorem lpunched_v {l : List Nat} (hl : l.length ≤ 3000) (hg : ∀ c ∈ l, Gd c) (ρ : Rho) : callD 7 d__law_punched none [.str (mk l)] ρ = .ok (.v (tD (deck l))) ρ := by
  refine call_v ?_ ρ
  obtain ⟨s2, s3, s4, s5, h⟩ := deck_loop hl (body := b__law_punched_1) fun i a s3 s4 s5 h3 h4 h5 ha => lpunched_b (by omega) hg i a s3 s4 s5 h3 h4 h5 ha
  have h' : f__law_punched_1 [.imm (.str (mk l)), .own [], .undef, .undef, .undef, .undef, .undef] = _ := h
  rw [← tD_deck]
  simp [d__law_punched, h']
theorem raw_c {l : List Nat} (hl : l.length ≤ 10000) (hg : ∀ c ∈ l, Gd c) (i : Nat) (s1 s3 s4 s5 : Slot) :
    c_raw_text_deck_1 [.imm (.str (mk l)), s1, .imm (.int (3 * (i : Int))), s3, s4, s5, .undef] = .ok ((third l i).map fun c => .str (mk (codL c))) [.imm (.str (mk l)), s1, .imm (.int (3 * (i : Int))), s3, s4, s5, .undef] := by
  have h3l := len_third l i
  have hz : l.length ≤ 16777216 := by omega
  unfold c_raw_text_deck_1
  exact dLc_pure (g := fun c => .str (mk [c])) _ (by simp [cut3, hz]) rfl rfl (by omega) fun c hc => by simp [code_v (Gd_third hg i c hc)]
theorem raw_b {l : List Nat} (hl : l.length ≤ 10000) (hg : ∀ c ∈ l, Gd c) (i : Nat) (a : List D) (s3 s4 s5 : Slot) (h3 : fr s3 = true) (h4 : fr s4 = true) (h5 : fr s5 = true) (ha : a.length ≤ 10000) :
    ∃ s3' s4' s5', fr s3' = true ∧ fr s4' = true ∧ fr s5' = true ∧ b_raw_text_deck_1 [.imm (.str (mk l)), .own a, .imm (.int (3 * (i : Int))), s3, s4, s5, .undef] = .next [.imm (.str (mk l)), .own (a ++ [.str (mk (card i (third l i)))]), .imm (.int (3 * (i : Int))), s3', s4', s5', .undef] := by
  generalize ho : b_raw_text_deck_1 [.imm (.str (mk l)), .own a, .imm (.int (3 * (i : Int))), s3, s4, s5, .undef] = o
  unfold b_raw_text_deck_1 at ho
  have h3l := len_third l i
  have hl' : l.length ≤ 16777216 := by omega
  have b1 : (third l i).length ≤ 16777216 := by omega
  have b2 : 2 + 2 * (third l i).length ≤ 16777216 := by omega
  have b3 : (3 - ((third l i).length : Int)) ≤ 1000000 ∧ -1000000 ≤ (3 - ((third l i).length : Int)) := by omega
  have b6 := len_blank (3 - (third l i).length)
  have b5 : 2 * (third l i).length + 1 + 1 + (blank (3 - (third l i).length)).length ≤ 16777216 := by omega
  have b4 : a.length < 16777216 := by omega
  simp [h3, h4, h5, hl', cut3, fig3, raw_c hl hg i, join_codes h3l, len_codes, b1, b2, b3, rep3, b4, b5] at ho
  subst ho
  exact ⟨_, _, _, rfl, rfl, rfl, by simp [card, two]; exact ⟨rfl, rfl, rfl⟩⟩
theorem raw_v {l : List Nat} (hl : l.length ≤ 3000) (hg : ∀ c ∈ l, Gd c) (ρ : Rho) : callD 7 d_raw_text_deck none [.str (mk l)] ρ = .ok (.v (tD (deck l))) ρ := by
  refine call_v ?_ ρ
  obtain ⟨s2, s3, s4, s5, h⟩ := deck_loop hl (body := b_raw_text_deck_1) fun i a s3 s4 s5 h3 h4 h5 ha => raw_b (by omega) hg i a s3 s4 s5 h3 h4 h5 ha
  have h' : f_raw_text_deck_1 [.imm (.str (mk l)), .own [], .undef, .undef, .undef, .undef, .undef] = _ := h
  rw [← tD_deck]
  simp [d_raw_text_deck, h']
theorem check_text_v {l : List Nat} (h : l.length ≤ 20000) (ρ : Rho) : callD 1 d_check_text none [.str (mk l)] ρ = .ok (.v .none) ρ := by
  refine call_none ?_ ρ
  have h2 : l.length ≤ 16777216 := by omega
  have h3 : ¬ (20000 : Int) < (l.length : Int) := by omega
  simp [d_check_text, h2, h3, isStr]
theorem check_text_e {d : D} (h : isStr d = false ∨ ∃ l : List Nat, d = .str (mk l) ∧ 20000 < l.length ∧ l.length ≤ 16777216) (ρ : Rho) : callD 1 d_check_text none [d] ρ = .err ⟨mk [78, 111, 84, 101, 120, 116], []⟩ ρ := by
  refine call_err ?_ ρ
  rcases h with h | ⟨l, rfl, h1, h2⟩
  · simp [d_check_text, h]
  · have h3 : (20000 : Int) < (l.length : Int) := by omega
    simp [d_check_text, h2, h3, isStr]
theorem text_c {l : List Nat} (hl : l.length ≤ 20000) (hg : ∀ c ∈ l, Gd c) (s2 : Slot) : c_text_deck_1 [.imm (.str (mk l)), .undef, s2] = .ok (l.map fun _ => .bool true) [.imm (.str (mk l)), .undef, s2] := by
  unfold c_text_deck_1
  exact dLc_pure (g := fun c => .str (mk [c])) _ (by simp) rfl rfl (by omega) fun c hc => by simp [coded_v (hg c hc)]
theorem all_true {α : Type} (l : List α) : dAll (.list (l.map fun _ => .bool true)) = some (.bool true) := by
  rw [dAll_map l fun _ => true]
  simp
theorem text_v {l : List Nat} (hl : l.length ≤ 1200) (hg : ∀ c ∈ l, Gd c) (ρ : Rho) : callD 3 d_text_deck none [.str (mk l)] ρ = .ok (.v (tD (deck l))) ρ := by
  refine call_v ?_ ρ
  have h2 : l.length ≤ 16777216 := by omega
  have h3 : ¬ (1200 : Int) < (l.length : Int) := by omega
  have hm : CMul 3 400 := .inl (by decide)
  simp [d_text_deck, check_text_v (show l.length ≤ 20000 by omega), text_c (show l.length ≤ 20000 by omega) hg, all_true, h2, h3, hm, raw_v (show l.length ≤ 3000 by omega) hg]
theorem text_many {l : List Nat} (h1 : 1200 < l.length) (hl : l.length ≤ 20000) (hg : ∀ c ∈ l, Gd c) (ρ : Rho) : callD 3 d_text_deck none [.str (mk l)] ρ = .err ⟨mk [84, 111, 111, 77, 97, 110, 121], [(mk [109, 111, 115, 116], .int 1200)]⟩ ρ := by
  refine call_err ?_ ρ
  have h2 : l.length ≤ 16777216 := by omega
  have h3 : (1200 : Int) < (l.length : Int) := by omega
  have hm : CMul 3 400 := .inl (by decide)
  simp [d_text_deck, check_text_v hl, text_c hl hg, all_true, h2, h3, hm]
theorem text_bad {d : D} (h : isStr d = false ∨ ∃ l : List Nat, d = .str (mk l) ∧ 20000 < l.length ∧ l.length ≤ 16777216) (ρ : Rho) : callD 3 d_text_deck none [d] ρ = .err ⟨mk [78, 111, 84, 101, 120, 116], []⟩ ρ := by
  refine call_err ?_ ρ
  simp [d_text_deck, check_text_e h]
/-! ### cards -/
def SG : List Nat := [48, 49, 50, 51, 52, 53, 54, 55, 56, 57, 120, 46]
def cardB : D → Bool
  | .str s => decide (s.length = 8) && s.cps.toList.all (fun c => decide (c ∈ SG))
  | _ => false
theorem few_v {d : D} (ρ : Rho) (m : Int) : (∀ ds, d = .tuple ds → callD 2 d_is_few none [d, .int m] ρ = .ok (.v (.bool (decide ((ds.length : Int) ≤ m)))) ρ) ∧ (isTup d = false → callD 2 d_is_few none [d, .int m] ρ = .ok (.v (.bool false)) ρ) := by
  refine ⟨fun ds e => ?_, fun h => ?_⟩
  · subst e
    refine call_v ?_ ρ
    simp [d_is_few, isTup]
  · refine call_v ?_ ρ
    simp [d_is_few, h]
theorem card_v {d : D} (hd : ∀ s, d = .str s → s.length ≤ 16777216) (ρ : Rho) : callD 3 d_raw_is_card none [.int 8, d] ρ = .ok (.v (.bool (cardB d))) ρ := by
  refine call_v ?_ ρ
  by_cases hs : isStr d = true
  · obtain ⟨s, rfl⟩ : ∃ s, d = .str s := by cases d <;> first | exact ⟨_, rfl⟩ | cases hs
    obtain ⟨l, rfl⟩ : ∃ l, s = mk l := ⟨_, str_mk s⟩
    have h2 : l.length ≤ 16777216 := by simpa using hd _ rfl
    by_cases h8 : l.length = 8
    · have e : c_raw_is_card_1 [.imm (.int 8), .imm (.str (mk l)), .undef] = .ok (l.map fun c => .bool (decide (c ∈ SG))) [.imm (.int 8), .imm (.str (mk l)), .undef] := by
        unfold c_raw_is_card_1
        exact dLc_pure (g := fun c => .str (mk [c])) _ (by simp) rfl rfl (by omega) fun c hc => by simp [SG]
      have h8' : (l.length : Int) = 8 := by omega
      simp [d_raw_is_card, isStr, h2, h8', e, cardB, h8, dAll_map]
    · have h8' : ¬ (l.length : Int) = 8 := by omega
      simp [d_raw_is_card, isStr, h2, h8', cardB, h8]
  · have e : cardB d = false := by cases d <;> first | rfl | exact absurd rfl hs
    simp only [Bool.not_eq_true] at hs
    simp [d_raw_is_card, hs, e]
theorem deck_c {ds : List D} (hl : ds.length ≤ 400) (hd : ∀ d ∈ ds, ∀ s, d = .str s → s.length ≤ 16777216) : c_raw_is_deck_1 [.imm (.int 8), .imm (.tuple ds), .undef] = .ok (ds.map fun d => .bool (cardB d)) [.imm (.int 8), .imm (.tuple ds), .undef] := by
  unfold c_raw_is_deck_1
  exact dLc_pure (g := fun d => d) _ (by simp) rfl rfl (by omega) fun d h => by simp [card_v (hd d h)]
theorem rawdeck_v {ds : List D} (hd : ∀ d ∈ ds, ∀ s, d = .str s → s.length ≤ 16777216) (ρ : Rho) : callD 3 d_raw_is_deck none [.int 8, .tuple ds] ρ = .ok (.v (.bool (decide (ds.length ≤ 400) && ds.all cardB))) ρ := by
  refine call_v ?_ ρ
  have f := fun ρ => (few_v (d := .tuple ds) ρ 400).1 ds rfl
  by_cases h : ds.length ≤ 400
  · have h' : (ds.length : Int) ≤ 400 := by omega
    simp [d_raw_is_deck, f, h, h', deck_c h hd, dAll_map]
  · have h' : ¬ (ds.length : Int) ≤ 400 := by omega
    simp [d_raw_is_deck, f, h, h']
theorem rawdeck_n {d : D} (h : isTup d = false) (ρ : Rho) : callD 3 d_raw_is_deck none [.int 8, d] ρ = .ok (.v (.bool false)) ρ := by
  refine call_v ?_ ρ
  simp [d_raw_is_deck, fun ρ => (few_v (d := d) ρ 400).2 h]
theorem integer_v (i : Int) (ρ : Rho) : callD 1 d_is_integer none [.int i] ρ = .ok (.v (.bool true)) ρ := by
  refine call_v ?_ ρ
  simp [d_is_integer, isInt, isBool]
theorem within_v (i a b : Int) (ρ : Rho) : callD 3 d_is_within none [.int i, .int a, .int b] ρ = .ok (.v (.bool (decide (a ≤ i) && decide (i ≤ b)))) ρ := by
  refine call_v ?_ ρ
  by_cases h : a ≤ i <;> simp [d_is_within, integer_v, h]
theorem width_v (ρ : Rho) : callD 1 d_check_width none [.int 8] ρ = .ok (.v .none) ρ := by
  refine call_none ?_ ρ
  have h : ∀ ρ, callD 1 d_is_width none [.int 8] ρ = .ok (.v (.bool true)) ρ := fun ρ => by
    refine call_v ?_ ρ
    simp [d_is_width, within_v]
  simp [d_check_width, h]
theorem isdeck_v {ds : List D} (hd : ∀ d ∈ ds, ∀ s, d = .str s → s.length ≤ 16777216) (ρ : Rho) : callD 2 d_is_deck none [.int 8, .tuple ds] ρ = .ok (.v (.bool (decide (ds.length ≤ 400) && ds.all cardB))) ρ := by
  refine call_v ?_ ρ
  simp [d_is_deck, width_v, rawdeck_v hd]
/-! ### signs read back -/
def dg (a : Nat) : Bool := decide (48 ≤ a) && decide (a ≤ 57)
theorem dg_mem (a : Nat) : decide (a ∈ [48, 49, 50, 51, 52, 53, 54, 55, 56, 57]) = dg a := by
  unfold dg
  rw [Bool.eq_iff_iff]
  simp
  omega
theorem sidx_v {a : Nat} (h : dg a = true) : dSIdx (.str (mk [48, 49, 50, 51, 52, 53, 54, 55, 56, 57])) (.str (mk [a])) = some (.int ((a - 48 : Nat) : Int)) := by
  have key : ∀ k : Fin 10, (Builtin.Str.occurrences (mk [48, 49, 50, 51, 52, 53, 54, 55, 56, 57]) (mk [48 + k.val]) 0 10 1).head? = some k.val := by decide +kernel
  unfold dg at h
  simp at h
  have k := key ⟨a - 48, by omega⟩
  have e : 48 + (a - 48) = a := by omega
  simp only [e] at k
  have : dSIdx (.str (mk [48, 49, 50, 51, 52, 53, 54, 55, 56, 57])) (.str (mk [a])) = (Builtin.Str.occurrences (mk [48, 49, 50, 51, 52, 53, 54, 55, 56, 57]) (mk [a]) 0 10 1).head?.map fun i => .int (i : Nat) := rfl
  rw [this, k]
  rfl
def numP (a b : Nat) : Nat := 10 * (a - 48) + (b - 48)
def signP (a b : Nat) : Option Nat := if dg a && dg b then (if 95 < numP a b then none else some (if numP a b = 95 then 10 else numP a b + 32)) else none
def sgD : Option Nat → D
  | none => .none
  | some c => .str (mk [c])
theorem table_v (n : Nat) (h : n < 95) : atI ([32, 33, 34, 35, 36, 37, 38, 39, 40, 41, 42, 43, 44, 45, 46, 47, 48, 49, 50, 51, 52, 53, 54, 55, 56, 57, 58, 59, 60, 61, 62, 63, 64] ++ [65, 66, 67, 68, 69, 70, 71, 72, 73, 74, 75, 76, 77, 78, 79, 80, 81, 82, 83, 84, 85, 86, 87, 88, 89, 90, 91, 92, 93, 94, 95, 96, 97, 98, 99, 100, 101, 102, 103, 104, 105, 106, 107, 108, 109, 110, 111, 112, 113, 114, 115, 116, 117, 118, 119, 120, 121, 122, 123, 124, 125, 126]) (n : Int) = some (n + 32) := by
  have key : ∀ k : Fin 95, (([32, 33, 34, 35, 36, 37, 38, 39, 40, 41, 42, 43, 44, 45, 46, 47, 48, 49, 50, 51, 52, 53, 54, 55, 56, 57, 58, 59, 60, 61, 62, 63, 64] ++ [65, 66, 67, 68, 69, 70, 71, 72, 73, 74, 75, 76, 77, 78, 79, 80, 81, 82, 83, 84, 85, 86, 87, 88, 89, 90, 91, 92, 93, 94, 95, 96, 97, 98, 99, 100, 101, 102, 103, 104, 105, 106, 107, 108, 109, 110, 111, 112, 113, 114, 115, 116, 117, 118, 119, 120, 121, 122, 123, 124, 125, 126]) : List Nat)[k.val]? = some (k.val + 32) := by decide +kernel
  rw [atI_nat]
  exact key ⟨n, h⟩
theorem sign_c (a b : Nat) (s1 : Slot) : c_sign_of_1 [.imm (.str (mk [a, b])), s1, .undef] = (.ok [.bool (dg a), .bool (dg b)] [.imm (.str (mk [a, b])), s1, .undef]) := by
  unfold c_sign_of_1
  exact dLc_pure (ds := [a, b]) (g := fun c => .str (mk [c])) (fun c => .bool (dg c)) (by simp) rfl rfl (by simp) fun c hc => by simp [← dg_mem]
theorem sign_v (a b : Nat) (ρ : Rho) : callD 3 d_sign_of none [.str (mk [a, b])] ρ = .ok (.v (sgD (signP a b))) ρ := by
  refine call_v ?_ ρ
  by_cases h : dg a = true ∧ dg b = true
  · obtain ⟨ha, hb⟩ := h
    have e0 : atI [a, b] 0 = some a := rfl
    have e1 : atI [a, b] 1 = some b := rfl
    have hm : ∀ x, CMul 10 x := fun x => .inl (by decide)
    have hall : dAll (.list [.bool true, .bool true]) = some (.bool true) := rfl
    have en : (10 : Int) * ((a - 48 : Nat) : Int) + ((b - 48 : Nat) : Int) = (numP a b : Nat) := by unfold numP; omega
    by_cases hn : 95 < numP a b
    · have hn' : (95 : Int) < (numP a b : Nat) := by omega
      simp [d_sign_of, sign_c, ha, hb, e0, e1, sidx_v, hm, signP, hn, sgD, hall, en, hn']
    · have hn' : ¬ (95 : Int) < (numP a b : Nat) := by omega
      by_cases hf : numP a b = 95
      · simp [d_sign_of, sign_c, ha, hb, e0, e1, sidx_v, hm, signP, hn, sgD, hall, en, hn', hf]
      · have hf' : ¬ ((numP a b : Nat) : Int) = 95 := by omega
        have ht := table_v (numP a b) (by omega)
        simp only [List.cons_append, List.nil_append] at ht
        simp [d_sign_of, sign_c, ha, hb, e0, e1, sidx_v, hm, signP, hn, sgD, hall, en, hn', hf, hf', ht]
  · have hs : signP a b = none := by unfold signP; simp at h ⊢; exact fun h1 h2 => absurd h2 (by simp [h h1])
    have hall : dAll (.list [.bool (dg a), .bool (dg b)]) = some (.bool (dg a && dg b)) := by
      have := dAll_map [a, b] dg
      simp only [List.map_cons, List.map_nil, List.all_cons, List.all_nil, Bool.and_true] at this
      exact this
    have hh : (dg a && dg b) = false := by simp at h ⊢; exact h
    simp [d_sign_of, sign_c, hs, sgD, hall, hh]
/-! ### what a card tells -/
def pD (p : Nat × Nat) : D := .str (mk [p.1, p.2])
def strip (ps : List (Nat × Nat)) : List (Nat × Nat) := (ps.reverse.dropWhile (fun p => p == (46, 46))).reverse
theorem strip_nil : strip [] = [] := rfl
theorem strip_end (qs : List (Nat × Nat)) : strip (qs ++ [(46, 46)]) = strip qs := by simp [strip]
theorem strip_other (qs : List (Nat × Nat)) (q : Nat × Nat) (h : q ≠ (46, 46)) : strip (qs ++ [q]) = qs ++ [q] := by simp [strip, h]
theorem atI_end {α : Type} (xs : List α) (x : α) : atI (xs ++ [x]) (-1) = some x := by
  have := atI_last (xs ++ [x]) 1 (by omega) (by simp)
  simpa using this
theorem strip_w (s0 s1 s3 s4 s5 : Slot) : ∀ (n : Nat) (ps : List (Nat × Nat)), ps.length < n →
    dWhile (dAnd (dBool (dOp (dCmp fun i j => decide (j < i)) (d1 dLen (dRd 2)) (dC (.int 0)))) (dBool (dOp dEq (dOpR dIx 2 (d1 dNeg (dC (.int 1)))) (dC (.str (PySem.Str.ofString "..")))))) b_share_of_1 n [s0, s1, .own (ps.map pD), s3, s4, s5] = .next [s0, s1, .own ((strip ps).map pD), s3, s4, s5]
  | 0, _, h => absurd h (by omega)
  | n + 1, ps, h => by
    unfold dWhile
    rcases List.eq_nil_or_concat ps with rfl | ⟨qs, q, rfl⟩
    · simp [strip_nil]
    · have hp : (0 : Int) < ((qs.length + 1 : Nat) : Int) := by omega
      have hp2 : (0 : Int) < (qs.length : Int) + 1 := by omega
      obtain ⟨a, b⟩ := q
      by_cases hq : a = 46 ∧ b = 46
      · obtain ⟨rfl, rfl⟩ := hq
        have ih := strip_w s0 s1 s3 s4 s5 n qs (by simp at h; omega)
        rw [List.concat_eq_append, strip_end]
        simp [atI_end, pD, hp2, b_share_of_1] at ih ⊢
        exact ih
      · have hq2 : ¬ ((a, b) : Nat × Nat) = (46, 46) := by simpa using hq
        rw [List.concat_eq_append, strip_other _ _ hq2]
        by_cases ha : a = 46
        · have hb : ¬ b = 46 := fun e => hq ⟨ha, e⟩
          simp [atI_end, pD, hp2, ha, hb]
        · simp [atI_end, pD, hp2, ha]
def goS : List (Nat × Nat) → List Nat → Option (List Nat)
  | [], acc => some acc
  | (a, b) :: r, acc => match signP a b with
    | none => none
    | some c => goS r (acc ++ [c])
def shD : Option (List Nat) → D
  | none => .none
  | some l => .str (mk l)
theorem goS_loop (s0 s2 s5 : Slot) : ∀ (ps : List (Nat × Nat)) (acc : List Nat) (s3 s4 : Slot), acc.length + ps.length ≤ 1000 → fr s3 = true → fr s4 = true →
    (∀ r, goS ps acc = some r → ∃ s3' s4', dLoop (bName 3) b_share_of_2 (ps.map pD) [s0, .imm (.str (mk acc)), s2, s3, s4, s5] = .next [s0, .imm (.str (mk r)), s2, s3', s4', s5]) ∧
    (goS ps acc = none → ∃ ρ', dLoop (bName 3) b_share_of_2 (ps.map pD) [s0, .imm (.str (mk acc)), s2, s3, s4, s5] = .ret .none ρ')
  | [], acc, s3, s4, _, _, _ => ⟨fun r h => (by cases h; exact ⟨s3, s4, rfl⟩), fun h => (by cases h)⟩
  | (a, b) :: ps, acc, s3, s4, hl, h3, h4 => by
    have hsum : acc.length + 1 ≤ 16777216 := by simp at hl; omega
    have eb : bName 3 (pD (a, b)) [s0, .imm (.str (mk acc)), s2, s3, s4, s5] = some [s0, .imm (.str (mk acc)), s2, .imm (.str (mk [a, b])), s4, s5] := by simp [h3, pD]
    cases e : signP a b with
    | none =>
      have ebd : ∃ ρ', b_share_of_2 [s0, .imm (.str (mk acc)), s2, .imm (.str (mk [a, b])), s4, s5] = .ret .none ρ' := by simp [b_share_of_2, sign_v, e, sgD, h4]
      obtain ⟨ρ', ebd⟩ := ebd
      have eg : goS ((a, b) :: ps) acc = none := by unfold goS; rw [e]
      refine ⟨fun r h => (by rw [eg] at h; cases h), fun _ => ⟨ρ', ?_⟩⟩
      rw [List.map_cons]
      unfold dLoop
      rw [eb]
      simp only
      rw [ebd]
    | some c =>
      have ebd : b_share_of_2 [s0, .imm (.str (mk acc)), s2, .imm (.str (mk [a, b])), s4, s5] = .next [s0, .imm (.str (mk (acc ++ [c]))), s2, .imm (.str (mk [a, b])), .imm (.str (mk [c])), s5] := by simp [b_share_of_2, sign_v, e, sgD, h4, hsum]
      have eg : goS ((a, b) :: ps) acc = goS ps (acc ++ [c]) := by
        show (match signP a b with | none => none | some c => goS ps (acc ++ [c])) = _
        rw [e]
      have ed : dLoop (bName 3) b_share_of_2 (((a, b) :: ps).map pD) [s0, .imm (.str (mk acc)), s2, s3, s4, s5] = dLoop (bName 3) b_share_of_2 (ps.map pD) [s0, .imm (.str (mk (acc ++ [c]))), s2, .imm (.str (mk [a, b])), .imm (.str (mk [c])), s5] := by
        rw [List.map_cons]
        show (match bName 3 (pD (a, b)) [s0, .imm (.str (mk acc)), s2, s3, s4, s5] with | none => Out.bad | some ρ1 => match b_share_of_2 ρ1 with | .next ρ2 => dLoop (bName 3) b_share_of_2 (ps.map pD) ρ2 | .cont ρ2 => dLoop (bName 3) b_share_of_2 (ps.map pD) ρ2 | .brk ρ2 => .next ρ2 | o => o) = _
        rw [eb]
        simp only
        rw [ebd]
      rw [eg, ed]
      exact goS_loop s0 s2 s5 ps (acc ++ [c]) _ _ (by simp at hl ⊢; omega) rfl rfl
def readC (x y a b c d e f : Nat) : Option (List Nat) := goS (strip [(a, b), (c, d), (e, f)]) []
theorem share_c (x y a b c d e f : Nat) (s1 s2 s3 s4 : Slot) : c_share_of_1 [.imm (.str (mk [x, y, a, b, c, d, e, f])), s1, s2, s3, s4, .undef] = .ok ([(a, b), (c, d), (e, f)].map pD) [.imm (.str (mk [x, y, a, b, c, d, e, f])), s1, s2, s3, s4, .undef] := by
  unfold c_share_of_1
  have h1 : cutD [x, y, a, b, c, d, e, f] (some 2) (some 4) = [a, b] := cutD_nn [x, y, a, b, c, d, e, f] 2 4
  have h2 : cutD [x, y, a, b, c, d, e, f] (some 4) (some 6) = [c, d] := cutD_nn [x, y, a, b, c, d, e, f] 4 6
  have h3 : cutD [x, y, a, b, c, d, e, f] (some 6) (some 8) = [e, f] := cutD_nn [x, y, a, b, c, d, e, f] 6 8
  have := dLc_pure (v := 5) (elt := dSl (dImm 0) (dSm (dImm 5)) (dSm (dOp dAdd (dImm 5) (dC (.int 2))))) (it := dRng3 (dC (.int 2)) (dC (.int 8)) (dC (.int 2))) (ρ0 := [.imm (.str (mk [x, y, a, b, c, d, e, f])), s1, s2, s3, s4, .undef]) (g := fun i : Int × (Nat × Nat) => .int i.1) (ds := [(2, (a, b)), (4, (c, d)), (6, (e, f))]) (fun i => pD i.2) (ρ := [.imm (.str (mk [x, y, a, b, c, d, e, f])), s1, s2, s3, s4, .undef]) (s := .undef)
    (dRng3_v rfl rfl rfl (by decide) (by decide) (by decide)) rfl rfl (by simp) (fun i hi => by
      simp only [List.mem_cons, List.not_mem_nil, or_false] at hi
      rcases hi with rfl | rfl | rfl <;> simp [h1, h2, h3, pD])
  exact this
theorem strip_len : ∀ ps : List (Nat × Nat), (strip ps).length ≤ ps.length := fun ps => by
  unfold strip
  rw [List.length_reverse]
  have := (List.dropWhile_sublist (fun p : Nat × Nat => p == (46, 46)) (l := ps.reverse)).length_le
  simpa using this
theorem share_v (x y a b c d e f : Nat) (ρ : Rho) : callD 6 d_share_of none [.str (mk [x, y, a, b, c, d, e, f])] ρ = .ok (.v (shD (readC x y a b c d e f))) ρ := by
  refine call_v ?_ ρ
  have hw : w_share_of_1 [.imm (.str (mk [x, y, a, b, c, d, e, f])), .imm (.str (mk [])), .own ([(a, b), (c, d), (e, f)].map pD), .undef, .undef, .undef] = .next [.imm (.str (mk [x, y, a, b, c, d, e, f])), .imm (.str (mk [])), .own ((strip [(a, b), (c, d), (e, f)]).map pD), .undef, .undef, .undef] := strip_w _ _ _ _ _ 100000 _ (by simp)
  have hl := strip_len [(a, b), (c, d), (e, f)]
  have L := goS_loop (.imm (.str (mk [x, y, a, b, c, d, e, f]))) (.imm (.list ((strip [(a, b), (c, d), (e, f)]).map pD))) .undef (strip [(a, b), (c, d), (e, f)]) [] .undef .undef (by simp at hl ⊢; omega) rfl rfl
  unfold readC
  rw [List.map_cons, List.map_cons, List.map_cons, List.map_nil] at hw
  have hc := share_c x y a b c d e f .undef .undef .undef .undef
  rw [List.map_cons, List.map_cons, List.map_cons, List.map_nil] at hc
  cases hg : goS (strip [(a, b), (c, d), (e, f)]) [] with
  | none =>
    obtain ⟨ρ', h⟩ := L.2 hg
    simp [d_share_of, hc, hw, f_share_of_1, h, shD]
  | some r =>
    obtain ⟨s3, s4, h⟩ := L.1 r hg
    simp [d_share_of, hc, hw, f_share_of_1, h, shD]
def readL : List Nat → Option (List Nat)
  | [x, y, a, b, c, d, e, f] => readC x y a b c d e f
  | _ => none
theorem share_l {c : List Nat} (h : c.length = 8) (ρ : Rho) : callD 6 d_share_of none [.str (mk c)] ρ = .ok (.v (shD (readL c))) ρ := by
  match c, h with
  | [x, y, a, b, c, d, e, f], _ => exact share_v x y a b c d e f ρ
theorem goS_len : ∀ (ps : List (Nat × Nat)) (acc r : List Nat), goS ps acc = some r → r.length = acc.length + ps.length
  | [], acc, r, h => by cases h; rfl
  | (a, b) :: ps, acc, r, h => by
    unfold goS at h
    cases e : signP a b with
    | none => rw [e] at h; cases h
    | some c =>
      rw [e] at h
      have := goS_len ps (acc ++ [c]) r h
      simp at this ⊢
      omega
theorem readL_len {c s : List Nat} (h : readL c = some s) : s.length ≤ 3 := by
  unfold readL at h
  split at h
  · rename_i x y a b c d e f
    have h1 := goS_len _ _ _ h
    have h2 := strip_len [(a, b), (c, d), (e, f)]
    simp at h1 h2
    omega
  · cases h
def okCard (n i : Nat) (c : List Nat) : Option (List Nat) := match readL c with
  | none => none
  | some s => if c.take 2 = two (i % 100) ∧ s ≠ [] ∧ ¬ (s.length < 3 ∧ i + 1 < n) then some s else none
def goT (n : Nat) : Nat → List (List Nat) → List Nat → Except Nat (List Nat)
  | _, [], acc => .ok acc
  | i, c :: r, acc => match okCard n i c with
    | none => .error i
    | some s => goT n (i + 1) r (acc ++ s)
def badCard (i : Nat) : Ex := ⟨mk [66, 97, 100, 67, 97, 114, 100], [(mk [99, 97, 114, 100], .int (i : Int))]⟩
theorem read_b {ds : List D} {c : List Nat} (hc : c.length = 8) (i : Nat) (acc : List Nat) (ha : acc.length ≤ 100000) (s4 s5 : Slot) (h4 : fr s4 = true) (h5 : fr s5 = true) :
    (∀ s, okCard ds.length i c = some s → ∃ s4' s5', fr s4' = true ∧ fr s5' = true ∧ b_raw_deck_text_1 [.imm (.tuple ds), .imm (.str (mk acc)), .imm (.int (i : Int)), .imm (.str (mk c)), s4, s5] = .next [.imm (.tuple ds), .imm (.str (mk (acc ++ s))), .imm (.int (i : Int)), .imm (.str (mk c)), s4', s5']) ∧
    (okCard ds.length i c = none → ∃ ρ', b_raw_deck_text_1 [.imm (.tuple ds), .imm (.str (mk acc)), .imm (.int (i : Int)), .imm (.str (mk c)), s4, s5] = .err (badCard i) ρ') := by
  have hz : c.length ≤ 16777216 := by omega
  have ht : cutD c none (some 2) = c.take 2 := cutD_0n c 2
  have hi : ((i : Int) < (ds.length : Int) - 1) = (i + 1 < ds.length) := by rw [eq_iff_iff]; omega
  unfold okCard
  cases hr : readL c with
  | none =>
    refine ⟨fun s h => (by cases h), fun _ => ?_⟩
    by_cases h2 : c.take 2 = [48 + i % 100 / 10, 48 + i % 10]
    · simp [b_raw_deck_text_1, h4, h5, hz, ht, share_l hc, hr, shD, fig3, h2, badCard]
    · simp [b_raw_deck_text_1, h4, h5, hz, ht, share_l hc, hr, shD, fig3, h2, badCard]
  | some s =>
    have h3 := readL_len hr
    have hs : s.length ≤ 16777216 := by omega
    have hs2 : acc.length + s.length ≤ 16777216 := by omega
    have h3' : ((s.length : Int) < 3) = (s.length < 3) := by rw [eq_iff_iff]; omega
    have ht2 : two (i % 100) = [48 + i % 100 / 10, 48 + i % 10] := by simp [two]
    rw [ht2]
    by_cases h2 : c.take 2 = [48 + i % 100 / 10, 48 + i % 10]
    · by_cases h0 : s = []
      · subst h0
        simp [b_raw_deck_text_1, h4, h5, hz, ht, share_l hc, hr, shD, fig3, h2, badCard]
      · by_cases h1 : s.length < 3
        · by_cases hn : i + 1 < ds.length
          · simp [b_raw_deck_text_1, h4, h5, hz, ht, share_l hc, hr, shD, fig3, h2, badCard, h0, h1, hn, hs, h3', hi]
          · simp [b_raw_deck_text_1, h4, h5, hz, ht, share_l hc, hr, shD, fig3, h2, badCard, h0, h1, hn, hs, h3', hi, hs2]
        · simp [b_raw_deck_text_1, h4, h5, hz, ht, share_l hc, hr, shD, fig3, h2, badCard, h0, h1, hs, h3', hi, hs2]
    · simp [b_raw_deck_text_1, h4, h5, hz, ht, share_l hc, hr, shD, fig3, h2, badCard]
def okC (c : List Nat) : Prop := c.length = 8 ∧ ∀ x ∈ c, x ∈ SG
theorem numD_cons (i : Nat) (d : D) (ds : List D) : numD i (d :: ds) = .tuple [.int (i : Int), d] :: numD (i + 1) ds := rfl
theorem dLoop_cons (bind : Bd) (body : Rho → Out) (d : D) (ds : List D) (ρ ρ1 : Rho) (h : bind d ρ = some ρ1) : dLoop bind body (d :: ds) ρ = (match body ρ1 with | .next ρ2 => dLoop bind body ds ρ2 | .cont ρ2 => dLoop bind body ds ρ2 | .brk ρ2 => .next ρ2 | o => o) := by
  show (match bind d ρ with | none => Out.bad | some ρ1 => match body ρ1 with | .next ρ2 => dLoop bind body ds ρ2 | .cont ρ2 => dLoop bind body ds ρ2 | .brk ρ2 => .next ρ2 | o => o) = _
  rw [h]
theorem read_loop (ds : List D) : ∀ (cs : List (List Nat)) (i : Nat) (acc : List Nat) (s2 s3 s4 s5 : Slot), (∀ c ∈ cs, c.length = 8) → acc.length + 3 * cs.length ≤ 100000 → fr s2 = true → fr s3 = true → fr s4 = true → fr s5 = true →
    (∀ r, goT ds.length i cs acc = .ok r → ∃ s2' s3' s4' s5', dLoop (bTup (bCons (bName 2) (bCons (bName 3) (bNil)))) b_raw_deck_text_1 (numD i (cs.map fun c => .str (mk c))) [.imm (.tuple ds), .imm (.str (mk acc)), s2, s3, s4, s5] = .next [.imm (.tuple ds), .imm (.str (mk r)), s2', s3', s4', s5']) ∧
    (∀ k, goT ds.length i cs acc = .error k → ∃ ρ', dLoop (bTup (bCons (bName 2) (bCons (bName 3) (bNil)))) b_raw_deck_text_1 (numD i (cs.map fun c => .str (mk c))) [.imm (.tuple ds), .imm (.str (mk acc)), s2, s3, s4, s5] = .err (badCard k) ρ')
  | [], i, acc, s2, s3, s4, s5, _, _, _, _, _, _ => ⟨fun r h => (by cases h; exact ⟨s2, s3, s4, s5, rfl⟩), fun k h => (by cases h)⟩
  | c :: cs, i, acc, s2, s3, s4, s5, hc, hl, h2, h3, h4, h5 => by
    have hb : bTup (bCons (bName 2) (bCons (bName 3) (bNil))) (.tuple [.int (i : Int), .str (mk c)]) [.imm (.tuple ds), .imm (.str (mk acc)), s2, s3, s4, s5] = some [.imm (.tuple ds), .imm (.str (mk acc)), .imm (.int (i : Int)), .imm (.str (mk c)), s4, s5] := by
      simp [bCons, bNil, h2, h3]
    have B := read_b (ds := ds) (hc c (List.mem_cons_self ..)) i acc (by simp at hl; omega) s4 s5 h4 h5
    rw [List.map_cons, numD_cons, dLoop_cons _ _ _ _ _ _ hb]
    have eg : goT ds.length i (c :: cs) acc = (match okCard ds.length i c with | none => .error i | some s => goT ds.length (i + 1) cs (acc ++ s)) := rfl
    rw [eg]
    cases e : okCard ds.length i c with
    | none =>
      obtain ⟨ρ', hb2⟩ := B.2 e
      rw [hb2]
      exact ⟨fun r h => (by cases h), fun k h => (by cases h; exact ⟨_, rfl⟩)⟩
    | some s =>
      obtain ⟨s4', s5', f4, f5, hb2⟩ := B.1 s e
      rw [hb2]
      have hs3 : s.length ≤ 3 := by
        unfold okCard at e
        cases hr : readL c with
        | none => rw [hr] at e; cases e
        | some s' =>
          rw [hr] at e
          simp only at e
          split at e
          · cases e; exact readL_len hr
          · cases e
      exact read_loop ds cs (i + 1) (acc ++ s) _ _ s4' s5' (fun c' h => hc c' (List.mem_cons_of_mem _ h)) (by simp at hl ⊢; omega) rfl rfl f4 f5
theorem rawtext_v {cs : List (List Nat)} (hc : ∀ c ∈ cs, c.length = 8) (hl : cs.length ≤ 400) (ρ : Rho) : (∀ r, goT cs.length 0 cs [] = .ok r → callD 6 d_raw_deck_text none [tD cs] ρ = .ok (.v (.str (mk r))) ρ) ∧ (∀ k, goT cs.length 0 cs [] = .error k → callD 6 d_raw_deck_text none [tD cs] ρ = .err (badCard k) ρ) := by
  have L := read_loop (cs.map fun c => .str (mk c)) cs 0 [] .undef .undef .undef .undef hc (by simp; omega) rfl rfl rfl rfl
  rw [List.length_map] at L
  refine ⟨fun r h => call_v ?_ ρ, fun k h => call_err ?_ ρ⟩
  · obtain ⟨s2, s3, s4, s5, h⟩ := L.1 r h
    simp [d_raw_deck_text, f_raw_deck_text_1, tD, h]
  · obtain ⟨ρ', h⟩ := L.2 k h
    simp [d_raw_deck_text, f_raw_deck_text_1, tD, h]
theorem cardB_ok {cs : List (List Nat)} (h : ∀ c ∈ cs, okC c) : (cs.map fun c => PyData.str (mk c)).all cardB = true := by
  rw [List.all_eq_true]
  intro d hd
  obtain ⟨c, hc, rfl⟩ := List.mem_map.mp hd
  have := h c hc
  simp [cardB, this.1]
  exact this.2
theorem tD_small {cs : List (List Nat)} (h : ∀ c ∈ cs, c.length ≤ 1000) : ∀ d ∈ (cs.map fun c => PyData.str (mk c)), ∀ s, d = .str s → s.length ≤ 16777216 := by
  intro d hd s e
  obtain ⟨c, hc, rfl⟩ := List.mem_map.mp hd
  cases e
  have := h c hc
  simp; omega
theorem rawdeck_ok {cs : List (List Nat)} (h : ∀ c ∈ cs, okC c) (hl : cs.length ≤ 400) (ρ : Rho) : callD 3 d_raw_is_deck none [.int 8, tD cs] ρ = .ok (.v (.bool true)) ρ := by
  have := rawdeck_v (tD_small fun c hc => by have := (h c hc).1; omega) ρ (ds := cs.map fun c => .str (mk c))
  rw [cardB_ok h] at this
  simpa [tD, hl] using this
theorem td_ok {cs : List (List Nat)} (h : ∀ c ∈ cs, okC c) (hl : cs.length ≤ 400) (ρ : Rho) : (∀ r, goT cs.length 0 cs [] = .ok r → callD 1 d_text_of_deck none [tD cs] ρ = .ok (.v (.str (mk r))) ρ) ∧ (∀ k, goT cs.length 0 cs [] = .error k → callD 1 d_text_of_deck none [tD cs] ρ = .err (badCard k) ρ) := by
  have R := fun ρ => rawtext_v (fun c hc => (h c hc).1) hl ρ
  refine ⟨fun r e => call_v ?_ ρ, fun k e => call_err ?_ ρ⟩
  · simp [d_text_of_deck, rawdeck_ok h hl, fun ρ => (R ρ).1 r e]
  · simp [d_text_of_deck, rawdeck_ok h hl, fun ρ => (R ρ).2 k e]
theorem td_no {d : D} (h : ∀ ρ, callD 3 d_raw_is_deck none [.int 8, d] ρ = .ok (.v (.bool false)) ρ) (ρ : Rho) : callD 1 d_text_of_deck none [d] ρ = .err ⟨mk [78, 111, 68, 101, 99, 107], []⟩ ρ := by
  refine call_err ?_ ρ
  simp [d_text_of_deck, h]
theorem pt_no {d : D} (h : ∀ ρ, callD 3 d_raw_is_deck none [.int 8, d] ρ = .ok (.v (.bool false)) ρ) (ρ : Rho) : callD 1 d_is_punched_text none [d] ρ = .ok (.v (.bool false)) ρ := by
  refine call_v ?_ ρ
  simp [d_is_punched_text, h]
theorem pt_bad {cs : List (List Nat)} (h : ∀ c ∈ cs, okC c) (hl : cs.length ≤ 400) (k : Nat) (e : goT cs.length 0 cs [] = .error k) (ρ : Rho) : callD 1 d_is_punched_text none [tD cs] ρ = .ok (.v (.bool false)) ρ := by
  have R := fun ρ => (rawtext_v (fun c hc => (h c hc).1) hl ρ).2 k e
  refine call_v ?_ ρ
  simp [d_is_punched_text, rawdeck_ok h hl, R, dTry, dCls, badCard, subC, lenOk, offO, offR]
/-! ### the deck of a text, read -/
theorem sign_cod {c : Nat} (h : Gd c) : signP (48 + cod c / 10) (48 + cod c % 10) = some c := by
  have h1 := cod_lt h
  have hn : numP (48 + cod c / 10) (48 + cod c % 10) = cod c := by unfold numP; omega
  have d1 : dg (48 + cod c / 10) = true := by simp [dg]; omega
  have d2 : dg (48 + cod c % 10) = true := by simp [dg]; omega
  unfold signP
  rw [d1, d2, hn]
  have e : (if cod c = 95 then 10 else cod c + 32) = c := by
    unfold Gd at h
    unfold cod at h1 ⊢
    split
    · split <;> omega
    · split <;> omega
  rw [e]
  simp
  omega
theorem cod_ne (c : Nat) : ((48 + cod c / 10, 48 + cod c % 10) == ((46, 46) : Nat × Nat)) = false := by
  rw [beq_eq_false_iff_ne]
  intro e
  have := congrArg Prod.fst e
  simp at this
  omega
theorem read_card {sh : List Nat} (i : Nat) (h0 : sh ≠ []) (h3 : sh.length ≤ 3) (hg : ∀ c ∈ sh, Gd c) : readL (card i sh) = some sh := by
  match sh, h3 with
  | [a], _ =>
    have ha := sign_cod (hg a (by simp))
    simp [card, two, cods, codL, blank, List.replicate, readL, readC, strip, cod_ne, goS, ha]
  | [a, b], _ =>
    have ha := sign_cod (hg a (by simp))
    have hb := sign_cod (hg b (by simp))
    simp [card, two, cods, codL, blank, List.replicate, readL, readC, strip, cod_ne, goS, ha, hb]
  | [a, b, c], _ =>
    have ha := sign_cod (hg a (by simp))
    have hb := sign_cod (hg b (by simp))
    have hc := sign_cod (hg c (by simp))
    simp [card, two, cods, codL, blank, List.replicate, readL, readC, strip, cod_ne, goS, ha, hb, hc]
  | [], _ => exact absurd rfl h0
theorem card_take (i : Nat) (sh : List Nat) : (card i sh).take 2 = two (i % 100) := by simp [card, two]
theorem ok_card {l : List Nat} (hg : ∀ c ∈ l, Gd c) (i : Nat) (hi : i < (l.length + 2) / 3) : okCard ((l.length + 2) / 3) i (card i (third l i)) = some (third l i) := by
  have hlen : (third l i).length = min 3 (l.length - 3 * i) := by simp [third]
  have h0 : third l i ≠ [] := fun e => by rw [e] at hlen; simp at hlen; omega
  unfold okCard
  rw [read_card i h0 (len_third l i) (Gd_third hg i)]
  simp only
  rw [if_pos ⟨card_take _ _, h0, by omega⟩]
def cardsR (l : List Nat) (i m : Nat) : List (List Nat) := (List.range' i m).map fun j => card j (third l j)
theorem deck_R (l : List Nat) : deck l = cardsR l 0 ((l.length + 2) / 3) := by
  unfold deck cardsR
  rw [List.range_eq_range']
theorem goT_pre {l : List Nat} (hg : ∀ c ∈ l, Gd c) (rest : List (List Nat)) : ∀ (m i : Nat) (acc : List Nat), i + m ≤ (l.length + 2) / 3 → goT ((l.length + 2) / 3) i (cardsR l i m ++ rest) acc = goT ((l.length + 2) / 3) (i + m) rest (acc ++ (l.drop (3 * i)).take (3 * m))
  | 0, i, acc, _ => by simp [cardsR]
  | m + 1, i, acc, h => by
    have e : cardsR l i (m + 1) ++ rest = card i (third l i) :: (cardsR l (i + 1) m ++ rest) := rfl
    have eg : goT ((l.length + 2) / 3) i (card i (third l i) :: (cardsR l (i + 1) m ++ rest)) acc = (match okCard ((l.length + 2) / 3) i (card i (third l i)) with | none => .error i | some s => goT ((l.length + 2) / 3) (i + 1) (cardsR l (i + 1) m ++ rest) (acc ++ s)) := rfl
    rw [e, eg, ok_card hg i (by omega)]
    simp only
    rw [goT_pre hg rest m (i + 1) _ (by omega), List.append_assoc, show i + 1 + m = i + (m + 1) by omega]
    congr 2
    unfold third
    rw [show 3 * (m + 1) = 3 + 3 * m by omega, List.take_add, List.drop_drop, show 3 * (i + 1) = 3 * i + 3 by omega]
theorem deck_len (l : List Nat) : (deck l).length = (l.length + 2) / 3 := by simp [deck]
theorem goT_deck {l : List Nat} (hg : ∀ c ∈ l, Gd c) : goT (deck l).length 0 (deck l) [] = .ok l := by
  have := goT_pre hg [] ((l.length + 2) / 3) 0 [] (by omega)
  rw [List.append_nil, ← deck_R] at this
  rw [deck_len, this]
  simp [goT]
  rw [List.take_of_length_le (by omega)]
theorem goT_bent {l : List Nat} (hg : ∀ c ∈ l, Gd c) (i : Nat) (hi : i < (l.length + 2) / 3) (bad : List Nat) (hb : okCard ((l.length + 2) / 3) i bad = none) (post : List (List Nat)) : goT ((l.length + 2) / 3) 0 (cardsR l 0 i ++ bad :: post) [] = .error i := by
  rw [goT_pre hg (bad :: post) i 0 [] (by omega)]
  have eg : ∀ acc, goT ((l.length + 2) / 3) (0 + i) (bad :: post) acc = (match okCard ((l.length + 2) / 3) (0 + i) bad with | none => .error (0 + i) | some s => goT ((l.length + 2) / 3) (0 + i + 1) post (acc ++ s)) := fun _ => rfl
  rw [eg, Nat.zero_add, hb]
theorem SG_dig (n : Nat) (h : n < 10) : 48 + n ∈ SG := by
  match n, h with
  | 0, _ | 1, _ | 2, _ | 3, _ | 4, _ | 5, _ | 6, _ | 7, _ | 8, _ | 9, _ => decide
theorem two_SG {n : Nat} (h : n < 100) : ∀ x ∈ two n, x ∈ SG := by
  intro x hx
  simp [two] at hx
  rcases hx with rfl | rfl
  · exact SG_dig _ (by omega)
  · exact SG_dig _ (by omega)
theorem okC_card {i : Nat} {sh : List Nat} (h3 : sh.length ≤ 3) (hg : ∀ c ∈ sh, Gd c) : okC (card i sh) := by
  refine ⟨?_, fun x hx => ?_⟩
  · have h1 := len_codes sh
    have h2 := len_blank (3 - sh.length)
    simp [card, two, h1, h2]
    omega
  · unfold card at hx
    rw [List.mem_append, List.mem_append] at hx
    rcases hx with (hx | hx) | hx
    · exact two_SG (by omega) x hx
    · unfold cods at hx
      obtain ⟨y, hy, hx⟩ := List.mem_flatten.mp hx
      obtain ⟨c, hc, rfl⟩ := List.mem_map.mp hy
      exact two_SG (by have := cod_lt (hg c hc); omega) x hx
    · unfold blank at hx
      obtain ⟨y, hy, hx⟩ := List.mem_flatten.mp hx
      have := List.eq_of_mem_replicate hy
      subst this
      simp at hx
      subst hx
      decide
theorem okC_R {l : List Nat} (hg : ∀ c ∈ l, Gd c) (i m : Nat) : ∀ c ∈ cardsR l i m, okC c := by
  intro c hc
  obtain ⟨j, _, rfl⟩ := List.mem_map.mp hc
  exact okC_card (len_third l j) (Gd_third hg j)
/-! ### data, compared -/
theorem eqv_tD : ∀ cs : List (List Nat), PyData.eqvAll (cs.map fun c => .str (mk c)) (cs.map fun c => .str (mk c)) = true
  | [] => by simp [PyData.eqvAll]
  | c :: cs => by simp [PyData.eqvAll, PyData.eqv, eqv_tD cs]
theorem lay_tD : ∀ cs : List (List Nat), (∀ c ∈ cs, ∀ x ∈ c, x < 1114112) → PyData.canLayAll0 (cs.map fun c => .str (mk c)) = true ∧ PyData.depthAll (cs.map fun c => .str (mk c)) ≤ 1
  | [], _ => by simp [PyData.canLayAll0, PyData.depthAll]
  | c :: cs, h => by
    have ih := lay_tD cs fun c' hc => h c' (List.mem_cons_of_mem _ hc)
    have hc := h c (List.mem_cons_self ..)
    simp [PyData.canLayAll0, PyData.depthAll, PyData.canLay0, PyData.depth, ih.1]
    refine ⟨?_, ih.2⟩
    unfold PyData.strOk
    simp [mk]
    exact hc
theorem SG_small : ∀ x ∈ SG, x < 1114112 := by decide
theorem shaped_tD {cs : List (List Nat)} (h : ∀ c ∈ cs, okC c) : SeqAt.shaped (tD cs) = true := by
  have L := lay_tD cs fun c hc x hx => SG_small x ((h c hc).2 x hx)
  unfold SeqAt.shaped tD
  simp [PyData.canLay0, PyData.depth, L.1]
  omega
theorem eq_tD {cs : List (List Nat)} (h : ∀ c ∈ cs, okC c) : dEq (tD cs) (tD cs) = some (.bool true) := by
  unfold dEq
  rw [shaped_tD h]
  simp [tD, PyData.eqv, eqv_tD]
theorem ne_tD {cs : List (List Nat)} (h : ∀ c ∈ cs, okC c) : dNe (tD cs) (tD cs) = some (.bool false) := by
  unfold dNe
  rw [shaped_tD h]
  simp [tD, PyData.eqv, eqv_tD]
theorem ne_nil {cs : List (List Nat)} (h : ∀ c ∈ cs, okC c) : dNe (tD cs) (.tuple []) = some (.bool (!decide (cs = []))) := by
  unfold dNe
  rw [shaped_tD h]
  cases cs with
  | nil => rfl
  | cons c cs => simp [tD, PyData.eqv, PyData.eqvAll]; rfl
theorem pt_ok {l : List Nat} (hl : l.length ≤ 1200) (hg : ∀ c ∈ l, Gd c) (ρ : Rho) : callD 1 d_is_punched_text none [tD (deck l)] ρ = .ok (.v (.bool true)) ρ := by
  have hk : ∀ c ∈ deck l, okC c := by rw [deck_R]; exact okC_R hg _ _
  have hn : (deck l).length ≤ 400 := by rw [deck_len]; omega
  have R := fun ρ => (rawtext_v (fun c hc => (hk c hc).1) hn ρ).1 l (goT_deck hg)
  refine call_v ?_ ρ
  simp [d_is_punched_text, rawdeck_ok hk hn, R, dTry, raw_v (show l.length ≤ 3000 by omega) hg, eq_tD hk]
theorem td_deck {l : List Nat} (hl : l.length ≤ 1200) (hg : ∀ c ∈ l, Gd c) (ρ : Rho) : callD 1 d_text_of_deck none [tD (deck l)] ρ = .ok (.v (.str (mk l))) ρ := by
  have hk : ∀ c ∈ deck l, okC c := by rw [deck_R]; exact okC_R hg _ _
  have hn : (deck l).length ≤ 400 := by rw [deck_len]; omega
  exact (td_ok hk hn ρ).1 l (goT_deck hg)
theorem is_deck {l : List Nat} (hl : l.length ≤ 1200) (hg : ∀ c ∈ l, Gd c) (ρ : Rho) : callD 2 d_is_deck none [.int 8, tD (deck l)] ρ = .ok (.v (.bool true)) ρ := by
  have hk : ∀ c ∈ deck l, okC c := by rw [deck_R]; exact okC_R hg _ _
  have hn : (deck l).length ≤ 400 := by rw [deck_len]; omega
  have := isdeck_v (tD_small fun c hc => by have := (hk c hc).1; omega) ρ (ds := (deck l).map fun c => .str (mk c))
  rw [cardB_ok hk] at this
  simpa [tD, hn] using this
/-! ### the law's texts -/
theorem signs_v (n : Nat) (h : n < 95) : ∃ c, Gd c ∧ atI ([32, 33, 34, 35, 36, 38, 38, 39, 40, 41, 42, 43, 44, 45, 46, 47, 48, 49, 50, 51, 52, 53, 54, 55, 56, 57, 58, 59, 60, 61, 62, 63, 64] ++ [65, 66, 67, 68, 69, 70, 71, 72, 73, 74, 75, 76, 77, 78, 79, 80, 81, 82, 83, 84, 85, 86, 87, 88, 89, 90, 91, 92, 93, 94, 95, 96, 97, 98, 99, 100, 101, 102, 103, 104, 105, 106, 107, 108, 109, 110, 111, 112, 113, 114, 115, 116, 117, 118, 119, 120, 121, 122, 123, 124, 125, 126]) (n : Int) = some c := by
  have key : ∀ k : Fin 95, ∃ c, (32 ≤ c ∧ c < 127) ∧ (([32, 33, 34, 35, 36, 38, 38, 39, 40, 41, 42, 43, 44, 45, 46, 47, 48, 49, 50, 51, 52, 53, 54, 55, 56, 57, 58, 59, 60, 61, 62, 63, 64] ++ [65, 66, 67, 68, 69, 70, 71, 72, 73, 74, 75, 76, 77, 78, 79, 80, 81, 82, 83, 84, 85, 86, 87, 88, 89, 90, 91, 92, 93, 94, 95, 96, 97, 98, 99, 100, 101, 102, 103, 104, 105, 106, 107, 108, 109, 110, 111, 112, 113, 114, 115, 116, 117, 118, 119, 120, 121, 122, 123, 124, 125, 126]) : List Nat)[k.val]? = some c := by
    intro k
    refine ⟨if k.val = 5 then 38 else k.val + 32, ?_, ?_⟩
    · split <;> omega
    · revert k; decide +kernel
  obtain ⟨c, h1, h2⟩ := key ⟨n, h⟩
  exact ⟨c, .inr h1, by rw [atI_nat]; exact h2⟩
theorem law_text_b {ds : List D} (h : Hd ds) (acc : List Nat) (ha : acc.length ≤ 100000) (s1 s3 s4 : Slot) (h4 : fr s4 = true) : ∃ ds' c s4', Hd ds' ∧ Gd c ∧ fr s4' = true ∧ b__law_text_1 [.io ds, s1, .imm (.str (mk acc)), s3, s4] = .next [.io ds', s1, .imm (.str (mk (acc ++ [c]))), s3, s4'] := by
  obtain ⟨v, ds', hv, hd, e⟩ := draw h 96 (by decide) (by decide)
  have e0 := e [.io ds, s1, .imm (.str (mk acc)), s3, s4] 0 rfl
  have hz : acc.length + 1 ≤ 16777216 := by omega
  have hs : ∀ ρ, callD 1 d__law_signs none [] ρ = .ok (.v (.str (mk ([32, 33, 34, 35, 36, 38, 38, 39, 40, 41, 42, 43, 44, 45, 46, 47, 48, 49, 50, 51, 52, 53, 54, 55, 56, 57, 58, 59, 60, 61, 62, 63, 64] ++ [65, 66, 67, 68, 69, 70, 71, 72, 73, 74, 75, 76, 77, 78, 79, 80, 81, 82, 83, 84, 85, 86, 87, 88, 89, 90, 91, 92, 93, 94, 95, 96, 97, 98, 99, 100, 101, 102, 103, 104, 105, 106, 107, 108, 109, 110, 111, 112, 113, 114, 115, 116, 117, 118, 119, 120, 121, 122, 123, 124, 125, 126])))) ρ := fun ρ => by
    refine call_v ?_ ρ
    simp [d__law_signs]
  by_cases h95 : v = 95
  · subst h95
    refine ⟨ds', 10, .imm (.int 95), hd, .inl rfl, rfl, ?_⟩
    simp at e0
    simp [b__law_text_1, e0, h4, hz]
  · obtain ⟨c, hc, et⟩ := signs_v v (by omega)
    have h95' : ¬ (v : Int) = 95 := by omega
    refine ⟨ds', c, .imm (.int v), hd, hc, rfl, ?_⟩
    simp only [List.cons_append, List.nil_append] at et hs
    simp at e0
    simp [b__law_text_1, e0, h4, hz, h95', hs, et]
theorem law_text_v {ds : List D} (h : Hd ds) (most : Nat) (hm : most ≤ 10000) : ∃ ds' l, Hd ds' ∧ l.length ≤ most ∧ (∀ c ∈ l, Gd c) ∧ ∀ (ρ : Rho) (i : Nat), ρ.lst? i = some ds → callD 5 d__law_text (some i) [.int (most : Int)] ρ = .ok (.v (.str (mk l))) (ρ.put i ds') := by
  obtain ⟨v, ds1, hv, hd, e⟩ := draw h (most + 1) (by omega) (by omega)
  have e0 := e [.io ds, .imm (.int (most : Int)), .imm (.str (mk [])), .undef, .undef] 0 rfl
  obtain ⟨ρ', h1, h2⟩ := dLoop_inv (bind := bName 3) (body := b__law_text_1) (fun k ρ => k ≤ v → ∃ ds' l s3 s4, Hd ds' ∧ l.length = k ∧ (∀ c ∈ l, Gd c) ∧ fr s3 = true ∧ fr s4 = true ∧ ρ = [.io ds', .imm (.int (most : Int)), .imm (.str (mk l)), s3, s4]) (rgD 0 1 v) 0 [.io ds1, .imm (.int (most : Int)), .imm (.str (mk [])), .undef, .undef] (fun _ => ⟨ds1, [], .undef, .undef, hd, rfl, by simp, rfl, rfl, rfl⟩) (by
    intro i d ρ hd hp
    obtain ⟨hi, rfl⟩ := rgD_get hd
    obtain ⟨ds', l, s3, s4, g1, g2, g3, g4, g5, rfl⟩ := hp (by omega)
    obtain ⟨ds2, c, s4', k1, k2, k3, k4⟩ := law_text_b g1 l (by omega) (.imm (.int (most : Int))) (.imm (.int (0 + (i : Nat) * 1))) s4 g5
    refine ⟨_, _, by simp [g4]; rfl, ?_, fun _ => ⟨ds2, l ++ [c], .imm (.int (0 + (i : Nat) * 1)), s4', k1, by simp; omega, ?_, rfl, k3, rfl⟩⟩
    · rw [← k4]; simp
    · intro x hx
      rcases List.mem_append.mp hx with hx | hx
      · exact g3 x hx
      · rw [List.mem_singleton.mp hx]; exact k2)
  rw [rgD_len, Nat.zero_add] at h2
  obtain ⟨ds', l, s3, s4, g1, g2, g3, g4, g5, rfl⟩ := h2 (Nat.le_refl _)
  refine ⟨ds', l, g1, by omega, g3, fun ρ i hi => call_h hi ?_⟩
  simp at e0
  have er : dRng1 (dVal (dCallH 5 d__law_draw 0 (dCons (dOp dAdd (dImm 1) (dC (.int 1))) (dNil)))) [.io ds, .imm (.int (most : Int)), .imm (.str (mk [])), .undef, .undef] = .ok (rgD 0 1 (v : Int).toNat) [.io ds1, .imm (.int (most : Int)), .imm (.str (mk [])), .undef, .undef] := dRng1_v (by simp [e0]) (by omega) (by omega)
  rw [Int.toNat_natCast] at er
  simp [d__law_text, f__law_text_1, er, h1]
/-! ### bent cards -/
theorem int_dig (k : Nat) (h : k < 10) : dInt (.str (mk [48 + k])) = some (.int (k : Int)) := by
  have key : ∀ k : Fin 10, PySem.intText? (mk [48 + k.val]) = some (k.val : Int) := by decide +kernel
  have e : dInt (.str (mk [48 + k])) = if (mk [48 + k]).length ≤ 640 then (PySem.intText? (mk [48 + k])).map .int else none := rfl
  rw [e, if_pos (by simp), key ⟨k, h⟩]
  rfl
theorem card_eight (i : Nat) {sh : List Nat} (h3 : sh.length ≤ 3) (hg : ∀ c ∈ sh, Gd c) : ∃ a b c d e f, card i sh = [48 + i % 100 / 10, 48 + i % 10, a, b, c, d, e, f] ∧ (sh.length = 3 → ∃ p q r, signP a b = some p ∧ signP c d = some q ∧ signP e f = some r) := by
  match sh, h3 with
  | [], _ => exact ⟨46, 46, 46, 46, 46, 46, by simp [card, two, cods, codL, blank, List.replicate], fun h => by simp at h⟩
  | [a], _ => exact ⟨_, _, _, _, _, _, by simp [card, two, cods, codL, blank, List.replicate] <;> exact ⟨rfl, rfl, rfl, rfl, rfl, rfl⟩, fun h => by simp at h⟩
  | [a, b], _ => exact ⟨_, _, _, _, _, _, by simp [card, two, cods, codL, blank, List.replicate] <;> exact ⟨rfl, rfl, rfl, rfl, rfl, rfl⟩, fun h => by simp at h⟩
  | [a, b, c], _ => exact ⟨_, _, _, _, _, _, by simp [card, two, cods, codL, blank, List.replicate] <;> exact ⟨rfl, rfl, rfl, rfl, rfl, rfl⟩, fun _ => ⟨_, _, _, sign_cod (hg a (by simp)), sign_cod (hg b (by simp)), sign_cod (hg c (by simp))⟩⟩
theorem strip_first {p : Nat × Nat} (h : p ≠ (46, 46)) (q r : Nat × Nat) : ∃ t, strip [p, q, r] = p :: t := by
  by_cases h1 : r = (46, 46)
  · by_cases h2 : q = (46, 46)
    · exact ⟨[], by simp [strip, h1, h2, h]⟩
    · exact ⟨[q], by simp [strip, h1, h2]⟩
  · exact ⟨[q, r], by simp [strip, h1]⟩
theorem readC_first {x y a b c d e f : Nat} (h : (a, b) ≠ ((46, 46) : Nat × Nat)) (hs : signP a b = none) : readC x y a b c d e f = none := by
  obtain ⟨t, ht⟩ := strip_first h (c, d) (e, f)
  unfold readC
  rw [ht]
  unfold goS
  rw [hs]
theorem okCard_read {n i x y a b c d e f : Nat} (h : readC x y a b c d e f = none) : okCard n i [x, y, a, b, c, d, e, f] = none := by
  have e : readL [x, y, a, b, c, d, e, f] = none := h
  unfold okCard
  rw [e]
theorem okCard_head {n i : Nat} {c : List Nat} (h : c.take 2 ≠ two (i % 100)) : okCard n i c = none := by
  unfold okCard
  cases readL c with
  | none => rfl
  | some s => simp [h]
theorem sign_ne {c d q : Nat} (h : signP c d = some q) : (c, d) ≠ ((46, 46) : Nat × Nat) := by
  intro e
  cases e
  revert h
  decide +revert
def bent8 (x y z a b c d e f : Nat) : List (List Nat) := [[x, y, 57, 54, c, d, e, f], [x, y, 120, 48, c, d, e, f], [x, y, 46, 46, 46, 46, 46, 46], [x, y, 46, 46, c, d, 48, 48], [x, y, 48, 46, c, d, e, f], [120, y, a, b, c, d, e, f], [x, 46, a, b, c, d, e, f], [x, z, a, b, c, d, e, f]]
theorem bent8_none (n i a b c d e f : Nat) : ∀ l ∈ bent8 (48 + i % 100 / 10) (48 + i % 10) (48 + (i % 10 + 1) % 10) a b c d e f, okCard n i l = none := by
  intro l hl
  simp only [bent8, List.mem_cons, List.not_mem_nil, or_false] at hl
  rcases hl with rfl | rfl | rfl | rfl | rfl | rfl | rfl | rfl
  · exact okCard_read (readC_first (by decide) (by decide))
  · exact okCard_read (readC_first (by decide) (by decide))
  · simp [okCard, readL, readC, strip, goS]
  · refine okCard_read ?_
    have : strip [(46, 46), (c, d), (48, 48)] = [(46, 46), (c, d), (48, 48)] := by simp [strip]
    unfold readC
    rw [this]
    rfl
  · exact okCard_read (readC_first (by decide) (by decide))
  · exact okCard_head (by simp [two]; omega)
  · exact okCard_head (by simp [two]; omega)
  · exact okCard_head (by simp [two]; omega)
theorem bent2_none {n i x y a b c d p q : Nat} (hn : i + 1 < n) (h1 : signP a b = some p) (h2 : signP c d = some q) : ∀ l ∈ [[x, y, a, b, c, d, 46, 46], [x, y, a, b, 46, 46, 46, 46]], okCard n i l = none := by
  intro l hl
  simp only [List.mem_cons, List.not_mem_nil, or_false] at hl
  have n1 := sign_ne h1
  have n2 := sign_ne h2
  rcases hl with rfl | rfl
  · have : strip [(a, b), (c, d), (46, 46)] = [(a, b), (c, d)] := by simp [strip, n2]
    simp [okCard, readL, readC, this, goS, h1, h2, hn]
  · have : strip [(a, b), (46, 46), (46, 46)] = [(a, b)] := by simp [strip, n1]
    simp [okCard, readL, readC, this, goS, h1, hn]
theorem okC_bent {x y z a b c d e f : Nat} (h : okC [x, y, a, b, c, d, e, f]) (hz : z ∈ SG) : (∀ l ∈ bent8 x y z a b c d e f, okC l) ∧ ∀ l ∈ [[x, y, a, b, c, d, 46, 46], [x, y, a, b, 46, 46, 46, 46]], okC l := by
  have g := h.2
  simp only [List.mem_cons, List.not_mem_nil, or_false, forall_eq_or_imp, forall_eq] at g
  obtain ⟨g1, g2, g3, g4, g5, g6, g7, g8⟩ := g
  have k1 : 57 ∈ SG := by decide
  have k2 : 54 ∈ SG := by decide
  have k3 : 120 ∈ SG := by decide
  have k4 : 48 ∈ SG := by decide
  have k5 : 46 ∈ SG := by decide
  constructor
  · intro l hl
    simp only [bent8, List.mem_cons, List.not_mem_nil, or_false] at hl
    rcases hl with rfl | rfl | rfl | rfl | rfl | rfl | rfl | rfl <;> refine ⟨rfl, ?_⟩ <;> simp only [List.mem_cons, List.not_mem_nil, or_false, forall_eq_or_imp, forall_eq] <;> simp [*]
  · intro l hl
    simp only [List.mem_cons, List.not_mem_nil, or_false] at hl
    rcases hl with rfl | rfl <;> refine ⟨rfl, ?_⟩ <;> simp only [List.mem_cons, List.not_mem_nil, or_false, forall_eq_or_imp, forall_eq] <;> simp [*]
theorem deck_cut (l : List Nat) (v : Nat) (hv : v < (l.length + 2) / 3) : deck l = cardsR l 0 v ++ card v (third l v) :: cardsR l (v + 1) ((l.length + 2) / 3 - (v + 1)) := by
  rw [deck_R]
  unfold cardsR
  have e : card v (third l v) :: (List.range' (v + 1) ((l.length + 2) / 3 - (v + 1))).map (fun j => card j (third l j)) = (List.range' v (((l.length + 2) / 3 - (v + 1)) + 1)).map (fun j => card j (third l j)) := rfl
  rw [e, ← List.map_append]
  congr 1
  have := List.range'_append_1 (s := 0) (m := v) (n := (l.length + 2) / 3 - (v + 1) + 1)
  rw [Nat.zero_add] at this
  rw [this]
  congr 1
  omega
theorem cardsR_len (l : List Nat) (i m : Nat) : (cardsR l i m).length = m := by simp [cardsR]
theorem cut_tuple (pre : List (List Nat)) (c : List Nat) (post : List (List Nat)) (v : Nat) (hv : pre.length = v) : cutD ((pre ++ c :: post).map fun c => PyData.str (mk c)) none (some (v : Int)) = pre.map (fun c => .str (mk c)) ∧ cutD ((pre ++ c :: post).map fun c => PyData.str (mk c)) (some ((v : Int) + 1)) none = post.map (fun c => .str (mk c)) ∧ atI ((pre ++ c :: post).map fun c => PyData.str (mk c)) (v : Int) = some (.str (mk c)) := by
  refine ⟨?_, ?_, ?_⟩
  · rw [cutD_0n, ← List.map_take, List.take_left' hv]
  · have e : (v : Int) + 1 = ((v + 1 : Nat) : Int) := by omega
    rw [e, cutD_n0, ← List.map_drop]
    congr 1
    rw [List.drop_append, List.drop_of_length_le (by omega), hv]
    simp
  · rw [atI_nat, List.getElem?_map, List.getElem?_append_right (by omega), hv]
    simp
theorem law_bent_v {ds : List D} (h : Hd ds) {l : List Nat} (hl : l.length ≤ 1200) (hg : ∀ c ∈ l, Gd c) (hn : 0 < (l.length + 2) / 3) : ∃ ds' v bad post, Hd ds' ∧ v < (l.length + 2) / 3 ∧ okC bad ∧ okCard ((l.length + 2) / 3) v bad = none ∧ (∀ c ∈ post, okC c) ∧ v + 1 + post.length = (l.length + 2) / 3 ∧
    ∀ (ρ : Rho) (i : Nat), ρ.lst? i = some ds → callD 5 d__law_bent (some i) [tD (deck l)] ρ = .ok (.v (.tuple [tD (cardsR l 0 v ++ bad :: post), .int (v : Int)])) (ρ.put i ds') := by
  obtain ⟨v, ds1, hv, hd1, e1⟩ := draw h ((l.length + 2) / 3) hn (by omega)
  obtain ⟨a, b, c, d, e, f, hC, hfull⟩ := card_eight v (len_third l v) (Gd_third hg v)
  have hk := okC_card (i := v) (len_third l v) (Gd_third hg v)
  rw [hC] at hk
  obtain ⟨o8, o2⟩ := okC_bent (z := 48 + (v % 10 + 1) % 10) hk (SG_dig _ (by omega))
  have hcut := deck_cut l v hv
  rw [hC] at hcut
  have hpost : ∀ c ∈ cardsR l (v + 1) ((l.length + 2) / 3 - (v + 1)), okC c := okC_R hg _ _
  have hplen := cardsR_len l (v + 1) ((l.length + 2) / 3 - (v + 1))
  obtain ⟨t1, t2, t3⟩ := cut_tuple (cardsR l 0 v) [48 + v % 100 / 10, 48 + v % 10, a, b, c, d, e, f] (cardsR l (v + 1) ((l.length + 2) / 3 - (v + 1))) v (cardsR_len _ _ _)
  rw [← hcut] at t1 t2 t3
  have hdl : (deck l).length = (l.length + 2) / 3 := deck_len l
  have hi := int_dig (v % 10) (by omega)
  have hst := strN ((v % 10 + 1) % 10) (by omega)
  have hsi : (((v % 10 + 1) % 10 : Nat) : Int) = ((v : Int) + 1) % 10 := by omega
  have hlt : ((v : Int) < ((l.length : Int) + 2) / 3 - 1) = (v + 1 < (l.length + 2) / 3) := by rw [eq_iff_iff]; omega
  have q1 : v ≤ 16777215 := by omega
  have q2 : v + 1 + ((l.length + 2) / 3 - (v + 1)) ≤ 16777216 := by omega
  have hb8 := bent8_none ((l.length + 2) / 3) v a b c d e f
  have hvm : ((v % 10 : Nat) : Int) = (v : Int) % 10 := by omega
  rw [hsi] at hst
  rw [hvm] at hi
  clear hsi hvm
  generalize hx : 48 + v % 100 / 10 = x at *
  generalize hy : 48 + v % 10 = y at *
  generalize hz : 48 + (v % 10 + 1) % 10 = z at *
  have c02 : cutD [x, y, a, b, c, d, e, f] none (some 2) = [x, y] := cutD_0n [x, y, a, b, c, d, e, f] 2
  have c01 : cutD [x, y, a, b, c, d, e, f] none (some 1) = [x] := cutD_0n [x, y, a, b, c, d, e, f] 1
  have c06 : cutD [x, y, a, b, c, d, e, f] none (some 6) = [x, y, a, b, c, d] := cutD_0n [x, y, a, b, c, d, e, f] 6
  have c04 : cutD [x, y, a, b, c, d, e, f] none (some 4) = [x, y, a, b] := cutD_0n [x, y, a, b, c, d, e, f] 4
  have c40 : cutD [x, y, a, b, c, d, e, f] (some 4) none = [c, d, e, f] := cutD_n0 [x, y, a, b, c, d, e, f] 4
  have c10 : cutD [x, y, a, b, c, d, e, f] (some 1) none = [y, a, b, c, d, e, f] := cutD_n0 [x, y, a, b, c, d, e, f] 1
  have c20 : cutD [x, y, a, b, c, d, e, f] (some 2) none = [a, b, c, d, e, f] := cutD_n0 [x, y, a, b, c, d, e, f] 2
  have c46 : cutD [x, y, a, b, c, d, e, f] (some 4) (some 6) = [c, d] := cutD_nn [x, y, a, b, c, d, e, f] 4 6
  have a1 : atI [x, y, a, b, c, d, e, f] 1 = some y := rfl
  by_cases hvn : v + 1 < (l.length + 2) / 3
  · obtain ⟨bd, ds2, hbd, hd2, e2⟩ := any_ hd1 ((bent8 x y z a b c d e f ++ [[x, y, a, b, c, d, 46, 46], [x, y, a, b, 46, 46, 46, 46]]).map fun c => .str (mk c)) (by simp [bent8]) (by simp [bent8])
    obtain ⟨bad, hbad, rfl⟩ := List.mem_map.mp hbd
    obtain ⟨p, q, r, f1, f2, f3⟩ := hfull (by simp [third]; omega)
    have hboth : okC bad ∧ okCard ((l.length + 2) / 3) v bad = none := by
      rcases List.mem_append.mp hbad with hb | hb
      · exact ⟨o8 _ hb, hb8 _ hb⟩
      · exact ⟨o2 _ hb, bent2_none hvn f1 f2 _ hb⟩
    refine ⟨ds2, v, bad, cardsR l (v + 1) ((l.length + 2) / 3 - (v + 1)), hd2, hv, hboth.1, hboth.2, hpost, by rw [hplen]; omega, fun ρ i hi' => call_h hi' ?_⟩
    have e1' := e1 [.io ds, .imm (tD (deck l)), .undef, .undef, .undef] 0 rfl
    have e2' := fun s4 => e2 [.io ds1, .imm (tD (deck l)), .imm (.int (v : Int)), .imm (.str (mk [x, y, a, b, c, d, e, f])), s4] 0 rfl
    simp [bent8] at e2'
    simp [tD, hdl] at e1' e2' t1 t2 t3
    simp [d__law_bent, tD, hdl, e1', t1, t2, t3, c02, c01, c06, c04, c40, c10, c20, c46, a1, hi, hst, hlt, hvn, e2', cardsR_len, q1, q2]
    try trace_state
  · obtain ⟨bd, ds2, hbd, hd2, e2⟩ := any_ hd1 ((bent8 x y z a b c d e f).map fun c => .str (mk c)) (by simp [bent8]) (by simp [bent8])
    obtain ⟨bad, hbad, rfl⟩ := List.mem_map.mp hbd
    refine ⟨ds2, v, bad, cardsR l (v + 1) ((l.length + 2) / 3 - (v + 1)), hd2, hv, o8 _ hbad, hb8 _ hbad, hpost, by rw [hplen]; omega, fun ρ i hi' => call_h hi' ?_⟩
    have e1' := e1 [.io ds, .imm (tD (deck l)), .undef, .undef, .undef] 0 rfl
    have e2' := fun s4 => e2 [.io ds1, .imm (tD (deck l)), .imm (.int (v : Int)), .imm (.str (mk [x, y, a, b, c, d, e, f])), s4] 0 rfl
    simp [bent8] at e2'
    simp [tD, hdl] at e1' e2' t1 t2 t3
    simp [d__law_bent, tD, hdl, e1', t1, t2, t3, c02, c01, c06, c04, c40, c10, c20, c46, a1, hi, hst, hlt, hvn, e2', cardsR_len, q1, q2]
    try trace_state
/-! ### the law -/
def wd (x : Ex) : Option D := dWord 4 1 (PySem.Str.ofString "CardError") known cl__law_word x
theorem lam_e {T : List (Addr × Str)} (hT : T ≠ []) (db : Rho → R D) (ns : List Int) (r : List Slot) : dLamL__law_word T db (.scr ns T :: r) = (match db (.scr ns T :: r) with
    | .ok _ ρ1 => .ok (.str (mk [108, 101, 116])) ρ1
    | .err x ρ1 => lift (wd x) ρ1
    | .bad => .bad) := by
  unfold dLamL__law_word dLam
  cases h : db (.scr ns T :: r) <;> simp [hT, wd, h]
theorem wd_bad (k : Nat) : wd (badCard k) = some (.int (k : Int)) := by
  simp [wd, dWord, badCard, cl__law_word, dCls, subC, lenOk, offO, offR, List.replicate, List.lookup]
theorem wd_many : wd ⟨mk [84, 111, 111, 77, 97, 110, 121], [(mk [109, 111, 115, 116], .int 1200)]⟩ = some (.tuple [.str (mk [109, 97, 110, 121]), .int 1200]) := by
  simp [wd, dWord, cl__law_word, dCls, subC, lenOk, offO, offR, List.replicate, List.lookup]
theorem wd_deck : wd ⟨mk [78, 111, 68, 101, 99, 107], []⟩ = some (.str (mk [100, 101, 99, 107])) := by
  have e1 : dCount (.list [.bool true, .bool false]) (.bool true) = some (.int 1) := rfl
  have e2 : dIdx (.list [.bool true, .bool false]) (.bool true) = some (.int 0) := rfl
  have e3 : atI [PyData.str (mk [100, 101, 99, 107]), .str (mk [116, 101, 120, 116])] 0 = some (.str (mk [100, 101, 99, 107])) := rfl
  simp [wd, dWord, cl__law_word, dCls, subC, lenOk, offO, offR, List.replicate, fCons, fNil, fIs, e1, e2, e3]
theorem wd_text : wd ⟨mk [78, 111, 84, 101, 120, 116], []⟩ = some (.str (mk [116, 101, 120, 116])) := by
  have e1 : dCount (.list [.bool false, .bool true]) (.bool true) = some (.int 1) := rfl
  have e2 : dIdx (.list [.bool false, .bool true]) (.bool true) = some (.int 1) := rfl
  have e3 : atI [PyData.str (mk [100, 101, 99, 107]), .str (mk [116, 101, 120, 116])] 1 = some (.str (mk [116, 101, 120, 116])) := rfl
  simp [wd, dWord, cl__law_word, dCls, subC, lenOk, offO, offR, List.replicate, fCons, fNil, fIs, e1, e2, e3]
theorem ne_many : dNe (.tuple [.str (mk [109, 97, 110, 121]), .int 1200]) (.tuple [.str (mk [109, 97, 110, 121]), .int 1200]) = some (.bool false) := by
  have hs : SeqAt.shaped (.tuple [.str (mk [109, 97, 110, 121]), .int 1200]) = true := by simp [SeqAt.shaped, PyData.canLay0, PyData.canLayAll0, PyData.depth, PyData.depthAll, PyData.strOk, mk]
  unfold dNe
  rw [hs]
  simp [PyData.eqv, PyData.eqvAll]
theorem rep_tup : ∃ ds : List D, dMul (.tuple [.str (mk [46, 46, 46, 46, 46, 46, 46, 46])]) (.int 401) = some (.tuple ds) ∧ ds.length = 401 ∧ ∀ d ∈ ds, ∀ s, d = .str s → s.length ≤ 16777216 := by
  refine ⟨(List.replicate (401 : Int).toNat [.str (mk [46, 46, 46, 46, 46, 46, 46, 46])]).flatten, ?_, ?_, ?_⟩
  · rw [dMul_ti, if_pos ⟨by decide, by decide, by decide, by simp⟩]
  · generalize hn : (401 : Int).toNat = n
    have : n = 401 := hn.symm
    simp [this]
  · intro d hd s e
    obtain ⟨y, hy, hd⟩ := List.mem_flatten.mp hd
    have := List.eq_of_mem_replicate hy
    subst this
    rw [List.mem_singleton.mp hd] at e
    cases e
    simp
theorem rep_str (c : Nat) (n : Int) (h0 : 0 ≤ n) (h1 : n ≤ 100000) : ∃ l : List Nat, dMul (.str (mk [c])) (.int n) = some (.str (mk l)) ∧ l.length = n.toNat ∧ ∀ x ∈ l, x = c := by
  refine ⟨(List.replicate n.toNat [c]).flatten, ?_, by simp, ?_⟩
  · rw [dMul_si, if_pos ⟨by omega, by omega, by simp⟩]
  · intro x hx
    obtain ⟨y, hy, hd⟩ := List.mem_flatten.mp hx
    have := List.eq_of_mem_replicate hy
    subst this
    exact List.mem_singleton.mp hd
theorem off_no {cs : List (List Nat)} (hl : cs.length ≤ 1000) (hk : ∀ c ∈ cs, okC c) {j : Str} {big : List D} (hb : big.length = 401) (hbs : ∀ d ∈ big, ∀ s, d = .str s → s.length ≤ 16777216) : ∀ x ∈ [.none, .list (cs.map fun c => .str (mk c)), .tuple ((cs.map fun c => .str (mk c)) ++ [.str (mk [49, 50])]), .tuple ((cs.map fun c => .str (mk c)) ++ [.int 12345678]), .str j, .tuple big], ∀ ρ, callD 3 d_raw_is_deck none [.int 8, x] ρ = .ok (.v (.bool false)) ρ := by
  intro x hx ρ
  have hs := tD_small (cs := cs) fun c hc => by have := (hk c hc).1; omega
  simp only [List.mem_cons, List.not_mem_nil, or_false] at hx
  rcases hx with rfl | rfl | rfl | rfl | rfl | rfl
  · exact rawdeck_n rfl ρ
  · exact rawdeck_n rfl ρ
  · rw [rawdeck_v (fun d hd s e => ?_) ρ]
    · simp [cardB]
    · rcases List.mem_append.mp hd with hd | hd
      · exact hs d hd s e
      · rw [List.mem_singleton.mp hd] at e; cases e; simp
  · rw [rawdeck_v (fun d hd s e => ?_) ρ]
    · simp [cardB]
    · rcases List.mem_append.mp hd with hd | hd
      · exact hs d hd s e
      · rw [List.mem_singleton.mp hd] at e; cases e
  · exact rawdeck_n rfl ρ
  · rw [rawdeck_v hbs ρ, hb]
    simp
theorem txt_no {big : List Nat} (hb : big.length = 20001) : ∀ x ∈ [.none, .int 0, .list [.str (mk [97])], .tuple [.str (mk [97])], .bool true, .str (mk big)], ∀ ρ, callD 3 d_text_deck none [x] ρ = .err ⟨mk [78, 111, 84, 101, 120, 116], []⟩ ρ := by
  intro x hx ρ
  simp only [List.mem_cons, List.not_mem_nil, or_false] at hx
  rcases hx with rfl | rfl | rfl | rfl | rfl | rfl
  · exact text_bad (.inl rfl) ρ
  · exact text_bad (.inl rfl) ρ
  · exact text_bad (.inl rfl) ρ
  · exact text_bad (.inl rfl) ρ
  · exact text_bad (.inl rfl) ρ
  · exact text_bad (.inr ⟨big, rfl, by omega, by omega⟩) ρ
theorem join_deck {cs : List (List Nat)} (hl : cs.length ≤ 1000) (hk : ∀ c ∈ cs, okC c) : ∃ j, dJoin (.str (mk [])) (.tuple (cs.map fun c => .str (mk c))) = some (.str j) := by
  rw [dJoin_t]
  have : ∀ cs : List (List Nat), (∀ c ∈ cs, okC c) → (cs.map (·.length)).sum = 8 * cs.length := by
    intro cs
    induction cs with
    | nil => intro _; rfl
    | cons c cs ih =>
      intro h
      have h1 := (h c (List.mem_cons_self ..)).1
      have h2 := ih fun c' hc => h c' (List.mem_cons_of_mem _ hc)
      simp at h2 ⊢
      omega
  rw [if_pos (by rw [this cs hk]; simp; omega)]
  exact ⟨_, rfl⟩
def P (ns : List Int) (T : List (Addr × Str)) (ρ : Rho) : Prop := ∃ ds s2 s3 s4 s5 s6 s7, Hd ds ∧ fr s2 = true ∧ fr s3 = true ∧ fr s4 = true ∧ fr s5 = true ∧ fr s6 = true ∧ fr s7 = true ∧ ρ = [.scr ns T, .own ds, s2, s3, s4, s5, s6, s7]
theorem law_b {ns : List Int} {T : List (Addr × Str)} (hT : T ≠ []) {ρ : Rho} (h : P ns T ρ) (d : D) : ∃ ρ2, b_law_1 T (ρ.set 2 (.imm d)) = .next ρ2 ∧ P ns T ρ2 := by
  obtain ⟨ds, s2, s3, s4, s5, s6, s7, hd, f2, f3, f4, f5, f6, f7, rfl⟩ := h
  obtain ⟨m, ds1, hm, hd1, e1⟩ := any_ hd [.int 5, .int 30, .int 400] (by simp) (by simp)
  obtain ⟨most, rfl, hmost⟩ : ∃ most : Nat, m = .int (most : Int) ∧ most ≤ 400 := by
    simp only [List.mem_cons, List.not_mem_nil, or_false] at hm
    rcases hm with rfl | rfl | rfl
    · exact ⟨5, rfl, by omega⟩
    · exact ⟨30, rfl, by omega⟩
    · exact ⟨400, rfl, by omega⟩
  obtain ⟨ds2, l, hd2, hl, hg, e2⟩ := law_text_v hd1 most (by omega)
  have hk : ∀ c ∈ deck l, okC c := by rw [deck_R]; exact okC_R hg _ _
  have hdl := deck_len l
  obtain ⟨tup, htm, htl, hts⟩ := rep_tup
  obtain ⟨big, hbm, hbl, _⟩ := rep_str 97 20001 (by omega) (by omega)
  obtain ⟨j, hj⟩ := join_deck (cs := deck l) (by omega) hk
  have hbig : big.length = 20001 := by rw [hbl]; rfl
  have later : ∀ ds3, Hd ds3 → ∃ (x : D) (ds4 : List D) (y : D) (ds5 : List D) (w : Nat) (ds6 : List D) (big2 : List Nat), (∀ ρ, callD 3 d_raw_is_deck none [.int 8, x] ρ = .ok (.v (.bool false)) ρ) ∧ (∀ ρ, callD 3 d_text_deck none [y] ρ = .err ⟨mk [78, 111, 84, 101, 120, 116], []⟩ ρ) ∧ Hd ds6 ∧
      (∀ s2 s3 s4 s5 s6 s7, callD 2 d__law_any (some 1) [.list [.none, .list ((deck l).map fun c => .str (mk c)), .tuple ((deck l).map (fun c => .str (mk c)) ++ [.str (mk [49, 50])]), .tuple ((deck l).map (fun c => .str (mk c)) ++ [.int 12345678]), .str j, .tuple tup]] [.scr ns T, .own ds3, s2, s3, s4, s5, s6, s7] = .ok (.v x) [.scr ns T, .own ds4, s2, s3, s4, s5, s6, s7]) ∧
      (∀ s2 s3 s4 s5 s6 s7, callD 2 d__law_any (some 1) [.list [.none, .int 0, .list [.str (mk [97])], .tuple [.str (mk [97])], .bool true, .str (mk big)]] [.scr ns T, .own ds4, s2, s3, s4, s5, s6, s7] = .ok (.v y) [.scr ns T, .own ds5, s2, s3, s4, s5, s6, s7]) ∧
      (∀ s2 s3 s4 s5 s6 s7, callD 5 d__law_draw (some 1) [.int 99] [.scr ns T, .own ds5, s2, s3, s4, s5, s6, s7] = .ok (.v (.int (w : Int))) [.scr ns T, .own ds6, s2, s3, s4, s5, s6, s7]) ∧
      dMul (.str (mk [97])) (.int (1201 + (w : Int))) = some (.str (mk big2)) ∧ (∀ ρ, callD 3 d_text_deck none [.str (mk big2)] ρ = .err ⟨mk [84, 111, 111, 77, 97, 110, 121], [(mk [109, 111, 115, 116], .int 1200)]⟩ ρ) := by
    intro ds3 hd3
    obtain ⟨x, ds4, hx, hd4, e4⟩ := any_ hd3 [.none, .list ((deck l).map fun c => .str (mk c)), .tuple ((deck l).map (fun c => .str (mk c)) ++ [.str (mk [49, 50])]), .tuple ((deck l).map (fun c => .str (mk c)) ++ [.int 12345678]), .str j, .tuple tup] (by simp) (by simp)
    obtain ⟨y, ds5, hy, hd5, e5⟩ := any_ hd4 [.none, .int 0, .list [.str (mk [97])], .tuple [.str (mk [97])], .bool true, .str (mk big)] (by simp) (by simp)
    obtain ⟨w, ds6, hw, hd6, e6⟩ := draw hd5 99 (by omega) (by omega)
    obtain ⟨big2, hb1, hb2, hb3⟩ := rep_str 97 (1201 + (w : Int)) (by omega) (by omega)
    refine ⟨x, ds4, y, ds5, w, ds6, big2, off_no (by omega) hk htl hts x hx, txt_no hbig y hy, hd6, fun s2 s3 s4 s5 s6 s7 => e4 _ 1 rfl, fun s2 s3 s4 s5 s6 s7 => e5 _ 1 rfl, fun s2 s3 s4 s5 s6 s7 => e6 _ 1 rfl, hb1, text_many (by omega) (by omega) fun c hc => ?_⟩
    rw [hb3 c hc]
    exact .inr (by omega)
  have e1' := fun s2 s3 s4 s5 s6 s7 => e1 [.scr ns T, .own ds, s2, s3, s4, s5, s6, s7] 1 rfl
  have e2' := fun s2 s3 s4 s5 s6 s7 => e2 [.scr ns T, .own ds1, s2, s3, s4, s5, s6, s7] 1 rfl
  simp only [rp_succ, rp_own] at e1' e2'
  have v1 := fun ρ => text_v (show l.length ≤ 1200 by omega) hg ρ
  have v2 := fun ρ => td_deck (show l.length ≤ 1200 by omega) hg ρ
  have v3 := fun ρ => is_deck (show l.length ≤ 1200 by omega) hg ρ
  have v4 := fun ρ => pt_ok (show l.length ≤ 1200 by omega) hg ρ
  have v5 := fun ρ => lpunched_v (show l.length ≤ 3000 by omega) hg ρ
  have q1 := ne_tD hk
  have q2 := ne_nil hk
  by_cases hne : deck l = []
  · obtain ⟨x, ds4, y, ds5, w, ds6, big2, g1, g2, g3, g4, g5, g6, g7, g8⟩ := later ds2 hd2
    have b1 : (deck l).length ≤ 16777215 := by omega
    have t1 := fun ρ => td_no g1 ρ
    have t2 := fun ρ => pt_no g1 ρ
    simp only [tD] at v1 v2 v3 v4 v5 q1 q2
    have q3 : (!decide (deck l = [])) = false := by simp [hne]
    rw [q3] at q2
    refine ⟨[.scr ns T, .own ds6, .imm d, .imm (.str (mk l)), .imm (tD (deck l)), s5, s6, .imm x], ?_, ⟨ds6, _, _, _, s5, s6, _, g3, rfl, rfl, rfl, f5, f6, rfl, rfl⟩⟩
    simp only [tD]
    simp [b_law_1, lam_e hT, f2, f3, f4, f5, f6, f7, e1', e2', v1, v2, v3, v4, v5, q1, q2, g2, g4, g5, g6, g7, g8, htm, hbm, hj, b1, wd_deck, wd_text, wd_many, ne_many, t1, t2]
  · have hn : 0 < (l.length + 2) / 3 := by
      rw [← hdl]
      exact List.length_pos_iff.mpr hne
    obtain ⟨ds3, v, bad, post, hd3, hv, ob, nb, op, hpl, e3⟩ := law_bent_v hd2 (show l.length ≤ 1200 by omega) hg hn
    have hbk : ∀ c ∈ cardsR l 0 v ++ bad :: post, okC c := by
      intro c hc
      rcases List.mem_append.mp hc with hc | hc
      · exact okC_R hg _ _ c hc
      · rcases List.mem_cons.mp hc with rfl | hc
        · exact ob
        · exact op c hc
    have hbl2 : (cardsR l 0 v ++ bad :: post).length = (l.length + 2) / 3 := by
      simp [cardsR_len]
      omega
    have hgt : goT (cardsR l 0 v ++ bad :: post).length 0 (cardsR l 0 v ++ bad :: post) [] = .error v := by
      rw [hbl2]
      exact goT_bent hg v hv bad nb post
    have w1 := fun ρ => (td_ok hbk (by omega) ρ).2 v hgt
    have w2 := fun ρ => pt_bad hbk (by omega) v hgt ρ
    have e3' := fun s2 s3 s4 s5 s6 s7 => e3 [.scr ns T, .own ds2, s2, s3, s4, s5, s6, s7] 1 rfl
    obtain ⟨x, ds4, y, ds5, w, ds6, big2, g1, g2, g3, g4, g5, g6, g7, g8⟩ := later ds3 hd3
    have b1 : (deck l).length ≤ 16777215 := by omega
    have t1 := fun ρ => td_no g1 ρ
    have t2 := fun ρ => pt_no g1 ρ
    have q3 : (!decide (deck l = [])) = true := by simp [hne]
    rw [q3] at q2
    generalize cardsR l 0 v ++ bad :: post = bs at *
    simp only [tD, rp_succ, rp_own] at v1 v2 v3 v4 v5 q1 q2 w1 w2 e3'
    refine ⟨[.scr ns T, .own ds6, .imm d, .imm (.str (mk l)), .imm (tD (deck l)), .imm (tD bs), .imm (.int (v : Int)), .imm x], ?_, ⟨ds6, _, _, _, _, _, _, g3, rfl, rfl, rfl, rfl, rfl, rfl, rfl⟩⟩
    simp only [tD]
    simp [b_law_1, bCons, bNil, lam_e hT, f2, f3, f4, f5, f6, f7, e1', e2', e3', v1, v2, v3, v4, v5, w1, w2, q1, q2, g2, g4, g5, g6, g7, g8, htm, hbm, hj, b1, wd_bad, wd_deck, wd_text, wd_many, ne_many, t1, t2]
theorem plain (ns : List Int) (T : List (Addr × Str)) (hl : ns.length ≤ 63) (hz : ∀ z ∈ ns, PySem.Builtin.Int.intBits z ≤ 1048576) (hT : T ≠ []) : ∃ ρ1, d_law T (.scr ns T :: List.replicate (8 - 1) .undef) = .ret (.bool true) ρ1 := by
  obtain ⟨ds, ρh, eh, hd⟩ := hand_start ns hl
  obtain ⟨ρ', h1, h2⟩ := dLoop_inv (bind := bName 2) (body := b_law_1 T) (fun _ ρ => P ns T ρ) (rgD 0 1 5) 0 [.scr ns T, .own ds, .undef, .undef, .undef, .undef, .undef, .undef] ⟨ds, _, _, _, _, _, _, hd, rfl, rfl, rfl, rfl, rfl, rfl, rfl⟩ (by
    intro i d ρ hi hp
    obtain ⟨ρ2, h3, h4⟩ := law_b hT hp d
    obtain ⟨ds, s2, s3, s4, s5, s6, s7, hd, f2, f3, f4, f5, f6, f7, rfl⟩ := hp
    exact ⟨_, ρ2, by simp [f2], h3, h4⟩)
  obtain ⟨ds', s2, s3, s4, s5, s6, s7, hd', f2, f3, f4, f5, f6, f7, rfl⟩ := h2
  have hf : f_law_1 T [.scr ns T, .own ds, .undef, .undef, .undef, .undef, .undef, .undef] = .next [.scr ns T, .own ds', s2, s3, s4, s5, s6, s7] := by
    have er : dRng1 (dC (.int 5)) [.scr ns T, .own ds, .undef, .undef, .undef, .undef, .undef, .undef] = .ok (rgD 0 1 5) [.scr ns T, .own ds, .undef, .undef, .undef, .undef, .undef, .undef] := dRng1_v rfl (by decide) (by decide)
    unfold f_law_1
    simp only [dFor_e, er, out_ok]
    exact h1
  obtain ⟨big, hb1, hb2, hb3⟩ := rep_str 98 1200 (by omega) (by omega)
  have hbl : big.length = 1200 := by rw [hb2]; rfl
  have hv := fun ρ => text_v (show big.length ≤ 1200 by omega) (fun c hc => by rw [hb3 c hc]; exact .inr (by omega)) ρ
  have hk : (deck big).length = 400 := by rw [deck_len, hbl]
  have hkk : ((deck big).length : Int) = 400 := by omega
  simp only [tD] at hv
  have hs : callD 3 d__law_hand none [] = callD 3 d__law_hand none [] := rfl
  simp [d_law, dCallS, List.replicate, eh, endsC, backH, hf, hb1, hv, hkk]
end Pf

open PySem PySem.W PySem.Calls PyProof.Rows
theorem PySem.Challenge.cw_cardroom_k76_whole_texts_on_cards_holds : PySem.Challenge.rw_cardroom_k76_whole_texts_on_cards.Holds := by
  w_on; o_law
  refine HandSHeadRun.head_any (r := OpenLaw.row PySem.Challenge.rw_cardroom_k76_whole_texts_on_cards) (q := view (OpenLaw.row PySem.Challenge.rw_cardroom_k76_whole_texts_on_cards).prog [51]) (H := Pf.hk) (ob := Pf.ob) (M := 6000) (loose := Pf.loose) (d := HandSHeadRun.topDef (OpenLaw.row PySem.Challenge.rw_cardroom_k76_whole_texts_on_cards).prog 51) (kwd := []) Pf.ob_eq
    (by kernel_rfl) (fun s => by kernel_rfl) Pf.run (by kernel_rfl) (by kernel_rfl) (by kernel_rfl) (by rfl) (by first | assumption | decide +kernel) (by decide +kernel) ⟨rfl, rfl, rfl, rfl, rfl, by decide +kernel⟩ ?hw ?hc
  case hw => w_witness2
  case hc =>
    refine LamX.walk_ofTsE (l := PySem.Challenge.rw_cardroom_k76_whole_texts_on_cards) (n := 63) (k := 6 + 1) (x := PySem.Str.ofString "script") (CX := fun w => L2.CX PySem.Challenge.rw_cardroom_k76_whole_texts_on_cards.prog w) rfl (by decide) (by kernel_rfl) ⟨rfl, by decide, by decide⟩ ?F (fun w H s e s1 hx => by
      obtain ⟨_, _, _, _, _, _, _, _, _, _, _, _, z⟩ := hx
      exact z)
    intro w mg fa0 h Y G hmg0
    obtain ⟨K, KX, c⟩ := Y
    have hmg : mg (PySem.Str.ofString "law") = some (.ref fa0) := by
      have e : (HandSHeadRun.topDef (OpenLaw.row PySem.Challenge.rw_cardroom_k76_whole_texts_on_cards).prog 51).name = PySem.Str.ofString "law" := by kernel_rfl
      rw [← e]
      exact hmg0
    have e := hmg.symm.trans (He.glo_ok KX G (c.t.d.fact 61 (f := .glo (PySem.Str.ofString "law")) rfl))
    cases e
    exact ⟨K, KX, Pf.facts_law KX G c Pf.plain⟩

