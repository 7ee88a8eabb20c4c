import PyProof.Rows.All
import Wide.All
import OpenK.AllK
import Wide.FinOn
import HandS.ForMost
import HandS.Exc
import HandS.TryOnly
import HandS.TryMany
import HandS.ExcOwn
import HandS.WordsExc
import HandS.CallSlots
import HandS.IsInst
import HandS.Wide
import HandS.FStr
import HandS.Flow
import HandS.Deep
import HandS.Zip
import HandS.Defaults
import HandS.SortInts
import HandS.WideBits
import HandS.StrMore
import HandS.Conv
import HandS.ExcIs
import HandS.Style
import KE.KExcIs
import KE.IntTextLaws
import HandS.Head0
import HandS.Head1
import HandS.Head2
import HandS.HeadHook1
import HandS.HeadHook2
import HandS.HeadHook3
import HandS.HeadHook4
import HandS.HeadWalk
import PyProof.Rows.StrJoinMade
import PySem.Challenge.RW_plainmarks_k18_texts_of_no_diaries
set_option Elab.async false
set_option linter.all false
set_option maxRecDepth 100000
set_option Elab.async false
set_option maxHeartbeats 4000000
/-! DL0: data in place of addresses: what a value stands for (Rp), trees that are one's own (Own), the relation of slots and contents (Rel). -/
namespace DL
open PySem PySem.Spec L2

abbrev D := PyData
def kD : Key → D
  | .inl i => .int i
  | .inr x => .str x

/-- a caught exception's object, of the class C -/
def ExPh (C : Addr) (d : Option Addr) (a : Addr) : HO := .ext fun h => ∃ (oe : Obj) (vs : Array Value), h.get? a = some oe ∧ Zc (.ref C) d oe ∧ oe.data = .fields vs
def absD : D → V
  | .int i => .int i
  | .bool b => .bl b
  | .str x => .str x
  | _ => .non
/-- how a thing of which only its address is known, and how a caught exception stand among data: as what no dict is -/
abbrev refD (a : Addr) : D := .dict [(.none, .int (a : Nat))]
abbrev excD (C : Addr) : D := .dict [(.none, .none), (.none, .int (C : Nat))]
abbrev excPD (C : Addr) (z : D) : D := .dict [(.none, .none), (.none, .int (C : Nat)), (.none, z)]
def plainD : D → Bool
  | .dict ((.none, _) :: _) => false
  | _ => true
mutual
inductive Rp (F : Hp) : V → D → Prop
  | non : Rp F .non .none
  | bl (b : Bool) : Rp F (.bl b) (.bool b)
  | int (i : Int) : Rp F (.int i) (.int i)
  | str (x : Str) : Rp F (.str x) (.str x)
  | lst {a : Addr} {xs : List V} {ds : List D} : F a = some (.lst xs) → RpL F xs ds → Rp F (.ref a) (.list ds)
  | tup {a : Addr} {xs : List V} {ds : List D} : F a = some (.tup xs) → RpL F xs ds → Rp F (.ref a) (.tuple ds)
  | dct {a : Addr} {kvs : List (Key × V)} {ds : List (D × D)} : F a = some (.dK kvs) → RpK F kvs ds → Rp F (.ref a) (.dict ds)
  | ref (a : Addr) : Rp F (.ref a) (.dict [(.none, .int (a : Nat))])
  | exc {a C : Addr} : F a = some (ExPh C none a) → Rp F (.ref a) (.dict [(.none, .none), (.none, .int (C : Nat))])
  | excP {a C p : Addr} {z : D} : F a = some (ExPh C (some p) a) → F p = some (.xd [("at", absD z)]) → Rp F (.ref a) (.dict [(.none, .none), (.none, .int (C : Nat)), (.none, z)])
inductive RpL (F : Hp) : List V → List D → Prop
  | nil : RpL F [] []
  | cons {v : V} {vs : List V} {d : D} {ds : List D} : Rp F v d → RpL F vs ds → RpL F (v :: vs) (d :: ds)
inductive RpK (F : Hp) : List (Key × V) → List (D × D) → Prop
  | nil : RpK F [] []
  | cons {k : Key} {v : V} {vs : List (Key × V)} {d : D} {ds : List (D × D)} : Rp F v d → RpK F vs ds → RpK F ((k, v) :: vs) ((kD k, d) :: ds)
end

mutual
theorem Rp.mono {F F' : Hp} (s : Same F F') : ∀ {v : V} {d : D}, Rp F v d → Rp F' v d
  | _, _, .non => .non
  | _, _, .bl b => .bl b
  | _, _, .int i => .int i
  | _, _, .str x => .str x
  | _, _, .lst h r => .lst (s _ _ h) (RpL.mono s r)
  | _, _, .tup h r => .tup (s _ _ h) (RpL.mono s r)
  | _, _, .dct h r => .dct (s _ _ h) (RpK.mono s r)
  | _, _, .ref a => .ref a
  | _, _, .exc h => .exc (s _ _ h)
  | _, _, .excP h r => .excP (s _ _ h) (s _ _ r)
theorem RpL.mono {F F' : Hp} (s : Same F F') : ∀ {v : List V} {d : List D}, RpL F v d → RpL F' v d
  | _, _, .nil => .nil
  | _, _, .cons h r => .cons (Rp.mono s h) (RpL.mono s r)
theorem RpK.mono {F F' : Hp} (s : Same F F') : ∀ {v : List (Key × V)} {d : List (D × D)}, RpK F v d → RpK F' v d
  | _, _, .nil => .nil
  | _, _, .cons h r => .cons (Rp.mono s h) (RpK.mono s r)
end
theorem RpL.length {F : Hp} : ∀ {v : List V} {d : List D}, RpL F v d → v.length = d.length
  | _, _, .nil => rfl
  | _, _, .cons _ r => congrArg (· + 1) r.length
theorem RpL.get {F : Hp} : ∀ {vs : List V} {ds : List D} {i : Nat} {d : D}, RpL F vs ds → ds[i]? = some d → ∃ v, vs[i]? = some v ∧ Rp F v d
  | _, _, i, d, .nil, e => by simp at e
  | _, _, 0, d, .cons h _, e => ⟨_, rfl, by
    have e' := Option.some.inj e
    subst e'
    exact h⟩
  | _, _, i + 1, d, .cons _ r, e => r.get (i := i) (by simpa using e)
theorem RpL.getV {F : Hp} : ∀ {vs : List V} {ds : List D} {i : Nat} {v : V}, RpL F vs ds → vs[i]? = some v → ∃ d, ds[i]? = some d ∧ Rp F v d
  | _, _, i, d, .nil, e => by simp at e
  | _, _, 0, d, .cons h _, e => ⟨_, rfl, by
    have e' := Option.some.inj e
    subst e'
    exact h⟩
  | _, _, i + 1, d, .cons _ r, e => r.getV (i := i) (by simpa using e)
theorem RpL.append {F : Hp} : ∀ {vs : List V} {ds : List D} {us : List V} {es : List D}, RpL F vs ds → RpL F us es → RpL F (vs ++ us) (ds ++ es)
  | _, _, _, _, .nil, h => h
  | _, _, _, _, .cons h r, h' => .cons h (r.append h')
theorem RpL.take {F : Hp} : ∀ {vs : List V} {ds : List D} (n : Nat), RpL F vs ds → RpL F (vs.take n) (ds.take n)
  | _, _, 0, _ => .nil
  | _, _, n + 1, .nil => .nil
  | _, _, n + 1, .cons h r => .cons h (r.take n)
theorem RpL.drop {F : Hp} : ∀ {vs : List V} {ds : List D} (n : Nat), RpL F vs ds → RpL F (vs.drop n) (ds.drop n)
  | _, _, 0, h => h
  | _, _, n + 1, .nil => .nil
  | _, _, n + 1, .cons _ r => r.drop n
theorem RpL.set {F : Hp} : ∀ {vs : List V} {ds : List D} (i : Nat) {v : V} {d : D}, RpL F vs ds → Rp F v d → RpL F (vs.set i v) (ds.set i d)
  | _, _, _, _, _, .nil, _ => .nil
  | _, _, 0, _, _, .cons _ r, h => .cons h r
  | _, _, i + 1, _, _, .cons h0 r, h => .cons h0 (r.set i h)
theorem RpL.eraseIdx {F : Hp} : ∀ {vs : List V} {ds : List D} (i : Nat), RpL F vs ds → RpL F (vs.eraseIdx i) (ds.eraseIdx i)
  | _, _, _, .nil => .nil
  | _, _, 0, .cons _ r => r
  | _, _, i + 1, .cons h0 r => .cons h0 (r.eraseIdx i)
theorem RpL.reverse {F : Hp} : ∀ {vs : List V} {ds : List D}, RpL F vs ds → RpL F vs.reverse ds.reverse
  | _, _, .nil => .nil
  | _, _, .cons h r => by
    rw [List.reverse_cons, List.reverse_cons]
    exact r.reverse.append (.cons h .nil)
/-- lists of ints, of texts, of truths -/
theorem RpL.ints {F : Hp} : ∀ {vs : List V} {ns : List Int}, RpL F vs (ns.map PyData.int) → vs = ns.map V.int
  | _, [], h => by cases h; rfl
  | _, n :: ns, h => by
    cases h with
    | cons h r =>
      cases h
      rw [RpL.ints (ns := ns) r]
      rfl
theorem RpL.ofInts {F : Hp} : ∀ (ns : List Int), RpL F (ns.map V.int) (ns.map PyData.int)
  | [] => .nil
  | n :: ns => .cons (.int n) (RpL.ofInts ns)
theorem RpL.strs {F : Hp} : ∀ {vs : List V} {ns : List Str}, RpL F vs (ns.map PyData.str) → vs = ns.map V.str
  | _, [], h => by cases h; rfl
  | _, n :: ns, h => by
    cases h with
    | cons h r =>
      cases h
      rw [RpL.strs (ns := ns) r]
      rfl
theorem RpL.ofStrs {F : Hp} : ∀ (ns : List Str), RpL F (ns.map V.str) (ns.map PyData.str)
  | [] => .nil
  | n :: ns => .cons (.str n) (RpL.ofStrs ns)
theorem RpL.bls {F : Hp} : ∀ {vs : List V} {ns : List Bool}, RpL F vs (ns.map PyData.bool) → vs = ns.map V.bl
  | _, [], h => by cases h; rfl
  | _, n :: ns, h => by
    cases h with
    | cons h r =>
      cases h
      rw [RpL.bls (ns := ns) r]
      rfl

/-! ### trees of one's own -/
inductive T where
  | leaf (d : D)
  | lst (ts : List T)
  | obj (k : Nat) (s : D)

abbrev Fp := Addr → Prop
/-- kinds of objects that are told by hand: which data s the thing v bears, on the addresses S -/
structure Kinds where
  ok : Nat → D → V → Hp → Hp → Fp → Prop
  frame : ∀ {k s v F H S F' H'}, ok k s v F H S → (∀ a, S a → H' a = H a) → Same F F' → (∀ a, S a → F' a = none) → ok k s v F' H' S
  apart : ∀ {k s v F H S}, ok k s v F H S → ∀ a, S a → F a = none ∧ H a ≠ none

mutual
inductive Own (B : Kinds) (F H : Hp) : T → V → Fp → Prop
  | leaf {d : D} {v : V} : Rp F v d → Own B F H (.leaf d) v (fun _ => False)
  | lst {a : Addr} {vs : List V} {ts : List T} {S : Fp} : H a = some (.lst vs) → F a = none → OwnL B F H ts vs S → ¬ S a → Own B F H (.lst ts) (.ref a) (fun b => b = a ∨ S b)
  | obj {k : Nat} {s : D} {v : V} {S : Fp} : B.ok k s v F H S → Own B F H (.obj k s) v S
inductive OwnL (B : Kinds) (F H : Hp) : List T → List V → Fp → Prop
  | nil : OwnL B F H [] [] (fun _ => False)
  | cons {t : T} {ts : List T} {v : V} {vs : List V} {S1 S2 : Fp} : Own B F H t v S1 → OwnL B F H ts vs S2 → (∀ a, S1 a → S2 a → False) → OwnL B F H (t :: ts) (v :: vs) (fun a => S1 a ∨ S2 a)
end
mutual
theorem Own.frame {B : Kinds} {F H F' H' : Hp} (sF : Same F F') : ∀ {t : T} {v : V} {S : Fp}, Own B F H t v S → (∀ a, S a → H' a = H a) → (∀ a, S a → F' a = none) → Own B F' H' t v S
  | _, _, _, .leaf r, _, _ => .leaf (r.mono sF)
  | _, _, _, .lst h f r n, k, g => .lst ((k _ (.inl rfl)).trans h) (g _ (.inl rfl)) (OwnL.frame sF r (fun a z => k a (.inr z)) fun a z => g a (.inr z)) n
  | _, _, _, .obj h, k, g => .obj (B.frame h k sF g)
theorem OwnL.frame {B : Kinds} {F H F' H' : Hp} (sF : Same F F') : ∀ {t : List T} {v : List V} {S : Fp}, OwnL B F H t v S → (∀ a, S a → H' a = H a) → (∀ a, S a → F' a = none) → OwnL B F' H' t v S
  | _, _, _, .nil, _, _ => .nil
  | _, _, _, .cons h r d, k, g => .cons (Own.frame sF h (fun a z => k a (.inl z)) fun a z => g a (.inl z)) (OwnL.frame sF r (fun a z => k a (.inr z)) fun a z => g a (.inr z)) d
end
mutual
theorem Own.apart {B : Kinds} {F H : Hp} : ∀ {t : T} {v : V} {S : Fp}, Own B F H t v S → ∀ a, S a → F a = none ∧ H a ≠ none
  | _, _, _, .leaf _, _, z => z.elim
  | _, _, _, .lst h f r n, a, z => by
    rcases z with rfl | z
    · exact ⟨f, by rw [h]; exact fun q => nomatch q⟩
    · exact OwnL.apart r a z
  | _, _, _, .obj h, a, z => B.apart h a z
theorem OwnL.apart {B : Kinds} {F H : Hp} : ∀ {t : List T} {v : List V} {S : Fp}, OwnL B F H t v S → ∀ a, S a → F a = none ∧ H a ≠ none
  | _, _, _, .nil, _, z => z.elim
  | _, _, _, .cons h r d, a, z => by
    rcases z with z | z
    · exact Own.apart h a z
    · exact OwnL.apart r a z
end
def leaves (ds : List D) : List T := ds.map T.leaf
theorem OwnL.ofLeaves {B : Kinds} {F H : Hp} : ∀ {ds : List D} {vs : List V}, RpL F vs ds → OwnL B F H (leaves ds) vs (fun _ => False)
  | [], _, .nil => .nil
  | d :: ds, _, .cons h r => by
    have e : (fun a : Addr => (fun _ : Addr => False) a ∨ (fun _ : Addr => False) a) = fun _ : Addr => False := by
      funext a
      exact propext ⟨fun z => z.elim id id, fun z => z.elim⟩
    have q := OwnL.cons (B := B) (F := F) (H := H) (.leaf h) (OwnL.ofLeaves (ds := ds) r) (fun a z => z.elim)
    rw [e] at q
    exact q
theorem OwnL.toLeaves {B : Kinds} {F H : Hp} : ∀ {ds : List D} {vs : List V} {S : Fp}, OwnL B F H (leaves ds) vs S → RpL F vs ds ∧ ∀ a, ¬ S a
  | [], _, _, .nil => ⟨.nil, fun _ z => z⟩
  | d :: ds, _, _, .cons h r _ => by
    obtain ⟨r1, r2⟩ := OwnL.toLeaves (ds := ds) r
    cases h with
    | leaf h => exact ⟨.cons h r1, fun a z => z.elim id (r2 a)⟩
theorem OwnL.length {B : Kinds} {F H : Hp} : ∀ {ts : List T} {vs : List V} {S : Fp}, OwnL B F H ts vs S → vs.length = ts.length
  | _, _, _, .nil => rfl
  | _, _, _, .cons _ r _ => congrArg (· + 1) r.length
/-- a list of one's own, of frozen things -/
abbrev own (ds : List D) : T := .lst (leaves ds)
theorem Own.list {B : Kinds} {F H : Hp} {ds : List D} {v : V} {S : Fp} (h : Own B F H (own ds) v S) : ∃ a vs, v = .ref a ∧ H a = some (.lst vs) ∧ F a = none ∧ RpL F vs ds ∧ S = (fun b => b = a) := by
  generalize e : (own ds) = t at h
  cases h with
  | leaf _ => cases e
  | obj _ => cases e
  | lst h f r n =>
    injection e with e
    subst e
    obtain ⟨r1, r2⟩ := OwnL.toLeaves r
    refine ⟨_, _, rfl, h, f, r1, ?_⟩
    funext b
    exact propext ⟨fun z => z.elim id fun z => (r2 b z).elim, .inl⟩
theorem Own.ofList {B : Kinds} {F H : Hp} {ds : List D} {a : Addr} {vs : List V} (h : H a = some (.lst vs)) (f : F a = none) (r : RpL F vs ds) : Own B F H (own ds) (.ref a) (fun b => b = a) := by
  have q := Own.lst (B := B) h f (OwnL.ofLeaves r) (fun z => z)
  have e : (fun b : Addr => b = a ∨ (fun _ : Addr => False) b) = fun b : Addr => b = a := by
    funext b
    exact propext ⟨fun z => z.elim id fun z => z.elim, .inl⟩
  rw [e] at q
  exact q

/-! ### steps of the world -/
structure Step (W : Fp) (F H F' H' : Hp) : Prop where
  ff : Same F F'
  fh : Same F' H'
  new : ∀ a, F' a ≠ none → F a ≠ none ∨ H a = none
  kept : ∀ a o, H a = some o → ¬ W a → H' a = some o
  alive : ∀ a, H a ≠ none → H' a ≠ none
theorem Step.refl {W : Fp} {F H : Hp} (h : Same F H) : Step W F H F H := ⟨Same.refl _, h, fun _ z => .inl z, fun _ _ z _ => z, fun _ z => z⟩
theorem Step.trans {W W2 : Fp} {F H F1 H1 F2 H2 : Hp} (a : Step W F H F1 H1) (b : Step W2 F1 H1 F2 H2) (hW : ∀ x, W2 x → H x ≠ none → W x) : Step W F H F2 H2 where
  ff := a.ff.trans b.ff
  fh := b.fh
  new := fun x z => by
    rcases b.new x z with z | z
    · exact a.new x z
    · refine .inr ?_
      cases q : H x with
      | none => rfl
      | some o => exact absurd z (a.alive x (by rw [q]; exact fun e => nomatch e))
  kept := fun x o h n => b.kept x o (a.kept x o h n) fun w => n (hW x w (by rw [h]; exact fun e => nomatch e))
  alive := fun x h => b.alive x (a.alive x h)
/-- what was not frozen and stood stays unfrozen -/
theorem Step.unfrozen {W : Fp} {F H F' H' : Hp} (s : Step W F H F' H') {a : Addr} (f : F a = none) (h : H a ≠ none) : F' a = none := by
  cases q : F' a with
  | none => rfl
  | some o =>
    rcases s.new a (by rw [q]; exact fun e => nomatch e) with z | z
    · exact absurd f z
    · exact absurd z h
/-- a new frozen object -/
theorem Step.laid {F H : Hp} {p : Addr} {o : HO} (h : Same F H) (n : H p = none) : Step (fun _ => False) F H (upd F p o) (upd H p o) where
  ff := fun b u e => by
    have q := h _ _ e
    rw [upd_ne (ne_of_none q n)]; exact e
  fh := fun b u e => by
    by_cases hb : b = p
    · subst hb; rw [upd_same] at e ⊢; exact e
    · rw [upd_ne hb] at e ⊢; exact h _ _ e
  new := fun a z => by
    by_cases hb : a = p
    · subst hb; exact .inr n
    · rw [upd_ne hb] at z; exact .inl z
  kept := fun a u e _ => by rw [upd_ne (ne_of_none e n)]; exact e
  alive := fun a z => by
    by_cases hb : a = p
    · subst hb; rw [upd_same]; exact fun e => nomatch e
    · rw [upd_ne hb]; exact z
/-- a new object of one's own -/
theorem Step.laidO {F H : Hp} {p : Addr} {o : HO} (h : Same F H) (n : H p = none) : Step (fun _ => False) F H F (upd H p o) where
  ff := Same.refl _
  fh := fun b u e => by
    have q := h _ _ e
    rw [upd_ne (ne_of_none q n)]; exact q
  new := fun a z => .inl z
  kept := fun a u e _ => by rw [upd_ne (ne_of_none e n)]; exact e
  alive := fun a z => by
    by_cases hb : a = p
    · subst hb; rw [upd_same]; exact fun e => nomatch e
    · rw [upd_ne hb]; exact z
/-- one's own object is changed -/
theorem Step.write {F H : Hp} {p : Addr} {o : HO} (h : Same F H) (f : F p = none) : Step (fun b => b = p) F H F (upd H p o) where
  ff := Same.refl _
  fh := fun b u e => by
    have hb : b ≠ p := fun z => by subst z; rw [f] at e; cases e
    rw [upd_ne hb]; exact h _ _ e
  new := fun a z => .inl z
  kept := fun a u e w => by rw [upd_ne w]; exact e
  alive := fun a z => by
    by_cases hb : a = p
    · subst hb; rw [upd_same]; exact fun e => nomatch e
    · rw [upd_ne hb]; exact z
/-- one's own object is frozen -/
theorem Step.freeze {F H : Hp} {p : Addr} {o : HO} (h : Same F H) (e : H p = some o) (f : F p = none) : Same F (upd F p o) ∧ Same (upd F p o) H := by
  refine ⟨fun b u q => ?_, fun b u q => ?_⟩
  · have hb : b ≠ p := fun z => by subst z; rw [f] at q; cases q
    rw [upd_ne hb]; exact q
  · by_cases hb : b = p
    · subst hb; rw [upd_same] at q; rw [← q]; exact e
    · rw [upd_ne hb] at q; exact h _ _ q

/-! ### slots and contents -/
inductive C where
  | no
  | val (d : D)
  | own (t : T)
abbrev Env' := List C
/-- what is pending elsewhere: told by its addresses -/
structure Frm where
  ok : Hp → Hp → Fp → Prop
  frame : ∀ {F H S F' H'}, ok F H S → (∀ a, S a → H' a = H a) → Same F F' → (∀ a, S a → F' a = none) → ok F' H' S
  apart : ∀ {F H S}, ok F H S → ∀ a, S a → F a = none ∧ H a ≠ none
structure Ent where
  F : Hp
  H : Hp
  n : Nat
  W : Nat → Fp
  pin : Nat → Option V
  fr : Frm
def Frm.emp : Frm where
  ok := fun _ _ S => ∀ a, ¬ S a
  frame := fun h _ _ _ => h
  apart := fun h a z => (h a z).elim
def SlotOk (B : Kinds) (F H : Hp) : C → Option V → Fp → Prop
  | .no, _, S => ∀ a, ¬ S a
  | .val d, some v, S => Rp F v d ∧ ∀ a, ¬ S a
  | .own t, some v, S => Own B F H t v S
  | _, none, _ => False
structure Rel (B : Kinds) (P : List Nat) (G : Ent) (F H : Hp) (σ : St) (ρ : Env') : Prop where
  step : Step (fun a => ∃ i, G.W i a) G.F G.H F H
  len : σ.length = ρ.length
  pinP : ∀ i v, G.pin i = some v → i ∈ P
  wP : ∀ i a, G.W i a → i ∈ P
  wl : ∀ i a, G.W i a → i < G.n
  nl : G.n ≤ σ.length
  pin : ∀ i v, G.pin i = some v → σ[i]? = some (some v)
  ss : ∃ (Ss : Nat → Fp) (E : Fp), (∀ i (c : C) (o : Option V), ρ[i]? = some c → σ[i]? = some o → SlotOk B F H c o (Ss i)) ∧ (∀ i, ρ[i]? = none → ∀ a, ¬ Ss i a) ∧ (∀ i j a, i ≠ j → Ss i a → Ss j a → False) ∧ (∀ i a, Ss i a → G.H a = none ∨ G.W i a) ∧ G.fr.ok F H E ∧ (∀ i a, Ss i a → E a → False) ∧ ∀ a, E a → G.H a = none
theorem SlotOk.apart {B : Kinds} {F H : Hp} {c : C} {o : Option V} {S : Fp} (h : SlotOk B F H c o S) : ∀ a, S a → F a = none ∧ H a ≠ none := by
  cases c with
  | no => exact fun a z => (h a z).elim
  | val d =>
    cases o with
    | none => exact False.elim h
    | some v => exact fun a z => (h.2 a z).elim
  | own t =>
    cases o with
    | none => exact False.elim h
    | some v => exact Own.apart h
theorem SlotOk.frame {B : Kinds} {F H F' H' : Hp} (sF : Same F F') {c : C} {o : Option V} {S : Fp} (h : SlotOk B F H c o S) (k : ∀ a, S a → H' a = H a) (g : ∀ a, S a → F' a = none) : SlotOk B F' H' c o S := by
  cases c with
  | no => exact h
  | val d =>
    cases o with
    | none => exact h
    | some v => exact ⟨h.1.mono sF, h.2⟩
  | own t =>
    cases o with
    | none => exact h
    | some v => exact Own.frame sF h k g
section
variable {B : Kinds} {P : List Nat} {G : Ent} {F H F' H' : Hp} {σ : St} {ρ : Env'}
theorem Rel.fh (R : Rel B P G F H σ ρ) : Same F H := R.step.fh
theorem Rel.val (R : Rel B P G F H σ ρ) {i : Nat} {d : D} (h : ρ[i]? = some (.val d)) : ∃ v, σ[i]? = some (some v) ∧ Rp F v d := by
  obtain ⟨Ss, E, h1, _⟩ := R.ss
  have hi : i < σ.length := by rw [R.len]; exact (List.getElem?_eq_some_iff.mp h).1
  have e : σ[i]? = some σ[i] := List.getElem?_eq_getElem hi
  have q := h1 i _ _ h e
  cases z : σ[i] with
  | none => rw [z] at q; exact False.elim q
  | some v => rw [z] at q; exact ⟨v, by rw [e, z], q.1⟩
/-- a step that writes nothing of the slots' own -/
theorem Rel.go (R : Rel B P G F H σ ρ) (s : Step (fun _ => False) F H F' H') : Rel B P G F' H' σ ρ := by
  obtain ⟨Ss, E, h1, h2, h3, h4, h5, h6, h7⟩ := R.ss
  refine ⟨R.step.trans s (fun _ z _ => z.elim), R.len, R.pinP, R.wP, R.wl, R.nl, R.pin, Ss, E, fun i c o e1 e2 => ?_, h2, h3, h4, G.fr.frame h5 (fun a z => ?_) s.ff (fun a z => s.unfrozen (G.fr.apart h5 a z).1 (G.fr.apart h5 a z).2), h6, h7⟩
  rotate_left
  · obtain ⟨_, hh⟩ := G.fr.apart h5 a z
    cases w : H a with
    | none => exact absurd w hh
    | some o => exact s.kept a o w (fun z => z)
  have q := h1 i c o e1 e2
  refine q.frame s.ff (fun a z => ?_) fun a z => s.unfrozen (q.apart a z).1 (q.apart a z).2
  obtain ⟨_, hh⟩ := q.apart a z
  cases w : H a with
  | none => exact absurd w hh
  | some o => exact s.kept a o w (fun z => z)
theorem Rel.setVal (R : Rel B P G F H σ ρ) {i : Nat} {v : V} {d : D} (hp : i ∉ P) (r : Rp F v d) : Rel B P G F H (σ.set i (some v)) (ρ.set i (.val d)) := by
  obtain ⟨Ss, E, h1, h2, h3, h4, h5, h6, h7⟩ := R.ss
  refine ⟨R.step, by rw [List.length_set, List.length_set]; exact R.len, R.pinP, R.wP, R.wl, by rw [List.length_set]; exact R.nl, fun j w e => ?_, fun j => if j = i then fun _ => False else Ss j, E, fun j c o e1 e2 => ?_, fun j e a => ?_, fun j k a n z1 z2 => ?_, fun j a z => ?_, h5, fun j a z ze => ?_, h7⟩
  · have hj : j ≠ i := fun z => by subst z; exact hp (R.pinP _ _ e)
    rw [List.getElem?_set_ne (Ne.symm hj)]
    exact R.pin j w e
  · show SlotOk B F H c o (if j = i then fun _ => False else Ss j)
    by_cases hj : j = i
    · subst hj
      rw [if_pos rfl]
      have l1 : j < ρ.length := by
        have := (List.getElem?_eq_some_iff.mp e1).1
        rw [List.length_set] at this; exact this
      rw [List.getElem?_set_self l1] at e1
      rw [List.getElem?_set_self (by rw [R.len]; exact l1)] at e2
      cases e1; cases e2
      exact ⟨r, fun _ z => z⟩
    · rw [if_neg hj]
      rw [List.getElem?_set_ne (Ne.symm hj)] at e1 e2
      exact h1 j c o e1 e2
  · show ¬ (if j = i then fun _ => False else Ss j) a
    by_cases hj : j = i
    · rw [if_pos hj]; exact fun z => z
    · rw [if_neg hj]
      rw [List.getElem?_set_ne (Ne.symm hj)] at e
      exact h2 j e a
  · have z1 : (if j = i then fun _ => False else Ss j) a := z1
    have z2 : (if k = i then fun _ => False else Ss k) a := z2
    by_cases hj : j = i
    · rw [if_pos hj] at z1; exact z1
    · by_cases hk : k = i
      · rw [if_pos hk] at z2; exact z2
      · rw [if_neg hj] at z1; rw [if_neg hk] at z2; exact h3 j k a n z1 z2
  · have z : (if j = i then fun _ => False else Ss j) a := z
    by_cases hj : j = i
    · rw [if_pos hj] at z; exact z.elim
    · rw [if_neg hj] at z; exact h4 j a z
  · have z : (if j = i then fun _ => False else Ss j) a := z
    by_cases hj : j = i
    · rw [if_pos hj] at z; exact z.elim
    · rw [if_neg hj] at z; exact h6 j a z ze
/-- a slot is forgotten -/
theorem Rel.drop (R : Rel B P G F H σ ρ) {i : Nat} {o : Option V} (hp : i ∉ P) : Rel B P G F H (σ.set i o) (ρ.set i .no) := by
  obtain ⟨Ss, E, h1, h2, h3, h4, h5, h6, h7⟩ := R.ss
  refine ⟨R.step, by rw [List.length_set, List.length_set]; exact R.len, R.pinP, R.wP, R.wl, by rw [List.length_set]; exact R.nl, fun j w e => ?_, fun j => if j = i then fun _ => False else Ss j, E, fun j c o e1 e2 => ?_, fun j e a => ?_, fun j k a n z1 z2 => ?_, fun j a z => ?_, h5, fun j a z ze => ?_, h7⟩
  · have hj : j ≠ i := fun z => by subst z; exact hp (R.pinP _ _ e)
    rw [List.getElem?_set_ne (Ne.symm hj)]
    exact R.pin j w e
  · show SlotOk B F H c o (if j = i then fun _ => False else Ss j)
    by_cases hj : j = i
    · subst hj
      rw [if_pos rfl]
      have l1 : j < ρ.length := by
        have := (List.getElem?_eq_some_iff.mp e1).1
        rw [List.length_set] at this; exact this
      rw [List.getElem?_set_self l1] at e1
      cases e1
      exact fun _ z => z
    · rw [if_neg hj]
      rw [List.getElem?_set_ne (Ne.symm hj)] at e1 e2
      exact h1 j c o e1 e2
  · show ¬ (if j = i then fun _ => False else Ss j) a
    by_cases hj : j = i
    · rw [if_pos hj]; exact fun z => z
    · rw [if_neg hj]
      rw [List.getElem?_set_ne (Ne.symm hj)] at e
      exact h2 j e a
  · have z1 : (if j = i then fun _ => False else Ss j) a := z1
    have z2 : (if k = i then fun _ => False else Ss k) a := z2
    by_cases hj : j = i
    · rw [if_pos hj] at z1; exact z1
    · by_cases hk : k = i
      · rw [if_pos hk] at z2; exact z2
      · rw [if_neg hj] at z1; rw [if_neg hk] at z2; exact h3 j k a n z1 z2
  · have z : (if j = i then fun _ => False else Ss j) a := z
    by_cases hj : j = i
    · rw [if_pos hj] at z; exact z.elim
    · rw [if_neg hj] at z; exact h4 j a z
  · have z : (if j = i then fun _ => False else Ss j) a := z
    by_cases hj : j = i
    · rw [if_pos hj] at z; exact z.elim
    · rw [if_neg hj] at z; exact h6 j a z ze
/-- the slot's own list -/
theorem Rel.own (R : Rel B P G F H σ ρ) {i : Nat} {ds : List D} (h : ρ[i]? = some (.own (own ds))) : ∃ a vs, σ[i]? = some (some (.ref a)) ∧ H a = some (.lst vs) ∧ F a = none ∧ RpL F vs ds := by
  obtain ⟨Ss, E, h1, _⟩ := R.ss
  have hi : i < σ.length := by rw [R.len]; exact (List.getElem?_eq_some_iff.mp h).1
  have e : σ[i]? = some σ[i] := List.getElem?_eq_getElem hi
  have q := h1 i _ _ h e
  cases z : σ[i] with
  | none => rw [z] at q; exact False.elim q
  | some v =>
    rw [z] at q
    obtain ⟨a, vs, rfl, h2, h3, h4, _⟩ := Own.list q
    exact ⟨a, vs, by rw [e, z], h2, h3, h4⟩
/-- the slot's own list is written -/
theorem Rel.write (R : Rel B P G F H σ ρ) {i : Nat} {ds es : List D} {a : Addr} {us : List V} (h : ρ[i]? = some (.own (DL.own ds))) (hs : σ[i]? = some (some (.ref a))) (r : RpL F us es) :
    Rel B P G F (upd H a (.lst us)) σ (ρ.set i (.own (DL.own es))) := by
  obtain ⟨Ss, E, h1, h2, h3, h4, h5, h6, h7⟩ := R.ss
  obtain ⟨a', vs, e1, e2, f, _, hS⟩ := Own.list (h1 i _ _ h hs)
  cases e1
  have hi : i < ρ.length := (List.getElem?_eq_some_iff.mp h).1
  have ha : Ss i a := by rw [hS]
  refine ⟨R.step.trans (Step.write R.fh f) (fun x z hx => ?_), by rw [List.length_set]; exact R.len, R.pinP, R.wP, R.wl, R.nl, R.pin, Ss, E, fun j c o q1 q2 => ?_, fun j q => ?_, h3, h4, G.fr.frame h5 (fun b z => upd_ne fun w => by subst w; exact h6 i b ha z) (Same.refl _) (fun b z => (G.fr.apart h5 b z).1), h6, h7⟩
  · subst z
    exact (h4 i x ha).elim (fun z => absurd z hx) fun z => ⟨i, z⟩
  · by_cases hj : j = i
    · subst hj
      rw [List.getElem?_set_self hi] at q1
      cases q1
      rw [hs] at q2
      cases q2
      show Own B F (upd H a (.lst us)) (DL.own es) (.ref a) (Ss j)
      rw [hS]
      exact Own.ofList upd_same f r
    · rw [List.getElem?_set_ne (Ne.symm hj)] at q1
      refine (h1 j c o q1 q2).frame (Same.refl _) (fun b z => upd_ne fun w => ?_) fun b z => ((h1 j c o q1 q2).apart b z).1
      subst w
      exact h3 j i b hj z ha
  · rw [List.getElem?_set] at q
    by_cases hj : i = j
    · subst hj
      rw [if_pos rfl, if_pos hi] at q
      cases q
    · rw [if_neg hj] at q
      exact h2 j q
/-- the slot's own list is frozen -/
theorem Rel.frz (R : Rel B P G F H σ ρ) {i : Nat} {ds : List D} {a : Addr} {vs : List V} (hw : ∀ a, ¬ G.W i a) (h : ρ[i]? = some (.own (DL.own ds))) (hs : σ[i]? = some (some (.ref a))) (e : H a = some (.lst vs)) :
    Rel B P G (upd F a (.lst vs)) H σ (ρ.set i (.val (.list ds))) ∧ Rp (upd F a (.lst vs)) (.ref a) (.list ds) ∧ Same F (upd F a (.lst vs)) := by
  obtain ⟨Ss, E, h1, h2, h3, h4, h5, h6, h7⟩ := R.ss
  obtain ⟨a', vs', e1, e2, f, r, hS⟩ := Own.list (h1 i _ _ h hs)
  cases e1
  rw [e] at e2
  cases e2
  have hi : i < ρ.length := (List.getElem?_eq_some_iff.mp h).1
  have ha : Ss i a := by rw [hS]
  have hn : G.H a = none := (h4 i a ha).elim id fun z => absurd z (hw a)
  obtain ⟨s1, s2⟩ := Step.freeze R.fh e f
  have rp : Rp (upd F a (.lst vs)) (.ref a) (.list ds) := .lst upd_same (r.mono s1)
  refine ⟨⟨⟨R.step.ff.trans s1, s2, fun b z => ?_, R.step.kept, R.step.alive⟩, by rw [List.length_set]; exact R.len, R.pinP, R.wP, R.wl, R.nl, R.pin, fun j => if j = i then fun _ => False else Ss j, E, fun j c o q1 q2 => ?_, fun j q b => ?_, fun j k b n z1 z2 => ?_, fun j b z => ?_, G.fr.frame h5 (fun b z => rfl) s1 (fun b z => ?_), fun j b z ze => ?_, h7⟩, rp, s1⟩
  · by_cases hb : b = a
    · subst hb; exact .inr hn
    · rw [upd_ne hb] at z; exact R.step.new b z
  · show SlotOk B _ H c o (if j = i then fun _ => False else Ss j)
    by_cases hj : j = i
    · subst hj
      rw [if_pos rfl]
      rw [List.getElem?_set_self hi] at q1
      cases q1
      rw [hs] at q2
      cases q2
      exact ⟨rp, fun _ z => z⟩
    · rw [if_neg hj]
      rw [List.getElem?_set_ne (Ne.symm hj)] at q1
      refine (h1 j c o q1 q2).frame s1 (fun b z => rfl) fun b z => ?_
      have hb : b ≠ a := fun w => by subst w; exact h3 j i b hj z ha
      rw [upd_ne hb]
      exact ((h1 j c o q1 q2).apart b z).1
  · show ¬ (if j = i then fun _ => False else Ss j) b
    by_cases hj : j = i
    · rw [if_pos hj]; exact fun z => z
    · rw [if_neg hj]
      rw [List.getElem?_set_ne (Ne.symm hj)] at q
      exact h2 j q b
  · have z1 : (if j = i then fun _ => False else Ss j) b := z1
    have z2 : (if k = i then fun _ => False else Ss k) b := z2
    by_cases hj : j = i
    · rw [if_pos hj] at z1; exact z1
    · by_cases hk : k = i
      · rw [if_pos hk] at z2; exact z2
      · rw [if_neg hj] at z1; rw [if_neg hk] at z2; exact h3 j k b n z1 z2
  · have z : (if j = i then fun _ => False else Ss j) b := z
    by_cases hj : j = i
    · rw [if_pos hj] at z; exact z.elim
    · rw [if_neg hj] at z; exact h4 j b z
  · have hb : b ≠ a := fun w => by subst w; exact h6 i b ha z
    rw [upd_ne hb]
    exact (G.fr.apart h5 b z).1
  · have z : (if j = i then fun _ => False else Ss j) b := z
    by_cases hj : j = i
    · rw [if_pos hj] at z; exact z.elim
    · rw [if_neg hj] at z; exact h6 j b z ze
theorem Rel.noW (R : Rel B P G F H σ ρ) (a : Addr) : ¬ G.W σ.length a := fun z => absurd (R.wl _ _ z) (Nat.not_lt.mpr R.nl)
theorem Rel.noW' (R : Rel B P G F H σ ρ) {i : Nat} (hp : i ∉ P) (a : Addr) : ¬ G.W i a := fun z => hp (R.wP _ _ z)
/-- a new list of one's own, pending -/
theorem Rel.pend (R : Rel B P G F H σ ρ) {p : Addr} {us : List V} {zs : List D} (n : H p = none) (r : RpL F us zs) : Rel B P G F (upd H p (.lst us)) (σ ++ [some (.ref p)]) (ρ ++ [.own (DL.own zs)]) := by
  have R1 := R.go (Step.laidO (o := .lst us) R.fh n)
  have fn : F p = none := by
    cases q : F p with
    | none => rfl
    | some o => rw [R.fh _ _ q] at n; cases n
  have gn : G.H p = none := by
    cases q : G.H p with
    | none => rfl
    | some o => exact absurd n (R.step.alive p (by rw [q]; exact fun e => nomatch e))
  obtain ⟨Ss, E, h1, h2, h3, h4, h5, h6, h7⟩ := R.ss
  have old : ∀ j a, Ss j a → a ≠ p := fun j a z e => by
    subst e
    cases q : ρ[j]? with
    | none => exact h2 j q _ z
    | some c =>
      have hj : j < σ.length := by rw [R.len]; exact (List.getElem?_eq_some_iff.mp q).1
      exact ((h1 j c _ q (List.getElem?_eq_getElem hj)).apart _ z).2 n
  have L := R.len
  refine ⟨R1.step, by rw [List.length_append, List.length_append, L]; rfl, R.pinP, R.wP, R.wl, by rw [List.length_append]; exact Nat.le_trans R.nl (Nat.le_add_right _ _), fun j w e => ?_, fun j => if j = ρ.length then fun b => b = p else Ss j, E, fun j c o q1 q2 => ?_, fun j q b => ?_, fun j k b ne z1 z2 => ?_, fun j b z => ?_, G.fr.frame h5 (fun b z => upd_ne fun w => by subst w; exact (G.fr.apart h5 b z).2 n) (Same.refl _) (fun b z => (G.fr.apart h5 b z).1), fun j b z ze => ?_, h7⟩
  · have q := R.pin j w e
    rw [List.getElem?_append_left (List.getElem?_eq_some_iff.mp q).1]; exact q
  · show SlotOk B _ _ c o (if j = ρ.length then fun b => b = p else Ss j)
    by_cases hj : j = ρ.length
    · subst hj
      rw [if_pos rfl]
      rw [List.getElem?_append_right (Nat.le_refl _), Nat.sub_self] at q1
      rw [← L, List.getElem?_append_right (Nat.le_refl _), Nat.sub_self] at q2
      cases q1; cases q2
      exact Own.ofList upd_same fn r
    · rw [if_neg hj]
      have hl : j < ρ.length := by
        have := (List.getElem?_eq_some_iff.mp q1).1
        rw [List.length_append] at this
        have e1 : ([C.own (DL.own zs)] : List C).length = 1 := rfl
        omega
      rw [List.getElem?_append_left hl] at q1
      rw [List.getElem?_append_left (by rw [L]; exact hl)] at q2
      exact (h1 j c o q1 q2).frame (Same.refl _) (fun a z => upd_ne (old j a z)) fun a z => ((h1 j c o q1 q2).apart a z).1
  · show ¬ (if j = ρ.length then fun b => b = p else Ss j) b
    have hl : ρ.length < j := by
      have := List.getElem?_eq_none_iff.mp q
      rw [List.length_append] at this
      have e1 : ([C.own (DL.own zs)] : List C).length = 1 := rfl
      omega
    rw [if_neg (by omega)]
    exact h2 j (List.getElem?_eq_none_iff.mpr (by omega)) b
  · have z1 : (if j = ρ.length then fun b => b = p else Ss j) b := z1
    have z2 : (if k = ρ.length then fun b => b = p else Ss k) b := z2
    by_cases hj : j = ρ.length
    · rw [if_pos hj] at z1
      by_cases hk : k = ρ.length
      · exact ne (hj.trans hk.symm)
      · rw [if_neg hk] at z2; exact old k b z2 z1
    · rw [if_neg hj] at z1
      by_cases hk : k = ρ.length
      · rw [if_pos hk] at z2; exact old j b z1 z2
      · rw [if_neg hk] at z2; exact h3 j k b ne z1 z2
  · have z : (if j = ρ.length then fun b => b = p else Ss j) b := z
    by_cases hj : j = ρ.length
    · rw [if_pos hj] at z; subst z; exact .inl gn
    · rw [if_neg hj] at z; exact h4 j b z
  · have z : (if j = ρ.length then fun b => b = p else Ss j) b := z
    by_cases hj : j = ρ.length
    · rw [if_pos hj] at z; subst z; exact (G.fr.apart h5 b ze).2 n
    · rw [if_neg hj] at z; exact h6 j b z ze
/-- what is pending is let go -/
theorem Rel.unpend {o : Option V} {c : C} (h : σ.length = ρ.length) (hn : G.n ≤ σ.length) (hp : ∀ i v, G.pin i = some v → i < σ.length) (R : Rel B P G F H (σ ++ [o]) (ρ ++ [c])) : Rel B P G F H σ ρ := by
  obtain ⟨Ss, E, h1, h2, h3, h4, h5, h6, h7⟩ := R.ss
  refine ⟨R.step, h, R.pinP, R.wP, R.wl, hn, fun j w e => ?_, fun j => if j < ρ.length then Ss j else fun _ => False, E, fun j c' o' q1 q2 => ?_, fun j q b => ?_, fun j k b ne z1 z2 => ?_, fun j b z => ?_, h5, fun j b z ze => ?_, h7⟩
  · have q := R.pin j w e
    rw [List.getElem?_append_left (hp j w e)] at q; exact q
  · have hl := (List.getElem?_eq_some_iff.mp q1).1
    show SlotOk B _ _ c' o' (if j < ρ.length then Ss j else fun _ => False)
    rw [if_pos hl]
    exact h1 j c' o' (by rw [List.getElem?_append_left hl]; exact q1) (by rw [List.getElem?_append_left (by rw [h]; exact hl)]; exact q2)
  · show ¬ (if j < ρ.length then Ss j else fun _ => False) b
    rw [if_neg (by have := List.getElem?_eq_none_iff.mp q; omega)]
    exact fun z => z
  · have z1 : (if j < ρ.length then Ss j else fun _ => False) b := z1
    have z2 : (if k < ρ.length then Ss k else fun _ => False) b := z2
    by_cases hj : j < ρ.length
    · rw [if_pos hj] at z1
      by_cases hk : k < ρ.length
      · rw [if_pos hk] at z2; exact h3 j k b ne z1 z2
      · rw [if_neg hk] at z2; exact z2
    · rw [if_neg hj] at z1; exact z1
  · have z : (if j < ρ.length then Ss j else fun _ => False) b := z
    by_cases hj : j < ρ.length
    · rw [if_pos hj] at z; exact h4 j b z
    · rw [if_neg hj] at z; exact z.elim
  · have z : (if j < ρ.length then Ss j else fun _ => False) b := z
    by_cases hj : j < ρ.length
    · rw [if_pos hj] at z; exact h6 j b z ze
    · rw [if_neg hj] at z; exact z.elim
/-- what is pending is laid into a slot -/
theorem Rel.settle {o : Option V} {c : C} {i : Nat} (h : σ.length = ρ.length) (hn : G.n ≤ σ.length) (hp : ∀ i v, G.pin i = some v → i < σ.length) (R : Rel B P G F H (σ ++ [o]) (ρ ++ [c])) (hi : i < σ.length) (hP : i ∉ P) : Rel B P G F H (σ.set i o) (ρ.set i c) := by
  obtain ⟨Ss, E, h1, h2, h3, h4, h5, h6, h7⟩ := R.ss
  have wn : ∀ a, ¬ G.W ρ.length a := fun a z => absurd (R.wl _ _ z) (by omega)
  refine ⟨R.step, by rw [List.length_set, List.length_set]; exact h, R.pinP, R.wP, R.wl, by rw [List.length_set]; exact hn, fun j w e => ?_, fun j => if j = i then Ss ρ.length else if j < ρ.length then Ss j else fun _ => False, E, fun j c' o' q1 q2 => ?_, fun j q b => ?_, fun j k b ne z1 z2 => ?_, fun j b z => ?_, h5, fun j b z ze => ?_, h7⟩
  · have q := R.pin j w e
    rw [List.getElem?_append_left (hp j w e)] at q
    have hj : i ≠ j := fun z => by subst z; exact hP (R.pinP _ _ e)
    rw [List.getElem?_set_ne hj]; exact q
  · have hl : j < ρ.length := by
      have := (List.getElem?_eq_some_iff.mp q1).1
      rw [List.length_set] at this; exact this
    show SlotOk B _ _ c' o' (if j = i then Ss ρ.length else if j < ρ.length then Ss j else fun _ => False)
    by_cases hj : j = i
    · rw [if_pos hj]
      subst hj
      rw [List.getElem?_set_self hl] at q1
      rw [List.getElem?_set_self hi] at q2
      cases q1; cases q2
      exact h1 ρ.length _ _ (by rw [List.getElem?_append_right (Nat.le_refl _), Nat.sub_self]; rfl) (by rw [← h, List.getElem?_append_right (Nat.le_refl _), Nat.sub_self]; rfl)
    · rw [if_neg hj, if_pos hl]
      rw [List.getElem?_set_ne (Ne.symm hj)] at q1 q2
      exact h1 j c' o' (by rw [List.getElem?_append_left hl]; exact q1) (by rw [List.getElem?_append_left (by rw [h]; exact hl)]; exact q2)
  · show ¬ (if j = i then Ss ρ.length else if j < ρ.length then Ss j else fun _ => False) b
    have hl : ρ.length ≤ j := by
      have := List.getElem?_eq_none_iff.mp q
      rw [List.length_set] at this; exact this
    rw [if_neg (by omega), if_neg (by omega)]
    exact fun z => z
  · have z1 : (if j = i then Ss ρ.length else if j < ρ.length then Ss j else fun _ => False) b := z1
    have z2 : (if k = i then Ss ρ.length else if k < ρ.length then Ss k else fun _ => False) b := z2
    by_cases hj : j = i
    · rw [if_pos hj] at z1
      by_cases hk : k = i
      · exact ne (hj.trans hk.symm)
      · rw [if_neg hk] at z2
        by_cases hk2 : k < ρ.length
        · rw [if_pos hk2] at z2; exact h3 _ _ b (by omega) z1 z2
        · rw [if_neg hk2] at z2; exact z2
    · rw [if_neg hj] at z1
      by_cases hj2 : j < ρ.length
      · rw [if_pos hj2] at z1
        by_cases hk : k = i
        · rw [if_pos hk] at z2; exact h3 _ _ b (by omega) z1 z2
        · rw [if_neg hk] at z2
          by_cases hk2 : k < ρ.length
          · rw [if_pos hk2] at z2; exact h3 _ _ b ne z1 z2
          · rw [if_neg hk2] at z2; exact z2
      · rw [if_neg hj2] at z1; exact z1
  · have z : (if j = i then Ss ρ.length else if j < ρ.length then Ss j else fun _ => False) b := z
    by_cases hj : j = i
    · rw [if_pos hj] at z
      exact (h4 _ b z).imp id fun w => absurd w (wn b)
    · rw [if_neg hj] at z
      by_cases hj2 : j < ρ.length
      · rw [if_pos hj2] at z; exact h4 j b z
      · rw [if_neg hj2] at z; exact z.elim
  · have z : (if j = i then Ss ρ.length else if j < ρ.length then Ss j else fun _ => False) b := z
    by_cases hj : j = i
    · rw [if_pos hj] at z; exact h6 _ b z ze
    · rw [if_neg hj] at z
      by_cases hj2 : j < ρ.length
      · rw [if_pos hj2] at z; exact h6 j b z ze
      · rw [if_neg hj2] at z; exact z.elim
/-- a pending value, frozen -/
theorem Rel.pushVal (R : Rel B P G F H σ ρ) {v : V} {d : D} (r : Rp F v d) : Rel B P G F H (σ ++ [some v]) (ρ ++ [.val d]) := by
  obtain ⟨Ss, E, h1, h2, h3, h4, h5, h6, h7⟩ := R.ss
  have L := R.len
  refine ⟨R.step, by rw [List.length_append, List.length_append, L]; rfl, R.pinP, R.wP, R.wl, by rw [List.length_append]; exact Nat.le_trans R.nl (Nat.le_add_right _ _), fun j w e => ?_, Ss, E, fun j c o q1 q2 => ?_, fun j q => ?_, h3, h4, h5, h6, h7⟩
  · have q := R.pin j w e
    rw [List.getElem?_append_left (List.getElem?_eq_some_iff.mp q).1]; exact q
  · by_cases hj : j < ρ.length
    · rw [List.getElem?_append_left hj] at q1
      rw [List.getElem?_append_left (by rw [L]; exact hj)] at q2
      exact h1 j c o q1 q2
    · have hl := (List.getElem?_eq_some_iff.mp q1).1
      rw [List.length_append] at hl
      have e1 : ([C.val d] : List C).length = 1 := rfl
      have hj : j = ρ.length := by omega
      subst hj
      rw [List.getElem?_append_right (Nat.le_refl _), Nat.sub_self] at q1
      rw [← L, List.getElem?_append_right (Nat.le_refl _), Nat.sub_self] at q2
      cases q1; cases q2
      exact ⟨r, h2 _ (List.getElem?_eq_none_iff.mpr (Nat.le_refl _))⟩
  · refine h2 j (List.getElem?_eq_none_iff.mpr ?_)
    have := List.getElem?_eq_none_iff.mp q
    rw [List.length_append] at this
    omega
/-- a slot's own tree goes out of the slot -/
theorem Rel.moveOut (R : Rel B P G F H σ ρ) {i : Nat} {t : T} {v : V} (hP : i ∉ P) (h : ρ[i]? = some (.own t)) (hs : σ[i]? = some (some v)) : Rel B P G F H (σ ++ [some v]) (ρ.set i .no ++ [.own t]) := by
  obtain ⟨Ss, E, h1, h2, h3, h4, h5, h6, h7⟩ := R.ss
  have L := R.len
  have hi : i < ρ.length := (List.getElem?_eq_some_iff.mp h).1
  have hown := h1 i _ _ h hs
  have Ll : (ρ.set i C.no).length = ρ.length := List.length_set
  refine ⟨R.step, by rw [List.length_append, List.length_append, L, Ll]; rfl, R.pinP, R.wP, R.wl, by rw [List.length_append]; exact Nat.le_trans R.nl (Nat.le_add_right _ _), fun j w e => ?_, fun j => if j = i then fun _ => False else if j = ρ.length then Ss i else Ss j, E, fun j c o q1 q2 => ?_, fun j q b => ?_, fun j k b ne z1 z2 => ?_, fun j b z => ?_, h5, fun j b z ze => ?_, h7⟩
  · have q := R.pin j w e
    rw [List.getElem?_append_left (List.getElem?_eq_some_iff.mp q).1]; exact q
  · show SlotOk B F H c o (if j = i then fun _ => False else if j = ρ.length then Ss i else Ss j)
    by_cases hj : j = i
    · subst hj
      rw [if_pos rfl]
      rw [List.getElem?_append_left (by rw [Ll]; exact hi), List.getElem?_set_self hi] at q1
      cases q1
      exact fun _ z => z
    · rw [if_neg hj]
      by_cases hj2 : j < ρ.length
      · rw [if_neg (by omega)]
        rw [List.getElem?_append_left (by rw [Ll]; exact hj2), List.getElem?_set_ne (Ne.symm hj)] at q1
        rw [List.getElem?_append_left (by rw [L]; exact hj2)] at q2
        exact h1 j c o q1 q2
      · have hl := (List.getElem?_eq_some_iff.mp q1).1
        rw [List.length_append, Ll] at hl
        have e1 : ([C.own t] : List C).length = 1 := rfl
        have hj3 : j = ρ.length := by omega
        rw [if_pos hj3]
        subst hj3
        rw [← Ll, List.getElem?_append_right (Nat.le_refl _), Nat.sub_self] at q1
        rw [← L, List.getElem?_append_right (Nat.le_refl _), Nat.sub_self] at q2
        cases q1; cases q2
        exact hown
  · show ¬ (if j = i then fun _ => False else if j = ρ.length then Ss i else Ss j) b
    have hl : ρ.length < j := by
      have := List.getElem?_eq_none_iff.mp q
      rw [List.length_append, Ll] at this
      have e1 : ([C.own t] : List C).length = 1 := rfl
      omega
    rw [if_neg (by omega), if_neg (by omega)]
    exact h2 j (List.getElem?_eq_none_iff.mpr (by omega)) b
  · have z1 : (if j = i then fun _ => False else if j = ρ.length then Ss i else Ss j) b := z1
    have z2 : (if k = i then fun _ => False else if k = ρ.length then Ss i else Ss k) b := z2
    by_cases hj : j = i
    · rw [if_pos hj] at z1; exact z1
    · by_cases hk : k = i
      · rw [if_pos hk] at z2; exact z2
      · rw [if_neg hj] at z1
        rw [if_neg hk] at z2
        by_cases hj2 : j = ρ.length
        · rw [if_pos hj2] at z1
          rw [if_neg (by omega)] at z2
          exact h3 i k b (fun e => hk e.symm) z1 z2
        · rw [if_neg hj2] at z1
          by_cases hk2 : k = ρ.length
          · rw [if_pos hk2] at z2
            exact h3 j i b hj z1 z2
          · rw [if_neg hk2] at z2
            exact h3 j k b ne z1 z2
  · have z : (if j = i then fun _ => False else if j = ρ.length then Ss i else Ss j) b := z
    by_cases hj : j = i
    · rw [if_pos hj] at z; exact z.elim
    · rw [if_neg hj] at z
      by_cases hj2 : j = ρ.length
      · rw [if_pos hj2] at z
        exact (h4 i b z).imp id fun w => absurd (R.wP _ _ w) hP
      · rw [if_neg hj2] at z; exact h4 j b z
  · have z : (if j = i then fun _ => False else if j = ρ.length then Ss i else Ss j) b := z
    by_cases hj : j = i
    · rw [if_pos hj] at z; exact z.elim
    · rw [if_neg hj] at z
      by_cases hj2 : j = ρ.length
      · rw [if_pos hj2] at z; exact h6 i b z ze
      · rw [if_neg hj2] at z; exact h6 j b z ze
/-- an entry with one more pending tree -/
def Ent.held (B : Kinds) (G : Ent) (v : V) (t : T) : Ent := { G with fr := {
  ok := fun F H S => ∃ S1 S2 : Fp, (∀ a, S a ↔ S1 a ∨ S2 a) ∧ (∀ a, S1 a → S2 a → False) ∧ G.fr.ok F H S1 ∧ Own B F H t v S2
  frame := fun {F H S F' H'} h k s g => by
    obtain ⟨S1, S2, e, d, a, b⟩ := h
    exact ⟨S1, S2, e, d, G.fr.frame a (fun x z => k x ((e x).mpr (.inl z))) s (fun x z => g x ((e x).mpr (.inl z))), Own.frame s b (fun x z => k x ((e x).mpr (.inr z))) (fun x z => g x ((e x).mpr (.inr z)))⟩
  apart := fun {F H S} h x z => by
    obtain ⟨S1, S2, e, d, a, b⟩ := h
    rcases (e x).mp z with z | z
    · exact G.fr.apart a x z
    · exact Own.apart b x z } }
theorem Rel.hold {v : V} {t : T} (l : σ.length = ρ.length) (hn : G.n ≤ σ.length) (hp : ∀ i v, G.pin i = some v → i < σ.length) (R : Rel B P G F H (σ ++ [some v]) (ρ ++ [.own t])) : Rel B P (G.held B v t) F H σ ρ := by
  obtain ⟨Ss, E, h1, h2, h3, h4, h5, h6, h7⟩ := R.ss
  have wn : ∀ a, ¬ G.W ρ.length a := fun a z => absurd (R.wl _ _ z) (by omega)
  have q1 : (ρ ++ [C.own t])[ρ.length]? = some (.own t) := by rw [List.getElem?_append_right (Nat.le_refl _), Nat.sub_self]; rfl
  have q2 : (σ ++ [some v])[ρ.length]? = some (some v) := by rw [← l, List.getElem?_append_right (Nat.le_refl _), Nat.sub_self]; rfl
  have ow := h1 _ _ _ q1 q2
  refine ⟨R.step, l, R.pinP, R.wP, R.wl, hn, fun j w e => ?_, fun j => if j < ρ.length then Ss j else fun _ => False, fun a => E a ∨ Ss ρ.length a, fun j c' o' q1 q2 => ?_, fun j q b => ?_, fun j k b ne z1 z2 => ?_, fun j b z => ?_, ⟨E, Ss ρ.length, fun a => Iff.rfl, fun a z1 z2 => h6 _ a z2 z1, h5, ow⟩, fun j b z ze => ?_, fun a z => ?_⟩
  · have q := R.pin j w e
    rw [List.getElem?_append_left (hp j w e)] at q; exact q
  · have hl := (List.getElem?_eq_some_iff.mp q1).1
    show SlotOk B _ _ c' o' (if j < ρ.length then Ss j else fun _ => False)
    rw [if_pos hl]
    exact h1 j c' o' (by rw [List.getElem?_append_left hl]; exact q1) (by rw [List.getElem?_append_left (by rw [l]; exact hl)]; exact q2)
  · show ¬ (if j < ρ.length then Ss j else fun _ => False) b
    rw [if_neg (by have := List.getElem?_eq_none_iff.mp q; omega)]
    exact fun z => z
  · have z1 : (if j < ρ.length then Ss j else fun _ => False) b := z1
    have z2 : (if k < ρ.length then Ss k else fun _ => False) b := z2
    by_cases hj : j < ρ.length
    · rw [if_pos hj] at z1
      by_cases hk : k < ρ.length
      · rw [if_pos hk] at z2; exact h3 j k b ne z1 z2
      · rw [if_neg hk] at z2; exact z2
    · rw [if_neg hj] at z1; exact z1
  · have z : (if j < ρ.length then Ss j else fun _ => False) b := z
    by_cases hj : j < ρ.length
    · rw [if_pos hj] at z; exact h4 j b z
    · rw [if_neg hj] at z; exact z.elim
  · have z : (if j < ρ.length then Ss j else fun _ => False) b := z
    by_cases hj : j < ρ.length
    · rw [if_pos hj] at z
      rcases ze with ze | ze
      · exact h6 j b z ze
      · exact h3 j ρ.length b (by omega) z ze
    · rw [if_neg hj] at z; exact z
  · rcases z with z | z
    · exact h7 a z
    · exact (h4 _ a z).elim id fun w => absurd w (wn a)
theorem Rel.unhold {v : V} {t : T} (R : Rel B P (G.held B v t) F H σ ρ) : Rel B P G F H (σ ++ [some v]) (ρ ++ [.own t]) := by
  obtain ⟨Ss, E, h1, h2, h3, h4, ⟨E1, E2, ee, ed, h5, ow⟩, h6, h7⟩ := R.ss
  have l := R.len
  refine ⟨R.step, by rw [List.length_append, List.length_append, l]; rfl, R.pinP, R.wP, R.wl, by rw [List.length_append]; exact Nat.le_trans R.nl (Nat.le_add_right _ _), fun j w e => ?_, fun j => if j = ρ.length then E2 else Ss j, E1, fun j c o q1 q2 => ?_, fun j q b => ?_, fun j k b ne z1 z2 => ?_, fun j b z => ?_, h5, fun j b z ze => ?_, fun a z => h7 a ((ee a).mpr (.inl z))⟩
  · have q := R.pin j w e
    rw [List.getElem?_append_left (List.getElem?_eq_some_iff.mp q).1]; exact q
  · show SlotOk B _ _ c o (if j = ρ.length then E2 else Ss j)
    by_cases hj : j = ρ.length
    · subst hj
      rw [if_pos rfl]
      rw [List.getElem?_append_right (Nat.le_refl _), Nat.sub_self] at q1
      rw [← l, List.getElem?_append_right (Nat.le_refl _), Nat.sub_self] at q2
      cases q1; cases q2
      exact ow
    · rw [if_neg hj]
      have hl : j < ρ.length := by
        have := (List.getElem?_eq_some_iff.mp q1).1
        rw [List.length_append] at this
        have e1 : ([C.own t] : List C).length = 1 := rfl
        omega
      rw [List.getElem?_append_left hl] at q1
      rw [List.getElem?_append_left (by rw [l]; exact hl)] at q2
      exact h1 j c o q1 q2
  · show ¬ (if j = ρ.length then E2 else Ss j) b
    have hl : ρ.length < j := by
      have := List.getElem?_eq_none_iff.mp q
      rw [List.length_append] at this
      have e1 : ([C.own t] : List C).length = 1 := rfl
      omega
    rw [if_neg (by omega)]
    exact h2 j (List.getElem?_eq_none_iff.mpr (by omega)) b
  · have z1 : (if j = ρ.length then E2 else Ss j) b := z1
    have z2 : (if k = ρ.length then E2 else Ss k) b := z2
    by_cases hj : j = ρ.length
    · rw [if_pos hj] at z1
      by_cases hk : k = ρ.length
      · exact ne (hj.trans hk.symm)
      · rw [if_neg hk] at z2; exact h6 k b z2 ((ee b).mpr (.inr z1))
    · rw [if_neg hj] at z1
      by_cases hk : k = ρ.length
      · rw [if_pos hk] at z2; exact h6 j b z1 ((ee b).mpr (.inr z2))
      · rw [if_neg hk] at z2; exact h3 j k b ne z1 z2
  · have z : (if j = ρ.length then E2 else Ss j) b := z
    by_cases hj : j = ρ.length
    · rw [if_pos hj] at z; exact .inl (h7 b ((ee b).mpr (.inr z)))
    · rw [if_neg hj] at z; exact h4 j b z
  · have z : (if j = ρ.length then E2 else Ss j) b := z
    by_cases hj : j = ρ.length
    · rw [if_pos hj] at z; exact ed b ze z
    · rw [if_neg hj] at z; exact h6 j b z ((ee b).mpr (.inl ze))
theorem Rel.pinL (R : Rel B P G F H σ ρ) : ∀ i v, G.pin i = some v → i < σ.length := fun i v e => (List.getElem?_eq_some_iff.mp (R.pin i v e)).1
end
end DL
set_option maxHeartbeats 4000000
/-! DL1: readings over contents: expressions, tests, operands, arguments. -/
namespace DL
open PySem PySem.Spec L2

structure Exn where
  cls : Nat
  pay : Option D
abbrev PX := Exn → Env' → Prop
abbrev WE := Env' → (D → Env' → Prop) → PX → Prop
abbrev WO := Env' → (T → Env' → Prop) → PX → Prop
abbrev WB := Env' → (Bool → Env' → Prop) → PX → Prop
def ExnAt (ca : Nat → Value) (x : Exn) (cls : Value) (dd : Option Addr) (F : Hp) : Prop :=
  cls = ca x.cls ∧ match x.pay with
    | none => dd = none
    | some d => ∃ p, dd = some p ∧ F p = some (.xd [("at", absD d)])

/-- what is fixed through a def's body: kinds, the parameters of one's own, the classes of exceptions, the wish about exceptions -/
structure Cf where
  B : Kinds
  P : List Nat
  ca : Nat → Value
  W : WX
abbrev Cf.nox (c : Cf) : Cf := { c with W := fun _ _ _ _ => False }
section
variable (c : Cf)
def PostD (G : Ent) (σ : L2.St) (F : Hp) (Qd : D → Env' → Prop) (Q : VK) : Prop := ∀ d v F' H' ρ', Rel c.B c.P G F' H' σ ρ' → Same F F' → Rp F' v d → Qd d ρ' → Q v H'
def PostO (G : Ent) (σ : L2.St) (F : Hp) (Qt : T → Env' → Prop) (Q : VK) : Prop := ∀ t v F' H' ρ', σ.length = ρ'.length → Rel c.B c.P G F' H' (σ ++ [some v]) (ρ' ++ [.own t]) → Same F F' → Qt t ρ' → Q v H'
def PostB (G : Ent) (σ : L2.St) (F : Hp) (Qb : Bool → Env' → Prop) (Q : Bool → Hp → Prop) : Prop := ∀ b F' H' ρ', Rel c.B c.P G F' H' σ ρ' → Same F F' → Qb b ρ' → Q b H'
def PostX (G : Ent) (σ : L2.St) (F : Hp) (Qx : PX) : Prop := ∀ x cls dd F' H' ρ', Rel c.B c.P G F' H' σ ρ' → Same F F' → ExnAt c.ca x cls dd F' → Qx x ρ' → c.W cls dd σ H'
def RE (w : WE) : TE := fun σ H Q => ∃ G F ρ Qd Qx, Rel c.B c.P G F H σ ρ ∧ w ρ Qd Qx ∧ PostD c G σ F Qd Q ∧ PostX c G σ F Qx
def RO (w : WO) : TE := fun σ H Q => ∃ G F ρ Qd Qx, Rel c.B c.P G F H σ ρ ∧ w ρ Qd Qx ∧ PostO c G σ F Qd Q ∧ PostX c G σ F Qx
def RB (w : WB) : TT := fun σ H Q => ∃ G F ρ Qd Qx, Rel c.B c.P G F H σ ρ ∧ w ρ Qd Qx ∧ PostB c G σ F Qd Q ∧ PostX c G σ F Qx
end
abbrev DE (X : Cx) (c : Cf) (e : Expr) (w : WE) : Prop := PE X e (RE c w)
abbrev DO (X : Cx) (c : Cf) (e : Expr) (w : WO) : Prop := PE X e (RO c w)
abbrev DT (X : Cx) (c : Cf) (e : Expr) (w : WB) : Prop := PT X e (RB c w)
abbrev DW (X : Cx) (c : Cf) (e : Expr) (w : WB) : Prop := PW X e (RB c w)
theorem _root_.L2.PE.imp {X : Cx} {e : Expr} {t t' : TE} (h : PE X e t) (i : ∀ σ H Q, t' σ H Q → t σ H Q) : PE X e t' := ⟨fun pins s σ H Q I q => h.run pins s σ H Q I (i σ H Q q)⟩
theorem _root_.L2.PT.imp {X : Cx} {e : Expr} {t t' : TT} (h : PT X e t) (i : ∀ σ H Q, t' σ H Q → t σ H Q) : PT X e t' := ⟨fun pins s σ H Q I q => h.run pins s σ H Q I (i σ H Q q)⟩
theorem _root_.L2.PW.imp {X : Cx} {e : Expr} {t t' : TT} (h : PW X e t) (i : ∀ σ H Q, t' σ H Q → t σ H Q) : PW X e t' := ⟨fun wh pins s σ H Q I q => h.run wh pins s σ H Q I (i σ H Q q)⟩
theorem _root_.L2.PA.imp {X : Cx} {e : List Expr} {t t' : TA} (h : PA X e t) (i : ∀ σ H Q, t' σ H Q → t σ H Q) : PA X e t' := ⟨fun wh pins s σ H Q I q => h.run wh pins s σ H Q I (i σ H Q q)⟩
theorem _root_.L2.PS.imp {X : Cx} {e : Stmt} {t t' : TS} (h : PS X e t) (i : ∀ σ H Q, t' σ H Q → t σ H Q) : PS X e t' := ⟨fun pins s σ H Q I q => h.run pins s σ H Q I (i Q σ H q)⟩
theorem _root_.L2.PSs.imp {X : Cx} {e : List Stmt} {t t' : TS} (h : PSs X e t) (i : ∀ D σ H, t' D σ H → t D σ H) : PSs X e t' := ⟨fun pins s σ H Q I q => h.run pins s σ H Q I (i Q σ H q)⟩
theorem _root_.L2.PI.imp {X : Cx} {tg e : Expr} {t t' : TI} (h : PI X tg e t) (i : ∀ σ H Q, t' σ H Q → t σ H Q) : PI X tg e t' := ⟨fun pins s σ H Q I q => h.run pins s σ H Q I (i σ H Q q)⟩
section
variable {X : Cx} {c : Cf}
theorem PostX.later {G : Ent} {σ : L2.St} {F F1 : Hp} {Qx : PX} (p : PostX c G σ F Qx) (s : Same F F1) : PostX c G σ F1 Qx := fun x cls dd F' H' ρ' R s1 e q => p x cls dd F' H' ρ' R (s.trans s1) e q
theorem PostD.later {G : Ent} {σ : L2.St} {F F1 : Hp} {Qd : D → Env' → Prop} {Q : VK} (p : PostD c G σ F Qd Q) (s : Same F F1) : PostD c G σ F1 Qd Q := fun d v F' H' ρ' R s1 e q => p d v F' H' ρ' R (s.trans s1) e q
theorem PostB.later {G : Ent} {σ : L2.St} {F F1 : Hp} {Qd : Bool → Env' → Prop} {Q : Bool → Hp → Prop} (p : PostB c G σ F Qd Q) (s : Same F F1) : PostB c G σ F1 Qd Q := fun d F' H' ρ' R s1 q => p d F' H' ρ' R (s.trans s1) q
theorem PostO.later {G : Ent} {σ : L2.St} {F F1 : Hp} {Qd : T → Env' → Prop} {Q : VK} (p : PostO c G σ F Qd Q) (s : Same F F1) : PostO c G σ F1 Qd Q := fun d v F' H' ρ' l R s1 q => p d v F' H' ρ' l R (s.trans s1) q

/-! ### names, constants -/
theorem Rel.tree {B : Kinds} {P : List Nat} {G : Ent} {F H : Hp} {σ : L2.St} {ρ : Env'} (R : Rel B P G F H σ ρ) {i : Nat} {t : T} (h : ρ[i]? = some (.own t)) : ∃ v, σ[i]? = some (some v) := by
  obtain ⟨Ss, E, h1, _⟩ := R.ss
  have hi : i < σ.length := by rw [R.len]; exact (List.getElem?_eq_some_iff.mp h).1
  have e : σ[i]? = some σ[i] := List.getElem?_eq_getElem hi
  have q := h1 i _ _ h e
  cases z : σ[i] with
  | none => rw [z] at q; exact q.elim
  | some v => exact ⟨v, by rw [e, z]⟩
def wVar (i : Nat) : WE := fun ρ Q _ => match ρ[i]? with
  | some (.val d) => Q d ρ
  | _ => False
theorem de_var {i : Nat} {e : Expr} (h : PE X e (tVar i)) : DE X c e (wVar i) := h.imp fun σ H Q ⟨G, F, ρ, Qd, Qx, R, h, pd, px⟩ => by
  unfold wVar at h
  split at h
  · rename_i d e1
    obtain ⟨v, e2, r⟩ := R.val e1
    exact ⟨v, e2, pd d v F H ρ R (Same.refl _) r h⟩
  · exact h.elim
def wC (d : D) : WE := fun ρ Q _ => Q d ρ
theorem de_c {v : V} {d : D} {e : Expr} (h : PE X e (tC v)) (r : ∀ F, Rp F v d) : DE X c e (wC d) := h.imp fun σ H Q ⟨G, F, ρ, Qd, Qx, R, h, pd, px⟩ => pd d v F H ρ R (Same.refl _) (r F) h
theorem de_int {i j pos} : DE X c (.Constant (.int i) j pos) (wC (.int i)) := de_c pe_int fun _ => .int _
theorem de_bl {i j pos} : DE X c (.Constant (.bool i) j pos) (wC (.bool i)) := de_c pe_bl fun _ => .bl _
theorem de_str {i j pos} : DE X c (.Constant (.str i) j pos) (wC (.str i)) := de_c pe_str fun _ => .str _
theorem de_non {j pos} : DE X c (.Constant .none j pos) (wC .none) := de_c pe_non fun _ => .non

/-! ### operands: a value, or a slot's own list -/
inductive Pend where
  | v (x : D)
  | slot (i : Nat)
inductive Opd where
  | e (w : WE)
  | own (i : Nat)
abbrev WP := Env' → (Pend → Env' → Prop) → PX → Prop
/-- a tree's data, where it is a list of frozen things -/
def T.leafD : T → Option D
  | .leaf d => some d
  | _ => none
def leafDs : List T → Option (List D)
  | [] => some []
  | t :: ts => match t.leafD, leafDs ts with
    | some d, some ds => some (d :: ds)
    | _, _ => none
theorem leafDs_leaves : ∀ ds : List D, leafDs (leaves ds) = some ds
  | [] => rfl
  | d :: ds => by
    show (match T.leafD (.leaf d), leafDs (leaves ds) with
      | some d, some ds => some (d :: ds)
      | _, _ => none) = _
    rw [leafDs_leaves ds]
    rfl
theorem leaves_of : ∀ {ts : List T} {ds : List D}, leafDs ts = some ds → ts = leaves ds
  | [], _, h => by cases h; rfl
  | .leaf d :: ts, ds, h => by
    have h : (match some d, leafDs ts with
      | some d, some ds => some (d :: ds)
      | _, _ => none) = some ds := h
    cases e : leafDs ts with
    | none => rw [e] at h; cases h
    | some es =>
      rw [e] at h
      have h : some (d :: es) = some ds := h
      cases h
      rw [leaves_of e]
      rfl
  | .lst _ :: ts, ds, h => by cases h
  | .obj _ _ :: ts, ds, h => by cases h
def T.asList : T → Option (List D)
  | .lst ts => leafDs ts
  | _ => none
theorem T.own_of {t : T} {ds : List D} (h : t.asList = some ds) : t = DL.own ds := by
  cases t with
  | lst ts => rw [leaves_of (show leafDs ts = some ds from h)]
  | leaf _ => cases h
  | obj _ _ => cases h
theorem own_asList (ds : List D) : (DL.own ds).asList = some ds := leafDs_leaves ds
/-- what a slot's own list is just now -/
def ownAt (ρ : Env') (i : Nat) : Option (List D) := match ρ[i]? with
  | some (.own t) => t.asList
  | _ => none
theorem ownAt_of {ρ : Env'} {i : Nat} {ds : List D} (h : ownAt ρ i = some ds) : ρ[i]? = some (.own (DL.own ds)) := by
  unfold ownAt at h
  split at h
  · rename_i t e
    rw [e, T.own_of h]
  · cases h
def Opd.ev : Opd → WP
  | .e w => fun ρ Q X => w ρ (fun d ρ' => Q (.v d) ρ') X
  | .own i => fun ρ Q _ => match ρ[i]? with
    | some (.own _) => Q (.slot i) ρ
    | _ => False
def Pend.now (ρ : Env') : Pend → Option D
  | .v x => some x
  | .slot i => (ownAt ρ i).map .list
def PendOk (F : Hp) (σ : L2.St) : Pend → V → Prop
  | .v d, v => Rp F v d
  | .slot i, v => σ[i]? = some (some v)
theorem PendOk.mono {F F' : Hp} {σ : L2.St} (s : Same F F') : ∀ {p : Pend} {v : V}, PendOk F σ p v → PendOk F' σ p v
  | .v _, _, h => Rp.mono s h
  | .slot _, _, h => h
/-- what stands for d now: frozen, or a list of frozen things -/
inductive RpS (F H : Hp) : V → D → Prop
  | rp {v : V} {d : D} : Rp F v d → RpS F H v d
  | ls {a : Addr} {vs : List V} {ds : List D} : H a = some (.lst vs) → RpL F vs ds → RpS F H (.ref a) (.list ds)
theorem RpS.list {F H : Hp} {v : V} {ds : List D} (s : Same F H) (h : RpS F H v (.list ds)) : ∃ a vs, v = .ref a ∧ H a = some (.lst vs) ∧ RpL F vs ds := by
  generalize e : (PyData.list ds) = d at h
  cases h with
  | rp r =>
    subst e
    cases r with
    | lst h r => exact ⟨_, _, rfl, s _ _ h, r⟩
  | ls h r => cases e; exact ⟨_, _, rfl, h, r⟩
theorem RpS.tup {F H : Hp} {v : V} {ds : List D} (s : Same F H) (h : RpS F H v (.tuple ds)) : ∃ a vs, v = .ref a ∧ H a = some (.tup vs) ∧ RpL F vs ds := by
  generalize e : (PyData.tuple ds) = d at h
  cases h with
  | rp r =>
    subst e
    cases r with
    | tup h r => exact ⟨_, _, rfl, s _ _ h, r⟩
  | ls h r => cases e
theorem RpS.int {F H : Hp} {v : V} {i : Int} (h : RpS F H v (.int i)) : v = .int i := by
  generalize e : (PyData.int i) = d at h
  cases h with
  | rp r => subst e; cases r; rfl
  | ls h r => cases e
theorem RpS.bl {F H : Hp} {v : V} {i : Bool} (h : RpS F H v (.bool i)) : v = .bl i := by
  generalize e : (PyData.bool i) = d at h
  cases h with
  | rp r => subst e; cases r; rfl
  | ls h r => cases e
theorem RpS.str {F H : Hp} {v : V} {i : Str} (h : RpS F H v (.str i)) : v = .str i := by
  generalize e : (PyData.str i) = d at h
  cases h with
  | rp r => subst e; cases r; rfl
  | ls h r => cases e
theorem RpS.non {F H : Hp} {v : V} (h : RpS F H v .none) : v = .non := by
  generalize e : PyData.none = d at h
  cases h with
  | rp r => subst e; cases r; rfl
  | ls h r => cases e
theorem Rel.now {B : Kinds} {P : List Nat} {G : Ent} {F H : Hp} {σ : L2.St} {ρ : Env'} (R : Rel B P G F H σ ρ) {p : Pend} {v : V} {d : D} (h : PendOk F σ p v) (e : p.now ρ = some d) : RpS F H v d := by
  cases p with
  | v d' => cases e; exact .rp h
  | slot i =>
    have e : Option.map PyData.list (ownAt ρ i) = some d := e
    cases q : ownAt ρ i with
    | none => rw [q] at e; cases e
    | some ds =>
      rw [q] at e
      cases e
      obtain ⟨a, vs, e1, e2, _, r⟩ := R.own (ownAt_of q)
      have h : σ[i]? = some (some v) := h
      rw [e1] at h
      cases h
      exact .ls e2 r
def RP (c : Cf) (w : WP) : TE := fun σ H Q => ∃ G F ρ Qd Qx, Rel c.B c.P G F H σ ρ ∧ w ρ Qd Qx ∧ (∀ p v F' H' ρ', Rel c.B c.P G F' H' σ ρ' → Same F F' → PendOk F' σ p v → Qd p ρ' → Q v H') ∧ PostX c G σ F Qx
abbrev DP (X : Cx) (c : Cf) (e : Expr) (o : Opd) : Prop := PE X e (RP c o.ev)
theorem dp_e {e : Expr} {w : WE} (h : DE X c e w) : DP X c e (.e w) := h.imp fun σ H Q ⟨G, F, ρ, Qd, Qx, R, h, pd, px⟩ => ⟨G, F, ρ, _, Qx, R, h, fun d v F' H' ρ' R' s r q => pd (.v d) v F' H' ρ' R' s r q, px⟩
theorem dp_own {i : Nat} {e : Expr} (h : PE X e (tVar i)) : DP X c e (.own i) := h.imp fun σ H Q ⟨G, F, ρ, Qd, Qx, R, h, pd, px⟩ => by
  have h : (match ρ[i]? with
    | some (.own _) => Qd (.slot i) ρ
    | _ => False) := h
  split at h
  · rename_i t e1
    obtain ⟨v, e2⟩ := R.tree e1
    exact ⟨_, e2, pd (.slot i) _ F H ρ R (Same.refl _) e2 h⟩
  · exact h.elim

/-! ### operators -/
def Snd2 (r : R2) (g : D → D → (D → Prop) → Prop) : Prop := ∀ (F H : Hp) (x y : V) (d e : D) (k : D → Prop) (Q : VK), Same F H → RpS F H x d → RpS F H y e → g d e k →
  (∀ z v F' H', Step (fun _ => False) F H F' H' → Rp F' v z → k z → Q v H') → r x y H Q
def Snd2o (r : R2) (g : D → D → (List D → Prop) → Prop) : Prop := ∀ (F H : Hp) (x y : V) (d e : D) (k : List D → Prop) (Q : VK), Same F H → RpS F H x d → RpS F H y e → g d e k →
  (∀ zs us p, H p = none → RpL F us zs → k zs → Q (.ref p) (upd H p (.lst us))) → r x y H Q
def wOp2 (g : D → D → (D → Prop) → Prop) (a b : Opd) : WE := fun ρ Q X => a.ev ρ (fun p ρ1 => b.ev ρ1 (fun q ρ2 => match p.now ρ2, q.now ρ2 with
  | some x, some y => g x y fun z => Q z ρ2
  | _, _ => False) X) X
def wOp2o (g : D → D → (List D → Prop) → Prop) (a b : Opd) : WO := fun ρ Q X => a.ev ρ (fun p ρ1 => b.ev ρ1 (fun q ρ2 => match p.now ρ2, q.now ρ2 with
  | some x, some y => g x y fun z => Q (DL.own z) ρ2
  | _, _ => False) X) X
theorem op2_run {ta tb : TE} {a b : Expr} {r : R2} {oa ob : Opd} {G : Ent} {F H : Hp} {σ : L2.St} {ρ : Env'} {Qx : PX} {Q : VK} {K : Pend → Pend → Env' → Prop} (R : Rel c.B c.P G F H σ ρ) (px : PostX c G σ F Qx)
    (h : oa.ev ρ (fun p ρ1 => ob.ev ρ1 (fun q ρ2 => K p q ρ2) Qx) Qx)
    (fin : ∀ p q x y F' H' ρ', Rel c.B c.P G F' H' σ ρ' → Same F F' → PendOk F' σ p x → PendOk F' σ q y → K p q ρ' → r x y H' Q) : tOp r (RP c oa.ev) (RP c ob.ev) σ H Q :=
  ⟨G, F, ρ, _, Qx, R, h, fun p x F1 H1 ρ1 R1 s1 r1 h1 => ⟨G, F1, ρ1, _, Qx, R1, h1, fun q y F2 H2 ρ2 R2 s2 r2 h2 => fin p q x y F2 H2 ρ2 R2 (s1.trans s2) (r1.mono s2) r2 h2, px.later s1⟩, px⟩
theorem de_op2 {a b e : Expr} {r : R2} {g : D → D → (D → Prop) → Prop} {oa ob : Opd} (sn : Snd2 r g) (mk : ∀ ta tb, PE X a ta → PE X b tb → PE X e (tOp r ta tb)) (ha : DP X c a oa) (hb : DP X c b ob) : DE X c e (wOp2 g oa ob) :=
  (mk _ _ ha hb).imp fun σ H Q ⟨G, F, ρ, Qd, Qx, R, h, pd, px⟩ => op2_run (ta := RP c oa.ev) (tb := RP c ob.ev) (a := a) (b := b) R px h fun p q x y F' H' ρ' R' s rx ry k => by
    split at k
    · rename_i d e e1 e2
      exact sn F' H' x y d e _ Q R'.fh (R'.now rx e1) (R'.now ry e2) k fun z v F2 H2 st rz kz => pd z v F2 H2 ρ' (R'.go st) (s.trans st.ff) rz kz
    · exact k.elim
theorem Rel.post {G : Ent} {F H F0 : Hp} {σ : L2.St} {ρ : Env'} {Qt : T → Env' → Prop} {Q : VK} (R : Rel c.B c.P G F H σ ρ) (s : Same F0 F) (pd : PostO c G σ F0 Qt Q) {zs : List D} {us : List V} {p : Addr} (n : H p = none) (r : RpL F us zs) (k : Qt (DL.own zs) ρ) :
    Q (.ref p) (upd H p (.lst us)) := pd _ _ F _ ρ R.len (R.pend n r) s k
theorem do_op2 {a b e : Expr} {r : R2} {g : D → D → (List D → Prop) → Prop} {oa ob : Opd} (sn : Snd2o r g) (mk : ∀ ta tb, PE X a ta → PE X b tb → PE X e (tOp r ta tb)) (ha : DP X c a oa) (hb : DP X c b ob) : DO X c e (wOp2o g oa ob) :=
  (mk _ _ ha hb).imp fun σ H Q ⟨G, F, ρ, Qd, Qx, R, h, pd, px⟩ => op2_run (ta := RP c oa.ev) (tb := RP c ob.ev) (a := a) (b := b) R px h fun p q x y F' H' ρ' R' s rx ry k => by
    split at k
    · rename_i d e e1 e2
      exact sn F' H' x y d e _ Q R'.fh (R'.now rx e1) (R'.now ry e2) k fun zs us p n rz kz => R'.post s pd n rz kz
    · exact k.elim
/-- one's own, frozen at once -/
def wFrz (w : WO) : WE := fun ρ Q X => w ρ (fun t ρ' => match t.asList with
  | some ds => Q (.list ds) ρ'
  | none => False) X
theorem de_frz {e : Expr} {w : WO} (h : DO X c e w) : DE X c e (wFrz w) := h.imp fun σ H Q ⟨G, F, ρ, Qd, Qx, R, h, pd, px⟩ => ⟨G, F, ρ, _, Qx, R, h, fun t v F' H' ρ' l R' s k => by
  dsimp only at k
  split at k
  · rename_i ds e1
    rw [T.own_of e1] at R'
    have q : (ρ' ++ [C.own (DL.own ds)])[σ.length]? = some (.own (DL.own ds)) := by rw [l, List.getElem?_append_right (Nat.le_refl _), Nat.sub_self]; rfl
    obtain ⟨a, vs, e2, e3, _, _⟩ := R'.own q
    have q2 : (σ ++ [some v])[σ.length]? = some (some v) := by rw [List.getElem?_append_right (Nat.le_refl _), Nat.sub_self]; rfl
    rw [q2] at e2
    cases e2
    obtain ⟨R2, rp, s2⟩ := R'.frz (i := σ.length) (fun a => R.noW a) q q2 e3
    have e4 : (ρ' ++ [C.own (DL.own ds)]).set σ.length (.val (.list ds)) = ρ' ++ [.val (.list ds)] := by rw [l, List.set_append_right _ _ (Nat.le_refl _), Nat.sub_self]; rfl
    rw [e4] at R2
    exact pd _ _ _ _ ρ' (R2.unpend l R.nl R.pinL) (s.trans s2) rp k
  · exact k.elim, px⟩
/-- unary -/
def Snd1 (r : V → Hp → VK → Prop) (g : D → (D → Prop) → Prop) : Prop := ∀ (F H : Hp) (x : V) (d : D) (k : D → Prop) (Q : VK), Same F H → RpS F H x d → g d k →
  (∀ z v F' H', Step (fun _ => False) F H F' H' → Rp F' v z → k z → Q v H') → r x H Q
def wOp1 (g : D → (D → Prop) → Prop) (a : Opd) : WE := fun ρ Q X => a.ev ρ (fun p ρ1 => match p.now ρ1 with
  | some x => g x fun z => Q z ρ1
  | _ => False) X
theorem de_op1 {a e : Expr} {r : V → Hp → VK → Prop} {g : D → (D → Prop) → Prop} {oa : Opd} (sn : Snd1 r g) (mk : ∀ ta, PE X a ta → PE X e (tUn r ta)) (ha : DP X c a oa) : DE X c e (wOp1 g oa) :=
  (mk _ ha).imp fun σ H Q ⟨G, F, ρ, Qd, Qx, R, h, pd, px⟩ => ⟨G, F, ρ, _, Qx, R, h, fun p x F' H' ρ' R' s rx k => by
    split at k
    · rename_i d e1
      exact sn F' H' x d _ Q R'.fh (R'.now rx e1) k fun z v F2 H2 st rz kz => pd z v F2 H2 ρ' (R'.go st) (s.trans st.ff) rz kz
    · exact k.elim, px⟩

/-! ### tests -/
def wTv (w : WE) : WB := fun ρ Q X => w ρ (fun d ρ' => match d with
  | .bool b => Q b ρ'
  | _ => False) X
theorem tb_of {w : WE} {G : Ent} {F H : Hp} {σ : L2.St} {ρ : Env'} {Qd : Bool → Env' → Prop} {Qx : PX} {Q : Bool → Hp → Prop} (R : Rel c.B c.P G F H σ ρ) (h : wTv w ρ Qd Qx) (pd : PostB c G σ F Qd Q) (px : PostX c G σ F Qx) :
    RE c w σ H (fun x H1 => ∃ k, x = .bl k ∧ Q k H1) := ⟨G, F, ρ, _, Qx, R, h, fun d v F' H' ρ' R' s r k => by
  dsimp only at k
  split at k
  · rename_i b
    cases r
    exact ⟨b, rfl, pd b F' H' ρ' R' s k⟩
  · exact k.elim, px⟩
theorem dt_val {e : Expr} {w : WE} (h : DE X c e w) (he : ∀ whole, isTrue e X.env whole = (do let v ← whole; standAt e.pos; holding [v] (truthy v)) := by intro _; rfl) : DT X c e (wTv w) :=
  (pt_val h he).imp fun σ H Q ⟨G, F, ρ, Qd, Qx, R, h, pd, px⟩ => tb_of R h pd px
/-- a comparison as a test -/
theorem dt_cmp {a b e : Expr} {r : R2} {g : D → D → (D → Prop) → Prop} {oa ob : Opd} (sn : Snd2 r g) (mk : ∀ ta tb, PE X a ta → PE X b tb → PT X e (tTest (tOp r ta tb))) (ha : DP X c a oa) (hb : DP X c b ob) : DT X c e (wTv (wOp2 g oa ob)) :=
  (mk _ _ ha hb).imp fun σ H Q ⟨G, F, ρ, Qd, Qx, R, h, pd, px⟩ => by
    have q := tb_of (c := c) R h pd px
    obtain ⟨G, F, ρ, Qd, Qx, R, h, pd, px⟩ := q
    exact op2_run (ta := RP c oa.ev) (tb := RP c ob.ev) (a := a) (b := b) R px h fun p q x y F' H' ρ' R' s rx ry k => by
      split at k
      · rename_i d e e1 e2
        exact sn F' H' x y d e _ _ R'.fh (R'.now rx e1) (R'.now ry e2) k fun z v F2 H2 st rz kz => pd z v F2 H2 ρ' (R'.go st) (s.trans st.ff) rz kz
      · exact k.elim
def wAnd (a b : WB) : WB := fun ρ Q X => a ρ (fun k ρ1 => if k = true then b ρ1 Q X else Q false ρ1) X
def wOr (a b : WB) : WB := fun ρ Q X => a ρ (fun k ρ1 => if k = true then Q true ρ1 else b ρ1 Q X) X
def wNot (a : WB) : WB := fun ρ Q X => a ρ (fun k ρ1 => Q (!k) ρ1) X
theorem dw_and1 {a : Expr} {w : WB} {pos} (h : DT X c a w) : DW X c (.BoolOp .And [a] pos) w := pw_and1 h
theorem dw_or1 {a : Expr} {w : WB} {pos} (h : DT X c a w) : DW X c (.BoolOp .Or [a] pos) w := pw_or1 h
theorem dw_and {a b : Expr} {rest : List Expr} {w u : WB} {pos} (ha : DT X c a w) (hb : DW X c (.BoolOp .And (b :: rest) pos) u) : DW X c (.BoolOp .And (a :: b :: rest) pos) (wAnd w u) :=
  (pw_and ha hb).imp fun σ H Q ⟨G, F, ρ, Qd, Qx, R, h, pd, px⟩ => ⟨G, F, ρ, _, Qx, R, h, fun k F1 H1 ρ1 R1 s1 h1 => by
    cases k with
    | true => exact ⟨G, F1, ρ1, Qd, Qx, R1, h1, pd.later s1, px.later s1⟩
    | false => exact pd false F1 H1 ρ1 R1 s1 h1, px⟩
theorem dw_or {a b : Expr} {rest : List Expr} {w u : WB} {pos} (ha : DT X c a w) (hb : DW X c (.BoolOp .Or (b :: rest) pos) u) : DW X c (.BoolOp .Or (a :: b :: rest) pos) (wOr w u) :=
  (pw_or ha hb).imp fun σ H Q ⟨G, F, ρ, Qd, Qx, R, h, pd, px⟩ => ⟨G, F, ρ, _, Qx, R, h, fun k F1 H1 ρ1 R1 s1 h1 => by
    cases k with
    | true => exact pd true F1 H1 ρ1 R1 s1 h1
    | false => exact ⟨G, F1, ρ1, Qd, Qx, R1, h1, pd.later s1, px.later s1⟩, px⟩
theorem dt_w {e : Expr} {w : WB} (h : DW X c e w) : DT X c e w := h.pt
theorem dt_not {a : Expr} {w : WB} {pos} (h : DT X c a w) : DT X c (.UnaryOp .Not a pos) (wNot w) :=
  (pt_not h).imp fun σ H Q ⟨G, F, ρ, Qd, Qx, R, h, pd, px⟩ => ⟨G, F, ρ, _, Qx, R, h, fun k F1 H1 ρ1 R1 s1 h1 => pd (!k) F1 H1 ρ1 R1 s1 h1, px⟩
/-- .. as values -/
def wAndV (a b : WE) : WE := fun ρ Q X => a ρ (fun d ρ1 => match d with
  | .bool k => if k = true then b ρ1 Q X else Q (.bool false) ρ1
  | _ => False) X
def wOrV (a b : WE) : WE := fun ρ Q X => a ρ (fun d ρ1 => match d with
  | .bool k => if k = true then Q (.bool true) ρ1 else b ρ1 Q X
  | _ => False) X
def wNotV (a : WE) : WE := fun ρ Q X => a ρ (fun d ρ1 => match d with
  | .bool k => Q (.bool (!k)) ρ1
  | _ => False) X
theorem de_one {op} {a : Expr} {w : WE} {pos} (h : DE X c a w) : DE X c (.BoolOp op [a] pos) w := pe_one h
theorem de_and {a b : Expr} {rest : List Expr} {w u : WE} {pos} (ha : DE X c a w) (hb : DE X c (.BoolOp .And (b :: rest) pos) u) : DE X c (.BoolOp .And (a :: b :: rest) pos) (wAndV w u) :=
  (pe_and ha hb).imp fun σ H Q ⟨G, F, ρ, Qd, Qx, R, h, pd, px⟩ => ⟨G, F, ρ, _, Qx, R, h, fun d v F1 H1 ρ1 R1 s1 r1 h1 => by
    dsimp only at h1
    split at h1
    · rename_i k
      cases r1
      refine ⟨k, rfl, ?_⟩
      cases k with
      | true => exact ⟨G, F1, ρ1, Qd, Qx, R1, h1, pd.later s1, px.later s1⟩
      | false => exact pd _ _ F1 H1 ρ1 R1 s1 (.bl false) h1
    · exact h1.elim, px⟩
theorem de_or {a b : Expr} {rest : List Expr} {w u : WE} {pos} (ha : DE X c a w) (hb : DE X c (.BoolOp .Or (b :: rest) pos) u) : DE X c (.BoolOp .Or (a :: b :: rest) pos) (wOrV w u) :=
  (pe_or ha hb).imp fun σ H Q ⟨G, F, ρ, Qd, Qx, R, h, pd, px⟩ => ⟨G, F, ρ, _, Qx, R, h, fun d v F1 H1 ρ1 R1 s1 r1 h1 => by
    dsimp only at h1
    split at h1
    · rename_i k
      cases r1
      refine ⟨k, rfl, ?_⟩
      cases k with
      | true => exact pd _ _ F1 H1 ρ1 R1 s1 (.bl true) h1
      | false => exact ⟨G, F1, ρ1, Qd, Qx, R1, h1, pd.later s1, px.later s1⟩
    · exact h1.elim, px⟩
theorem de_not {a : Expr} {w : WE} {pos} (h : DE X c a w) : DE X c (.UnaryOp .Not a pos) (wNotV w) :=
  (pe_not h).imp fun σ H Q ⟨G, F, ρ, Qd, Qx, R, h, pd, px⟩ => ⟨G, F, ρ, _, Qx, R, h, fun d v F1 H1 ρ1 R1 s1 r1 h1 => by
    dsimp only at h1
    split at h1
    · rename_i k
      cases r1
      exact ⟨k, rfl, pd _ _ F1 H1 ρ1 R1 s1 (.bl _) h1⟩
    · exact h1.elim, px⟩
def wIf (t : WB) (a b : WE) : WE := fun ρ Q X => t ρ (fun k ρ1 => if k = true then a ρ1 Q X else b ρ1 Q X) X
def wIfO (t : WB) (a b : WO) : WO := fun ρ Q X => t ρ (fun k ρ1 => if k = true then a ρ1 Q X else b ρ1 Q X) X
theorem de_if {t a b : Expr} {wt : WB} {wa wb : WE} {pos} (ht : DT X c t wt) (ha : DE X c a wa) (hb : DE X c b wb) : DE X c (.IfExp t a b pos) (wIf wt wa wb) :=
  (pe_ifExp ht ha hb).imp fun σ H Q ⟨G, F, ρ, Qd, Qx, R, h, pd, px⟩ => ⟨G, F, ρ, _, Qx, R, h, fun k F1 H1 ρ1 R1 s1 h1 => by
    cases k with
    | true => exact ⟨G, F1, ρ1, Qd, Qx, R1, h1, pd.later s1, px.later s1⟩
    | false => exact ⟨G, F1, ρ1, Qd, Qx, R1, h1, pd.later s1, px.later s1⟩, px⟩
theorem do_if {t a b : Expr} {wt : WB} {wa wb : WO} {pos} (ht : DT X c t wt) (ha : DO X c a wa) (hb : DO X c b wb) : DO X c (.IfExp t a b pos) (wIfO wt wa wb) :=
  (pe_ifExp ht ha hb).imp fun σ H Q ⟨G, F, ρ, Qd, Qx, R, h, pd, px⟩ => ⟨G, F, ρ, _, Qx, R, h, fun k F1 H1 ρ1 R1 s1 h1 => by
    cases k with
    | true => exact ⟨G, F1, ρ1, Qd, Qx, R1, h1, pd.later s1, px.later s1⟩
    | false => exact ⟨G, F1, ρ1, Qd, Qx, R1, h1, pd.later s1, px.later s1⟩, px⟩
/-- a < b < c -/
def wChain (g g' : D → D → (D → Prop) → Prop) (a b e : Opd) : WE := fun ρ Q X => a.ev ρ (fun p ρ1 => b.ev ρ1 (fun q ρ2 => match p.now ρ2, q.now ρ2 with
  | some x, some y => g x y fun z => match z with
    | .bool k => if k = true then e.ev ρ2 (fun r ρ3 => match q.now ρ3, r.now ρ3 with
        | some y', some w => g' y' w fun z => Q z ρ3
        | _, _ => False) X else Q (.bool false) ρ2
    | _ => False
  | _, _ => False) X) X
theorem de_chain {a b d e : Expr} {op op' : CmpOp} {r r' : R2} {g g' : D → D → (D → Prop) → Prop} {oa ob od : Opd} (sn : Snd2 r g) (sn' : Snd2 r' g')
    (mk : ∀ ta tb td, PE X a ta → PE X b tb → PE X d td → PE X e (tChain r r' ta tb td)) (ha : DP X c a oa) (hb : DP X c b ob) (hd : DP X c d od) : DE X c e (wChain g g' oa ob od) :=
  (mk _ _ _ ha hb hd).imp fun σ H Q ⟨G, F, ρ, Qd, Qx, R, h, pd, px⟩ => ⟨G, F, ρ, _, Qx, R, h, fun p x F1 H1 ρ1 R1 s1 r1 h1 => ⟨G, F1, ρ1, _, Qx, R1, h1, fun q y F2 H2 ρ2 R2 s2 r2 h2 => by
    split at h2
    · rename_i d1 e1 q1 q2
      refine sn F2 H2 x y d1 e1 _ _ R2.fh (R2.now (r1.mono s2) q1) (R2.now r2 q2) h2 fun z v F3 H3 st rz kz => ?_
      split at kz
      · rename_i k
        cases rz
        refine ⟨k, rfl, ?_⟩
        have R3 := R2.go st
        cases k with
        | false => exact pd _ _ F3 H3 ρ2 R3 ((s1.trans s2).trans st.ff) (.bl false) kz
        | true =>
          refine ⟨G, F3, ρ2, _, Qx, R3, kz, fun w u F4 H4 ρ4 R4 s4 r4 h4 => ?_, px.later ((s1.trans s2).trans st.ff)⟩
          split at h4
          · rename_i d2 e2 q3 q4
            exact sn' F4 H4 y u d2 e2 _ _ R4.fh (R4.now (r2.mono (st.ff.trans s4)) q3) (R4.now r4 q4) h4 fun z v F5 H5 st5 rz5 kz5 => pd z v F5 H5 ρ4 (R4.go st5) ((((s1.trans s2).trans st.ff).trans s4).trans st5.ff) rz5 kz5
          · exact h4.elim
      · exact kz.elim
    · exact h2.elim, px.later s1⟩, px⟩

/-! ### argument lists -/
def PendsOk (F : Hp) (σ : L2.St) : List Pend → List V → Prop
  | [], [] => True
  | p :: ps, v :: vs => PendOk F σ p v ∧ PendsOk F σ ps vs
  | _, _ => False
theorem PendsOk.mono {F F' : Hp} {σ : L2.St} (s : Same F F') : ∀ {ps : List Pend} {vs : List V}, PendsOk F σ ps vs → PendsOk F' σ ps vs
  | [], [], _ => trivial
  | [], _ :: _, h => h
  | _ :: _, [], h => h
  | p :: ps, v :: vs, h => ⟨h.1.mono s, PendsOk.mono s h.2⟩
def wArgs : List Opd → Env' → (List Pend → Env' → Prop) → PX → Prop
  | [], ρ, Q, _ => Q [] ρ
  | o :: os, ρ, Q, X => o.ev ρ (fun p ρ1 => wArgs os ρ1 (fun ps ρ2 => Q (p :: ps) ρ2) X) X
def RA (c : Cf) (os : List Opd) : TA := fun σ H Q => ∃ G F ρ Qd Qx, Rel c.B c.P G F H σ ρ ∧ wArgs os ρ Qd Qx ∧ (∀ ps vs F' H' ρ', Rel c.B c.P G F' H' σ ρ' → Same F F' → PendsOk F' σ ps vs → Qd ps ρ' → Q vs H') ∧ PostX c G σ F Qx
abbrev DA (X : Cx) (c : Cf) (es : List Expr) (os : List Opd) : Prop := PA X es (RA c os)
theorem da_nil : DA X c [] [] := pa_nil.imp fun σ H Q ⟨G, F, ρ, Qd, Qx, R, h, pd, px⟩ => pd [] [] F H ρ R (Same.refl _) trivial h
theorem da_cons {e : Expr} {es : List Expr} {o : Opd} {os : List Opd} (he : DP X c e o) (hr : DA X c es os) (hs : starEach (e :: es) X.env = (false, eval e X.env) :: starEach es X.env := by rfl) : DA X c (e :: es) (o :: os) :=
  (pa_cons he hr hs).imp fun σ H Q ⟨G, F, ρ, Qd, Qx, R, h, pd, px⟩ => ⟨G, F, ρ, _, Qx, R, h, fun p x F1 H1 ρ1 R1 s1 r1 h1 => ⟨G, F1, ρ1, _, Qx, R1, h1, fun ps xs F2 H2 ρ2 R2 s2 r2 h2 => pd (p :: ps) (x :: xs) F2 H2 ρ2 R2 (s1.trans s2) ⟨r1.mono s2, r2⟩ h2, px.later s1⟩, px⟩
def nows (ρ : Env') : List Pend → Option (List D)
  | [] => some []
  | p :: ps => match p.now ρ, nows ρ ps with
    | some d, some ds => some (d :: ds)
    | _, _ => none
def RpSL (F H : Hp) : List V → List D → Prop
  | [], [] => True
  | v :: vs, d :: ds => RpS F H v d ∧ RpSL F H vs ds
  | _, _ => False
theorem Rel.nows {B : Kinds} {P : List Nat} {G : Ent} {F H : Hp} {σ : L2.St} {ρ : Env'} (R : Rel B P G F H σ ρ) : ∀ {ps : List Pend} {vs : List V} {ds : List D}, PendsOk F σ ps vs → DL.nows ρ ps = some ds → RpSL F H vs ds
  | [], [], _, _, e => by cases e; trivial
  | [], _ :: _, _, h, _ => h.elim
  | _ :: _, [], _, h, _ => h.elim
  | p :: ps, v :: vs, ds, h, e => by
    have e : (match p.now ρ, DL.nows ρ ps with
      | some d, some ds => some (d :: ds)
      | _, _ => none) = some ds := e
    split at e
    · rename_i d ds' e1 e2
      cases e
      exact ⟨R.now h.1 e1, R.nows h.2 e2⟩
    · cases e
/-- values alone -/
def valsOf : List Pend → Option (List D)
  | [] => some []
  | .v d :: ps => (valsOf ps).map (d :: ·)
  | .slot _ :: _ => none
theorem rpl_of {F : Hp} {σ : L2.St} : ∀ {ps : List Pend} {vs : List V} {ds : List D}, PendsOk F σ ps vs → valsOf ps = some ds → RpL F vs ds
  | [], [], _, _, e => by cases e; exact .nil
  | [], _ :: _, _, h, _ => h.elim
  | _ :: _, [], _, h, _ => h.elim
  | .v d :: ps, v :: vs, ds, h, e => by
    have e : (valsOf ps).map (d :: ·) = some ds := e
    cases q : valsOf ps with
    | none => rw [q] at e; cases e
    | some es =>
      rw [q] at e
      cases e
      exact .cons h.1 (rpl_of h.2 q)
  | .slot _ :: ps, v :: vs, ds, h, e => by cases e
def wTup (os : List Opd) : WE := fun ρ Q X => wArgs os ρ (fun ps ρ' => match valsOf ps with
  | some ds => ds.length ≤ sizeLine ∧ Q (.tuple ds) ρ'
  | none => False) X
theorem de_tup {es : List Expr} {os : List Opd} {x1 pos} (h : DA X c es os) : DE X c (.Tuple es x1 pos) (wTup os) := (pe_tup h).imp fun σ H Q ⟨G, F, ρ, Qd, Qx, R, h, pd, px⟩ => ⟨G, F, ρ, _, Qx, R, h, fun ps vs F1 H1 ρ1 R1 s1 r1 h1 => by
  split at h1
  · rename_i ds e1
    have rl := rpl_of r1 e1
    refine ⟨by rw [rl.length]; exact h1.1, fun p n => ?_⟩
    have st := Step.laid (o := .tup vs) R1.fh n
    exact pd _ _ _ _ ρ1 (R1.go st) (s1.trans st.ff) (.tup upd_same (rl.mono st.ff)) h1.2
  · exact h1.elim, px⟩
def wLst (os : List Opd) : WO := fun ρ Q X => wArgs os ρ (fun ps ρ' => match valsOf ps with
  | some ds => ds.length ≤ sizeLine ∧ Q (DL.own ds) ρ'
  | none => False) X
theorem do_lst {es : List Expr} {os : List Opd} {pos} (h : DA X c es os) : DO X c (.List es pos) (wLst os) := (pe_lst h).imp fun σ H Q ⟨G, F, ρ, Qd, Qx, R, h, pd, px⟩ => ⟨G, F, ρ, _, Qx, R, h, fun ps vs F1 H1 ρ1 R1 s1 r1 h1 => by
  split at h1
  · rename_i ds e1
    have rl := rpl_of r1 e1
    exact ⟨by rw [rl.length]; exact h1.1, fun p n => R1.post s1 pd n rl h1.2⟩
  · exact h1.elim, px⟩
/-! ### built-in calls -/
def SndC (r : List V → Hp → VK → Prop) (g : List D → (D → Prop) → Prop) : Prop := ∀ (F H : Hp) (xs : List V) (ds : List D) (k : D → Prop) (Q : VK), Same F H → RpSL F H xs ds → g ds k →
  (∀ z v F' H', Step (fun _ => False) F H F' H' → Rp F' v z → k z → Q v H') → r xs H Q
def SndCo (r : List V → Hp → VK → Prop) (g : List D → (List D → Prop) → Prop) : Prop := ∀ (F H : Hp) (xs : List V) (ds : List D) (k : List D → Prop) (Q : VK), Same F H → RpSL F H xs ds → g ds k →
  (∀ zs us p, H p = none → RpL F us zs → k zs → Q (.ref p) (upd H p (.lst us))) → r xs H Q
def wCall (g : List D → (D → Prop) → Prop) (os : List Opd) : WE := fun ρ Q X => wArgs os ρ (fun ps ρ' => match nows ρ' ps with
  | some ds => g ds fun z => Q z ρ'
  | none => False) X
def wCallO (g : List D → (List D → Prop) → Prop) (os : List Opd) : WO := fun ρ Q X => wArgs os ρ (fun ps ρ' => match nows ρ' ps with
  | some ds => g ds fun z => Q (DL.own z) ρ'
  | none => False) X
theorem de_call {es : List Expr} {e : Expr} {r : List V → Hp → VK → Prop} {g : List D → (D → Prop) → Prop} {os : List Opd} (sn : SndC r g) (mk : ∀ t, PA X es t → PE X e (tCB r t)) (ha : DA X c es os) : DE X c e (wCall g os) :=
  (mk _ ha).imp fun σ H Q ⟨G, F, ρ, Qd, Qx, R, h, pd, px⟩ => ⟨G, F, ρ, _, Qx, R, h, fun ps vs F1 H1 ρ1 R1 s1 r1 h1 => by
    split at h1
    · rename_i ds e1
      exact sn F1 H1 vs ds _ Q R1.fh (R1.nows r1 e1) h1 fun z v F2 H2 st rz kz => pd z v F2 H2 ρ1 (R1.go st) (s1.trans st.ff) rz kz
    · exact h1.elim, px⟩
theorem do_call {es : List Expr} {e : Expr} {r : List V → Hp → VK → Prop} {g : List D → (List D → Prop) → Prop} {os : List Opd} (sn : SndCo r g) (mk : ∀ t, PA X es t → PE X e (tCB r t)) (ha : DA X c es os) : DO X c e (wCallO g os) :=
  (mk _ ha).imp fun σ H Q ⟨G, F, ρ, Qd, Qx, R, h, pd, px⟩ => ⟨G, F, ρ, _, Qx, R, h, fun ps vs F1 H1 ρ1 R1 s1 r1 h1 => by
    split at h1
    · rename_i ds e1
      exact sn F1 H1 vs ds _ Q R1.fh (R1.nows r1 e1) h1 fun zs us p n rz kz => R1.post s1 pd n rz kz
    · exact h1.elim, px⟩
end
end DL
set_option maxHeartbeats 4000000
/-! DL2: what the operators, built-in functions and methods do to data. -/
namespace DL
open PySem PySem.Spec L2
section
variable {X : Cx} {c : Cf}
mutual
theorem Rp.dp {K : PySem.W.Frag} {F : Hp} : ∀ {d : D} {v : V}, Rp F v d → d.canLay0 = true → Dp K F v d
  | .none, _, .non, _ => .non
  | .bool b, _, .bl _, _ => .bl b
  | .int i, _, .int _, _ => .int i
  | .str x, _, .str _, _ => .str x
  | .list ds, _, .lst h r, e => .lst (SqL.of h) (RpL.dp r (by simpa [PyData.canLay0] using e))
  | .tuple ds, _, .tup h r, e => .tup (SqT.of h) (RpL.dp r (by simpa [PyData.canLay0] using e))
  | .dict ds, _, .dct h r, e => by simp [PyData.canLay0] at e
theorem RpL.dp {K : PySem.W.Frag} {F : Hp} : ∀ {ds : List D} {vs : List V}, RpL F vs ds → PyData.canLayAll0 ds = true → DpAll K F vs ds
  | [], _, .nil, _ => .nil
  | d :: ds, _, .cons h r, e => by
    have e' : d.canLay0 = true ∧ PyData.canLayAll0 ds = true := by simpa [PyData.canLayAll0] using e
    exact .cons (Rp.dp h e'.1) (RpL.dp r e'.2)
end
theorem RpS.dp {K : PySem.W.Frag} {F H : Hp} {v : V} {d : D} (s : Same F H) (h : RpS F H v d) (e : SeqAt.shaped d = true) : Dp K H v d := by
  have e' := SeqAt.canLay_of_shaped e
  cases h with
  | rp r => exact (r.mono s).dp e'
  | ls h r => exact .lst (SqL.of h) ((r.mono s).dp (by simpa [PyData.canLay0] using e'))
theorem Snd2.of {r : R2} {g : D → D → (List D → Prop) → Prop} (h : Snd2o r g) : Snd2 r (fun d e k => g d e fun zs => k (.list zs)) := fun F H x y d e k Q s rx ry q pd => h F H x y d e _ Q s rx ry q fun zs us p n rz kz => by
  have st := Step.laid (o := .lst us) s n
  exact pd _ _ _ _ st (.lst upd_same (rz.mono st.ff)) kz
theorem SndC.of {r : List V → Hp → VK → Prop} {g : List D → (List D → Prop) → Prop} (h : SndCo r g) : SndC r (fun d k => g d fun zs => k (.list zs)) := fun F H x d k Q s rx q pd => h F H x d _ Q s rx q fun zs us p n rz kz => by
  have st := Step.laid (o := .lst us) s n
  exact pd _ _ _ _ st (.lst upd_same (rz.mono st.ff)) kz
/-- a flat answer -/
theorem flat {F H : Hp} {z : D} {v : V} {k : D → Prop} {Q : VK} (s : Same F H) (pd : ∀ z v F' H', Step (fun _ => False) F H F' H' → Rp F' v z → k z → Q v H') (r : Rp F v z) (q : k z) : Q v H := pd z v F H (Step.refl s) r q

/-! ### + - * // % ** -/
def gAdd : D → D → (D → Prop) → Prop
  | .int i, .int j, k => k (.int (i + j))
  | .str x, .str y, k => x.length + y.length ≤ sizeLine ∧ k (.str (x ++ y))
  | .tuple xs, .tuple ys, k => xs ≠ [] ∧ xs.length + ys.length ≤ sizeLine ∧ k (.tuple (xs ++ ys))
  | .list xs, .list ys, k => xs.length + ys.length ≤ sizeLine ∧ k (.list (xs ++ ys))
  | _, _, _ => False
def gCatL : D → D → (List D → Prop) → Prop
  | .list xs, .list ys, k => xs.length + ys.length ≤ sizeLine ∧ k (xs ++ ys)
  | _, _, _ => False
abbrev rAddI : R2 := rI0 fun i j => .int (i + j)
abbrev rAddS : R2 := fun x y H Q => ∃ i j, x = .str i ∧ y = .str j ∧ i.length + j.length ≤ sizeLine ∧ Q (.str (i ++ j)) H
abbrev rAddAll (K : PySem.W.Frag) : R2 := fun x y H Q => rAddI x y H Q ∨ rAddS x y H Q ∨ rCatT K x y H Q ∨ rCat x y H Q
theorem op_addAll : OpR X (binaryOp .Add) (rAddAll X.K) := op_add.or (op_add_str.or (op_catT.or op_cat))
theorem catO : Snd2o rCat gCatL := fun F H x y d e k Q s rx ry q pd => by
  cases d <;> cases e <;> try exact q.elim
  rename_i xs ys
  obtain ⟨a, vs, rfl, h1, r1⟩ := rx.list s
  obtain ⟨b, us, rfl, h2, r2⟩ := ry.list s
  exact ⟨a, b, vs, us, rfl, rfl, h1, h2, by rw [r1.length, r2.length]; exact q.1, fun p n => pd _ _ p n (r1.append r2) q.2⟩
theorem addS {K : PySem.W.Frag} : Snd2 (rAddAll K) gAdd := fun F H x y d e k Q s rx ry q pd => by
  cases d <;> cases e <;> try exact q.elim
  · rw [rx.int, ry.int]; exact .inl ⟨_, _, rfl, rfl, flat s pd (.int _) q⟩
  · rw [rx.str, ry.str]; exact .inr (.inl ⟨_, _, rfl, rfl, q.1, flat s pd (.str _) q.2⟩)
  · exact .inr (.inr (.inr (Snd2.of catO F H x y _ _ k Q s rx ry q pd)))
  · rename_i xs ys
    obtain ⟨a, vs, rfl, h1, r1⟩ := rx.tup s
    obtain ⟨b, us, rfl, h2, r2⟩ := ry.tup s
    obtain ⟨q1, q2, q3⟩ := q
    have l1 := r1.length
    have l2 := r2.length
    refine .inr (.inr (.inl ⟨a, b, vs, us, rfl, rfl, SqT.of h1, SqT.of h2, fun z => ?_, by omega, fun z => ?_, fun _ p n => ?_⟩))
    · subst z; exact q1 (List.eq_nil_of_length_eq_zero l1.symm)
    · subst z
      have e : ys = [] := List.eq_nil_of_length_eq_zero l2.symm
      subst e
      rw [List.append_nil] at q3
      obtain ⟨p, e1⟩ : ∃ u, u = V.ref a := ⟨_, rfl⟩
      generalize e2 : (PyData.tuple xs) = d at rx
      cases rx with
      | rp r => subst e2; exact flat s pd r q3
      | ls h r => cases e2
    · have st := Step.laid (o := .tup (vs ++ us)) s n
      exact pd _ _ _ _ st (.tup upd_same ((r1.append r2).mono st.ff)) q3
def gSub : D → D → (D → Prop) → Prop
  | .int i, .int j, k => k (.int (i - j))
  | _, _, _ => False
theorem subS : Snd2 (rI0 fun i j => .int (i - j)) gSub := fun F H x y d e k Q s rx ry q pd => by
  cases d <;> cases e <;> try exact q.elim
  rw [rx.int, ry.int]; exact ⟨_, _, rfl, rfl, flat s pd (.int _) q⟩
def gMul : D → D → (D → Prop) → Prop
  | .int i, .int j, k => CMulX i j ∧ k (.int (i * j))
  | .list xs, .int n, k => -(2 ^ 63) ≤ n ∧ n < 2 ^ 63 ∧ xs.length * n.toNat ≤ sizeLine ∧ k (.list (List.replicate n.toNat xs).flatten)
  | _, _, _ => False
def gRep : D → D → (List D → Prop) → Prop
  | .list xs, .int n, k => -(2 ^ 63) ≤ n ∧ n < 2 ^ 63 ∧ xs.length * n.toNat ≤ sizeLine ∧ k (List.replicate n.toNat xs).flatten
  | _, _, _ => False
theorem RpL.rep {F : Hp} {vs : List V} {ds : List D} (h : RpL F vs ds) : ∀ n : Nat, RpL F (List.replicate n vs).flatten (List.replicate n ds).flatten
  | 0 => .nil
  | n + 1 => by
    rw [List.replicate_succ, List.replicate_succ, List.flatten_cons, List.flatten_cons]
    exact h.append (h.rep n)
theorem repO : Snd2o rRep gRep := fun F H x y d e k Q s rx ry q pd => by
  cases d <;> cases e <;> try exact q.elim
  rename_i xs n
  obtain ⟨a, vs, rfl, h1, r1⟩ := rx.list s
  rw [ry.int]
  obtain ⟨q1, q2, q3, q4⟩ := q
  exact ⟨a, n, vs, rfl, rfl, h1, q1, q2, by rw [r1.length]; exact q3, fun p hp => pd _ _ p hp (r1.rep _) q4⟩
abbrev rMulAll : R2 := fun x y H Q => rI CMulX (fun i j => .int (i * j)) x y H Q ∨ rRep x y H Q
theorem op_mulAll : OpR X (binaryOp .Mult) rMulAll := op_mulX.or op_rep
theorem mulS : Snd2 rMulAll gMul := fun F H x y d e k Q s rx ry q pd => by
  cases d <;> cases e <;> try exact q.elim
  · rw [rx.int, ry.int]; exact .inl ⟨_, _, rfl, rfl, q.1, flat s pd (.int _) q.2⟩
  · exact .inr (Snd2.of repO F H x y _ _ k Q s rx ry q pd)
def gFdiv : D → D → (D → Prop) → Prop
  | .int i, .int j, k => CDivW i j ∧ k (.int (i / j))
  | _, _, _ => False
theorem fdivS : Snd2 (rI CDivW fun i j => .int (i / j)) gFdiv := fun F H x y d e k Q s rx ry q pd => by
  cases d <;> cases e <;> try exact q.elim
  rw [rx.int, ry.int]; exact ⟨_, _, rfl, rfl, q.1, flat s pd (.int _) q.2⟩
def gMod : D → D → (D → Prop) → Prop
  | .int i, .int j, k => 0 < j ∧ k (.int (i % j))
  | _, _, _ => False
theorem modS : Snd2 (rI (fun _ j => 0 < j) fun i j => .int (i % j)) gMod := fun F H x y d e k Q s rx ry q pd => by
  cases d <;> cases e <;> try exact q.elim
  rw [rx.int, ry.int]; exact ⟨_, _, rfl, rfl, q.1, flat s pd (.int _) q.2⟩
/-- a power: the result within the library's line -/
def CPowW (i j : Int) : Prop := 0 ≤ j ∧ (Builtin.Int.intBits i : Int) * j ≤ 2 ^ 27
theorem op_powW : OpR X (binaryOp .Pow) (rI CPowW fun i j => .int (i ^ j.toNat)) := opI fun _ _ _ _ _ _ _ hc q => PyProof.Rows.pow_int hc.1 hc.2 q
def gPow : D → D → (D → Prop) → Prop
  | .int i, .int j, k => CPowW i j ∧ k (.int (i ^ j.toNat))
  | _, _, _ => False
theorem powS : Snd2 (rI CPowW fun i j => .int (i ^ j.toNat)) gPow := fun F H x y d e k Q s rx ry q pd => by
  cases d <;> cases e <;> try exact q.elim
  rw [rx.int, ry.int]; exact ⟨_, _, rfl, rfl, q.1, flat s pd (.int _) q.2⟩
def gNeg : D → (D → Prop) → Prop
  | .int i, k => k (.int (-i))
  | _, _ => False
theorem negS : Snd1 (rU fun i => .int (-i)) gNeg := fun F H x d k Q s rx q pd => by
  cases d <;> try exact q.elim
  rw [rx.int]; exact ⟨_, rfl, flat s pd (.int _) q⟩

/-! ### comparisons -/
def gLt : D → D → (D → Prop) → Prop
  | .int i, .int j, k => k (.bool (decide (i < j)))
  | _, _, _ => False
def gLe : D → D → (D → Prop) → Prop
  | .int i, .int j, k => k (.bool (decide (i ≤ j)))
  | _, _, _ => False
def gGt : D → D → (D → Prop) → Prop
  | .int i, .int j, k => k (.bool (decide (j < i)))
  | _, _, _ => False
def gGe : D → D → (D → Prop) → Prop
  | .int i, .int j, k => k (.bool (decide (j ≤ i)))
  | _, _, _ => False
theorem ltS : Snd2 (rI0 fun i j => .bl (decide (i < j))) gLt := fun F H x y d e k Q s rx ry q pd => by
  cases d <;> cases e <;> try exact q.elim
  rw [rx.int, ry.int]; exact ⟨_, _, rfl, rfl, flat s pd (.bl _) q⟩
theorem leS : Snd2 (rI0 fun i j => .bl (decide (i ≤ j))) gLe := fun F H x y d e k Q s rx ry q pd => by
  cases d <;> cases e <;> try exact q.elim
  rw [rx.int, ry.int]; exact ⟨_, _, rfl, rfl, flat s pd (.bl _) q⟩
theorem gtS : Snd2 (rI0 fun i j => .bl (decide (j < i))) gGt := fun F H x y d e k Q s rx ry q pd => by
  cases d <;> cases e <;> try exact q.elim
  rw [rx.int, ry.int]; exact ⟨_, _, rfl, rfl, flat s pd (.bl _) q⟩
theorem geS : Snd2 (rI0 fun i j => .bl (decide (j ≤ i))) gGe := fun F H x y d e k Q s rx ry q pd => by
  cases d <;> cases e <;> try exact q.elim
  rw [rx.int, ry.int]; exact ⟨_, _, rfl, rfl, flat s pd (.bl _) q⟩
def gEq (d e : D) (k : D → Prop) : Prop := SeqAt.shaped d = true ∧ SeqAt.shaped e = true ∧ k (.bool (PyData.eqv d e))
def gNe (d e : D) (k : D → Prop) : Prop := SeqAt.shaped d = true ∧ SeqAt.shaped e = true ∧ k (.bool (!PyData.eqv d e))
theorem eqS {K : PySem.W.Frag} : Snd2 (rEqD K) gEq := fun F H x y d e k Q s rx ry q pd => ⟨d, e, rx.dp s q.1, ry.dp s q.2.1, q.1, q.2.1, flat s pd (.bl _) q.2.2⟩
theorem neS {K : PySem.W.Frag} : Snd2 (rNeD K) gNe := fun F H x y d e k Q s rx ry q pd => ⟨d, e, rx.dp s q.1, ry.dp s q.2.1, q.1, q.2.1, flat s pd (.bl _) q.2.2⟩
/-- is None -/
def isNon : D → Bool
  | .none => true
  | _ => false
def gIsN : D → D → (D → Prop) → Prop
  | d, .none, k => k (.bool (isNon d))
  | _, _, _ => False
def gNotN : D → D → (D → Prop) → Prop
  | d, .none, k => k (.bool (!isNon d))
  | _, _, _ => False
theorem RpS.isNon {F H : Hp} {v : V} {d : D} (h : RpS F H v d) : decide (v = .non) = DL.isNon d := by
  cases h with
  | rp r => cases r <;> rfl
  | ls _ _ => rfl
theorem isNS : Snd2 (fun x y H Q => y = .non ∧ Q (.bl (decide (x = .non))) H) gIsN := fun F H x y d e k Q s rx ry q pd => by
  cases e <;> try exact q.elim
  exact ⟨ry.non, by rw [rx.isNon]; exact flat s pd (.bl _) q⟩
theorem notNS : Snd2 (fun x y H Q => y = .non ∧ Q (.bl (!decide (x = .non))) H) gNotN := fun F H x y d e k Q s rx ry q pd => by
  cases e <;> try exact q.elim
  exact ⟨ry.non, by rw [rx.isNon]; exact flat s pd (.bl _) q⟩
/-- in, not in -/
def hasStr (y x : Str) : Bool := !(Builtin.Str.occurrences y x 0 y.length 1).isEmpty
def gIn : D → D → (D → Prop) → Prop
  | d, .list ds, k => SeqAt.shaped d = true ∧ SeqAt.shaped (.list ds) = true ∧ k (.bool (ds.any fun z => PyData.eqv z d))
  | .str x, .str y, k => k (.bool (hasStr y x))
  | _, _, _ => False
def gNotIn : D → D → (D → Prop) → Prop
  | d, .list ds, k => SeqAt.shaped d = true ∧ SeqAt.shaped (.list ds) = true ∧ k (.bool (!ds.any fun z => PyData.eqv z d))
  | .str x, .str y, k => k (.bool (!hasStr y x))
  | _, _, _ => False
abbrev rInAll (K : PySem.W.Frag) : R2 := fun x y H Q => rInD K x y H Q ∨ ∃ i j, x = .str i ∧ y = .str j ∧ Q (.bl (!(Builtin.Str.occurrences j i 0 j.length 1).isEmpty)) H
abbrev rNotInAll (K : PySem.W.Frag) : R2 := fun x y H Q => rNotInD K x y H Q ∨ ∃ i j, x = .str i ∧ y = .str j ∧ Q (.bl (!(!(Builtin.Str.occurrences j i 0 j.length 1).isEmpty))) H
theorem op_inAll (hu : X.A.units + 65 < cLine) : OpR X (compareOp .In) (rInAll X.K) := (op_inD hu).or op_in_str
theorem op_notInAll (hu : X.A.units + 65 < cLine) : OpR X (compareOp .NotIn) (rNotInAll X.K) := (op_notInD hu).or op_notIn_str
theorem inS {K : PySem.W.Frag} : Snd2 (rInAll K) gIn := fun F H x y d e k Q s rx ry q pd => by
  cases e with
  | list ds => exact .inl ⟨d, ds, rx.dp s q.1, ry.dp s q.2.1, q.1, q.2.1, flat s pd (.bl _) q.2.2⟩
  | str y =>
    cases d <;> try exact q.elim
    rw [rx.str, ry.str]; exact .inr ⟨_, _, rfl, rfl, flat s pd (.bl _) q⟩
  | _ => cases d <;> exact q.elim
theorem notInS {K : PySem.W.Frag} : Snd2 (rNotInAll K) gNotIn := fun F H x y d e k Q s rx ry q pd => by
  cases e with
  | list ds => exact .inl ⟨d, ds, rx.dp s q.1, ry.dp s q.2.1, q.1, q.2.1, flat s pd (.bl _) q.2.2⟩
  | str y =>
    cases d <;> try exact q.elim
    rw [rx.str, ry.str]; exact .inr ⟨_, _, rfl, rfl, flat s pd (.bl _) q⟩
  | _ => cases d <;> exact q.elim

/-! ### subscripts -/
def gIx : D → D → (D → Prop) → Prop
  | .list ds, .int i, k => match atI ds i with
    | some d => k d
    | none => False
  | .tuple ds, .int i, k => match atI ds i with
    | some d => k d
    | none => False
  | .str z, .int i, k => z.length ≤ sizeLine ∧ match atI z.cps.toList i with
    | some ch => k (.str ⟨#[ch]⟩)
    | none => False
  | _, _, _ => False
theorem RpL.atI {F : Hp} {vs : List V} {ds : List D} (h : RpL F vs ds) {i : Int} {d : D} (e : L2.atI ds i = some d) : ∃ v, L2.atI vs i = some v ∧ Rp F v d := by
  unfold L2.atI at e ⊢
  rw [h.length]
  cases q : ixN ds.length i with
  | none => rw [q] at e; cases e
  | some j =>
    rw [q] at e
    exact h.get (i := j) e
theorem ixS {K : PySem.W.Frag} : Snd2 (rIx K) gIx := fun F H x y d e k Q s rx ry q pd => by
  cases d <;> cases e <;> try exact q.elim
  · rw [rx.str, ry.int]
    obtain ⟨q1, q2⟩ := q
    split at q2
    · rename_i ch e1
      exact .inr (.inr ⟨_, _, ch, rfl, rfl, q1, e1, flat s pd (.str _) q2⟩)
    · exact q2.elim
  · rename_i ds i
    obtain ⟨a, vs, rfl, h1, r1⟩ := rx.list s
    rw [ry.int]
    have q : (match atI ds i with
      | some d => k d
      | none => False) := q
    split at q
    · rename_i d e1
      obtain ⟨v, e2, r2⟩ := r1.atI e1
      exact .inl ⟨a, vs, i, v, rfl, rfl, SqL.of h1, e2, flat s pd r2 q⟩
    · exact q.elim
  · rename_i ds i
    obtain ⟨a, vs, rfl, h1, r1⟩ := rx.tup s
    rw [ry.int]
    have q : (match atI ds i with
      | some d => k d
      | none => False) := q
    split at q
    · rename_i d e1
      obtain ⟨v, e2, r2⟩ := r1.atI e1
      exact .inr (.inl ⟨a, vs, i, v, rfl, rfl, SqT.of h1, e2, flat s pd r2 q⟩)
    · exact q.elim
theorem de_ix {a b : Expr} {oa ob : Opd} {pos} (ha : DP X c a oa) (hb : DP X c b ob) (hs : PlainIx b) : DE X c (.Subscript a b pos) (wOp2 gIx oa ob) := de_op2 ixS (fun _ _ ha hb => pe_ix ix_seq ha hb hs) ha hb

/-! ### slices -/
def cutD (xs : List D) (lo hi : Option Int) : List D := (xs.drop (HT.sIx xs.length 0 lo)).take (HT.sIx xs.length xs.length hi - HT.sIx xs.length 0 lo)
theorem RpL.cut {F : Hp} {vs : List V} {ds : List D} (h : RpL F vs ds) (lo hi : Option Int) : RpL F (cutV vs lo hi) (cutD ds lo hi) := by
  unfold cutV cutD
  rw [h.length]
  exact (h.drop _).take _
inductive Prt where
  | no
  | e (w : WE)
def Prt.ev : Prt → Env' → (Option Int → Env' → Prop) → PX → Prop
  | .no => fun ρ Q _ => Q none ρ
  | .e w => fun ρ Q X => w ρ (fun d ρ' => match d with
    | .int i => Q (some i) ρ'
    | _ => False) X
def RO' (c : Cf) (p : Prt) : TO := fun σ H Q => ∃ G F ρ Qd Qx, Rel c.B c.P G F H σ ρ ∧ p.ev ρ Qd Qx ∧ (∀ o F' H' ρ', Rel c.B c.P G F' H' σ ρ' → Same F F' → Qd o ρ' → Q o H') ∧ PostX c G σ F Qx
theorem _root_.L2.PO.imp {X : Cx} {e : Option Expr} {t t' : TO} (h : PO X e t) (i : ∀ σ H Q, t' σ H Q → t σ H Q) : PO X e t' := ⟨fun pins s σ H Q I q => h.run pins s σ H Q I (i σ H Q q)⟩
abbrev DQ (X : Cx) (c : Cf) (e : Option Expr) (p : Prt) : Prop := PO X e (RO' c p)
theorem dq_none : DQ X c none .no := po_none.imp fun σ H Q ⟨G, F, ρ, Qd, Qx, R, h, pd, px⟩ => pd none F H ρ R (Same.refl _) h
theorem dq_some {e : Expr} {w : WE} (h : DE X c e w) : DQ X c (some e) (.e w) := (po_some h).imp fun σ H Q ⟨G, F, ρ, Qd, Qx, R, h, pd, px⟩ => ⟨G, F, ρ, _, Qx, R, h, fun d v F1 H1 ρ1 R1 s1 r1 h1 => by
  dsimp only at h1
  split at h1
  · rename_i i
    cases r1
    exact ⟨i, rfl, pd (some i) F1 H1 ρ1 R1 s1 h1⟩
  · exact h1.elim, px⟩
def gSl : D → Option Int → Option Int → (D → Prop) → Prop
  | .list ds, lo, hi, k => k (.list (cutD ds lo hi))
  | .tuple ds, lo, hi, k => ¬ (HT.sIx ds.length 0 lo = 0 ∧ HT.sIx ds.length ds.length hi = ds.length) ∧ k (.tuple (cutD ds lo hi))
  | .str z, lo, hi, k => z.length ≤ sizeLine ∧ k (.str (cutS z lo hi))
  | _, _, _, _ => False
abbrev rSlAll (K : PySem.W.Frag) : V → Option Int → Option Int → Hp → VK → Prop := fun x lo hi H Q => rSlL K x lo hi H Q ∨ rSlT K x lo hi H Q ∨ rSlS x lo hi H Q
theorem sl_all : SlR X (rSlAll X.K) := sl_list.or (sl_tup.or sl_str)
def wSl (a : Opd) (lo hi : Prt) : WE := fun ρ Q X => a.ev ρ (fun p ρ1 => lo.ev ρ1 (fun l ρ2 => hi.ev ρ2 (fun u ρ3 => match p.now ρ3 with
  | some x => gSl x l u fun z => Q z ρ3
  | none => False) X) X) X
def wSlO (a : Opd) (lo hi : Prt) : WO := fun ρ Q X => a.ev ρ (fun p ρ1 => lo.ev ρ1 (fun l ρ2 => hi.ev ρ2 (fun u ρ3 => match p.now ρ3 with
  | some (.list ds) => Q (DL.own (cutD ds l u)) ρ3
  | _ => False) X) X) X
theorem de_sl {e : Expr} {lo hi : Option Expr} {oa : Opd} {pl ph : Prt} {p2 pos} (ha : DP X c e oa) (hl : DQ X c lo pl) (hh : DQ X c hi ph) : DE X c (.Subscript e (.Slice lo hi none p2) pos) (wSl oa pl ph) :=
  (pe_slice sl_all ha hl hh).imp fun σ H Q ⟨G, F, ρ, Qd, Qx, R, h, pd, px⟩ => ⟨G, F, ρ, _, Qx, R, h, fun p x F1 H1 ρ1 R1 s1 r1 h1 => ⟨G, F1, ρ1, _, Qx, R1, h1, fun l F2 H2 ρ2 R2 s2 h2 => ⟨G, F2, ρ2, _, Qx, R2, h2, fun u F3 H3 ρ3 R3 s3 h3 => by
    have s4 := (s1.trans s2).trans s3
    split at h3
    · rename_i d e1
      have rx := R3.now (r1.mono (s2.trans s3)) e1
      cases d with
      | list ds =>
        obtain ⟨a, vs, rfl, e2, r2⟩ := rx.list R3.fh
        refine .inl ⟨a, vs, rfl, SqL.of e2, fun q n => ?_⟩
        have st := Step.laid (o := .lst (cutV vs l u)) R3.fh n
        exact pd _ _ _ _ ρ3 (R3.go st) (s4.trans st.ff) (.lst upd_same ((r2.cut l u).mono st.ff)) h3
      | tuple ds =>
        obtain ⟨a, vs, rfl, e2, r2⟩ := rx.tup R3.fh
        obtain ⟨h31, h32⟩ := h3
        refine .inr (.inl ⟨a, vs, rfl, SqT.of e2, by rw [r2.length]; exact h31, fun q n => ?_⟩)
        have st := Step.laid (o := .tup (cutV vs l u)) R3.fh n
        exact pd _ _ _ _ ρ3 (R3.go st) (s4.trans st.ff) (.tup upd_same ((r2.cut l u).mono st.ff)) h32
      | str z =>
        rw [rx.str]
        exact .inr (.inr ⟨z, rfl, h3.1, pd _ _ F3 H3 ρ3 R3 s4 (.str _) h3.2⟩)
      | _ => exact h3.elim
    · exact h3.elim, px.later (s1.trans s2)⟩, px.later s1⟩, px⟩
theorem do_sl {e : Expr} {lo hi : Option Expr} {oa : Opd} {pl ph : Prt} {p2 pos} (ha : DP X c e oa) (hl : DQ X c lo pl) (hh : DQ X c hi ph) : DO X c (.Subscript e (.Slice lo hi none p2) pos) (wSlO oa pl ph) :=
  (pe_slice sl_list ha hl hh).imp fun σ H Q ⟨G, F, ρ, Qd, Qx, R, h, pd, px⟩ => ⟨G, F, ρ, _, Qx, R, h, fun p x F1 H1 ρ1 R1 s1 r1 h1 => ⟨G, F1, ρ1, _, Qx, R1, h1, fun l F2 H2 ρ2 R2 s2 h2 => ⟨G, F2, ρ2, _, Qx, R2, h2, fun u F3 H3 ρ3 R3 s3 h3 => by
    have s4 := (s1.trans s2).trans s3
    split at h3
    · rename_i ds e1
      have rx := R3.now (r1.mono (s2.trans s3)) e1
      obtain ⟨a, vs, rfl, e2, r2⟩ := rx.list R3.fh
      exact ⟨a, vs, rfl, SqL.of e2, fun q n => R3.post s4 pd n (r2.cut l u) h3⟩
    · exact h3.elim, px.later (s1.trans s2)⟩, px.later s1⟩, px⟩
end
end DL
set_option maxHeartbeats 4000000
/-! DL3: built-in functions and methods over data. -/
namespace DL
open PySem PySem.Spec L2
section
variable {X : Cx} {c : Cf}
theorem RpSL.one {F H : Hp} {xs : List V} {d : D} (h : RpSL F H xs [d]) : ∃ x, xs = [x] ∧ RpS F H x d := by
  match xs, h with
  | [x], h => exact ⟨x, rfl, h.1⟩
theorem RpSL.two {F H : Hp} {xs : List V} {d e : D} (h : RpSL F H xs [d, e]) : ∃ x y, xs = [x, y] ∧ RpS F H x d ∧ RpS F H y e := by
  match xs, h with
  | [x, y], h => exact ⟨x, y, rfl, h.1, h.2.1⟩
theorem RpSL.nil {F H : Hp} {xs : List V} (h : RpSL F H xs []) : xs = [] := by
  match xs, h with
  | [], _ => rfl
/-! ### len, list, tuple, abs -/
def gLen : List D → (D → Prop) → Prop
  | [.list ds], k => k (.int ds.length)
  | [.tuple ds], k => k (.int ds.length)
  | [.str z], k => z.length ≤ sizeLine ∧ k (.int z.length)
  | _, _ => False
theorem lenS {K : PySem.W.Frag} : SndC (fun xs H Q => ∃ x n, xs = [x] ∧ LenV K x H n ∧ Q (.int n) H) gLen := fun F H xs ds k Q s rx q pd => by
  match ds, q with
  | [.list ds], q =>
    obtain ⟨x, rfl, r⟩ := rx.one
    obtain ⟨a, vs, rfl, h1, r1⟩ := r.list s
    exact ⟨_, ds.length, rfl, .inl ⟨vs, SqL.of h1, r1.length.symm⟩, flat s pd (.int _) q⟩
  | [.tuple ds], q =>
    obtain ⟨x, rfl, r⟩ := rx.one
    obtain ⟨a, vs, rfl, h1, r1⟩ := r.tup s
    exact ⟨_, ds.length, rfl, .inr ⟨vs, SqT.of h1, r1.length.symm⟩, flat s pd (.int _) q⟩
  | [.str z], q =>
    obtain ⟨x, rfl, r⟩ := rx.one
    rw [r.str]
    exact ⟨_, z.length, rfl, ⟨q.1, rfl⟩, flat s pd (.int _) q.2⟩
def gListO : List D → (List D → Prop) → Prop
  | [.list ds], k => k ds
  | [.tuple ds], k => k ds
  | _, _ => False
theorem listO {K : PySem.W.Frag} : SndCo (fun xs H Q => ∃ p ys, xs = [.ref p] ∧ (SqL K H p ys ∨ SqT K H p ys) ∧ ∀ l, H l = none → Q (.ref l) (upd H l (.lst ys))) gListO := fun F H xs ds k Q s rx q pd => by
  match ds, q with
  | [.list ds], q =>
    obtain ⟨x, rfl, r⟩ := rx.one
    obtain ⟨a, vs, rfl, h1, r1⟩ := r.list s
    exact ⟨a, vs, rfl, .inl (SqL.of h1), fun l n => pd _ _ l n r1 q⟩
  | [.tuple ds], q =>
    obtain ⟨x, rfl, r⟩ := rx.one
    obtain ⟨a, vs, rfl, h1, r1⟩ := r.tup s
    exact ⟨a, vs, rfl, .inr (SqT.of h1), fun l n => pd _ _ l n r1 q⟩
def gTupleOf : List D → (D → Prop) → Prop
  | [.list ds], k => k (.tuple ds)
  | [.tuple ds], k => k (.tuple ds)
  | _, _ => False
theorem tupleS {K : PySem.W.Frag} : SndC (fun xs H Q => ∃ p ys, xs = [.ref p] ∧ ((SqL K H p ys ∧ ∀ l, H l = none → Q (.ref l) (upd H l (.tup ys))) ∨ (SqT K H p ys ∧ Q (.ref p) H))) gTupleOf := fun F H xs ds k Q s rx q pd => by
  match ds, q with
  | [.list ds], q =>
    obtain ⟨x, rfl, r⟩ := rx.one
    obtain ⟨a, vs, rfl, h1, r1⟩ := r.list s
    refine ⟨a, vs, rfl, .inl ⟨SqL.of h1, fun l n => ?_⟩⟩
    have st := Step.laid (o := .tup vs) s n
    exact pd _ _ _ _ st (.tup upd_same (r1.mono st.ff)) q
  | [.tuple ds], q =>
    obtain ⟨x, rfl, r⟩ := rx.one
    obtain ⟨a, vs, rfl, h1, r1⟩ := r.tup s
    refine ⟨a, vs, rfl, .inr ⟨SqT.of h1, ?_⟩⟩
    generalize e2 : (PyData.tuple ds) = d at r
    cases r with
    | rp r => subst e2; exact flat s pd r q
    | ls h r => cases e2
def gAbs : List D → (D → Prop) → Prop
  | [.int i], k => k (.int (if i < 0 then -i else i))
  | _, _ => False
theorem absS : SndC (fun xs H Q => ∃ i, xs = [.int i] ∧ Q (.int (if i < 0 then -i else i)) H) gAbs := fun F H xs ds k Q s rx q pd => by
  match ds, q with
  | [.int i], q =>
    obtain ⟨x, rfl, r⟩ := rx.one
    rw [r.int]
    exact ⟨i, rfl, flat s pd (.int _) q⟩
/-! ### int(..), str(..) -/
def gInt : List D → (D → Prop) → Prop
  | [.int i], k => k (.int i)
  | [.bool b], k => k (.int (if b then 1 else 0))
  | [.str a], k => match PySem.intText? a with
    | some n => a.length ≤ 640 ∧ k (.int n)
    | none => False
  | _, _ => False
abbrev rIntAll : List V → Hp → VK → Prop := fun xs H Q => ((∃ i, xs = [.int i] ∧ Q (.int i) H) ∨ ∃ k, xs = [.bl k] ∧ Q (.int (if k then 1 else 0)) H) ∨ ∃ a n, xs = [.str a] ∧ PySem.intText? a = some n ∧ a.length ≤ 640 ∧ Q (.int n) H
theorem call_intAll : CallR X (.type "int") rIntAll := call_int1.or call_int_str
theorem intS : SndC rIntAll gInt := fun F H xs ds k Q s rx q pd => by
  match ds, q with
  | [.int i], q =>
    obtain ⟨x, rfl, r⟩ := rx.one
    rw [r.int]
    exact .inl (.inl ⟨i, rfl, flat s pd (.int _) q⟩)
  | [.bool i], q =>
    obtain ⟨x, rfl, r⟩ := rx.one
    rw [r.bl]
    exact .inl (.inr ⟨i, rfl, flat s pd (.int _) q⟩)
  | [.str a], q =>
    obtain ⟨x, rfl, r⟩ := rx.one
    rw [r.str]
    have q : (match PySem.intText? a with
      | some n => a.length ≤ 640 ∧ k (.int n)
      | none => False) := q
    split at q
    · rename_i n e
      exact .inr ⟨a, n, rfl, e, q.1, flat s pd (.int _) q.2⟩
    · exact q.elim
def gStr : List D → (D → Prop) → Prop
  | [.int i], k => i.natAbs.log2 < 1920 ∧ k (.str (toString i))
  | _, _ => False
theorem strS : SndC (fun xs H Q => ∃ i, xs = [.int i] ∧ i.natAbs.log2 < 1920 ∧ Q (.str (toString i)) H) gStr := fun F H xs ds k Q s rx q pd => by
  match ds, q with
  | [.int i], q =>
    obtain ⟨x, rfl, r⟩ := rx.one
    rw [r.int]
    exact ⟨i, rfl, q.1, flat s pd (.str _) q.2⟩
/-! ### sums, all, any, max, min, sorted: lists of ints, of truths -/
def intsOf : List D → Option (List Int)
  | [] => some []
  | .int i :: ds => (intsOf ds).map (i :: ·)
  | _ :: _ => none
theorem intsOf_map : ∀ ns : List Int, intsOf (ns.map PyData.int) = some ns
  | [] => rfl
  | n :: ns => by
    show Option.map (n :: ·) (intsOf (ns.map PyData.int)) = _
    rw [intsOf_map ns]; rfl
theorem intsOf_eq : ∀ {ds : List D} {ns : List Int}, intsOf ds = some ns → ds = ns.map PyData.int
  | [], _, h => by cases h; rfl
  | .int i :: ds, ns, h => by
    have h : Option.map (i :: ·) (intsOf ds) = some ns := h
    cases e : intsOf ds with
    | none => rw [e] at h; cases h
    | some es => rw [e] at h; cases h; rw [intsOf_eq e]; rfl
  | .none :: _, _, h => nomatch h
  | .bool _ :: _, _, h => nomatch h
  | .str _ :: _, _, h => nomatch h
  | .list _ :: _, _, h => nomatch h
  | .tuple _ :: _, _, h => nomatch h
  | .dict _ :: _, _, h => nomatch h
def blsOf : List D → Option (List Bool)
  | [] => some []
  | .bool i :: ds => (blsOf ds).map (i :: ·)
  | _ :: _ => none
theorem blsOf_map : ∀ ns : List Bool, blsOf (ns.map PyData.bool) = some ns
  | [] => rfl
  | n :: ns => by
    show Option.map (n :: ·) (blsOf (ns.map PyData.bool)) = _
    rw [blsOf_map ns]; rfl
theorem blsOf_eq : ∀ {ds : List D} {ns : List Bool}, blsOf ds = some ns → ds = ns.map PyData.bool
  | [], _, h => by cases h; rfl
  | .bool i :: ds, ns, h => by
    have h : Option.map (i :: ·) (blsOf ds) = some ns := h
    cases e : blsOf ds with
    | none => rw [e] at h; cases h
    | some es => rw [e] at h; cases h; rw [blsOf_eq e]; rfl
  | .none :: _, _, h => nomatch h
  | .int _ :: _, _, h => nomatch h
  | .str _ :: _, _, h => nomatch h
  | .list _ :: _, _, h => nomatch h
  | .tuple _ :: _, _, h => nomatch h
  | .dict _ :: _, _, h => nomatch h
def strsOf : List D → Option (List Str)
  | [] => some []
  | .str i :: ds => (strsOf ds).map (i :: ·)
  | _ :: _ => none
theorem strsOf_map : ∀ ns : List Str, strsOf (ns.map PyData.str) = some ns
  | [] => rfl
  | n :: ns => by
    show Option.map (n :: ·) (strsOf (ns.map PyData.str)) = _
    rw [strsOf_map ns]; rfl
theorem strsOf_eq : ∀ {ds : List D} {ns : List Str}, strsOf ds = some ns → ds = ns.map PyData.str
  | [], _, h => by cases h; rfl
  | .str i :: ds, ns, h => by
    have h : Option.map (i :: ·) (strsOf ds) = some ns := h
    cases e : strsOf ds with
    | none => rw [e] at h; cases h
    | some es => rw [e] at h; cases h; rw [strsOf_eq e]; rfl
  | .none :: _, _, h => nomatch h
  | .int _ :: _, _, h => nomatch h
  | .bool _ :: _, _, h => nomatch h
  | .list _ :: _, _, h => nomatch h
  | .tuple _ :: _, _, h => nomatch h
  | .dict _ :: _, _, h => nomatch h
def gAll : List D → (D → Prop) → Prop
  | [.list ds], k => match blsOf ds with
    | some bs => k (.bool (bs.all id))
    | none => False
  | _, _ => False
theorem allS {K : PySem.W.Frag} : SndC (rAll K) gAll := fun F H xs ds k Q s rx q pd => by
  match ds, q with
  | [.list ds], q =>
    obtain ⟨x, rfl, r⟩ := rx.one
    have q : (match blsOf ds with
      | some bs => k (.bool (bs.all id))
      | none => False) := q
    split at q
    · rename_i bs e
      rw [blsOf_eq e] at r
      obtain ⟨a, vs, rfl, h1, r1⟩ := r.list s
      rw [r1.bls] at h1
      exact ⟨a, bs, rfl, SqL.of h1, flat s pd (.bl _) q⟩
    · exact q.elim
def gAny : List D → (D → Prop) → Prop
  | [.list ds], k => match blsOf ds with
    | some bs => k (.bool (bs.any id))
    | none => False
  | _, _ => False
theorem anyS {K : PySem.W.Frag} : SndC (rAny K) gAny := fun F H xs ds k Q s rx q pd => by
  match ds, q with
  | [.list ds], q =>
    obtain ⟨x, rfl, r⟩ := rx.one
    have q : (match blsOf ds with
      | some bs => k (.bool (bs.any id))
      | none => False) := q
    split at q
    · rename_i bs e
      rw [blsOf_eq e] at r
      obtain ⟨a, vs, rfl, h1, r1⟩ := r.list s
      rw [r1.bls] at h1
      exact ⟨a, bs, rfl, SqL.of h1, flat s pd (.bl _) q⟩
    · exact q.elim
def gSum : List D → (D → Prop) → Prop
  | [.list ds], k => match intsOf ds with
    | some bs => k (.int bs.sum)
    | none => False
  | _, _ => False
theorem sumS {K : PySem.W.Frag} : SndC (rSum K) gSum := fun F H xs ds k Q s rx q pd => by
  match ds, q with
  | [.list ds], q =>
    obtain ⟨x, rfl, r⟩ := rx.one
    have q : (match intsOf ds with
      | some bs => k (.int bs.sum)
      | none => False) := q
    split at q
    · rename_i bs e
      rw [intsOf_eq e] at r
      obtain ⟨a, vs, rfl, h1, r1⟩ := r.list s
      rw [r1.ints] at h1
      exact ⟨a, bs, rfl, SqL.of h1, flat s pd (.int _) q⟩
    · exact q.elim
def maxL : List Int → Int
  | [] => 0
  | [x] => x
  | x :: y :: r => max x (maxL (y :: r))
def minL : List Int → Int
  | [] => 0
  | [x] => x
  | x :: y :: r => min x (minL (y :: r))
theorem maxL_ge : ∀ {ns : List Int} {n : Int}, n ∈ ns → n ≤ maxL ns
  | [x], n, h => by simp at h; subst h; exact Int.le_refl _
  | x :: y :: r, n, h => by
    have q : maxL (x :: y :: r) = max x (maxL (y :: r)) := rfl
    rw [q]
    rcases List.mem_cons.mp h with e | h
    · subst e; exact Int.le_max_left _ _
    · exact Int.le_trans (maxL_ge h) (Int.le_max_right _ _)
theorem maxL_mem : ∀ {ns : List Int}, ns ≠ [] → maxL ns ∈ ns
  | [x], _ => List.mem_singleton.mpr rfl
  | x :: y :: r, _ => by
    have q : maxL (x :: y :: r) = max x (maxL (y :: r)) := rfl
    rw [q]
    have ih := maxL_mem (ns := y :: r) (by simp)
    by_cases h : x ≤ maxL (y :: r)
    · rw [Int.max_eq_right h]; exact List.mem_cons_of_mem _ ih
    · rw [Int.max_eq_left (by omega)]; exact List.mem_cons_self
theorem minL_le : ∀ {ns : List Int} {n : Int}, n ∈ ns → minL ns ≤ n
  | [x], n, h => by simp at h; subst h; exact Int.le_refl _
  | x :: y :: r, n, h => by
    have q : minL (x :: y :: r) = min x (minL (y :: r)) := rfl
    rw [q]
    rcases List.mem_cons.mp h with e | h
    · subst e; exact Int.min_le_left _ _
    · exact Int.le_trans (Int.min_le_right _ _) (minL_le h)
theorem minL_mem : ∀ {ns : List Int}, ns ≠ [] → minL ns ∈ ns
  | [x], _ => List.mem_singleton.mpr rfl
  | x :: y :: r, _ => by
    have q : minL (x :: y :: r) = min x (minL (y :: r)) := rfl
    rw [q]
    have ih := minL_mem (ns := y :: r) (by simp)
    by_cases h : x ≤ minL (y :: r)
    · rw [Int.min_eq_left h]; exact List.mem_cons_self
    · rw [Int.min_eq_right (by omega)]; exact List.mem_cons_of_mem _ ih
def gMax : List D → (D → Prop) → Prop
  | [.list ds], k => match intsOf ds with
    | some bs => bs ≠ [] ∧ k (.int (maxL bs))
    | none => False
  | [.int i, .int j], k => k (.int (max i j))
  | _, _ => False
def gMin : List D → (D → Prop) → Prop
  | [.list ds], k => match intsOf ds with
    | some bs => bs ≠ [] ∧ k (.int (minL bs))
    | none => False
  | [.int i, .int j], k => k (.int (min i j))
  | _, _ => False
abbrev rMaxAll (K : PySem.W.Frag) : List V → Hp → VK → Prop := fun xs H Q => rMax K xs H Q ∨ ∃ i j, xs = [.int i, .int j] ∧ Q (.int (if j > i then j else i)) H
abbrev rMinAll (K : PySem.W.Frag) : List V → Hp → VK → Prop := fun xs H Q => rMin K xs H Q ∨ ∃ i j, xs = [.int i, .int j] ∧ Q (.int (if j < i then j else i)) H
theorem call_maxAll (hc : X.calm = true) : CallR X (.builtin "max") (rMaxAll X.K) := (cr_max hc).or (call_max2 hc)
theorem call_minAll (hc : X.calm = true) : CallR X (.builtin "min") (rMinAll X.K) := (cr_min hc).or (call_min2 hc)
theorem maxS {K : PySem.W.Frag} : SndC (rMaxAll K) gMax := fun F H xs ds k Q s rx q pd => by
  match ds, q with
  | [.list ds], q =>
    obtain ⟨x, rfl, r⟩ := rx.one
    have q : (match intsOf ds with
      | some bs => bs ≠ [] ∧ k (.int (maxL bs))
      | none => False) := q
    split at q
    · rename_i bs e
      rw [intsOf_eq e] at r
      obtain ⟨a, vs, rfl, h1, r1⟩ := r.list s
      rw [r1.ints] at h1
      refine .inl ⟨a, bs, rfl, SqL.of h1, List.length_pos_iff.mpr q.1, fun m hm hy => ?_⟩
      have e : m = maxL bs := Int.le_antisymm (maxL_ge hm) (hy _ (maxL_mem q.1))
      rw [e]
      exact flat s pd (.int _) q.2
    · exact q.elim
  | [.int i, .int j], q =>
    obtain ⟨x, y, rfl, r, r2⟩ := rx.two
    rw [r.int, r2.int]
    refine .inr ⟨i, j, rfl, ?_⟩
    have e : (if j > i then j else i) = max i j := by rw [Int.max_def]; split <;> split <;> omega
    rw [e]
    exact flat s pd (.int _) q
theorem minS {K : PySem.W.Frag} : SndC (rMinAll K) gMin := fun F H xs ds k Q s rx q pd => by
  match ds, q with
  | [.list ds], q =>
    obtain ⟨x, rfl, r⟩ := rx.one
    have q : (match intsOf ds with
      | some bs => bs ≠ [] ∧ k (.int (minL bs))
      | none => False) := q
    split at q
    · rename_i bs e
      rw [intsOf_eq e] at r
      obtain ⟨a, vs, rfl, h1, r1⟩ := r.list s
      rw [r1.ints] at h1
      refine .inl ⟨a, bs, rfl, SqL.of h1, List.length_pos_iff.mpr q.1, fun m hm hy => ?_⟩
      have e : m = minL bs := Int.le_antisymm (hy _ (minL_mem q.1)) (minL_le hm)
      rw [e]
      exact flat s pd (.int _) q.2
    · exact q.elim
  | [.int i, .int j], q =>
    obtain ⟨x, y, rfl, r, r2⟩ := rx.two
    rw [r.int, r2.int]
    refine .inr ⟨i, j, rfl, ?_⟩
    have e : (if j < i then j else i) = min i j := by rw [Int.min_def]; split <;> split <;> omega
    rw [e]
    exact flat s pd (.int _) q
/-- sorted: ints in order, all of them -/
def insI (x : Int) : List Int → List Int
  | [] => [x]
  | y :: r => if x ≤ y then x :: y :: r else y :: insI x r
def sortI : List Int → List Int
  | [] => []
  | x :: r => insI x (sortI r)
theorem insI_perm (x : Int) : ∀ l : List Int, (insI x l).Perm (x :: l)
  | [] => .refl _
  | y :: r => by
    unfold insI
    split
    · exact .refl _
    · exact ((insI_perm x r).cons y).trans (.swap x y r)
theorem sortI_perm : ∀ l : List Int, (sortI l).Perm l
  | [] => .refl _
  | x :: r => (insI_perm x (sortI r)).trans ((sortI_perm r).cons x)
theorem insI_sorted (x : Int) : ∀ l : List Int, l.Pairwise (· ≤ ·) → (insI x l).Pairwise (· ≤ ·)
  | [], _ => List.pairwise_singleton _ _
  | y :: r, h => by
    unfold insI
    obtain ⟨h1, h2⟩ := List.pairwise_cons.mp h
    split
    · rename_i hxy
      exact List.pairwise_cons.mpr ⟨fun z hz => by
        rcases List.mem_cons.mp hz with e | hz
        · subst e; exact hxy
        · exact Int.le_trans hxy (h1 z hz), h⟩
    · rename_i hxy
      refine List.pairwise_cons.mpr ⟨fun z hz => ?_, insI_sorted x r h2⟩
      rcases List.mem_cons.mp ((insI_perm x r).mem_iff.mp hz) with e | hz
      · subst e; omega
      · exact h1 z hz
theorem sortI_sorted : ∀ l : List Int, (sortI l).Pairwise (· ≤ ·)
  | [] => .nil
  | x :: r => insI_sorted x _ (sortI_sorted r)
theorem sorted_unique : ∀ {l m : List Int}, l.Perm m → l.Pairwise (· ≤ ·) → m.Pairwise (· ≤ ·) → l = m
  | [], m, p, _, _ => p.nil_eq
  | x :: r, [], p, _, _ => absurd p.symm.nil_eq (by simp)
  | x :: r, y :: q, p, hl, hm => by
    obtain ⟨l1, l2⟩ := List.pairwise_cons.mp hl
    obtain ⟨m1, m2⟩ := List.pairwise_cons.mp hm
    have e : x = y := by
      have hx : x ∈ y :: q := p.mem_iff.mp List.mem_cons_self
      have hy : y ∈ x :: r := p.mem_iff.mpr List.mem_cons_self
      rcases List.mem_cons.mp hx with e | hx
      · exact e
      · rcases List.mem_cons.mp hy with e | hy
        · exact e.symm
        · exact Int.le_antisymm (l1 y hy) (m1 x hx)
    subst e
    rw [sorted_unique (p.cons_inv) l2 m2]
def gSortO : List D → (List D → Prop) → Prop
  | [.list ds], k => match intsOf ds with
    | some ns => ns.length < 64 ∧ k ((sortI ns).map PyData.int)
    | none => False
  | _, _ => False
theorem sortO {K : PySem.W.Frag} : SndCo (rSorted K) gSortO := fun F H xs ds k Q s rx q pd => by
  match ds, q with
  | [.list ds], q =>
    obtain ⟨x, rfl, r⟩ := rx.one
    have q : (match intsOf ds with
      | some ns => ns.length < 64 ∧ k ((sortI ns).map PyData.int)
      | none => False) := q
    split at q
    · rename_i ns e
      rw [intsOf_eq e] at r
      obtain ⟨a, vs, rfl, h1, r1⟩ := r.list s
      rw [r1.ints] at h1
      refine ⟨a, ns, rfl, SqL.of h1, q.1, fun ns' p pm so n => ?_⟩
      have e2 : ns' = sortI ns := sorted_unique (pm.trans (sortI_perm ns).symm) so (sortI_sorted ns)
      rw [e2]
      exact pd _ _ p n (RpL.ofInts _) q.2
    · exact q.elim

/-! ### isinstance of a built-in type -/
def tyN : D → String
  | .none => "NoneType"
  | .bool _ => "bool"
  | .int _ => "int"
  | .str _ => "str"
  | .list _ => "list"
  | .tuple _ => "tuple"
  | .dict _ => "dict"
theorem RpS.ty {K : PySem.W.Frag} {F H : Hp} {v : V} {d : D} (s : Same F H) (hp : plainD d = true) (h : RpS F H v d) : TyX K H v (.type (tyN d)) := by
  cases h with
  | rp r =>
    cases r with
    | non => exact .base .non
    | bl b => exact .base (.bl b)
    | int b => exact .base (.int b)
    | str b => exact .base (.str b)
    | lst h _ => exact .base (.lst (s _ _ h))
    | tup h _ => exact .base (.tup (s _ _ h))
    | dct h _ => exact .base (.dK (s _ _ h))
    | ref => cases hp
    | exc => cases hp
    | excP => cases hp
  | ls h _ => exact .base (.lst h)
def isKd : D → Nat
  | .none => 0
  | .bool _ => 1
  | .int _ => 2
  | .str _ => 3
  | .list _ => 4
  | .tuple _ => 5
  | .dict _ => 6
/-- is it an instance of the built-in type: 0 int, 1 bool, 2 str, 3 list, 4 tuple, 5 dict -/
def tyName : Nat → String
  | 0 => "int"
  | 1 => "bool"
  | 2 => "str"
  | 3 => "list"
  | 4 => "tuple"
  | _ => "dict"
def isA (n : Nat) (d : D) : Bool := match n, d with
  | 0, .int _ => true
  | 0, .bool _ => true
  | 1, .bool _ => true
  | 2, .str _ => true
  | 3, .list _ => true
  | 4, .tuple _ => true
  | 5, .dict _ => true
  | _, _ => false
theorem kitTab : ∀ n : Nat, n < 6 → kitB "NoneType" (tyName n) = some false ∧ kitB "bool" (tyName n) = some (n == 0 || n == 1) ∧ kitB "int" (tyName n) = some (n == 0) ∧ kitB "str" (tyName n) = some (n == 2) ∧
    kitB "list" (tyName n) = some (n == 3) ∧ kitB "tuple" (tyName n) = some (n == 4) ∧ kitB "dict" (tyName n) = some (n == 5) := by decide +kernel
theorem kitB_isA (d : D) (n : Nat) (hn : n < 6) : kitB (tyN d) (tyName n) = some (isA n d) := by
  obtain ⟨h0, h1, h2, h3, h4, h5, h6⟩ := kitTab n hn
  have z : n = 0 ∨ n = 1 ∨ n = 2 ∨ n = 3 ∨ n = 4 ∨ n = 5 := by omega
  cases d
  · refine h0.trans ?_; rcases z with rfl | rfl | rfl | rfl | rfl | rfl <;> rfl
  · refine h1.trans ?_; rcases z with rfl | rfl | rfl | rfl | rfl | rfl <;> rfl
  · refine h2.trans ?_; rcases z with rfl | rfl | rfl | rfl | rfl | rfl <;> rfl
  · refine h3.trans ?_; rcases z with rfl | rfl | rfl | rfl | rfl | rfl <;> rfl
  · refine h4.trans ?_; rcases z with rfl | rfl | rfl | rfl | rfl | rfl <;> rfl
  · refine h5.trans ?_; rcases z with rfl | rfl | rfl | rfl | rfl | rfl <;> rfl
  · refine h6.trans ?_; rcases z with rfl | rfl | rfl | rfl | rfl | rfl <;> rfl
def wIsA (n : Nat) (a : Opd) : WE := fun ρ Q X => a.ev ρ (fun p ρ1 => match p.now ρ1 with
  | some x => plainD x = true ∧ Q (.bool (isA n x)) ρ1
  | none => False) X
theorem de_isa {a b e : Expr} {n : Nat} {oa : Opd} (hn : n < 6) (mk : ∀ ta tb, PE X a ta → PE X b tb → PE X e (tCB (rIsi X.K) (tCons ta (tCons tb tNil)))) (ha : DP X c a oa) (hb : PE X b (tC (.ty (tyName n)))) : DE X c e (wIsA n oa) :=
  (mk _ _ ha hb).imp fun σ H Q ⟨G, F, ρ, Qd, Qx, R, h, pd, px⟩ => ⟨G, F, ρ, _, Qx, R, h, fun p x F1 H1 ρ1 R1 s1 r1 h1 => by
    try dsimp only at h1
    split at h1
    · rename_i d e1
      exact ⟨x, .ty (tyName n), .type (tyN d), .type (tyName n), isA n d, rfl, .ty _, (R1.now r1 e1).ty R1.fh h1.1, kit_ty (kitB_isA d n hn), pd _ _ F1 H1 ρ1 R1 s1 (.bl _) h1.2⟩
    · exact h1.elim, px⟩
/-- isinstance(x, (list, tuple)) -/
theorem de_isa2 {a b1 b2 e : Expr} {n m : Nat} {oa : Opd} (hn : n < 6) (hm : m < 6) (mk : ∀ ta t1 t2, PE X a ta → PE X b1 t1 → PE X b2 t2 → PE X e (tCB (rIsiT X.K) (tCons ta (tCons (tTup (tCons t1 (tCons t2 tNil))) tNil))))
    (ha : DP X c a oa) (hb1 : PE X b1 (tC (.ty (tyName n)))) (hb2 : PE X b2 (tC (.ty (tyName m)))) :
    DE X c e (fun ρ Q X => oa.ev ρ (fun p ρ1 => match p.now ρ1 with
      | some x => plainD x = true ∧ Q (.bool (isA n x || isA m x)) ρ1
      | none => False) X) :=
  (mk _ _ _ ha hb1 hb2).imp fun σ H Q ⟨G, F, ρ, Qd, Qx, R, h, pd, px⟩ => ⟨G, F, ρ, _, Qx, R, h, fun p x F1 H1 ρ1 R1 s1 r1 h1 => by
    try dsimp only at h1
    split at h1
    · rename_i d e1
      refine ⟨by show 2 ≤ sizeLine; decide, fun t ht => ?_⟩
      have st := Step.laid (o := .tup [.ty (tyName n), .ty (tyName m)]) R1.fh ht
      have rx := ((R1.go st).now (r1.mono st.ff) e1).ty (K := X.K) (R1.go st).fh h1.1
      refine ⟨x, t, [.ty (tyName n), .ty (tyName m)], .type (tyN d), [.type (tyName n), .type (tyName m)], isA n d || isA m d, rfl, upd_same, .cons (.ty _) (.cons (.ty _) .nil), rx, ?_, pd _ _ _ _ ρ1 (R1.go st) (s1.trans st.ff) (.bl _) h1.2⟩
      refine kitAny_cons (kit_ty (kitB_isA d n hn)) (fun e => ?_) (fun e => by rw [e]; rfl)
      rw [e, Bool.false_or]
      exact kitAny_cons (kit_ty (kitB_isA d m hm)) (fun e => by rw [e]; exact kitAny_nil) (fun e => e)
    · exact h1.elim, px⟩

/-! ### methods that change nothing -/
def SndM (T : String) (r : V → List V → Hp → VK → Prop) (g : D → List D → (D → Prop) → Prop) : Prop := ∀ (F H : Hp) (x : V) (xs : List V) (d : D) (ds : List D) (k : D → Prop) (Q : VK), Same F H → RpS F H x d → RpSL F H xs ds → g d ds k →
  (∀ z v F' H', Step (fun _ => False) F H F' H' → Rp F' v z → k z → Q v H') → r x xs H Q
def SndMo (T : String) (r : V → List V → Hp → VK → Prop) (g : D → List D → (List D → Prop) → Prop) : Prop := ∀ (F H : Hp) (x : V) (xs : List V) (d : D) (ds : List D) (k : List D → Prop) (Q : VK), Same F H → RpS F H x d → RpSL F H xs ds → g d ds k →
  (∀ zs us p, H p = none → RpL F us zs → k zs → Q (.ref p) (upd H p (.lst us))) → r x xs H Q
theorem SndM.of {T : String} {r : V → List V → Hp → VK → Prop} {g : D → List D → (List D → Prop) → Prop} (h : SndMo T r g) : SndM T r (fun d ds k => g d ds fun zs => k (.list zs)) := fun F H x xs d ds k Q s rx rxs q pd => h F H x xs d ds _ Q s rx rxs q fun zs us p n rz kz => by
  have st := Step.laid (o := .lst us) s n
  exact pd _ _ _ _ st (.lst upd_same (rz.mono st.ff)) kz
def isT (T : String) : D → Prop
  | .str _ => T = "str"
  | .list _ => T = "list"
  | _ => False
theorem isT_ty {K : PySem.W.Frag} {T : String} {F H : Hp} {x : V} {d : D} (s : Same F H) (h : RpS F H x d) (e : isT T d) : tyV K T x H := by
  cases d with
  | str z => rw [h.str]; exact e
  | list ds => obtain ⟨a, vs, rfl, h1, _⟩ := h.list s; exact .inl ⟨e, vs, SqL.of h1⟩
  | _ => exact e.elim
def wMt (T : String) (g : D → List D → (D → Prop) → Prop) (a : Opd) (os : List Opd) : WE := fun ρ Q X => a.ev ρ (fun p ρ1 => match p.now ρ1 with
  | some d0 => isT T d0 ∧ wArgs os ρ1 (fun ps ρ2 => match p.now ρ2, nows ρ2 ps with
    | some d, some ds => g d ds fun z => Q z ρ2
    | _, _ => False) X
  | none => False) X
def wMtO (T : String) (g : D → List D → (List D → Prop) → Prop) (a : Opd) (os : List Opd) : WO := fun ρ Q X => a.ev ρ (fun p ρ1 => match p.now ρ1 with
  | some d0 => isT T d0 ∧ wArgs os ρ1 (fun ps ρ2 => match p.now ρ2, nows ρ2 ps with
    | some d, some ds => g d ds fun z => Q (DL.own z) ρ2
    | _, _ => False) X
  | none => False) X
theorem de_mt {T : String} {a e : Expr} {es : List Expr} {r : V → List V → Hp → VK → Prop} {g : D → List D → (D → Prop) → Prop} {oa : Opd} {os : List Opd} (sn : SndM T r g) (mk : ∀ ta t, PE X a ta → PA X es t → PE X e (tBM X.K T r ta t)) (ha : DP X c a oa) (hs : DA X c es os) : DE X c e (wMt T g oa os) :=
  (mk _ _ ha hs).imp fun σ H Q ⟨G, F, ρ, Qd, Qx, R, h, pd, px⟩ => ⟨G, F, ρ, _, Qx, R, h, fun p x F1 H1 ρ1 R1 s1 r1 h1 => by
    try dsimp only at h1
    split at h1
    · rename_i d0 e0
      refine ⟨isT_ty R1.fh (R1.now r1 e0) h1.1, G, F1, ρ1, _, Qx, R1, h1.2, fun ps vs F2 H2 ρ2 R2 s2 r2 h2 => ?_, px.later s1⟩
      split at h2
      · rename_i d ds e1 e2
        exact sn F2 H2 x vs d ds _ Q R2.fh (R2.now (r1.mono s2) e1) (R2.nows r2 e2) h2 fun z v F3 H3 st rz kz => pd z v F3 H3 ρ2 (R2.go st) ((s1.trans s2).trans st.ff) rz kz
      · exact h2.elim
    · exact h1.elim, px⟩
theorem do_mt {T : String} {a e : Expr} {es : List Expr} {r : V → List V → Hp → VK → Prop} {g : D → List D → (List D → Prop) → Prop} {oa : Opd} {os : List Opd} (sn : SndMo T r g) (mk : ∀ ta t, PE X a ta → PA X es t → PE X e (tBM X.K T r ta t)) (ha : DP X c a oa) (hs : DA X c es os) : DO X c e (wMtO T g oa os) :=
  (mk _ _ ha hs).imp fun σ H Q ⟨G, F, ρ, Qd, Qx, R, h, pd, px⟩ => ⟨G, F, ρ, _, Qx, R, h, fun p x F1 H1 ρ1 R1 s1 r1 h1 => by
    try dsimp only at h1
    split at h1
    · rename_i d0 e0
      refine ⟨isT_ty R1.fh (R1.now r1 e0) h1.1, G, F1, ρ1, _, Qx, R1, h1.2, fun ps vs F2 H2 ρ2 R2 s2 r2 h2 => ?_, px.later s1⟩
      split at h2
      · rename_i d ds e1 e2
        exact sn F2 H2 x vs d ds _ Q R2.fh (R2.now (r1.mono s2) e1) (R2.nows r2 e2) h2 fun zs us q n rz kz => R2.post (s1.trans s2) pd n rz kz
      · exact h2.elim
    · exact h1.elim, px⟩
def gSplitO : D → List D → (List D → Prop) → Prop
  | .str a, [.str b], k => (b.length == 0) = false ∧ a.length + 2 ≤ sizeLine ∧ k ((Txt.split a b).map PyData.str)
  | _, _, _ => False
theorem splitO : SndMo "str" (fun x xs H Q => ∃ a b, x = .str a ∧ xs = [.str b] ∧ (b.length == 0) = false ∧ a.length + 2 ≤ sizeLine ∧ rNewStrs (Txt.split a b) H Q) gSplitO := fun F H x xs d ds k Q s rx rxs q pd => by
  match d, ds, q with
  | .str a, [.str b], q =>
    obtain ⟨y, rfl, ry⟩ := rxs.one
    rw [rx.str, ry.str]
    exact ⟨a, b, rfl, rfl, q.1, q.2.1, fun p n => pd _ _ p n (RpL.ofStrs _) q.2.2⟩
def gJoin : D → List D → (D → Prop) → Prop
  | .str a, [.list ds], k => match strsOf ds with
    | some ys => (ys.map (·.length)).sum + ys.length * a.length ≤ 16777216 ∧ k (.str (Txt.join a ys))
    | none => False
  | _, _, _ => False
theorem joinS {K : PySem.W.Frag} : SndM "str" (fun x xs H Q => ∃ a p, ∃ ys : List Str, x = .str a ∧ xs = [.ref p] ∧ (SqL K H p (ys.map V.str) ∨ SqT K H p (ys.map V.str)) ∧ (ys.map (·.length)).sum + ys.length * a.length ≤ 16777216 ∧ Q (.str (Txt.join a ys)) H) gJoin := fun F H x xs d ds k Q s rx rxs q pd => by
  match d, ds, q with
  | .str a, [.list ds], q =>
    obtain ⟨y, rfl, ry⟩ := rxs.one
    have q : (match strsOf ds with
      | some ys => (ys.map (·.length)).sum + ys.length * a.length ≤ 16777216 ∧ k (.str (Txt.join a ys))
      | none => False) := q
    split at q
    · rename_i ys e
      rw [rx.str]
      rw [strsOf_eq e] at ry
      obtain ⟨p, vs, rfl, h1, r1⟩ := ry.list s
      rw [r1.strs] at h1
      exact ⟨a, p, ys, rfl, rfl, .inl (SqL.of h1), q.1, flat s pd (.str _) q.2⟩
    · exact q.elim
def gFind : D → List D → (D → Prop) → Prop
  | .str a, [.str b], k => k (.int (Txt.find a b))
  | _, _, _ => False
theorem findS : SndM "str" (fun x xs H Q => ∃ a b, x = .str a ∧ xs = [.str b] ∧ Q (.int (Txt.find a b)) H) gFind := fun F H x xs d ds k Q s rx rxs q pd => by
  match d, ds, q with
  | .str a, [.str b], q =>
    obtain ⟨y, rfl, ry⟩ := rxs.one
    rw [rx.str, ry.str]
    exact ⟨a, b, rfl, rfl, flat s pd (.int _) q⟩
/-- the first place of an equal one -/
def idxD (d : D) : List D → Option Nat
  | [] => none
  | z :: zs => if PyData.eqv z d = true then some 0 else (idxD d zs).map (· + 1)
theorem idxD_spec {d : D} : ∀ {ds : List D} {j : Nat}, idxD d ds = some j → ∃ z, ds[j]? = some z ∧ PyData.eqv z d = true ∧ ∀ (m : Nat) (z' : D), m < j → ds[m]? = some z' → PyData.eqv z' d = false
  | [], _, h => nomatch h
  | z :: zs, j, h => by
    unfold idxD at h
    split at h
    · rename_i e
      cases h
      exact ⟨z, rfl, e, fun m _ hm => absurd hm (Nat.not_lt_zero _)⟩
    · rename_i e
      cases q : idxD d zs with
      | none => rw [q] at h; cases h
      | some i =>
        rw [q] at h
        cases h
        obtain ⟨w, h1, h2, h3⟩ := idxD_spec q
        refine ⟨w, by simpa using h1, h2, fun m z' hm hz => ?_⟩
        cases m with
        | zero =>
          have hz : some z = some z' := hz
          cases hz
          exact Bool.eq_false_iff.mpr e
        | succ m =>
          have hm : m + 1 < i + 1 := hm
          exact h3 m z' (by omega) (by simpa using hz)
def gIndex : D → List D → (D → Prop) → Prop
  | .list xs, [d], k => SeqAt.shaped (.list xs) = true ∧ SeqAt.shaped d = true ∧ match idxD d xs with
    | some j => k (.int (j : Nat))
    | none => False
  | _, _, _ => False
theorem indexS {K : PySem.W.Frag} : SndM "list" (rIndexD K) gIndex := fun F H x xs d ds k Q s rx rxs q pd => by
  match d, ds, q with
  | .list zs, [d], q =>
    obtain ⟨y, rfl, ry⟩ := rxs.one
    obtain ⟨q1, q2, q3⟩ := q
    split at q3
    · rename_i j e
      obtain ⟨z, h1, h2, h3⟩ := idxD_spec e
      have dx := rx.dp (K := K) s q1
      obtain ⟨a, vs, rfl, _, _⟩ := rx.list s
      exact ⟨a, y, d, zs, j, z, rfl, rfl, dx, ry.dp s q2, q1, q2, h1, h2, h3, flat s pd (.int _) q3⟩
    · exact q3.elim

/-! ### f-strings -/
def wFmt (a : WE) : WE := fun ρ Q X => a ρ (fun d ρ1 => match d with
  | .str y => y.length ≤ sizeLine ∧ Q (.str y) ρ1
  | .int i => i.natAbs.log2 < 1920 ∧ Q (.str (toString i)) ρ1
  | _ => False) X
theorem de_fmt {e : Expr} {w : WE} {pos} (h : DE X c e w) : DE X c (.FormattedValue e (-1) none pos) (wFmt w) := (pe_fmt h).imp fun σ H Q ⟨G, F, ρ, Qd, Qx, R, h, pd, px⟩ => ⟨G, F, ρ, _, Qx, R, h, fun d v F1 H1 ρ1 R1 s1 r1 h1 => by
  try dsimp only at h1
  split at h1
  · cases r1
    exact .inl ⟨_, rfl, h1.1, pd _ _ F1 H1 ρ1 R1 s1 (.str _) h1.2⟩
  · cases r1
    exact .inr ⟨_, rfl, h1.1, pd _ _ F1 H1 ρ1 R1 s1 (.str _) h1.2⟩
  · exact h1.elim, px⟩
def wJs : List WE → Str → Env' → (D → Env' → Prop) → PX → Prop
  | [], acc, ρ, Q, _ => Q (.str acc) ρ
  | w :: ws, acc, ρ, Q, X => w ρ (fun d ρ1 => match d with
    | .str y => (acc ++ y).length ≤ sizeLine ∧ wJs ws (acc ++ y) ρ1 Q X
    | _ => False) X
inductive DJ (X : Cx) (c : Cf) : List Expr → List WE → Prop where
  | nil : DJ X c [] []
  | cons {e : Expr} {w : WE} {es : List Expr} {ws : List WE} (h : DE X c e w) (r : DJ X c es ws) : DJ X c (e :: es) (w :: ws)
theorem DJ.pj {es : List Expr} {ws : List WE} (h : DJ X c es ws) : PJ X es (ws.map (RE c)) := by
  induction h with
  | nil => exact .nil
  | cons h r ih => exact .cons h ih
theorem js_run : ∀ {ws : List WE} {acc : Str} {G : Ent} {F H : Hp} {σ : L2.St} {ρ : Env'} {Qd : D → Env' → Prop} {Qx : PX} {Q : VK}, Rel c.B c.P G F H σ ρ → wJs ws acc ρ Qd Qx → PostD c G σ F Qd Q → PostX c G σ F Qx →
    tJs (ws.map (RE c)) acc σ H (fun out H1 => Q (.str out) H1)
  | [], acc, G, F, H, σ, ρ, Qd, Qx, Q, R, h, pd, px => pd _ _ F H ρ R (Same.refl _) (.str _) h
  | w :: ws, acc, G, F, H, σ, ρ, Qd, Qx, Q, R, h, pd, px => ⟨G, F, ρ, _, Qx, R, h, fun d v F1 H1 ρ1 R1 s1 r1 h1 => by
    try dsimp only at h1
    split at h1
    · cases r1
      exact ⟨_, rfl, h1.1, js_run R1 h1.2 (pd.later s1) (px.later s1)⟩
    · exact h1.elim, px⟩
theorem de_js {v1 v2 : Expr} {rest : List Expr} {ws : List WE} {pos} (h : DJ X c (v1 :: v2 :: rest) ws) : DE X c (.JoinedStr (v1 :: v2 :: rest) pos) (wJs ws Str.empty) :=
  (pe_joined h.pj).imp fun σ H Q ⟨G, F, ρ, Qd, Qx, R, h, pd, px⟩ => js_run R h pd px
theorem de_js1 {e : Expr} {w : WE} {pos} (h : DE X c e w) : DE X c (.JoinedStr [e] pos) w := pe_joined1 h
/-! ### list(range(..)) -/
def rgD (a b : Int) : List D := (List.range (b - a).toNat).map fun i => PyData.int (a + (i : Nat))
theorem rgD_rp {F : Hp} (a b : Int) : RpL F (rgV a b) (rgD a b) := by
  unfold rgV rgD
  generalize List.range (b - a).toNat = l
  induction l with
  | nil => exact .nil
  | cons i l ih => exact .cons (.int _) ih
def wLrg1 (w : WE) : WO := fun ρ Q X => w ρ (fun d ρ1 => match d with
  | .int n => RgOk 0 n ∧ Q (DL.own (rgD 0 n)) ρ1
  | _ => False) X
theorem do_lrg1 {a e : Expr} {w : WE} (mk : ∀ ta, PE X a ta → PE X e (tLstRg (tRg1 ta))) (h : DE X c a w) : DO X c e (wLrg1 w) := (mk _ h).imp fun σ H Q ⟨G, F, ρ, Qd, Qx, R, h, pd, px⟩ => ⟨G, F, ρ, _, Qx, R, h, fun d v F1 H1 ρ1 R1 s1 r1 h1 => by
  try dsimp only at h1
  split at h1
  · cases r1
    exact ⟨_, rfl, h1.1, fun q n => R1.post s1 pd n (rgD_rp _ _) h1.2⟩
  · exact h1.elim, px⟩
def wLrg2 (w u : WE) : WO := fun ρ Q X => w ρ (fun d ρ1 => u ρ1 (fun e ρ2 => match d, e with
  | .int m, .int n => RgOk m n ∧ Q (DL.own (rgD m n)) ρ2
  | _, _ => False) X) X
theorem do_lrg2 {a b e : Expr} {w u : WE} (mk : ∀ ta tb, PE X a ta → PE X b tb → PE X e (tLstRg (tRg2 ta tb))) (ha : DE X c a w) (hb : DE X c b u) : DO X c e (wLrg2 w u) := (mk _ _ ha hb).imp fun σ H Q ⟨G, F, ρ, Qd, Qx, R, h, pd, px⟩ => ⟨G, F, ρ, _, Qx, R, h, fun d v F1 H1 ρ1 R1 s1 r1 h1 => ⟨G, F1, ρ1, _, Qx, R1, h1, fun d2 v2 F2 H2 ρ2 R2 s2 r2 h2 => by
  try dsimp only at h2
  split at h2
  · cases r1; cases r2
    exact ⟨_, _, rfl, rfl, h2.1, fun q n => R2.post (s1.trans s2) pd n (rgD_rp _ _) h2.2⟩
  · exact h2.elim, px.later s1⟩, px⟩
end
end DL
set_option maxHeartbeats 4000000
/-! DL4: statements, targets, loops, comprehensions. -/
namespace DL
open PySem PySem.Spec L2
structure K3 where
  nx : Env' → Prop
  rt : C → Env' → Prop
  bk : Env' → Prop
  ct : Env' → Prop
  ex : PX
abbrev WS := K3 → Env' → Prop
structure PostS (c : Cf) (G : Ent) (F : Hp) (k : K3) (D : Ends) : Prop where
  nx : ∀ F' H' σ' ρ', Rel c.B c.P G F' H' σ' ρ' → Same F F' → k.nx ρ' → D.nx σ' H'
  rt : ∀ r v F' H' σ' ρ', σ'.length = ρ'.length → G.n ≤ σ'.length → Rel c.B c.P G F' H' (σ' ++ [some v]) (ρ' ++ [r]) → Same F F' → k.rt r ρ' → D.rt v H'
  bk : ∀ F' H' σ' ρ', Rel c.B c.P G F' H' σ' ρ' → Same F F' → k.bk ρ' → D.bk σ' H'
  ct : ∀ F' H' σ' ρ', Rel c.B c.P G F' H' σ' ρ' → Same F F' → k.ct ρ' → D.ct σ' H'
  ex : ∀ x cls dd F' H' σ' ρ', Rel c.B c.P G F' H' σ' ρ' → Same F F' → ExnAt c.ca x cls dd F' → k.ex x ρ' → c.W cls dd σ' H'
def RS (c : Cf) (w : WS) : TS := fun D σ H => ∃ G F ρ k, Rel c.B c.P G F H σ ρ ∧ w k ρ ∧ PostS c G F k D
abbrev DS (X : Cx) (c : Cf) (s : Stmt) (w : WS) : Prop := PS X s (RS c w)
abbrev DSs (X : Cx) (c : Cf) (s : List Stmt) (w : WS) : Prop := PSs X s (RS c w)
section
variable {X : Cx} {c : Cf}
theorem PostS.later {G : Ent} {F F1 : Hp} {k : K3} {D : Ends} (p : PostS c G F k D) (s : Same F F1) : PostS c G F1 k D :=
  ⟨fun _ _ _ _ R s1 q => p.nx _ _ _ _ R (s.trans s1) q, fun _ _ _ _ _ _ l hn R s1 q => p.rt _ _ _ _ _ _ l hn R (s.trans s1) q, fun _ _ _ _ R s1 q => p.bk _ _ _ _ R (s.trans s1) q, fun _ _ _ _ R s1 q => p.ct _ _ _ _ R (s.trans s1) q,
    fun _ _ _ _ _ _ _ R s1 e q => p.ex _ _ _ _ _ _ _ R (s.trans s1) e q⟩
theorem PostS.px {G : Ent} {F : Hp} {k : K3} {D : Ends} (p : PostS c G F k D) (σ : L2.St) : PostX c G σ F k.ex := fun x cls dd F' H' ρ' R s e q => p.ex x cls dd F' H' σ ρ' R s e q
/-! ### blocks, small statements -/
def wNext : WS := fun k ρ => k.nx ρ
def wSeq (a b : WS) : WS := fun k ρ => a { k with nx := b k } ρ
theorem dss_nil : DSs X c [] wNext := pss_nil.imp fun D σ H ⟨G, F, ρ, k, R, h, p⟩ => p.nx F H σ ρ R (Same.refl _) h
theorem dss_one {s : Stmt} {w : WS} (h : DS X c s w) : DSs X c [s] w := pss_one h
theorem dss_cons {s : Stmt} {r : List Stmt} {w u : WS} (h : DS X c s w) (hr : DSs X c r u) : DSs X c (s :: r) (wSeq w u) := (pss_cons h hr).imp fun D σ H ⟨G, F, ρ, k, R, h, p⟩ =>
  ⟨G, F, ρ, { k with nx := u k }, R, h, ⟨fun F' H' σ' ρ' R' s' q => ⟨G, F', ρ', k, R', q, p.later s'⟩, p.rt, p.bk, p.ct, p.ex⟩⟩
theorem ds_pass {pos} : DS X c (.Pass pos) wNext := ps_pass.imp fun D σ H ⟨G, F, ρ, k, R, h, p⟩ => p.nx F H σ ρ R (Same.refl _) h
theorem ds_break {pos} : DS X c (.Break pos) (fun k ρ => k.bk ρ) := ps_break.imp fun D σ H ⟨G, F, ρ, k, R, h, p⟩ => p.bk F H σ ρ R (Same.refl _) h
theorem ds_cont {pos} : DS X c (.Continue pos) (fun k ρ => k.ct ρ) := ps_continue.imp fun D σ H ⟨G, F, ρ, k, R, h, p⟩ => p.ct F H σ ρ R (Same.refl _) h
def wDrop (w : WE) : WS := fun k ρ => w ρ (fun _ ρ' => k.nx ρ') k.ex
theorem ds_expr {e : Expr} {w : WE} {pos} (he : DE X c e w) (hs : swapsWith e none pos.line X.env = pure false := by rfl) : DS X c (.Expr e pos) (wDrop w) := (ps_expr he hs).imp fun D σ H ⟨G, F, ρ, k, R, h, p⟩ =>
  ⟨G, F, ρ, _, k.ex, R, h, fun d v F' H' ρ' R' s' r q => p.nx F' H' σ ρ' R' s' q, p.px σ⟩
def wRet (w : WE) : WS := fun k ρ => w ρ (fun d ρ' => k.rt (.val d) ρ') k.ex
theorem ds_ret {e : Expr} {w : WE} {pos} (he : DE X c e w) : DS X c (.Return (some e) pos) (wRet w) := (ps_ret he).imp fun D σ H ⟨G, F, ρ, k, R, h, p⟩ =>
  ⟨G, F, ρ, _, k.ex, R, h, fun d v F' H' ρ' R' s' r q => p.rt _ v F' H' σ ρ' R'.len R'.nl (R'.pushVal r) s' q, p.px σ⟩
def wRetO (w : WO) : WS := fun k ρ => w ρ (fun t ρ' => k.rt (.own t) ρ') k.ex
theorem ds_retO {e : Expr} {w : WO} {pos} (he : DO X c e w) : DS X c (.Return (some e) pos) (wRetO w) := (ps_ret he).imp fun D σ H ⟨G, F, ρ, k, R, h, p⟩ =>
  ⟨G, F, ρ, _, k.ex, R, h, fun t v F' H' ρ' l R' s' q => p.rt _ v F' H' σ ρ' l R.nl R' s' q, p.px σ⟩
theorem ds_retN {pos} : DS X c (.Return none pos) (fun k ρ => k.rt (.val .none) ρ) := ps_retN.imp fun D σ H ⟨G, F, ρ, k, R, h, p⟩ => p.rt _ .non F H σ ρ R.len R.nl (R.pushVal .non) (Same.refl _) h
/-- return of a slot's own tree -/
def wRetSlot (i : Nat) : WS := fun k ρ => match ρ[i]? with
  | some (.own t) => k.rt (.own t) (ρ.set i .no)
  | _ => False
theorem ds_retSlot {i : Nat} {e : Expr} {pos} (he : PE X e (tVar i)) (hP : i ∉ c.P) : DS X c (.Return (some e) pos) (wRetSlot i) := (ps_ret he).imp fun D σ H ⟨G, F, ρ, k, R, h, p⟩ => by
  unfold wRetSlot at h
  split at h
  · rename_i t e1
    obtain ⟨v, e2⟩ := R.tree e1
    exact ⟨v, e2, p.rt _ v F H σ _ (by rw [List.length_set]; exact R.len) R.nl (R.moveOut hP e1 e2) (Same.refl _) h⟩
  · exact h.elim
/-- a slot's own list, frozen from now on, as a value -/
def wFz (i : Nat) : WE := fun ρ Q _ => match ownAt ρ i with
  | some ds => Q (.list ds) (ρ.set i (.val (.list ds)))
  | none => False
theorem de_fz {i : Nat} {e : Expr} (he : PE X e (tVar i)) (hP : i ∉ c.P) : DE X c e (wFz i) := he.imp fun σ H Q ⟨G, F, ρ, Qd, Qx, R, h, pd, px⟩ => by
  unfold wFz at h
  split at h
  · rename_i ds e1
    obtain ⟨a, vs, e2, e3, _, _⟩ := R.own (ownAt_of e1)
    obtain ⟨R2, rp, s2⟩ := R.frz (fun a => R.noW' hP a) (ownAt_of e1) e2 e3
    exact ⟨_, e2, pd _ _ _ H _ R2 s2 rp h⟩
  · exact h.elim
def wIfS (t : WB) (a b : WS) : WS := fun k ρ => t ρ (fun v ρ' => if v = true then a k ρ' else b k ρ') k.ex
theorem ds_if {e : Expr} {a b : List Stmt} {wt : WB} {wa wb : WS} {pos} (ht : DT X c e wt) (ha : DSs X c a wa) (hb : DSs X c b wb) : DS X c (.If e a b pos) (wIfS wt wa wb) := (ps_if ht ha hb).imp fun D σ H ⟨G, F, ρ, k, R, h, p⟩ =>
  ⟨G, F, ρ, _, k.ex, R, h, fun v F' H' ρ' R' s' q => by
    cases v with
    | true => exact ⟨G, F', ρ', k, R', q, p.later s'⟩
    | false => exact ⟨G, F', ρ', k, R', q, p.later s'⟩, p.px σ⟩
/-! ### targets -/
abbrev WG := D → Env' → (Env' → Prop) → Prop
abbrev WGs := List D → Env' → (Env' → Prop) → Prop
def RG (c : Cf) (is : List Nat) (g : WG) : TG := fun v σ H Q => ∃ G F ρ d Qn, Rel c.B c.P G F H σ ρ ∧ Rp F v d ∧ g d ρ Qn ∧ (∀ F' H' σ' ρ', Rel c.B c.P G F' H' σ' ρ' → Same F F' → (∀ j, j ∉ is → σ'[j]? = σ[j]?) → σ'.length = σ.length → Qn ρ' → Q σ' H')
def RGs (c : Cf) (is : List Nat) (g : WGs) : TGs := fun v σ H Q => ∃ G F ρ d Qn, Rel c.B c.P G F H σ ρ ∧ RpL F v d ∧ g d ρ Qn ∧ (∀ F' H' σ' ρ', Rel c.B c.P G F' H' σ' ρ' → Same F F' → (∀ j, j ∉ is → σ'[j]? = σ[j]?) → σ'.length = σ.length → Qn ρ' → Q σ' H')
abbrev DG (X : Cx) (c : Cf) (tg : Expr) (is : List Nat) (g : WG) : Prop := PG X tg (RG c is g)
abbrev DGs (X : Cx) (c : Cf) (tg : List Expr) (is : List Nat) (g : WGs) : Prop := PGs X tg (RGs c is g)
theorem _root_.L2.PG.imp {X : Cx} {e : Expr} {t t' : TG} (h : PG X e t) (i : ∀ v σ H Q, t' v σ H Q → t v σ H Q) : PG X e t' := ⟨fun pins s σ H v u Q I r q => h.run pins s σ H v u Q I r (i v σ H Q q)⟩
theorem _root_.L2.PGs.imp {X : Cx} {e : List Expr} {t t' : TGs} (h : PGs X e t) (i : ∀ v σ H Q, t' v σ H Q → t v σ H Q) : PGs X e t' := ⟨fun pins s σ H v u Q I r q => h.run pins s σ H v u Q I r (i v σ H Q q)⟩
def gNm (i : Nat) : WG := fun d ρ Q => Q (ρ.set i (.val d))
theorem dg_name {i : Nat} {e : Expr} (h : PG X e (gName i)) (hP : i ∉ c.P) : DG X c e [i] (gNm i) := h.imp fun v σ H Q ⟨G, F, ρ, d, Qn, R, r, h, p⟩ =>
  p F H _ _ (R.setVal hP r) (Same.refl _) (fun j hj => List.getElem?_set_ne (fun e => hj (by rw [e]; exact List.mem_singleton.mpr rfl))) List.length_set h
def gNil' : WGs := fun ds ρ Q => match ds with
  | [] => Q ρ
  | _ => False
def gCons' (g : WG) (gs : WGs) : WGs := fun ds ρ Q => match ds with
  | d :: r => g d ρ fun ρ1 => gs r ρ1 Q
  | _ => False
theorem dgs_nil : DGs X c [] [] gNil' := pgs_nil.imp fun v σ H Q ⟨G, F, ρ, d, Qn, R, r, h, p⟩ => by
  cases r with
  | nil => exact ⟨rfl, p F H σ ρ R (Same.refl _) (fun _ _ => rfl) rfl h⟩
  | cons _ _ => exact h.elim
theorem dgs_cons {e : Expr} {es : List Expr} {i1 i2 : List Nat} {g : WG} {gs : WGs} (h : DG X c e i1 g) (hr : DGs X c es i2 gs) (hs : (assignEach (e :: es) X.env).map (·.2) = assign e X.env :: (assignEach es X.env).map (·.2) := by rfl) : DGs X c (e :: es) (i1 ++ i2) (gCons' g gs) :=
  (pgs_cons h hr hs).imp fun v σ H Q ⟨G, F, ρ, d, Qn, R, r, h, p⟩ => by
    cases r with
    | nil => exact h.elim
    | @cons v vs d ds r rr =>
      refine ⟨v, vs, rfl, G, F, ρ, d, _, R, r, h, fun F1 H1 σ1 ρ1 R1 s1 e1 l1 q1 => ⟨G, F1, ρ1, ds, Qn, R1, rr.mono s1, q1, fun F2 H2 σ2 ρ2 R2 s2 e2 l2 q2 => ?_⟩⟩
      exact p F2 H2 σ2 ρ2 R2 (s1.trans s2) (fun j hj => (e2 j fun z => hj (List.mem_append_right _ z)).trans (e1 j fun z => hj (List.mem_append_left _ z))) (l2.trans l1) q2
def gTp (n : Nat) (gs : WGs) : WG := fun d ρ Q => match d with
  | .tuple ds => ds.length = n ∧ gs ds ρ Q
  | _ => False
def gLs (n : Nat) (gs : WGs) : WG := fun d ρ Q => match d with
  | .list ds => ds.length = n ∧ gs ds ρ Q
  | _ => False
theorem dg_tup {es : List Expr} {is : List Nat} {gs : WGs} {n k : Nat} {pos} (hc : X.calm = true) (h : DGs X c es is gs) (hn : (assignEach es X.env).length = n := by rfl) (hst : (assignEach es X.env).findIdx? (·.1) = none := by rfl) : DG X c (.Tuple es k pos) is (gTp n gs) :=
  (pg_tup hc h hn hst).imp fun v σ H Q ⟨G, F, ρ, d, Qn, R, r, h, p⟩ => by
    unfold gTp at h
    split at h
    · cases r with
      | tup e1 r1 => exact ⟨_, _, rfl, SqT.of (R.fh _ _ e1), by rw [r1.length]; exact h.1, G, F, ρ, _, Qn, R, r1, h.2, p⟩
    · exact h.elim
theorem dg_lst {es : List Expr} {is : List Nat} {gs : WGs} {n k : Nat} {pos} (hc : X.calm = true) (h : DGs X c es is gs) (hn : (assignEach es X.env).length = n := by rfl) (hst : (assignEach es X.env).findIdx? (·.1) = none := by rfl) : DG X c (.Tuple es k pos) is (gLs n gs) :=
  (pg_lst hc h hn hst).imp fun v σ H Q ⟨G, F, ρ, d, Qn, R, r, h, p⟩ => by
    unfold gLs at h
    split at h
    · cases r with
      | lst e1 r1 => exact ⟨_, _, rfl, SqL.of (R.fh _ _ e1), by rw [r1.length]; exact h.1, G, F, ρ, _, Qn, R, r1, h.2, p⟩
    · exact h.elim
/-! ### assignments -/
def wSet (i : Nat) (w : WE) : WS := fun k ρ => w ρ (fun d ρ' => k.nx (ρ'.set i (.val d))) k.ex
theorem ds_set {s : Stmt} {i : Nat} {e : Expr} {w : WE} (mk : ∀ te, PE X e te → PS X s (tAsg te (gName i))) (he : DE X c e w) (hP : i ∉ c.P) : DS X c s (wSet i w) := (mk _ he).imp fun D σ H ⟨G, F, ρ, k, R, h, p⟩ =>
  ⟨G, F, ρ, _, k.ex, R, h, fun d v F' H' ρ' R' s' r q => p.nx F' H' _ _ (R'.setVal hP r) s' q, p.px σ⟩
def wSetO (i : Nat) (w : WO) : WS := fun k ρ => w ρ (fun t ρ' => k.nx (ρ'.set i (.own t))) k.ex
theorem ds_setO {s : Stmt} {i : Nat} {e : Expr} {w : WO} (mk : ∀ te, PE X e te → PS X s (tAsg te (gName i))) (he : DO X c e w) (hP : i ∉ c.P) : DS X c s (fun k ρ => i < ρ.length ∧ wSetO i w k ρ) := (mk _ he).imp fun D σ H ⟨G, F, ρ, k, R, h, p⟩ =>
  ⟨G, F, ρ, _, k.ex, R, h.2, fun t v F' H' ρ' l R' s' q => p.nx F' H' _ _ (R'.settle l R.nl R.pinL (by rw [R.len]; exact h.1) hP) s' q, p.px σ⟩
def wAsg (w : WE) (g : WG) : WS := fun k ρ => w ρ (fun d ρ' => g d ρ' k.nx) k.ex
theorem ds_asg {tg e : Expr} {is : List Nat} {w : WE} {g : WG} {pos} (he : DE X c e w) (hg : DG X c tg is g) (hs : swapsWithSole [tg] e pos.line X.env = pure false := by rfl) (hw : swappedStores [tg] e X.env = pure none := by rfl)
    (h1 : (assignEach [tg] X.env).map (·.2) = [assign tg X.env] := by rfl) : DS X c (.Assign [tg] e pos) (wAsg w g) := (ps_asg he hg hs hw h1).imp fun D σ H ⟨G, F, ρ, k, R, h, p⟩ =>
  ⟨G, F, ρ, _, k.ex, R, h, fun d v F' H' ρ' R' s' r q => ⟨G, F', ρ', d, _, R', r, q, fun F2 H2 σ2 ρ2 R2 s2 _ _ q2 => p.nx F2 H2 σ2 ρ2 R2 (s'.trans s2) q2⟩, p.px σ⟩
/-- x += e of ints -/
def wAugI (i : Nat) (f : Int → Int → Int) (w : WE) : WS := fun k ρ => match ρ[i]? with
  | some (.val (.int a)) => w ρ (fun d ρ' => match d with
    | .int b => k.nx (ρ'.set i (.val (.int (f a b))))
    | _ => False) k.ex
  | _ => False
theorem ds_augI {s : Stmt} {i : Nat} {e : Expr} {w : WE} {f : Int → Int → Int} (mk : ∀ te, PE X e te → PS X s (tAug i te (ipI f))) (he : DE X c e w) (hP : i ∉ c.P) : DS X c s (wAugI i f w) := (mk _ he).imp fun D σ H ⟨G, F, ρ, k, R, h, p⟩ => by
  unfold wAugI at h
  split at h
  · rename_i a e1
    obtain ⟨v, e2, r⟩ := R.val e1
    cases r
    refine ⟨_, e2, G, F, ρ, _, k.ex, R, h, fun d v F' H' ρ' R' s' r q => ?_, p.px σ⟩
    dsimp only at q
    split at q
    · cases r
      exact ⟨_, _, rfl, rfl, p.nx F' H' _ _ (R'.setVal hP (.int _)) s' q⟩
    · exact q.elim
  · exact h.elim
/-! ### one's own list is changed by a method -/
def SndW (r : V → List V → Hp → VK → Prop) (g : List D → List D → (D → List D → Prop) → Prop) : Prop := ∀ (F H : Hp) (a : Addr) (vs xs : List V) (ds es : List D) (k : D → List D → Prop) (Q : VK), Same F H → H a = some (.lst vs) → RpL F vs ds → RpL F xs es → g ds es k →
  (∀ z v us zs, Rp F v z → RpL F us zs → k z zs → Q v (upd H a (.lst us))) → r (.ref a) xs H Q
def wMu (i : Nat) (g : List D → List D → (D → List D → Prop) → Prop) (os : List Opd) : WE := fun ρ Q X => match ownAt ρ i with
  | some _ => wArgs os ρ (fun ps ρ1 => match ownAt ρ1 i, valsOf ps with
    | some ds, some es => g ds es fun z zs => Q z (ρ1.set i (.own (DL.own zs)))
    | _, _ => False) X
  | none => False
theorem de_mu {a e : Expr} {es : List Expr} {i : Nat} {r : V → List V → Hp → VK → Prop} {g : List D → List D → (D → List D → Prop) → Prop} {os : List Opd} (sn : SndW r g) (mk : ∀ ta t, PE X a ta → PA X es t → PE X e (tBM X.K "list" r ta t)) (ha : PE X a (tVar i)) (hs : DA X c es os) : DE X c e (wMu i g os) :=
  (mk _ _ ha hs).imp fun σ H Q ⟨G, F, ρ, Qd, Qx, R, h, pd, px⟩ => by
    unfold wMu at h
    split at h
    · rename_i ds0 e0
      obtain ⟨a0, vs0, e1, e2, _, _⟩ := R.own (ownAt_of e0)
      refine ⟨_, e1, .inl ⟨rfl, vs0, SqL.of e2⟩, G, F, ρ, _, Qx, R, h, fun ps xs F1 H1 ρ1 R1 s1 r1 h1 => ?_, px⟩
      split at h1
      · rename_i ds es q1 q2
        obtain ⟨a1, vs, e3, e4, f, r2⟩ := R1.own (ownAt_of q1)
        rw [e1] at e3
        cases e3
        exact sn F1 H1 a0 vs xs ds es _ Q R1.fh e4 r2 (rpl_of r1 q2) h1 fun z v us zs rz rzs kz => pd z v F1 _ _ (R1.write (ownAt_of q1) e1 rzs) s1 rz kz
      · exact h1.elim
    · exact h.elim
theorem de_mu0 {a e : Expr} {i : Nat} {r : V → List V → Hp → VK → Prop} {g : List D → List D → (D → List D → Prop) → Prop} (sn : SndW r g) (mk : ∀ ta, PE X a ta → PE X e (tBM0 X.K "list" r ta)) (ha : PE X a (tVar i)) : DE X c e (wMu i g []) :=
  (mk _ ha).imp fun σ H Q ⟨G, F, ρ, Qd, Qx, R, h, pd, px⟩ => by
    unfold wMu at h
    split at h
    · rename_i ds0 e0
      obtain ⟨a0, vs0, e1, e2, _, r2⟩ := R.own (ownAt_of e0)
      have h : (match ownAt ρ i, valsOf [] with
        | some ds, some es => g ds es fun z zs => Qd z (ρ.set i (.own (DL.own zs)))
        | _, _ => False) := h
      rw [e0] at h
      exact ⟨_, e1, .inl ⟨rfl, vs0, SqL.of e2⟩, sn F H a0 vs0 [] ds0 [] _ Q R.fh e2 r2 .nil h fun z v us zs rz rzs kz => pd z v F _ _ (R.write (ownAt_of e0) e1 rzs) (Same.refl _) rz kz⟩
    · exact h.elim
def gAppend : List D → List D → (D → List D → Prop) → Prop
  | ds, [d], k => ds.length < sizeLine ∧ k .none (ds ++ [d])
  | _, _, _ => False
theorem appendW : SndW rAppend gAppend := fun F H a vs xs ds es k Q s h r rx q pd => by
  match es, q with
  | [d], q =>
    match xs, rx with
    | [x], .cons rx .nil => exact ⟨a, vs, x, rfl, rfl, h, by rw [r.length]; exact q.1, pd _ _ _ _ .non (r.append (.cons rx .nil)) q.2⟩
def gPop : List D → List D → (D → List D → Prop) → Prop
  | ds, [], k => match ds[ds.length - 1]? with
    | some d => k d ds.dropLast
    | none => False
  | _, _, _ => False
theorem RpL.dropLast {F : Hp} {vs : List V} {ds : List D} (r : RpL F vs ds) : RpL F vs.dropLast ds.dropLast := by
  rw [List.dropLast_eq_take, List.dropLast_eq_take, r.length]
  exact r.take _
theorem popW : SndW rPop gPop := fun F H a vs xs ds es k Q s h r rx q pd => by
  match es, q with
  | [], q =>
    cases rx
    have q : (match ds[ds.length - 1]? with
      | some d => k d ds.dropLast
      | none => False) := q
    split at q
    · rename_i d e
      obtain ⟨v, e1, rv⟩ := r.get e
      rw [← r.length] at e1
      exact ⟨a, vs, v, rfl, rfl, h, e1, pd _ _ _ _ rv r.dropLast q⟩
    · exact q.elim
def gPopAt : List D → List D → (D → List D → Prop) → Prop
  | ds, [.int i], k => -(2 ^ 63) ≤ i ∧ i < 2 ^ 63 ∧ match ixN ds.length i with
    | some j => match ds[j]? with
      | some d => k d (ds.eraseIdx j)
      | none => False
    | none => False
  | _, _, _ => False
theorem popAtW : SndW rPopAt gPopAt := fun F H a vs xs ds es k Q s h r rx q pd => by
  match es, q with
  | [.int i], q =>
    match xs, rx with
    | [x], .cons rx .nil =>
      cases rx
      obtain ⟨q1, q2, q⟩ := q
      split at q
      · rename_i j e
        split at q
        · rename_i d e2
          obtain ⟨v, e3, rv⟩ := r.get e2
          exact ⟨a, vs, i, j, v, rfl, rfl, h, q1, q2, by rw [r.length]; exact (ixN_seq e).1, e3, pd _ _ _ _ rv (r.eraseIdx j) q⟩
        · exact q.elim
      · exact q.elim
/-- x[i] = e, one's own x -/
def wSetIx (i : Nat) (ok : Opd) (w : WE) : WS := fun k ρ => w ρ (fun d ρ1 => match ownAt ρ1 i with
  | some _ => ok.ev ρ1 (fun p ρ2 => match ownAt ρ2 i, p.now ρ2 with
    | some ds, some (.int n) => match ixN ds.length n with
      | some j => k.nx (ρ2.set i (.own (DL.own (ds.set j d))))
      | none => False
    | _, _ => False) k.ex
  | none => False) k.ex
theorem ds_setIx {o ix e : Expr} {i : Nat} {ok : Opd} {w : WE} {s : Stmt} (mk : ∀ te to ti, PE X e te → PE X o to → PE X ix ti → PS X s (tAsg te (L2.gSub to ti rSetL))) (he : DE X c e w) (ho : PE X o (tVar i)) (hi : DP X c ix ok) : DS X c s (wSetIx i ok w) :=
  (mk _ _ _ he ho hi).imp fun D σ H ⟨G, F, ρ, k, R, h, p⟩ => ⟨G, F, ρ, _, k.ex, R, h, fun d v F1 H1 ρ1 R1 s1 r1 h1 => by
    dsimp only at h1
    split at h1
    · rename_i ds0 e0
      obtain ⟨a0, vs0, e1, e2, _, _⟩ := R1.own (ownAt_of e0)
      refine ⟨_, e1, G, F1, ρ1, _, k.ex, R1, h1, fun q y F2 H2 ρ2 R2 s2 r2 h2 => ?_, (p.px σ).later s1⟩
      split at h2
      · rename_i ds n q1 q2
        split at h2
        · rename_i j e3
          obtain ⟨a1, vs, e4, e5, f, r3⟩ := R2.own (ownAt_of q1)
          rw [e1] at e4
          cases e4
          have hy := (R2.now r2 q2).int
          refine ⟨a0, vs, n, j, rfl, hy, e5, by rw [r3.length]; exact e3, ?_⟩
          exact p.nx F2 _ σ _ (R2.write (ownAt_of q1) e1 (r3.set j (r1.mono s2))) (s1.trans s2) h2
        · exact h2.elim
      · exact h2.elim
    · exact h1.elim, p.px σ⟩
/-! ### while -/
/-- so many turns at most -/
def wWhileN (t : WB) (b : WS) (k : K3) : Nat → Env' → Prop
  | 0, _ => False
  | n + 1, ρ => t ρ (fun v ρ1 => if v = true then b { k with nx := wWhileN t b k n, ct := wWhileN t b k n, bk := k.nx } ρ1 else k.nx ρ1) k.ex
def wWhile (t : WB) (b : WS) : WS := fun k ρ => ∃ n, wWhileN t b k n ρ
theorem ds_while {e : Expr} {body : List Stmt} {t : WB} {b : WS} {pos} (hp : PassesOwn (model X.prog X.w) X.A X.env X.xe) (ht : DT X c e t) (hb : DSs X c body b) : DS X c (.While e body [] pos) (wWhile t b) := (ps_while hp ht hb).imp fun D σ H ⟨G, F, ρ, k, R, h, p⟩ => by
  obtain ⟨n, h⟩ := h
  refine ⟨fun m σ' H' => ∃ F' ρ', Rel c.B c.P G F' H' σ' ρ' ∧ Same F F' ∧ wWhileN t b k m ρ', ⟨n, F, ρ, R, Same.refl _, h⟩, ?_⟩
  rintro m σ1 H1 ⟨F1, ρ1, R1, s1, h1⟩
  cases m with
  | zero => exact h1.elim
  | succ m =>
    refine ⟨G, F1, ρ1, _, k.ex, R1, h1, fun v F2 H2 ρ2 R2 s2 h2 => ?_, (p.px σ1).later s1⟩
    cases v with
    | true =>
      refine ⟨fun σ' H' => ∃ F' ρ', Rel c.B c.P G F' H' σ' ρ' ∧ Same F F' ∧ wWhileN t b k m ρ', fun σ' H' z => ⟨m, Nat.lt_succ_self _, z⟩, G, F2, ρ2, _, R2, h2, ?_⟩
      have s12 := s1.trans s2
      exact ⟨fun F' H' σ' ρ' R' s' q => ⟨F', ρ', R', s12.trans s', q⟩, fun r v F' H' σ' ρ' l hn R' s' q => p.rt r v F' H' σ' ρ' l hn R' (s12.trans s') q, fun F' H' σ' ρ' R' s' q => p.nx F' H' σ' ρ' R' (s12.trans s') q,
        fun F' H' σ' ρ' R' s' q => ⟨F', ρ', R', s12.trans s', q⟩, fun x cls dd F' H' σ' ρ' R' s' e q => p.ex x cls dd F' H' σ' ρ' R' (s12.trans s') e q⟩
    | false => exact p.nx F2 H2 σ1 ρ2 R2 (s1.trans s2) h2
/-! ### what is walked -/
/-- J yields just these -/
structure Itm (J : It) (items : List D) (Src : Hp → Hp → Prop) : Prop where
  go : ∀ F H i, Same F H → Src F H → i < items.length → J.go i H
  stop : ∀ F H, Same F H → Src F H → J.stop items.length H
  yld : ∀ F H i d x H', Same F H → Src F H → items[i]? = some d → J.yld i H x H' → ∃ F', Step (fun _ => False) F H F' H' ∧ Rp F' x d
abbrev WI := Env' → (List D → Env' → Prop) → PX → Prop
def RI (c : Cf) (w : WI) : TI := fun σ H R => ∃ G F ρ Qi Qx, Rel c.B c.P G F H σ ρ ∧ w ρ Qi Qx ∧ (∀ items J Src F' H' ρ', Rel c.B c.P G F' H' σ ρ' → Same F F' → Itm J items Src → (∀ F2 H2, Same F' F2 → Same F2 H2 → Src F2 H2) → Qi items ρ' → R J H') ∧ PostX c G σ F Qx
abbrev DI (X : Cx) (c : Cf) (tg e : Expr) (w : WI) : Prop := PI X tg e (RI c w)
def wLoop (g : WG) (b : WS) (k : K3) : List D → Env' → Prop
  | [], ρ => k.nx ρ
  | d :: ds, ρ => g d ρ fun ρ1 => b { k with nx := wLoop g b k ds, ct := wLoop g b k ds, bk := k.nx } ρ1
def wFor (it : WI) (g : WG) (b : WS) : WS := fun k ρ => it ρ (fun ds ρ1 => wLoop g b k ds ρ1) k.ex
theorem ds_for {tg iter : Expr} {body : List Stmt} {is : List Nat} {it : WI} {g : WG} {b : WS} {pos} (hp : PassesOwn (model X.prog X.w) X.A X.env X.xe) (hc : X.calm = true) (hi : DI X c tg iter it) (hg : DG X c tg is g) (hb : DSs X c body b)
    (hs : ∀ x, foldedSetIterable iter X.env x = pure x := by intro _; rfl) : DS X c (.For tg iter body [] pos) (wFor it g b) := (ps_for hp hc hi hg hb hs).imp fun D σ H ⟨G, F, ρ, k, R, h, p⟩ =>
  ⟨G, F, ρ, _, k.ex, R, h, fun items J Src F1 H1 ρ1 R1 s1 I hS h1 => by
    refine ⟨fun i m σ' H' => m = items.length - i ∧ i ≤ items.length ∧ ∃ F' ρ', Rel c.B c.P G F' H' σ' ρ' ∧ Same F1 F' ∧ wLoop g b k (items.drop i) ρ', ⟨_, rfl, Nat.zero_le _, F1, ρ1, R1, Same.refl _, h1⟩, ?_⟩
    rintro i m σ2 H2 ⟨rfl, hil, F2, ρ2, R2, s2, h2⟩
    have hsrc := hS F2 H2 s2 R2.fh
    by_cases hlt : i < items.length
    · refine .inr ⟨I.go F2 H2 i R2.fh hsrc hlt, fun σ' H' => ∃ F' ρ', Rel c.B c.P G F' H' σ' ρ' ∧ Same F1 F' ∧ wLoop g b k (items.drop (i + 1)) ρ', fun σ' H' z => ⟨items.length - (i + 1), by omega, rfl, hlt, z⟩, fun x H' y => ?_⟩
      have eg : items[i]? = some items[i] := List.getElem?_eq_getElem hlt
      obtain ⟨F3, st, rp⟩ := I.yld F2 H2 i _ x H' R2.fh hsrc eg y
      rw [List.drop_eq_getElem_cons hlt] at h2
      have s123 := (s1.trans s2).trans st.ff
      refine ⟨G, F3, ρ2, _, _, R2.go st, rp, h2, fun F4 H4 σ4 ρ4 R4 s4 _ _ h4 => ⟨G, F4, ρ4, _, R4, h4, ?_⟩⟩
      have s1234 := s123.trans s4
      exact ⟨fun F' H' σ' ρ' R' s' q => ⟨F', ρ', R', ((s2.trans st.ff).trans s4).trans s', q⟩, fun r v F' H' σ' ρ' l hn R' s' q => p.rt r v F' H' σ' ρ' l hn R' (s1234.trans s') q, fun F' H' σ' ρ' R' s' q => p.nx F' H' σ' ρ' R' (s1234.trans s') q,
        fun F' H' σ' ρ' R' s' q => ⟨F', ρ', R', ((s2.trans st.ff).trans s4).trans s', q⟩, fun x cls dd F' H' σ' ρ' R' s' e q => p.ex x cls dd F' H' σ' ρ' R' (s1234.trans s') e q⟩
    · have e : i = items.length := by omega
      subst e
      rw [List.drop_length] at h2
      exact .inl ⟨I.stop F2 H2 R2.fh hsrc, p.nx F2 H2 σ2 ρ2 R2 (s1.trans s2) h2⟩, p.px σ⟩
/-! ### the walked things -/
theorem itm_list {K : PySem.W.Frag} {a : Addr} {ds : List D} : Itm (Itl K a) ds (fun F H => ∃ vs, H a = some (.lst vs) ∧ RpL F vs ds) where
  go := fun F H i s ⟨vs, h, r⟩ hi => ⟨vs, vs[i]'(by rw [r.length]; exact hi), SqL.of h, List.getElem?_eq_getElem _⟩
  stop := fun F H s ⟨vs, h, r⟩ => ⟨vs, SqL.of h, Nat.le_of_eq r.length⟩
  yld := fun F H i d x H' s ⟨vs, h, r⟩ e y => by
    obtain ⟨rfl, y⟩ := y
    obtain ⟨v, e1, rv⟩ := r.get e
    have e2 := y vs (SqL.of h)
    rw [e1] at e2
    cases e2
    exact ⟨F, Step.refl s, rv⟩
theorem itm_tup {K : PySem.W.Frag} {a : Addr} {ds : List D} : Itm (Itt K a) ds (fun F H => ∃ vs, H a = some (.tup vs) ∧ RpL F vs ds) where
  go := fun F H i s ⟨vs, h, r⟩ hi => ⟨vs, vs[i]'(by rw [r.length]; exact hi), SqT.of h, List.getElem?_eq_getElem _⟩
  stop := fun F H s ⟨vs, h, r⟩ => ⟨vs, SqT.of h, Nat.le_of_eq r.length⟩
  yld := fun F H i d x H' s ⟨vs, h, r⟩ e y => by
    obtain ⟨rfl, y⟩ := y
    obtain ⟨v, e1, rv⟩ := r.get e
    have e2 := y vs (SqT.of h)
    rw [e1] at e2
    cases e2
    exact ⟨F, Step.refl s, rv⟩
def wItL (w : WE) : WI := fun ρ Q X => w ρ (fun d ρ' => match d with
  | .list ds => Q ds ρ'
  | _ => False) X
theorem di_list {tg e : Expr} {w : WE} (h : DE X c e w) : DI X c tg e (wItL w) := (pi_list h).imp fun σ H Q ⟨G, F, ρ, Qd, Qx, R, h, pd, px⟩ => ⟨G, F, ρ, _, Qx, R, h, fun d v F1 H1 ρ1 R1 s1 r1 h1 => by
  dsimp only at h1
  split at h1
  · cases r1 with
    | lst e1 r => exact ⟨_, rfl, ⟨_, SqL.of (R1.fh _ _ e1)⟩, pd _ _ _ F1 H1 ρ1 R1 s1 itm_list (fun F2 H2 s2 s3 => ⟨_, s3 _ _ (s2 _ _ e1), r.mono s2⟩) h1⟩
  · exact h1.elim, px⟩
def wItT (w : WE) : WI := fun ρ Q X => w ρ (fun d ρ' => match d with
  | .tuple ds => Q ds ρ'
  | _ => False) X
theorem di_tup {tg e : Expr} {w : WE} (h : DE X c e w) : DI X c tg e (wItT w) := (pi_tup h).imp fun σ H Q ⟨G, F, ρ, Qd, Qx, R, h, pd, px⟩ => ⟨G, F, ρ, _, Qx, R, h, fun d v F1 H1 ρ1 R1 s1 r1 h1 => by
  dsimp only at h1
  split at h1
  · cases r1 with
    | tup e1 r => exact ⟨_, rfl, ⟨_, SqT.of (R1.fh _ _ e1)⟩, pd _ _ _ F1 H1 ρ1 R1 s1 itm_tup (fun F2 H2 s2 s3 => ⟨_, s3 _ _ (s2 _ _ e1), r.mono s2⟩) h1⟩
  · exact h1.elim, px⟩
def rgI (lo : Int) (n : Nat) : List D := (List.range n).map fun i => PyData.int (lo + (i : Nat))
theorem itm_rg (lo : Int) (n : Nat) : Itm (Itr lo n) (rgI lo n) (fun _ _ => True) where
  go := fun F H i s _ hi => by
    have e : (rgI lo n).length = n := by unfold rgI; rw [List.length_map, List.length_range]
    show i < n
    omega
  stop := fun F H s _ => by
    have e : (rgI lo n).length = n := by unfold rgI; rw [List.length_map, List.length_range]
    show n ≤ (rgI lo n).length
    omega
  yld := fun F H i d x H' s _ e y => by
    obtain ⟨rfl, rfl⟩ := y
    unfold rgI at e
    rw [List.getElem?_map] at e
    cases q : (List.range n)[i]? with
    | none => rw [q] at e; cases e
    | some j =>
      rw [q] at e
      cases e
      rw [List.getElem?_range (by have := (List.getElem?_eq_some_iff.mp q).1; rw [List.length_range] at this; exact this)] at q
      cases q
      exact ⟨F, Step.refl s, .int _⟩
def wItR1 (w : WE) : WI := fun ρ Q X => w ρ (fun d ρ' => match d with
  | .int n => -(2 ^ 62) ≤ n ∧ n < 2 ^ 62 ∧ Q (rgI 0 n.toNat) ρ'
  | _ => False) X
theorem di_rg1 {tg a e : Expr} {w : WE} (mk : ∀ ta, PA X [a] ta → PI X tg e (iRng1 ta)) (h : DE X c a w) (hs : starEach (a :: []) X.env = (false, eval a X.env) :: starEach [] X.env := by rfl) : DI X c tg e (wItR1 w) :=
  (mk _ (pa_cons h pa_nil hs)).imp fun σ H Q ⟨G, F, ρ, Qd, Qx, R, h, pd, px⟩ => ⟨G, F, ρ, _, Qx, R, h, fun d v F1 H1 ρ1 R1 s1 r1 h1 => by
    dsimp only at h1
    split at h1
    · cases r1
      rename_i n
      have e := pd (rgI 0 n.toNat) (Itr 0 n.toNat) _ F1 H1 ρ1 R1 s1 (itm_rg _ _) (fun _ _ _ _ => trivial) h1.2.2
      exact ⟨n, rfl, h1.1, h1.2.1, e⟩
    · exact h1.elim, px⟩
def wItR2 (w u : WE) : WI := fun ρ Q X => w ρ (fun d ρ1 => u ρ1 (fun e ρ2 => match d, e with
  | .int m, .int n => (-(2 ^ 62) ≤ m ∧ m < 2 ^ 62 ∧ -(2 ^ 62) ≤ n ∧ n < 2 ^ 62) ∧ Q (rgI m (n - m).toNat) ρ2
  | _, _ => False) X) X
theorem di_rg2 {tg a b e : Expr} {w u : WE} (mk : ∀ ta, PA X [a, b] ta → PI X tg e (iRng2 ta)) (h : DE X c a w) (hu : DE X c b u) (hs : starEach (a :: [b]) X.env = (false, eval a X.env) :: starEach [b] X.env := by rfl) (hs2 : starEach (b :: []) X.env = (false, eval b X.env) :: starEach [] X.env := by rfl) : DI X c tg e (wItR2 w u) :=
  (mk _ (pa_cons h (pa_cons hu pa_nil hs2) hs)).imp fun σ H Q ⟨G, F, ρ, Qd, Qx, R, h, pd, px⟩ => ⟨G, F, ρ, _, Qx, R, h, fun d v F1 H1 ρ1 R1 s1 r1 h1 => ⟨G, F1, ρ1, _, Qx, R1, h1, fun d2 v2 F2 H2 ρ2 R2 s2 r2 h2 => by
    dsimp only at h2
    split at h2
    · cases r1; cases r2
      rename_i m n
      have e := pd (rgI m (n - m).toNat) (Itr m (n - m).toNat) _ F2 H2 ρ2 R2 (s1.trans s2) (itm_rg _ _) (fun _ _ _ _ => trivial) h2.2
      exact ⟨m, n, rfl, h2.1, e⟩
    · exact h2.elim, px.later s1⟩, px⟩
/-- the signs of a text -/
def signs (z : Str) : List D := z.cps.toList.map fun ch => PyData.str ⟨#[ch]⟩
theorem itm_str (z : Str) : Itm (Its z) (signs z) (fun _ _ => True) where
  go := fun F H i s _ hi => by
    show i < z.cps.size
    unfold signs at hi
    rw [List.length_map, Array.length_toList] at hi
    exact hi
  stop := fun F H s _ => by
    show z.cps.size ≤ (signs z).length
    unfold signs
    rw [List.length_map, Array.length_toList]
    exact Nat.le_refl _
  yld := fun F H i d x H' s _ e y => by
    obtain ⟨rfl, ch, hc, rfl⟩ := y
    unfold signs at e
    rw [List.getElem?_map, Array.getElem?_toList, hc] at e
    cases e
    exact ⟨F, Step.refl s, .str _⟩
def wItS (w : WE) : WI := fun ρ Q X => w ρ (fun d ρ' => match d with
  | .str z => Q (signs z) ρ'
  | _ => False) X
theorem di_str {tg e : Expr} {w : WE} (h : DE X c e w) : DI X c tg e (wItS w) := (pi_str h).imp fun σ H Q ⟨G, F, ρ, Qd, Qx, R, h, pd, px⟩ => ⟨G, F, ρ, _, Qx, R, h, fun d v F1 H1 ρ1 R1 s1 r1 h1 => by
  dsimp only at h1
  split at h1
  · cases r1
    exact ⟨_, rfl, pd _ _ _ F1 H1 ρ1 R1 s1 (itm_str _) (fun _ _ _ _ => trivial) h1⟩
  · exact h1.elim, px⟩
/-- enumerate(list) -/
def enumD (ds : List D) : List D := ds.zipIdx.map fun p => PyData.tuple [.int (p.2 : Nat), p.1]
theorem enumD_get (ds : List D) (i : Nat) : (enumD ds)[i]? = (ds[i]?).map fun d => PyData.tuple [.int (i : Nat), d] := by
  unfold enumD
  rw [List.getElem?_map, List.getElem?_zipIdx]
  cases ds[i]? with
  | none => rfl
  | some d => simp
theorem enumD_length (ds : List D) : (enumD ds).length = ds.length := by unfold enumD; rw [List.length_map, List.length_zipIdx]
theorem itm_enum {K : PySem.W.Frag} {a : Addr} {ds : List D} : Itm (Ite K a) (enumD ds) (fun F H => ∃ vs, H a = some (.lst vs) ∧ RpL F vs ds) where
  go := fun F H i s ⟨vs, h, r⟩ hi => ⟨vs, vs[i]'(by rw [r.length]; rw [enumD_length] at hi; exact hi), SqL.of h, List.getElem?_eq_getElem _⟩
  stop := fun F H s ⟨vs, h, r⟩ => ⟨vs, SqL.of h, by rw [enumD_length]; exact Nat.le_of_eq r.length⟩
  yld := fun F H i d x H' s ⟨vs, h, r⟩ e y => by
    obtain ⟨T, w, rfl, hT, rfl, y⟩ := y
    rw [enumD_get] at e
    cases q : ds[i]? with
    | none => rw [q] at e; cases e
    | some z =>
      rw [q] at e
      cases e
      obtain ⟨v, e1, rv⟩ := r.get q
      have ev : v = w := Option.some.inj (e1.symm.trans (y vs (SqL.of h)))
      rw [ev] at rv
      have st := Step.laid (o := .tup [.int (i : Nat), w]) s hT
      exact ⟨_, st, .tup upd_same (.cons (.int _) (.cons (rv.mono st.ff) .nil))⟩
def wItE (a : Opd) : WI := fun ρ Q X => a.ev ρ (fun p ρ1 => match p with
  | .v (.list ds) => Q (enumD ds) ρ1
  | _ => False) X
theorem di_enum {tg a e : Expr} {oa : Opd} (mk : ∀ ta, PA X [a] ta → PI X tg e (iEnum X.K ta)) (h : DP X c a oa) (hs : starEach (a :: []) X.env = (false, eval a X.env) :: starEach [] X.env := by rfl) : DI X c tg e (wItE oa) :=
  (mk _ (pa_cons h pa_nil hs)).imp fun σ H Q ⟨G, F, ρ, Qd, Qx, R, h, pd, px⟩ => ⟨G, F, ρ, _, Qx, R, h, fun q v F1 H1 ρ1 R1 s1 r1 h1 => by
    try dsimp only at h1
    split at h1
    · rename_i ds
      cases r1 with
      | lst e1 r => exact ⟨_, _, rfl, SqL.of (R1.fh _ _ e1), pd _ _ _ F1 H1 ρ1 R1 s1 itm_enum (fun F2 H2 s2 s3 => ⟨_, s3 _ _ (s2 _ _ e1), r.mono s2⟩) h1⟩
    · exact h1.elim, px⟩
/-- zip of two lists -/
def zipD : List D → List D → List D
  | x :: xs, y :: ys => PyData.tuple [x, y] :: zipD xs ys
  | _, _ => []
theorem zipD_get : ∀ (xs ys : List D) (i : Nat), (zipD xs ys)[i]? = (match xs[i]?, ys[i]? with
    | some x, some y => some (PyData.tuple [x, y])
    | _, _ => none)
  | [], ys, i => by simp [zipD]
  | x :: xs, [], i => by
    show ([] : List D)[i]? = _
    simp
  | x :: xs, y :: ys, 0 => rfl
  | x :: xs, y :: ys, i + 1 => by
    show (PyData.tuple [x, y] :: zipD xs ys)[i + 1]? = _
    simpa using zipD_get xs ys i
theorem zipD_length : ∀ (xs ys : List D), (zipD xs ys).length = min xs.length ys.length
  | [], ys => by simp [zipD]
  | x :: xs, [] => by simp [zipD]
  | x :: xs, y :: ys => by
    show (zipD xs ys).length + 1 = _
    rw [zipD_length xs ys]
    simp only [List.length_cons]
    omega
theorem itm_zip {K : PySem.W.Frag} {a b : Addr} {ds es : List D} : Itm (Itz K a b) (zipD ds es) (fun F H => (∃ vs, H a = some (.lst vs) ∧ RpL F vs ds) ∧ ∃ us, H b = some (.lst us) ∧ RpL F us es) where
  go := fun F H i s ⟨⟨vs, h, r⟩, us, h', r'⟩ hi => by
    rw [zipD_length] at hi
    exact ⟨vs, us, vs[i]'(by rw [r.length]; omega), us[i]'(by rw [r'.length]; omega), SqL.of h, SqL.of h', List.getElem?_eq_getElem _, List.getElem?_eq_getElem _⟩
  stop := fun F H s ⟨⟨vs, h, r⟩, us, h', r'⟩ => ⟨vs, us, SqL.of h, SqL.of h', by rw [zipD_length, r.length, r'.length]; omega⟩
  yld := fun F H i d x H' s ⟨⟨vs, h, r⟩, us, h', r'⟩ e y => by
    obtain ⟨T, x1, y1, rfl, hT, rfl, y, y'⟩ := y
    rw [zipD_get] at e
    split at e
    · rename_i d1 d2 q1 q2
      cases e
      obtain ⟨v, e1, rv⟩ := r.get q1
      obtain ⟨u, e1', ru⟩ := r'.get q2
      have ev : v = x1 := Option.some.inj (e1.symm.trans (y vs (SqL.of h)))
      have eu : u = y1 := Option.some.inj (e1'.symm.trans (y' us (SqL.of h')))
      rw [ev] at rv
      rw [eu] at ru
      have st := Step.laid (o := .tup [x1, y1]) s hT
      exact ⟨_, st, .tup upd_same (.cons (rv.mono st.ff) (.cons (ru.mono st.ff) .nil))⟩
    · cases e
def wItZ (a b : WE) : WI := fun ρ Q X => a ρ (fun d ρ1 => b ρ1 (fun e ρ2 => match d, e with
  | .list ds, .list es => Q (zipD ds es) ρ2
  | _, _ => False) X) X
theorem di_zip {tg a b e : Expr} {w u : WE} (mk : ∀ ta, PA X [a, b] ta → PI X tg e (iZip X.K ta)) (h : DE X c a w) (hu : DE X c b u) (hs : starEach (a :: [b]) X.env = (false, eval a X.env) :: starEach [b] X.env := by rfl) (hs2 : starEach (b :: []) X.env = (false, eval b X.env) :: starEach [] X.env := by rfl) : DI X c tg e (wItZ w u) :=
  (mk _ (pa_cons h (pa_cons hu pa_nil hs2) hs)).imp fun σ H Q ⟨G, F, ρ, Qd, Qx, R, h, pd, px⟩ => ⟨G, F, ρ, _, Qx, R, h, fun d v F1 H1 ρ1 R1 s1 r1 h1 => ⟨G, F1, ρ1, _, Qx, R1, h1, fun d2 v2 F2 H2 ρ2 R2 s2 r2 h2 => by
    dsimp only at h2
    split at h2
    · have r1' := r1.mono s2
      cases r1' with
      | lst e1 ra =>
        cases r2 with
        | lst e2 rb =>
          exact ⟨_, _, _, _, rfl, SqL.of (R2.fh _ _ e1), SqL.of (R2.fh _ _ e2), pd _ _ _ F2 H2 ρ2 R2 (s1.trans s2) itm_zip (fun F3 H3 s3 s4 => ⟨⟨_, s4 _ _ (s3 _ _ e1), ra.mono s3⟩, _, s4 _ _ (s3 _ _ e2), rb.mono s3⟩) h2⟩
    · exact h2.elim, px.later s1⟩, px⟩
/-! ### comprehensions -/
def wipeC (ρ : Env') : List Nat → Env'
  | [] => ρ
  | v :: vs => (wipeC ρ vs).set v .no
def restC (ρ ρ0 : Env') : List Nat → Env'
  | [] => ρ
  | v :: vs => match ρ0[v]? with
    | some (.val d) => (restC ρ ρ0 vs).set v (.val d)
    | _ => restC ρ ρ0 vs
theorem wipe_get (σ : L2.St) (j : Nat) : ∀ vs : List Nat, (wipe σ vs)[j]? = if j ∈ vs then (σ[j]?).map (fun _ => none) else σ[j]?
  | [] => by simp [wipe]
  | v :: vs => by
    unfold wipe
    rw [List.getElem?_set, wipe_get σ j vs, wipe_length]
    by_cases h : v = j
    · subst h
      simp
      by_cases hl : v < σ.length
      · rw [if_pos hl, List.getElem?_eq_getElem hl]; rfl
      · rw [if_neg hl, List.getElem?_eq_none_iff.mpr (by omega)]; rfl
    · rw [if_neg h]
      by_cases h2 : j ∈ vs
      · rw [if_pos h2, if_pos (List.mem_cons_of_mem _ h2)]
      · rw [if_neg h2, if_neg (by simp; exact ⟨fun e => h e.symm, h2⟩)]
theorem wipe_eq {σ σ' : L2.St} {vs is : List Nat} (hl : σ'.length = σ.length) (h : ∀ j, j ∉ is → σ'[j]? = σ[j]?) (hs : ∀ i ∈ is, i ∈ vs) : wipe σ' vs = wipe σ vs := by
  refine List.ext_getElem? fun j => ?_
  rw [wipe_get, wipe_get]
  by_cases hj : j ∈ vs
  · rw [if_pos hj, if_pos hj]
    by_cases hb : j < σ.length
    · rw [List.getElem?_eq_getElem hb, List.getElem?_eq_getElem (by omega)]; rfl
    · rw [List.getElem?_eq_none_iff.mpr (by omega), List.getElem?_eq_none_iff.mpr (by omega)]
  · rw [if_neg hj, if_neg hj]
    exact h j fun z => hj (hs j z)
theorem wipe_wipe (σ : L2.St) (vs : List Nat) : wipe (wipe σ vs) vs = wipe σ vs := wipe_eq (is := vs) (wipe_length _ _) (fun j hj => by rw [wipe_get, if_neg hj]) (fun i h => h)
theorem Rel.wiped {B : Kinds} {P : List Nat} {G : Ent} {F H : Hp} {σ : L2.St} {ρ : Env'} (R : Rel B P G F H σ ρ) : ∀ {vs : List Nat}, (∀ v ∈ vs, v ∉ P) → Rel B P G F H (wipe σ vs) (wipeC ρ vs)
  | [], _ => R
  | v :: vs, h => (R.wiped (vs := vs) fun u hu => h u (List.mem_cons_of_mem _ hu)).drop (h v List.mem_cons_self)
theorem set_none_back {σ : L2.St} {v : Nat} {x : Option V} (h : σ[v]? = some x) {τ : L2.St} (e : τ = σ.set v none) : τ.set v x = σ := by
  subst e
  rw [List.set_set]
  refine List.ext_getElem? fun j => ?_
  rw [List.getElem?_set]
  by_cases hj : v = j
  · subst hj
    rw [if_pos rfl]
    have := (List.getElem?_eq_some_iff.mp h).1
    rw [if_pos this, h]
  · rw [if_neg hj]
theorem Rel.relax {B : Kinds} {P : List Nat} {G : Ent} {F H : Hp} {σ σ' : L2.St} {ρ : Env'} (R : Rel B P G F H σ ρ) (hl : σ'.length = σ.length) (h : ∀ (i : Nat) (c : C), ρ[i]? = some c → (∀ d, c = .no → σ'[i]? = d → True) ∧ (c ≠ .no → σ'[i]? = σ[i]?)) (hp : ∀ i v, G.pin i = some v → σ'[i]? = some (some v)) : Rel B P G F H σ' ρ := by
  obtain ⟨Ss, E, h1, h2, h3, h4, h5, h6, h7⟩ := R.ss
  refine ⟨R.step, hl.trans R.len, R.pinP, R.wP, R.wl, by rw [hl]; exact R.nl, hp, Ss, E, fun i c o e1 e2 => ?_, h2, h3, h4, h5, h6, h7⟩
  cases c with
  | no =>
    have hi : i < σ.length := by rw [R.len]; exact (List.getElem?_eq_some_iff.mp e1).1
    have q := h1 i .no _ e1 (List.getElem?_eq_getElem hi)
    exact q
  | val d => exact h1 i _ o e1 (by rw [← (h i _ e1).2 (by intro z; cases z)]; exact e2)
  | own t => exact h1 i _ o e1 (by rw [← (h i _ e1).2 (by intro z; cases z)]; exact e2)
theorem wipeC_length (ρ : Env') : ∀ vs : List Nat, (wipeC ρ vs).length = ρ.length
  | [] => rfl
  | v :: vs => by unfold wipeC; rw [List.length_set, wipeC_length ρ vs]
theorem wipeC_get (ρ : Env') (j : Nat) : ∀ vs : List Nat, (wipeC ρ vs)[j]? = if j ∈ vs then (ρ[j]?).map (fun _ => C.no) else ρ[j]?
  | [] => by simp [wipeC]
  | v :: vs => by
    unfold wipeC
    rw [List.getElem?_set, wipeC_get ρ j vs, wipeC_length]
    by_cases h : v = j
    · subst h
      simp
      by_cases hl : v < ρ.length
      · rw [if_pos hl, List.getElem?_eq_getElem hl]; rfl
      · rw [if_neg hl, List.getElem?_eq_none_iff.mpr (by omega)]; rfl
    · rw [if_neg h]
      by_cases h2 : j ∈ vs
      · rw [if_pos h2, if_pos (List.mem_cons_of_mem _ h2)]
      · rw [if_neg h2, if_neg (by simp; exact ⟨fun e => h e.symm, h2⟩)]
end
end DL
set_option maxHeartbeats 4000000
/-! DL5: comprehensions; defs and their calls. -/
namespace DL
open PySem PySem.Spec L2
section
variable {X : Cx} {c : Cf}
/-! ### comprehensions -/
def noX : PX := fun _ _ => False
def lcLoop (chk : Env' → Prop) (g : WG) (t : WB) (e : WE) (vs : List Nat) : List D → List D → Env' → (List D → Env' → Prop) → Prop
  | [], acc, ρ, K => chk ρ ∧ K acc ρ
  | d :: ds, acc, ρ, K => chk ρ ∧ g d ρ fun ρ1 => t ρ1 (fun b ρ2 => if b = true then e ρ2 (fun z ρ3 => acc.length < sizeLine ∧ lcLoop chk g t e vs ds (acc ++ [z]) (wipeC ρ3 vs) K) noX else lcLoop chk g t e vs ds acc (wipeC ρ2 vs) K) noX
theorem Rel.restored {B : Kinds} {P : List Nat} {G : Ent} {F H : Hp} {σ : L2.St} {ρ ρ0 : Env'} : ∀ {us : List Nat}, Rel B P G F H σ ρ → (∀ v ∈ us, v ∉ P) → (∀ v ∈ us, ∀ d, ρ0[v]? = some (.val d) → ∃ w, σ[v]? = some (some w) ∧ Rp F w d) → Rel B P G F H σ (restC ρ ρ0 us)
  | [], R, _, _ => R
  | v :: us, R, hp, hv => by
    have ih := Rel.restored (us := us) (ρ0 := ρ0) R (fun u hu => hp u (List.mem_cons_of_mem _ hu)) (fun u hu => hv u (List.mem_cons_of_mem _ hu))
    unfold restC
    split
    · rename_i d e
      obtain ⟨w, e1, r⟩ := hv v List.mem_cons_self d e
      have q := ih.setVal (i := v) (hp v List.mem_cons_self) r
      have es : σ.set v (some w) = σ := by
        refine List.ext_getElem? fun j => ?_
        rw [List.getElem?_set]
        by_cases hj : v = j
        · subst hj
          rw [if_pos rfl, if_pos (List.getElem?_eq_some_iff.mp e1).1, e1]
        · rw [if_neg hj]
      rw [es] at q
      exact q
    · exact ih
theorem Rel.unwiped {B : Kinds} {P : List Nat} {G : Ent} {F H : Hp} {σ : L2.St} {ρ : Env'} {vs : List Nat} (R : Rel B P G F H (wipe σ vs) (wipeC ρ vs)) (hp : ∀ v ∈ vs, v ∉ P) : Rel B P G F H σ (wipeC ρ vs) := by
  refine R.relax (wipe_length _ _).symm (fun i c e => ⟨fun _ _ _ => trivial, fun hc => ?_⟩) (fun i v e => ?_)
  · rw [wipeC_get] at e
    by_cases hi : i ∈ vs
    · rw [if_pos hi] at e
      cases q : ρ[i]? with
      | none => rw [q] at e; cases e
      | some z => rw [q] at e; cases e; exact absurd rfl hc
    · rw [wipe_get, if_neg hi]
  · have q := R.pin i v e
    rw [wipe_get, if_neg fun z => hp i z (R.pinP _ _ e)] at q
    exact q
abbrev DTs (X : Cx) (c : Cf) (ifs : List Expr) (w : WB) : Prop := PTs X ifs (RB c w)
theorem _root_.L2.PTs.imp {X : Cx} {e : List Expr} {t t' : TT} (h : PTs X e t) (i : ∀ σ H Q, t' σ H Q → t σ H Q) : PTs X e t' := ⟨fun pins s σ H Q I q => h.run pins s σ H Q I (i σ H Q q)⟩
def wYes : WB := fun ρ Q _ => Q true ρ
theorem dts_nil : DTs X c [] wYes := pts_nil.imp fun σ H Q ⟨G, F, ρ, Qd, Qx, R, h, pd, px⟩ => pd true F H ρ R (Same.refl _) h
theorem dts_one {e : Expr} {w : WB} (h : DT X c e w) : DTs X c [e] w := pts_one h
/-- the body of a comprehension's reading -/
theorem lc_run {G : Ent} {F F1 H1 : Hp} {σ : L2.St} {ρ1 : Env'} {J : It} {items : List D} {Src : Hp → Hp → Prop} {Da : Addr} {chk : Env' → Prop} {g : WG} {t : WB} {e : WE} {vs is : List Nat} {Qt : T → Env' → Prop} {Q : VK}
    (R1 : Rel c.B c.P G F1 H1 σ ρ1) (s1 : Same F F1) (I : Itm J items Src)
    (hS : ∀ G2 F2 H2 ρ2, Rel c.B c.P G2 F2 H2 (wipe σ vs) ρ2 → chk ρ2 → Same F1 F2 → Src F2 H2) (nD : H1 Da = none) (hvs : ∀ v ∈ vs, v ∉ c.P) (his : ∀ i ∈ is, i ∈ vs)
    (h : lcLoop chk g t e vs items [] (wipeC ρ1 vs) (fun zs ρ2 => Qt (DL.own zs) (restC ρ2 ρ1 vs))) (pd : PostO c G σ F Qt Q) :
    ∃ W : Nat → Nat → Hp → Prop, (∃ m, W 0 m (upd H1 Da (.lst []))) ∧ ∀ i m H, W i m H →
      (J.stop i H ∧ Q (.ref Da) H) ∨ (J.go i H ∧ ∃ Nx : Hp → Prop, (∀ H', Nx H' → ∃ m', m' < m ∧ W (i + 1) m' H') ∧ ∀ x H', J.yld i H x H' → RG c.nox is g x (wipe σ vs) H' fun σ2 H2 => wipe σ2 vs = wipe σ vs ∧ RB c.nox t σ2 H2 fun b H3 =>
        if b = true then RE c.nox e σ2 H3 fun y H4 => ∃ acc, H4 Da = some (.lst acc) ∧ acc.length < sizeLine ∧ Nx (upd H4 Da (.lst (acc ++ [y]))) else Nx H3) := by
  refine ⟨fun i m H => m = items.length - i ∧ i ≤ items.length ∧ ∃ F' ρ' acc, Rel c.B c.P (G.held c.B (.ref Da) (DL.own acc)) F' H (wipe σ vs) (wipeC ρ' vs) ∧ Same F1 F' ∧
    lcLoop chk g t e vs (items.drop i) acc (wipeC ρ' vs) (fun zs ρ2 => Qt (DL.own zs) (restC ρ2 ρ1 vs)), ⟨_, rfl, Nat.zero_le _, F1, ρ1, [], ((R1.pend nD .nil).hold R1.len R1.nl R1.pinL).wiped hvs, Same.refl _, h⟩, ?_⟩
  rintro i m H2 ⟨rfl, hil, F2, ρ2, acc, R2, s2, h2⟩
  by_cases hlt : i < items.length
  · rw [List.drop_eq_getElem_cons hlt] at h2
    obtain ⟨hc, h2⟩ := h2
    have hsrc := hS _ F2 H2 _ R2 hc s2
    refine .inr ⟨I.go F2 H2 i R2.fh hsrc hlt, fun H => ∃ F' ρ' acc, Rel c.B c.P (G.held c.B (.ref Da) (DL.own acc)) F' H (wipe σ vs) (wipeC ρ' vs) ∧ Same F1 F' ∧
      lcLoop chk g t e vs (items.drop (i + 1)) acc (wipeC ρ' vs) (fun zs ρ2 => Qt (DL.own zs) (restC ρ2 ρ1 vs)), fun H' z => ⟨items.length - (i + 1), by omega, rfl, hlt, z⟩, fun x H' y => ?_⟩
    have eg : items[i]? = some items[i] := List.getElem?_eq_getElem hlt
    obtain ⟨F3, st, rp⟩ := I.yld F2 H2 i _ x H' R2.fh hsrc eg y
    refine ⟨_, F3, _, _, _, R2.go st, rp, h2, fun F4 H4 σ4 ρ4 R4 s4 e4 l4 h4 => ?_⟩
    have ew : wipe σ4 vs = wipe σ vs := by
      rw [wipe_eq (is := is) l4 e4 his, wipe_wipe]
    refine ⟨ew, _, F4, ρ4, _, noX, R4, h4, fun b F5 H5 ρ5 R5 s5 h5 => ?_, fun _ _ _ _ _ _ _ _ _ z => z⟩
    have s35 := ((s2.trans st.ff).trans s4).trans s5
    cases b with
    | false =>
      have R6 := R5.wiped hvs
      rw [ew] at R6
      exact ⟨F5, ρ5, acc, R6, s35, h5⟩
    | true =>
      refine ⟨_, F5, ρ5, _, noX, R5, h5, fun z v F6 H6 ρ6 R6 s6 rz h6 => ?_, fun _ _ _ _ _ _ _ _ _ z => z⟩
      have R7 := R6.unhold
      have l6 := R6.len
      have q1 : (ρ6 ++ [C.own (DL.own acc)])[σ4.length]? = some (.own (DL.own acc)) := by rw [l6, List.getElem?_append_right (Nat.le_refl _), Nat.sub_self]; rfl
      have q2 : (σ4 ++ [some (V.ref Da)])[σ4.length]? = some (some (.ref Da)) := by rw [List.getElem?_append_right (Nat.le_refl _), Nat.sub_self]; rfl
      obtain ⟨a, us, e1, e2, f, ru⟩ := R7.own q1
      rw [q2] at e1
      cases e1
      refine ⟨us, e2, by rw [ru.length]; exact h6.1, ?_⟩
      have R8 := R7.write q1 q2 (ru.append (.cons rz .nil))
      have e4 : (ρ6 ++ [C.own (DL.own acc)]).set σ4.length (.own (DL.own (acc ++ [z]))) = ρ6 ++ [.own (DL.own (acc ++ [z]))] := by rw [l6, List.set_append_right _ _ (Nat.le_refl _), Nat.sub_self]; rfl
      rw [e4] at R8
      have R9 := (Rel.hold (G := G) (B := c.B) (P := c.P) l6 R6.nl R6.pinL R8).wiped hvs
      rw [ew] at R9
      exact ⟨F6, ρ6, acc ++ [z], R9, s35.trans s6, h6.2⟩
  · have ei : i = items.length := by omega
    subst ei
    rw [List.drop_length] at h2
    obtain ⟨hc, h2⟩ := h2
    have hsrc := hS _ F2 H2 _ R2 hc s2
    refine .inl ⟨I.stop F2 H2 R2.fh hsrc, ?_⟩
    have R3 := R2.unwiped hvs
    have R4 := Rel.restored (ρ0 := ρ1) (us := vs) R3 hvs (fun v hv d ed => by
      obtain ⟨w, e1, r⟩ := R1.val ed
      exact ⟨w, e1, r.mono s2⟩)
    exact pd _ _ F2 H2 _ R4.len R4.unhold (s1.trans s2) h2
def wLc (it : WI) (g : WG) (t : WB) (e : WE) (vs : List Nat) : WO := fun ρ Q X => it ρ (fun items ρ1 => lcLoop (fun _ => True) g t e vs items [] (wipeC ρ1 vs) (fun zs ρ2 => Q (DL.own zs) (restC ρ2 ρ1 vs))) X
theorem do_lc {ex tg iter : Expr} {vs is : List Nat} {it : WI} {g : WG} {t : WB} {e : WE} (mk : ∀ wi, PI X tg iter wi → PE X ex (tLc wi (RG c.nox is g) (RB c.nox t) (RE c.nox e) vs)) (hi : DI X c tg iter it) (hvs : ∀ v ∈ vs, v ∉ c.P) (his : ∀ i ∈ is, i ∈ vs) : DO X c ex (wLc it g t e vs) :=
  (mk _ hi).imp fun σ H Q ⟨G, F, ρ, Qd, Qx, R, h, pd, px⟩ => ⟨G, F, ρ, _, Qx, R, h, fun items J Src F1 H1 ρ1 R1 s1 I hS h1 Da nD => lc_run R1 s1 I (fun G2 F2 H2 ρ2 R2 _ s2 => hS F2 H2 s2 R2.fh) nD hvs his h1 pd, px⟩
/-- .. over a slot's own list -/
def wLcO (i : Nat) (g : WG) (t : WB) (e : WE) (vs : List Nat) : WO := fun ρ Q X => match ownAt ρ i with
  | some items => lcLoop (fun ρ' => ownAt ρ' i = some items) g t e vs items [] (wipeC ρ vs) (fun zs ρ2 => Q (DL.own zs) (restC ρ2 ρ vs))
  | none => False
theorem do_lcO {ex tg iter : Expr} {i : Nat} {vs is : List Nat} {g : WG} {t : WB} {e : WE} (mk : ∀ wi, PI X tg iter wi → PE X ex (tLc wi (RG c.nox is g) (RB c.nox t) (RE c.nox e) vs)) (hi : PE X iter (tVar i)) (hiv : i ∉ vs) (hvs : ∀ v ∈ vs, v ∉ c.P) (his : ∀ i ∈ is, i ∈ vs) : DO X c ex (wLcO i g t e vs) :=
  (mk _ (pi_list hi)).imp fun σ H Q ⟨G, F, ρ, Qd, Qx, R, h, pd, px⟩ => by
    unfold wLcO at h
    split at h
    · rename_i items e1
      obtain ⟨a, us, e2, e3, f, ru⟩ := R.own (ownAt_of e1)
      refine ⟨_, e2, a, rfl, ⟨us, SqL.of e3⟩, fun Da nD => lc_run R (Same.refl _) itm_list (fun G2 F2 H2 ρ2 R2 hc s2 => ?_) nD hvs his h pd⟩
      obtain ⟨a', us', e4, e5, _, ru'⟩ := R2.own (ownAt_of hc)
      rw [wipe_get, if_neg hiv, e2] at e4
      cases e4
      exact ⟨us', e5, ru'⟩
    · exact h.elim
/-- y = [..] -/
theorem ds_setLc {s : Stmt} {i : Nat} {tg iter : Expr} {vs is : List Nat} {it : WI} {g : WG} {t : WB} {e : WE} (mk : ∀ wi, PI X tg iter wi → PS X s (tAsg (tLc wi (RG c.nox is g) (RB c.nox t) (RE c.nox e) vs) (gName i))) (hi : DI X c tg iter it) (hvs : ∀ v ∈ vs, v ∉ c.P) (his : ∀ i ∈ is, i ∈ vs) (hP : i ∉ c.P) :
    DS X c s (fun k ρ => i < ρ.length ∧ wSetO i (wLc it g t e vs) k ρ) := (mk _ hi).imp fun D σ H ⟨G, F, ρ, k, R, h, p⟩ => by
  obtain ⟨hl, h⟩ := h
  exact ⟨G, F, ρ, _, k.ex, R, h, fun items J Src F1 H1 ρ1 R1 s1 I hS h1 Da nD => lc_run (Q := fun v H' => gName i v σ H' D.nx) R1 s1 I (fun G2 F2 H2 ρ2 R2 _ s2 => hS F2 H2 s2 R2.fh) nD hvs his h1
    (fun t v F' H' ρ' l R' s' q => p.nx F' H' _ _ (R'.settle l R.nl R.pinL (by rw [R.len]; exact hl) hP) s' q), p.px σ⟩
/-- frozen at once -/
theorem ds_setLcF {s : Stmt} {i : Nat} {tg iter : Expr} {vs is : List Nat} {it : WI} {g : WG} {t : WB} {e : WE} (mk : ∀ wi, PI X tg iter wi → PS X s (tAsg (tLc wi (RG c.nox is g) (RB c.nox t) (RE c.nox e) vs) (gName i))) (hi : DI X c tg iter it) (hvs : ∀ v ∈ vs, v ∉ c.P) (his : ∀ i ∈ is, i ∈ vs) (hP : i ∉ c.P) :
    DS X c s (wSet i (wFrz (wLc it g t e vs))) := (mk _ hi).imp fun D σ H ⟨G, F, ρ, k, R, h, p⟩ => by
  refine ⟨G, F, ρ, _, k.ex, R, h, fun items J Src F1 H1 ρ1 R1 s1 I hS h1 Da nD => lc_run (Qt := fun t ρ' => match t.asList with
    | some ds => (fun d ρ' => k.nx (List.set ρ' i (C.val d))) (PyData.list ds) ρ'
    | none => False) (Q := fun v H' => gName i v σ H' D.nx) R1 s1 I (fun G2 F2 H2 ρ2 R2 _ s2 => hS F2 H2 s2 R2.fh) nD hvs his h1
    (fun t v F' H' ρ' l R' s' q => ?_), p.px σ⟩
  dsimp only at q
  split at q
  · rename_i ds e1
    rw [T.own_of e1] at R'
    have q0 : (ρ' ++ [C.own (DL.own ds)])[σ.length]? = some (.own (DL.own ds)) := by rw [l, List.getElem?_append_right (Nat.le_refl _), Nat.sub_self]; rfl
    obtain ⟨a, us, e2, e3, _, _⟩ := R'.own q0
    have q2 : (σ ++ [some v])[σ.length]? = some (some v) := by rw [List.getElem?_append_right (Nat.le_refl _), Nat.sub_self]; rfl
    rw [q2] at e2
    cases e2
    obtain ⟨R2, rp, s2⟩ := R'.frz (i := σ.length) (fun a => R.noW a) q0 q2 e3
    have e4 : (ρ' ++ [C.own (DL.own ds)]).set σ.length (.val (.list ds)) = ρ' ++ [.val (.list ds)] := by rw [l, List.set_append_right _ _ (Nat.le_refl _), Nat.sub_self]; rfl
    rw [e4] at R2
    exact p.nx _ _ _ _ ((R2.unpend l R.nl R.pinL).setVal hP rp) (s'.trans s2) q
  · exact q.elim
theorem ds_setLcO {s : Stmt} {i j : Nat} {tg iter : Expr} {vs is : List Nat} {g : WG} {t : WB} {e : WE} (mk : ∀ wi, PI X tg iter wi → PS X s (tAsg (tLc wi (RG c.nox is g) (RB c.nox t) (RE c.nox e) vs) (gName i))) (hi : PE X iter (tVar j)) (hiv : j ∉ vs) (hvs : ∀ v ∈ vs, v ∉ c.P) (his : ∀ i ∈ is, i ∈ vs) (hP : i ∉ c.P) :
    DS X c s (fun k ρ => i < ρ.length ∧ wSetO i (wLcO j g t e vs) k ρ) := (mk _ (pi_list hi)).imp fun D σ H ⟨G, F, ρ, k, R, h, p⟩ => by
  obtain ⟨hl, h⟩ := h
  unfold wSetO wLcO at h
  split at h
  · rename_i items e1
    obtain ⟨a, us, e2, e3, f, ru⟩ := R.own (ownAt_of e1)
    refine ⟨_, e2, a, rfl, ⟨us, SqL.of e3⟩, fun Da nD => lc_run (Q := fun v H' => gName i v σ H' D.nx) R (Same.refl _) itm_list (fun G2 F2 H2 ρ2 R2 hc s2 => ?_) nD hvs his h
      (fun t v F' H' ρ' l R' s' q => p.nx F' H' _ _ (R'.settle l R.nl R.pinL (by rw [R.len]; exact hl) hP) s' q)⟩
    obtain ⟨a', us', e4, e5, _, ru'⟩ := R2.own (ownAt_of hc)
    rw [wipe_get, if_neg hiv, e2] at e4
    cases e4
    exact ⟨us', e5, ru'⟩
  · exact h.elim
end
end DL
set_option maxHeartbeats 4000000
/-! DL6: a def's promise over contents; its body; its call. -/
namespace DL
open PySem PySem.Spec L2
abbrev SpD := List C → (C → List C → Prop) → (Exn → List C → Prop) → Prop
/-- a promise over contents as a promise over the heap: P the parameters that are one's own -/
def toSp (B : Kinds) (ca : Nat → Value) (P : List Nat) (np : Nat) (sd : SpD) : Sp := fun vs H Q E => vs.length = np ∧ ∃ (G : Ent) (cs : List C) (Qr : C → List C → Prop) (Qx : Exn → List C → Prop),
  G.H = H ∧ G.n = np ∧ Rel B P G G.F H (vs.map some) cs ∧ (∀ i ∈ P, ∃ v, vs[i]? = some v ∧ G.pin i = some v) ∧ sd cs Qr Qx ∧
  (∀ r v F' H' cs', cs'.length = np → Rel B P G F' H' (vs.map some ++ [some v]) (cs' ++ [r]) → Qr r cs' → Q v H') ∧
  (∀ x cls dd F' H' cs', cs'.length = np → Rel B P G F' H' (vs.map some) cs' → ExnAt ca x cls dd F' → Qx x cs' → E cls dd H')
/-- what is left of the parameters of one's own -/
def outC (P : List Nat) (np : Nat) (ρ : Env') : List C := (List.range np).map fun i => if i ∈ P then ρ[i]?.getD .no else .no
theorem outC_length (P : List Nat) (np : Nat) (ρ : Env') : (outC P np ρ).length = np := by unfold outC; rw [List.length_map, List.length_range]
theorem outC_get (P : List Nat) {np : Nat} (ρ : Env') {i : Nat} (h : i < np) : (outC P np ρ)[i]? = some (if i ∈ P then ρ[i]?.getD .no else .no) := by
  unfold outC
  rw [List.getElem?_map, List.getElem?_range h]
  rfl
theorem Rel.args {B : Kinds} {P : List Nat} {G : Ent} {F H : Hp} {σ : L2.St} {ρ : Env'} {r : C} {o : Option V} {vs : List V} (l : σ.length = ρ.length) (hn : G.n = vs.length) (hl : vs.length ≤ σ.length) (hp : ∀ i ∈ P, ∃ v, vs[i]? = some v ∧ G.pin i = some v) (R : Rel B P G F H (σ ++ [o]) (ρ ++ [r])) :
    Rel B P G F H (vs.map some ++ [o]) (outC P vs.length ρ ++ [r]) := by
  obtain ⟨Ss, E, h1, h2, h3, h4, h5, h6, h7⟩ := R.ss
  have wn : ∀ a, ¬ G.W ρ.length a := fun a z => absurd (R.wl _ _ z) (by omega)
  have Lo := outC_length P vs.length ρ
  have old : ∀ i, i ∈ P → i < vs.length := fun i hi => by
    obtain ⟨v, e, _⟩ := hp i hi
    exact (List.getElem?_eq_some_iff.mp e).1
  refine ⟨R.step, by rw [List.length_append, List.length_append, List.length_map, Lo]; rfl, R.pinP, R.wP, R.wl, by rw [List.length_append, List.length_map, hn]; exact Nat.le_add_right _ _, fun j w e => ?_, fun j => if j = vs.length then Ss ρ.length else if j ∈ P then Ss j else fun _ => False, E, fun j c o' q1 q2 => ?_, fun j q b => ?_, fun j k b ne z1 z2 => ?_, fun j b z => ?_, h5, fun j b z ze => ?_, h7⟩
  · obtain ⟨v, e1, e2⟩ := hp j (R.pinP j w e)
    rw [e] at e2
    cases e2
    rw [List.getElem?_append_left (by rw [List.length_map]; exact (List.getElem?_eq_some_iff.mp e1).1), List.getElem?_map, e1]
    rfl
  · show SlotOk B F H c o' (if j = vs.length then Ss ρ.length else if j ∈ P then Ss j else fun _ => False)
    by_cases hj : j = vs.length
    · rw [if_pos hj]
      subst hj
      have q1' : (outC P vs.length ρ ++ [r])[vs.length]? = some r := by rw [List.getElem?_append_right (Nat.le_of_eq Lo), Lo, Nat.sub_self]; rfl
      rw [q1'] at q1
      rw [List.getElem?_append_right (by rw [List.length_map]; exact Nat.le_refl _), List.length_map, Nat.sub_self] at q2
      cases q1; cases q2
      exact h1 ρ.length _ _ (by rw [List.getElem?_append_right (Nat.le_refl _), Nat.sub_self]; rfl) (by rw [← l, List.getElem?_append_right (Nat.le_refl _), Nat.sub_self]; rfl)
    · rw [if_neg hj]
      have hl' : j < vs.length := by
        have := (List.getElem?_eq_some_iff.mp q1).1
        rw [List.length_append, Lo] at this
        have e1 : ([r] : List C).length = 1 := rfl
        omega
      rw [List.getElem?_append_left (by rw [Lo]; exact hl'), outC_get P ρ hl'] at q1
      rw [List.getElem?_append_left (by rw [List.length_map]; exact hl'), List.getElem?_map] at q2
      by_cases hP : j ∈ P
      · rw [if_pos hP] at q1 ⊢
        obtain ⟨v, e1, e2⟩ := hp j hP
        rw [e1] at q2
        cases q2
        have hjr : j < ρ.length := by omega
        have e3 : ρ[j]? = some c := by
          rw [List.getElem?_eq_getElem hjr] at q1 ⊢
          exact q1
        have q := R.pin j v e2
        exact h1 j c _ (by rw [List.getElem?_append_left hjr]; exact e3) q
      · rw [if_neg hP] at q1 ⊢
        cases q1
        exact fun _ z => z
  · show ¬ (if j = vs.length then Ss ρ.length else if j ∈ P then Ss j else fun _ => False) b
    have hl' : vs.length < j := by
      have := List.getElem?_eq_none_iff.mp q
      rw [List.length_append, Lo] at this
      have e1 : ([r] : List C).length = 1 := rfl
      omega
    rw [if_neg (by omega), if_neg fun z => absurd (old j z) (by omega)]
    exact fun z => z
  · have z1 : (if j = vs.length then Ss ρ.length else if j ∈ P then Ss j else fun _ => False) b := z1
    have z2 : (if k = vs.length then Ss ρ.length else if k ∈ P then Ss k else fun _ => False) b := z2
    by_cases hj : j = vs.length
    · rw [if_pos hj] at z1
      rw [if_neg (by omega)] at z2
      by_cases hk : k ∈ P
      · rw [if_pos hk] at z2
        have := old k hk
        exact h3 _ _ b (by omega) z1 z2
      · rw [if_neg hk] at z2; exact z2
    · rw [if_neg hj] at z1
      by_cases hjP : j ∈ P
      · rw [if_pos hjP] at z1
        by_cases hk : k = vs.length
        · rw [if_pos hk] at z2
          have := old j hjP
          exact h3 _ _ b (by omega) z1 z2
        · rw [if_neg hk] at z2
          by_cases hkP : k ∈ P
          · rw [if_pos hkP] at z2; exact h3 _ _ b ne z1 z2
          · rw [if_neg hkP] at z2; exact z2
      · rw [if_neg hjP] at z1; exact z1
  · have z : (if j = vs.length then Ss ρ.length else if j ∈ P then Ss j else fun _ => False) b := z
    by_cases hj : j = vs.length
    · rw [if_pos hj] at z
      exact (h4 _ b z).imp id fun w => absurd w (wn b)
    · rw [if_neg hj] at z
      by_cases hP : j ∈ P
      · rw [if_pos hP] at z; exact h4 j b z
      · rw [if_neg hP] at z; exact z.elim
  · have z : (if j = vs.length then Ss ρ.length else if j ∈ P then Ss j else fun _ => False) b := z
    by_cases hj : j = vs.length
    · rw [if_pos hj] at z; exact h6 _ b z ze
    · rw [if_neg hj] at z
      by_cases hP : j ∈ P
      · rw [if_pos hP] at z; exact h6 j b z ze
      · rw [if_neg hP] at z; exact z.elim
theorem Rel.grow {B : Kinds} {P : List Nat} {G : Ent} {F H : Hp} {σ : L2.St} {ρ : Env'} (R : Rel B P G F H σ ρ) : ∀ n : Nat, Rel B P G F H (σ ++ List.replicate n none) (ρ ++ List.replicate n .no)
  | 0 => by rw [List.replicate_zero, List.replicate_zero, List.append_nil, List.append_nil]; exact R
  | n + 1 => by
    have ih := R.grow n
    rw [List.replicate_succ', List.replicate_succ', ← List.append_assoc, ← List.append_assoc]
    generalize σ ++ List.replicate n none = σ' at ih
    generalize ρ ++ List.replicate n C.no = ρ' at ih
    obtain ⟨Ss, E, h1, h2, h3, h4, h5, h6, h7⟩ := ih.ss
    have L := ih.len
    refine ⟨ih.step, by rw [List.length_append, List.length_append, L]; rfl, ih.pinP, ih.wP, ih.wl, by rw [List.length_append]; exact Nat.le_trans ih.nl (Nat.le_add_right _ _), fun j w e => ?_, Ss, E, fun j c o q1 q2 => ?_, fun j q => ?_, h3, h4, h5, h6, h7⟩
    · have q := ih.pin j w e
      rw [List.getElem?_append_left (List.getElem?_eq_some_iff.mp q).1]; exact q
    · by_cases hj : j < ρ'.length
      · rw [List.getElem?_append_left hj] at q1
        rw [List.getElem?_append_left (by rw [L]; exact hj)] at q2
        exact h1 j c o q1 q2
      · have hl := (List.getElem?_eq_some_iff.mp q1).1
        rw [List.length_append] at hl
        have e1 : ([C.no] : List C).length = 1 := rfl
        have hj : j = ρ'.length := by omega
        subst hj
        rw [List.getElem?_append_right (Nat.le_refl _), Nat.sub_self] at q1
        cases q1
        exact h2 _ (List.getElem?_eq_none_iff.mpr (Nat.le_refl _))
    · refine h2 j (List.getElem?_eq_none_iff.mpr ?_)
      have := List.getElem?_eq_none_iff.mp q
      rw [List.length_append] at this
      omega
/-- the body's continuations -/
def kOf (P : List Nat) (np : Nat) (Qr : C → List C → Prop) (Qx : Exn → List C → Prop) : K3 where
  nx := fun ρ => Qr (.val .none) (outC P np ρ)
  rt := fun r ρ => Qr r (outC P np ρ)
  bk := fun _ => False
  ct := fun _ => False
  ex := fun x ρ => Qx x (outC P np ρ)
def initC (N : List Str) (cs : List C) : Env' := cs ++ List.replicate (N.length - cs.length) .no
/-- THE RULE for a def -/
theorem fun_ok {B : Kinds} {ca : Nat → Value} {P0 : List Nat} {sd : SpD} {np : Nat} {w : WS} {P : Program} {wd : World} {K : PySem.W.Frag} {mg : Str → Option Value} {base : Heap} {x qual : Str} {st : Stmt} {f : Addr} {fd : FuncData} {N ps : List Str} {k : Nat}
    (F : Fun K x qual st f fd) (S : FnScope N ps (defScope st)) (hps : ps.length = np)
    (hbody : ∀ (cdv : Value) (A : Around) (outer : List Env) (s : Shared) (H : Hp) (E : XK), Room k (A.deeper (PyProof.Rows.envOfC qual (defScope st) s.heap.objs.size f cdv)) →
      DSs (cxOf (L2.CX P wd) P wd K mg base N qual (defScope st) f cdv A outer s H E) ⟨B, P0, ca, fun cls d _ H => E cls d H⟩ (defBody st) w)
    (hw : ∀ cs Qr Qx, cs.length = np → sd cs Qr Qx → w (kOf P0 np Qr Qx) (initC N cs)) : FnOk P wd K mg base (L2.CX P wd) (k + 1) f fd ps (toSp B ca P0 np sd) := by
  refine F.okX S (fun vs H Q E h => h.1.trans hps.symm) (fun cdv A outer s H vs Q E hr h => ⟨_, hbody cdv A outer s H E hr, ?_⟩)
  obtain ⟨hl, G, cs, Qr, Qx, rfl, hn, R, hp, hsd, h1, h2⟩ := h
  have lc : cs.length = np := by rw [← R.len, List.length_map]; exact hl
  have R0 := R.grow (N.length - vs.length)
  have e0 : List.map some vs ++ List.replicate (N.length - vs.length) none = L2.start N vs := rfl
  have e1 : cs ++ List.replicate (N.length - vs.length) C.no = initC N cs := by unfold initC; rw [lc, ← hl]
  rw [e0, e1] at R0
  have hv : vs.length ≤ (L2.start N vs).length := by unfold L2.start; rw [List.length_append, List.length_map]; exact Nat.le_add_right _ _
  have keep : ∀ {σ' : L2.St} {ρ' : Env'} {F' H'}, Rel B P0 G F' H' σ' ρ' → vs.length ≤ σ'.length := fun R' => by rw [hl, ← hn]; exact R'.nl
  refine ⟨G, G.F, initC N cs, kOf P0 np Qr Qx, R0, hw cs Qr Qx lc hsd, ⟨fun F' H' σ' ρ' R' _ q => ?_, fun r v F' H' σ' ρ' l nl R' _ q => ?_, fun _ _ _ _ _ _ q => q.elim, fun _ _ _ _ _ _ q => q.elim, fun x cls dd F' H' σ' ρ' R' _ e q => ?_⟩⟩
  · have R2 := (R'.pushVal (v := .non) (d := .none) .non).args R'.len (by rw [hn, hl]) (keep R') hp
    rw [hl] at R2
    exact h1 _ .non F' H' _ (outC_length _ _ _) R2 q
  · have R2 := R'.args l (by rw [hn, hl]) (by rw [hl, ← hn]; exact nl) hp
    rw [hl] at R2
    exact h1 r v F' H' _ (outC_length _ _ _) R2 q
  · have R2 := ((R'.pushVal (v := .non) (d := .none) .non).args R'.len (by rw [hn, hl]) (keep R') hp)
    rw [hl] at R2
    refine h2 x cls dd F' H' _ (outC_length _ _ _) (R2.unpend (by rw [outC_length, List.length_map, hl]) (by rw [List.length_map, hn, hl]; exact Nat.le_refl _) (fun i v e => ?_)) e q
    obtain ⟨w', e1, _⟩ := hp i (R'.pinP i v e)
    rw [List.length_map]
    exact (List.getElem?_eq_some_iff.mp e1).1
/-! ### calls -/
def posOf : List Pend → Nat → Option Nat
  | [], _ => none
  | .slot k :: ps, j => if k = j then some 0 else (posOf ps j).map (· + 1)
  | .v _ :: ps, j => (posOf ps j).map (· + 1)
theorem posOf_get : ∀ {ps : List Pend} {j i : Nat}, posOf ps j = some i → ps[i]? = some (.slot j)
  | [], _, _, h => nomatch h
  | .slot k :: ps, j, i, h => by
    unfold posOf at h
    split at h
    · rename_i e
      cases h
      rw [e]; rfl
    · cases q : posOf ps j with
      | none => rw [q] at h; cases h
      | some m => rw [q] at h; cases h; have := posOf_get (ps := ps) q; simpa using this
  | .v _ :: ps, j, i, h => by
    unfold posOf at h
    cases q : posOf ps j with
    | none => rw [q] at h; cases h
    | some m => rw [q] at h; cases h; have := posOf_get (ps := ps) q; simpa using this
/-- the contents behind the call: the passed slots bear what the callee left -/
def upds : Env' → List Pend → List C → Env'
  | ρ, .slot j :: ps, c :: cs => (upds ρ ps cs).set j c
  | ρ, .v _ :: ps, _ :: cs => upds ρ ps cs
  | ρ, _, _ => ρ
theorem upds_length : ∀ (ρ : Env') (ps : List Pend) (cs : List C), (upds ρ ps cs).length = ρ.length
  | ρ, .slot j :: ps, c :: cs => by unfold upds; rw [List.length_set, upds_length ρ ps cs]
  | ρ, .v _ :: ps, _ :: cs => upds_length ρ ps cs
  | ρ, [], [] => rfl
  | ρ, [], _ :: _ => rfl
  | ρ, .slot _ :: _, [] => rfl
  | ρ, .v _ :: _, [] => rfl
theorem upds_get : ∀ (ρ : Env') (ps : List Pend) (cs : List C), ps.length ≤ cs.length → ∀ (j : Nat), j < ρ.length → (upds ρ ps cs)[j]? = match posOf ps j with
    | some i => cs[i]?
    | none => ρ[j]?
  | ρ, [], cs, _, j, hj => by
    cases cs <;> rfl
  | ρ, .slot k :: ps, [], h, j, hj => by simp at h
  | ρ, .v _ :: ps, [], h, j, hj => by simp at h
  | ρ, .slot k :: ps, c :: cs, h, j, hj => by
    unfold upds posOf
    rw [List.getElem?_set, upds_length]
    by_cases e : k = j
    · subst e
      rw [if_pos rfl, if_pos hj, if_pos rfl]
      rfl
    · rw [if_neg e, if_neg e, upds_get ρ ps cs (by simpa using h) j hj]
      cases posOf ps j <;> rfl
  | ρ, .v _ :: ps, c :: cs, h, j, hj => by
    show (upds ρ ps cs)[j]? = match (posOf ps j).map (· + 1) with
      | some i => (c :: cs)[i]?
      | none => ρ[j]?
    rw [upds_get ρ ps cs (by simpa using h) j hj]
    cases posOf ps j <;> rfl
def contOf (ρ : Env') : Pend → C
  | .v d => .val d
  | .slot j => ρ[j]?.getD .no
/-- no slot twice; just the parameters of one's own are slots -/
def slotsOf : List Pend → List Nat
  | [] => []
  | .slot j :: ps => j :: slotsOf ps
  | .v _ :: ps => slotsOf ps
theorem mem_slotsOf : ∀ {ps : List Pend} {i j : Nat}, ps[i]? = some (.slot j) → j ∈ slotsOf ps
  | [], _, _, h => by simp at h
  | .slot k :: ps, 0, j, h => by cases h; exact List.mem_cons_self
  | .slot k :: ps, i + 1, j, h => List.mem_cons_of_mem _ (mem_slotsOf (i := i) (by simpa using h))
  | .v _ :: ps, 0, j, h => by cases h
  | .v _ :: ps, i + 1, j, h => mem_slotsOf (ps := ps) (i := i) (by simpa using h)
theorem slots_inj : ∀ {ps : List Pend} {i i' j : Nat}, (slotsOf ps).Nodup → ps[i]? = some (.slot j) → ps[i']? = some (.slot j) → i = i'
  | [], _, _, _, _, h, _ => by simp at h
  | .slot k :: ps, 0, 0, j, n, h, h' => rfl
  | .slot k :: ps, 0, i' + 1, j, n, h, h' => by
    cases h
    exact absurd (mem_slotsOf (ps := ps) (i := i') (by simpa using h')) (List.nodup_cons.mp n).1
  | .slot k :: ps, i + 1, 0, j, n, h, h' => by
    cases h'
    exact absurd (mem_slotsOf (ps := ps) (i := i) (by simpa using h)) (List.nodup_cons.mp n).1
  | .slot k :: ps, i + 1, i' + 1, j, n, h, h' => congrArg (· + 1) (slots_inj (ps := ps) (j := j) (List.nodup_cons.mp n).2 (by simpa using h) (by simpa using h'))
  | .v _ :: ps, 0, _, j, n, h, h' => by cases h
  | .v _ :: ps, i + 1, 0, j, n, h, h' => by cases h'
  | .v _ :: ps, i + 1, i' + 1, j, n, h, h' => congrArg (· + 1) (slots_inj (ps := ps) (j := j) n (by simpa using h) (by simpa using h'))
theorem posOf_some : ∀ {ps : List Pend} {i j : Nat}, ps[i]? = some (.slot j) → ∃ k, posOf ps j = some k
  | [], _, _, h => by simp at h
  | .slot k :: ps, 0, j, h => by cases h; exact ⟨0, by unfold posOf; rw [if_pos rfl]⟩
  | .slot k :: ps, i + 1, j, h => by
    obtain ⟨m, e⟩ := posOf_some (ps := ps) (i := i) (j := j) (by simpa using h)
    unfold posOf
    by_cases z : k = j
    · exact ⟨0, by rw [if_pos z]⟩
    · exact ⟨m + 1, by rw [if_neg z, e]; rfl⟩
  | .v _ :: ps, 0, j, h => by cases h
  | .v _ :: ps, i + 1, j, h => by
    obtain ⟨m, e⟩ := posOf_some (ps := ps) (i := i) (j := j) (by simpa using h)
    exact ⟨m + 1, by unfold posOf; rw [e]; rfl⟩
theorem PendsOk.get {F : Hp} {σ : L2.St} : ∀ {ps : List Pend} {vs : List V} {i : Nat} {p : Pend}, PendsOk F σ ps vs → ps[i]? = some p → ∃ v, vs[i]? = some v ∧ PendOk F σ p v
  | [], _, _, _, _, h => by simp at h
  | p :: ps, [], _, _, h, _ => h.elim
  | p :: ps, v :: vs, 0, q, h, e => by cases e; exact ⟨v, rfl, h.1⟩
  | p :: ps, v :: vs, i + 1, q, h, e => by
    obtain ⟨w, e1, r⟩ := PendsOk.get (ps := ps) (vs := vs) (i := i) h.2 (by simpa using e)
    exact ⟨w, by simpa using e1, r⟩
theorem PendsOk.length {F : Hp} {σ : L2.St} : ∀ {ps : List Pend} {vs : List V}, PendsOk F σ ps vs → vs.length = ps.length
  | [], [], _ => rfl
  | [], _ :: _, h => h.elim
  | _ :: _, [], h => h.elim
  | p :: ps, v :: vs, h => congrArg (· + 1) (PendsOk.length h.2)
/-- a parameter's footprint -/
def fpOf (Ss : Nat → Fp) (ps : List Pend) (i : Nat) : Fp := fun a => match ps[i]? with
  | some (.slot j) => Ss j a
  | _ => False
theorem fpOf_some {Ss : Nat → Fp} {ps : List Pend} {i : Nat} {a : Addr} (z : fpOf Ss ps i a) : ∃ j : Nat, ps[i]? = some (Pend.slot j) ∧ Ss j a := by
  unfold fpOf at z
  split at z
  · rename_i j e
    exact ⟨j, e, z⟩
  · exact z.elim
theorem fpOf_slot {Ss : Nat → Fp} {ps : List Pend} {i j : Nat} (e : ps[i]? = some (Pend.slot j)) : fpOf Ss ps i = Ss j := by
  funext a
  unfold fpOf
  rw [e]
theorem fpOf_v {Ss : Nat → Fp} {ps : List Pend} {i : Nat} {d : D} (e : ps[i]? = some (Pend.v d)) (a : Addr) : ¬ fpOf Ss ps i a := fun z => by
  obtain ⟨j, e', _⟩ := fpOf_some z
  rw [e] at e'; cases e'
theorem fpOf_none {Ss : Nat → Fp} {ps : List Pend} {i : Nat} (e : ps[i]? = none) (a : Addr) : ¬ fpOf Ss ps i a := fun z => by
  obtain ⟨j, e', _⟩ := fpOf_some z
  rw [e] at e'; cases e'
/-- the callee's entry -/
def entOf (F H : Hp) (Ss : Nat → Fp) (P : List Nat) (ps : List Pend) (vs : List V) (np : Nat) : Ent where
  F := F
  H := H
  n := np
  W := fpOf Ss ps
  pin := fun i => if i ∈ P then vs[i]? else none
  fr := Frm.emp
section
variable {B : Kinds} {P0 P : List Nat} {G : Ent} {F H : Hp} {σ : L2.St} {ρ : Env'}
/-- into the call: ps the arguments, us what the defaults stand for -/
theorem Rel.enter (R : Rel B P0 G F H σ ρ) {ps : List Pend} {vs us : List V} {ds : List D} (ok : PendsOk F σ ps vs) (hd : RpL F us ds) (nd : (slotsOf ps).Nodup) (hP : ∀ (i : Nat), i ∈ P ↔ ∃ j, ps[i]? = some (.slot j)) :
    ∃ Ss : Nat → Fp, (∀ i (c : C) (o : Option V), ρ[i]? = some c → σ[i]? = some o → SlotOk B F H c o (Ss i)) ∧
    Rel B P (entOf F H Ss P ps (vs ++ us) (ps.length + ds.length)) F H ((vs ++ us).map some) (ps.map (contOf ρ) ++ ds.map C.val) ∧
    (∀ {F2 H2 : Hp} {cs : List C} {v : V} {r : C}, cs.length = ps.length + ds.length → Rel B P (entOf F H Ss P ps (vs ++ us) (ps.length + ds.length)) F2 H2 ((vs ++ us).map some ++ [some v]) (cs ++ [r]) → Rel B P0 G F2 H2 (σ ++ [some v]) (upds ρ ps cs ++ [r])) := by
  obtain ⟨Ss, E, h1, h2, h3, h4, h5, h6, h7⟩ := R.ss
  have L := R.len
  have lv := ok.length
  have lu := hd.length
  have lvu : (vs ++ us).length = ps.length + ds.length := by rw [List.length_append, lv, lu]
  -- a passed slot
  have slot : ∀ {i j : Nat}, ps[i]? = some (.slot j) → ∃ v, vs[i]? = some v ∧ σ[j]? = some (some v) := fun {i j} e => ok.get e
  have small : ∀ {i : Nat}, i ∈ P → i < ps.length := fun {i} hi => by
    obtain ⟨j, e⟩ := (hP i).mp hi
    exact (List.getElem?_eq_some_iff.mp e).1
  refine ⟨Ss, h1, ⟨Step.refl R.fh, ?_, fun i v e => ?_, fun i a z => ?_, fun i a z => ?_, ?_, fun i v e => ?_, fpOf Ss ps, fun _ => False, fun i c o q1 q2 => ?_, fun i q a => ?_, fun i k a ne z1 z2 => ?_, fun i a z => ?_, fun _ z => z, fun _ _ _ z => z, fun _ z => z.elim⟩, fun {F2 H2 cs v r} lc R2 => ?_⟩
  · rw [List.length_map, List.length_append, List.length_append, List.length_map, List.length_map, lv, lu]
  · have e : (if i ∈ P then (vs ++ us)[i]? else none) = some v := e
    by_cases h : i ∈ P
    · exact h
    · rw [if_neg h] at e; cases e
  · obtain ⟨j, e, _⟩ := fpOf_some (show fpOf Ss ps i a from z)
    exact (hP i).mpr ⟨j, e⟩
  · obtain ⟨j, e, _⟩ := fpOf_some (show fpOf Ss ps i a from z)
    have q := (List.getElem?_eq_some_iff.mp e).1
    show i < ps.length + ds.length
    omega
  · rw [List.length_map, lvu]; exact Nat.le_refl _
  · have e : (if i ∈ P then (vs ++ us)[i]? else none) = some v := e
    by_cases h : i ∈ P
    · rw [if_pos h] at e
      rw [List.getElem?_map, e]; rfl
    · rw [if_neg h] at e; cases e
  · by_cases hi : i < ps.length
    · have e1 : ps[i]? = some ps[i] := List.getElem?_eq_getElem hi
      rw [List.getElem?_append_left (by rw [List.length_map]; exact hi), List.getElem?_map, e1] at q1
      rw [List.getElem?_map, List.getElem?_append_left (by rw [lv]; exact hi)] at q2
      obtain ⟨w, e2, pk⟩ := ok.get e1
      rw [e2] at q2
      cases q2
      cases ep : ps[i] with
      | v d =>
        rw [ep] at q1 pk e1
        cases q1
        exact ⟨pk, fpOf_v e1⟩
      | slot j =>
        rw [ep] at q1 pk e1
        rw [fpOf_slot e1]
        have q1 : some (ρ[j]?.getD C.no) = some c := q1
        have pk : σ[j]? = some (some w) := pk
        have hj : j < ρ.length := by rw [← L]; exact (List.getElem?_eq_some_iff.mp pk).1
        have e3 : ρ[j]? = some ρ[j] := List.getElem?_eq_getElem hj
        rw [e3] at q1
        cases q1
        exact h1 j _ _ e3 pk
    · have e1 : ps[i]? = none := List.getElem?_eq_none_iff.mpr (by omega)
      rw [List.getElem?_append_right (by rw [List.length_map]; omega), List.length_map, List.getElem?_map] at q1
      rw [List.getElem?_map, List.getElem?_append_right (by rw [lv]; omega), lv] at q2
      cases ed : ds[i - ps.length]? with
      | none => rw [ed] at q1; cases q1
      | some d =>
        rw [ed] at q1
        cases q1
        obtain ⟨w, e2, rw'⟩ := hd.get ed
        rw [e2] at q2
        cases q2
        exact ⟨rw', fpOf_none e1⟩
  · have hl := List.getElem?_eq_none_iff.mp q
    rw [List.length_append, List.length_map] at hl
    have e1 : ps[i]? = none := List.getElem?_eq_none_iff.mpr (by omega)
    exact fpOf_none e1 a
  · obtain ⟨j, e, z1⟩ := fpOf_some z1
    obtain ⟨j', e', z2⟩ := fpOf_some z2
    by_cases hj : j = j'
    · subst hj
      exact ne (slots_inj nd e e')
    · exact h3 j j' a hj z1 z2
  · exact .inr z
  · -- back
    obtain ⟨S2, E2, g1, g2, g3, g4, g5, g6, g7⟩ := R2.ss
    have wOld : ∀ a, (∃ i, (entOf F H Ss P ps (vs ++ us) (ps.length + ds.length)).W i a) → ∃ (i j : Nat), ps[i]? = some (Pend.slot j) ∧ Ss j a := fun a ⟨i, z⟩ => by
      obtain ⟨j, e, z⟩ := fpOf_some (show fpOf Ss ps i a from z)
      exact ⟨i, j, e, z⟩
    have st := R2.step
    have stW : ∀ x, (∃ i, (entOf F H Ss P ps (vs ++ us) (ps.length + ds.length)).W i x) → G.H x ≠ none → ∃ i, G.W i x := fun x hx hn => by
      obtain ⟨i, j, e, z⟩ := wOld x hx
      exact (h4 j x z).elim (fun q => absurd q hn) fun q => ⟨j, q⟩
    have notW : ∀ {j a}, posOf ps j = none → Ss j a → ¬ ∃ i, (entOf F H Ss P ps (vs ++ us) (ps.length + ds.length)).W i a := fun {j a} hp z hw => by
      obtain ⟨i, j', e, z'⟩ := wOld a hw
      by_cases hj : j = j'
      · subst hj
        obtain ⟨k, ek⟩ := posOf_some e
        rw [hp] at ek; cases ek
      · exact h3 j j' a hj z z'
    have notWE : ∀ {a}, E a → ¬ ∃ i, (entOf F H Ss P ps (vs ++ us) (ps.length + ds.length)).W i a := fun {a} z hw => by
      obtain ⟨i, j', e, z'⟩ := wOld a hw
      exact h6 j' a z' z
    have alive : ∀ {j a c o}, ρ[j]? = some c → σ[j]? = some o → Ss j a → F a = none ∧ H a ≠ none := fun {j a c o} e1 e2 z => (h1 j c o e1 e2).apart a z
    have aliveJ : ∀ {j a}, Ss j a → F a = none ∧ H a ≠ none := fun {j a} z => by
      cases q : ρ[j]? with
      | none => exact (h2 j q a z).elim
      | some c =>
        have hj : j < σ.length := by rw [L]; exact (List.getElem?_eq_some_iff.mp q).1
        exact alive q (List.getElem?_eq_getElem hj) z
    have keepJ : ∀ {a}, F a = none → H a ≠ none → (¬ ∃ i, (entOf F H Ss P ps (vs ++ us) (ps.length + ds.length)).W i a) → H2 a = H a ∧ F2 a = none := fun {a} f h n => by
      refine ⟨?_, st.unfrozen f h⟩
      cases q : H a with
      | none => exact absurd q h
      | some o => exact st.kept a o q n
    have newS : ∀ {i a}, S2 i a → H a = none ∨ ∃ j : Nat, ps[i]? = some (Pend.slot j) ∧ Ss j a := fun {i a} z => by
      rcases g4 i a z with z | z
      · exact .inl z
      · exact .inr (fpOf_some (show fpOf Ss ps i a from z))
    have gn : ∀ {a}, H a = none → G.H a = none := fun {a} z => by
      cases q : G.H a with
      | none => rfl
      | some o => exact absurd z (R.step.alive a (by rw [q]; exact fun e => nomatch e))
    have lU : (upds ρ ps cs).length = ρ.length := upds_length _ _ _
    have pl : ∀ {j i}, posOf ps j = some i → i < ps.length := fun {j i} e => (List.getElem?_eq_some_iff.mp (posOf_get e)).1
    -- the footprints behind the call
    refine ⟨R.step.trans st stW, by rw [List.length_append, List.length_append, lU, L]; rfl, R.pinP, R.wP, R.wl, by rw [List.length_append]; exact Nat.le_trans R.nl (Nat.le_add_right _ _), fun j w e => ?_,
      fun j => if j = ρ.length then S2 (ps.length + ds.length) else match posOf ps j with
        | some i => S2 i
        | none => Ss j, E, fun j c o q1 q2 => ?_, fun j q a => ?_, fun j k a ne z1 z2 => ?_, fun j a z => ?_, G.fr.frame h5 (fun a z => (keepJ (G.fr.apart h5 a z).1 (G.fr.apart h5 a z).2 (notWE z)).1) st.ff (fun a z => (keepJ (G.fr.apart h5 a z).1 (G.fr.apart h5 a z).2 (notWE z)).2), fun j a z ze => ?_, h7⟩
    · have q := R.pin j w e
      rw [List.getElem?_append_left (List.getElem?_eq_some_iff.mp q).1]; exact q
    · show SlotOk B F2 H2 c o (if j = ρ.length then S2 (ps.length + ds.length) else match posOf ps j with
        | some i => S2 i
        | none => Ss j)
      by_cases hj : j = ρ.length
      · rw [if_pos hj]
        subst hj
        rw [← lU, List.getElem?_append_right (Nat.le_refl _), Nat.sub_self] at q1
        rw [← L, List.getElem?_append_right (Nat.le_refl _), Nat.sub_self] at q2
        cases q1; cases q2
        refine g1 _ _ _ (by rw [← lc, List.getElem?_append_right (Nat.le_refl _), Nat.sub_self]; rfl) ?_
        rw [← lvu, List.getElem?_append_right (by rw [List.length_map]; exact Nat.le_refl _), List.length_map, Nat.sub_self]
        rfl
      · rw [if_neg hj]
        have hl : j < ρ.length := by
          have := (List.getElem?_eq_some_iff.mp q1).1
          rw [List.length_append, lU] at this
          have e1 : ([r] : List C).length = 1 := rfl
          omega
        rw [List.getElem?_append_left (by rw [lU]; exact hl), upds_get ρ ps cs (by omega) j hl] at q1
        rw [List.getElem?_append_left (by rw [L]; exact hl)] at q2
        cases ep : posOf ps j with
        | none =>
          rw [ep] at q1
          have so := h1 j c o q1 q2
          exact so.frame st.ff (fun a z => (keepJ (so.apart a z).1 (so.apart a z).2 (notW ep z)).1) fun a z => (keepJ (so.apart a z).1 (so.apart a z).2 (notW ep z)).2
        | some i =>
          rw [ep] at q1
          have e1 := posOf_get ep
          obtain ⟨w, e2, e3⟩ := slot e1
          rw [e3] at q2
          cases q2
          have hi := pl ep
          refine g1 i c _ (by rw [List.getElem?_append_left (by omega)]; exact q1) ?_
          rw [List.getElem?_append_left (by rw [List.length_map]; omega), List.getElem?_map, List.getElem?_append_left (by omega), e2]
          rfl
    · have hl : ρ.length < j := by
        have := List.getElem?_eq_none_iff.mp q
        rw [List.length_append, lU] at this
        have e1 : ([r] : List C).length = 1 := rfl
        omega
      show ¬ (if j = ρ.length then S2 (ps.length + ds.length) else match posOf ps j with
        | some i => S2 i
        | none => Ss j) a
      rw [if_neg (by omega)]
      cases ep : posOf ps j with
      | none => exact h2 j (List.getElem?_eq_none_iff.mpr (by omega)) a
      | some i =>
        obtain ⟨w, _, e3⟩ := slot (posOf_get ep)
        have := (List.getElem?_eq_some_iff.mp e3).1
        omega
    · have key : ∀ {j a}, (if j = ρ.length then S2 (ps.length + ds.length) else match posOf ps j with
          | some i => S2 i
          | none => Ss j) a → (∃ i, S2 i a ∧ (if j = ρ.length then i = ps.length + ds.length else posOf ps j = some i)) ∨ (j ≠ ρ.length ∧ posOf ps j = none ∧ Ss j a) := fun {j a} z => by
        by_cases hj : j = ρ.length
        · rw [if_pos hj] at z
          exact .inl ⟨_, z, by rw [if_pos hj]⟩
        · rw [if_neg hj] at z
          cases ep : posOf ps j with
          | none => rw [ep] at z; exact .inr ⟨hj, rfl, z⟩
          | some i => rw [ep] at z; exact .inl ⟨i, z, by rw [if_neg hj]⟩
      have mix : ∀ {i k a}, S2 i a → posOf ps k = none → Ss k a → False := fun {i k a} z hk zk => by
        rcases newS z with z | ⟨j, e, z⟩
        · exact (aliveJ zk).2 z
        · by_cases hj : j = k
          · subst hj
            obtain ⟨m, em⟩ := posOf_some e
            rw [hk] at em; cases em
          · exact h3 j k a hj z zk
      rcases key z1 with ⟨i, y1, w1⟩ | ⟨n1, p1, y1⟩
      · rcases key z2 with ⟨i', y2, w2⟩ | ⟨n2, p2, y2⟩
        · refine g3 i i' a (fun e => ?_) y1 y2
          subst e
          by_cases hj : j = ρ.length
          · rw [if_pos hj] at w1
            by_cases hk : k = ρ.length
            · exact ne (hj.trans hk.symm)
            · rw [if_neg hk] at w2
              have := pl w2
              omega
          · rw [if_neg hj] at w1
            by_cases hk : k = ρ.length
            · rw [if_pos hk] at w2
              have := pl w1
              omega
            · rw [if_neg hk] at w2
              have e1 := posOf_get w1
              rw [posOf_get w2] at e1
              cases e1
              exact ne rfl
        · exact mix y1 p2 y2
      · rcases key z2 with ⟨i', y2, w2⟩ | ⟨n2, p2, y2⟩
        · exact mix y2 p1 y1
        · exact h3 j k a ne y1 y2
    · have z : (if j = ρ.length then S2 (ps.length + ds.length) else match posOf ps j with
        | some i => S2 i
        | none => Ss j) a := z
      by_cases hj : j = ρ.length
      · rw [if_pos hj] at z
        rcases newS z with z | ⟨j', e, z⟩
        · exact .inl (gn z)
        · have := (List.getElem?_eq_some_iff.mp e).1
          omega
      · rw [if_neg hj] at z
        cases ep : posOf ps j with
        | none => rw [ep] at z; exact h4 j a z
        | some i =>
          rw [ep] at z
          rcases newS z with z | ⟨j', e, z⟩
          · exact .inl (gn z)
          · rw [posOf_get ep] at e
            cases e
            exact h4 j a z
    · have z : (if j = ρ.length then S2 (ps.length + ds.length) else match posOf ps j with
        | some i => S2 i
        | none => Ss j) a := z
      have bad : ∀ {i}, S2 i a → False := fun {i} z => by
        rcases newS z with z | ⟨j', e, z⟩
        · exact (G.fr.apart h5 a ze).2 z
        · exact h6 j' a z ze
      by_cases hj : j = ρ.length
      · rw [if_pos hj] at z; exact bad z
      · rw [if_neg hj] at z
        cases ep : posOf ps j with
        | none => rw [ep] at z; exact h6 j a z ze
        | some i => rw [ep] at z; exact bad z
theorem Rel.lastVal {F : Hp} {H : Hp} {σ : L2.St} {ρ : Env'} {v : V} {d : D} (l : σ.length = ρ.length) (R : Rel B P G F H (σ ++ [some v]) (ρ ++ [.val d])) : Rp F v d := by
  obtain ⟨w, e, r⟩ := R.val (i := ρ.length) (d := d) (by rw [List.getElem?_append_right (Nat.le_refl _), Nat.sub_self]; rfl)
  rw [← l, List.getElem?_append_right (Nat.le_refl _), Nat.sub_self] at e
  cases e
  exact r
end
def idxs : List Pend → Nat → List Nat
  | [], _ => []
  | .slot _ :: ps, k => k :: idxs ps (k + 1)
  | .v _ :: ps, k => idxs ps (k + 1)
theorem mem_idxs : ∀ {ps : List Pend} {k i : Nat}, i ∈ idxs ps k ↔ ∃ m j, i = k + m ∧ ps[m]? = some (Pend.slot j)
  | [], k, i => by simp [idxs]
  | .slot j :: ps, k, i => by
    unfold idxs
    rw [List.mem_cons, mem_idxs (ps := ps)]
    constructor
    · rintro (e | ⟨m, j', e, h⟩)
      · exact ⟨0, j, by omega, rfl⟩
      · exact ⟨m + 1, j', by omega, by simpa using h⟩
    · rintro ⟨m, j', e, h⟩
      cases m with
      | zero => exact .inl (by omega)
      | succ m => exact .inr ⟨m, j', by omega, by simpa using h⟩
  | .v d :: ps, k, i => by
    unfold idxs
    rw [mem_idxs (ps := ps)]
    constructor
    · rintro ⟨m, j', e, h⟩
      exact ⟨m + 1, j', by omega, by simpa using h⟩
    · rintro ⟨m, j', e, h⟩
      cases m with
      | zero => cases h
      | succ m => exact ⟨m, j', by omega, by simpa using h⟩
section
variable {X : Cx} {c : Cf}
def wFn (sd : SpD) (P : List Nat) (ds : List D) (os : List Opd) : WE := fun ρ Q X => wArgs os ρ (fun ps ρ1 => (slotsOf ps).Nodup ∧ idxs ps 0 = P ∧ sd (ps.map (contOf ρ1) ++ ds.map C.val) (fun r cs => match r with
  | .val d => Q d (upds ρ1 ps cs)
  | _ => False) (fun x cs => X x (upds ρ1 ps cs))) X
def wFnO (sd : SpD) (P : List Nat) (ds : List D) (os : List Opd) : WO := fun ρ Q X => wArgs os ρ (fun ps ρ1 => (slotsOf ps).Nodup ∧ idxs ps 0 = P ∧ sd (ps.map (contOf ρ1) ++ ds.map C.val) (fun r cs => match r with
  | .own t => Q t (upds ρ1 ps cs)
  | _ => False) (fun x cs => X x (upds ρ1 ps cs))) X
theorem fn_run {G : Ent} {F F1 H1 : Hp} {σ : L2.St} {ρ1 : Env'} {ps : List Pend} {vs us : List V} {ds : List D} {P : List Nat} {np : Nat} {sd : SpD} {Qr : C → Env' → Prop} {Qx : PX} {Q : VK}
    (R1 : Rel c.B c.P G F1 H1 σ ρ1) (s1 : Same F F1) (ok : PendsOk F1 σ ps vs) (hd : ∀ F, RpL F us ds) (hn : ps.length + ds.length = np) (nd : (slotsOf ps).Nodup) (hP : idxs ps 0 = P)
    (h : sd (ps.map (contOf ρ1) ++ ds.map C.val) (fun r cs => Qr r (upds ρ1 ps cs)) (fun x cs => Qx x (upds ρ1 ps cs)))
    (pd : ∀ r v F' H' cs, cs.length = np → Rel c.B c.P G F' H' (σ ++ [some v]) (upds ρ1 ps cs ++ [r]) → Same F F' → Qr r (upds ρ1 ps cs) → Q v H') (px : PostX c G σ F Qx) :
    toSp c.B c.ca P np sd (vs ++ us) H1 Q (fun cls d H' => c.W cls d σ H') := by
  have hP' : ∀ i : Nat, i ∈ P ↔ ∃ j, ps[i]? = some (Pend.slot j) := fun i => by
    rw [← hP, mem_idxs]
    constructor
    · rintro ⟨m, j, e, h⟩
      exact ⟨j, by rw [e, Nat.zero_add]; exact h⟩
    · rintro ⟨j, h⟩
      exact ⟨i, j, by omega, h⟩
  obtain ⟨Ss, h1, Re, back⟩ := R1.enter (P := P) ok (hd F1) nd hP'
  subst hn
  have lu := (hd F1).length
  refine ⟨by rw [List.length_append, ok.length, lu], _, _, _, _, rfl, rfl, Re, fun i hi => ?_, h, fun r v F' H' cs lc R' q => ?_, fun x cls dd F' H' cs lc R' e q => ?_⟩
  · obtain ⟨j, e⟩ := (hP' i).mp hi
    obtain ⟨v, e1, _⟩ := ok.get e
    have e2 : (vs ++ us)[i]? = some v := by rw [List.getElem?_append_left (List.getElem?_eq_some_iff.mp e1).1]; exact e1
    exact ⟨v, e2, by show (if i ∈ P then (vs ++ us)[i]? else none) = some v; rw [if_pos hi, e2]⟩
  · exact pd r v F' H' cs lc (back lc R') (s1.trans R'.step.ff) q
  · have R2 := back lc (R'.pushVal (v := .non) (d := .none) .non)
    exact px x cls dd F' H' _ (R2.unpend (by rw [upds_length]; exact R1.len) R1.nl R1.pinL) (s1.trans R'.step.ff) e q
theorem de_fn {e : Expr} {es : List Expr} {os : List Opd} {P : List Nat} {np : Nat} {sd : SpD} {us : List V} {ds : List D} (hd : ∀ F, RpL F us ds) (hn : es.length + ds.length = np)
    (mk : ∀ t, PA X es t → PE X e (tCallSD (toSp c.B c.ca P np sd) us (fun σ cls d H' => c.W cls d σ H') t)) (ha : DA X c es os) (hl : ∀ F σ ps vs, PendsOk F σ ps vs → vs.length = ps.length := fun _ _ _ _ h => h.length) :
    DE X c e (fun ρ Q X => wArgs os ρ (fun ps ρ1 => ps.length + ds.length = np ∧ (slotsOf ps).Nodup ∧ idxs ps 0 = P ∧ sd (ps.map (contOf ρ1) ++ ds.map C.val) (fun r cs => match r with
      | .val d => Q d (upds ρ1 ps cs)
      | _ => False) (fun x cs => X x (upds ρ1 ps cs))) X) :=
  (mk _ ha).imp fun σ H Q ⟨G, F, ρ, Qd, Qx, R, h, pd, px⟩ => ⟨G, F, ρ, _, Qx, R, h, fun ps vs F1 H1 ρ1 R1 s1 r1 h1 => by
    obtain ⟨q0, q1, q2, q3⟩ := h1
    refine fn_run (Qr := fun r ρ' => match r with
      | .val d => Qd d ρ'
      | _ => False) R1 s1 r1 hd q0 q1 q2 q3 (fun r v F' H' cs lc R' s' q => ?_) px
    cases r with
    | val d =>
      have l : σ.length = (upds ρ1 ps cs).length := by rw [upds_length]; exact R1.len
      exact pd d v F' H' _ (R'.unpend l R1.nl R1.pinL) s' (R'.lastVal l) q
    | no => exact q.elim
    | own t => exact q.elim, px⟩
theorem do_fn {e : Expr} {es : List Expr} {os : List Opd} {P : List Nat} {np : Nat} {sd : SpD} {us : List V} {ds : List D} (hd : ∀ F, RpL F us ds) (hn : es.length + ds.length = np)
    (mk : ∀ t, PA X es t → PE X e (tCallSD (toSp c.B c.ca P np sd) us (fun σ cls d H' => c.W cls d σ H') t)) (ha : DA X c es os) :
    DO X c e (fun ρ Q X => wArgs os ρ (fun ps ρ1 => ps.length + ds.length = np ∧ (slotsOf ps).Nodup ∧ idxs ps 0 = P ∧ sd (ps.map (contOf ρ1) ++ ds.map C.val) (fun r cs => match r with
      | .own t => Q t (upds ρ1 ps cs)
      | _ => False) (fun x cs => X x (upds ρ1 ps cs))) X) :=
  (mk _ ha).imp fun σ H Q ⟨G, F, ρ, Qd, Qx, R, h, pd, px⟩ => ⟨G, F, ρ, _, Qx, R, h, fun ps vs F1 H1 ρ1 R1 s1 r1 h1 => by
    obtain ⟨q0, q1, q2, q3⟩ := h1
    refine fn_run (Qr := fun r ρ' => match r with
      | .own t => Qd t ρ'
      | _ => False) R1 s1 r1 hd q0 q1 q2 q3 (fun r v F' H' cs lc R' s' q => ?_) px
    cases r with
    | own t => exact pd t v F' H' _ (by rw [upds_length]; exact R1.len) R' s' q
    | no => exact q.elim
    | val d => exact q.elim, px⟩
end
end DL
set_option maxHeartbeats 4000000
/-! DL7: try with clauses that keep the exception as a value. -/
namespace DL
open PySem PySem.Spec L2
section
variable {X : Cx} {pins : List (Addr × Obj)} {σ : L2.St} {H : Hp} {s : Shared}
/-- an object that stands and is of nobody's is tracked from now on -/
theorem track {a : Addr} {o : HO} (I : Inv X pins σ H s) (na : H a = none) (nL : a ≠ X.env.locals) (n0 : X.s_0.heap.get? a = none) (np : ∀ p ∈ X.pn ++ pins, p.1 ≠ a) (nc : ∀ x c, X.env.cells.lookup x = some c → c ≠ a)
    (new : ObjOk X.prog X.w (upd H a o) s.heap a o) : Inv X pins σ (upd H a o) s := by
  refine ⟨I.ok, I.os, I.bare, ⟨I.base.keep, I.base.slot, fun b u e n hx => ?_, I.base.there, fun b xs e => ?_, fun b u xs e => ?_, fun b ps e => ?_⟩, I.loc, I.cell, ?_, fun x c e => ?_, fun p hp => ?_, fun b u e => ?_, I.len⟩
  · have hb : b ≠ a := fun z => by rw [z, n0] at e; cases e
    rw [upd_ne hb]
    exact I.base.free b u e n hx
  · have q := I.base.tups b xs e
    rw [upd_ne (ne_of_none q na)]; exact q
  · have q := I.base.frzs b u xs e
    rw [upd_ne (ne_of_none q na)]; exact q
  · obtain ⟨m, q⟩ := I.base.tbls b ps e
    exact ⟨m, by rw [upd_ne (ne_of_none q na)]; exact q⟩
  · rw [upd_ne (Ne.symm nL)]; exact I.free
  · rw [upd_ne (nc x c e)]; exact I.freeC x c e
  · obtain ⟨e, n, ne, nf, d⟩ := I.pin p hp
    exact ⟨e, by rw [upd_ne (np p hp)]; exact n, ne, nf, d⟩
  · by_cases hb : b = a
    · subst hb
      rw [upd_same] at e
      cases e
      exact new
    · rw [upd_ne hb] at e
      exact (I.hok b u e).stay (fun c v _ q => q) (fun c q => by rw [upd_ne (ne_of_none q na)]; exact q) fun c xs q => by rw [upd_ne (ne_of_none q na)]; exact q
theorem exPh_ok {P : Program} {w : World} {H : Hp} {h : Heap} {a C : Addr} {d : Option Addr} {oe : Obj} {vs : Array Value} (e : h.get? a = some oe) (z : Zc (.ref C) d oe) (hd : oe.data = .fields vs) : ObjOk P w H h a (ExPh C d a) :=
  ⟨⟨oe, vs, e, z, hd⟩, ⟨oe, e⟩, fun _ _ ⟨o, v, q, r⟩ k => ⟨o, v, k o q, r⟩⟩
theorem suite0 (I : Inv X pins σ H s) (a : Addr) : Inv (X.suite a (X.pn ++ pins)) [] σ H s :=
  ⟨I.ok.suite _ _, I.os, I.bare, I.base, I.loc, I.cell, I.free, I.freeC, fun p hp => I.pin p (by rw [List.append_nil] at hp; exact hp), I.hok, I.len⟩
theorem unsuite0 {a : Addr} {pn' : List (Addr × Obj)} (I : Inv (X.suite a (X.pn ++ pins)) pn' σ H s) (ok : X.Ok) : Inv X pins σ H s :=
  ⟨ok, I.os, I.bare, I.base, I.loc, I.cell, I.free, I.freeC, fun p hp => I.pin p (List.mem_append_left _ hp), I.hok, I.len⟩
end
/-- what the clauses wish: (class, slot of the name, suite) -/
def wCl (K : PySem.W.Frag) (Wout : WX) (D : Ends) : List (Value × Option Nat × TS) → WX
  | [] => Wout
  | (c, some i, ts) :: r => fun cls d σ H => ∃ b, PySem.W.exmOne K cls c = some b ∧ (b = true → ∃ C, cls = .ref C ∧ ∀ a, H a = none →
      ts { nx := fun σ' H' => D.nx (σ'.set i none) H', rt := D.rt, bk := fun σ' H' => D.bk (σ'.set i none) H', ct := fun σ' H' => D.ct (σ'.set i none) H' } (σ.set i (some (.ref a))) (upd H a (ExPh C d a))) ∧ (b = false → wCl K Wout D r cls d σ H)
  | (c, none, ts) :: r => fun cls d σ H => ∃ b, PySem.W.exmOne K cls c = some b ∧ (b = true → ts D σ H) ∧ (b = false → wCl K Wout D r cls d σ H)
inductive Cls' (X : Cx) : List ExceptHandler → List (Value × Option Nat × TS) → Prop
  | nil : Cls' X [] []
  | named {x n : Str} {c : Value} {i : Nat} {ts : TS} {b₀ : Stmt} {suite : List Stmt} {np pos' : Pos} {hds : List ExceptHandler} {l : List (Value × Option Nat × TS)} (hc : Names X x c) (hi : X.N[i]? = some n) (hln : X.env.kindOf n = some .local)
      (hsu : ∀ (a : Addr) (pn : List (Addr × Obj)), PSs (X.suite a pn) (b₀ :: suite) ts) (r : Cls' X hds l) : Cls' X (.ExceptHandler (some (.Name x np)) (some n) (b₀ :: suite) pos' :: hds) ((c, some i, ts) :: l)
  | plain {x : Str} {c : Value} {ts : TS} {b₀ : Stmt} {suite : List Stmt} {np pos' : Pos} {hds : List ExceptHandler} {l : List (Value × Option Nat × TS)} (hc : Names X x c)
      (hsu : ∀ (a : Addr) (pn : List (Addr × Obj)), PSs (X.suite a pn) (b₀ :: suite) ts) (r : Cls' X hds l) : Cls' X (.ExceptHandler (some (.Name x np)) none (b₀ :: suite) pos' :: hds) ((c, none, ts) :: l)
section
variable {X : Cx} {body : List Stmt} {h₀ : ExceptHandler} {hds : List ExceptHandler} {l : List (Value × Option Nat × TS)} {pos : Pos} {tb : WX → TS} {Wout : WX}
theorem ps_tryC (hs : X.stack = X.env :: X.outer) (hf : X.env.frame = some X.env.locals) (hN : X.N.Nodup) (hx : X.ex = []) (tk : Takes X Wout)
    (hb : ∀ (W : WX) (pn : List (Addr × Obj)) (xe : Value → Shared → Prop), Takes (X.tr pn xe) W → PassesOwn (model X.prog X.w) X.A X.env xe → PSs (X.tr pn xe) body (tb W))
    (hh : Cls' X (h₀ :: hds) l) : PS X (.Try body (h₀ :: hds) [] [] pos) (fun D σ H => tb (wCl X.K Wout D l) D σ H) := by
  refine ⟨fun pins s σ H D I h => ?_⟩
  have ok := I.ok
  have hfr : X.A.frames = some (X.env :: X.outer) := by rw [ok.frames, hs]
  refine wpAny_Try_except ?_
  refine wpAny_mono ((hb (wCl X.K Wout D l) (X.pn ++ pins) (fun e s₁ => wpAny (model X.prog X.w) X.A (noteFrame e X.env) (fun _ s₂ => wpAny (model X.prog X.w) X.A (setFlight e none) (fun _ s₃ =>
    wpAny (model X.prog X.w) X.A (handleBy e X.env (h₀ :: hds)) (SP X pins D) X.xe s₃) X.xe s₂) X.xe s₁) (fun u s' xx => ?_) PassesOwn.looking).run [] s σ H D (I.toTry _) h) (fun f s1 hsp => ?_) (fun e s1 he => he)
  · -- the catch
    obtain ⟨a, B, sI, pins', σ', H', cls, d, rfl, J', nb, up, sky, na, os, ag, w⟩ := xx
    have J : Inv X pins σ' H' sI := J'.ofTry ok
    have sky' : Sky B (X.env :: X.outer) a (Zc cls d) X.env.locals s'.heap := by rw [← hs]; exact sky
    show wpAny (model X.prog X.w) X.A (noteFrame (.ref a) X.env) _ _ _
    refine Sky.land Zc.steady hfr hf sky' fun h3 fl3 up3 => ?_
    have J3 : Inv X pins σ' H' { s' with heap := h3 } := J.landed nb fl3.1 (up.trans up3) os ag
    obtain ⟨oe3, vs3, he3, hz3, hd3⟩ := fl3.there
    have notFr : ∀ {h : Heap} {o : Obj} {vs : Array Value}, h.FunFrames B (X.env :: X.outer) → h.get? a = some o → o.data = .fields vs → a ∉ frs (X.env :: X.outer) := fun {h o vs} ff e dd hm => by
      obtain ⟨_, o', e', hnf⟩ := ff.mem hm
      rw [e] at e'; cases e'
      exact hnf _ dd
    have nfr := notFr fl3.2.2.1 he3 hd3
    have nL : a ≠ X.env.locals := fun z => nfr (List.mem_filterMap.mpr ⟨X.env, List.mem_cons_self, by rw [hf, z]⟩)
    have nF : a ∉ X.fs := fun hm => by
      obtain ⟨e, he, q⟩ := List.mem_filterMap.mp hm
      exact nfr (List.mem_filterMap.mpr ⟨e, List.mem_cons_of_mem _ he, q⟩)
    have hnI : sI.heap.get? a = none := by
      cases q : sI.heap.get? a with
      | none => rfl
      | some o =>
        have z := nb a o q (by rw [hs]; exact nfr)
        rw [fl3.2.1] at z
        cases z
    have n0 : X.s_0.heap.get? a = none := by
      cases q : X.s_0.heap.get? a with
      | none => rfl
      | some o =>
        obtain ⟨o', z⟩ := J.base.there a o q (by rw [hx]; exact fun z => nomatch z)
        rw [hnI] at z
        cases z
    have npin : ∀ p ∈ X.pn ++ pins, p.1 ≠ a := fun p hp e => by
      have z := (J.pin p hp).1
      rw [e, hnI] at z
      cases z
    have ncell : ∀ x c, X.env.cells.lookup x = some c → c ≠ a := fun x c e z => by
      obtain ⟨v, o, q, _⟩ := J.cell x c e
      rw [z, hnI] at q
      cases q
    have S3 := J3.suite he3 hd3 na nL nF
    have go : ∀ {hds' : List ExceptHandler} {l' : List (Value × Option Nat × TS)}, Cls' X hds' l' → wCl X.K Wout D l' cls d σ' H' →
        wpAny (model X.prog X.w) X.A (handleBy (.ref a) X.env hds') (SP X pins D) X.xe { s' with heap := h3 } := by
      intro hds' l' hk
      induction hk with
      | nil =>
        intro w
        refine wpAny_handleBy_nil ?_
        obtain ⟨k1, k2, k3, oe, vs, T, oT, ts', he, hz, hd, h1, hr⟩ := id fl3
        unfold PySem.passOn
        refine wpAny_bind (wpAny_field he hd h1 ?_)
        rw [if_neg (show ¬ ((Value.ref T == Value.none) = true) from by simp)]
        have fin : wpAny (model X.prog X.w) X.A (setFlight (.ref a) X.env.frame) (fun _ s4 => wpAny (model X.prog X.w) X.A (throw (.ref a) : Sem Flow) (SP X pins D) X.xe s4) X.xe { s' with heap := h3 } := by
          rw [hf]
          refine HandSPX.setFlight_upZ fl3 fun h4 hh4 up4 => wpAny_throw (tk _ _ ?_)
          exact ⟨a, B, sI, pins, σ', H', cls, d, rfl, J, nb, (up.trans up3).trans up4, .inr (.inr (by rw [hs]; exact hh4)), na, os, ag, w⟩
        first
          | exact wpAny_bind (wpAny_pure (wpAny_bind fin))
          | exact wpAny_bind fin
      | @plain x c ts b₀ suite np pos' hds2 l2 hc hsu r ih =>
        intro w
        obtain ⟨b, hb1, hyes, hno⟩ := w
        refine wpAny_handleBy_cons (codeAny_handlers_test ?_) (by intro q; cases q)
        have LT : PySem.W.Looks (model X.prog X.w) h3 (typeOf (.ref a)) cls := fun A Q E s k q => wpAny_typeOf_ref (k _ _ he3) (by rw [hz3.1]; exact q)
        have LM := PySem.W.exm_one (M := model X.prog X.w) (J3.kIn) LT hb1
        have test : ∀ {Q : Value → Shared → Prop} {E : Value → Shared → Prop}, Q c { s' with heap := h3 } → wpAny (model X.prog X.w) (X.A.mark (some (.ref a))) (eval (.Name x np) X.env) Q E { s' with heap := h3 } := fun {Q E} q => by
          obtain ⟨hg, hdbg, hm | ⟨hm, hv, hnn⟩⟩ := hc
          · exact ld_glob (X := X.suite a ((a, oe3) :: (X.pn ++ pins))) S3 hg hm q hdbg
          · exact ld_blt (X := X.suite a ((a, oe3) :: (X.pn ++ pins))) S3 hg hm hv q hnn hdbg
        refine test (LM.here ?_)
        cases b with
        | true =>
          refine codeAny_handlers_suite ?_
          refine HandSPX.lands_againZ fl3 fun h4 fl4 up4 => ?_
          have J4 : Inv X pins σ' H' { s' with heap := h4 } := J.landed nb fl4.1 ((up.trans up3).trans up4) os ag
          refine wpAny_mono ((hsu a (X.pn ++ pins)).run [] _ _ H' _ (suite0 J4 a) (hyes rfl)) (fun f s6 hsp => ?_) (fun _ _ z => False.elim z)
          cases f with
          | next =>
            obtain ⟨σ6, H6, S6, q6⟩ := hsp
            exact ⟨_, _, unsuite0 S6 ok, q6⟩
          | brk =>
            obtain ⟨σ6, H6, S6, q6⟩ := hsp
            exact ⟨_, _, unsuite0 S6 ok, q6⟩
          | cont =>
            obtain ⟨σ6, H6, S6, q6⟩ := hsp
            exact ⟨_, _, unsuite0 S6 ok, q6⟩
          | ret u =>
            obtain ⟨v6, σ6, H6, S6, r6, q6⟩ := hsp
            exact ⟨_, _, _, unsuite0 S6 ok, r6, q6⟩
        | false =>
          show wpAny _ X.A (handleBy (.ref a) X.env hds2) _ _ _
          exact ih (hno rfl)
      | @named x n c i ts b₀ suite np pos' hds2 l2 hc hi hln hsu r ih =>
        intro w
        obtain ⟨b, hb1, hyes, hno⟩ := w
        refine wpAny_handleBy_cons (codeAny_handlers_test ?_) (by intro q; cases q)
        have LT : PySem.W.Looks (model X.prog X.w) h3 (typeOf (.ref a)) cls := fun A Q E s k q => wpAny_typeOf_ref (k _ _ he3) (by rw [hz3.1]; exact q)
        have LM := PySem.W.exm_one (M := model X.prog X.w) (J3.kIn) LT hb1
        have test : ∀ {Q : Value → Shared → Prop} {E : Value → Shared → Prop}, Q c { s' with heap := h3 } → wpAny (model X.prog X.w) (X.A.mark (some (.ref a))) (eval (.Name x np) X.env) Q E { s' with heap := h3 } := fun {Q E} q => by
          obtain ⟨hg, hdbg, hm | ⟨hm, hv, hnn⟩⟩ := hc
          · exact ld_glob (X := X.suite a ((a, oe3) :: (X.pn ++ pins))) S3 hg hm q hdbg
          · exact ld_blt (X := X.suite a ((a, oe3) :: (X.pn ++ pins))) S3 hg hm hv q hnn hdbg
        refine test (LM.here ?_)
        cases b with
        | true =>
          obtain ⟨C, rfl, hy2⟩ := hyes rfl
          refine codeAny_handlers_suite_as ?_
          refine HandSPX.lands_againZ fl3 fun h4 fl4 up4 => ?_
          have J4 : Inv X pins σ' H' { s' with heap := h4 } := J.landed nb fl4.1 ((up.trans up3).trans up4) os ag
          obtain ⟨oe4, vs4, he4, hz4, hd4⟩ := fl4.there
          have T4 := track J4 (o := ExPh C d a) na nL n0 npin ncell (exPh_ok he4 hz4 hd4)
          refine store_ok (X := X.suite a (X.pn ++ pins)) (v := .ref a) (suite0 T4 a) hN hi (.inl hln) rfl (fun s5 S5 => ?_) (.inr hln)
          refine wpAny_mono ((hsu a (X.pn ++ pins)).run [] s5 _ _ _ S5 (hy2 a na)) (fun f s6 hsp => ?_) (fun _ _ z => False.elim z)
          have end_ : ∀ {σ6 : L2.St} {H6 : Hp} {Q : Shared → Prop}, Inv (X.suite a (X.pn ++ pins)) [] σ6 H6 s6 → (∀ s7, Inv X pins (σ6.set i none) H6 s7 → Q s7) →
              wpAny (model X.prog X.w) X.A (do bindName X.env n .none; unbindBehindTheSuite X.env n pos') (fun _ s7 => Q s7) X.xe s6 := fun {σ6 H6 Q} S6 hq => gone_ok (unsuite0 S6 ok) hN hi hln hq
          cases f with
          | next =>
            obtain ⟨σ6, H6, S6, q6⟩ := hsp
            exact end_ S6 fun s7 J7 => ⟨_, _, J7, q6⟩
          | brk =>
            obtain ⟨σ6, H6, S6, q6⟩ := hsp
            exact end_ S6 fun s7 J7 => ⟨_, _, J7, q6⟩
          | cont =>
            obtain ⟨σ6, H6, S6, q6⟩ := hsp
            exact end_ S6 fun s7 J7 => ⟨_, _, J7, q6⟩
          | ret u =>
            obtain ⟨v6, σ6, H6, S6, r6, q6⟩ := hsp
            exact end_ S6 fun s7 J7 => ⟨_, _, _, J7, r6, q6⟩
        | false =>
          show wpAny _ X.A (handleBy (.ref a) X.env hds2) _ _ _
          exact ih (hno rfl)
    exact go hh w
  · cases f with
    | next =>
      obtain ⟨σ', H', J', q⟩ := hsp
      exact wpAny_execs_nil ⟨σ', H', J'.ofTry ok, q⟩
    | brk =>
      obtain ⟨σ', H', J', q⟩ := hsp
      exact ⟨σ', H', J'.ofTry ok, q⟩
    | cont =>
      obtain ⟨σ', H', J', q⟩ := hsp
      exact ⟨σ', H', J'.ofTry ok, q⟩
    | ret u =>
      obtain ⟨v, σ', H', J', r, q⟩ := hsp
      exact ⟨v, σ', H', J'.ofTry ok, r, q⟩
end
end DL
set_option maxHeartbeats 4000000
/-! DL8: freezing ahead, pairs at once, lists turned about, {}, raise, try, isinstance of a kept exception. -/
namespace DL
open PySem PySem.Spec L2
section
variable {X : Cx} {c : Cf}
/-! ### freezing ahead of a statement, an expression -/
def wFzS (i : Nat) (w : WS) : WS := fun k ρ => match ownAt ρ i with
  | some ds => w k (ρ.set i (.val (.list ds)))
  | none => False
theorem ds_fz {s : Stmt} {w : WS} (i : Nat) (hP : i ∉ c.P) (h : DS X c s w) : DS X c s (wFzS i w) := h.imp fun D σ H ⟨G, F, ρ, k, R, h, p⟩ => by
  unfold wFzS at h
  split at h
  · rename_i ds e1
    obtain ⟨a, vs, e2, e3, _, _⟩ := R.own (ownAt_of e1)
    obtain ⟨R2, rp, s2⟩ := R.frz (fun a => R.noW' hP a) (ownAt_of e1) e2 e3
    exact ⟨G, _, _, k, R2, h, p.later s2⟩
  · exact h.elim
/-! ### a, b = e1, e2 -/
def wPar (i j : Nat) (os : List Opd) : WS := fun k ρ => wArgs os ρ (fun ps ρ' => match valsOf ps with
  | some [d, e] => k.nx ((ρ'.set i (.val d)).set j (.val e))
  | _ => False) k.ex
theorem two_of {F : Hp} {vs : List V} {d e : D} (r : RpL F vs [d, e]) : ∃ v w, vs = [v, w] ∧ Rp F v d ∧ Rp F w e := by
  cases r with
  | cons a r =>
    cases r with
    | cons b r => cases r; exact ⟨_, _, rfl, a, b⟩
theorem three_of {F : Hp} {vs : List V} {d e f : D} (r : RpL F vs [d, e, f]) : ∃ v w u, vs = [v, w, u] ∧ Rp F v d ∧ Rp F w e ∧ Rp F u f := by
  cases r with
  | cons a r =>
    obtain ⟨v, w, rfl, r1, r2⟩ := two_of r
    exact ⟨_, _, _, rfl, a, r1, r2⟩
theorem ds_par {s : Stmt} {i j : Nat} {es : List Expr} {os : List Opd} (mk : ∀ ta, PA X es ta → PS X s (tPar i j ta)) (h : DA X c es os) (hi : i ∉ c.P) (hj : j ∉ c.P) : DS X c s (wPar i j os) := (mk _ h).imp fun D σ H ⟨G, F, ρ, k, R, h, p⟩ =>
  ⟨G, F, ρ, _, k.ex, R, h, fun ps vs F1 H1 ρ1 R1 s1 r1 h1 => by
    split at h1
    · rename_i d e q
      obtain ⟨v, w, rfl, rv, rw⟩ := two_of (rpl_of r1 q)
      exact ⟨v, w, rfl, p.nx F1 H1 _ _ ((R1.setVal hi rv).setVal hj rw) s1 h1⟩
    · exact h1.elim, p.px σ⟩
def wPar3 (i j l : Nat) (os : List Opd) : WS := fun k ρ => wArgs os ρ (fun ps ρ' => match valsOf ps with
  | some [d, e, f] => k.nx (((ρ'.set i (.val d)).set j (.val e)).set l (.val f))
  | _ => False) k.ex
theorem ds_par3 {s : Stmt} {i j l : Nat} {es : List Expr} {os : List Opd} (mk : ∀ ta, PA X es ta → PS X s (tPar3 i j l ta)) (h : DA X c es os) (hi : i ∉ c.P) (hj : j ∉ c.P) (hl : l ∉ c.P) : DS X c s (wPar3 i j l os) := (mk _ h).imp fun D σ H ⟨G, F, ρ, k, R, h, p⟩ =>
  ⟨G, F, ρ, _, k.ex, R, h, fun ps vs F1 H1 ρ1 R1 s1 r1 h1 => by
    split at h1
    · rename_i d e f q
      obtain ⟨v, w, u, rfl, rv, rw, ru⟩ := three_of (rpl_of r1 q)
      exact ⟨v, w, u, rfl, p.nx F1 H1 _ _ (((R1.setVal hi rv).setVal hj rw).setVal hl ru) s1 h1⟩
    · exact h1.elim, p.px σ⟩
/-! ### xs[::-1], {} -/
def wRev (a : Opd) : WO := fun ρ Q X => a.ev ρ (fun p ρ1 => match p.now ρ1 with
  | some (.list ds) => Q (DL.own ds.reverse) ρ1
  | _ => False) X
theorem do_rev {e ex : Expr} {oa : Opd} (mk : ∀ te, PE X e te → PE X ex (tRevL X.K te)) (ha : DP X c e oa) : DO X c ex (wRev oa) := (mk _ ha).imp fun σ H Q ⟨G, F, ρ, Qd, Qx, R, h, pd, px⟩ =>
  ⟨G, F, ρ, _, Qx, R, h, fun p x F1 H1 ρ1 R1 s1 r1 h1 => by
    split at h1
    · rename_i ds e1
      obtain ⟨a, vs, rfl, h2, r2⟩ := (R1.now r1 e1).list R1.fh
      exact ⟨a, vs, rfl, SqL.of h2, fun p n => R1.post s1 pd n r2.reverse h1⟩
    · exact h1.elim, px⟩
theorem de_dnew {pos} : DE X c (.Dict [] [] pos) (wC (.dict [])) := pe_dnewK.imp fun σ H Q ⟨G, F, ρ, Qd, Qx, R, h, pd, px⟩ => fun p n => by
  have st := Step.laid (o := .dK []) R.fh n
  exact pd _ _ _ _ ρ (R.go st) st.ff (.dct upd_same .nil) h
/-! ### raise -/
theorem ds_raise0 {e : Expr} {C : Addr} {pos : Pos} (hc : X.calm = true) (tk : Takes X c.W) (hca : c.ca = Value.ref) (mk : PMk X e (fun _ H Q => Q (.ref C) none H)) : DS X c (.Raise (some e) none pos) (fun k ρ => k.ex ⟨C, none⟩ ρ) :=
  (ps_raise hc tk mk).imp fun D σ H ⟨G, F, ρ, k, R, h, p⟩ => p.ex ⟨C, none⟩ _ _ F H σ ρ R (Same.refl _) ⟨by rw [hca], rfl⟩ h
/-! ### try -/
def excOf (x : Exn) : D := match x.pay with
  | none => excD x.cls
  | some z => excPD x.cls z
def wTryC : List (Option Nat × (Nat → Option Bool) × WS) → K3 → PX
  | [], k => k.ex
  | (some i, t, w) :: r, k => fun x ρ => match t x.cls with
    | some true => w { nx := fun ρ' => k.nx (ρ'.set i .no), rt := k.rt, bk := fun ρ' => k.bk (ρ'.set i .no), ct := fun ρ' => k.ct (ρ'.set i .no), ex := noX } (ρ.set i (.val (excOf x)))
    | some false => wTryC r k x ρ
    | none => False
  | (none, t, w) :: r, k => fun x ρ => match t x.cls with
    | some true => w { k with ex := noX } ρ
    | some false => wTryC r k x ρ
    | none => False
def wTry (b : WS) (l : List (Option Nat × (Nat → Option Bool) × WS)) : WS := fun k ρ => b { k with ex := wTryC l k } ρ
inductive DCl (X : Cx) (c : Cf) : List ExceptHandler → List (Option Nat × (Nat → Option Bool) × WS) → Prop
  | nil : DCl X c [] []
  | named {x n : Str} {cv : Value} {i : Nat} {t : Nat → Option Bool} {w : WS} {b₀ : Stmt} {suite : List Stmt} {np pos' : Pos} {hds : List ExceptHandler} {l : List (Option Nat × (Nat → Option Bool) × WS)} (hc : Names X x cv) (ht : ∀ n b, t n = some b → PySem.W.exmOne X.K (.ref n) cv = some b)
      (hi : X.N[i]? = some n) (hln : X.env.kindOf n = some .local) (hP : i ∉ c.P) (hsu : ∀ (a : Addr) (pn : List (Addr × Obj)), DSs (X.suite a pn) c.nox (b₀ :: suite) w) (r : DCl X c hds l) :
      DCl X c (.ExceptHandler (some (.Name x np)) (some n) (b₀ :: suite) pos' :: hds) ((some i, t, w) :: l)
  | plain {x : Str} {cv : Value} {t : Nat → Option Bool} {w : WS} {b₀ : Stmt} {suite : List Stmt} {np pos' : Pos} {hds : List ExceptHandler} {l : List (Option Nat × (Nat → Option Bool) × WS)} (hc : Names X x cv) (ht : ∀ n b, t n = some b → PySem.W.exmOne X.K (.ref n) cv = some b)
      (hsu : ∀ (a : Addr) (pn : List (Addr × Obj)), DSs (X.suite a pn) c.nox (b₀ :: suite) w) (r : DCl X c hds l) :
      DCl X c (.ExceptHandler (some (.Name x np)) none (b₀ :: suite) pos' :: hds) ((none, t, w) :: l)
theorem dcl_of (hca : c.ca = Value.ref) {hds : List ExceptHandler} {l : List (Option Nat × (Nat → Option Bool) × WS)} (h : DCl X c hds l) : ∃ l', Cls' X hds l' ∧ ∀ {G : Ent} {F0 : Hp} {k : K3} {D : Ends}, PostS c G F0 k D →
    ∀ x cls dd F' H' σ' ρ', Rel c.B c.P G F' H' σ' ρ' → Same F0 F' → ExnAt c.ca x cls dd F' → wTryC l k x ρ' → wCl X.K c.W D l' cls dd σ' H' := by
  induction h with
  | nil => exact ⟨[], .nil, fun p x cls dd F' H' σ' ρ' R s e w => p.ex x cls dd F' H' σ' ρ' R s e w⟩
  | @named x n cv i t w b₀ suite np pos' hds l hc ht hi hln hP hsu r ih =>
    obtain ⟨l', h1, h2⟩ := ih
    refine ⟨_, .named hc hi hln hsu h1, fun {G F0 k D} p x cls dd F' H' σ' ρ' R s e w' => ?_⟩
    have w' : (match t x.cls with
      | some true => w { nx := fun ρ' => k.nx (ρ'.set i .no), rt := k.rt, bk := fun ρ' => k.bk (ρ'.set i .no), ct := fun ρ' => k.ct (ρ'.set i .no), ex := noX } (ρ'.set i (.val (excOf x)))
      | some false => wTryC l k x ρ'
      | none => False) := w'
    have ec : cls = .ref x.cls := by rw [e.1, hca]
    subst ec
    cases q : t x.cls with
    | none => rw [q] at w'; exact w'.elim
    | some b =>
      rw [q] at w'
      refine ⟨b, ht _ _ q, fun hb => ?_, fun hb => ?_⟩
      · subst hb
        refine ⟨x.cls, rfl, fun a na => ?_⟩
        have st := Step.laid (o := ExPh x.cls dd a) R.fh na
        have rp : Rp (upd F' a (ExPh x.cls dd a)) (.ref a) (excOf x) := by
          unfold excOf
          have e2 := e.2
          split at e2
          · rename_i e3
            try rw [e3]
            subst e2
            exact .exc upd_same
          · rename_i z e3
            try rw [e3]
            obtain ⟨pp, rfl, e4⟩ := e2
            exact .excP upd_same (st.ff _ _ e4)
        refine ⟨G, _, _, _, (R.go st).setVal hP rp, w', ⟨fun F2 H2 σ2 ρ2 R2 s2 q2 => ?_, fun r v F2 H2 σ2 ρ2 l2 n2 R2 s2 q2 => ?_, fun F2 H2 σ2 ρ2 R2 s2 q2 => ?_, fun F2 H2 σ2 ρ2 R2 s2 q2 => ?_, fun x cls dd F2 H2 σ2 ρ2 R2 s2 e2 q2 => q2.elim⟩⟩
        · exact p.nx F2 H2 _ _ (R2.drop hP) ((s.trans st.ff).trans s2) q2
        · exact p.rt r v F2 H2 σ2 ρ2 l2 n2 R2 ((s.trans st.ff).trans s2) q2
        · exact p.bk F2 H2 _ _ (R2.drop hP) ((s.trans st.ff).trans s2) q2
        · exact p.ct F2 H2 _ _ (R2.drop hP) ((s.trans st.ff).trans s2) q2
      · subst hb
        exact h2 p x _ dd F' H' σ' ρ' R s e w'
  | @plain x cv t w b₀ suite np pos' hds l hc ht hsu r ih =>
    obtain ⟨l', h1, h2⟩ := ih
    refine ⟨_, .plain hc hsu h1, fun {G F0 k D} p x cls dd F' H' σ' ρ' R s e w' => ?_⟩
    have w' : (match t x.cls with
      | some true => w { k with ex := noX } ρ'
      | some false => wTryC l k x ρ'
      | none => False) := w'
    have ec : cls = .ref x.cls := by rw [e.1, hca]
    subst ec
    cases q : t x.cls with
    | none => rw [q] at w'; exact w'.elim
    | some b =>
      rw [q] at w'
      refine ⟨b, ht _ _ q, fun hb => ?_, fun hb => ?_⟩
      · subst hb
        exact ⟨G, _, _, _, R, w', ⟨fun F2 H2 σ2 ρ2 R2 s2 q2 => p.nx F2 H2 _ _ R2 (s.trans s2) q2, fun r v F2 H2 σ2 ρ2 l2 n2 R2 s2 q2 => p.rt r v F2 H2 σ2 ρ2 l2 n2 R2 (s.trans s2) q2, fun F2 H2 σ2 ρ2 R2 s2 q2 => p.bk F2 H2 _ _ R2 (s.trans s2) q2,
          fun F2 H2 σ2 ρ2 R2 s2 q2 => p.ct F2 H2 _ _ R2 (s.trans s2) q2, fun x cls dd F2 H2 σ2 ρ2 R2 s2 e2 q2 => q2.elim⟩⟩
      · subst hb
        exact h2 p x _ dd F' H' σ' ρ' R s e w'
theorem ds_try {body : List Stmt} {h₀ : ExceptHandler} {hds : List ExceptHandler} {b : WS} {l : List (Option Nat × (Nat → Option Bool) × WS)} {pos : Pos} (hs : X.stack = X.env :: X.outer) (hf : X.env.frame = some X.env.locals) (hN : X.N.Nodup) (hx : X.ex = []) (hca : c.ca = Value.ref) (tk : Takes X c.W)
    (hb : ∀ (W : WX) (pn : List (Addr × Obj)) (xe : Value → Shared → Prop), Takes (X.tr pn xe) W → PassesOwn (model X.prog X.w) X.A X.env xe → DSs (X.tr pn xe) { c with W := W } body b)
    (hh : DCl X c (h₀ :: hds) l) : DS X c (.Try body (h₀ :: hds) [] [] pos) (wTry b l) := by
  obtain ⟨l', h1, h2⟩ := dcl_of hca hh
  exact (ps_tryC hs hf hN hx tk (tb := fun W => RS { c with W := W } b) hb h1).imp fun D σ H ⟨G, F, ρ, k, R, h, p⟩ => ⟨G, F, ρ, _, R, h, ⟨p.nx, p.rt, p.bk, p.ct, fun x cls dd F' H' σ' ρ' R' s' e q => h2 p x cls dd F' H' σ' ρ' R' s' e q⟩⟩
/-! ### isinstance of a kept exception -/
structure ExcI (K : PySem.W.Frag) (C : Addr) : Prop where
  hcl : (PySem.W.clsIn K C).isSome = true
  hga : PySem.W.findIn K (.ref C) "__getattribute__" = some (some (.builtin "BaseException.__getattribute__"))
  hgt : PySem.W.findIn K (.ref C) "__getattr__" = some none
  hsub : PySem.W.subIn K (.ref C) (.type "BaseException") = some true
  ha : PySem.W.findIn K (.ref C) "__class__" = some (some (.builtin "object.__class__"))
  hn : PySem.W.specialIn K (.builtin "object.__class__") "__get__" = some (some (.builtin "getset_descriptor.__get__"))
  htk : PySem.W.takesIn K (.builtin "object.__class__") = some true
  hm : PySem.W.mroIn K C (.type "object") = some true
/-- isinstance(e, c), e tracked as ExPh tells -/
def rIsXo (K : PySem.W.Frag) : List V → Hp → VK → Prop := fun xs H Q => ∃ (a C : Addr) (d : Option Addr) (c : V) (u : Value) (b : Bool), xs = [.ref a, c] ∧ ClsV c u ∧ H a = some (ExPh C d a) ∧ (d = none ∨ ∃ p fs, d = some p ∧ H p = some (.xd fs)) ∧ ExcI K C ∧ PySem.W.kitOne K (.ref C) u = some b ∧ Q (.bl b) H
theorem instX {X : Cx} {pins : List (Addr × Obj)} {σ : L2.St} {H : Hp} {s : Shared} (I : Inv X pins σ H s) {a C : Addr} {d : Option Addr} (h : H a = some (ExPh C d a)) (hd : d = none ∨ ∃ p fs, d = some p ∧ H p = some (.xd fs)) : ∃ oe od, PySem.W.InstAt s.heap a oe C od := by
  obtain ⟨⟨oe, vs, e, z, dd⟩, _, _⟩ := (show ObjOk X.prog X.w H s.heap a (ExPh C d a) from I.hok a _ h)
  obtain ⟨oc, odx, oda, osl⟩ := oe
  obtain ⟨h1, h2⟩ := z
  dsimp only at h1 h2 dd
  subst h1 h2 dd
  rcases hd with rfl | ⟨p, fs, rfl, hp⟩
  · exact ⟨_, none, e, rfl, rfl, trivial⟩
  · obtain ⟨mA, hns, hr⟩ := (show ObjOk X.prog X.w H s.heap p (.xd fs) from I.hok p _ hp)
    obtain ⟨od, ho, hl⟩ := lookIn_ns hns
    exact ⟨_, some od, e, rfl, rfl, ho⟩
theorem call_isXo : CallR X (.builtin "isinstance") (rIsXo X.K) := by
  intro pins s σ H xs us Q I r h
  obtain ⟨a, C, d, cc, u, b, rfl, k, ha, hd, T, e, q⟩ := h
  obtain ⟨u1, u2, rfl, r1, r2⟩ := vals2 r
  have e2 := k.eq r2
  subst e2
  cases (show u1 = Value.ref a from r1)
  obtain ⟨oe, od, J⟩ := instX I ha hd
  exact PySem.W.kia_one (PySem.W.kitx_exc T.hcl T.hga T.hgt T.hsub T.ha T.hn T.htk T.hm) I.kIn J e (fun z => nomatch z) fun tk => ⟨.bl b, H, I.tok tk, rfl, q⟩
def rIsXoT (K : PySem.W.Frag) : List V → Hp → VK → Prop := fun xs H Q => ∃ (a C : Addr) (d : Option Addr) (tp : Addr) (cs : List V) (us : List Value) (b : Bool), xs = [.ref a, .ref tp] ∧ H tp = some (.tup cs) ∧ Paired ClsV cs us ∧ H a = some (ExPh C d a) ∧ (d = none ∨ ∃ p fs, d = some p ∧ H p = some (.xd fs)) ∧ ExcI K C ∧ PySem.W.kitAny K (.ref C) us = some b ∧ Q (.bl b) H
theorem call_isXoT : CallR X (.builtin "isinstance") (rIsXoT X.K) := by
  intro pins s σ H xs us Q I r h
  obtain ⟨a, C, d, tp, cs, ws, b, rfl, hT, k, ha, hd, T, e, q⟩ := h
  obtain ⟨u1, u2, rfl, r1, r2⟩ := vals2 r
  cases (show u2 = Value.ref tp from r2)
  cases (show u1 = Value.ref a from r1)
  obtain ⟨oe, od, J⟩ := instX I ha hd
  obtain ⟨_, its, rv, o, h1, h2, n, h3⟩ := (show ObjOk X.prog X.w H s.heap tp (.tup cs) from I.hok tp _ hT)
  have e3 := ClsV.all k rv
  subst e3
  obtain ⟨oc, od, dt, sl⟩ := o
  simp only at h2 h3
  subst h2 h3
  exact PySem.W.kia_tup (PySem.W.kitx_exc T.hcl T.hga T.hgt T.hsub T.ha T.hn T.htk T.hm) I.kIn J h1 e (fun z => nomatch z) fun tk => ⟨.bl b, H, I.tok tk, rfl, q⟩
/-- the class of a kept exception -/
def excCls : D → Option Nat
  | .dict [(.none, .none), (.none, .int C)] => some C.toNat
  | .dict [(.none, .none), (.none, .int C), (.none, _)] => some C.toNat
  | _ => none
theorem Rp.excInv {F : Hp} {v : V} {d : D} {C : Nat} (r : Rp F v d) (h : excCls d = some C) : ∃ a dd, v = .ref a ∧ F a = some (ExPh C dd a) ∧ (dd = none ∨ ∃ p fs, dd = some p ∧ F p = some (.xd fs)) := by
  cases r with
  | non => cases h
  | bl => cases h
  | int => cases h
  | str => cases h
  | lst => cases h
  | tup => cases h
  | dct h1 r1 =>
    exfalso
    cases r1 with
    | nil => cases h
    | @cons k v vs d ds r2 r3 =>
      cases k <;> simp [excCls, kD] at h
  | ref a => cases h
  | @exc a C' h1 =>
    have e : (Int.toNat (C' : Nat)) = C := Option.some.inj h
    simp at e
    subst e
    exact ⟨a, none, rfl, h1, .inl rfl⟩
  | @excP a C' p z h1 h2 =>
    have e : (Int.toNat (C' : Nat)) = C := Option.some.inj h
    simp at e
    subst e
    exact ⟨a, some p, rfl, h1, .inr ⟨p, _, rfl, h2⟩⟩
def wIsX (t : Nat → Option Bool) (w : WE) : WE := fun ρ Q X => w ρ (fun d ρ1 => match excCls d with
  | some C => match t C with
    | some b => Q (.bool b) ρ1
    | none => False
  | none => False) X
theorem de_isX {a b e : Expr} {w : WE} {cv : V} {u : Value} {t : Nat → Option Bool} (ht : ∀ n b, t n = some b → ExcI X.K n ∧ PySem.W.kitOne X.K (.ref n) u = some b) (hk : ClsV cv u) (mk : ∀ ta tb, PE X a ta → PE X b tb → PE X e (tCB (rIsXo X.K) (tCons ta (tCons tb tNil))))
    (ha : DE X c a w) (hb : PE X b (tC cv)) : DE X c e (wIsX t w) :=
  (mk _ _ ha hb).imp fun σ H Q ⟨G, F, ρ, Qd, Qx, R, h, pd, px⟩ => ⟨G, F, ρ, _, Qx, R, h, fun d v F1 H1 ρ1 R1 s1 r1 h1 => by
    try dsimp only at h1
    split at h1
    · rename_i C e1
      split at h1
      · rename_i b e2
        obtain ⟨h3, h4⟩ := ht _ _ e2
        obtain ⟨a, dd, rfl, e3, e4⟩ := r1.excInv e1
        refine ⟨a, C, dd, cv, u, b, rfl, hk, R1.fh _ _ e3, ?_, h3, h4, pd _ _ F1 H1 ρ1 R1 s1 (.bl _) h1⟩
        rcases e4 with e4 | ⟨p, fs, e4, e5⟩
        · exact .inl e4
        · exact .inr ⟨p, fs, e4, R1.fh _ _ e5⟩
      · exact h1.elim
    · exact h1.elim, px⟩
end
end DL
set_option maxHeartbeats 4000000
/-! DL9: defs with defaults, isinstance with a tuple of own classes, small things for the printed derivations. -/
namespace DL
open PySem PySem.Spec L2
theorem body_ok {B : Kinds} {ca : Nat → Value} {P0 : List Nat} {sd : SpD} {np : Nat} {w : WS} {P : Program} {wd : World} {K : PySem.W.Frag} {mg : Str → Option Value} {base : Heap} {qual : Str} {scope : Scope} {body : List Stmt} {f : Addr} {N : List Str} {k : Nat}
    (hbody : ∀ (cdv : Value) (A : Around) (outer : List Env) (s : Shared) (H : Hp) (E : XK), Room k (A.deeper (PyProof.Rows.envOfC qual scope s.heap.objs.size f cdv)) →
      DSs (cxOf (L2.CX P wd) P wd K mg base N qual scope f cdv A outer s H E) ⟨B, P0, ca, fun cls d _ H => E cls d H⟩ body w)
    (hw : ∀ cs Qr Qx, cs.length = np → sd cs Qr Qx → w (kOf P0 np Qr Qx) (initC N cs)) (cdv : Value) (A : Around) (outer : List Env) (s : Shared) (H : Hp) (vs : List V) (Q : VK) (E : XK) (hr : Room k (A.deeper (PyProof.Rows.envOfC qual scope s.heap.objs.size f cdv)))
    (h : toSp B ca P0 np sd vs H Q E) : ∃ t, PSs (cxOf (L2.CX P wd) P wd K mg base N qual scope f cdv A outer s H E) body t ∧ t { nx := fun _ H' => Q .non H', rt := Q } (L2.start N vs) H := by
  refine ⟨_, hbody cdv A outer s H E hr, ?_⟩
  obtain ⟨hl, G, cs, Qr, Qx, rfl, hn, R, hp, hsd, h1, h2⟩ := h
  have lc : cs.length = np := by rw [← R.len, List.length_map]; exact hl
  have R0 := R.grow (N.length - vs.length)
  have e0 : List.map some vs ++ List.replicate (N.length - vs.length) none = L2.start N vs := rfl
  have e1 : cs ++ List.replicate (N.length - vs.length) C.no = initC N cs := by unfold initC; rw [lc, ← hl]
  rw [e0, e1] at R0
  have hv : vs.length ≤ (L2.start N vs).length := by unfold L2.start; rw [List.length_append, List.length_map]; exact Nat.le_add_right _ _
  have keep : ∀ {σ' : L2.St} {ρ' : Env'} {F' H'}, Rel B P0 G F' H' σ' ρ' → vs.length ≤ σ'.length := fun R' => by rw [hl, ← hn]; exact R'.nl
  refine ⟨G, G.F, initC N cs, kOf P0 np Qr Qx, R0, hw cs Qr Qx lc hsd, ⟨fun F' H' σ' ρ' R' _ q => ?_, fun r v F' H' σ' ρ' l nl R' _ q => ?_, fun _ _ _ _ _ _ q => q.elim, fun _ _ _ _ _ _ q => q.elim, fun x cls dd F' H' σ' ρ' R' _ e q => ?_⟩⟩
  · have R2 := (R'.pushVal (v := .non) (d := .none) .non).args R'.len (by rw [hn, hl]) (keep R') hp
    rw [hl] at R2
    exact h1 _ .non F' H' _ (outC_length _ _ _) R2 q
  · have R2 := R'.args l (by rw [hn, hl]) (by rw [hl, ← hn]; exact nl) hp
    rw [hl] at R2
    exact h1 r v F' H' _ (outC_length _ _ _) R2 q
  · have R2 := ((R'.pushVal (v := .non) (d := .none) .non).args R'.len (by rw [hn, hl]) (keep R') hp)
    rw [hl] at R2
    refine h2 x cls dd F' H' _ (outC_length _ _ _) (R2.unpend (by rw [outC_length, List.length_map, hl]) (by rw [List.length_map, hn, hl]; exact Nat.le_refl _) (fun i v e => ?_)) e q
    obtain ⟨w', e1, _⟩ := hp i (R'.pinP i v e)
    rw [List.length_map]
    exact (List.getElem?_eq_some_iff.mp e1).1
/-- a def with defaults -/
theorem fun_okD {B : Kinds} {ca : Nat → Value} {P0 : List Nat} {sd : SpD} {np : Nat} {w : WS} {P : Program} {wd : World} {K : PySem.W.Frag} {mg : Str → Option Value} {base : Heap} {x qual : Str} {params : Arguments} {body : List Stmt} {scope : Scope} {dvs : List V} {kws : List (Str × V)} {f : Addr} {fd : FuncData} {N ps : List Str} {k : Nat}
    (F : FunD K x qual params body scope dvs kws f fd) (S : FnScope N ps scope) (hps : ps.length = np)
    (hbody : ∀ (cdv : Value) (A : Around) (outer : List Env) (s : Shared) (H : Hp) (E : XK), Room k (A.deeper (PyProof.Rows.envOfC qual scope s.heap.objs.size f cdv)) →
      DSs (cxOf (L2.CX P wd) P wd K mg base N qual scope f cdv A outer s H E) ⟨B, P0, ca, fun cls d _ H => E cls d H⟩ body w)
    (hw : ∀ cs Qr Qx, cs.length = np → sd cs Qr Qx → w (kOf P0 np Qr Qx) (initC N cs)) : FnOk P wd K mg base (L2.CX P wd) (k + 1) f fd ps (toSp B ca P0 np sd) :=
  F.ok S (fun vs H Q E h => h.1.trans hps.symm) (fun cdv A outer s H vs Q E hr h => body_ok hbody hw cdv A outer s H vs Q E hr h)
theorem hu64 {k : Nat} {A : Around} (r : Room k A) : A.units + 64 < cLine := by have := r.un; omega
theorem hu65 {k : Nat} {A : Around} (r : Room k A) : A.units + 65 < cLine := by have := r.un; omega
section
variable {X : Cx} {c : Cf}
/-! ### a < b < c as a test -/
theorem dt_chain {a b d e : Expr} {r r' : R2} {g g' : D → D → (D → Prop) → Prop} {oa ob od : Opd} (sn : Snd2 r g) (sn' : Snd2 r' g')
    (mk : ∀ ta tb td, PE X a ta → PE X b tb → PE X d td → PT X e (tTest (tChain r r' ta tb td))) (ha : DP X c a oa) (hb : DP X c b ob) (hd : DP X c d od) : DT X c e (wTv (wChain g g' oa ob od)) :=
  (mk _ _ _ ha hb hd).imp fun σ H Q ⟨G, F, ρ, Qd, Qx, R, h, pd, px⟩ => by
    obtain ⟨G, F, ρ, Qd, Qx, R, h, pd, px⟩ := tb_of (c := c) R h pd px
    exact ⟨G, F, ρ, _, Qx, R, h, fun p x F1 H1 ρ1 R1 s1 r1 h1 => ⟨G, F1, ρ1, _, Qx, R1, h1, fun q y F2 H2 ρ2 R2 s2 r2 h2 => by
      split at h2
      · rename_i d1 e1 q1 q2
        refine sn F2 H2 x y d1 e1 _ _ R2.fh (R2.now (r1.mono s2) q1) (R2.now r2 q2) h2 fun z v F3 H3 st rz kz => ?_
        split at kz
        · rename_i k
          cases rz
          refine ⟨k, rfl, ?_⟩
          have R3 := R2.go st
          cases k with
          | false => exact pd _ _ F3 H3 ρ2 R3 ((s1.trans s2).trans st.ff) (.bl false) kz
          | true =>
            refine ⟨G, F3, ρ2, _, Qx, R3, kz, fun w u F4 H4 ρ4 R4 s4 r4 h4 => ?_, px.later ((s1.trans s2).trans st.ff)⟩
            split at h4
            · rename_i d2 e2 q3 q4
              exact sn' F4 H4 y u d2 e2 _ _ R4.fh (R4.now (r2.mono (st.ff.trans s4)) q3) (R4.now r4 q4) h4 fun z v F5 H5 st5 rz5 kz5 => pd z v F5 H5 ρ4 (R4.go st5) ((((s1.trans s2).trans st.ff).trans s4).trans st5.ff) rz5 kz5
            · exact h4.elim
        · exact kz.elim
      · exact h2.elim, px.later s1⟩, px⟩
/-! ### constants only -/
def tVs (vs : List V) : TA := fun _ H Q => Q vs H
theorem vs_nil : PA X [] (tVs []) := pa_nil
theorem vs_cons {e : Expr} {es : List Expr} {v : V} {vs : List V} (h : PE X e (tC v)) (hr : PA X es (tVs vs)) (hs : starEach (e :: es) X.env = (false, eval e X.env) :: starEach es X.env := by rfl) : PA X (e :: es) (tVs (v :: vs)) := pa_cons h hr hs
/-- isinstance(x, (A, B, ..)), x a kept exception -/
theorem de_isXT {a e : Expr} {bs : List Expr} {w : WE} {cvs : List V} {us : List Value} {t : Nat → Option Bool} (ht : ∀ n b, t n = some b → ExcI X.K n ∧ PySem.W.kitAny X.K (.ref n) us = some b) (hk : Paired ClsV cvs us) (hl : cvs.length ≤ sizeLine)
    (mk : ∀ ta tb, PE X a ta → PA X bs tb → PE X e (tCB (rIsXoT X.K) (tCons ta (tCons (tTup tb) tNil)))) (ha : DE X c a w) (hb : PA X bs (tVs cvs)) : DE X c e (wIsX t w) :=
  (mk _ _ ha hb).imp fun σ H Q ⟨G, F, ρ, Qd, Qx, R, h, pd, px⟩ => ⟨G, F, ρ, _, Qx, R, h, fun d v F1 H1 ρ1 R1 s1 r1 h1 => by
    try dsimp only at h1
    split at h1
    · rename_i C e1
      split at h1
      · rename_i b e2
        obtain ⟨h3, h4⟩ := ht _ _ e2
        obtain ⟨a, dd, rfl, e3, e4⟩ := r1.excInv e1
        refine ⟨hl, fun p n => ?_⟩
        have st := Step.laid (o := .tup cvs) R1.fh n
        have R2 := R1.go st
        refine ⟨a, C, dd, p, cvs, us, b, rfl, upd_same, hk, R2.fh _ _ (st.ff _ _ e3), ?_, h3, h4, pd _ _ _ _ ρ1 R2 (s1.trans st.ff) (.bl _) h1⟩
        rcases e4 with e4 | ⟨p, fs, e4, e5⟩
        · exact .inl e4
        · exact .inr ⟨p, fs, e4, R2.fh _ _ (st.ff _ _ e5)⟩
      · exact h1.elim
    · exact h1.elim, px⟩
end
theorem bt_abs : bootBuiltins "abs" = some (.builtin "abs") := by decide +kernel
theorem bt_max : bootBuiltins "max" = some (.builtin "max") := by decide +kernel
theorem bt_min : bootBuiltins "min" = some (.builtin "min") := by decide +kernel
theorem bt_all : bootBuiltins "all" = some (.builtin "all") := by decide +kernel
theorem bt_any : bootBuiltins "any" = some (.builtin "any") := by decide +kernel
theorem bt_sum : bootBuiltins "sum" = some (.builtin "sum") := by decide +kernel
theorem bt_sorted : bootBuiltins "sorted" = some (.builtin "sorted") := by decide +kernel
theorem bt_isinstance : bootBuiltins "isinstance" = some (.builtin "isinstance") := by decide +kernel
theorem bt_repr : bootBuiltins "repr" = some (.builtin "repr") := by decide +kernel
theorem bt_len : bootBuiltins "len" = some (.builtin "len") := by decide +kernel
theorem bt_ValueError : bootBuiltins "ValueError" = some (.type "ValueError") := by decide +kernel
theorem bt_int : bootBuiltins "int" = some (.type "int") := by decide +kernel
theorem bt_str : bootBuiltins "str" = some (.type "str") := by decide +kernel
theorem bt_list : bootBuiltins "list" = some (.type "list") := by decide +kernel
theorem bt_tuple : bootBuiltins "tuple" = some (.type "tuple") := by decide +kernel
theorem bt_bool : bootBuiltins "bool" = some (.type "bool") := by decide +kernel
theorem bt_dict : bootBuiltins "dict" = some (.type "dict") := by decide +kernel
end DL
namespace DL
open PySem PySem.Spec L2
/-! ### calls of defs, by name -/
def wFnV (sd : SpD) (P : List Nat) (np : Nat) (ds : List D) (os : List Opd) : WE := fun ρ Q X => wArgs os ρ (fun ps ρ1 => ps.length + ds.length = np ∧ (slotsOf ps).Nodup ∧ idxs ps 0 = P ∧ sd (ps.map (contOf ρ1) ++ ds.map C.val) (fun r cs => match r with
  | .val d => Q d (upds ρ1 ps cs)
  | _ => False) (fun x cs => X x (upds ρ1 ps cs))) X
def wFnT (sd : SpD) (P : List Nat) (np : Nat) (ds : List D) (os : List Opd) : WO := fun ρ Q X => wArgs os ρ (fun ps ρ1 => ps.length + ds.length = np ∧ (slotsOf ps).Nodup ∧ idxs ps 0 = P ∧ sd (ps.map (contOf ρ1) ++ ds.map C.val) (fun r cs => match r with
  | .own t => Q t (upds ρ1 ps cs)
  | _ => False) (fun x cs => X x (upds ρ1 ps cs))) X
/-- a def of values that gives a value: g tells -/
def pureSd (np : Nat) (g : List D → (D → Prop) → Prop) : SpD := fun cs Qr _ => ∃ ds, cs = ds.map C.val ∧ g ds fun r => Qr (.val r) (List.replicate np .no)
/-- .. that may raise -/
def pureSdX (np : Nat) (g : List D → (D → Prop) → (Exn → Prop) → Prop) : SpD := fun cs Qr Qx => ∃ ds, cs = ds.map C.val ∧ g ds (fun r => Qr (.val r) (List.replicate np .no)) fun x => Qx x (List.replicate np .no)
def wPV (np : Nat) (g : List D → (D → Prop) → Prop) (ds : List D) (os : List Opd) : WE := fun ρ Q X => wArgs os ρ (fun ps ρ1 => match valsOf ps with
  | some xs => xs.length + ds.length = np ∧ g (xs ++ ds) fun r => Q r ρ1
  | none => False) X
def wPX (np : Nat) (g : List D → (D → Prop) → (Exn → Prop) → Prop) (ds : List D) (os : List Opd) : WE := fun ρ Q X => wArgs os ρ (fun ps ρ1 => match valsOf ps with
  | some xs => xs.length + ds.length = np ∧ g (xs ++ ds) (fun r => Q r ρ1) fun x => X x ρ1
  | none => False) X
theorem vals_pends : ∀ {ps : List Pend} {xs : List D}, valsOf ps = some xs → ps = xs.map Pend.v
  | [], _, h => by cases h; rfl
  | .v d :: ps, xs, h => by
    have h : (valsOf ps).map (d :: ·) = some xs := h
    cases q : valsOf ps with
    | none => rw [q] at h; cases h
    | some es =>
      rw [q] at h
      cases h
      rw [vals_pends q]
      rfl
  | .slot _ :: ps, xs, h => nomatch h
theorem slots_v : ∀ xs : List D, slotsOf (xs.map Pend.v) = []
  | [] => rfl
  | _ :: xs => slots_v xs
theorem idxs_v : ∀ (xs : List D) (k : Nat), idxs (xs.map Pend.v) k = []
  | [], _ => rfl
  | _ :: xs, k => idxs_v xs (k + 1)
theorem cont_v (ρ : Env') : ∀ xs : List D, (xs.map Pend.v).map (contOf ρ) = xs.map C.val
  | [] => rfl
  | _ :: xs => by
    rw [List.map_cons, List.map_cons, List.map_cons, cont_v ρ xs]
    rfl
theorem upds_v (ρ : Env') : ∀ (xs : List D) (cs : List C), upds ρ (xs.map Pend.v) cs = ρ
  | [], _ => by cases ‹List C› <;> rfl
  | _ :: xs, [] => rfl
  | _ :: xs, _ :: cs => upds_v ρ xs cs
theorem wArgs_mono : ∀ {os : List Opd} {ρ : Env'} {Q Q' : List Pend → Env' → Prop} {X : PX}, (∀ o ∈ os, ∀ ρ (R R' : Pend → Env' → Prop), (∀ p ρ', R p ρ' → R' p ρ') → o.ev ρ R X → o.ev ρ R' X) → (∀ ps ρ', Q ps ρ' → Q' ps ρ') → wArgs os ρ Q X → wArgs os ρ Q' X
  | [], ρ, Q, Q', X, _, h, q => h _ _ q
  | o :: os, ρ, Q, Q', X, m, h, q => m o List.mem_cons_self _ _ _ (fun p ρ' q' => wArgs_mono (fun o ho => m o (List.mem_cons_of_mem _ ho)) (fun ps ρ'' z => h _ _ z) q') q
section
variable {X : Cx} {c : Cf}
theorem de_fnV {e : Expr} {es : List Expr} {os : List Opd} {P : List Nat} {np : Nat} {sd : SpD} {us : List V} {ds : List D} (hd : ∀ F, RpL F us ds) (hn : es.length + ds.length = np)
    (mk : ∀ t, PA X es t → PE X e (tCallSD (toSp c.B c.ca P np sd) us (fun σ cls d H' => c.W cls d σ H') t)) (ha : DA X c es os) : DE X c e (wFnV sd P np ds os) := de_fn hd hn mk ha
theorem do_fnT {e : Expr} {es : List Expr} {os : List Opd} {P : List Nat} {np : Nat} {sd : SpD} {us : List V} {ds : List D} (hd : ∀ F, RpL F us ds) (hn : es.length + ds.length = np)
    (mk : ∀ t, PA X es t → PE X e (tCallSD (toSp c.B c.ca P np sd) us (fun σ cls d H' => c.W cls d σ H') t)) (ha : DA X c es os) : DO X c e (wFnT sd P np ds os) := do_fn hd hn mk ha
theorem pure_run {sd : SpD} {G : Ent} {F F1 H1 : Hp} {σ : L2.St} {ρ1 : Env'} {ps : List Pend} {vs us : List V} {ds xs : List D} {np : Nat} {Qd : D → Env' → Prop} {Qx : PX} {Q : VK} (R1 : Rel c.B c.P G F1 H1 σ ρ1) (s1 : Same F F1) (ok : PendsOk F1 σ ps vs) (hd : ∀ F, RpL F us ds)
    (e : valsOf ps = some xs) (hn : xs.length + ds.length = np) (pd : PostD c G σ F Qd Q) (px : PostX c G σ F Qx)
    (h : sd (xs.map C.val ++ ds.map C.val) (fun r _ => match r with
      | .val d => Qd d ρ1
      | _ => False) (fun x _ => Qx x ρ1)) : toSp c.B c.ca [] np sd (vs ++ us) H1 Q (fun cls d H' => c.W cls d σ H') := by
  have ep := vals_pends e
  subst ep
  refine fn_run (Qr := fun r ρ' => match r with
      | .val d => Qd d ρ'
      | _ => False) R1 s1 ok hd (by rw [List.length_map]; exact hn) (by rw [slots_v]; exact List.nodup_nil) (idxs_v _ _) ?_ (fun r v F' H' cs lc R' s' q => ?_) px
  · rw [cont_v]
    have e2 : ∀ cs, upds ρ1 (xs.map Pend.v) cs = ρ1 := upds_v ρ1 xs
    simp only [e2]
    exact h
  · cases r with
    | val d =>
      rw [upds_v] at R' q
      exact pd d v F' H' _ (R'.unpend R1.len R1.nl R1.pinL) s' (R'.lastVal R1.len) q
    | no => exact q.elim
    | own t => exact q.elim
theorem de_pv {e : Expr} {es : List Expr} {os : List Opd} {np : Nat} {g : List D → (D → Prop) → Prop} {us : List V} {ds : List D} (hd : ∀ F, RpL F us ds)
    (mk : ∀ t, PA X es t → PE X e (tCallSD (toSp c.B c.ca [] np (pureSd np g)) us (fun σ cls d H' => c.W cls d σ H') t)) (ha : DA X c es os) : DE X c e (wPV np g ds os) :=
  (mk _ ha).imp fun σ H Q ⟨G, F, ρ, Qd, Qx, R, h, pd, px⟩ => ⟨G, F, ρ, _, Qx, R, h, fun ps vs F1 H1 ρ1 R1 s1 r1 h1 => by
    split at h1
    · rename_i xs e1
      exact pure_run R1 s1 r1 hd e1 h1.1 pd px ⟨xs ++ ds, by rw [List.map_append], h1.2⟩
    · exact h1.elim, px⟩
theorem de_px {e : Expr} {es : List Expr} {os : List Opd} {np : Nat} {g : List D → (D → Prop) → (Exn → Prop) → Prop} {us : List V} {ds : List D} (hd : ∀ F, RpL F us ds)
    (mk : ∀ t, PA X es t → PE X e (tCallSD (toSp c.B c.ca [] np (pureSdX np g)) us (fun σ cls d H' => c.W cls d σ H') t)) (ha : DA X c es os) : DE X c e (wPX np g ds os) :=
  (mk _ ha).imp fun σ H Q ⟨G, F, ρ, Qd, Qx, R, h, pd, px⟩ => ⟨G, F, ρ, _, Qx, R, h, fun ps vs F1 H1 ρ1 R1 s1 r1 h1 => by
    split at h1
    · rename_i xs e1
      exact pure_run R1 s1 r1 hd e1 h1.1 pd px ⟨xs ++ ds, by rw [List.map_append], h1.2⟩
    · exact h1.elim, px⟩
/-- a global that bears a plain value -/
theorem de_glob {x : Str} {v : V} {d : D} {pos : Pos} (h : ∃ u, X.mg x = some u ∧ RelV v u) (r : ∀ F, Rp F v d) (hg : Gl X x := by rfl) (hd : (x == ("__debug__" : Str)) = false := by decide) : DE X c (.Name x pos) (wC d) := by
  obtain ⟨u, h1, h2⟩ := h
  exact de_c (pe_glob hg h1 h2 hd) r
end
end DL
set_option maxHeartbeats 4000000
/-! DL10: defs by name, the script, tables of classes. -/
namespace DL
open PySem PySem.Spec L2
/-- a def as the top has made it, by its name -/
def DefAt (K : PySem.W.Frag) (mg : Str → Option Value) (x : Str) (st : Stmt) (dvs : List V) : Prop := ∃ f fd, FunD K x x (defArgs st) (defBody st) (defScope st) dvs [] f fd ∧ mg x = some (.ref f)
/-- a def that keeps its promise and may be called, the last arguments left out being dvs -/
def CalD (P : Program) (w : World) (K : PySem.W.Frag) (mg : Str → Option Value) (base : Heap) (k : Nat) (x : Str) (sp : Sp) (dvs : List V) : Prop :=
  ∃ f fd ps ds, FnOk P w K mg base (L2.CX P w) k f fd ps sp ∧ mg x = some (.ref f) ∧ PySem.W.keepIn K (.ref f) = true ∧ Binds K fd ps ds ∧ Vals dvs ds
section
variable {X : Cx} {c : Cf} {k : Nat} {x : Str} {sp : Sp} {dvs : List V} {E : L2.St → XK} {t : TA} {p pos : Pos} {e : Expr} {es : List Expr}
theorem pe_calD (C : CalD X.prog X.w X.K X.mg X.base k x sp dvs) (hr : Room k X.A) (hx : ∀ σ, PassesAt (L2.CX X.prog X.w) X σ (E σ)) (ha : PA X (e :: es) t) (hg : Gl X x := by rfl) (hdb : (x == ("__debug__" : Str)) = false := by decide)
    (he : starEach (e :: es) X.env = (false, eval e X.env) :: starEach es X.env := by rfl) (hpl : (backTo pos (starEach es X.env)).any (·.1) = false := by rfl) : PE X (.Call (.Name x p) (e :: es) [] pos) (tCallSD sp dvs E t) := by
  obtain ⟨f, fd, ps, ds, F, hm, hk, hb, hd⟩ := C
  exact pe_callSD F hr hg hm hk hb hd hx ha hdb he hpl
end
section
variable {P : Program} {wd : World} {K : PySem.W.Frag} {mg : Str → Option Value} {base : Heap} {x : Str} {st : Stmt} {N ps : List Str} {k np : Nat} {B : Kinds} {ca : Nat → Value} {P0 : List Nat} {sd : SpD} {w : WS} {dvs : List V}
theorem cal_mk (D : DefAt K mg x st []) (S : FnScope N ps (defScope st)) (hps : ps.length = np)
    (hb : ∀ (kV doc pm : Value) (an : Option Addr) (cdv ct : Value) (us : List Value), us.length = ps.length → bindArgs (PySem.W.fnOf x x (defArgs st) (defBody st) (defScope st) .none kV doc pm an cdv ct) ⟨us, []⟩ = pure (ps.zip us))
    (hbody : ∀ (f : Addr) (cdv : Value) (A : Around) (outer : List Env) (s : Shared) (H : Hp) (E : XK), Room k (A.deeper (PyProof.Rows.envOfC x (defScope st) s.heap.objs.size f cdv)) →
      DSs (cxOf (L2.CX P wd) P wd K mg base N x (defScope st) f cdv A outer s H E) ⟨B, P0, ca, fun cls d _ H => E cls d H⟩ (defBody st) w)
    (hw : ∀ cs Qr Qx, cs.length = np → sd cs Qr Qx → w (kOf P0 np Qr Qx) (initC N cs)) : CalD P wd K mg base (k + 1) x (toSp B ca P0 np sd) [] := by
  obtain ⟨f, fd, F, hm⟩ := D
  exact ⟨f, fd, ps, [], fun_okD F S hps (hbody f) hw, hm, F.kp, F.bindsN hb, .nil⟩
/-- .. with defaults that are left out -/
theorem cal_mkD (D : DefAt K mg x st dvs) (S : FnScope N ps (defScope st)) (hps : ps.length = np) (n j : Nat) (hd : dvs ≠ []) (hn : n + (dvs.length - j) = ps.length)
    (hb : ∀ (T : Addr) (kV doc pm : Value) (an : Option Addr) (cdv ct : Value) (us its : List Value), us.length = n → its.length = dvs.length →
      ∃ k, bindArgs (PySem.W.fnOf x x (defArgs st) (defBody st) (defScope st) (.ref T) kV doc pm an cdv ct) ⟨us, []⟩ = seqItems? (.ref T) >>= k ∧ k (some its.toArray) = pure (ps.zip (us ++ its.drop j)))
    (hbody : ∀ (f : Addr) (cdv : Value) (A : Around) (outer : List Env) (s : Shared) (H : Hp) (E : XK), Room k (A.deeper (PyProof.Rows.envOfC x (defScope st) s.heap.objs.size f cdv)) →
      DSs (cxOf (L2.CX P wd) P wd K mg base N x (defScope st) f cdv A outer s H E) ⟨B, P0, ca, fun cls d _ H => E cls d H⟩ (defBody st) w)
    (hw : ∀ cs Qr Qx, cs.length = np → sd cs Qr Qx → w (kOf P0 np Qr Qx) (initC N cs)) : CalD P wd K mg base (k + 1) x (toSp B ca P0 np sd) (dvs.drop j) := by
  obtain ⟨f, fd, F, hm⟩ := D
  obtain ⟨ds, hv, hbn⟩ := F.binds1 n j hd hn hb
  exact ⟨f, fd, ps, ds, fun_okD F S hps (hbody f) hw, hm, F.kp, hbn, hv⟩
end
/-! ### the script: a list of ints that nobody changes -/
def ScOk (K : PySem.W.Frag) (s : D) (v : V) (F H : Hp) (S : Fp) : Prop := ∃ a ds vs, s = .list ds ∧ v = .ref a ∧ RpL (fun _ => none) vs ds ∧ ((Rd H a (.lst vs) ∧ S a ∧ (∀ b, S b → b = a) ∧ F a = none) ∨ ((∀ H, SqL K H a vs) ∧ ∀ b, ¬ S b))
theorem rd_some {H : Hp} {a : Addr} {u : HO} (h : Rd H a u) : H a ≠ none := by
  rcases h with q | ⟨o, q⟩ <;> (rw [q]; exact fun e => nomatch e)
def BS (K : PySem.W.Frag) : Kinds where
  ok := fun k s v F H S => k = 0 ∧ ScOk K s v F H S
  frame := fun {k s v F H S F' H'} h kp sF fr => by
    obtain ⟨h0, a, ds, vs, rfl, rfl, r, h⟩ := h
    refine ⟨h0, a, ds, vs, rfl, rfl, r, ?_⟩
    rcases h with ⟨hs, ha, hb, hf⟩ | h
    · refine .inl ⟨?_, ha, hb, fr a ha⟩
      have e := kp a ha
      rcases hs with q | ⟨o, q⟩
      · exact .inl (e.trans q)
      · exact .inr ⟨o, e.trans q⟩
    · exact .inr h
  apart := fun {k s v F H S} h a ha => by
    obtain ⟨_, a', _, _, _, _, _, h⟩ := h
    rcases h with ⟨hs, _, hb, hf⟩ | ⟨_, h⟩
    · have e := hb a ha
      subst e
      exact ⟨hf, rd_some hs⟩
    · exact (h a ha).elim
theorem ScOk.seq {K : PySem.W.Frag} {s : D} {v : V} {F H : Hp} {S : Fp} (h : ScOk K s v F H S) : ∃ a ds vs, s = .list ds ∧ v = .ref a ∧ SqL K H a vs ∧ RpL (fun _ => none) vs ds := by
  obtain ⟨a, ds, vs, h1, h2, h3, h⟩ := h
  refine ⟨a, ds, vs, h1, h2, ?_, h3⟩
  rcases h with ⟨hs, _⟩ | ⟨h, _⟩
  · exact .inl hs
  · exact h H
/-- what the script in slot i holds -/
def scAt (ρ : Env') (i : Nat) : Option (List D) := match ρ[i]? with
  | some (.own (.obj 0 (.list ds))) => some ds
  | _ => none
theorem scAt_of {ρ : Env'} {i : Nat} {ds : List D} (h : scAt ρ i = some ds) : ρ[i]? = some (.own (.obj 0 (.list ds))) := by
  unfold scAt at h
  split at h
  · rename_i e
    rw [e]
    cases h
    rfl
  · cases h
theorem Rel.sc {B : Kinds} {K : PySem.W.Frag} (hB : ∀ s v F H S, B.ok 0 s v F H S → ScOk K s v F H S) {P : List Nat} {G : Ent} {F H : Hp} {σ : L2.St} {ρ : Env'} (R : Rel B P G F H σ ρ) {i : Nat} {ds : List D} (h : scAt ρ i = some ds) : ∃ a vs, σ[i]? = some (some (.ref a)) ∧ SqL K H a vs ∧ RpL (fun _ => none) vs ds := by
  obtain ⟨Ss, E, h1, _⟩ := R.ss
  have e := scAt_of h
  obtain ⟨v, ev⟩ := R.tree e
  have q := h1 i _ _ e ev
  have q : Own B F H (.obj 0 (.list ds)) v (Ss i) := q
  cases q with
  | obj q =>
    obtain ⟨a, ds', vs, e1, rfl, e3, e4⟩ := (hB _ _ _ _ _ q).seq
    cases e1
    exact ⟨a, vs, ev, e3, e4⟩
def wScLen (i : Nat) : WE := fun ρ Q _ => match scAt ρ i with
  | some ds => Q (.int ds.length) ρ
  | none => False
def wScIx (i : Nat) (w : WE) : WE := fun ρ Q X => match scAt ρ i with
  | some _ => w ρ (fun d ρ1 => match scAt ρ1 i, d with
    | some ds, .int k => match atI ds k with
      | some d => Q d ρ1
      | none => False
    | _, _ => False) X
  | none => False
section
variable {X : Cx} {c : Cf}
theorem de_scLen {e ex : Expr} {i : Nat} (hB : ∀ s v F H S, c.B.ok 0 s v F H S → ScOk X.K s v F H S) (mk : ∀ t, PA X [e] t → PE X ex (tCB (fun xs H Q => ∃ x n, xs = [x] ∧ LenV X.K x H n ∧ Q (.int n) H) t)) (he : PE X e (tVar i)) (hs : starEach (e :: []) X.env = (false, eval e X.env) :: starEach [] X.env := by rfl) : DE X c ex (wScLen i) :=
  (mk _ (pa_cons he pa_nil hs)).imp fun σ H Q ⟨G, F, ρ, Qd, Qx, R, h, pd, px⟩ => by
    unfold wScLen at h
    split at h
    · rename_i ds e1
      obtain ⟨a, vs, e2, e3, e4⟩ := R.sc hB e1
      exact ⟨_, e2, _, ds.length, rfl, .inl ⟨vs, e3, e4.length.symm⟩, pd _ _ F H ρ R (Same.refl _) (.int _) h⟩
    · exact h.elim
theorem RpL.emp {F : Hp} {vs : List V} {ds : List D} (h : RpL (fun _ => none) vs ds) : RpL F vs ds := h.mono fun _ _ e => by cases e
theorem de_scIx {a b : Expr} {i : Nat} {w : WE} {pos} (hB : ∀ s v F H S, c.B.ok 0 s v F H S → ScOk X.K s v F H S) (ha : PE X a (tVar i)) (hb : DE X c b w) (hs : PlainIx b) : DE X c (.Subscript a b pos) (wScIx i w) :=
  (pe_ix ix_seq ha hb hs).imp fun σ H Q ⟨G, F, ρ, Qd, Qx, R, h, pd, px⟩ => by
    unfold wScIx at h
    split at h
    · rename_i ds0 e0
      obtain ⟨a, vs0, e2, _, _⟩ := R.sc hB e0
      refine ⟨_, e2, G, F, ρ, _, Qx, R, h, fun d v F1 H1 ρ1 R1 s1 r1 h1 => ?_, px⟩
      dsimp only at h1
      split at h1
      · rename_i ds k e3
        split at h1
        · rename_i d e4
          cases r1
          obtain ⟨a', vs, e5, e6, e7⟩ := R1.sc hB e3
          rw [e2] at e5
          cases e5
          obtain ⟨v, e8, rv⟩ := (e7.emp (F := F1)).atI e4
          exact .inl ⟨a, vs, k, v, rfl, rfl, e6, e8, pd _ _ F1 H1 ρ1 R1 s1 rv h1⟩
        · exact h1.elim
      · exact h1.elim
    · exact h.elim
end
/-! ### classes by number: A tells their places -/
def tI (A : Nat → Nat) (R : List Nat) (tbl : List Bool) (n : Nat) : Option Bool := match R, tbl with
  | i :: R, b :: tbl => if n = A i then some b else tI A R tbl n
  | _, _ => none
theorem tI_0 {A : Nat → Nat} {i : Nat} {R : List Nat} {b : Bool} {tbl : List Bool} : tI A (i :: R) (b :: tbl) (A i) = some b := by
  unfold tI
  rw [if_pos rfl]
theorem tI_of {A : Nat → Nat} {Pr : Nat → Bool → Prop} : ∀ {R : List Nat} {tbl : List Bool}, (∀ i b, (i, b) ∈ R.zip tbl → Pr (A i) b) → ∀ n b, tI A R tbl n = some b → Pr n b
  | [], _, _, n, b, h => by unfold tI at h; cases h
  | _ :: _, [], _, n, b, h => by unfold tI at h; cases h
  | i :: R, b0 :: tbl, hp, n, b, h => by
    unfold tI at h
    split at h
    · rename_i e
      cases h
      rw [e]
      exact hp i _ (List.mem_cons_self)
    · exact tI_of (fun i b hm => hp i b (List.mem_cons_of_mem _ hm)) n b h
end DL
set_option maxHeartbeats 4000000
/-! DL11: the readings computed (simp rows), loops by invariants. -/
namespace DL
open PySem PySem.Spec L2
section
variable {ρ : Env'} {X : PX} {k : K3}
@[simp ↓] theorem wVar_ap {i : Nat} {Q : D → Env' → Prop} : wVar i ρ Q X = (match ρ[i]? with
  | some (.val d) => Q d ρ
  | _ => False) := rfl
@[simp ↓] theorem wC_ap {d : D} {Q : D → Env' → Prop} : wC d ρ Q X = Q d ρ := rfl
@[simp ↓] theorem ev_e {w : WE} {Q : Pend → Env' → Prop} : (Opd.e w).ev ρ Q X = w ρ (fun d ρ' => Q (.v d) ρ') X := rfl
@[simp ↓] theorem ev_own {i : Nat} {Q : Pend → Env' → Prop} : (Opd.own i).ev ρ Q X = (match ρ[i]? with
  | some (.own _) => Q (.slot i) ρ
  | _ => False) := rfl
@[simp ↓] theorem now_v {d : D} : (Pend.v d).now ρ = some d := rfl
@[simp ↓] theorem now_slot {i : Nat} : (Pend.slot i).now ρ = (ownAt ρ i).map .list := rfl
@[simp] theorem ownAt_ap {i : Nat} : ownAt ρ i = (match ρ[i]? with
  | some (.own t) => t.asList
  | _ => none) := rfl
@[simp] theorem asList_own {ds : List D} : T.asList (.lst (leaves ds)) = some ds := own_asList ds
@[simp ↓] theorem wOp2_ap {g : D → D → (D → Prop) → Prop} {a b : Opd} {Q : D → Env' → Prop} : wOp2 g a b ρ Q X = a.ev ρ (fun p ρ1 => b.ev ρ1 (fun q ρ2 => match p.now ρ2, q.now ρ2 with
  | some x, some y => g x y fun z => Q z ρ2
  | _, _ => False) X) X := rfl
@[simp ↓] theorem wOp2o_ap {g : D → D → (List D → Prop) → Prop} {a b : Opd} {Q : T → Env' → Prop} : wOp2o g a b ρ Q X = a.ev ρ (fun p ρ1 => b.ev ρ1 (fun q ρ2 => match p.now ρ2, q.now ρ2 with
  | some x, some y => g x y fun z => Q (DL.own z) ρ2
  | _, _ => False) X) X := rfl
@[simp ↓] theorem wFrz_ap {w : WO} {Q : D → Env' → Prop} : wFrz w ρ Q X = w ρ (fun t ρ' => match t.asList with
  | some ds => Q (.list ds) ρ'
  | none => False) X := rfl
@[simp ↓] theorem wOp1_ap {g : D → (D → Prop) → Prop} {a : Opd} {Q : D → Env' → Prop} : wOp1 g a ρ Q X = a.ev ρ (fun p ρ1 => match p.now ρ1 with
  | some x => g x fun z => Q z ρ1
  | _ => False) X := rfl
@[simp ↓] theorem wTv_ap {w : WE} {Q : Bool → Env' → Prop} : wTv w ρ Q X = w ρ (fun d ρ' => match d with
  | .bool b => Q b ρ'
  | _ => False) X := rfl
@[simp ↓] theorem wAnd_ap {a b : WB} {Q : Bool → Env' → Prop} : wAnd a b ρ Q X = a ρ (fun k ρ1 => if k = true then b ρ1 Q X else Q false ρ1) X := rfl
@[simp ↓] theorem wOr_ap {a b : WB} {Q : Bool → Env' → Prop} : wOr a b ρ Q X = a ρ (fun k ρ1 => if k = true then Q true ρ1 else b ρ1 Q X) X := rfl
@[simp ↓] theorem wNot_ap {a : WB} {Q : Bool → Env' → Prop} : wNot a ρ Q X = a ρ (fun k ρ1 => Q (!k) ρ1) X := rfl
@[simp ↓] theorem wAndV_ap {a b : WE} {Q : D → Env' → Prop} : wAndV a b ρ Q X = a ρ (fun d ρ1 => match d with
  | .bool k => if k = true then b ρ1 Q X else Q (.bool false) ρ1
  | _ => False) X := rfl
@[simp ↓] theorem wOrV_ap {a b : WE} {Q : D → Env' → Prop} : wOrV a b ρ Q X = a ρ (fun d ρ1 => match d with
  | .bool k => if k = true then Q (.bool true) ρ1 else b ρ1 Q X
  | _ => False) X := rfl
@[simp ↓] theorem wNotV_ap {a : WE} {Q : D → Env' → Prop} : wNotV a ρ Q X = a ρ (fun d ρ1 => match d with
  | .bool k => Q (.bool (!k)) ρ1
  | _ => False) X := rfl
@[simp ↓] theorem wIf_ap {t : WB} {a b : WE} {Q : D → Env' → Prop} : wIf t a b ρ Q X = t ρ (fun k ρ1 => if k = true then a ρ1 Q X else b ρ1 Q X) X := rfl
@[simp ↓] theorem wIfO_ap {t : WB} {a b : WO} {Q : T → Env' → Prop} : wIfO t a b ρ Q X = t ρ (fun k ρ1 => if k = true then a ρ1 Q X else b ρ1 Q X) X := rfl
@[simp ↓] theorem wChain_ap {g g' : D → D → (D → Prop) → Prop} {a b e : Opd} {Q : D → Env' → Prop} : wChain g g' a b e ρ Q X = a.ev ρ (fun p ρ1 => b.ev ρ1 (fun q ρ2 => match p.now ρ2, q.now ρ2 with
  | some x, some y => g x y fun z => match z with
    | .bool k => if k = true then e.ev ρ2 (fun r ρ3 => match q.now ρ3, r.now ρ3 with
        | some y', some w => g' y' w fun z => Q z ρ3
        | _, _ => False) X else Q (.bool false) ρ2
    | _ => False
  | _, _ => False) X) X := rfl
@[simp ↓] theorem wArgs_nil {Q : List Pend → Env' → Prop} : wArgs [] ρ Q X = Q [] ρ := rfl
@[simp ↓] theorem wArgs_cons {o : Opd} {os : List Opd} {Q : List Pend → Env' → Prop} : wArgs (o :: os) ρ Q X = o.ev ρ (fun p ρ1 => wArgs os ρ1 (fun ps ρ2 => Q (p :: ps) ρ2) X) X := rfl
@[simp ↓] theorem nows_nil : nows ρ [] = some [] := rfl
@[simp ↓] theorem nows_cons {p : Pend} {ps : List Pend} : nows ρ (p :: ps) = (match p.now ρ, nows ρ ps with
  | some d, some ds => some (d :: ds)
  | _, _ => none) := rfl
@[simp ↓] theorem valsOf_nil : valsOf [] = some [] := rfl
@[simp ↓] theorem valsOf_v {d : D} {ps : List Pend} : valsOf (.v d :: ps) = (valsOf ps).map (d :: ·) := rfl
@[simp ↓] theorem wTup_ap {os : List Opd} {Q : D → Env' → Prop} : wTup os ρ Q X = wArgs os ρ (fun ps ρ' => match valsOf ps with
  | some ds => ds.length ≤ sizeLine ∧ Q (.tuple ds) ρ'
  | none => False) X := rfl
@[simp ↓] theorem wLst_ap {os : List Opd} {Q : T → Env' → Prop} : wLst os ρ Q X = wArgs os ρ (fun ps ρ' => match valsOf ps with
  | some ds => ds.length ≤ sizeLine ∧ Q (DL.own ds) ρ'
  | none => False) X := rfl
@[simp ↓] theorem wCall_ap {g : List D → (D → Prop) → Prop} {os : List Opd} {Q : D → Env' → Prop} : wCall g os ρ Q X = wArgs os ρ (fun ps ρ' => match nows ρ' ps with
  | some ds => g ds fun z => Q z ρ'
  | none => False) X := rfl
@[simp ↓] theorem wCallO_ap {g : List D → (List D → Prop) → Prop} {os : List Opd} {Q : T → Env' → Prop} : wCallO g os ρ Q X = wArgs os ρ (fun ps ρ' => match nows ρ' ps with
  | some ds => g ds fun z => Q (DL.own z) ρ'
  | none => False) X := rfl
@[simp ↓] theorem wIsA_ap {n : Nat} {a : Opd} {Q : D → Env' → Prop} : wIsA n a ρ Q X = a.ev ρ (fun p ρ1 => match p.now ρ1 with
  | some x => plainD x = true ∧ Q (.bool (isA n x)) ρ1
  | none => False) X := rfl
@[simp ↓] theorem wIsX_ap {t : Nat → Option Bool} {w : WE} {Q : D → Env' → Prop} : wIsX t w ρ Q X = w ρ (fun d ρ1 => match excCls d with
  | some C => match t C with
    | some b => Q (.bool b) ρ1
    | none => False
  | none => False) X := rfl
@[simp ↓] theorem wMt_ap {Ty : String} {g : D → List D → (D → Prop) → Prop} {a : Opd} {os : List Opd} {Q : D → Env' → Prop} : wMt Ty g a os ρ Q X = a.ev ρ (fun p ρ1 => match p.now ρ1 with
  | some d => isT Ty d ∧ wArgs os ρ1 (fun ps ρ2 => match p.now ρ2, nows ρ2 ps with
    | some d, some ds => g d ds fun z => Q z ρ2
    | _, _ => False) X
  | none => False) X := rfl
@[simp ↓] theorem wMtO_ap {Ty : String} {g : D → List D → (List D → Prop) → Prop} {a : Opd} {os : List Opd} {Q : T → Env' → Prop} : wMtO Ty g a os ρ Q X = a.ev ρ (fun p ρ1 => match p.now ρ1 with
  | some d => isT Ty d ∧ wArgs os ρ1 (fun ps ρ2 => match p.now ρ2, nows ρ2 ps with
    | some d, some ds => g d ds fun z => Q (DL.own z) ρ2
    | _, _ => False) X
  | none => False) X := rfl
@[simp ↓] theorem prt_no {Q : Option Int → Env' → Prop} : Prt.no.ev ρ Q X = Q none ρ := rfl
@[simp ↓] theorem prt_e {w : WE} {Q : Option Int → Env' → Prop} : (Prt.e w).ev ρ Q X = w ρ (fun d ρ' => match d with
  | .int i => Q (some i) ρ'
  | _ => False) X := rfl
@[simp ↓] theorem wSl_ap {a : Opd} {lo hi : Prt} {Q : D → Env' → Prop} : wSl a lo hi ρ Q X = a.ev ρ (fun p ρ1 => lo.ev ρ1 (fun l ρ2 => hi.ev ρ2 (fun u ρ3 => match p.now ρ3 with
  | some d => gSl d l u fun z => Q z ρ3
  | none => False) X) X) X := rfl
@[simp ↓] theorem wSlO_ap {a : Opd} {lo hi : Prt} {Q : T → Env' → Prop} : wSlO a lo hi ρ Q X = a.ev ρ (fun p ρ1 => lo.ev ρ1 (fun l ρ2 => hi.ev ρ2 (fun u ρ3 => match p.now ρ3 with
  | some (.list ds) => Q (DL.own (cutD ds l u)) ρ3
  | _ => False) X) X) X := rfl
@[simp ↓] theorem wRev_ap {a : Opd} {Q : T → Env' → Prop} : wRev a ρ Q X = a.ev ρ (fun p ρ1 => match p.now ρ1 with
  | some (.list ds) => Q (DL.own ds.reverse) ρ1
  | _ => False) X := rfl
@[simp ↓] theorem wFz_ap {i : Nat} {Q : D → Env' → Prop} : wFz i ρ Q X = (match ownAt ρ i with
  | some ds => Q (.list ds) (ρ.set i (.val (.list ds)))
  | none => False) := rfl
@[simp ↓] theorem wPV_ap {np : Nat} {g : List D → (D → Prop) → Prop} {ds : List D} {os : List Opd} {Q : D → Env' → Prop} : wPV np g ds os ρ Q X = wArgs os ρ (fun ps ρ1 => match valsOf ps with
  | some xs => xs.length + ds.length = np ∧ g (xs ++ ds) fun r => Q r ρ1
  | none => False) X := rfl
@[simp ↓] theorem wPX_ap {np : Nat} {g : List D → (D → Prop) → (Exn → Prop) → Prop} {ds : List D} {os : List Opd} {Q : D → Env' → Prop} : wPX np g ds os ρ Q X = wArgs os ρ (fun ps ρ1 => match valsOf ps with
  | some xs => xs.length + ds.length = np ∧ g (xs ++ ds) (fun r => Q r ρ1) fun x => X x ρ1
  | none => False) X := rfl
@[simp ↓] theorem wFnV_ap {sd : SpD} {P : List Nat} {np : Nat} {ds : List D} {os : List Opd} {Q : D → Env' → Prop} : wFnV sd P np ds os ρ Q X = wArgs os ρ (fun ps ρ1 => ps.length + ds.length = np ∧ (slotsOf ps).Nodup ∧ idxs ps 0 = P ∧ sd (ps.map (contOf ρ1) ++ ds.map C.val) (fun r cs => match r with
  | .val d => Q d (upds ρ1 ps cs)
  | _ => False) (fun x cs => X x (upds ρ1 ps cs))) X := rfl
@[simp ↓] theorem wFnT_ap {sd : SpD} {P : List Nat} {np : Nat} {ds : List D} {os : List Opd} {Q : T → Env' → Prop} : wFnT sd P np ds os ρ Q X = wArgs os ρ (fun ps ρ1 => ps.length + ds.length = np ∧ (slotsOf ps).Nodup ∧ idxs ps 0 = P ∧ sd (ps.map (contOf ρ1) ++ ds.map C.val) (fun r cs => match r with
  | .own t => Q t (upds ρ1 ps cs)
  | _ => False) (fun x cs => X x (upds ρ1 ps cs))) X := rfl
@[simp ↓] theorem wMu_ap {i : Nat} {g : List D → List D → (D → List D → Prop) → Prop} {os : List Opd} {Q : D → Env' → Prop} : wMu i g os ρ Q X = (match ownAt ρ i with
  | some _ => wArgs os ρ (fun ps ρ1 => match ownAt ρ1 i, valsOf ps with
    | some ds, some es => g ds es fun z zs => Q z (ρ1.set i (.own (DL.own zs)))
    | _, _ => False) X
  | none => False) := rfl
@[simp ↓] theorem wScLen_ap {i : Nat} {Q : D → Env' → Prop} : wScLen i ρ Q X = (match scAt ρ i with
  | some ds => Q (.int ds.length) ρ
  | none => False) := rfl
@[simp ↓] theorem wScIx_ap {i : Nat} {w : WE} {Q : D → Env' → Prop} : wScIx i w ρ Q X = (match scAt ρ i with
  | some _ => w ρ (fun d ρ1 => match scAt ρ1 i, d with
    | some ds, .int k => match atI ds k with
      | some d => Q d ρ1
      | none => False
    | _, _ => False) X
  | none => False) := rfl
@[simp] theorem scAt_ap {i : Nat} : scAt ρ i = (match ρ[i]? with
  | some (.own (.obj 0 (.list ds))) => some ds
  | _ => none) := rfl
/-! ### statements -/
@[simp ↓] theorem wNext_ap : wNext k ρ = k.nx ρ := rfl
@[simp ↓] theorem wSeq_ap {a b : WS} : wSeq a b k ρ = a { k with nx := b k } ρ := rfl
@[simp ↓] theorem wDrop_ap {w : WE} : wDrop w k ρ = w ρ (fun _ ρ' => k.nx ρ') k.ex := rfl
@[simp ↓] theorem wRet_ap {w : WE} : wRet w k ρ = w ρ (fun d ρ' => k.rt (.val d) ρ') k.ex := rfl
@[simp ↓] theorem wRetO_ap {w : WO} : wRetO w k ρ = w ρ (fun t ρ' => k.rt (.own t) ρ') k.ex := rfl
@[simp ↓] theorem wRetSlot_ap {i : Nat} : wRetSlot i k ρ = (match ρ[i]? with
  | some (.own t) => k.rt (.own t) (ρ.set i .no)
  | _ => False) := rfl
@[simp ↓] theorem wIfS_ap {t : WB} {a b : WS} : wIfS t a b k ρ = t ρ (fun v ρ' => if v = true then a k ρ' else b k ρ') k.ex := rfl
@[simp ↓] theorem wSet_ap {i : Nat} {w : WE} : wSet i w k ρ = w ρ (fun d ρ' => k.nx (ρ'.set i (.val d))) k.ex := rfl
@[simp ↓] theorem wSetO_ap {i : Nat} {w : WO} : wSetO i w k ρ = w ρ (fun t ρ' => k.nx (ρ'.set i (.own t))) k.ex := rfl
@[simp ↓] theorem wAsg_ap {w : WE} {g : WG} : wAsg w g k ρ = w ρ (fun d ρ' => g d ρ' k.nx) k.ex := rfl
@[simp ↓] theorem wPar_ap {i j : Nat} {os : List Opd} : wPar i j os k ρ = wArgs os ρ (fun ps ρ' => match valsOf ps with
  | some [d, e] => k.nx ((ρ'.set i (.val d)).set j (.val e))
  | _ => False) k.ex := rfl
@[simp ↓] theorem wSetIx_ap {i : Nat} {ok : Opd} {w : WE} : wSetIx i ok w k ρ = w ρ (fun d ρ1 => match ownAt ρ1 i with
  | some _ => ok.ev ρ1 (fun p ρ2 => match ownAt ρ2 i, p.now ρ2 with
    | some ds, some (.int n) => match ixN ds.length n with
      | some j => k.nx (ρ2.set i (.own (DL.own (ds.set j d))))
      | none => False
    | _, _ => False) k.ex
  | none => False) k.ex := rfl
@[simp ↓] theorem wFor_ap {it : WI} {g : WG} {b : WS} : wFor it g b k ρ = it ρ (fun ds ρ1 => wLoop g b k ds ρ1) k.ex := rfl
@[simp ↓] theorem wFzS_ap {i : Nat} {w : WS} : wFzS i w k ρ = (match ownAt ρ i with
  | some ds => w k (ρ.set i (.val (.list ds)))
  | none => False) := rfl
/-! ### targets, what is walked -/
@[simp ↓] theorem gNm_ap {i : Nat} {d : D} {Q : Env' → Prop} : gNm i d ρ Q = Q (ρ.set i (.val d)) := rfl
@[simp ↓] theorem gTp_ap {n : Nat} {gs : WGs} {ds : List D} {Q : Env' → Prop} : gTp n gs (.tuple ds) ρ Q = (ds.length = n ∧ gs ds ρ Q) := rfl
@[simp ↓] theorem gCons_ap {g : WG} {gs : WGs} {d : D} {ds : List D} {Q : Env' → Prop} : gCons' g gs (d :: ds) ρ Q = g d ρ fun ρ1 => gs ds ρ1 Q := rfl
@[simp ↓] theorem gNil_ap {Q : Env' → Prop} : gNil' [] ρ Q = Q ρ := rfl
@[simp ↓] theorem wItL_ap {w : WE} {Q : List D → Env' → Prop} : wItL w ρ Q X = w ρ (fun d ρ' => match d with
  | .list ds => Q ds ρ'
  | _ => False) X := rfl
@[simp ↓] theorem wItT_ap {w : WE} {Q : List D → Env' → Prop} : wItT w ρ Q X = w ρ (fun d ρ' => match d with
  | .tuple ds => Q ds ρ'
  | _ => False) X := rfl
@[simp ↓] theorem wItS_ap {w : WE} {Q : List D → Env' → Prop} : wItS w ρ Q X = w ρ (fun d ρ' => match d with
  | .str z => Q (signs z) ρ'
  | _ => False) X := rfl
@[simp ↓] theorem wItR1_ap {w : WE} {Q : List D → Env' → Prop} : wItR1 w ρ Q X = w ρ (fun d ρ' => match d with
  | .int n => -(2 ^ 62) ≤ n ∧ n < 2 ^ 62 ∧ Q (rgI 0 n.toNat) ρ'
  | _ => False) X := rfl
@[simp ↓] theorem wItE_ap {a : Opd} {Q : List D → Env' → Prop} : wItE a ρ Q X = a.ev ρ (fun p ρ1 => match p with
  | .v (.list ds) => Q (enumD ds) ρ1
  | _ => False) X := rfl
@[simp ↓] theorem wItZ_ap {a b : WE} {Q : List D → Env' → Prop} : wItZ a b ρ Q X = a ρ (fun d ρ1 => b ρ1 (fun e ρ2 => match d, e with
  | .list ds, .list es => Q (zipD ds es) ρ2
  | _, _ => False) X) X := rfl
@[simp ↓] theorem wLc_ap {it : WI} {g : WG} {t : WB} {e : WE} {vs : List Nat} {Q : T → Env' → Prop} : wLc it g t e vs ρ Q X = it ρ (fun items ρ1 => lcLoop (fun _ => True) g t e vs items [] (wipeC ρ1 vs) (fun zs ρ2 => Q (DL.own zs) (restC ρ2 ρ1 vs))) X := rfl
@[simp ↓] theorem wYes_ap {Q : Bool → Env' → Prop} : wYes ρ Q X = Q true ρ := rfl
end
/-! ### the operators, by kinds -/
section
variable {k : D → Prop} {kl : List D → Prop}
@[simp ↓] theorem gAdd_i {i j : Int} : gAdd (.int i) (.int j) k = k (.int (i + j)) := rfl
@[simp ↓] theorem gAdd_s {i j : Str} : gAdd (.str i) (.str j) k = (i.length + j.length ≤ sizeLine ∧ k (.str (i ++ j))) := rfl
@[simp ↓] theorem gAdd_l {i j : List D} : gAdd (.list i) (.list j) k = (i.length + j.length ≤ sizeLine ∧ k (.list (i ++ j))) := rfl
@[simp ↓] theorem gCatL_l {i j : List D} : gCatL (.list i) (.list j) kl = (i.length + j.length ≤ sizeLine ∧ kl (i ++ j)) := rfl
@[simp ↓] theorem gSub_i {i j : Int} : DL.gSub (.int i) (.int j) k = k (.int (i - j)) := rfl
@[simp ↓] theorem gMul_i {i j : Int} : gMul (.int i) (.int j) k = (CMulX i j ∧ k (.int (i * j))) := rfl
@[simp ↓] theorem gMul_l {xs : List D} {n : Int} : gMul (.list xs) (.int n) k = (-(2 ^ 63) ≤ n ∧ n < 2 ^ 63 ∧ xs.length * n.toNat ≤ sizeLine ∧ k (.list (List.replicate n.toNat xs).flatten)) := rfl
@[simp ↓] theorem gFdiv_i {i j : Int} : gFdiv (.int i) (.int j) k = (CDivW i j ∧ k (.int (i / j))) := rfl
@[simp ↓] theorem gMod_i {i j : Int} : gMod (.int i) (.int j) k = (0 < j ∧ k (.int (i % j))) := rfl
@[simp ↓] theorem gPow_i {i j : Int} : gPow (.int i) (.int j) k = (CPowW i j ∧ k (.int (i ^ j.toNat))) := rfl
@[simp ↓] theorem gNeg_i {i : Int} : gNeg (.int i) k = k (.int (-i)) := rfl
@[simp ↓] theorem gLt_i {i j : Int} : gLt (.int i) (.int j) k = k (.bool (decide (i < j))) := rfl
@[simp ↓] theorem gLe_i {i j : Int} : gLe (.int i) (.int j) k = k (.bool (decide (i ≤ j))) := rfl
@[simp ↓] theorem gGt_i {i j : Int} : gGt (.int i) (.int j) k = k (.bool (decide (j < i))) := rfl
@[simp ↓] theorem gGe_i {i j : Int} : gGe (.int i) (.int j) k = k (.bool (decide (j ≤ i))) := rfl
@[simp ↓] theorem gEq_ap {d e : D} : gEq d e k = (SeqAt.shaped d = true ∧ SeqAt.shaped e = true ∧ k (.bool (PyData.eqv d e))) := rfl
@[simp ↓] theorem gNe_ap {d e : D} : gNe d e k = (SeqAt.shaped d = true ∧ SeqAt.shaped e = true ∧ k (.bool (!PyData.eqv d e))) := rfl
@[simp ↓] theorem gIsN_ap {d : D} : gIsN d .none k = k (.bool (isNon d)) := by cases d <;> rfl
@[simp ↓] theorem gNotN_ap {d : D} : gNotN d .none k = k (.bool (!isNon d)) := by cases d <;> rfl
@[simp] theorem isNon_n : isNon .none = true := rfl
@[simp] theorem isNon_i {i : Int} : isNon (.int i) = false := rfl
@[simp] theorem isNon_b {i : Bool} : isNon (.bool i) = false := rfl
@[simp] theorem isNon_s {i : Str} : isNon (.str i) = false := rfl
@[simp] theorem isNon_l {i : List D} : isNon (.list i) = false := rfl
@[simp] theorem isNon_t {i : List D} : isNon (.tuple i) = false := rfl
@[simp] theorem isNon_d {i : List (D × D)} : isNon (.dict i) = false := rfl
@[simp ↓] theorem gIn_l {d : D} {ds : List D} : gIn d (.list ds) k = (SeqAt.shaped d = true ∧ SeqAt.shaped (.list ds) = true ∧ k (.bool (ds.any fun z => PyData.eqv z d))) := by cases d <;> rfl
@[simp ↓] theorem gIn_s {x y : Str} : gIn (.str x) (.str y) k = k (.bool (hasStr y x)) := rfl
@[simp ↓] theorem gNotIn_l {d : D} {ds : List D} : gNotIn d (.list ds) k = (SeqAt.shaped d = true ∧ SeqAt.shaped (.list ds) = true ∧ k (.bool (!ds.any fun z => PyData.eqv z d))) := by cases d <;> rfl
@[simp ↓] theorem gNotIn_s {x y : Str} : gNotIn (.str x) (.str y) k = k (.bool (!hasStr y x)) := rfl
@[simp ↓] theorem gIx_l {ds : List D} {i : Int} : gIx (.list ds) (.int i) k = (match atI ds i with
  | some d => k d
  | none => False) := rfl
@[simp ↓] theorem gIx_t {ds : List D} {i : Int} : gIx (.tuple ds) (.int i) k = (match atI ds i with
  | some d => k d
  | none => False) := rfl
@[simp ↓] theorem gIx_s {z : Str} {i : Int} : gIx (.str z) (.int i) k = (z.length ≤ sizeLine ∧ match atI z.cps.toList i with
  | some ch => k (.str ⟨#[ch]⟩)
  | none => False) := rfl
@[simp ↓] theorem gSl_l {ds : List D} {lo hi : Option Int} : gSl (.list ds) lo hi k = k (.list (cutD ds lo hi)) := rfl
@[simp ↓] theorem gSl_s {z : Str} {lo hi : Option Int} : gSl (.str z) lo hi k = (z.length ≤ sizeLine ∧ k (.str (cutS z lo hi))) := rfl
@[simp ↓] theorem gLen_l {ds : List D} : gLen [.list ds] k = k (.int ds.length) := rfl
@[simp ↓] theorem gLen_t {ds : List D} : gLen [.tuple ds] k = k (.int ds.length) := rfl
@[simp ↓] theorem gLen_s {z : Str} : gLen [.str z] k = (z.length ≤ sizeLine ∧ k (.int z.length)) := rfl
@[simp ↓] theorem gAbs_i {i : Int} : gAbs [.int i] k = k (.int (if i < 0 then -i else i)) := rfl
@[simp ↓] theorem gInt_s {a : Str} : gInt [.str a] k = (match PySem.intText? a with
  | some n => a.length ≤ 640 ∧ k (.int n)
  | none => False) := rfl
@[simp ↓] theorem gStr_i {i : Int} : gStr [.int i] k = (i.natAbs.log2 < 1920 ∧ k (.str (toString i))) := rfl
@[simp ↓] theorem gAll_b {bs : List Bool} : gAll [.list (bs.map PyData.bool)] k = k (.bool (bs.all id)) := by
  show (match blsOf (bs.map PyData.bool) with
    | some bs => k (.bool (bs.all id))
    | none => False) = _
  rw [blsOf_map]
@[simp ↓] theorem gMax_ii {i j : Int} : gMax [.int i, .int j] k = k (.int (max i j)) := rfl
@[simp ↓] theorem gMin_ii {i j : Int} : gMin [.int i, .int j] k = k (.int (min i j)) := rfl
@[simp ↓] theorem gSplit_s {a b : Str} : gSplitO (.str a) [.str b] kl = ((b.length == 0) = false ∧ a.length + 2 ≤ sizeLine ∧ kl ((Txt.split a b).map PyData.str)) := rfl
@[simp ↓] theorem gJoin_s {a : Str} {ys : List Str} : gJoin (.str a) [.list (ys.map PyData.str)] k = ((ys.map (·.length)).sum + ys.length * a.length ≤ 16777216 ∧ k (.str (Txt.join a ys))) := by
  show (match strsOf (ys.map PyData.str) with
    | some (ys : List Str) => (ys.map fun z : Str => z.length).sum + ys.length * a.length ≤ 16777216 ∧ k (.str (Txt.join a ys))
    | none => False) = _
  rw [strsOf_map]
@[simp ↓] theorem gAppend_1 {ds : List D} {d : D} {kk : D → List D → Prop} : gAppend ds [d] kk = (ds.length < sizeLine ∧ kk .none (ds ++ [d])) := rfl
@[simp] theorem isT_s {z : Str} : isT "str" (.str z) = True := by simp [isT]
end
/-! ### loops by invariants -/
theorem loop_inv {g : WG} {b : WS} {k : K3} (I : List D → Env' → Prop) (h0 : ∀ ρ, I [] ρ → k.nx ρ)
    (hs : ∀ d ds ρ (R : Env' → Prop), (∀ ρ', I ds ρ' → R ρ') → I (d :: ds) ρ → g d ρ fun ρ1 => b { k with nx := R, ct := R, bk := k.nx } ρ1) : ∀ ds ρ, I ds ρ → wLoop g b k ds ρ
  | [], ρ, h => h0 ρ h
  | d :: ds, ρ, h => hs d ds ρ (wLoop g b k ds) (fun ρ' h' => loop_inv I h0 hs ds ρ' h') h
/-- a comprehension that changes nothing -/
theorem lc_pure {chk : Env' → Prop} {g : WG} {t : WB} {e : WE} {vs : List Nat} {ρw : Env'} {K : List D → Env' → Prop} (f : D → Option D) (hc : chk ρw) : ∀ (items acc : List D),
    (∀ d, d ∈ items → ∀ R : Option D → Env' → Prop, (∀ ρ' : Env', wipeC ρ' vs = ρw → R (f d) ρ') → g d ρw fun ρ1 => t ρ1 (fun b ρ2 => if b = true then e ρ2 (fun z ρ3 => R (some z) ρ3) noX else R none ρ2) noX) →
    acc.length + items.length ≤ sizeLine → K (acc ++ items.filterMap f) ρw → lcLoop chk g t e vs items acc ρw K
  | [], acc, _, _, hk => by
    rw [List.filterMap_nil, List.append_nil] at hk
    exact ⟨hc, hk⟩
  | d :: ds, acc, hs, hl, hk => by
    rw [List.length_cons] at hl
    refine ⟨hc, hs d List.mem_cons_self (fun o ρ3 => match o with
      | some z => acc.length < sizeLine ∧ lcLoop chk g t e vs ds (acc ++ [z]) (wipeC ρ3 vs) K
      | none => lcLoop chk g t e vs ds acc (wipeC ρ3 vs) K) fun ρ' hw => ?_⟩
    rw [hw]
    cases q : f d with
    | none =>
      rw [List.filterMap_cons_none q] at hk
      exact lc_pure f hc ds acc (fun d hd => hs d (List.mem_cons_of_mem _ hd)) (by omega) hk
    | some z =>
      rw [List.filterMap_cons_some q] at hk
      refine ⟨by omega, lc_pure f hc ds (acc ++ [z]) (fun d hd => hs d (List.mem_cons_of_mem _ hd)) (by rw [List.length_append]; show acc.length + 1 + _ ≤ _; omega) ?_⟩
      rw [List.append_assoc]
      exact hk
/-- .. without a test -/
theorem lc_map {chk : Env' → Prop} {g : WG} {e : WE} {vs : List Nat} {ρw : Env'} {K : List D → Env' → Prop} (f : D → D) (hc : chk ρw) (items : List D)
    (hs : ∀ d, d ∈ items → ∀ R : D → Env' → Prop, (∀ ρ' : Env', wipeC ρ' vs = ρw → R (f d) ρ') → g d ρw fun ρ1 => e ρ1 R noX) (hl : items.length ≤ sizeLine) (hk : K (items.map f) ρw) : lcLoop chk g wYes e vs items [] ρw K := by
  refine lc_pure (fun d => some (f d)) hc items [] (fun d hd R hR => hs d hd (fun z ρ3 => R (some z) ρ3) hR) (by show 0 + _ ≤ _; omega) ?_
  rw [List.filterMap_eq_map']
  exact hk
/-- a comprehension with a state: I tells what holds with so many items to come and so many results told -/
theorem lc_inv {chk : Env' → Prop} {g : WG} {t : WB} {e : WE} {vs : List Nat} {K : List D → Env' → Prop} (I : List D → List D → Env' → Prop) (hc : ∀ items acc ρ, I items acc ρ → chk ρ) (h0 : ∀ acc ρ, I [] acc ρ → K acc ρ)
    (hs : ∀ d ds acc ρ (R : Option D → Env' → Prop), (∀ o ρ', I ds (acc ++ o.toList) (wipeC ρ' vs) → R o ρ') → I (d :: ds) acc ρ → acc.length < sizeLine ∧ g d ρ fun ρ1 => t ρ1 (fun b ρ2 => if b = true then e ρ2 (fun z ρ3 => R (some z) ρ3) noX else R none ρ2) noX) :
    ∀ items acc ρ, I items acc ρ → lcLoop chk g t e vs items acc ρ K
  | [], acc, ρ, h => ⟨hc _ _ _ h, h0 acc ρ h⟩
  | d :: ds, acc, ρ, h => by
    obtain ⟨hl, q⟩ := hs d ds acc ρ (fun o ρ3 => match o with
      | some z => acc.length < sizeLine ∧ lcLoop chk g t e vs ds (acc ++ [z]) (wipeC ρ3 vs) K
      | none => lcLoop chk g t e vs ds acc (wipeC ρ3 vs) K) (fun o ρ' hi => by
        cases o with
        | none =>
          have e1 : acc ++ (none : Option D).toList = acc := List.append_nil _
          rw [e1] at hi
          exact lc_inv I hc h0 hs ds acc _ hi
        | some z => exact ⟨(hs d ds acc ρ (fun _ _ => True) (fun _ _ _ => trivial) h).1, lc_inv I hc h0 hs ds (acc ++ [z]) _ hi⟩) h
    exact ⟨hc _ _ _ h, q⟩
end DL
set_option maxHeartbeats 4000000
/-! DL12: ends of bodies; shapes. -/
namespace DL
open PySem PySem.Spec L2
section
variable {P : List Nat} {np : Nat} {Qr : C → List C → Prop} {Qx : Exn → List C → Prop} {ρ : Env'}
@[simp ↓] theorem kOf_nx : (kOf P np Qr Qx).nx ρ = Qr (.val .none) (outC P np ρ) := rfl
@[simp ↓] theorem kOf_rt {r : C} : (kOf P np Qr Qx).rt r ρ = Qr r (outC P np ρ) := rfl
@[simp ↓] theorem kOf_ex {x : Exn} : (kOf P np Qr Qx).ex x ρ = Qx x (outC P np ρ) := rfl
@[simp] theorem outC_none : outC [] np ρ = List.replicate np .no := by
  unfold outC
  refine List.ext_getElem (by simp) fun i h1 h2 => ?_
  simp
@[simp] theorem outC_01 {c0 : C} {r : Env'} : outC [0] 1 (c0 :: r) = [c0] := by simp [outC, List.range, List.range.loop]
@[simp] theorem outC_02 {c0 c1 : C} {r : Env'} : outC [0] 2 (c0 :: c1 :: r) = [c0, .no] := by simp [outC, List.range, List.range.loop]
@[simp] theorem outC_03 {c0 c1 c2 : C} {r : Env'} : outC [0] 3 (c0 :: c1 :: c2 :: r) = [c0, .no, .no] := by simp [outC, List.range, List.range.loop]
@[simp] theorem outC_04 {c0 c1 c2 c3 : C} {r : Env'} : outC [0] 4 (c0 :: c1 :: c2 :: c3 :: r) = [c0, .no, .no, .no] := by simp [outC, List.range, List.range.loop]
end
@[simp] theorem slotsOf_nil : slotsOf [] = [] := rfl
@[simp] theorem slotsOf_s {j : Nat} {ps : List Pend} : slotsOf (.slot j :: ps) = j :: slotsOf ps := rfl
@[simp] theorem slotsOf_v {d : D} {ps : List Pend} : slotsOf (.v d :: ps) = slotsOf ps := rfl
@[simp] theorem idxs_nil {k : Nat} : idxs [] k = [] := rfl
@[simp] theorem idxs_s {j k : Nat} {ps : List Pend} : idxs (.slot j :: ps) k = k :: idxs ps (k + 1) := rfl
@[simp] theorem idxs_vv {d : D} {k : Nat} {ps : List Pend} : idxs (.v d :: ps) k = idxs ps (k + 1) := rfl
@[simp] theorem contOf_v {ρ : Env'} {d : D} : contOf ρ (.v d) = .val d := rfl
@[simp] theorem contOf_s {ρ : Env'} {j : Nat} : contOf ρ (.slot j) = ρ[j]?.getD .no := rfl
@[simp] theorem upds_nil {ρ : Env'} {cs : List C} : upds ρ [] cs = ρ := by cases cs <;> rfl
@[simp] theorem upds_s {ρ : Env'} {j : Nat} {ps : List Pend} {c : C} {cs : List C} : upds ρ (.slot j :: ps) (c :: cs) = (upds ρ ps cs).set j c := rfl
@[simp] theorem upds_vv {ρ : Env'} {d : D} {ps : List Pend} {c : C} {cs : List C} : upds ρ (.v d :: ps) (c :: cs) = upds ρ ps cs := rfl
@[simp] theorem plainD_i {i : Int} : plainD (.int i) = true := rfl
@[simp] theorem plainD_b {i : Bool} : plainD (.bool i) = true := rfl
@[simp] theorem plainD_s {i : Str} : plainD (.str i) = true := rfl
@[simp] theorem plainD_l {i : List D} : plainD (.list i) = true := rfl
@[simp] theorem plainD_t {i : List D} : plainD (.tuple i) = true := rfl
@[simp] theorem plainD_n : plainD .none = true := rfl
@[simp] theorem plainD_d : plainD (.dict []) = true := rfl
@[simp] theorem shaped_i {i : Int} : SeqAt.shaped (.int i) = true := rfl
@[simp] theorem shaped_b {i : Bool} : SeqAt.shaped (.bool i) = true := rfl
@[simp] theorem shaped_n : SeqAt.shaped .none = true := rfl
theorem shaped_str {x : Str} (h : ∀ c ∈ x.cps.toList, c < 0x110000) : SeqAt.shaped (.str x) = true := by
  have e : PyData.strOk x = true := by
    unfold PyData.strOk
    rw [← Array.all_toList, List.all_eq_true]
    exact fun c hc => decide_eq_true (h c hc)
  unfold SeqAt.shaped
  rw [show (PyData.str x).canLay0 = PyData.strOk x from by simp [PyData.canLay0], e]
  simp [PyData.depth]
@[simp] theorem eqv_i {i j : Int} : PyData.eqv (.int i) (.int j) = decide (i = j) := by
  unfold PyData.eqv
  by_cases h : i = j <;> simp [h]
theorem str_beq {x y : Str} : (x == y) = decide (x = y) := by
  by_cases h : x = y
  · subst h; simp
  · simp [h]
@[simp] theorem eqv_s {i j : Str} : PyData.eqv (.str i) (.str j) = decide (i = j) := by
  unfold PyData.eqv
  exact str_beq
@[simp] theorem eqv_nn : PyData.eqv .none .none = true := by unfold PyData.eqv; rfl
@[simp] theorem eqv_in {i : Int} : PyData.eqv (.int i) .none = false := by unfold PyData.eqv; rfl
@[simp] theorem eqv_sn {i : Str} : PyData.eqv (.str i) .none = false := by unfold PyData.eqv; rfl
@[simp] theorem eqv_ln {i : List D} : PyData.eqv (.list i) .none = false := by unfold PyData.eqv; rfl
@[simp] theorem eqv_tn {i : List D} : PyData.eqv (.tuple i) .none = false := by unfold PyData.eqv; rfl
@[simp] theorem atI_0 {d : D} {ds : List D} : atI (d :: ds) 0 = some d := atI_nat (j := 0) rfl
end DL
set_option maxHeartbeats 4000000
/-! DL13: small facts for the plain laws. -/
namespace DL
open PySem PySem.Spec L2
@[simp] theorem atI_1 {a b : D} {ds : List D} : atI (a :: b :: ds) 1 = some b := atI_nat (j := 1) rfl
@[simp] theorem atI_2 {a b c : D} {ds : List D} : atI (a :: b :: c :: ds) 2 = some c := atI_nat (j := 2) rfl
@[simp] theorem gAll_map {α : Type} {xs : List α} {p : α → Bool} {k : D → Prop} : gAll [.list (xs.map fun d => PyData.bool (p d))] k = k (.bool (xs.all p)) := by
  have e : (xs.map fun d => PyData.bool (p d)) = (xs.map p).map PyData.bool := by rw [List.map_map]; rfl
  rw [e, gAll_b]
  have e2 : (xs.map p).all id = xs.all p := by rw [List.all_map]; rfl
  rw [e2]
theorem cutD_from1 (ds : List D) : cutD ds (some 1) none = ds.drop 1 := by
  unfold cutD
  rw [show HT.sIx ds.length 0 (some 1) = min 1 ds.length from HT.sIx_nat ds.length 0 1, HT.sIx_none]
  cases ds with
  | nil => rfl
  | cons x r =>
    rw [show min 1 (x :: r).length = 1 by rw [List.length_cons]; omega]
    show (List.take ((x :: r).length - 1) r) = r
    rw [List.length_cons, Nat.add_sub_cancel]
    exact List.take_length
@[simp] theorem wipeC_nil {ρ : Env'} : wipeC ρ [] = ρ := rfl
@[simp] theorem wipeC_cons {ρ : Env'} {v : Nat} {vs : List Nat} : wipeC ρ (v :: vs) = (wipeC ρ vs).set v .no := rfl
@[simp] theorem restC_nil {ρ ρ0 : Env'} : restC ρ ρ0 [] = ρ := rfl
@[simp] theorem restC_cons {ρ ρ0 : Env'} {v : Nat} {vs : List Nat} : restC ρ ρ0 (v :: vs) = (match ρ0[v]? with
  | some (.val d) => (restC ρ ρ0 vs).set v (.val d)
  | _ => restC ρ ρ0 vs) := rfl
theorem sizeLine_big : 10000000 ≤ sizeLine := by rw [sizeLine_eq]; decide
end DL
namespace DL
open PySem PySem.Spec L2
def enumF : Nat → List D → List D
  | _, [] => []
  | i, d :: ds => .tuple [.int (i : Nat), d] :: enumF (i + 1) ds
theorem enumF_zip : ∀ (ds : List D) (i : Nat), (ds.zipIdx i).map (fun p => PyData.tuple [.int (p.2 : Nat), p.1]) = enumF i ds
  | [], _ => rfl
  | d :: ds, i => by
    rw [List.zipIdx_cons, List.map_cons, enumF_zip ds (i + 1)]
    rfl
theorem enumD_eq (ds : List D) : enumD ds = enumF 0 ds := enumF_zip ds 0
theorem canLayAll_iff : ∀ {ds : List D}, PyData.canLayAll0 ds = true ↔ ∀ d ∈ ds, d.canLay0 = true
  | [] => by simp [PyData.canLayAll0]
  | d :: ds => by
    have ih := canLayAll_iff (ds := ds)
    simp only [PyData.canLayAll0, Bool.and_eq_true, List.mem_cons, forall_eq_or_imp, ih]
theorem depthAll_le : ∀ {ds : List D} {n : Nat}, (∀ d ∈ ds, d.depth ≤ n) → PyData.depthAll ds ≤ n
  | [], n, _ => by simp [PyData.depthAll]
  | d :: ds, n, h => by
    have h1 := h d List.mem_cons_self
    have h2 := depthAll_le (ds := ds) (n := n) fun e he => h e (List.mem_cons_of_mem _ he)
    simp only [PyData.depthAll]
    omega
theorem shaped_list {ds : List D} (h : ∀ d ∈ ds, d.canLay0 = true ∧ d.depth ≤ 63) : SeqAt.shaped (.list ds) = true := by
  unfold SeqAt.shaped
  rw [Bool.and_eq_true, decide_eq_true_eq]
  refine ⟨?_, ?_⟩
  · simp only [PyData.canLay0]
    exact canLayAll_iff.mpr fun d hd => (h d hd).1
  · simp only [PyData.depth]
    have := depthAll_le (ds := ds) (n := 63) fun d hd => (h d hd).2
    omega
@[simp] theorem eqv_l_nil {xs : List D} : PyData.eqv (.list xs) (.list []) = xs.isEmpty := by
  cases xs with
  | nil => decide
  | cons x r => simp [PyData.eqv, PyData.eqvAll]
end DL
namespace DL
open PySem PySem.Spec L2
@[simp] theorem excCls_0 {C : Addr} : excCls (excD C) = some C := by
  show some (Int.toNat (C : Nat)) = _
  simp
@[simp] theorem excCls_1 {C : Addr} {z : D} : excCls (excPD C z) = some C := by
  show some (Int.toNat (C : Nat)) = _
  simp
@[simp] theorem tI_00 {A : Nat → Nat} {i : Nat} {R : List Nat} {b : Bool} {tbl : List Bool} : tI A (i :: R) (b :: tbl) (A i) = some b := tI_0
@[simp ↓] theorem wTry_ap {b : WS} {l : List (Option Nat × (Nat → Option Bool) × WS)} {k : K3} {ρ : Env'} : wTry b l k ρ = b { k with ex := wTryC l k } ρ := rfl
@[simp ↓] theorem wTryC_nil {k : K3} {x : Exn} {ρ : Env'} : wTryC [] k x ρ = k.ex x ρ := rfl
@[simp ↓] theorem wTryC_some {i : Nat} {t : Nat → Option Bool} {w : WS} {r : List (Option Nat × (Nat → Option Bool) × WS)} {k : K3} {x : Exn} {ρ : Env'} : wTryC ((some i, t, w) :: r) k x ρ = (match t x.cls with
    | some true => w { nx := fun ρ' => k.nx (ρ'.set i .no), rt := k.rt, bk := fun ρ' => k.bk (ρ'.set i .no), ct := fun ρ' => k.ct (ρ'.set i .no), ex := noX } (ρ.set i (.val (excOf x)))
    | some false => wTryC r k x ρ
    | none => False) := rfl
@[simp ↓] theorem wTryC_none {t : Nat → Option Bool} {w : WS} {r : List (Option Nat × (Nat → Option Bool) × WS)} {k : K3} {x : Exn} {ρ : Env'} : wTryC ((none, t, w) :: r) k x ρ = (match t x.cls with
    | some true => w { k with ex := noX } ρ
    | some false => wTryC r k x ρ
    | none => False) := rfl
@[simp] theorem excOf_0 {C : Nat} : excOf ⟨C, none⟩ = excD C := rfl
@[simp] theorem excOf_1 {C : Nat} {z : D} : excOf ⟨C, some z⟩ = excPD C z := rfl
end DL
namespace DL
open PySem PySem.Spec L2
@[simp] theorem eqv_b {a b : Bool} : PyData.eqv (.bool a) (.bool b) = (a == b) := by unfold PyData.eqv; rfl
theorem mem_rgI {d : D} {lo : Int} {n : Nat} (h : d ∈ rgI lo n) : ∃ i : Nat, i < n ∧ d = .int (lo + i) := by
  unfold rgI at h
  obtain ⟨i, hi, rfl⟩ := List.mem_map.mp h
  exact ⟨i, List.mem_range.mp hi, rfl⟩
@[simp] theorem rgI_length {lo : Int} {n : Nat} : (rgI lo n).length = n := by unfold rgI; simp
end DL
namespace DL
open PySem PySem.Spec L2
/-! ### the end -/
theorem law_end {K : PySem.W.Frag} {sd : SpD} {H : Hp} {a : Addr} {ns : List Int} (hS : SqL K H a (ns.map V.int)) (hsd : sd [.own (.obj 0 (.list (ns.map PyData.int)))] (fun r _ => r = .val (.bool true)) (fun _ _ => False)) :
    toSp (BS K) Value.ref [0] 1 sd [.ref a] H (fun v _ => v = .bl true) fun _ _ _ => False := by
  have tr : ∀ b, (Rd H a (.lst (ns.map V.int)) ∧ b = a) → H b ≠ none := fun b h => by rw [h.2]; exact rd_some h.1
  refine ⟨rfl, ⟨fun _ => none, H, 1, fun i b => i = 0 ∧ Rd H a (.lst (ns.map V.int)) ∧ b = a, fun i => if i = 0 then some (.ref a) else none, Frm.emp⟩, _, _, _, rfl, rfl, ?_, ?_, hsd, ?_, ?_⟩
  · refine ⟨⟨fun _ _ e => (by cases e), fun _ _ e => (by cases e), fun _ z => .inl z, fun _ _ e _ => e, fun _ z => z⟩, rfl, fun i v e => ?_, fun i b z => ?_, fun i b z => ?_, Nat.le_refl _, fun i v e => ?_, fun i b => i = 0 ∧ Rd H a (.lst (ns.map V.int)) ∧ b = a, fun _ => False, fun i c o e1 e2 => ?_, fun i e b z => ?_, fun i j b hij z1 z2 => ?_, fun i b z => .inr z, fun _ z => z, fun _ _ _ z => z, fun _ z => z.elim⟩
    · by_cases h : i = 0
      · subst h; exact List.mem_singleton.mpr rfl
      · have e : (if i = 0 then some (V.ref a) else none) = some v := e
        rw [if_neg h] at e; cases e
    · rw [z.1]; exact List.mem_singleton.mpr rfl
    · rw [z.1]; exact Nat.zero_lt_one
    · have e : (if i = 0 then some (V.ref a) else none) = some v := e
      by_cases h : i = 0
      · subst h
        rw [if_pos rfl] at e
        cases e
        rfl
      · rw [if_neg h] at e; cases e
    · cases i with
      | zero =>
        cases e1
        cases e2
        refine Own.obj ⟨rfl, a, _, _, rfl, rfl, RpL.ofInts ns, ?_⟩
        rcases hS with h | h
        · exact .inl ⟨h, ⟨rfl, h, rfl⟩, fun b z => z.2.2, rfl⟩
        · by_cases hr : Rd H a (.lst (ns.map V.int))
          · exact .inl ⟨hr, ⟨rfl, hr, rfl⟩, fun b z => z.2.2, rfl⟩
          · exact .inr ⟨fun H' => .inr h, fun b z => hr z.2.1⟩
      | succ i => cases e1
    · rw [z.1] at e; cases e
    · exact hij (z1.1.trans z2.1.symm)
  · intro i hi
    rw [List.mem_singleton] at hi
    subst hi
    exact ⟨.ref a, rfl, rfl⟩
  · intro r v F' H' cs' lc R hr
    subst hr
    have r := R.lastVal (by rw [lc]; rfl)
    cases r
    rfl
  · intro x cls dd F' H' cs' _ _ _ z
    exact z
end DL
set_option maxHeartbeats 4000000
/-! DLT: texts: pieces of a split, joined texts, slices, as lists of signs. -/
namespace DL
open PySem PySem.Spec L2
theorem lt_app (x y : Str) : (x ++ y).cps.toList = x.cps.toList ++ y.cps.toList := by
  show (x.cps ++ y.cps).toList = _
  exact Array.toList_append
theorem len_lt (x : Str) : x.length = x.cps.toList.length := by
  show x.cps.size = _
  rw [Array.length_toList]
theorem infix_join (y : Str) : ∀ (ps : List Str) (p : Str), p ∈ ps → p.cps.toList <:+: (Str.join y ps).cps.toList
  | [], _, h => by cases h
  | [x], p, h => by
    rw [List.mem_singleton] at h
    subst h
    exact List.infix_refl _
  | x :: z :: r, p, h => by
    show p.cps.toList <:+: (x ++ y ++ Str.join y (z :: r)).cps.toList
    rw [lt_app, lt_app]
    rcases List.mem_cons.mp h with e | h
    · subst e
      rw [List.append_assoc]
      exact (List.prefix_append _ _).isInfix
    · have ih := infix_join y (z :: r) p h
      exact ih.trans (List.suffix_append _ _).isInfix
theorem infix_split {x y p : Str} (h : p ∈ Txt.split x y) : p.cps.toList <:+: x.cps.toList := by
  have q := infix_join y (Txt.split x y) p h
  rwa [StrLaws.join_split] at q
theorem split_ne (x y : Str) : Txt.split x y ≠ [] := by
  unfold Txt.split
  split
  · exact List.cons_ne_nil _ _
  · split
    · exact List.cons_ne_nil _ _
    · rw [StrLaws.partsBetween_eq]
      obtain ⟨p, r, e⟩ := StrLaws.partsFrom_ne x y.length 0 (Builtin.Str.occurrences x y 0 x.length (x.length + 1))
      rw [e]
      exact List.cons_ne_nil _ _
theorem split_len (x y : Str) : (Txt.split x y).length ≤ x.length + 2 := by
  unfold Txt.split
  split
  · show 1 ≤ _; omega
  · split
    · show 1 ≤ _; omega
    · unfold Builtin.Str.partsBetween
      rw [List.length_map, List.length_zip, List.length_cons, List.length_map, List.length_append]
      have h := StrLaws.occ_length_le x y 0 x.length (x.length + 1)
      show min (_ + 1) (_ + 1) ≤ _
      omega
theorem has_one (y : Str) (c : Nat) : hasStr y ⟨#[c]⟩ = decide (c ∈ y.cps.toList) := StrLaws.found_one y c
theorem mem_figs (c : Nat) : (c ∈ ("0123456789" : Str).cps.toList) ↔ (48 ≤ c ∧ c ≤ 57) := by
  have e : ("0123456789" : Str).cps.toList = [48, 49, 50, 51, 52, 53, 54, 55, 56, 57] := by decide
  rw [e]
  simp only [List.mem_cons, List.not_mem_nil, or_false]
  omega
theorem str_ext {x y : Str} (h : x.cps.toList = y.cps.toList) : x = y := by
  obtain ⟨a⟩ := x
  obtain ⟨b⟩ := y
  have e : a = b := Array.toList_inj.mp h
  rw [e]
end DL
set_option maxHeartbeats 4000000
/-! DLH: facts of the written part, more than the kit's list: classes by number. -/
namespace DL
open PySem PySem.Spec L2
inductive XF where
  | exi (i : Nat)
  | one (i j : Nat) (b : Bool)
  | oneT (i : Nat) (T : String) (b : Bool)
  | tup (i : Nat) (js : List Nat) (b : Bool)
  | exm (i j : Nat) (b : Bool)
def exiB (K : PySem.W.Frag) (C : Addr) : Bool := (PySem.W.clsIn K C).isSome && (decide (PySem.W.findIn K (.ref C) "__getattribute__" = some (some (.builtin "BaseException.__getattribute__"))) && (decide (PySem.W.findIn K (.ref C) "__getattr__" = some none) &&
  (decide (PySem.W.subIn K (.ref C) (.type "BaseException") = some true) && (decide (PySem.W.findIn K (.ref C) "__class__" = some (some (.builtin "object.__class__"))) && (decide (PySem.W.specialIn K (.builtin "object.__class__") "__get__" = some (some (.builtin "getset_descriptor.__get__"))) &&
  (decide (PySem.W.takesIn K (.builtin "object.__class__") = some true) && decide (PySem.W.mroIn K C (.type "object") = some true)))))))
theorem exiB_ok {K : PySem.W.Frag} {C : Addr} (h : exiB K C = true) : ExcI K C := by
  unfold exiB at h
  simp only [Bool.and_eq_true, decide_eq_true_eq] at h
  obtain ⟨h1, h2, h3, h4, h5, h6, h7, h8⟩ := h
  exact ⟨h1, h2, h3, h4, h5, h6, h7, h8⟩
def XF.ok (K : PySem.W.Frag) (A : Nat → Nat) : XF → Bool
  | .exi i => exiB K (A i)
  | .one i j b => decide (PySem.W.kitOne K (.ref (A i)) (.ref (A j)) = some b)
  | .oneT i T b => decide (PySem.W.kitOne K (.ref (A i)) (.type T) = some b)
  | .tup i js b => decide (PySem.W.kitAny K (.ref (A i)) (js.map fun j => .ref (A j)) = some b)
  | .exm i j b => decide (PySem.W.exmOne K (.ref (A i)) (.ref (A j)) = some b)
def XF.says (K : PySem.W.Frag) (A : Nat → Nat) : XF → Prop
  | .exi i => ExcI K (A i)
  | .one i j b => PySem.W.kitOne K (.ref (A i)) (.ref (A j)) = some b
  | .oneT i T b => PySem.W.kitOne K (.ref (A i)) (.type T) = some b
  | .tup i js b => PySem.W.kitAny K (.ref (A i)) (js.map fun j => .ref (A j)) = some b
  | .exm i j b => PySem.W.exmOne K (.ref (A i)) (.ref (A j)) = some b
theorem XF.ok_ {K : PySem.W.Frag} {A : Nat → Nat} {x : XF} (h : x.ok K A = true) : x.says K A := by
  cases x with
  | exi i => exact exiB_ok h
  | one i j b => exact of_decide_eq_true (p := PySem.W.kitOne K (.ref (A i)) (.ref (A j)) = some b) h
  | oneT i T b => exact of_decide_eq_true (p := PySem.W.kitOne K (.ref (A i)) (.type T) = some b) h
  | tup i js b => exact of_decide_eq_true (p := PySem.W.kitAny K (.ref (A i)) (js.map fun j => .ref (A j)) = some b) h
  | exm i j b => exact of_decide_eq_true (p := PySem.W.exmOne K (.ref (A i)) (.ref (A j)) = some b) h
theorem XF.exi_ok {K : PySem.W.Frag} {A : Nat → Nat} {i : Nat} (h : (XF.exi i).ok K A = true) : ExcI K (A i) := exiB_ok h
def exB (AA : PySem.W.Frag → Nat → Nat) (xs : List XF) (K : PySem.W.Frag) : Bool := xs.all fun x => x.ok K (AA K)
abbrev SaysE (AA : PySem.W.Frag → Nat → Nat) (fa : List He.Fa) (fn : List He.DefD) (xs : List XF) (w : World) (h : Heap) (K : PySem.W.Frag) : Prop := He.SaysX fa fn [] [] (exB AA xs) w h K
theorem _root_.He.SaysX.ex {AA : PySem.W.Frag → Nat → Nat} {fa : List He.Fa} {fn : List He.DefD} {xs : List XF} {w : World} {h : Heap} {K : PySem.W.Frag} (c : He.SaysX fa fn [] [] (exB AA xs) w h K) (i : Nat) {x : XF} (e : xs[i]? = some x) : x.ok K (AA K) = true :=
  List.all_eq_true.mp c.more x (List.mem_of_getElem? e)
abbrev hookE (n : Nat) (AA : PySem.W.Frag → Nat → Nat) (fa : List He.Fa) (fn : List He.DefD) (xs : List XF) : PySem.W.Hook := He.hookX n fa fn [] [] (exB AA xs)
abbrev obsE (n : Nat) (AA : PySem.W.Frag → Nat → Nat) (fa : List He.Fa) (fn : List He.DefD) (xs : List XF) (g : Addr → Option Obj) : He.AlX := He.obsX n fa fn [] [] (exB AA xs) g
end DL
set_option maxHeartbeats 4000000
/-! K18S: what each def of law_k18 computes, over data. -/
namespace K18
open PySem PySem.Spec L2 DL
/-! ### texts -/
abbrev lt (x : Str) : List Nat := x.cps.toList
def dig (c : Nat) : Bool := decide (48 ≤ c ∧ c ≤ 57)
/-- signs that are signs, so many at most, runs of figures no longer than r -/
structure TxOk (r n : Nat) (x : List Nat) : Prop where
  vd : ∀ c ∈ x, c < 0x110000
  len : x.length ≤ n
  run : ∀ y, y <:+: x → (∀ c ∈ y, dig c = true) → y.length ≤ r
def Gd (x : Str) : Prop := TxOk 600 1000000 (lt x)
def encO : Option Int → D
  | none => .none
  | some n => .int n
def numO (x : Str) : Option Int :=
  if (lt x).all dig = true ∧ lt x ≠ [] ∧ ¬ ((lt x).head? = some 48 ∧ 1 < (lt x).length) then intText? x else none
def numD (x : Str) : D := encO (numO x)
def spanD (w : Str) : D := match Txt.split w "-" with
  | [a, b] => .tuple [numD a, numD b]
  | _ => .none
def isWh (t : D) (l : Int) : Bool := match t with
  | .int i => decide (l ≤ i)
  | _ => false
def isSpan : D → Bool
  | .tuple [a, b] => isWh a 0 && isWh b 0 && (match a, b with
    | .int i, .int j => decide (i < j)
    | _, _ => false)
  | _ => false
def stepOk : D → D → Bool
  | .tuple [_, .int i], .tuple [.int j, _] => decide (i ≤ j)
  | _, _ => false
def chainD : List D → Bool
  | x :: y :: r => stepOk x y && chainD (y :: r)
  | _ => true
def isDiary : D → Bool
  | .list ds => ds.all isSpan && chainD ds
  | _ => false
def words (row : Str) : List Str := Txt.split row " "
def diaryDs (row : Str) : List D := ((words row).drop 1).map spanD
def readers : Str := "abcdefghijkl"
def letter (i : Nat) : Str := ⟨#[(lt readers).getD i 0]⟩
def headOk (i : Nat) (row : Str) : Bool := decide (i < 12) && decide ((words row)[0]? = some (letter i ++ ":"))
def headsOk : Nat → List Str → Bool
  | _, [] => true
  | i, r :: rs => headOk i r && headsOk (i + 1) rs
def rowsOf (x : Str) : List Str := Txt.split x "\n"
def foundDs (x : Str) : List D := (rowsOf x).map fun r => PyData.list (diaryDs r)
def readD (x : Str) : Option (List D) := if headsOk 0 (rowsOf x) = true ∧ (foundDs x).all isDiary = true then some (foundDs x) else none
def toldD (x : Str) : D := match readD x with
  | some ds => .list ds
  | none => .str "text"
/-! ### the program's defs -/
def g_is_whole : List D → (D → Prop) → Prop
  | [t, .int l, .none], k => plainD t = true ∧ k (.bool (isWh t l))
  | _, _ => False
def g_is_page : List D → (D → Prop) → Prop
  | [t], k => plainD t = true ∧ k (.bool (isWh t 0))
  | _, _ => False
def plain2 : D → Bool
  | .tuple ds => ds.all plainD
  | d => plainD d
def g_is_span : List D → (D → Prop) → Prop
  | [t], k => plain2 t = true ∧ k (.bool (isSpan t))
  | _, _ => False
def plain3 : D → Bool
  | .list ds => decide (ds.length ≤ 2000000) && ds.all plain2
  | d => plainD d
def g_is_diary : List D → (D → Prop) → Prop
  | [t], k => plain3 t = true ∧ k (.bool (isDiary t))
  | _, _ => False
def g_are_diaries : List D → (D → Prop) → Prop
  | [.int n, .list ds], k => ds.length ≤ 1000 ∧ ds.all plain3 = true ∧ k (.bool (decide ((ds.length : Int) = n) && ds.all isDiary))
  | _, _ => False
def g_number_in : List D → (D → Prop) → Prop
  | [.str w], k => Gd w ∧ k (numD w)
  | _, _ => False
def g_need_text (A : Nat → Nat) : List D → (D → Prop) → (Exn → Prop) → Prop
  | [.str _], k, _ => k .none
  | [d], _, kx => plainD d = true ∧ kx ⟨A 17, none⟩
  | _, _, _ => False
def g_span_in : List D → (D → Prop) → Prop
  | [.str w], k => Gd w ∧ k (spanD w)
  | _, _ => False
def g_read_diaries (A : Nat → Nat) : List D → (D → Prop) → (Exn → Prop) → Prop
  | [.str x], k, kx => Gd x ∧ (∀ ds, readD x = some ds → k (.list ds)) ∧ (readD x = none → kx ⟨A 17, none⟩)
  | [d], _, kx => plainD d = true ∧ kx ⟨A 17, none⟩
  | _, _, _ => False
/-! ### the law's own -/
def RmOk (n : Nat) (t : T) : Prop := ∃ a b m : Int, t = DL.own [.int a, .int b, .int m] ∧ 0 ≤ a ∧ 0 ≤ b ∧ b < 10 ^ 40 ∧ 0 ≤ m ∧ m ≤ n
def sd_l_ream (A : Nat → Nat) : SpD := fun cs Qr _ => ∃ (ns : List Int) (k : Nat), cs = [.own (.obj 0 (.list (ns.map PyData.int))), .val (.int k)] ∧ k < 63 ∧ (∀ z ∈ ns, Builtin.Int.intBits z ≤ 1048576) ∧
  ∀ t, RmOk 0 t → Qr (.own t) [.own (.obj 0 (.list (ns.map PyData.int))), .no]
def sd_l_leaf (A : Nat → Nat) : SpD := fun cs Qr _ => ∃ (t : T) (n : Nat) (m : Int), cs = [.own t, .val (.int m)] ∧ RmOk n t ∧ n < 10 ^ 9 ∧ 0 < m ∧ m < 10 ^ 40 ∧ ∀ r t', 0 ≤ r → r < m → RmOk (n + 1) t' → Qr (.val (.int r)) [.own t', .no]
/-- a stretch, a row, rows as drawn -/
def spOk : D → Prop
  | .tuple [.int x, .int y] => 0 ≤ x ∧ x < 10 ^ 33 ∧ 0 ≤ y ∧ y < 10 ^ 33
  | _ => False
def rowOk : D → Prop
  | .list ds => ds.length ≤ 3 ∧ ∀ d ∈ ds, spOk d
  | _ => False
def tomesOk (rows : List D) : Prop := rows ≠ [] ∧ rows.length ≤ 12 ∧ ∀ d ∈ rows, rowOk d
def sd_l_tomes (A : Nat → Nat) : SpD := fun cs Qr _ => ∃ (t : T) (n : Nat), cs = [.own t, .val (.int 12)] ∧ RmOk n t ∧ n < 10 ^ 8 ∧ ∀ rows t', tomesOk rows → RmOk (n + 1000) t' → Qr (.val (.list rows)) [.own t', .no]
def sd_l_laid (A : Nat → Nat) : SpD := fun cs Qr _ => ∃ (t : T) (n : Nat) (rows : List D), cs = [.own t, .val (.list rows)] ∧ tomesOk rows ∧ RmOk n t ∧ n < 10 ^ 8 ∧ ∀ x t', TxOk 40 50000 (lt x) → RmOk (n + 1000) t' → Qr (.val (.str x)) [.own t', .no]
def sd_l_crooked (A : Nat → Nat) : SpD := fun cs Qr _ => ∃ (t : T) (n r l : Nat) (x : Str), cs = [.own t, .val (.str x)] ∧ TxOk r l (lt x) ∧ l ≤ 400000 ∧ RmOk n t ∧ n < 10 ^ 8 ∧ ∀ y t', TxOk (2 * r + 1) (2 * l + 1000) (lt y) → RmOk (n + 1000) t' → Qr (.val (.str y)) [.own t', .no]
def g_l_number : List D → (D → Prop) → Prop
  | [.str w], k => Gd w ∧ k (numD w)
  | _, _ => False
def rowD (row l : Str) : D := if (words row)[0]? = some (l ++ ":") ∧ isDiary (.list (diaryDs row)) = true then .list (diaryDs row) else .none
def g_l_row_of : List D → (D → Prop) → Prop
  | [.str row, .str l], k => Gd row ∧ TxOk 1 1 (lt l) ∧ k (rowD row l)
  | _, _ => False
def dueD (x : Str) : D := match readD x with
  | some ds => .list ds
  | none => .none
def g_l_due : List D → (D → Prop) → Prop
  | [.str x], k => Gd x ∧ k (dueD x)
  | _, _ => False
def g_l_is_long : List D → (D → Prop) → Prop
  | [.str x], k => Gd x ∧ ∀ b, k (.bool b)
  | _, _ => False
/-- data that _law_same goes through in n steps -/
def sameOk : Nat → D → Prop
  | _, .int _ => True
  | _, .str x => ∀ c ∈ lt x, c < 0x110000
  | n + 1, .list ds => ds.length ≤ 2000000 ∧ ∀ d ∈ ds, sameOk n d
  | n + 1, .tuple ds => ds.length ≤ 2000000 ∧ ∀ d ∈ ds, sameOk n d
  | _, _ => False
def g_same (n : Nat) : List D → (D → Prop) → Prop
  | [d, e], k => d = e ∧ sameOk n d ∧ k (.bool true)
  | _, _ => False
def g_l_same : List D → (D → Prop) → Prop := g_same 8
def sd_l_word (A : Nat → Nat) : SpD := fun cs Qr _ => cs = [.val (excD (A 17))] ∧ Qr (.val (.str "text")) [.no]
def sd_l_told (A : Nat → Nat) : SpD := fun cs Qr _ => ∃ d, cs = [.val d] ∧ match d with
  | .str x => Gd x ∧ Qr (.val (toldD x)) [.no]
  | d => plainD d = true ∧ Qr (.val (.str "text")) [.no]
def sd_law (A : Nat → Nat) : SpD := fun cs Qr _ => ∃ ns : List Int, cs = [.own (.obj 0 (.list (ns.map PyData.int)))] ∧ ns.length ≤ 63 ∧ (∀ z ∈ ns, Builtin.Int.intBits z ≤ 1048576) ∧ ∀ cs', Qr (.val (.bool true)) cs'
end K18
set_option maxHeartbeats 4000000
namespace K18
open PySem PySem.Spec L2 DL
def w_l_ream (A : Nat → Nat) : WS :=
  (wSeq (wSet 2 (wIf (wTv (wOp2 gLt (.e (wVar 1)) (.e (wScLen 0)))) (wScIx 0 (wVar 1)) (wC (.int 0))))
    (wRetO (wLst [.e (wCall gMax [.e (wC (.int 0)), .e (wOp2 gSub (.e (wCall gAbs [.e (wVar 2)])) (.e (wOp2 gPow (.e (wC (.int 10))) (.e (wC (.int 18))))))]), .e (wOp2 gMod (.e (wOp2 gAdd (.e (wOp2 gAdd (.e (wOp2 gMul (.e (wVar 2)) (.e (wC (.int 128))))) (.e (wOp2 gMul (.e (wC (.int 61))) (.e (wVar 1)))))) (.e (wC (.int 5))))) (.e (wOp2 gAdd (.e (wOp2 gPow (.e (wC (.int 10))) (.e (wC (.int 38))))) (.e (wC (.int 133)))))), .e (wC (.int 0))])))
def w_need_text (A : Nat → Nat) : WS :=
  (wIfS (wNot (wTv (wIsA 2 (.e (wVar 0))))) (fun k ρ => k.ex ⟨A 17, none⟩ ρ) wNext)
def w_is_whole (A : Nat → Nat) : WS :=
  (wSeq (wIfS (wOr (wNot (wTv (wIsA 0 (.e (wVar 0))))) (wOr (wTv (wIsA 1 (.e (wVar 0)))) (wTv (wOp2 gLt (.e (wVar 0)) (.e (wVar 1)))))) (wRet (wC (.bool false))) wNext)
    (wRet (wOrV (wOp2 gIsN (.e (wVar 2)) (.e (wC .none))) (wOp2 gLe (.e (wVar 0)) (.e (wVar 2))))))
def w_is_page (A : Nat → Nat) : WS :=
  (wRet (wPV 3 g_is_whole [.none] [.e (wVar 0), .e (wC (.int 0))]))
def w_is_span (A : Nat → Nat) : WS :=
  (wRet (wAndV (wIsA 4 (.e (wVar 0))) (wAndV (wOp2 gEq (.e (wCall gLen [.e (wVar 0)])) (.e (wC (.int 2)))) (wAndV (wCall gAll [.e (wFrz (wLc (wItT (wVar 0)) (gNm 1) wYes (wPV 1 g_is_page [] [.e (wVar 1)]) [1]))]) (wOp2 gLt (.e (wOp2 gIx (.e (wVar 0)) (.e (wC (.int 0))))) (.e (wOp2 gIx (.e (wVar 0)) (.e (wC (.int 1))))))))))
def w_is_diary (A : Nat → Nat) : WS :=
  (wSeq (wIfS (wOr (wNot (wTv (wIsA 3 (.e (wVar 0))))) (wNot (wTv (wCall gAll [.e (wFrz (wLc (wItL (wVar 0)) (gNm 1) wYes (wPV 1 g_is_span [] [.e (wVar 1)]) [1]))])))) (wRet (wC (.bool false))) wNext)
    (wRet (wCall gAll [.e (wFrz (wLc (wItZ (wVar 0) (wSl (.e (wVar 0)) (.e (wC (.int 1))) .no)) (gTp 2 (gCons' (gNm 1) (gCons' (gNm 2) gNil'))) wYes (wOp2 gLe (.e (wOp2 gIx (.e (wVar 1)) (.e (wC (.int 1))))) (.e (wOp2 gIx (.e (wVar 2)) (.e (wC (.int 0)))))) [1, 2]))])))
def w_are_diaries (A : Nat → Nat) : WS :=
  (wRet (wAndV (wIsA 3 (.e (wVar 1))) (wAndV (wOp2 gEq (.e (wCall gLen [.e (wVar 1)])) (.e (wVar 0))) (wCall gAll [.e (wFrz (wLc (wItL (wVar 1)) (gNm 2) wYes (wPV 1 g_is_diary [] [.e (wVar 2)]) [2]))]))))
def w_number_in (A : Nat → Nat) : WS :=
  (wSeq (wIfS (wOr (wNot (wTv (wChain gLe gLe (.e (wC (.int 1))) (.e (wCall gLen [.e (wVar 0)])) (.e (wC (.int 1000)))))) (wNot (wTv (wCall gAll [.e (wFrz (wLc (wItS (wVar 0)) (gNm 1) wYes (wOp2 gIn (.e (wVar 1)) (.e (wC (.str "0123456789")))) [1]))])))) (wRet (wC .none)) wNext)
    (wRet (wIf (wAnd (wTv (wOp2 gEq (.e (wOp2 gIx (.e (wVar 0)) (.e (wC (.int 0))))) (.e (wC (.str "0"))))) (wTv (wOp2 gNe (.e (wVar 0)) (.e (wC (.str "0")))))) (wC .none) (wCall gInt [.e (wVar 0)]))))
def w_span_in (A : Nat → Nat) : WS :=
  (wSeq (wSet 1 (wFrz (wMtO "str" gSplitO (.e (wVar 0)) [.e (wC (.str "-"))])))
    (wRet (wIf (wTv (wOp2 gEq (.e (wCall gLen [.e (wVar 1)])) (.e (wC (.int 2))))) (wTup [.e (wPV 1 g_number_in [] [.e (wOp2 gIx (.e (wVar 1)) (.e (wC (.int 0))))]), .e (wPV 1 g_number_in [] [.e (wOp2 gIx (.e (wVar 1)) (.e (wC (.int 1))))])]) (wC .none))))
def w_read_diaries (A : Nat → Nat) : WS :=
  (wSeq (wDrop (wPX 1 (g_need_text A) [] [.e (wVar 0)]))
    (wSeq (fun k ρ => 1 < ρ.length ∧ wSetO 1 (wLst []) k ρ)
    (wSeq (wFor (wItE (.e (wFrz (wMtO "str" gSplitO (.e (wVar 0)) [.e (wC (.str "\n"))])))) (gTp 2 (gCons' (gNm 2) (gCons' (gNm 3) gNil'))) (wSeq (wSet 4 (wFrz (wMtO "str" gSplitO (.e (wVar 3)) [.e (wC (.str " "))])))
    (wSeq (wIfS (wOr (wTv (wOp2 gGe (.e (wVar 2)) (.e (wC (.int 12))))) (wTv (wOp2 gNe (.e (wOp2 gIx (.e (wVar 4)) (.e (wC (.int 0))))) (.e (wOp2 gAdd (.e (wOp2 gIx (.e (wC (.str "abcdefghijkl"))) (.e (wVar 2)))) (.e (wC (.str ":")))))))) (fun k ρ => k.ex ⟨A 17, none⟩ ρ) wNext)
    (wDrop (wMu 1 gAppend [.e (wFrz (wLc (wItL (wSl (.e (wVar 4)) (.e (wC (.int 1))) .no)) (gNm 5) wYes (wPV 1 g_span_in [] [.e (wVar 5)]) [5]))])))))
    (wSeq (wIfS (wNot (wTv (wPV 2 g_are_diaries [] [.e (wCall gLen [.own 1]), .e (wFz 1)]))) (fun k ρ => k.ex ⟨A 17, none⟩ ρ) wNext)
    (wRet (wVar 1))))))
def w_l_word (A : Nat → Nat) : WS :=
  (wSeq (fun k ρ => 1 < ρ.length ∧ wSetO 1 (wLst [.e (wTup [.e (wC (.str "stand")), .e (wIsX (tI A [17] [false]) (wVar 0))]), .e (wTup [.e (wC (.str "marks")), .e (wIsX (tI A [17] [false]) (wVar 0))])]) k ρ)
    (wSeq (fun k ρ => 1 < ρ.length ∧ wSetO 1 (wOp2o gCatL (.own 1) (.e (wFrz (wLst [.e (wTup [.e (wC (.str "reading")), .e (wIsX (tI A [17] [false]) (wVar 0))]), .e (wTup [.e (wC (.str "counts")), .e (wIsX (tI A [17] [false]) (wVar 0))])])))) k ρ)
    (wSeq (fun k ρ => 1 < ρ.length ∧ wSetO 1 (wOp2o gCatL (.own 1) (.e (wFrz (wLst [.e (wTup [.e (wC (.str "history")), .e (wIsX (tI A [17] [false]) (wVar 0))]), .e (wTup [.e (wC (.str "diaries")), .e (wIsX (tI A [17] [false]) (wVar 0))])])))) k ρ)
    (wSeq (wDrop (wMu 1 gAppend [.e (wTup [.e (wC (.str "text")), .e (wIsX (tI A [17] [true]) (wVar 0))])]))
    (wSeq (wSet 2 (wIsX (tI A [17] [false]) (wVar 0)))
    (wSeq (wSet 2 (wOrV (wVar 2) (wIsX (tI A [17] [false]) (wVar 0))))
    (wSeq (wSet 3 (wFrz (wLc (wItL (wFz 1)) (gTp 2 (gCons' (gNm 4) (gCons' (gNm 5) gNil'))) (wTv (wVar 5)) (wVar 4) [4, 5])))
    (wRet (wIf (wOr (wTv (wVar 2)) (wOr (wTv (wOp2 gNe (.e (wCall gLen [.e (wVar 3)])) (.e (wC (.int 1))))) (wNot (wTv (wIsX (tI A [17] [true]) (wVar 0)))))) (wC (.str "odd")) (wOp2 gIx (.e (wVar 3)) (.e (wC (.int 0)))))))))))))
def w_l_told (A : Nat → Nat) : WS :=
  (wSeq (wSet 1 (wC .none))
    (wSeq (wSet 2 (wC .none))
    (wSeq (wTry (wSet 1 (wPX 1 (g_read_diaries A) [] [.e (wVar 0)])) [(some 3, tI A [17] [true], (wSet 2 (wVar 3)))])
    (wRet (wIf (wTv (wOp2 gIsN (.e (wVar 2)) (.e (wC .none)))) (wVar 1) (wFnV (sd_l_word A) [] 1 [] [.e (wVar 2)]))))))
def w_l_leaf (A : Nat → Nat) : WS :=
  (wSeq (wIfS (wTv (wOp2 gGt (.e (wOp2 gIx (.own 0) (.e (wC (.int 0))))) (.e (wC (.int 0))))) (wSeq (wSet 2 (wOp2 gMod (.e (wOp2 gIx (.own 0) (.e (wC (.int 0))))) (.e (wVar 1))))
    (wSeq (wSetIx 0 (.e (wC (.int 0))) (wOp2 gFdiv (.e (wOp2 gIx (.own 0) (.e (wC (.int 0))))) (.e (wVar 1))))
    (wRet (wVar 2)))) wNext)
    (wSeq (wSetIx 0 (.e (wC (.int 2))) (wOp2 gAdd (.e (wOp2 gIx (.own 0) (.e (wC (.int 2))))) (.e (wC (.int 1)))))
    (wSeq (wSet 3 (wOp2 gMod (.e (wOp2 gPow (.e (wOp2 gAdd (.e (wOp2 gIx (.own 0) (.e (wC (.int 1))))) (.e (wOp2 gMul (.e (wC (.int 53982847))) (.e (wOp2 gIx (.own 0) (.e (wC (.int 2))))))))) (.e (wC (.int 2))))) (.e (wOp2 gAdd (.e (wOp2 gPow (.e (wC (.int 10))) (.e (wC (.int 41))))) (.e (wC (.int 37)))))))
    (wSeq (wSet 3 (wOp2 gMod (.e (wOp2 gPow (.e (wOp2 gAdd (.e (wOp2 gMul (.e (wVar 3)) (.e (wC (.int 31))))) (.e (wOp2 gMul (.e (wC (.int 7))) (.e (wOp2 gIx (.own 0) (.e (wC (.int 2))))))))) (.e (wC (.int 3))))) (.e (wOp2 gAdd (.e (wOp2 gPow (.e (wC (.int 10))) (.e (wC (.int 43))))) (.e (wC (.int 103)))))))
    (wRet (wOp2 gMod (.e (wOp2 gFdiv (.e (wVar 3)) (.e (wOp2 gPow (.e (wC (.int 10))) (.e (wC (.int 6))))))) (.e (wVar 1))))))))
def w_l_laid (A : Nat → Nat) : WS :=
  (wSeq (fun k ρ => 2 < ρ.length ∧ wSetO 2 (wLst []) k ρ)
    (wSeq (wFor (wItE (.e (wVar 1))) (gTp 2 (gCons' (gNm 3) (gCons' (gNm 4) gNil'))) (wSeq (wSet 5 (wFrz (wLc (wItL (wOp2 gIx (.e (wFrz (wLst [.e (wVar 4), .e (wVar 4), .e (wVar 4), .e (wFrz (wRev (.e (wVar 4))))]))) (.e (wFnV (sd_l_leaf A) [0] 2 [] [.own 0, .e (wC (.int 4))])))) (gTp 2 (gCons' (gNm 8) (gCons' (gNm 9) gNil'))) wYes (wOp2 gAdd (.e (wOp2 gAdd (.e (wCall gStr [.e (wVar 8)])) (.e (wC (.str "-"))))) (.e (wCall gStr [.e (wVar 9)]))) [8, 9])))
    (wDrop (wMu 2 gAppend [.e (wMt "str" gJoin (.e (wC (.str " "))) [.e (wOp2 gAdd (.e (wFrz (wLst [.e (wOp2 gAdd (.e (wOp2 gIx (.e (wC (.str "abcdefghijkl"))) (.e (wVar 3)))) (.e (wC (.str ":"))))]))) (.e (wVar 5)))])]))))
    (wSeq (wSet 6 (wFnV (sd_l_leaf A) [0] 2 [] [.own 0, .e (wCall gLen [.own 2])]))
    (wSeq (wSet 7 (wFrz (wLst [.e (wFz 2), .e (wVar 2), .e (wOp2 gAdd (.e (wSl (.e (wVar 2)) .no (.e (wVar 6)))) (.e (wSl (.e (wVar 2)) (.e (wOp2 gAdd (.e (wVar 6)) (.e (wC (.int 1))))) .no))), .e (wFrz (wRev (.e (wVar 2)))), .e (wOp2 gAdd (.e (wSl (.e (wVar 2)) .no (.e (wOp2 gAdd (.e (wVar 6)) (.e (wC (.int 1))))))) (.e (wSl (.e (wVar 2)) (.e (wVar 6)) .no))), .e (wSl (.e (wOp2 gMul (.e (wVar 2)) (.e (wC (.int 13))))) .no (.e (wC (.int 13)))), .e (wOp2 gAdd (.e (wVar 2)) (.e (wFrz (wLst [.e (wC (.str ""))]))))])))
    (wRet (wMt "str" gJoin (.e (wC (.str "\n"))) [.e (wOp2 gIx (.e (wVar 7)) (.e (wFnV (sd_l_leaf A) [0] 2 [] [.own 0, .e (wC (.int 7))])))]))))))
def w_l_crooked (A : Nat → Nat) : WS :=
  (wSeq (wPar 2 3 [.e (wFnV (sd_l_leaf A) [0] 2 [] [.own 0, .e (wOp2 gAdd (.e (wCall gLen [.e (wVar 1)])) (.e (wC (.int 1))))]), .e (wFnV (sd_l_leaf A) [0] 2 [] [.own 0, .e (wOp2 gAdd (.e (wCall gLen [.e (wVar 1)])) (.e (wC (.int 1))))])])
    (wSeq (wSet 4 (wOp2 gIx (.e (wC (.str " 0123456789-|:abcdlmzA+.\n\t_"))) (.e (wFnV (sd_l_leaf A) [0] 2 [] [.own 0, .e (wC (.int 27))]))))
    (wSeq (wSet 5 (wCall gMin [.e (wVar 2), .e (wVar 3)]))
    (wSeq (wSet 6 (wCall gMax [.e (wVar 2), .e (wVar 3)]))
    (wSeq (wSet 7 (wFrz (wLst [.e (wOp2 gAdd (.e (wOp2 gAdd (.e (wSl (.e (wVar 1)) .no (.e (wVar 2)))) (.e (wVar 4)))) (.e (wSl (.e (wVar 1)) (.e (wVar 2)) .no))), .e (wOp2 gAdd (.e (wSl (.e (wVar 1)) .no (.e (wVar 2)))) (.e (wSl (.e (wVar 1)) (.e (wOp2 gAdd (.e (wVar 2)) (.e (wC (.int 1))))) .no))), .e (wOp2 gAdd (.e (wOp2 gAdd (.e (wSl (.e (wVar 1)) .no (.e (wVar 2)))) (.e (wVar 4)))) (.e (wSl (.e (wVar 1)) (.e (wOp2 gAdd (.e (wVar 2)) (.e (wC (.int 1))))) .no)))])))
    (wSeq (wSet 7 (wOp2 gAdd (.e (wVar 7)) (.e (wFrz (wLst [.e (wOp2 gAdd (.e (wSl (.e (wVar 1)) .no (.e (wVar 5)))) (.e (wSl (.e (wVar 1)) (.e (wVar 6)) .no))), .e (wOp2 gAdd (.e (wSl (.e (wVar 1)) .no (.e (wVar 6)))) (.e (wSl (.e (wVar 1)) (.e (wVar 5)) .no))), .e (wSl (.e (wVar 1)) (.e (wVar 5)) (.e (wVar 6))), .e (wOp2 gAdd (.e (wSl (.e (wVar 1)) (.e (wVar 6)) .no)) (.e (wSl (.e (wVar 1)) .no (.e (wVar 6)))))])))))
    (wSeq (wSet 7 (wOp2 gAdd (.e (wVar 7)) (.e (wFrz (wLst [.e (wOp2 gAdd (.e (wVar 1)) (.e (wSl (.e (wVar 1)) .no (.e (wC (.int 900)))))), .e (wC (.str "")), .e (wOp2 gAdd (.e (wVar 1)) (.e (wVar 4)))])))))
    (wRet (wOp2 gIx (.e (wVar 7)) (.e (wFnV (sd_l_leaf A) [0] 2 [] [.own 0, .e (wC (.int 10))])))))))))))
def w_l_tomes (A : Nat → Nat) : WS :=
  (wSeq (fun k ρ => 2 < ρ.length ∧ wSetO 2 (wLst []) k ρ)
    (wSeq (wFor (wItR1 (wOp2 gAdd (.e (wC (.int 1))) (.e (wFnV (sd_l_leaf A) [0] 2 [] [.own 0, .e (wVar 1)])))) (gNm 3) (wSeq (fun k ρ => 4 < ρ.length ∧ wSetO 4 (wLst []) k ρ)
    (wSeq (wSet 5 (wOp2 gIx (.e (wFrz (wLst [.e (wC (.int 0)), .e (wFnV (sd_l_leaf A) [0] 2 [] [.own 0, .e (wC (.int 9))]), .e (wFnV (sd_l_leaf A) [0] 2 [] [.own 0, .e (wOp2 gPow (.e (wC (.int 10))) (.e (wC (.int 30))))])]))) (.e (wFnV (sd_l_leaf A) [0] 2 [] [.own 0, .e (wC (.int 3))]))))
    (wSeq (wFor (wItR1 (wFnV (sd_l_leaf A) [0] 2 [] [.own 0, .e (wC (.int 4))])) (gNm 6) (wSeq (wSet 7 (wOp2 gAdd (.e (wVar 5)) (.e (wOp2 gIx (.e (wFrz (wLst [.e (wC (.int 0)), .e (wC (.int 0)), .e (wFnV (sd_l_leaf A) [0] 2 [] [.own 0, .e (wC (.int 5))])]))) (.e (wFnV (sd_l_leaf A) [0] 2 [] [.own 0, .e (wC (.int 3))]))))))
    (wSeq (wSet 5 (wOp2 gAdd (.e (wOp2 gAdd (.e (wVar 7)) (.e (wC (.int 1))))) (.e (wOp2 gIx (.e (wFrz (wLst [.e (wC (.int 0)), .e (wFnV (sd_l_leaf A) [0] 2 [] [.own 0, .e (wC (.int 30))]), .e (wFnV (sd_l_leaf A) [0] 2 [] [.own 0, .e (wOp2 gPow (.e (wC (.int 10))) (.e (wC (.int 30))))])]))) (.e (wFnV (sd_l_leaf A) [0] 2 [] [.own 0, .e (wC (.int 3))]))))))
    (wDrop (wMu 4 gAppend [.e (wTup [.e (wVar 7), .e (wVar 5)])])))))
    (wDrop (wMu 2 gAppend [.e (wFz 4)]))))))
    (wRet (wFz 2))))
def w_l_number (A : Nat → Nat) : WS :=
  (wSeq (wIfS (wOr (wTv (wOp2 gEq (.e (wVar 0)) (.e (wC (.str ""))))) (wTv (wOp2 gNe (.e (wFrz (wLc (wItS (wVar 0)) (gNm 1) (wTv (wOp2 gNotIn (.e (wVar 1)) (.e (wC (.str "0123456789"))))) (wVar 1) [1]))) (.e (wFrz (wLst [])))))) (wRet (wC .none)) wNext)
    (wRet (wIf (wAnd (wTv (wOp2 gEq (.e (wOp2 gIx (.e (wVar 0)) (.e (wC (.int 0))))) (.e (wC (.str "0"))))) (wTv (wOp2 gGt (.e (wCall gLen [.e (wVar 0)])) (.e (wC (.int 1)))))) (wC .none) (wCall gInt [.e (wVar 0)]))))
def w_l_row_of (A : Nat → Nat) : WS :=
  (wSeq (wSet 2 (wFrz (wMtO "str" gSplitO (.e (wVar 0)) [.e (wC (.str " "))])))
    (wSeq (wIfS (wTv (wOp2 gNe (.e (wOp2 gIx (.e (wVar 2)) (.e (wC (.int 0))))) (.e (wOp2 gAdd (.e (wVar 1)) (.e (wC (.str ":"))))))) (wRet (wC .none)) wNext)
    (wSeq (fun k ρ => 3 < ρ.length ∧ wSetO 3 (wLst []) k ρ)
    (wSeq (wFor (wItL (wSl (.e (wVar 2)) (.e (wC (.int 1))) .no)) (gNm 4) (wSeq (wSet 5 (wFrz (wLc (wItL (wFrz (wMtO "str" gSplitO (.e (wVar 4)) [.e (wC (.str "-"))]))) (gNm 6) wYes (wPV 1 g_l_number [] [.e (wVar 6)]) [6])))
    (wSeq (wIfS (wOr (wTv (wOp2 gNe (.e (wCall gLen [.e (wVar 5)])) (.e (wC (.int 2))))) (wOr (wTv (wOp2 gIn (.e (wC .none)) (.e (wVar 5)))) (wTv (wOp2 gGe (.e (wOp2 gIx (.e (wVar 5)) (.e (wC (.int 0))))) (.e (wOp2 gIx (.e (wVar 5)) (.e (wC (.int 1))))))))) (wRet (wC .none)) wNext)
    (wSeq (wIfS (wAnd (wTv (wOp2 gNe (.own 3) (.e (wFrz (wLst []))))) (wTv (wOp2 gLt (.e (wOp2 gIx (.e (wVar 5)) (.e (wC (.int 0))))) (.e (wOp2 gIx (.e (wOp2 gIx (.own 3) (.e (wOp1 gNeg (.e (wC (.int 1))))))) (.e (wC (.int 1)))))))) (wRet (wC .none)) wNext)
    (wDrop (wMu 3 gAppend [.e (wTup [.e (wOp2 gIx (.e (wVar 5)) (.e (wC (.int 0)))), .e (wOp2 gIx (.e (wVar 5)) (.e (wC (.int 1))))])]))))))
    (wRet (wFz 3))))))
def w_l_due (A : Nat → Nat) : WS :=
  (wSeq (wSet 1 (wFrz (wMtO "str" gSplitO (.e (wVar 0)) [.e (wC (.str "\n"))])))
    (wSeq (wIfS (wTv (wOp2 gGt (.e (wCall gLen [.e (wVar 1)])) (.e (wC (.int 12))))) (wRet (wC .none)) wNext)
    (wSeq (wSet 2 (wFrz (wLc (wItE (.e (wVar 1))) (gTp 2 (gCons' (gNm 3) (gCons' (gNm 4) gNil'))) wYes (wPV 2 g_l_row_of [] [.e (wVar 4), .e (wOp2 gIx (.e (wC (.str "abcdefghijkl"))) (.e (wVar 3)))]) [3, 4])))
    (wRet (wIf (wTv (wOp2 gIn (.e (wC .none)) (.e (wVar 2)))) (wC .none) (wVar 2))))))
def w_l_is_long (A : Nat → Nat) : WS :=
  (wSeq (wAsg (wTup [.e (wC (.int 0)), .e (wC (.int 0))]) (gTp 2 (gCons' (gNm 1) (gCons' (gNm 2) gNil'))))
    (wSeq (wFor (wItS (wVar 0)) (gNm 3) (wSeq (wSet 1 (wIf (wTv (wOp2 gIn (.e (wVar 3)) (.e (wC (.str "0123456789"))))) (wOp2 gAdd (.e (wVar 1)) (.e (wC (.int 1)))) (wC (.int 0))))
    (wSet 2 (wCall gMax [.e (wVar 2), .e (wVar 1)]))))
    (wRet (wOp2 gGt (.e (wVar 2)) (.e (wC (.int 40)))))))
def w_l_same (A : Nat → Nat) (gself : List D → (D → Prop) → Prop) : WS :=
  (wSeq (wIfS (wOr (wTv (wIsA 3 (.e (wVar 1)))) (wTv (wIsA 4 (.e (wVar 1))))) (wSeq (wIfS (wOr (wTv (wOp2 gNe (.e (wIsA 3 (.e (wVar 0)))) (.e (wIsA 3 (.e (wVar 1)))))) (wTv (wOp2 gNe (.e (wIsA 4 (.e (wVar 0)))) (.e (wIsA 4 (.e (wVar 1))))))) (wRet (wC (.bool false))) wNext)
    (wRet (wAndV (wOp2 gEq (.e (wCall gLen [.e (wVar 0)])) (.e (wCall gLen [.e (wVar 1)]))) (wCall gAll [.e (wFrz (wLc (wItR1 (wCall gLen [.e (wVar 1)])) (gNm 2) wYes (wPV 2 gself [] [.e (wOp2 gIx (.e (wVar 0)) (.e (wVar 2))), .e (wOp2 gIx (.e (wVar 1)) (.e (wVar 2)))]) [2]))])))) wNext)
    (wSeq (wIfS (wOr (wTv (wOp2 gIsN (.e (wVar 1)) (.e (wC .none)))) (wTv (wOp2 gIsN (.e (wVar 0)) (.e (wC .none))))) (wRet (wAndV (wOp2 gIsN (.e (wVar 1)) (.e (wC .none))) (wOp2 gIsN (.e (wVar 0)) (.e (wC .none))))) wNext)
    (wSeq (wIfS (wOr (wTv (wOp2 gNe (.e (wIsA 1 (.e (wVar 1)))) (.e (wIsA 1 (.e (wVar 0)))))) (wTv (wOp2 gNe (.e (wIsA 2 (.e (wVar 1)))) (.e (wIsA 2 (.e (wVar 0))))))) (wRet (wC (.bool false))) wNext)
    (wRet (wOp2 gEq (.e (wVar 0)) (.e (wVar 1)))))))
def w_law (A : Nat → Nat) : WS :=
  (wSeq (wFor (wItL (wFrz (wLst [.e (wC .none), .e (wC (.int 0)), .e (wC (.bool true)), .e (wFrz (wLst [])), .e (wFrz (wLst [.e (wC (.str "a: 0-1"))])), .e (wFrz (wLst [.e (wFrz (wLst [.e (wTup [.e (wC (.int 0)), .e (wC (.int 1))])]))])), .e (wC (.dict []))]))) (gNm 1) (wIfS (wTv (wOp2 gNe (.e (wFnV (sd_l_told A) [] 1 [] [.e (wVar 1)])) (.e (wC (.str "text"))))) (wRet (wC (.bool false))) wNext))
    (wSeq (wSet 2 (wMt "str" gJoin (.e (wC (.str "\n"))) [.e (wFrz (wLc (wItR1 (wC (.int 13))) (gNm 10) wYes (wOp2 gAdd (.e (wOp2 gIx (.e (wC (.str "abcdefghijklm"))) (.e (wVar 10)))) (.e (wC (.str ": 0-1")))) [10]))]))
    (wSeq (wIfS (wOr (wTv (wOp2 gNe (.e (wFnV (sd_l_told A) [] 1 [] [.e (wVar 2)])) (.e (wC (.str "text"))))) (wOr (wTv (wOp2 gNe (.e (wFnV (sd_l_told A) [] 1 [] [.e (wC (.str "a: 5-5"))])) (.e (wC (.str "text"))))) (wTv (wOp2 gNe (.e (wFnV (sd_l_told A) [] 1 [] [.e (wC (.str "a: 5-7 6-8"))])) (.e (wC (.str "text"))))))) (wRet (wC (.bool false))) wNext)
    (wSeq (wFor (wItR1 (wCall gMax [.e (wC (.int 1)), .e (wCall gMin [.e (wC (.int 10)), .e (wScLen 0)])])) (gNm 3) (wSeq (fun k ρ => 4 < ρ.length ∧ wSetO 4 (wFnT (sd_l_ream A) [0] 2 [] [.own 0, .e (wVar 3)]) k ρ)
    (wFor (wItR1 (wC (.int 5))) (gNm 5) (wSeq (wSet 6 (wFnV (sd_l_laid A) [0] 2 [] [.own 4, .e (wFnV (sd_l_tomes A) [0] 2 [] [.own 4, .e (wC (.int 12))])]))
    (wSeq (wSet 7 (wFnV (sd_l_crooked A) [0] 2 [] [.own 4, .e (wVar 6)]))
    (wFor (wItL (wFrz (wLst [.e (wVar 6), .e (wVar 7), .e (wFnV (sd_l_crooked A) [0] 2 [] [.own 4, .e (wVar 7)])]))) (gNm 8) (wSeq (wSet 9 (wPV 1 g_l_due [] [.e (wVar 8)]))
    (wSeq (wSet 9 (wIf (wTv (wOp2 gIsN (.e (wVar 9)) (.e (wC .none)))) (wC (.str "text")) (wVar 9)))
    (wIfS (wAnd (wNot (wTv (wPV 1 g_l_is_long [] [.e (wVar 8)]))) (wNot (wTv (wPV 2 g_l_same [] [.e (wFnV (sd_l_told A) [] 1 [] [.e (wVar 8)]), .e (wVar 9)])))) (wRet (wC (.bool false))) wNext)))))))))
    (wRet (wC (.bool true)))))))
end K18
set_option maxHeartbeats 4000000
/-! K18M1: the program's readings answer as told. -/
namespace K18
open PySem PySem.Spec L2 DL
theorem hw_is_whole {A : Nat → Nat} : ∀ cs Qr Qx, cs.length = 3 → pureSd 3 g_is_whole cs Qr Qx → w_is_whole A (kOf [] 3 Qr Qx) (initC ["thing", "least", "most"] cs) := by
  rintro cs Qr Qx - ⟨ds, rfl, h⟩
  unfold g_is_whole at h
  split at h
  · rename_i kk t l
    obtain ⟨hp, h⟩ := h
    show w_is_whole A (kOf [] 3 Qr Qx) [.val t, .val (.int l), .val .none]
    unfold w_is_whole
    cases t with
    | int i =>
      have h : Qr (.val (.bool (decide (l ≤ i)))) [.no, .no, .no] := h
      simp [isA]
      by_cases hi : i < l
      · rw [if_pos hi]
        rwa [decide_eq_false (by omega)] at h
      · rw [if_neg hi]
        rwa [decide_eq_true (by omega)] at h
    | dict kv =>
      have h : Qr (.val (.bool false)) [.no, .no, .no] := h
      simp [isA, hp]
      exact h
    | _ =>
      have h : Qr (.val (.bool false)) [.no, .no, .no] := h
      simp [isA]
      exact h
  · exact h.elim
theorem hw_is_page {A : Nat → Nat} : ∀ cs Qr Qx, cs.length = 1 → pureSd 1 g_is_page cs Qr Qx → w_is_page A (kOf [] 1 Qr Qx) (initC ["thing"] cs) := by
  rintro cs Qr Qx - ⟨ds, rfl, h⟩
  unfold g_is_page at h
  split at h
  · rename_i kk t
    obtain ⟨hp, h⟩ := h
    show w_is_page A (kOf [] 1 Qr Qx) [.val t]
    unfold w_is_page
    simp [g_is_whole, hp]
    exact h
  · exact h.elim
theorem hw_is_span {A : Nat → Nat} : ∀ cs Qr Qx, cs.length = 1 → pureSd 1 g_is_span cs Qr Qx → w_is_span A (kOf [] 1 Qr Qx) (initC ["thing", "one"] cs) := by
  rintro cs Qr Qx - ⟨ds, rfl, h⟩
  unfold g_is_span at h
  split at h
  · rename_i kk t
    obtain ⟨hp, h⟩ := h
    show w_is_span A (kOf [] 1 Qr Qx) [.val t, .no]
    unfold w_is_span
    cases t with
    | tuple ds =>
      match ds, hp, h with
      | [], hp, h =>
        have h : Qr (.val (.bool false)) [.no] := h
        simp [isA]
        exact h
      | [a], hp, h =>
        have h : Qr (.val (.bool false)) [.no] := h
        simp [isA]
        exact h
      | [a, b], hp, h =>
        have hp : (plainD a && (plainD b && true)) = true := hp
        simp at hp
        have e2 : ¬ (sizeLine ≤ 0) := by decide
        simp [isA, lcLoop, g_is_page, hp, gAll, blsOf]
        refine ⟨by rw [sizeLine_eq]; decide, by rw [sizeLine_eq]; decide, ?_⟩
        have h : Qr (.val (.bool (isSpan (PyData.tuple [a, b])))) [.no] := h
        cases a with
        | int i =>
          cases b with
          | int j =>
            simp [isWh]
            simp [isSpan, isWh] at h
            by_cases h1 : i < 0 ∨ j < 0
            · rw [if_pos h1]
              have e : (decide (0 ≤ i) && decide (0 ≤ j) && decide (i < j)) = false := by
                rcases h1 with h1 | h1
                · rw [decide_eq_false (show ¬ 0 ≤ i by omega)]; rfl
                · rw [decide_eq_false (show ¬ 0 ≤ j by omega)]; cases decide (0 ≤ i) <;> rfl
              rwa [e] at h
            · rw [if_neg h1]
              rw [decide_eq_true (show 0 ≤ i by omega), decide_eq_true (show 0 ≤ j by omega)] at h
              exact h
          | _ => simpa [isSpan, isWh] using h
        | _ => simpa [isSpan, isWh] using h
      | a :: b :: c :: r, hp, h =>
        have h : Qr (.val (.bool false)) [.no] := h
        simp [isA]
        rw [if_neg (by omega)]
        exact h
    | dict kv =>
      have h : Qr (.val (.bool false)) [.no] := h
      simp [isA]
      exact ⟨hp, h⟩
    | _ =>
      have h : Qr (.val (.bool false)) [.no] := h
      simp [isA]
      exact h
  · exact h.elim
theorem stepOk_of {x y : D} (hx : isSpan x = true) (hy : isSpan y = true) : ∃ a i j b : Int, x = .tuple [.int a, .int i] ∧ y = .tuple [.int j, .int b] := by
  unfold isSpan at hx hy
  split at hx
  · rename_i a i
    split at hy
    · rename_i j b
      cases a <;> cases i <;> simp_all
      cases j <;> cases b <;> simp_all
    · cases hy
  · cases hx
theorem mem_zipD {d : D} : ∀ {xs ys : List D}, d ∈ zipD xs ys → ∃ x y, d = .tuple [x, y] ∧ x ∈ xs ∧ y ∈ ys
  | x :: xs, y :: ys, h => by
    have h : d ∈ PyData.tuple [x, y] :: zipD xs ys := h
    rcases List.mem_cons.mp h with e | h
    · exact ⟨x, y, e, List.mem_cons_self, List.mem_cons_self⟩
    · obtain ⟨x', y', e, h1, h2⟩ := mem_zipD h
      exact ⟨x', y', e, List.mem_cons_of_mem _ h1, List.mem_cons_of_mem _ h2⟩
  | [], ys, h => by simp [zipD] at h
  | x :: xs, [], h => by simp [zipD] at h
def stepP : D → Bool
  | .tuple [x, y] => stepOk x y
  | _ => false
theorem zip_chain : ∀ ds : List D, (zipD ds (ds.drop 1)).all stepP = chainD ds
  | [] => rfl
  | [x] => rfl
  | x :: y :: r => by
    show (stepOk x y && (zipD (y :: r) r).all stepP) = (stepOk x y && chainD (y :: r))
    rw [← zip_chain (y :: r)]
    rfl
theorem hw_is_diary {A : Nat → Nat} : ∀ cs Qr Qx, cs.length = 1 → pureSd 1 g_is_diary cs Qr Qx → w_is_diary A (kOf [] 1 Qr Qx) (initC ["thing", "one", "other"] cs) := by
  rintro cs Qr Qx - ⟨ds, rfl, h⟩
  unfold g_is_diary at h
  split at h
  · rename_i kk t
    obtain ⟨hp, h⟩ := h
    show w_is_diary A (kOf [] 1 Qr Qx) [.val t, .no, .no]
    unfold w_is_diary
    cases t with
    | list ds =>
      have h : Qr (.val (.bool (ds.all isSpan && chainD ds))) [.no] := h
      have hp : (decide (ds.length ≤ 2000000) && ds.all plain2) = true := hp
      rw [Bool.and_eq_true, decide_eq_true_eq, List.all_eq_true] at hp
      obtain ⟨hl, hp⟩ := hp
      have hz : ds.length ≤ sizeLine := Nat.le_trans hl (Nat.le_trans (by decide) sizeLine_big)
      simp [isA]
      refine lc_map (fun d => .bool (isSpan d)) trivial ds (fun d hd R hR => ?_) hz ?_
      · simp [g_is_span, hp d hd]
        exact hR _ rfl
      · cases e : ds.all isSpan with
        | false =>
          rw [e] at h
          simp [e]
          exact h
        | true =>
          rw [e] at h
          have ha := List.all_eq_true.mp e
          simp [e]
          rw [cutD_from1]
          refine lc_map (fun d => .bool (stepP d)) trivial _ (fun d hd R hR => ?_) ?_ ?_
          · obtain ⟨x, y, rfl, hx, hy⟩ := mem_zipD hd
            obtain ⟨a, i, j, b, rfl, rfl⟩ := stepOk_of (ha x hx) (ha y (List.mem_of_mem_drop hy))
            simp
            exact hR _ rfl
          · rw [zipD_length]
            omega
          · simp
            rw [← List.drop_one, zip_chain]
            exact h
    | dict kv =>
      have h : Qr (.val (.bool false)) [.no] := h
      have hp : plainD (.dict kv) = true := hp
      simp [isA, hp]
      exact h
    | _ =>
      have h : Qr (.val (.bool false)) [.no] := h
      simp [isA]
      exact h
  · exact h.elim
end K18
set_option maxHeartbeats 4000000
/-! K18M2: the program's readings of texts. -/
namespace K18
open PySem PySem.Spec L2 DL
theorem TxOk.inf {r n : Nat} {x y : List Nat} (h : TxOk r n x) (i : y <:+: x) : TxOk r n y :=
  ⟨fun c hc => h.vd c (i.subset hc), Nat.le_trans i.length_le h.len, fun z hz hd => h.run z (hz.trans i) hd⟩
theorem Gd.part {x y p : Str} (h : Gd x) (hp : p ∈ Txt.split x y) : Gd p := TxOk.inf h (infix_split hp)
theorem Gd.sz {x : Str} (h : Gd x) : x.length + 2 ≤ sizeLine := by
  have h1 : (lt x).length ≤ 1000000 := h.len
  have e : x.length = (lt x).length := len_lt x
  have := sizeLine_big
  omega
theorem Gd.shaped {x : Str} (h : Gd x) : SeqAt.shaped (.str x) = true := shaped_str h.vd
theorem hw_are_diaries {A : Nat → Nat} : ∀ cs Qr Qx, cs.length = 2 → pureSd 2 g_are_diaries cs Qr Qx → w_are_diaries A (kOf [] 2 Qr Qx) (initC ["readers", "thing", "one"] cs) := by
  rintro cs Qr Qx - ⟨ds, rfl, h⟩
  unfold g_are_diaries at h
  split at h
  · rename_i kk n ds
    obtain ⟨hl, hp, h⟩ := h
    rw [List.all_eq_true] at hp
    show w_are_diaries A (kOf [] 2 Qr Qx) [.val (.int n), .val (.list ds), .no]
    unfold w_are_diaries
    have h : Qr (.val (.bool (decide ((ds.length : Int) = n) && ds.all isDiary))) [.no, .no] := h
    simp [isA]
    by_cases e : (ds.length : Int) = n
    · rw [if_pos e]
      rw [decide_eq_true e] at h
      refine lc_map (fun d => .bool (isDiary d)) trivial ds (fun d hd R hR => ?_) (Nat.le_trans hl (Nat.le_trans (by decide) sizeLine_big)) ?_
      · simp [g_is_diary, hp d hd]
        exact hR _ rfl
      · simp
        exact h
    · rw [if_neg e]
      rw [decide_eq_false e] at h
      exact h
  · exact h.elim
theorem signs_eq (w : Str) : signs w = (lt w).map fun c => PyData.str ⟨#[c]⟩ := rfl
theorem dig_iff (c : Nat) : hasStr "0123456789" ⟨#[c]⟩ = dig c := by
  rw [has_one]
  unfold dig
  exact decide_eq_decide.mpr (mem_figs c)
theorem numO_some {w : Str} (h : Gd w) (h1 : (lt w).all dig = true) (h2 : lt w ≠ []) : ∃ n : Nat, intText? w = some (n : Int) ∧ w.length ≤ 600 := by
  have hl : (lt w).length ≤ 600 := h.run _ (List.infix_refl _) (fun c hc => List.all_eq_true.mp h1 c hc)
  refine ⟨_, intText_digits (fun c hc => ?_) h2 (by have e : w.length = (lt w).length := len_lt w; omega), by rw [len_lt]; exact hl⟩
  have := List.all_eq_true.mp h1 c hc
  exact of_decide_eq_true this
theorem zero_ne {w : Str} (h : (lt w).head? = some 48) (hl : 1 < (lt w).length) : w ≠ "0" := fun e => by
  subst e
  exact absurd hl (by decide)
theorem lt_zero {w : Str} (h : lt w = [48]) : w = "0" := str_ext (by rw [show w.cps.toList = [48] from h]; decide)
theorem one_zero {a : Nat} : ((⟨#[a]⟩ : Str) = "0") ↔ a = 48 := by
  constructor
  · intro h
    have e : (⟨#[a]⟩ : Str).cps.toList = [48] := by rw [h]; decide
    exact List.head_eq_of_cons_eq e
  · intro h
    subst h
    exact str_ext (by decide)
theorem shaped_0 : SeqAt.shaped (.str "0") = true := shaped_str (by decide)
theorem shaped_1 {a : Nat} (h : a < 0x110000) : SeqAt.shaped (.str ⟨#[a]⟩) = true := shaped_str (fun c hc => by
  have hc : c ∈ [a] := hc
  rw [List.mem_singleton] at hc
  omega)
theorem hw_number_in {A : Nat → Nat} : ∀ cs Qr Qx, cs.length = 1 → pureSd 1 g_number_in cs Qr Qx → w_number_in A (kOf [] 1 Qr Qx) (initC ["word", "sign"] cs) := by
  rintro cs Qr Qx - ⟨ds, rfl, h⟩
  unfold g_number_in at h
  split at h
  · rename_i kk w
    obtain ⟨hg, h⟩ := h
    have hsz := hg.sz
    show w_number_in A (kOf [] 1 Qr Qx) [.val (.str w), .no]
    unfold w_number_in
    have h : Qr (.val (numD w)) [.no] := h
    simp [signs_eq]
    refine ⟨by omega, ?_⟩
    have e0 : w.length = (lt w).length := len_lt w
    have hno : ∀ p : Prop, ¬ ((lt w).all dig = true ∧ lt w ≠ [] ∧ p) → ((lt w).all dig = false ∨ lt w = [] ∨ ¬ p) := fun p hn => by
      by_cases q1 : (lt w).all dig = true
      · by_cases q2 : lt w = []
        · exact .inr (.inl q2)
        · exact .inr (.inr fun q3 => hn ⟨q1, q2, q3⟩)
      · exact .inl (by simpa using q1)
    by_cases c1 : (1 : Int) ≤ w.length
    · rw [if_pos c1]
      by_cases c2 : (w.length : Int) ≤ 1000
      · rw [if_neg (by omega)]
        have hne : lt w ≠ [] := fun e => by rw [e] at e0; simp at e0; omega
        refine lc_map (fun d => match d with
          | .str z => .bool (hasStr "0123456789" z)
          | d => d) trivial _ (fun d hd R hR => ?_) ?_ ?_
        · obtain ⟨ch, _, rfl⟩ := List.mem_map.mp hd
          simp
          exact hR _ rfl
        · rw [List.length_map]; omega
        · rw [List.map_map]
          have em : ((fun d : D => match d with
              | .str z => PyData.bool (hasStr "0123456789" z)
              | d => d) ∘ fun ch => PyData.str ⟨#[ch]⟩) = fun ch => PyData.bool (dig ch) := by
            funext ch
            show PyData.bool (hasStr "0123456789" ⟨#[ch]⟩) = _
            rw [dig_iff]
          rw [em]
          cases e : (lt w).all dig with
          | false =>
            simp [e]
            have e2 : numD w = .none := by
              unfold numD numO
              rw [if_neg (fun z => by rw [e] at z; cases z.1)]
              rfl
            rwa [e2] at h
          | true =>
            obtain ⟨n, hn, hl⟩ := numO_some hg e hne
            simp [e, hn]
            cases q : lt w with
            | nil => exact absurd q hne
            | cons a r =>
              have q' : w.cps.toList = a :: r := q
              have ea : atI w.cps.toList 0 = some a := by rw [q']; exact atI_nat (j := 0) rfl
              have va : a < 0x110000 := hg.vd a (by rw [q]; exact List.mem_cons_self)
              rw [ea]
              refine ⟨by omega, shaped_1 va, shaped_0, ?_⟩
              by_cases c3 : a = 48
              · rw [if_pos (one_zero.mpr c3)]
                refine ⟨hg.shaped, shaped_0, ?_⟩
                subst c3
                by_cases c4 : w = "0"
                · rw [if_pos c4]
                  have e2 : numD w = .int n := by
                    unfold numD numO
                    rw [if_pos ⟨e, hne, fun z => by
                      have z2 := z.2
                      rw [c4] at z2
                      exact absurd z2 (by decide)⟩, hn]
                    rfl
                  rw [e2] at h
                  exact ⟨by omega, h⟩
                · rw [if_neg c4]
                  have e2 : numD w = .none := by
                    unfold numD numO
                    rw [if_neg fun z => z.2.2 ⟨by rw [q]; rfl, by
                      rw [q]
                      cases r with
                      | nil => exact absurd (lt_zero q) c4
                      | cons b r => show 1 < r.length + 1 + 1; omega⟩]
                    rfl
                  rwa [e2] at h
              · rw [if_neg fun z => c3 (one_zero.mp z)]
                have e2 : numD w = .int n := by
                  unfold numD numO
                  rw [if_pos ⟨e, hne, fun z => by
                    have z1 := z.1
                    rw [q] at z1
                    exact c3 (Option.some.inj z1)⟩, hn]
                  rfl
                rw [e2] at h
                exact ⟨by omega, h⟩
      · rw [if_pos (by omega)]
        have e2 : numD w = .none := by
          unfold numD numO
          rw [if_neg fun z => by
            have := hg.run _ (List.infix_refl _) (fun c hc => List.all_eq_true.mp z.1 c hc)
            omega]
          rfl
        rwa [e2] at h
    · rw [if_neg c1]
      have e2 : numD w = .none := by
        unfold numD numO
        rw [if_neg (fun z => z.2.1 (List.eq_nil_of_length_eq_zero (by omega)))]
        rfl
      rwa [e2] at h
  · exact h.elim
theorem hw_need_text {A : Nat → Nat} : ∀ cs Qr Qx, cs.length = 1 → pureSdX 1 (g_need_text A) cs Qr Qx → w_need_text A (kOf [] 1 Qr Qx) (initC ["text"] cs) := by
  rintro cs Qr Qx - ⟨ds, rfl, h⟩
  match ds, h with
  | [], h => exact h.elim
  | a :: b :: r, h => cases a <;> exact h.elim
  | [d], h =>
    show w_need_text A (kOf [] 1 Qr Qx) [.val d]
    unfold w_need_text
    cases d with
    | str x =>
      have h : Qr (.val .none) [.no] := h
      simp [isA]
      exact h
    | dict kv =>
      have h : plainD (.dict kv) = true ∧ Qx ⟨A 17, none⟩ [.no] := h
      simp [isA, h.1]
      exact h.2
    | _ =>
      have h := h.2
      simp [isA]
      exact h
theorem hw_span_in {A : Nat → Nat} : ∀ cs Qr Qx, cs.length = 1 → pureSd 1 g_span_in cs Qr Qx → w_span_in A (kOf [] 1 Qr Qx) (initC ["word", "parts"] cs) := by
  rintro cs Qr Qx - ⟨ds, rfl, h⟩
  unfold g_span_in at h
  split at h
  · rename_i kk w
    obtain ⟨hg, h⟩ := h
    have hsz := hg.sz
    show w_span_in A (kOf [] 1 Qr Qx) [.val (.str w), .no]
    unfold w_span_in
    have h : Qr (.val (spanD w)) [.no] := h
    have hp : ∀ p, p ∈ Txt.split w "-" → Gd p := fun p hp => hg.part hp
    simp
    refine ⟨by decide, hsz, ?_⟩
    unfold spanD at h
    match q : Txt.split w "-", hp, h with
    | [], _, h => exact absurd q (split_ne _ _)
    | [a], _, h => simpa using h
    | [a, b], hp, h =>
      simp [g_number_in, hp a (by simp), hp b (by simp)]
      exact ⟨by rw [sizeLine_eq]; decide, h⟩
    | a :: b :: c :: r, _, h =>
      simp
      rw [if_neg (by omega)]
      exact h
  · exact h.elim
end K18
set_option maxHeartbeats 4000000
/-! K18M3: read_diaries. -/
namespace K18
open PySem PySem.Spec L2 DL
theorem plain_num (w : Str) : plainD (numD w) = true := by
  unfold numD
  cases numO w <;> rfl
theorem plain_span (w : Str) : plain2 (spanD w) = true := by
  unfold spanD
  split
  · simp [plain2, plain_num]
  · rfl
theorem mem_words {row p : Str} (h : p ∈ (words row).drop 1) : p ∈ Txt.split row " " := List.mem_of_mem_drop h
theorem diary_plain {row : Str} (h : Gd row) : plain3 (.list (diaryDs row)) = true := by
  show (decide ((diaryDs row).length ≤ 2000000) && (diaryDs row).all plain2) = true
  rw [Bool.and_eq_true, decide_eq_true_eq]
  refine ⟨?_, ?_⟩
  · unfold diaryDs words
    rw [List.length_map, List.length_drop]
    have := split_len row " "
    have h1 : (lt row).length ≤ 1000000 := h.len
    have e : row.length = (lt row).length := len_lt row
    omega
  · unfold diaryDs
    rw [List.all_map, List.all_eq_true]
    exact fun w _ => plain_span w
theorem atI_reader {i : Nat} (h : i < 12) : atI (lt readers) (i : Int) = some ((lt readers).getD i 0) := by
  refine atI_nat ?_
  have e : (lt readers).length = 12 := by decide
  rw [List.getElem?_eq_getElem (by omega), List.getD_eq_getElem?_getD, List.getElem?_eq_getElem (by omega)]
  rfl
theorem letter_vd {i : Nat} (h : i < 12) : ∀ c ∈ lt (letter i ++ ":"), c < 0x110000 := by
  have q : ∀ j, j < 12 → ((lt (letter j ++ ":")).all fun c => decide (c < 0x110000)) = true := by decide
  exact fun c hc => of_decide_eq_true (List.all_eq_true.mp (q i h) c hc)
theorem str_len1 (c : Nat) : (⟨#[c]⟩ : Str).length = 1 := rfl
theorem hw_read_diaries {A : Nat → Nat} : ∀ cs Qr Qx, cs.length = 1 → pureSdX 1 (g_read_diaries A) cs Qr Qx → w_read_diaries A (kOf [] 1 Qr Qx) (initC ["text", "found", "number", "row", "words", "word"] cs) := by
  rintro cs Qr Qx - ⟨ds, rfl, h⟩
  match ds, h with
  | [], h => exact h.elim
  | a :: b :: r, h => cases a <;> exact h.elim
  | [d], h =>
    show w_read_diaries A (kOf [] 1 Qr Qx) [.val d, .no, .no, .no, .no, .no]
    unfold w_read_diaries
    cases d with
    | str x =>
      have h : Gd x ∧ (∀ ds, readD x = some ds → Qr (.val (.list ds)) [.no]) ∧ (readD x = none → Qx ⟨A 17, none⟩ [.no]) := h
      obtain ⟨hg, hk, hx⟩ := h
      have hz := hg.sz
      have hsz := sizeLine_big
      have hlen : (lt x).length ≤ 1000000 := hg.len
      have hel : x.length = (lt x).length := len_lt x
      simp [g_need_text]
      refine ⟨by decide, hz, ?_⟩
      rw [enumD_eq]
      refine loop_inv (fun items ρ => ∃ (i : Nat) (rest : List Str) (fs : List D) (c2 c3 c4 c5 : C), items = enumF i (rest.map PyData.str) ∧ ρ = [.val (.str x), .own (DL.own fs), c2, c3, c4, .no] ∧
        (∀ r ∈ rest, Gd r) ∧ fs.length = i ∧ i ≤ 12 ∧ headsOk 0 (rowsOf x) = headsOk i rest ∧ foundDs x = fs ++ rest.map (fun r => PyData.list (diaryDs r)) ∧ fs.all plain3 = true) ?h0 ?hs _ _ ?init
      case init =>
        exact ⟨0, rowsOf x, [], .no, .no, .no, .no, rfl, rfl, fun r hr => hg.part hr, rfl, by omega, rfl, rfl, rfl⟩
      case h0 =>
        rintro ρ ⟨i, rest, fs, c2, c3, c4, c5, e1, rfl, hgd, hi, hi2, hh, hf, hp⟩
        cases rest with
        | cons r rest => cases e1
        | nil =>
          have hh : headsOk 0 (rowsOf x) = true := hh
          rw [List.map_nil, List.append_nil] at hf
          cases e : fs.all isDiary with
          | true =>
            have er : readD x = some fs := by
              unfold readD
              rw [hf, if_pos ⟨hh, e⟩]
            simp [g_are_diaries, hp, e]
            exact ⟨by omega, hk _ er⟩
          | false =>
            have er : readD x = none := by
              unfold readD
              rw [hf, if_neg fun z => by rw [e] at z; cases z.2]
            simp [g_are_diaries, hp, e]
            exact ⟨by omega, hx er⟩
      case hs =>
        rintro d ds ρ R hR ⟨i, rest, fs, c2, c3, c4, c5, e1, rfl, hgd, hi, hi2, hh, hf, hp⟩
        cases rest with
        | nil => cases e1
        | cons r rest =>
          injection e1 with e1 e2
          subst e1 e2
          have hr := hgd r List.mem_cons_self
          simp
          refine ⟨by decide, hr.sz, ?_⟩
          have bad : headOk i r = false → readD x = none := fun e => by
            unfold readD
            rw [if_neg]
            intro z
            have z1 := z.1
            rw [hh] at z1
            have z1 : (headOk i r && headsOk (i + 1) rest) = true := z1
            rw [e] at z1
            cases z1
          by_cases c1 : i < 12
          · rw [if_neg (by omega)]
            obtain ⟨w0, ws, ew⟩ : ∃ w0 ws, Txt.split r " " = w0 :: ws := by
              cases q : Txt.split r " " with
              | nil => exact absurd q (split_ne _ _)
              | cons a b => exact ⟨a, b, rfl⟩
            have g0 : Gd w0 := hr.part (y := " ") (by rw [ew]; exact List.mem_cons_self)
            have ea : atI (Str.ofString "abcdefghijkl").cps.toList (i : Int) = some ((lt readers).getD i 0) := atI_reader c1
            obtain ⟨a, ha⟩ : ∃ a, a = (lt readers).getD i 0 := ⟨_, rfl⟩
            rw [← ha] at ea
            rw [ea]
            have el : (⟨#[a]⟩ : Str) ++ Str.ofString ":" = letter i ++ ":" := by rw [ha]; rfl
            have eH : headOk i r = decide (w0 = letter i ++ ":") := by
              unfold headOk words
              rw [ew, decide_eq_true c1]
              simp
            rw [ew]
            simp
            rw [el]
            refine ⟨by rw [sizeLine_eq]; decide, by rw [sizeLine_eq]; exact (by decide : 1 + 1 ≤ 16777216), g0.shaped, shaped_str (letter_vd c1), ?_⟩
            by_cases c2 : w0 = letter i ++ ":"
            · rw [if_pos c2]
              rw [decide_eq_true c2] at eH
              rw [cutD_from1]
              have eD : diaryDs r = ws.map spanD := by
                unfold diaryDs words
                rw [ew]
                rfl
              have hws : ∀ w ∈ ws, Gd w := fun w hw => hr.part (y := " ") (by rw [ew]; exact List.mem_cons_of_mem _ hw)
              have hwl : ws.length ≤ sizeLine := by
                have h1 := split_len r " "
                rw [ew, List.length_cons] at h1
                have h2 := hr.sz
                omega
              refine lc_map (fun d => match d with
                | .str w => spanD w
                | d => d) trivial _ (fun d hd R hR => ?_) (by simpa using hwl) ?_
              · obtain ⟨w, hw, rfl⟩ := List.mem_map.mp (show d ∈ ws.map PyData.str by simpa using hd)
                simp [g_span_in, hws w hw]
                exact hR _ rfl
              · have em : ((PyData.str w0 :: ws.map PyData.str).drop 1).map (fun d : D => match d with
                    | .str w => spanD w
                    | d => d) = diaryDs r := by
                  rw [eD]
                  show (ws.map PyData.str).map _ = _
                  rw [List.map_map]
                  rfl
                rw [em]
                simp
                refine ⟨by omega, hR _ ⟨i + 1, rest, fs ++ [.list (diaryDs r)], _, _, _, .no, rfl, rfl, fun r' hr' => hgd r' (List.mem_cons_of_mem _ hr'), by simp [hi], by omega, ?_, ?_, ?_⟩⟩
                · rw [hh]
                  show (headOk i r && headsOk (i + 1) rest) = _
                  rw [eH, Bool.true_and]
                · rw [hf, List.append_assoc]
                  rfl
                · rw [List.all_append, hp]
                  have q := diary_plain hr
                  simp [q]
            · rw [if_neg c2]
              rw [decide_eq_false c2] at eH
              exact hx (bad eH)
          · rw [if_pos (by omega)]
            refine hx (bad ?_)
            unfold headOk
            rw [decide_eq_false c1]
            rfl
    | dict kv =>
      have h : plainD (.dict kv) = true ∧ Qx ⟨A 17, none⟩ [.no] := h
      simp [g_need_text, h.1]
      exact h.2
    | _ =>
      have h := h.2
      simp [g_need_text]
      exact h
end K18
set_option maxHeartbeats 4000000
/-! K18M4: the law's own readings of texts. -/
namespace K18
open PySem PySem.Spec L2 DL
theorem sz_n {n : Nat} (h : n ≤ 10000000 := by decide) : n ≤ sizeLine := Nat.le_trans h sizeLine_big
theorem sz_l {n : Nat} (h : n < 10000000 := by decide) : n < sizeLine := Nat.lt_of_lt_of_le h sizeLine_big
theorem hw_l_word {A : Nat → Nat} : ∀ cs Qr Qx, cs.length = 1 → sd_l_word A cs Qr Qx → w_l_word A (kOf [] 1 Qr Qx) (initC ["_law_e", "_law_some", "_law_others", "_law_found", "_law_word_here", "_law_so"] cs) := by
  rintro cs Qr Qx - ⟨rfl, h⟩
  show w_l_word A (kOf [] 1 Qr Qx) [.val (excD (A 17)), .no, .no, .no, .no, .no]
  unfold w_l_word
  simp [lcLoop]
  exact ⟨sz_n, sz_n, sz_n, sz_n, sz_n, sz_l, sz_l, h⟩
theorem hw_l_told {A : Nat → Nat} : ∀ cs Qr Qx, cs.length = 1 → sd_l_told A cs Qr Qx → w_l_told A (kOf [] 1 Qr Qx) (initC ["_law_line", "_law_found", "_law_caught", "_law_e"] cs) := by
  rintro cs Qr Qx - ⟨d, rfl, h⟩
  show w_l_told A (kOf [] 1 Qr Qx) [.val d, .no, .no, .no]
  unfold w_l_told
  cases d with
  | str x =>
    obtain ⟨hg, h⟩ := h
    unfold toldD at h
    simp [g_read_diaries]
    refine ⟨hg, fun ds e => ?_, fun e => ?_⟩
    · rw [e] at h
      exact h
    · rw [e] at h
      exact ⟨rfl, h⟩
  | dict kv =>
    have h : plainD (.dict kv) = true ∧ Qr (.val (.str "text")) [.no] := h
    simp [g_read_diaries, h.1]
    exact ⟨rfl, h.2⟩
  | _ =>
    have h := h.2
    simp [g_read_diaries]
    exact ⟨rfl, h⟩
theorem str_nil {w : Str} : w = "" ↔ lt w = [] := by
  constructor
  · intro h
    subst h
    decide
  · intro h
    exact str_ext (by rw [show w.cps.toList = [] from h]; decide)
def keepBad (d : D) : Option D := match d with
  | .str z => if hasStr "0123456789" z = true then none else some (.str z)
  | d => some d
theorem keepBad_1 (c : Nat) : keepBad (.str ⟨#[c]⟩) = if dig c = true then none else some (.str ⟨#[c]⟩) := by
  show (if hasStr "0123456789" (⟨#[c]⟩ : Str) = true then none else some (PyData.str ⟨#[c]⟩)) = _
  rw [dig_iff]
theorem hw_l_number {A : Nat → Nat} : ∀ cs Qr Qx, cs.length = 1 → pureSd 1 g_l_number cs Qr Qx → w_l_number A (kOf [] 1 Qr Qx) (initC ["_law_word_here", "_law_sign"] cs) := by
  rintro cs Qr Qx - ⟨ds, rfl, h⟩
  unfold g_l_number at h
  split at h
  · rename_i kk w
    obtain ⟨hg, h⟩ := h
    have hsz := hg.sz
    show w_l_number A (kOf [] 1 Qr Qx) [.val (.str w), .no]
    unfold w_l_number
    have h : Qr (.val (numD w)) [.no] := h
    have e0 : w.length = (lt w).length := len_lt w
    simp [signs_eq]
    refine ⟨hg.shaped, shaped_str (by decide), ?_⟩
    by_cases hne : w = ""
    · rw [if_pos hne]
      have e2 : numD w = .none := by
        unfold numD numO
        rw [if_neg (fun z => z.2.1 (str_nil.mp hne))]
        rfl
      rwa [e2] at h
    · rw [if_neg hne]
      have hne' : lt w ≠ [] := fun z => hne (str_nil.mpr z)
      refine lc_pure keepBad trivial _ [] (fun d hd R hR => ?_) (by rw [List.length_map]; show 0 + _ ≤ _; omega) ?_
      · obtain ⟨ch, _, rfl⟩ := List.mem_map.mp hd
        have e2 := hR [.val (.str w), .val (.str ⟨#[ch]⟩)] rfl
        rw [keepBad_1] at e2
        simp [dig_iff]
        cases c : dig ch with
        | true =>
          rw [c] at e2
          simpa using e2
        | false =>
          rw [c] at e2
          simpa using e2
      · have em : ((lt w).map fun c => PyData.str ⟨#[c]⟩).filterMap keepBad = ((lt w).filter fun c => !dig c).map fun c => PyData.str ⟨#[c]⟩ := by
          generalize lt w = l
          induction l with
          | nil => rfl
          | cons a r ih =>
            rw [List.map_cons, List.filterMap_cons, ih, keepBad_1]
            cases e : dig a <;> simp [e]
        rw [List.nil_append, em]
        simp
        refine ⟨shaped_list fun d hd => ?_, shaped_list (fun d hd => by cases hd), ?_⟩
        · obtain ⟨ch, hc, rfl⟩ := List.mem_map.mp hd
          have hv := hg.vd ch (List.mem_filter.mp hc).1
          have e := shaped_1 hv
          refine ⟨SeqAt.canLay_of_shaped e, by simp [PyData.depth]⟩
        · cases e : (lt w).all dig with
          | false =>
            have e3 : ((lt w).filter fun c => !dig c) ≠ [] := fun z => by
              rw [List.filter_eq_nil_iff] at z
              rw [List.all_eq_false] at e
              obtain ⟨c, hc, e⟩ := e
              have := z c hc
              simp at this
              exact e this
            have e2 : numD w = .none := by
              unfold numD numO
              rw [if_neg fun z => by rw [e] at z; cases z.1]
              rfl
            rw [e2] at h
            rw [if_neg fun z => by
              have e6 : (lt w).all dig = true := List.all_eq_true.mpr fun c hc => z c (Array.mem_toList_iff.mp hc)
              rw [e] at e6
              cases e6]
            exact h
          | true =>
            rw [if_pos fun c hc => List.all_eq_true.mp e c (Array.mem_toList_iff.mpr hc)]
            obtain ⟨n, hn, hl⟩ := numO_some hg e hne'
            cases q : lt w with
            | nil => exact absurd q hne'
            | cons a r =>
              have q' : w.cps.toList = a :: r := q
              have ea : atI w.cps.toList 0 = some a := by rw [q']; exact atI_nat (j := 0) rfl
              have va : a < 0x110000 := hg.vd a (by rw [q]; exact List.mem_cons_self)
              rw [ea, hn]
              refine ⟨by omega, shaped_1 va, shaped_0, ?_⟩
              by_cases c3 : a = 48
              · rw [if_pos (one_zero.mpr c3)]
                subst c3
                refine ⟨by omega, ?_⟩
                by_cases c4 : (1 : Int) < w.length
                · rw [if_pos c4]
                  have e2 : numD w = .none := by
                    unfold numD numO
                    rw [if_neg fun z => z.2.2 ⟨by rw [q]; rfl, by omega⟩]
                    rfl
                  rwa [e2] at h
                · rw [if_neg c4]
                  have e2 : numD w = .int n := by
                    unfold numD numO
                    rw [if_pos ⟨e, hne', fun z => by omega⟩, hn]
                    rfl
                  rw [e2] at h
                  exact ⟨by omega, h⟩
              · rw [if_neg fun z => c3 (one_zero.mp z)]
                have e2 : numD w = .int n := by
                  unfold numD numO
                  rw [if_pos ⟨e, hne', fun z => by
                    have z1 := z.1
                    rw [q] at z1
                    exact c3 (Option.some.inj z1)⟩, hn]
                  rfl
                rw [e2] at h
                exact ⟨by omega, h⟩
  · exact h.elim
end K18
set_option maxHeartbeats 4000000
/-! K18M5: the law's reading of a row, of a text; is_long; same. -/
namespace K18
open PySem PySem.Spec L2 DL
theorem hw_l_is_long {A : Nat → Nat} : ∀ cs Qr Qx, cs.length = 1 → pureSd 1 g_l_is_long cs Qr Qx → w_l_is_long A (kOf [] 1 Qr Qx) (initC ["_law_line", "_law_run", "_law_most", "_law_sign"] cs) := by
  rintro cs Qr Qx - ⟨ds, rfl, h⟩
  unfold g_l_is_long at h
  split at h
  · rename_i kk w
    obtain ⟨hg, h⟩ := h
    show w_l_is_long A (kOf [] 1 Qr Qx) [.val (.str w), .no, .no, .no]
    unfold w_l_is_long
    simp [signs_eq]
    refine ⟨sz_n, loop_inv (fun items ρ => ∃ (l : List Nat) (a b : Int) (c : C), items = l.map (fun c => PyData.str ⟨#[c]⟩) ∧ ρ = [.val (.str w), .val (.int a), .val (.int b), c]) ?h0 ?hs _ _ ⟨lt w, 0, 0, .no, rfl, rfl⟩⟩
    case h0 =>
      rintro ρ ⟨l, a, b, c, _, rfl⟩
      simp
      exact h _
    case hs =>
      rintro d ds ρ R hR ⟨l, a, b, c, e, rfl⟩
      cases l with
      | nil => cases e
      | cons x l =>
        injection e with e1 e2
        subst e1 e2
        simp
        split
        · exact hR _ ⟨l, _, _, _, rfl, rfl⟩
        · exact hR _ ⟨l, _, _, _, rfl, rfl⟩
  · exact h.elim
/-! ### a row -/
theorem numO_nn {w : Str} (h : Gd w) {x : Int} (e : numO w = some x) : 0 ≤ x := by
  unfold numO at e
  split at e
  · rename_i c
    obtain ⟨n, hn, _⟩ := numO_some h c.1 c.2.1
    rw [hn] at e
    cases e
    omega
  · cases e
/-- a stretch of ints -/
def isSp (d : D) : Prop := ∃ a b : Int, d = .tuple [.int a, .int b]
theorem isSpan_of {d : D} (h : isSpan d = true) : isSp d := by
  unfold isSpan at h
  split at h
  · rename_i a b
    cases a <;> cases b <;> simp_all [isWh]
    exact ⟨_, _, rfl⟩
  · cases h
theorem chain_app : ∀ (fs : List D) (x : D) (r : List D), chainD (fs ++ x :: r) = true → chainD (fs ++ [x]) = true
  | [], x, r, _ => rfl
  | [a], x, r, h => by
    have h : (stepOk a x && chainD (x :: r)) = true := h
    rw [Bool.and_eq_true] at h
    show (stepOk a x && true) = true
    rw [h.1]; rfl
  | a :: b :: fs, x, r, h => by
    have h : (stepOk a b && chainD (b :: fs ++ x :: r)) = true := h
    rw [Bool.and_eq_true] at h
    show (stepOk a b && chainD (b :: fs ++ [x])) = true
    rw [h.1, chain_app (b :: fs) x r h.2]
    rfl
theorem chain_snoc : ∀ (fs : List D) (l x : D), chainD (fs ++ [l] ++ [x]) = (chainD (fs ++ [l]) && stepOk l x)
  | [], l, x => by
    show (stepOk l x && true) = (true && stepOk l x)
    cases stepOk l x <;> rfl
  | [a], l, x => by
    show (stepOk a l && (stepOk l x && true)) = ((stepOk a l && true) && stepOk l x)
    cases stepOk a l <;> cases stepOk l x <;> rfl
  | a :: b :: fs, l, x => by
    show (stepOk a b && chainD (b :: fs ++ [l] ++ [x])) = ((stepOk a b && chainD (b :: fs ++ [l])) && stepOk l x)
    rw [chain_snoc (b :: fs) l x, Bool.and_assoc]
theorem diary_bad {fs : List D} {x : D} {r : List D} (h : isSpan x = false ∨ chainD (fs ++ [x]) = false) : isDiary (.list (fs ++ x :: r)) = false := by
  show ((fs ++ x :: r).all isSpan && chainD (fs ++ x :: r)) = false
  rcases h with h | h
  · rw [List.all_append, List.all_cons, h]
    simp
  · cases e : chainD (fs ++ x :: r) with
    | false => simp
    | true => rw [chain_app _ _ _ e] at h; cases h
theorem lay_sp {d : D} (h : isSp d) : d.canLay0 = true ∧ d.depth ≤ 63 := by
  obtain ⟨a, b, rfl⟩ := h
  refine ⟨by simp [PyData.canLay0, PyData.canLayAll0], by simp [PyData.depth, PyData.depthAll]⟩
def numStr : D → D
  | .str p => numD p
  | d => d
theorem hw_l_row_of {A : Nat → Nat} : ∀ cs Qr Qx, cs.length = 2 → pureSd 2 g_l_row_of cs Qr Qx → w_l_row_of A (kOf [] 2 Qr Qx) (initC ["_law_row", "_law_letter", "_law_words", "_law_found", "_law_word_here", "_law_ends", "_law_part"] cs) := by
  rintro cs Qr Qx - ⟨ds, rfl, h⟩
  unfold g_l_row_of at h
  split at h
  · rename_i kk row l
    obtain ⟨hr, hl, h⟩ := h
    show w_l_row_of A (kOf [] 2 Qr Qx) [.val (.str row), .val (.str l), .no, .no, .no, .no, .no]
    unfold w_l_row_of
    have h : Qr (.val (rowD row l)) [.no, .no] := h
    obtain ⟨w0, ws, ew⟩ : ∃ w0 ws, Txt.split row " " = w0 :: ws := by
      cases q : Txt.split row " " with
      | nil => exact absurd q (split_ne _ _)
      | cons a b => exact ⟨a, b, rfl⟩
    have g0 : Gd w0 := hr.part (y := " ") (by rw [ew]; exact List.mem_cons_self)
    have hws : ∀ w ∈ ws, Gd w := fun w hw => hr.part (y := " ") (by rw [ew]; exact List.mem_cons_of_mem _ hw)
    have hll : l.length ≤ 1 := by rw [len_lt]; exact hl.len
    have hlv : ∀ c ∈ lt (l ++ ":"), c < 0x110000 := fun c hc => by
      have hc : c ∈ (l ++ ":").cps.toList := hc
      rw [lt_app] at hc
      rcases List.mem_append.mp hc with hc | hc
      · exact hl.vd c hc
      · have q : ((lt ":").all fun c => decide (c < 0x110000)) = true := by decide
        exact of_decide_eq_true (List.all_eq_true.mp q c hc)
    have eD : diaryDs row = ws.map spanD := by
      unfold diaryDs words
      rw [ew]
      rfl
    have eR : rowD row l = if w0 = l ++ ":" ∧ isDiary (.list (ws.map spanD)) = true then .list (ws.map spanD) else .none := by
      unfold rowD words
      rw [eD, ew]
      simp
    have hwl : ws.length ≤ 1000001 := by
      have h1 := split_len row " "
      rw [ew, List.length_cons] at h1
      have h2 : (lt row).length ≤ 1000000 := hr.len
      have h3 : row.length = (lt row).length := len_lt row
      omega
    have hsz := sizeLine_big
    rw [eR] at h
    simp [ew]
    refine ⟨by decide, hr.sz, ?_, g0.shaped, shaped_str hlv, ?_⟩
    · exact Nat.le_trans (Nat.add_le_add_right hll _) sz_n
    · by_cases c1 : w0 = l ++ ":"
      · rw [if_pos c1]
        rw [cutD_from1]
        refine loop_inv (fun items ρ => ∃ (rest : List Str) (fs : List D) (c4 c5 : C), items = rest.map PyData.str ∧ ρ = [.val (.str row), .val (.str l), .val (.list ((w0 :: ws).map PyData.str)), .own (DL.own fs), c4, c5, .no] ∧
          (∀ w ∈ rest, Gd w) ∧ ws.map spanD = fs ++ rest.map spanD ∧ (∀ d ∈ fs, isSpan d = true) ∧ chainD fs = true) ?h0 ?hs _ _ ⟨ws, [], .no, .no, rfl, rfl, hws, rfl, (fun d hd => by cases hd), rfl⟩
        case h0 =>
          rintro ρ ⟨rest, fs, c4, c5, e, rfl, hg, hf, hs, hc⟩
          cases rest with
          | cons a b => cases e
          | nil =>
            rw [List.map_nil, List.append_nil] at hf
            rw [hf, if_pos ⟨c1, by
              show (fs.all isSpan && chainD fs) = true
              rw [List.all_eq_true.mpr hs, hc]
              rfl⟩] at h
            simp
            exact h
        case hs =>
          rintro d ds ρ R hR ⟨rest, fs, c4, c5, e, rfl, hg, hf, hs, hc⟩
          cases rest with
          | nil => cases e
          | cons w rest =>
            injection e with e1 e2
            subst e1 e2
            have gw := hg w List.mem_cons_self
            simp
            refine ⟨by decide, gw.sz, ?_⟩
            have bad : isDiary (.list (ws.map spanD)) = false → Qr (.val .none) [.no, .no] := fun e => by
              rw [if_neg fun z => by rw [e] at z; cases z.2] at h
              exact h
            have bad1 : isSpan (spanD w) = false → Qr (.val .none) [.no, .no] := fun e => bad (by
              rw [hf]
              exact diary_bad (.inl e))
            have hpl := split_len w "-"
            have hwz := gw.sz
            refine lc_map numStr trivial _ (fun d hd R hR => ?_) (by rw [List.length_map]; omega) ?_
            · obtain ⟨p, hp, rfl⟩ := List.mem_map.mp hd
              simp [g_l_number, gw.part hp]
              exact hR _ rfl
            · rw [List.map_map, show (numStr ∘ PyData.str) = numD from rfl]
              have hparts : ∀ p ∈ Txt.split w "-", Gd p := fun p hp => gw.part hp
              have esp : spanD w = (match Txt.split w "-" with
                | [a, b] => .tuple [numD a, numD b]
                | _ => .none) := rfl
              revert esp hparts
              generalize Txt.split w "-" = parts
              intro hparts esp
              match parts, hparts, esp with
              | [], _, esp =>
                simp
                exact bad1 (by rw [esp]; rfl)
              | [a], _, esp =>
                simp
                exact bad1 (by rw [esp]; rfl)
              | a :: b :: c :: r, _, esp =>
                simp
                rw [if_neg (by omega)]
                exact bad1 (by rw [esp]; rfl)
              | [a, b], hparts, esp =>
                have ga := hparts a (by simp)
                have gb := hparts b (by simp)
                have esp : spanD w = .tuple [numD a, numD b] := esp
                cases ea : numO a with
                | none =>
                  have e1 : numD a = .none := by unfold numD; rw [ea]; rfl
                  rw [e1] at esp
                  have b1 := bad1 (by rw [esp]; simp [isSpan, isWh])
                  cases eb : numO b with
                  | none =>
                    have e2 : numD b = .none := by unfold numD; rw [eb]; rfl
                    simp [e1, e2]
                    exact ⟨by decide, b1⟩
                  | some y =>
                    have e2 : numD b = .int y := by unfold numD; rw [eb]; rfl
                    simp [e1, e2]
                    exact ⟨shaped_list (fun d hd => by simp at hd; rcases hd with rfl | rfl <;> simp [PyData.canLay0, PyData.depth]), b1⟩
                | some x =>
                  have e1 : numD a = .int x := by unfold numD; rw [ea]; rfl
                  rw [e1] at esp
                  have hx := numO_nn ga ea
                  cases eb : numO b with
                  | none =>
                    have e2 : numD b = .none := by unfold numD; rw [eb]; rfl
                    rw [e2] at esp
                    have b1 := bad1 (by rw [esp]; simp [isSpan, isWh])
                    simp [e1, e2]
                    exact ⟨shaped_list (fun d hd => by simp at hd; rcases hd with rfl | rfl <;> simp [PyData.canLay0, PyData.depth]), b1⟩
                  | some y =>
                    have e2 : numD b = .int y := by unfold numD; rw [eb]; rfl
                    rw [e2] at esp
                    have hy := numO_nn gb eb
                    have eS : isSpan (spanD w) = decide (x < y) := by
                      rw [esp]
                      simp [isSpan, isWh, hx, hy]
                    simp [e1, e2]
                    refine ⟨shaped_list (fun d hd => by simp at hd; rcases hd with rfl | rfl <;> simp [PyData.canLay0, PyData.depth]), ?_⟩
                    by_cases hxy : y ≤ x
                    · rw [if_pos hxy]
                      exact bad1 (by rw [eS]; exact decide_eq_false (by omega))
                    · rw [if_neg hxy]
                      have hS : isSpan (spanD w) = true := by rw [eS]; exact decide_eq_true (by omega)
                      have hfl : fs.length ≤ ws.length := by
                        have := congrArg List.length hf
                        rw [List.length_map, List.length_append] at this
                        omega
                      refine ⟨shaped_list (fun d hd => lay_sp (isSpan_of (hs d hd))), by decide, ?_⟩
                      have nxt : chainD (fs ++ [PyData.tuple [.int x, .int y]]) = true → R [C.val (PyData.str row), C.val (PyData.str l), C.val (PyData.list (PyData.str w0 :: List.map PyData.str ws)),
                          C.own (own (fs ++ [PyData.tuple [PyData.int x, PyData.int y]])), C.val (PyData.str w), C.val (PyData.list [PyData.int x, PyData.int y]), C.no] := fun hcc =>
                        hR _ ⟨rest, fs ++ [PyData.tuple [.int x, .int y]], _, _, rfl, rfl, fun w' hw' => hg w' (List.mem_cons_of_mem _ hw'), by rw [hf, List.map_cons, esp, List.append_assoc]; rfl, fun d hd => by
                          rcases List.mem_append.mp hd with hd | hd
                          · exact hs d hd
                          · rw [List.mem_singleton] at hd
                            subst hd
                            rw [← esp]; exact hS, hcc⟩
                      by_cases c2 : fs = []
                      · rw [if_pos c2]
                        refine ⟨sz_n, by omega, nxt ?_⟩
                        rw [c2]
                        rfl
                      · rw [if_neg c2]
                        obtain ⟨fs', l', rfl⟩ : ∃ fs' l', fs = fs' ++ [l'] := by
                          rcases List.eq_nil_or_concat fs with e | ⟨a, b, e⟩
                          · exact absurd e c2
                          · exact ⟨a, b, by rw [e, List.concat_eq_append]⟩
                        obtain ⟨p, q, rfl⟩ := isSpan_of (hs l' (List.mem_append_right _ (List.mem_singleton.mpr rfl)))
                        rw [atI_last]
                        have eC : chainD (fs' ++ [PyData.tuple [.int p, .int q]] ++ [PyData.tuple [.int x, .int y]]) = decide (q ≤ x) := by
                          rw [chain_snoc, hc]
                          simp [stepOk]
                        simp
                        by_cases c3 : x < q
                        · rw [if_pos c3]
                          refine bad ?_
                          rw [hf, List.map_cons, esp]
                          exact diary_bad (.inr (by rw [eC]; exact decide_eq_false (by omega)))
                        · rw [if_neg c3]
                          have e5 := nxt (by rw [eC]; exact decide_eq_true (by omega))
                          refine ⟨sz_n, ?_, by simpa using e5⟩
                          rw [List.length_append] at hfl
                          have e6 : ([PyData.tuple [.int p, .int q]] : List D).length = 1 := rfl
                          omega
      · rw [if_neg c1]
        rw [if_neg fun z => c1 z.1] at h
        exact h
  · exact h.elim
def dueF : D → D
  | .tuple [.int i, .str r] => rowD r (letter i.toNat)
  | _ => .none
def dueL : Nat → List Str → List D
  | _, [] => []
  | i, r :: rs => rowD r (letter i) :: dueL (i + 1) rs
theorem dueF_L : ∀ (rs : List Str) (i : Nat), (enumF i (rs.map PyData.str)).map dueF = dueL i rs
  | [], _ => rfl
  | r :: rs, i => by
    show rowD r (letter (Int.toNat (i : Nat))) :: (enumF (i + 1) (rs.map PyData.str)).map dueF = _
    rw [dueF_L rs (i + 1)]
    have e : Int.toNat (i : Nat) = i := by simp
    rw [e]
    rfl
theorem row_lay {r l : Str} : (rowD r l).canLay0 = true ∧ (rowD r l).depth ≤ 63 := by
  unfold rowD
  split
  · rename_i h
    have h2 : ((diaryDs r).all isSpan && chainD (diaryDs r)) = true := h.2
    rw [Bool.and_eq_true] at h2
    have hs : ∀ d ∈ diaryDs r, isSp d := fun d hd => isSpan_of (List.all_eq_true.mp h2.1 d hd)
    refine ⟨?_, ?_⟩
    · simp only [PyData.canLay0]
      exact canLayAll_iff.mpr fun d hd => (lay_sp (hs d hd)).1
    · simp only [PyData.depth]
      have := depthAll_le (ds := diaryDs r) (n := 1) fun d hd => by
        obtain ⟨a, b, rfl⟩ := hs d hd
        simp [PyData.depth, PyData.depthAll]
      omega
  · exact ⟨by simp [PyData.canLay0], by simp [PyData.depth]⟩
theorem mem_dueL {d : D} : ∀ {rs : List Str} {i : Nat}, d ∈ dueL i rs → ∃ r l, d = rowD r l
  | [], _, h => by cases h
  | r :: rs, i, h => by
    rcases List.mem_cons.mp h with e | h
    · exact ⟨_, _, e⟩
    · exact mem_dueL h
theorem due_read : ∀ (rs : List Str) (i : Nat), i + rs.length ≤ 12 →
    ((dueL i rs).any (fun z => PyData.eqv z .none) = true ∧ ¬ (headsOk i rs = true ∧ (rs.map fun r => PyData.list (diaryDs r)).all isDiary = true)) ∨
    ((dueL i rs).any (fun z => PyData.eqv z .none) = false ∧ headsOk i rs = true ∧ (rs.map fun r => PyData.list (diaryDs r)).all isDiary = true ∧ dueL i rs = rs.map fun r => PyData.list (diaryDs r))
  | [], i, _ => .inr ⟨rfl, rfl, rfl, rfl⟩
  | r :: rs, i, h => by
    rw [List.length_cons] at h
    have ih := due_read rs (i + 1) (by omega)
    have e1 : headsOk i (r :: rs) = (headOk i r && headsOk (i + 1) rs) := rfl
    have e2 : ((r :: rs).map fun r => PyData.list (diaryDs r)).all isDiary = (isDiary (.list (diaryDs r)) && (rs.map fun r => PyData.list (diaryDs r)).all isDiary) := rfl
    have e3 : headOk i r = decide ((words r)[0]? = some (letter i ++ ":")) := by
      unfold headOk
      rw [decide_eq_true (show i < 12 by omega), Bool.true_and]
    have e4 : dueL i (r :: rs) = rowD r (letter i) :: dueL (i + 1) rs := rfl
    rw [e1, e2, e4, List.any_cons]
    by_cases c : (words r)[0]? = some (letter i ++ ":") ∧ isDiary (.list (diaryDs r)) = true
    · have e5 : rowD r (letter i) = .list (diaryDs r) := if_pos c
      rw [e5, eqv_ln, Bool.false_or, e3, decide_eq_true c.1, Bool.true_and, c.2, Bool.true_and]
      rcases ih with ⟨a, b⟩ | ⟨a, b, c', d⟩
      · exact .inl ⟨a, b⟩
      · exact .inr ⟨a, b, c', by rw [d]; rfl⟩
    · have e5 : rowD r (letter i) = .none := if_neg c
      rw [e5, eqv_nn, Bool.true_or]
      refine .inl ⟨rfl, fun z => c ?_⟩
      have z1 := z.1
      have z2 := z.2
      rw [Bool.and_eq_true] at z1 z2
      rw [e3] at z1
      exact ⟨of_decide_eq_true z1.1, z2.1⟩
theorem hw_l_due {A : Nat → Nat} : ∀ cs Qr Qx, cs.length = 1 → pureSd 1 g_l_due cs Qr Qx → w_l_due A (kOf [] 1 Qr Qx) (initC ["_law_line", "_law_rows", "_law_found", "_law_at", "_law_row"] cs) := by
  rintro cs Qr Qx - ⟨ds, rfl, h⟩
  unfold g_l_due at h
  split at h
  · rename_i kk x
    obtain ⟨hg, h⟩ := h
    show w_l_due A (kOf [] 1 Qr Qx) [.val (.str x), .no, .no, .no, .no]
    unfold w_l_due
    have h : Qr (.val (dueD x)) [.no] := h
    have hrows : ∀ r ∈ rowsOf x, Gd r := fun r hr => hg.part hr
    simp
    refine ⟨by decide, hg.sz, ?_⟩
    have er : Txt.split x (Str.ofString "\n") = rowsOf x := rfl
    rw [er]
    have nopen : ¬ (headsOk 0 (rowsOf x) = true ∧ (foundDs x).all isDiary = true) → Qr (.val .none) [.no] := fun hn => by
      have e2 : dueD x = .none := by
        unfold dueD readD
        rw [if_neg hn]
      rwa [e2] at h
    by_cases c1 : (12 : Int) < (rowsOf x).length
    · rw [if_pos c1]
      refine nopen fun z => ?_
      have key : ∀ (rs : List Str) (i : Nat), headsOk i rs = true → i ≤ 12 → i + rs.length ≤ 12 := by
        intro rs
        induction rs with
        | nil => intro i _ hi; simpa using hi
        | cons r rs ih =>
          intro i hh hi
          have hh : (headOk i r && headsOk (i + 1) rs) = true := hh
          rw [Bool.and_eq_true] at hh
          have h1 : i < 12 := by
            have h2 := hh.1
            unfold headOk at h2
            rw [Bool.and_eq_true] at h2
            exact of_decide_eq_true h2.1
          have := ih (i + 1) hh.2 (by omega)
          rw [List.length_cons]
          omega
      have := key _ _ z.1 (by omega)
      omega
    · rw [if_neg c1]
      rw [enumD_eq]
      have hl12 : (rowsOf x).length ≤ 12 := by omega
      refine lc_map dueF trivial _ (fun d hd R hR => ?_) ?_ ?_
      · have hm : ∀ (rs : List Str) (i : Nat), i + rs.length ≤ 12 → (∀ r ∈ rs, Gd r) → d ∈ enumF i (rs.map PyData.str) → ∃ (j : Nat) (r : Str), d = .tuple [.int (j : Nat), .str r] ∧ j < 12 ∧ Gd r := by
          intro rs
          induction rs with
          | nil => intro i _ _ hd; cases hd
          | cons r rs ih =>
            intro i hi hg hd
            rw [List.length_cons] at hi
            rcases List.mem_cons.mp hd with e | hd
            · exact ⟨i, r, e, by omega, hg r List.mem_cons_self⟩
            · exact ih (i + 1) (by omega) (fun r' hr' => hg r' (List.mem_cons_of_mem _ hr')) hd
        obtain ⟨j, r, rfl, hj, hr⟩ := hm (rowsOf x) 0 (by omega) hrows hd
        have ea : atI (Str.ofString "abcdefghijkl").cps.toList (j : Int) = some ((lt readers).getD j 0) := atI_reader hj
        obtain ⟨a, ha⟩ : ∃ a, a = (lt readers).getD j 0 := ⟨_, rfl⟩
        rw [← ha] at ea
        have el : (⟨#[a]⟩ : Str) = letter j := by rw [ha]; rfl
        simp [ea, g_l_row_of]
        refine ⟨sz_n, hr, ?_, ?_⟩
        · refine ⟨fun c hc => ?_, Nat.le_refl _, fun y hy _ => Nat.le_trans hy.length_le (Nat.le_refl _)⟩
          have hc : c ∈ lt (⟨#[a]⟩ : Str) := hc
          rw [el] at hc
          have q : ∀ j, j < 12 → ((lt (letter j)).all fun c => decide (c < 0x110000)) = true := by decide
          exact of_decide_eq_true (List.all_eq_true.mp (q j hj) c hc)
        · rw [el]
          exact hR _ rfl
      · have : (enumF 0 ((rowsOf x).map PyData.str)).length = (rowsOf x).length := by
          rw [← enumD_eq, enumD_length, List.length_map]
        have := sizeLine_big
        omega
      · rw [dueF_L]
        simp
        refine ⟨shaped_list fun d hd => ?_, ?_⟩
        · obtain ⟨r, l, rfl⟩ := mem_dueL hd
          exact row_lay
        · rcases due_read (rowsOf x) 0 (by omega) with ⟨a, b⟩ | ⟨a, b, c, d⟩
          · rw [if_pos (by simpa using a)]
            exact nopen b
          · rw [if_neg (by simpa using a)]
            have e2 : dueD x = .list (dueL 0 (rowsOf x)) := by
              unfold dueD readD
              rw [if_pos ⟨b, c⟩, d]
              rfl
            rwa [e2] at h
  · exact h.elim
end K18
set_option maxHeartbeats 4000000
/-! K18M6: same; the ream. -/
namespace K18
open PySem PySem.Spec L2 DL
theorem hw_l_same {A : Nat → Nat} (n : Nat) : ∀ cs Qr Qx, cs.length = 2 → pureSd 2 (g_same (n + 1)) cs Qr Qx → w_l_same A (g_same n) (kOf [] 2 Qr Qx) (initC ["_law_found", "_law_due_here", "_law_k"] cs) := by
  rintro cs Qr Qx - ⟨ds, rfl, h⟩
  match ds, h with
  | [], h => exact h.elim
  | [d], h => exact h.elim
  | a :: b :: c :: r, h => exact h.elim
  | [d, e], h =>
    obtain ⟨rfl, ho, h2⟩ := (show d = e ∧ sameOk (n + 1) d ∧ Qr (.val (.bool true)) [.no, .no] from h)
    show w_l_same A (g_same n) (kOf [] 2 Qr Qx) [.val d, .val d, .no]
    unfold w_l_same
    cases d with
    | none => exact ho.elim
    | bool b => exact ho.elim
    | dict kv => exact ho.elim
    | int i =>
      simp [isA]
      exact h2
    | str x =>
      have e := shaped_str ho
      simp [isA, e]
      exact h2
    | list xs =>
      obtain ⟨hl, hs⟩ := (show xs.length ≤ 2000000 ∧ ∀ d ∈ xs, sameOk n d from ho)
      have hz := sizeLine_big
      simp [isA]
      refine ⟨by omega, ?_⟩
      refine lc_map (fun _ => .bool true) trivial _ (fun d hd R hR => ?_) (by rw [rgI_length]; omega) ?_
      · obtain ⟨i, hi, rfl⟩ := mem_rgI hd
        have ex : xs[i]? = some xs[i] := List.getElem?_eq_getElem hi
        have ea : atI xs ((0 : Int) + (i : Nat)) = some xs[i] := by rw [Int.zero_add]; exact atI_nat ex
        simp [atI_nat ex]
        exact ⟨rfl, hs _ (List.getElem_mem hi), hR _ rfl⟩
      · simp
        have e : ((rgI 0 xs.length).all fun _ => true) = true := List.all_eq_true.mpr fun _ _ => rfl
        rw [e]
        exact h2
    | tuple xs =>
      obtain ⟨hl, hs⟩ := (show xs.length ≤ 2000000 ∧ ∀ d ∈ xs, sameOk n d from ho)
      have hz := sizeLine_big
      simp [isA]
      refine ⟨by omega, ?_⟩
      refine lc_map (fun _ => .bool true) trivial _ (fun d hd R hR => ?_) (by rw [rgI_length]; omega) ?_
      · obtain ⟨i, hi, rfl⟩ := mem_rgI hd
        have ex : xs[i]? = some xs[i] := List.getElem?_eq_getElem hi
        simp [atI_nat ex]
        exact ⟨rfl, hs _ (List.getElem_mem hi), hR _ rfl⟩
      · simp
        have e : ((rgI 0 xs.length).all fun _ => true) = true := List.all_eq_true.mpr fun _ _ => rfl
        rw [e]
        exact h2
theorem hw_l_same0 {A : Nat → Nat} {gself : List D → (D → Prop) → Prop} : ∀ cs Qr Qx, cs.length = 2 → pureSd 2 (g_same 0) cs Qr Qx → w_l_same A gself (kOf [] 2 Qr Qx) (initC ["_law_found", "_law_due_here", "_law_k"] cs) := by
  rintro cs Qr Qx - ⟨ds, rfl, h⟩
  match ds, h with
  | [], h => exact h.elim
  | [d], h => exact h.elim
  | a :: b :: c :: r, h => exact h.elim
  | [d, e], h =>
    obtain ⟨rfl, ho, h2⟩ := (show d = e ∧ sameOk 0 d ∧ Qr (.val (.bool true)) [.no, .no] from h)
    show w_l_same A gself (kOf [] 2 Qr Qx) [.val d, .val d, .no]
    unfold w_l_same
    cases d with
    | int i =>
      simp [isA]
      exact h2
    | str x =>
      have e := shaped_str ho
      simp [isA, e]
      exact h2
    | _ => exact ho.elim
/-! ### the ream -/
theorem bits_le {z : Int} {k : Nat} (h : z.natAbs < 2 ^ k) : Builtin.Int.intBits z ≤ k := by
  unfold Builtin.Int.intBits
  split
  · exact Nat.zero_le _
  · rename_i hz
    have h0 : z.natAbs ≠ 0 := fun e => hz (by rw [Int.natAbs_eq_zero.mp e]; rfl)
    exact (Nat.log2_lt h0).mpr h
theorem log_lt {j : Int} {k : Nat} (h0 : 0 < j) (h : j.natAbs < 2 ^ k) : j.natAbs.log2 < k := (Nat.log2_lt (by omega)).mpr h
theorem div_ok {i j : Int} (h0 : 0 < j) (h : j < 10 ^ 45) : CDivW i j := ⟨h0, Nat.lt_of_lt_of_le (log_lt (k := 160) h0 (by omega)) (by decide)⟩
theorem mul_ok {i j : Int} (h1 : Builtin.Int.intBits i ≤ 2000000) (h2 : j.natAbs < 2 ^ 200) : CMulX i j := by
  have := bits_le h2
  unfold CMulX
  omega
theorem pow_ok {i j : Int} (h1 : i.natAbs < 2 ^ 200) (h2 : 0 ≤ j) (h3 : j ≤ 1000) : CPowW i j := by
  refine ⟨h2, ?_⟩
  have h4 : (Builtin.Int.intBits i : Int) ≤ 200 := by have := bits_le h1; omega
  have h5 : (Builtin.Int.intBits i : Int) * j ≤ 200 * 1000 := Int.mul_le_mul h4 h3 h2 (by decide)
  omega
theorem hw_l_ream {A : Nat → Nat} : ∀ cs Qr Qx, cs.length = 2 → sd_l_ream A cs Qr Qx → w_l_ream A (kOf [0] 2 Qr Qx) (initC ["_law_script", "_law_k", "_law_cell"] cs) := by
  rintro cs Qr Qx - ⟨ns, k, rfl, hk, hb, h⟩
  show w_l_ream A (kOf [0] 2 Qr Qx) [.own (.obj 0 (.list (ns.map PyData.int))), .val (.int k), .no]
  unfold w_l_ream
  have fin : ∀ a b : Int, 0 ≤ a → 0 ≤ b → b < 10 ^ 40 → Qr (.own (DL.own [.int a, .int b, .int 0])) [.own (.obj 0 (.list (ns.map PyData.int))), .no] := fun a b h1 h2 h3 =>
    h _ ⟨a, b, 0, rfl, h1, h2, h3, by omega, by omega⟩
  have md : ∀ z : Int, 0 ≤ z % 100000000000000000000000000000000000133 ∧ z % 100000000000000000000000000000000000133 < 10 ^ 40 := fun z => by omega
  simp
  by_cases hl : k < ns.length
  · rw [if_pos hl]
    have e : (ns.map PyData.int)[k]? = some (.int ns[k]) := by
      rw [List.getElem?_map, List.getElem?_eq_getElem hl]
      rfl
    have hc := hb ns[k] (List.getElem_mem hl)
    rw [atI_nat e]
    simp
    refine ⟨pow_ok (by decide) (by decide) (by decide), mul_ok (by omega) (by decide), mul_ok (by decide) (by omega), pow_ok (by decide) (by decide) (by decide), sz_n, fin _ _ (by omega) (md _).1 (md _).2⟩
  · rw [if_neg hl]
    exact ⟨pow_ok (by decide) (by decide) (by decide), mul_ok (by decide) (by decide), mul_ok (by decide) (by omega), pow_ok (by decide) (by decide) (by decide), sz_n, fin _ _ (by omega) (md _).1 (md _).2⟩
theorem hw_l_leaf {A : Nat → Nat} : ∀ cs Qr Qx, cs.length = 2 → sd_l_leaf A cs Qr Qx → w_l_leaf A (kOf [0] 2 Qr Qx) (initC ["_law_ream_here", "_law_many", "_law_found", "_law_press"] cs) := by
  rintro cs Qr Qx - ⟨t, n, m, rfl, ⟨a, b, n0, rfl, ha, hb, hb2, hn0, hn1⟩, hn, hm, hm2, h⟩
  show w_l_leaf A (kOf [0] 2 Qr Qx) [.own (DL.own [.int a, .int b, .int n0]), .val (.int m), .no, .no]
  unfold w_l_leaf
  simp
  by_cases c : 0 < a
  · rw [if_pos c]
    simp [ixN]
    exact ⟨hm, div_ok hm (by omega), h _ _ (Int.emod_nonneg _ (by omega)) (Int.emod_lt_of_pos _ hm) ⟨_, _, _, rfl, Int.ediv_nonneg ha (by omega), hb, hb2, hn0, by omega⟩⟩
  · rw [if_neg c]
    simp [ixN]
    have y1 : 0 ≤ (b + 53982847 * (n0 + 1)) ^ 2 % 100000000000000000000000000000000000000037 := Int.emod_nonneg _ (by decide)
    have y2 := Int.emod_lt_of_pos ((b + 53982847 * (n0 + 1)) ^ 2) (show (0 : Int) < 100000000000000000000000000000000000000037 by decide)
    generalize (b + 53982847 * (n0 + 1)) ^ 2 % 100000000000000000000000000000000000000037 = y at y1 y2
    exact ⟨mul_ok (by decide) (by omega), pow_ok (by omega) (by decide) (by decide), pow_ok (by decide) (by decide) (by decide), mul_ok (Nat.le_trans (bits_le (k := 200) (by omega)) (by decide)) (by decide), mul_ok (by decide) (by omega),
      pow_ok (by omega) (by decide) (by decide), pow_ok (by decide) (by decide) (by decide), pow_ok (by decide) (by decide) (by decide), div_ok (by decide) (by decide), hm,
      h _ _ (Int.emod_nonneg _ (by omega)) (Int.emod_lt_of_pos _ hm) ⟨_, _, _, rfl, ha, hb, hb2, by omega, by omega⟩⟩
end K18
set_option maxHeartbeats 4000000
/-! K18M7: rows drawn. -/
namespace K18
open PySem PySem.Spec L2 DL
theorem leaf_call {A : Nat → Nat} {n : Nat} {t : T} {m : Int} {Qr : C → List C → Prop} {Qx : Exn → List C → Prop} (ht : RmOk n t) (hn : n < 10 ^ 9) (h0 : 0 < m) (h1 : m < 10 ^ 40)
    (h : ∀ r t', 0 ≤ r → r < m → RmOk (n + 1) t' → Qr (.val (.int r)) [.own t', .no]) : sd_l_leaf A [.own t, .val (.int m)] Qr Qx := ⟨t, n, m, rfl, ht, hn, h0, h1, h⟩
theorem RmOk.le {n m : Nat} {t : T} (h : RmOk n t) (hm : n ≤ m) : RmOk m t := by
  obtain ⟨a, b, c, e, h1, h2, h3, h4, h5⟩ := h
  exact ⟨a, b, c, e, h1, h2, h3, h4, by omega⟩
theorem pick3 {a b c r : Int} (h0 : 0 ≤ r) (h1 : r < 3) : ∃ p, atI [PyData.int a, .int b, .int c] r = some (.int p) ∧ (p = a ∨ p = b ∨ p = c) := by
  have : r = 0 ∨ r = 1 ∨ r = 2 := by omega
  rcases this with rfl | rfl | rfl
  · exact ⟨a, atI_0, .inl rfl⟩
  · exact ⟨b, atI_1, .inr (.inl rfl)⟩
  · exact ⟨c, atI_2, .inr (.inr rfl)⟩
theorem hw_l_tomes {A : Nat → Nat} : ∀ cs Qr Qx, cs.length = 2 → sd_l_tomes A cs Qr Qx → w_l_tomes A (kOf [0] 2 Qr Qx) (initC ["_law_ream_here", "_law_most", "_law_found", "_law_who", "_law_row", "_law_page", "_law_k", "_law_begin"] cs) := by
  rintro cs Qr Qx - ⟨t, n, rfl, ht, hn, h⟩
  show w_l_tomes A (kOf [0] 2 Qr Qx) [.own t, .val (.int 12), .no, .no, .no, .no, .no, .no]
  unfold w_l_tomes
  have hsz := sizeLine_big
  simp
  refine leaf_call ht (by omega) (by decide) (by decide) fun r0 t0 hr0 hr0' ht0 => ?_
  simp
  repeat (refine And.intro (by omega) ?_)
  refine loop_inv (fun items ρ => ∃ (t' : T) (rows : List D) (c3 c4 c5 c6 c7 : C), ρ = [.own t', .val (.int 12), .own (DL.own rows), c3, c4, c5, c6, c7] ∧ rows.length + items.length = (1 + r0).toNat ∧ RmOk (n + 1 + 20 * rows.length) t' ∧ ∀ d ∈ rows, rowOk d) ?h0 ?hs _ _ ?init
  case init => exact ⟨t0, [], .no, .no, .no, .no, .no, rfl, by simp, ht0, fun d hd => by cases hd⟩
  case h0 =>
    rintro ρ ⟨t', rows, c3, c4, c5, c6, c7, rfl, hl, hR, hrows⟩
    simp at hl
    simp
    refine h _ _ ⟨fun e => ?_, by omega, hrows⟩ (hR.le (by omega))
    rw [e] at hl
    simp at hl
    omega
  case hs =>
    rintro d ds ρ R hRR ⟨t', rows, c3, c4, c5, c6, c7, rfl, hl, hR, hrows⟩
    rw [List.length_cons] at hl
    simp
    refine leaf_call hR (by omega) (by decide) (by decide) fun r1 t1 a1 b1 hR1 => ?_
    simp
    refine ⟨pow_ok (by decide) (by decide) (by decide), ?_⟩
    refine leaf_call hR1 (by omega) (by decide) (by decide) fun r2 t2 a2 b2 hR2 => ?_
    simp
    refine ⟨sz_n, ?_⟩
    refine leaf_call hR2 (by omega) (by decide) (by decide) fun r3 t3 a3 b3 hR3 => ?_
    simp
    obtain ⟨p, ep, hp⟩ := pick3 (a := 0) (b := r1) (c := r2) a3 b3
    rw [ep]
    simp
    refine leaf_call hR3 (by omega) (by decide) (by decide) fun r4 t4 a4 b4 hR4 => ?_
    simp
    repeat (refine And.intro (by omega) ?_)
    refine loop_inv (fun items ρ => ∃ (t' : T) (row : List D) (pg : Int) (c6 c7 : C), ρ = [.own t', .val (.int 12), .own (DL.own rows), .val d, .own (DL.own row), .val (.int pg), c6, c7] ∧ row.length + items.length = r4.toNat ∧
      RmOk (n + 1 + 20 * rows.length + 4 + 5 * row.length) t' ∧ (∀ d ∈ row, spOk d) ∧ 0 ≤ pg ∧ pg < 10 ^ 31 * (row.length + 1)) ?i0 ?is _ _ ?iinit
    case iinit => exact ⟨t4, [], p, c6, c7, rfl, by simp, hR4, fun d hd => (by cases hd), by omega, by simp; omega⟩
    case i0 =>
      rintro ρ ⟨t', row, pg, c6, c7, rfl, hl', hR', hrow, _, _⟩
      simp at hl'
      simp
      refine ⟨by omega, hRR _ ⟨t', rows ++ [.list row], _, _, _, _, _, rfl, ?_, ?_, ?_⟩⟩
      · rw [List.length_append]
        show rows.length + 1 + _ = _
        omega
      · rw [List.length_append]
        refine hR'.le ?_
        have e1 : ([PyData.list row] : List D).length = 1 := rfl
        omega
      · intro d hd
        rcases List.mem_append.mp hd with hd | hd
        · exact hrows d hd
        · rw [List.mem_singleton] at hd
          subst hd
          exact ⟨by omega, hrow⟩
    case is =>
      rintro d' ds' ρ R' hRR' ⟨t', row, pg, c6, c7, rfl, hl', hR', hrow, hg0, hg1⟩
      rw [List.length_cons] at hl'
      simp
      refine leaf_call hR' (by omega) (by decide) (by decide) fun s1 u1 p1 q1 hU1 => ?_
      simp
      refine ⟨sz_n, ?_⟩
      refine leaf_call hU1 (by omega) (by decide) (by decide) fun s2 u2 p2 q2 hU2 => ?_
      simp
      obtain ⟨b1', eb, hb⟩ := pick3 (a := 0) (b := 0) (c := s1) p2 q2
      rw [eb]
      simp
      refine leaf_call hU2 (by omega) (by decide) (by decide) fun s3 u3 p3 q3 hU3 => ?_
      simp
      refine ⟨pow_ok (by decide) (by decide) (by decide), ?_⟩
      refine leaf_call hU3 (by omega) (by decide) (by decide) fun s4 u4 p4 q4 hU4 => ?_
      simp
      refine ⟨sz_n, ?_⟩
      refine leaf_call hU4 (by omega) (by decide) (by decide) fun s5 u5 p5 q5 hU5 => ?_
      simp
      obtain ⟨c1', ec, hcc⟩ := pick3 (a := 0) (b := s3) (c := s4) p5 q5
      rw [ec]
      simp
      have e1 : ([PyData.tuple [.int (pg + b1'), .int (pg + b1' + 1 + c1')]] : List D).length = 1 := rfl
      have hj : row.length ≤ 3 := by omega
      refine ⟨sz_n, by omega, hRR' _ ⟨u5, row ++ [PyData.tuple [.int (pg + b1'), .int (pg + b1' + 1 + c1')]], pg + b1' + 1 + c1', _, _, rfl, by rw [List.length_append]; omega, hU5.le (by rw [List.length_append]; omega), fun d hd => ?_, by omega, by rw [List.length_append, e1]; omega⟩⟩
      rcases List.mem_append.mp hd with hd | hd
      · exact hrow d hd
      · rw [List.mem_singleton] at hd
        subst hd
        exact ⟨by omega, by omega, by omega, by omega⟩
end K18
set_option maxHeartbeats 4000000
/-! K18M8: a text made crooked. -/
namespace K18
open PySem PySem.Spec L2 DL
theorem infix_app {y a b : List Nat} (h : y <:+: a ++ b) : ∃ y1 y2, y = y1 ++ y2 ∧ y1 <:+: a ∧ y2 <:+: b := by
  obtain ⟨s, t, e⟩ := h
  rw [List.append_assoc] at e
  rcases List.append_eq_append_iff.mp e with ⟨c, e1, e2⟩ | ⟨c, e1, e2⟩
  · -- a = s ++ c, y ++ t = c ++ b
    rcases List.append_eq_append_iff.mp e2 with ⟨d, e3, e4⟩ | ⟨d, e3, e4⟩
    · refine ⟨y, [], (List.append_nil _).symm, ?_, List.nil_infix⟩
      rw [e1, e3]
      exact ⟨s, d, by simp⟩
    · refine ⟨c, d, e3, ?_, ?_⟩
      · rw [e1]; exact ⟨s, [], by simp⟩
      · rw [e4]; exact ⟨[], t, by simp⟩
  · -- s = a ++ c, b = c ++ (y ++ t)
    refine ⟨[], y, rfl, List.nil_infix, ?_⟩
    rw [e2]
    exact ⟨c, t, by simp⟩
theorem TxOk.app {r1 r2 n1 n2 : Nat} {a b : List Nat} (h1 : TxOk r1 n1 a) (h2 : TxOk r2 n2 b) : TxOk (r1 + r2) (n1 + n2) (a ++ b) where
  vd := fun c hc => (List.mem_append.mp hc).elim (h1.vd c) (h2.vd c)
  len := by rw [List.length_append]; have := h1.len; have := h2.len; omega
  run := fun y hy hd => by
    obtain ⟨y1, y2, rfl, i1, i2⟩ := infix_app hy
    have a1 := h1.run y1 i1 fun c hc => hd c (List.mem_append_left _ hc)
    have a2 := h2.run y2 i2 fun c hc => hd c (List.mem_append_right _ hc)
    rw [List.length_append]
    omega
theorem TxOk.le {r1 r2 n1 n2 : Nat} {a : List Nat} (h : TxOk r1 n1 a) (hr : r1 ≤ r2) (hn : n1 ≤ n2) : TxOk r2 n2 a := ⟨h.vd, Nat.le_trans h.len hn, fun y i d => Nat.le_trans (h.run y i d) hr⟩
theorem TxOk.nil : TxOk 0 0 [] := ⟨fun c hc => (by cases hc), Nat.le_refl _, fun y i _ => (by rw [List.infix_nil.mp i]; exact Nat.le_refl _)⟩
/-- any text, by its length alone -/
theorem TxOk.any {n : Nat} {a : List Nat} (hv : ∀ c ∈ a, c < 0x110000) (h : a.length ≤ n) : TxOk n n a := ⟨hv, h, fun y i _ => Nat.le_trans i.length_le h⟩
theorem cut_inf (x : Str) (lo hi : Option Int) : lt (cutS x lo hi) <:+: lt x := by
  unfold cutS
  show (List.take _ (List.drop _ (lt x))).toArray.toList <:+: lt x
  exact (List.take_prefix _ _).isInfix.trans (List.drop_suffix _ _).isInfix
theorem tx_cut {r n : Nat} {x : Str} (h : TxOk r n (lt x)) (lo hi : Option Int) : TxOk r n (lt (cutS x lo hi)) := h.inf (cut_inf x lo hi)
theorem tx_app {r1 r2 n1 n2 r n : Nat} {a b : Str} (h1 : TxOk r1 n1 (lt a)) (h2 : TxOk r2 n2 (lt b)) (hr : r1 + r2 ≤ r) (hn : n1 + n2 ≤ n) : TxOk r n (lt (a ++ b)) := by
  have e : lt (a ++ b) = lt a ++ lt b := lt_app a b
  rw [e]
  exact (h1.app h2).le hr hn
theorem tx_one {c : Nat} (h : c < 0x110000) : TxOk 1 1 (lt ⟨#[c]⟩) := TxOk.any (a := [c]) (fun d hd => by rw [List.mem_singleton] at hd; omega) (Nat.le_refl _)
theorem sl_app (a b : Str) : (a ++ b).length = a.length + b.length := by
  rw [len_lt, lt_app, List.length_append, len_lt, len_lt]
theorem one_len {c : Nat} : (⟨#[c]⟩ : Str).length = 1 := rfl
def sgs : Str := " 0123456789-|:abcdlmzA+.\n\t_"
theorem sg_at {r : Int} (h0 : 0 ≤ r) (h1 : r < 27) : ∃ ch, atI (Str.ofString " 0123456789-|:abcdlmzA+.\n\t_").cps.toList r = some ch ∧ ch < 0x110000 := by
  obtain ⟨k, rfl⟩ := Int.eq_ofNat_of_zero_le h0
  have el : (lt sgs).length = 27 := by decide
  have hk : k < (lt sgs).length := by omega
  refine ⟨(lt sgs)[k], atI_nat (List.getElem?_eq_getElem hk), ?_⟩
  have q : ((lt sgs).all fun c => decide (c < 0x110000)) = true := by decide
  exact of_decide_eq_true (List.all_eq_true.mp q _ (List.getElem_mem hk))
theorem atI_all {ds : List D} {r : Int} {Q : D → Prop} (h0 : 0 ≤ r) (h1 : r < ds.length) (h : ∀ d ∈ ds, Q d) : match atI ds r with
  | some d => Q d
  | none => False := by
  obtain ⟨k, rfl⟩ := Int.eq_ofNat_of_zero_le h0
  have hk : k < ds.length := by omega
  rw [atI_nat (List.getElem?_eq_getElem hk)]
  exact h _ (List.getElem_mem hk)
theorem hw_l_crooked {A : Nat → Nat} : ∀ cs Qr Qx, cs.length = 2 → sd_l_crooked A cs Qr Qx → w_l_crooked A (kOf [0] 2 Qr Qx) (initC ["_law_ream_here", "_law_line", "_law_at", "_law_to", "_law_sign", "_law_few", "_law_last", "_law_some"] cs) := by
  rintro cs Qr Qx - ⟨t, n, r, l, x, rfl, hx, hl, ht, hn, h⟩
  show w_l_crooked A (kOf [0] 2 Qr Qx) [.own t, .val (.str x), .no, .no, .no, .no, .no, .no]
  unfold w_l_crooked
  have hsz := sizeLine_big
  have hxl : (lt x).length ≤ l := hx.len
  have exl : x.length = (lt x).length := len_lt x
  simp
  repeat (refine And.intro (by omega) ?_)
  refine leaf_call ht (by omega) (by omega) (by omega) fun r1 t1 a1 b1 hR1 => ?_
  simp
  repeat (refine And.intro (by omega) ?_)
  refine leaf_call hR1 (by omega) (by omega) (by omega) fun r2 t2 a2 b2 hR2 => ?_
  simp
  refine leaf_call hR2 (by omega) (by omega) (by omega) fun r3 t3 a3 b3 hR3 => ?_
  simp
  refine ⟨sz_n, ?_⟩
  obtain ⟨ch, ec, hc⟩ := sg_at a3 b3
  rw [ec]
  have c1 := cutS_length x none (some r1)
  have c2 := cutS_length x (some r1) none
  have c3 := cutS_length x (some (r1 + 1)) none
  have c4 := cutS_length x none (some (min r1 r2))
  have c5 := cutS_length x (some (max r1 r2)) none
  have c6 := cutS_length x none (some (max r1 r2))
  have c7 := cutS_length x (some (min r1 r2)) none
  have c9 := cutS_length x none (some 900)
  simp only [sl_app, one_len]
  repeat (refine And.intro (by omega) ?_)
  refine leaf_call hR3 (by omega) (by decide) (by decide) fun r4 t4 a4 b4 hR4 => ?_
  simp
  refine atI_all a4 (by simpa using b4) ?_
  have fin : ∀ y : Str, TxOk (2 * r + 1) (2 * l + 1000) (lt y) → Qr (.val (.str y)) [.own t4, .no] := fun y hy => h y t4 hy (hR4.le (by omega))
  have ho := tx_one hc
  have hcut := fun lo hi => tx_cut hx lo hi
  intro d hd
  simp only [List.mem_cons, List.not_mem_nil, or_false] at hd
  rcases hd with rfl | rfl | rfl | rfl | rfl | rfl | rfl | rfl | rfl | rfl
  · exact fin _ (tx_app (tx_app (hcut _ _) ho (Nat.le_refl _) (Nat.le_refl _)) (hcut _ _) (by omega) (by omega))
  · exact fin _ (tx_app (hcut _ _) (hcut _ _) (by omega) (by omega))
  · exact fin _ (tx_app (tx_app (hcut _ _) ho (Nat.le_refl _) (Nat.le_refl _)) (hcut _ _) (by omega) (by omega))
  · exact fin _ (tx_app (hcut _ _) (hcut _ _) (by omega) (by omega))
  · exact fin _ (tx_app (hcut _ _) (hcut _ _) (by omega) (by omega))
  · exact fin _ ((hcut _ _).le (by omega) (by omega))
  · exact fin _ (tx_app (hcut _ _) (hcut _ _) (by omega) (by omega))
  · exact fin _ (tx_app hx (hcut _ _) (by omega) (by omega))
  · exact fin _ (TxOk.nil.le (by omega) (by omega))
  · exact fin _ (tx_app hx ho (by omega) (by omega))
end K18
set_option maxHeartbeats 4000000
/-! K18M9: rows written. -/
namespace K18
open PySem PySem.Spec L2 DL
theorem infix_sep {y a b : List Nat} {c : Nat} (h : y <:+: a ++ c :: b) (hc : c ∉ y) : y <:+: a ∨ y <:+: b := by
  obtain ⟨s, t, e⟩ := h
  rw [List.append_assoc] at e
  rcases List.append_eq_append_iff.mp e with ⟨d, e1, e2⟩ | ⟨d, e1, e2⟩
  · rcases List.append_eq_append_iff.mp e2 with ⟨f, e3, e4⟩ | ⟨f, e3, e4⟩
    · refine .inl ?_
      rw [e1, e3]
      exact ⟨s, f, by simp⟩
    · cases f with
      | nil =>
        refine .inl ?_
        rw [List.append_nil] at e3
        rw [e1, e3]
        exact ⟨s, [], by simp⟩
      | cons g f =>
        injection e4 with e5 e6
        exact absurd (by rw [e3, e5]; simp) hc
  · cases d with
    | nil =>
      cases y with
      | nil => exact .inl List.nil_infix
      | cons g y =>
        injection e2 with e5 e6
        exact absurd (by rw [e5]; simp) hc
    | cons g d =>
      injection e2 with e5 e6
      refine .inr ?_
      rw [e6]
      exact ⟨d, t, by simp⟩
theorem TxOk.sep {r n1 n2 c : Nat} {a b : List Nat} (h1 : TxOk r n1 a) (h2 : TxOk r n2 b) (hc : dig c = false) (hv : c < 0x110000) : TxOk r (n1 + 1 + n2) (a ++ c :: b) where
  vd := fun d hd => (List.mem_append.mp hd).elim (h1.vd d) fun hd => (List.mem_cons.mp hd).elim (fun e => by rw [e]; exact hv) (h2.vd d)
  len := by rw [List.length_append, List.length_cons]; have := h1.len; have := h2.len; omega
  run := fun y hy hd => (infix_sep hy fun m => by have := hd c m; rw [hc] at this; cases this).elim (fun i => h1.run y i hd) fun i => h2.run y i hd
theorem tx_sep {r n1 n2 c : Nat} {a b s : Str} (hs : lt s = [c]) (h1 : TxOk r n1 (lt a)) (h2 : TxOk r n2 (lt b)) (hc : dig c = false) (hv : c < 0x110000) : TxOk r (n1 + 1 + n2) (lt (a ++ s ++ b)) := by
  have e : lt (a ++ s ++ b) = lt a ++ c :: lt b := by
    have e1 : lt (a ++ s ++ b) = lt (a ++ s) ++ lt b := lt_app _ _
    have e2 : lt (a ++ s) = lt a ++ lt s := lt_app _ _
    rw [e1, e2, hs, List.append_assoc]
    rfl
  rw [e]
  exact h1.sep h2 hc hv
theorem tx_join {r n c : Nat} {s : Str} (hs : lt s = [c]) (hc : dig c = false) (hv : c < 0x110000) : ∀ ps : List Str, (∀ p ∈ ps, TxOk r n (lt p)) → TxOk r (ps.length * (n + 1)) (lt (Str.join s ps))
  | [], _ => TxOk.nil.le (Nat.zero_le _) (Nat.zero_le _)
  | [x], h => (h x List.mem_cons_self).le (Nat.le_refl _) (by simp)
  | x :: z :: ps, h => by
    have ih := tx_join hs hc hv (z :: ps) fun p hp => h p (List.mem_cons_of_mem _ hp)
    show TxOk r _ (lt (x ++ s ++ Str.join s (z :: ps)))
    refine (tx_sep hs (h x List.mem_cons_self) ih hc hv).le (Nat.le_refl _) ?_
    simp only [List.length_cons, Nat.add_mul]
    omega
theorem tx_join' {r n c : Nat} {s : Str} (hs : lt s = [c]) (hc : dig c = false) (hv : c < 0x110000) (ps : List Str) (h : ∀ p ∈ ps, TxOk r n (lt p)) : TxOk r (ps.length * (n + 1)) (lt (Txt.join s ps)) := by
  have e : Txt.join s ps = Str.join s ps := StrLaws.glued_eq_join s ps
  rw [e]
  exact tx_join hs hc hv ps h
theorem tx_num {i : Int} (h0 : 0 ≤ i) (h1 : i < 10 ^ 33) : TxOk 33 33 (lt (Str.ofString (toString i))) := by
  refine TxOk.any (fun c hc => ?_) ?_
  · by_cases e : c ≠ 45 ∧ (c < 48 ∨ 57 < c)
    · exact absurd hc (PyProof.Rows.int_text_free' c e i)
    · omega
  · have := PyProof.Rows.toString_length_le h0 (k := 33) (by decide) h1
    rwa [len_lt] at this
theorem sum_len {n : Nat} : ∀ ps : List Str, (∀ p ∈ ps, p.length ≤ n) → (ps.map fun z : Str => z.length).sum ≤ ps.length * n
  | [], _ => Nat.zero_le _
  | p :: ps, h => by
    have ih := sum_len ps fun q hq => h q (List.mem_cons_of_mem _ hq)
    have := h p List.mem_cons_self
    simp only [List.map_cons, List.sum_cons, List.length_cons, Nat.add_mul]
    omega
theorem cutD_map (rs : List Str) (lo hi : Option Int) : ∃ ys : List Str, cutD (rs.map PyData.str) lo hi = ys.map PyData.str ∧ ys.length ≤ rs.length ∧ ∀ p ∈ ys, p ∈ rs := by
  unfold cutD
  refine ⟨(rs.drop (HT.sIx (rs.map PyData.str).length 0 lo)).take (HT.sIx (rs.map PyData.str).length (rs.map PyData.str).length hi - HT.sIx (rs.map PyData.str).length 0 lo), by rw [List.map_take, List.map_drop], ?_, fun p hp => List.mem_of_mem_drop (List.mem_of_mem_take hp)⟩
  rw [List.length_take, List.length_drop]
  omega
def spS : D → Str
  | .tuple [.int a, .int b] => Str.ofString (toString a) ++ "-" ++ Str.ofString (toString b)
  | _ => ""
theorem log_ok {a : Int} (h0 : 0 ≤ a) (h1 : a < 10 ^ 33) : a.natAbs.log2 < 1920 := by
  by_cases e : a = 0
  · subst e; decide
  · exact Nat.lt_of_lt_of_le (log_lt (k := 120) (by omega) (by omega)) (by decide)
theorem tx_sp {d : D} (h : spOk d) : TxOk 33 67 (lt (spS d)) := by
  unfold spOk at h
  split at h
  · rename_i a b
    exact (tx_sep (c := 45) (by decide) (tx_num h.1 h.2.1) (tx_num h.2.2.1 h.2.2.2) (by decide) (by decide)).le (Nat.le_refl _) (by decide)
  · exact h.elim
theorem hw_l_laid {A : Nat → Nat} : ∀ cs Qr Qx, cs.length = 2 → sd_l_laid A cs Qr Qx → w_l_laid A (kOf [0] 2 Qr Qx) (initC ["_law_ream_here", "_law_tomes_here", "_law_rows", "_law_who", "_law_row", "_law_some", "_law_at", "_law_ways", "_law_one", "_law_two"] cs) := by
  rintro cs Qr Qx - ⟨t, n, rows, rfl, ⟨hne, hl12, hrows⟩, ht, hn, h⟩
  show w_l_laid A (kOf [0] 2 Qr Qx) [.own t, .val (.list rows), .no, .no, .no, .no, .no, .no, .no, .no]
  unfold w_l_laid
  have hsz := sizeLine_big
  simp
  rw [enumD_eq]
  refine loop_inv (fun items ρ => ∃ (t' : T) (i : Nat) (rest : List D) (rs : List Str) (c3 c4 c5 : C), ρ = [.own t', .val (.list rows), .own (DL.own (rs.map PyData.str)), c3, c4, c5, .no, .no, .no, .no] ∧ items = enumF i rest ∧ rs.length = i ∧ i + rest.length = rows.length ∧
    (∀ d ∈ rest, rowOk d) ∧ RmOk (n + i) t' ∧ ∀ p ∈ rs, TxOk 33 272 (lt p)) ?h0 ?hs _ _ ?init
  case init => exact ⟨t, 0, rows, [], .no, .no, .no, rfl, rfl, rfl, by omega, hrows, ht, fun p hp => (by cases hp)⟩
  case h0 =>
    rintro ρ ⟨t', i, rest, rs, c3, c4, c5, rfl, e, hi, hlen, _, hR, hrs⟩
    cases rest with
    | cons _ _ => cases e
    | nil =>
      rw [List.length_nil] at hlen
      have hpos : 0 < rows.length := List.length_pos_iff.mpr hne
      simp
      refine leaf_call hR (by omega) (by omega) (by omega) fun r1 t1 a1 b1 hR1 => ?_
      obtain ⟨y1, k1, l1, m1⟩ := cutD_map rs none (some r1)
      obtain ⟨y2, k2, l2, m2⟩ := cutD_map rs (some (r1 + 1)) none
      obtain ⟨y3, k3, l3, m3⟩ := cutD_map rs none (some (r1 + 1))
      obtain ⟨y4, k4, l4, m4⟩ := cutD_map rs (some r1) none
      obtain ⟨y5, k5, l5, m5⟩ := cutD_map (rs ++ (rs ++ (rs ++ (rs ++ (rs ++ (rs ++ (rs ++ (rs ++ (rs ++ (rs ++ (rs ++ (rs ++ rs)))))))))))) none (some 13)
      simp only [List.map_append] at k5
      simp only [List.length_append] at l5
      simp [k1, k2, k3, k4]
      repeat (refine And.intro (by omega) ?_)
      refine leaf_call hR1 (by omega) (by decide) (by decide) fun r2 t2 a2 b2 hR2 => ?_
      simp [k5]
      refine atI_all a2 (by simpa using b2) ?_
      have fin : ∀ ys : List Str, ys.length ≤ 160 → (∀ p ∈ ys, TxOk 33 272 (lt p)) → gJoin (.str "\n") [.list (ys.map PyData.str)] fun z => Qr (.val z) [.own t2, .no] := fun ys hl hy => by
        have hs := sum_len (n := 272) ys fun p hp => by rw [len_lt]; exact (hy p hp).len
        rw [gJoin_s]
        refine ⟨?_, h _ _ ((tx_join' (c := 10) (by decide) (by decide) (by decide) ys hy).le (by omega) (by omega)) (hR2.le (by omega))⟩
        have e1 : (Str.ofString "\n").length = 1 := by decide
        rw [e1, Nat.mul_one]
        omega
      intro d hd
      simp only [List.mem_cons, List.not_mem_nil, or_false] at hd
      have hrl : rs.length ≤ 12 := by omega
      rcases hd with rfl | rfl | rfl | rfl | rfl | rfl | rfl
      · exact fin rs (by omega) hrs
      · exact fin rs (by omega) hrs
      · rw [← List.map_append]
        refine fin _ (by rw [List.length_append]; omega) fun p hp => ?_
        exact (List.mem_append.mp hp).elim (fun q => hrs p (m1 p q)) fun q => hrs p (m2 p q)
      · rw [← List.map_reverse]
        exact fin _ (by rw [List.length_reverse]; omega) fun p hp => hrs p (List.mem_reverse.mp hp)
      · rw [← List.map_append]
        refine fin _ (by rw [List.length_append]; omega) fun p hp => ?_
        exact (List.mem_append.mp hp).elim (fun q => hrs p (m3 p q)) fun q => hrs p (m4 p q)
      · refine fin y5 (by omega) fun p hp => hrs p ?_
        have := m5 p hp
        simpa using this
      · have e1 : List.map PyData.str rs ++ [PyData.str (Str.ofString "")] = (rs ++ [Str.ofString ""]).map PyData.str := by rw [List.map_append]; rfl
        rw [e1]
        refine fin _ (by rw [List.length_append]; have : ([Str.ofString ""] : List Str).length = 1 := rfl; omega) fun p hp => ?_
        rcases List.mem_append.mp hp with q | q
        · exact hrs p q
        · rw [List.mem_singleton] at q
          subst q
          exact TxOk.nil.le (by omega) (by omega)
  case hs =>
    rintro d ds ρ R hRR ⟨t', i, rest, rs, c3, c4, c5, rfl, e, hi, hlen, hro, hR, hrs⟩
    cases rest with
    | nil => cases e
    | cons row rest =>
      injection e with e1 e2
      subst e1 e2
      have hrow := hro row List.mem_cons_self
      rw [List.length_cons] at hlen
      cases row with
      | list ss =>
        obtain ⟨hs3, hss⟩ := hrow
        simp
        repeat (refine And.intro (by omega) ?_)
        refine leaf_call hR (by omega) (by decide) (by decide) fun r1 t1 a1 b1 hR1 => ?_
        simp
        refine atI_all a1 (by simpa using b1) ?_
        intro d hd
        obtain ⟨es, rfl, hl, he⟩ : ∃ es, d = .list es ∧ es.length ≤ 3 ∧ ∀ d ∈ es, spOk d := by
          simp only [List.mem_cons, List.not_mem_nil, or_false] at hd
          rcases hd with rfl | rfl | rfl | rfl
          · exact ⟨ss, rfl, hs3, hss⟩
          · exact ⟨ss, rfl, hs3, hss⟩
          · exact ⟨ss, rfl, hs3, hss⟩
          · exact ⟨ss.reverse, rfl, by rw [List.length_reverse]; exact hs3, fun d hd => hss d (List.mem_reverse.mp hd)⟩
        refine lc_map (fun d => .str (spS d)) trivial es (fun d hd R hR => ?_) (by omega) ?_
        · have hd' := he d hd
          unfold spOk at hd'
          split at hd'
          · rename_i a b
            obtain ⟨h0, h1, h2, h3⟩ := hd'
            have na : (Str.ofString (toString a)).length ≤ 33 := PyProof.Rows.toString_length_le h0 (by decide) h1
            have nb : (Str.ofString (toString b)).length ≤ 33 := PyProof.Rows.toString_length_le h2 (by decide) h3
            have e1 : (Str.ofString "-").length = 1 := by decide
            have na' : (Str.ofString a.repr).length ≤ 33 := na
            have nb' : (Str.ofString b.repr).length ≤ 33 := nb
            simp [sl_app]
            refine ⟨log_ok h0 h1, by omega, log_ok h2 h3, by omega, ?_⟩
            exact hR _ rfl
          · exact hd'.elim
        · have hi12 : i < 12 := by omega
          have ea : atI (Str.ofString "abcdefghijkl").cps.toList (i : Int) = some ((lt readers).getD i 0) := atI_reader hi12
          obtain ⟨a, ha⟩ : ∃ a, a = (lt readers).getD i 0 := ⟨_, rfl⟩
          rw [← ha] at ea
          have el : (⟨#[a]⟩ : Str) ++ Str.ofString ":" = letter i ++ ":" := by rw [ha]; rfl
          have em : (es.map fun d => PyData.str (spS d)) = (es.map spS).map PyData.str := by rw [List.map_map]; rfl
          simp [ea, el, em]
          have ec : PyData.str (letter i ++ Str.ofString ":") :: List.map (PyData.str ∘ spS) es = ((letter i ++ ":") :: es.map spS).map PyData.str := by rw [List.map_cons, List.map_map]
          have l1 : (⟨#[a]⟩ : Str).length = 1 := rfl
          have l2 : (Str.ofString ":").length = 1 := by decide
          have l3 : (Str.ofString " ").length = 1 := by decide
          have hps : ∀ p ∈ (letter i ++ ":") :: es.map spS, TxOk 33 67 (lt p) := fun p hp => by
            rcases List.mem_cons.mp hp with e | hp
            · rw [e]
              refine (TxOk.any (n := 2) (letter_vd hi12) ?_).le (by decide) (by decide)
              have e3 : lt (letter i ++ ":") = lt (letter i) ++ lt ":" := lt_app _ _
              rw [e3]
              exact Nat.le_refl _
            · obtain ⟨d, hd, rfl⟩ := List.mem_map.mp hp
              exact tx_sp (he d hd)
          have hsum := sum_len (n := 67) _ fun p hp => by rw [len_lt]; exact (hps p hp).len
          have hlen' : ((letter i ++ ":") :: es.map spS).length ≤ 4 := by rw [List.length_cons, List.length_map]; omega
          rw [ec, gJoin_s]
          refine ⟨by rw [sizeLine_eq]; decide, by omega, by omega, by omega, by rw [l3, Nat.mul_one]; omega, by omega, ?_⟩
          refine hRR _ ⟨t1, i + 1, rest, rs ++ [Txt.join " " ((letter i ++ ":") :: es.map spS)], .val (.int i), .val (.list ss), .val (.list (es.map (PyData.str ∘ spS))), ?_, rfl, by rw [List.length_append]; show rs.length + 1 = _; omega, by omega, fun d hd => hro d (List.mem_cons_of_mem _ hd), hR1.le (by omega), fun p hp => ?_⟩
          · rw [List.map_append]
            rfl
          · rcases List.mem_append.mp hp with q | q
            · exact hrs p q
            · rw [List.mem_singleton] at q
              subst q
              exact (tx_join' (c := 32) (by decide) (by decide) (by decide) _ hps).le (by omega) (by omega)
      | _ => exact hrow.elim
end K18
set_option maxHeartbeats 4000000
/-! K18M10: the law. -/
namespace K18
open PySem PySem.Spec L2 DL
theorem told_str {A : Nat → Nat} {x : Str} {Qr : C → List C → Prop} {Qx : Exn → List C → Prop} (hg : Gd x) (h : Qr (.val (toldD x)) [.no]) : sd_l_told A [.val (.str x)] Qr Qx := ⟨_, rfl, hg, h⟩
theorem told_odd {A : Nat → Nat} {d : D} {Qr : C → List C → Prop} {Qx : Exn → List C → Prop} (h0 : ∀ x, d ≠ .str x) (hp : plainD d = true) (h : Qr (.val (.str "text")) [.no]) : sd_l_told A [.val d] Qr Qx := by
  refine ⟨d, rfl, ?_⟩
  cases d with
  | str x => exact absurd rfl (h0 x)
  | _ => exact ⟨hp, h⟩
theorem told_none {x : Str} (h : (readD x).isNone = true) : toldD x = .str "text" := by
  unfold toldD
  rw [Option.isNone_iff_eq_none.mp h]
def chk (x : Str) : Bool := decide ((lt x).length ≤ 600) && (lt x).all (fun c => decide (c < 0x110000)) && (readD x).isNone
theorem chk_gd {x : Str} (h : chk x = true) : Gd x ∧ toldD x = .str "text" := by
  unfold chk at h
  rw [Bool.and_eq_true, Bool.and_eq_true] at h
  exact ⟨(TxOk.any (fun c hc => of_decide_eq_true (List.all_eq_true.mp h.1.2 c hc)) (of_decide_eq_true h.1.1)).le (Nat.le_refl _) (by decide), told_none h.2⟩
def s13 : Str := "abcdefghijklm"
def t13 (i : Nat) : Str := ⟨#[(lt s13).getD i 0]⟩ ++ ": 0-1"
def thirteen : Str := Txt.join "\n" ((List.range 13).map t13)
theorem chk_13 : chk thirteen = true := by decide +kernel
theorem chk_a : chk "a: 5-5" = true := by decide +kernel
theorem chk_b : chk "a: 5-7 6-8" = true := by decide +kernel
theorem same_sp {d : D} (h : isSpan d = true) (n : Nat) : sameOk (n + 2) d := by
  obtain ⟨a, b, rfl⟩ := isSpan_of h
  refine ⟨by show 2 ≤ _; decide, fun d hd => ?_⟩
  simp at hd
  rcases hd with rfl | rfl <;> exact trivial
theorem same_told {x : Str} (hg : Gd x) : sameOk 8 (toldD x) := by
  unfold toldD
  cases e : readD x with
  | none =>
    show ∀ c ∈ lt "text", c < 0x110000
    have q : ((lt "text").all fun c => decide (c < 0x110000)) = true := by decide
    exact fun c hc => of_decide_eq_true (List.all_eq_true.mp q c hc)
  | some ds =>
    unfold readD at e
    split at e
    · rename_i h
      cases e
      have hl : (rowsOf x).length ≤ 1000002 := by
        have := split_len x "\n"
        have h1 : (lt x).length ≤ 1000000 := hg.len
        have h2 : x.length = (lt x).length := len_lt x
        show (Txt.split x "\n").length ≤ _
        omega
      refine ⟨by unfold foundDs; rw [List.length_map]; omega, fun d hd => ?_⟩
      obtain ⟨r, hr, rfl⟩ := List.mem_map.mp hd
      have hdi := List.all_eq_true.mp h.2 _ hd
      have hdi : ((diaryDs r).all isSpan && chainD (diaryDs r)) = true := hdi
      rw [Bool.and_eq_true] at hdi
      have hgr : Gd r := hg.part hr
      refine ⟨?_, fun d hd => same_sp (List.all_eq_true.mp hdi.1 d hd) 4⟩
      unfold diaryDs words
      rw [List.length_map, List.length_drop]
      have := split_len r " "
      have h1 : (lt r).length ≤ 1000000 := hgr.len
      have h2 : r.length = (lt r).length := len_lt r
      omega
    · cases e
def f13 : D → D
  | .int i => .str (t13 i.toNat)
  | d => d
theorem map_13 : (rgI 0 13).map f13 = ((List.range 13).map t13).map PyData.str := by
  unfold rgI
  rw [List.map_map, List.map_map]
  refine List.map_congr_left fun i _ => ?_
  show PyData.str (t13 ((0 : Int) + (i : Nat)).toNat) = .str (t13 i)
  rw [Int.zero_add]
  rfl
theorem s13_at {i : Nat} (h : i < 13) : atI (Str.ofString "abcdefghijklm").cps.toList (i : Int) = some ((lt s13).getD i 0) := by
  refine atI_nat ?_
  have e : (lt s13).length = 13 := by decide
  show (lt s13)[i]? = _
  rw [List.getElem?_eq_getElem (by omega), List.getD_eq_getElem?_getD, List.getElem?_eq_getElem (by omega)]
  rfl
theorem due_told {x : Str} : (if isNon (dueD x) = true then PyData.str "text" else dueD x) = toldD x := by
  unfold dueD toldD
  cases readD x <;> rfl
theorem hw_law {A : Nat → Nat} : ∀ cs Qr Qx, cs.length = 1 → sd_law A cs Qr Qx → w_law A (kOf [0] 1 Qr Qx) (initC ["_law_script", "_law_piece", "_law_thirteen", "_law_k", "_law_ream_here", "_law_turn", "_law_one", "_law_two", "_law_line", "_law_due_here", "_law_at"] cs) := by
  rintro cs Qr Qx - ⟨ns, rfl, hl, hb, h⟩
  show w_law A (kOf [0] 1 Qr Qx) [.own (.obj 0 (.list (ns.map PyData.int))), .no, .no, .no, .no, .no, .no, .no, .no, .no, .no]
  unfold w_law
  have hsz := sizeLine_big
  simp
  repeat (refine And.intro (by omega) ?_)
  refine loop_inv (fun items ρ => ∃ c1, ρ = [.own (.obj 0 (.list (ns.map PyData.int))), c1, .no, .no, .no, .no, .no, .no, .no, .no, .no] ∧ ∀ d ∈ items, (∀ x, d ≠ .str x) ∧ plainD d = true) ?a0 ?as _ _ ?ai
  case ai =>
    refine ⟨_, rfl, fun d hd => ?_⟩
    simp at hd
    rcases hd with rfl | rfl | rfl | rfl | rfl | rfl | rfl <;> exact ⟨fun x e => (by cases e), rfl⟩
  case as =>
    rintro d ds ρ R hR ⟨c1, rfl, hd⟩
    obtain ⟨h1, h2⟩ := hd d List.mem_cons_self
    simp
    refine told_odd h1 h2 ?_
    have e := shaped_str (x := "text") (by decide)
    simp [e]
    exact hR _ ⟨_, rfl, fun d hd' => hd d (List.mem_cons_of_mem _ hd')⟩
  case a0 =>
    rintro ρ ⟨c1, rfl, _⟩
    simp
    refine lc_map f13 trivial _ (fun d hd R hR => ?_) (by rw [rgI_length]; omega) ?_
    · obtain ⟨i, hi, rfl⟩ := mem_rgI hd
      rw [Int.zero_add] at hR ⊢
      have ea := s13_at hi
      obtain ⟨a, ha⟩ : ∃ a, a = (lt s13).getD i 0 := ⟨_, rfl⟩
      rw [← ha] at ea
      have e2 : f13 (.int (i : Nat)) = .str (⟨#[a]⟩ ++ Str.ofString ": 0-1") := by rw [ha]; rfl
      rw [e2] at hR
      have l1 : (⟨#[a]⟩ : Str).length = 1 := rfl
      have l2 : (Str.ofString ": 0-1").length = 5 := by decide
      simp [ea]
      refine ⟨by rw [sizeLine_eq]; decide, by omega, hR _ rfl⟩
    · rw [map_13]
      obtain ⟨g1, k1⟩ := chk_gd chk_13
      obtain ⟨g2, k2⟩ := chk_gd chk_a
      obtain ⟨g3, k3⟩ := chk_gd chk_b
      have e := shaped_str (x := "text") (by decide)
      have ls : (((List.range 13).map t13).map fun z : Str => z.length).sum + ((List.range 13).map t13).length * (Str.ofString "\n").length ≤ 16777216 := by decide
      simp
      refine ⟨by decide, told_str g1 ?_⟩
      simp [show toldD (Txt.join (Str.ofString "\n") (List.map t13 (List.range 13))) = .str "text" from k1, e]
      refine told_str g2 ?_
      simp [k2, e]
      refine told_str g3 ?_
      simp [k3, e]
      repeat (refine And.intro (by omega) ?_)
      refine loop_inv (fun items ρ => ∃ c2 c3 c4 c5 c6 c7 c8 c9 : C, ρ = [.own (.obj 0 (.list (ns.map PyData.int))), c1, c2, c3, c4, c5, c6, c7, c8, c9, .no] ∧ ∀ d ∈ items, ∃ k : Nat, d = .int k ∧ k < 63) ?b0 ?bs _ _ ?bi
      case bi =>
        refine ⟨_, _, _, _, _, _, _, _, rfl, fun d hd => ?_⟩
        obtain ⟨i, hi, rfl⟩ := mem_rgI hd
        exact ⟨i, by rw [Int.zero_add], by omega⟩
      case b0 =>
        rintro ρ ⟨c2, c3, c4, c5, c6, c7, c8, c9, rfl, _⟩
        simp
        exact h _
      case bs =>
        rintro d ds ρ R hR ⟨c2, c3, c4, c5, c6, c7, c8, c9, rfl, hd⟩
        obtain ⟨k, rfl, hk⟩ := hd _ List.mem_cons_self
        simp
        refine ⟨ns, k, rfl, hk, hb, fun t ht => ?_⟩
        simp
        refine loop_inv (fun items ρ => ∃ (t' : T) (c5 c6 c7 c8 c9 : C), ρ = [.own (.obj 0 (.list (ns.map PyData.int))), c1, c2, .val (.int k), .own t', c5, c6, c7, c8, c9, .no] ∧ items.length ≤ 5 ∧ RmOk (5000 * (5 - items.length)) t') ?d0 ?ds _ _ ?di
        case di => exact ⟨t, _, _, _, _, _, rfl, by simp, by simpa using ht⟩
        case d0 =>
          rintro ρ ⟨t', c5, c6, c7, c8, c9, rfl, _, _⟩
          exact hR _ ⟨_, _, _, _, _, _, _, _, rfl, fun d hd' => hd d (List.mem_cons_of_mem _ hd')⟩
        case ds =>
          rintro d' ds' ρ R' hR' ⟨t', c5, c6, c7, c8, c9, rfl, hl5, ht'⟩
          rw [List.length_cons] at hl5 ht'
          simp
          refine ⟨t', _, rfl, ht', by omega, fun rows t1 hr h1 => ?_⟩
          simp
          refine ⟨t1, _, rows, rfl, hr, h1, by omega, fun one t2 h2 h3 => ?_⟩
          simp
          refine ⟨t2, _, 40, 50000, one, rfl, h2, by decide, h3, by omega, fun two t3 h4 h5 => ?_⟩
          simp
          refine ⟨t3, _, _, _, two, rfl, h4, by decide, h5, by omega, fun three t4 h6 h7 => ?_⟩
          have e1 : Gd one := h2.le (by decide) (by decide)
          have e2 : Gd two := h4.le (by decide) (by decide)
          have e3 : Gd three := h6.le (by decide) (by decide)
          simp
          refine ⟨sz_n, ?_⟩
          refine loop_inv (fun items ρ => ∃ c8 c9 : C, ρ = [.own (.obj 0 (.list (ns.map PyData.int))), c1, c2, .val (.int k), .own t4, .val d', .val (.str one), .val (.str two), c8, c9, .no] ∧ ∀ d ∈ items, ∃ x, d = .str x ∧ Gd x) ?f0 ?fs _ _ ?fi
          case fi =>
            refine ⟨_, _, rfl, fun d hd => ?_⟩
            simp at hd
            rcases hd with rfl | rfl | rfl
            · exact ⟨_, rfl, e1⟩
            · exact ⟨_, rfl, e2⟩
            · exact ⟨_, rfl, e3⟩
          case f0 =>
            rintro ρ ⟨c8, c9, rfl, _⟩
            exact hR' _ ⟨t4, _, _, _, _, _, rfl, by omega, h7.le (by omega)⟩
          case fs =>
            rintro d3 ds3 ρ R3 hR3 ⟨c8, c9, rfl, hd3⟩
            obtain ⟨x, rfl, hg⟩ := hd3 _ List.mem_cons_self
            simp [g_l_due, g_l_is_long]
            refine ⟨hg, ?_⟩
            have s8 := same_told hg
            have nxt : ∀ c9 : C, R3 [.own (.obj 0 (.list (ns.map PyData.int))), c1, c2, .val (.int k), .own t4, .val d', .val (.str one), .val (.str two), .val (.str x), c9, .no] := fun c9 => hR3 _ ⟨_, _, rfl, fun d hd' => hd3 d (List.mem_cons_of_mem _ hd')⟩
            have e4 := due_told (x := x)
            by_cases c : isNon (dueD x) = true
            · rw [if_pos c]
              rw [if_pos c] at e4
              refine ⟨hg, told_str hg ?_, nxt _⟩
              rw [← e4] at s8 ⊢
              simp [g_l_same, g_same]
              exact ⟨s8, nxt _⟩
            · rw [if_neg c]
              rw [if_neg c] at e4
              refine ⟨hg, told_str hg ?_, nxt _⟩
              rw [e4]
              simp [g_l_same, g_same]
              exact ⟨s8, nxt _⟩
end K18
set_option maxHeartbeats 4000000
namespace K18
open PySem PySem.Spec L2 DL
def topS (i : Nat) : Stmt := PySem.Challenge.pw_plainmarks_k18_texts_of_no_diaries.main.body.getD i (.Pass ⟨0, 0, 0, 0⟩)
structure Txt (K : PySem.W.Frag) (mg : Str → Option Value) (A : Nat → Nat) : Prop where
  n_ValueError : mg "ValueError" = none
  n_abs : mg "abs" = none
  n_all : mg "all" = none
  n_bool : mg "bool" = none
  n_enumerate : mg "enumerate" = none
  n_int : mg "int" = none
  n_isinstance : mg "isinstance" = none
  n_len : mg "len" = none
  n_list : mg "list" = none
  n_max : mg "max" = none
  n_min : mg "min" = none
  n_range : mg "range" = none
  n_str : mg "str" = none
  n_tuple : mg "tuple" = none
  n_zip : mg "zip" = none
  v_MOST_MARKS : ∃ u, mg "MOST_MARKS" = some u ∧ RelV (.int 12) u
  v_FIGURES : ∃ u, mg "FIGURES" = some u ∧ RelV (.str "0123456789") u
  v_MOST_FIGURES : ∃ u, mg "MOST_FIGURES" = some u ∧ RelV (.int 1000) u
  v_READERS : ∃ u, mg "READERS" = some u ∧ RelV (.str "abcdefghijkl") u
  c_MarkError : mg "MarkError" = some (.ref (A 0))
  c_NoStand : mg "NoStand" = some (.ref (A 1))
  c_NoMarks : mg "NoMarks" = some (.ref (A 2))
  c_NoReading : mg "NoReading" = some (.ref (A 3))
  c_NoLater : mg "NoLater" = some (.ref (A 4))
  c_NoPage : mg "NoPage" = some (.ref (A 5))
  c_NoCounts : mg "NoCounts" = some (.ref (A 6))
  c_NoNumber : mg "NoNumber" = some (.ref (A 7))
  c_NoStory : mg "NoStory" = some (.ref (A 8))
  c_TooMany : mg "TooMany" = some (.ref (A 9))
  c_NoLot : mg "NoLot" = some (.ref (A 10))
  c_NoDiaries : mg "NoDiaries" = some (.ref (A 11))
  c_NoRow : mg "NoRow" = some (.ref (A 12))
  c_NoName : mg "NoName" = some (.ref (A 13))
  c_Taken : mg "Taken" = some (.ref (A 14))
  c_NoReader : mg "NoReader" = some (.ref (A 15))
  c_Nothing : mg "Nothing" = some (.ref (A 16))
  c_NoText : mg "NoText" = some (.ref (A 17))
  c_NoHistory : mg "NoHistory" = some (.ref (A 18))
  q_NoText : PySem.W.excIn K (A 17) [.type "ValueError", .type "Exception", .type "BaseException", .type "object"] "ValueError.__new__" = true
  ck_NoText : PySem.W.keepIn K (.ref (A 17)) = true
  r1_NoText : PySem.W.subIn K (.ref (A 17)) (.type "BaseException") = some true
  r2_NoText : PySem.W.typeIn K (.ref (A 17)) = some (.type "type")
  exm_MarkError : ∀ n b, tI A [17] [true] n = some b → PySem.W.exmOne K (.ref n) (.ref (A 0)) = some b
  isx_NoCounts : ∀ n b, tI A [17] [false] n = some b → ExcI K n ∧ PySem.W.kitOne K (.ref n) (.ref (A 6)) = some b
  isx_NoDiaries : ∀ n b, tI A [17] [false] n = some b → ExcI K n ∧ PySem.W.kitOne K (.ref n) (.ref (A 11)) = some b
  isx_NoHistory : ∀ n b, tI A [17] [false] n = some b → ExcI K n ∧ PySem.W.kitOne K (.ref n) (.ref (A 18)) = some b
  isx_NoMarks : ∀ n b, tI A [17] [false] n = some b → ExcI K n ∧ PySem.W.kitOne K (.ref n) (.ref (A 2)) = some b
  isx_NoReading : ∀ n b, tI A [17] [false] n = some b → ExcI K n ∧ PySem.W.kitOne K (.ref n) (.ref (A 3)) = some b
  isx_NoStand : ∀ n b, tI A [17] [false] n = some b → ExcI K n ∧ PySem.W.kitOne K (.ref n) (.ref (A 1)) = some b
  isx_NoText : ∀ n b, tI A [17] [true] n = some b → ExcI K n ∧ PySem.W.kitOne K (.ref n) (.ref (A 17)) = some b
  isx_ValueError : ∀ n b, tI A [17] [true] n = some b → ExcI K n ∧ PySem.W.kitOne K (.ref n) (.type "ValueError") = some b
  isx_NoLater_NoLot_NoName_NoNumber_NoPage_NoReader_NoRow_NoStory : ∀ n b, tI A [17] [false] n = some b → ExcI K n ∧ PySem.W.kitAny K (.ref n) [.ref (A 4), .ref (A 10), .ref (A 13), .ref (A 7), .ref (A 5), .ref (A 15), .ref (A 12), .ref (A 8)] = some b
  isx_Nothing_Taken_TooMany : ∀ n b, tI A [17] [false] n = some b → ExcI K n ∧ PySem.W.kitAny K (.ref n) [.ref (A 16), .ref (A 14), .ref (A 9)] = some b
  D_l_ream : DefAt K mg "_law_ream" (topS 36) []
  D_need_text : DefAt K mg "need_text" (topS 32) []
  D_is_whole : DefAt K mg "is_whole" (topS 22) [.non]
  D_is_page : DefAt K mg "is_page" (topS 23) []
  D_is_span : DefAt K mg "is_span" (topS 24) []
  D_is_diary : DefAt K mg "is_diary" (topS 25) []
  D_are_diaries : DefAt K mg "are_diaries" (topS 26) []
  D_number_in : DefAt K mg "number_in" (topS 31) []
  D_span_in : DefAt K mg "span_in" (topS 33) []
  D_read_diaries : DefAt K mg "read_diaries" (topS 34) []
  D_l_word : DefAt K mg "_law_word" (topS 42) []
  D_l_told : DefAt K mg "_law_told" (topS 46) []
  D_l_leaf : DefAt K mg "_law_leaf" (topS 37) []
  D_l_laid : DefAt K mg "_law_laid" (topS 47) []
  D_l_crooked : DefAt K mg "_law_crooked" (topS 40) []
  D_l_tomes : DefAt K mg "_law_tomes" (topS 38) []
  D_l_number : DefAt K mg "_law_number" (topS 39) []
  D_l_row_of : DefAt K mg "_law_row_of" (topS 44) []
  D_l_due : DefAt K mg "_law_due" (topS 45) []
  D_l_is_long : DefAt K mg "_law_is_long" (topS 41) []
  D_l_same : DefAt K mg "_law_same" (topS 43) []
  D_law : DefAt K mg "law" (topS 48) []
section
variable {P : Program} {w : World} {K : PySem.W.Frag} {mg : Str → Option Value} {base : Heap} {A : Nat → Nat}
theorem sc_l_ream : FnScope ["_law_script", "_law_k", "_law_cell"] ["_law_script", "_law_k"] (defScope (topS 36)) := ⟨rfl, rfl, rfl, by decide +kernel, rfl, by decide +kernel, by decide +kernel⟩
theorem ok_l_ream (T : Txt K mg A) (hw : ∀ cs Qr Qx, cs.length = 2 → (sd_l_ream A) cs Qr Qx → w_l_ream A (kOf [0] 2 Qr Qx) (initC ["_law_script", "_law_k", "_law_cell"] cs)) : CalD P w K mg base (0 + 1) "_law_ream" (toSp (BS K) Value.ref [0] 2 (sd_l_ream A)) [] :=
  cal_mk (w := w_l_ream A) T.D_l_ream sc_l_ream rfl (fun _ _ _ _ _ _ us hl => match us, hl with | [_, _], _ => rfl) (fun f cdv A1 outer s H E hr => by
    unfold w_l_ream
    exact (dss_cons (ds_set (i := 2) (fun _ h => ps_set sc_l_ream.nd rfl (by first | exact .inl rfl | exact .inr rfl) h) (de_if (dt_cmp ltS (fun _ _ h1 h2 => pt_cmpR op_lt h1 h2 (nomark _)) (dp_e (de_var (pv 1))) (dp_e (de_scLen (fun _ _ _ _ _ h => h.2) (fun _ h => pe_callB call_len (by rfl) T.n_len bt_len h) (pv 0)))) (de_scIx (fun _ _ _ _ _ h => h.2) (pv 0) (de_var (pv 1)) (fun _ _ => rfl)) de_int) (by simp))
    (dss_one (ds_retO (do_lst (da_cons (dp_e (de_call maxS (fun _ h => pe_callB (call_maxAll rfl) (by rfl) T.n_max bt_max h) (da_cons (dp_e de_int) (da_cons (dp_e (de_op2 subS (fun _ _ h1 h2 => pe_op op_sub h1 h2) (dp_e (de_call absS (fun _ h => pe_callB call_abs (by rfl) T.n_abs bt_abs h) (da_cons (dp_e (de_var (pv 2))) da_nil))) (dp_e (de_op2 powS (fun _ _ h1 h2 => pe_op op_powW h1 h2) (dp_e de_int) (dp_e de_int))))) da_nil)))) (da_cons (dp_e (de_op2 modS (fun _ _ h1 h2 => pe_op op_mod h1 h2) (dp_e (de_op2 addS (fun _ _ h1 h2 => pe_op op_addAll h1 h2) (dp_e (de_op2 addS (fun _ _ h1 h2 => pe_op op_addAll h1 h2) (dp_e (de_op2 mulS (fun _ _ h1 h2 => pe_op op_mulAll h1 h2) (dp_e (de_var (pv 2))) (dp_e de_int))) (dp_e (de_op2 mulS (fun _ _ h1 h2 => pe_op op_mulAll h1 h2) (dp_e de_int) (dp_e (de_var (pv 1))))))) (dp_e de_int))) (dp_e (de_op2 addS (fun _ _ h1 h2 => pe_op op_addAll h1 h2) (dp_e (de_op2 powS (fun _ _ h1 h2 => pe_op op_powW h1 h2) (dp_e de_int) (dp_e de_int))) (dp_e de_int))))) (da_cons (dp_e de_int) da_nil)))))))) hw
theorem sc_need_text : FnScope ["text"] ["text"] (defScope (topS 32)) := ⟨rfl, rfl, rfl, by decide +kernel, rfl, by decide +kernel, by decide +kernel⟩
theorem ok_need_text (T : Txt K mg A) (hw : ∀ cs Qr Qx, cs.length = 1 → (pureSdX 1 (g_need_text A)) cs Qr Qx → w_need_text A (kOf [] 1 Qr Qx) (initC ["text"] cs)) : CalD P w K mg base (0 + 1) "need_text" (toSp (BS K) Value.ref [] 1 (pureSdX 1 (g_need_text A))) [] :=
  cal_mk (w := w_need_text A) T.D_need_text sc_need_text rfl (fun _ _ _ _ _ _ us hl => match us, hl with | [_], _ => rfl) (fun f cdv A1 outer s H E hr => by
    unfold w_need_text
    exact (dss_one (ds_if (dt_not (dt_val (de_isa (n := 2) (by decide) (fun _ _ h1 h2 => pe_callB call_isi (by rfl) T.n_isinstance bt_isinstance (pa_cons h1 (pa_cons h2 pa_nil))) (dp_e (de_var (pv 0))) (pe_bltn (v := .ty "str") (by rfl) T.n_str bt_str rfl)))) (dss_one (ds_raise0 rfl (takes_of rfl rfl rfl rfl) rfl (pmk_own PySem.F.excBase_ValueError T.q_NoText T.c_NoText T.ck_NoText (raises_own T.r1_NoText T.r2_NoText) (by rfl)))) dss_nil))) hw
theorem sc_is_whole : FnScope ["thing", "least", "most"] ["thing", "least", "most"] (defScope (topS 22)) := ⟨rfl, rfl, rfl, by decide +kernel, rfl, by decide +kernel, by decide +kernel⟩
theorem ok_is_whole (T : Txt K mg A) (hw : ∀ cs Qr Qx, cs.length = 3 → (pureSd 3 g_is_whole) cs Qr Qx → w_is_whole A (kOf [] 3 Qr Qx) (initC ["thing", "least", "most"] cs)) : CalD P w K mg base (0 + 1) "is_whole" (toSp (BS K) Value.ref [] 3 (pureSd 3 g_is_whole)) [.non] :=
  cal_mkD (w := w_is_whole A) T.D_is_whole sc_is_whole rfl 2 0 (by simp) rfl (fun T kV doc pm an cdv ct us its hl hi => match us, its, hl, hi with | [_, _], [_], _, _ => ⟨_, rfl, rfl⟩) (fun f cdv A1 outer s H E hr => by
    unfold w_is_whole
    exact (dss_cons (ds_if (dt_w (dw_or (dt_not (dt_val (de_isa (n := 0) (by decide) (fun _ _ h1 h2 => pe_callB call_isi (by rfl) T.n_isinstance bt_isinstance (pa_cons h1 (pa_cons h2 pa_nil))) (dp_e (de_var (pv 0))) (pe_bltn (v := .ty "int") (by rfl) T.n_int bt_int rfl)))) (dw_or (dt_val (de_isa (n := 1) (by decide) (fun _ _ h1 h2 => pe_callB call_isi (by rfl) T.n_isinstance bt_isinstance (pa_cons h1 (pa_cons h2 pa_nil))) (dp_e (de_var (pv 0))) (pe_bltn (v := .ty "bool") (by rfl) T.n_bool bt_bool rfl))) (dw_or1 (dt_cmp ltS (fun _ _ h1 h2 => pt_cmpR op_lt h1 h2 (nomark _)) (dp_e (de_var (pv 0))) (dp_e (de_var (pv 1)))))))) (dss_one (ds_ret de_bl)) dss_nil)
    (dss_one (ds_ret (de_or (de_op2 isNS (fun _ _ h1 h2 => pe_cmpR op_isN h1 h2 (nomark _)) (dp_e (de_var (pv 2))) (dp_e de_non)) (de_one (de_op2 leS (fun _ _ h1 h2 => pe_cmpR op_le h1 h2 (nomark _)) (dp_e (de_var (pv 0))) (dp_e (de_var (pv 2)))))))))) hw
theorem sc_is_page : FnScope ["thing"] ["thing"] (defScope (topS 23)) := ⟨rfl, rfl, rfl, by decide +kernel, rfl, by decide +kernel, by decide +kernel⟩
theorem ok_is_page (T : Txt K mg A) (G_is_whole : CalD P w K mg base 1 "is_whole" (toSp (BS K) Value.ref [] 3 (pureSd 3 g_is_whole)) [.non]) (hw : ∀ cs Qr Qx, cs.length = 1 → (pureSd 1 g_is_page) cs Qr Qx → w_is_page A (kOf [] 1 Qr Qx) (initC ["thing"] cs)) : CalD P w K mg base (1 + 1) "is_page" (toSp (BS K) Value.ref [] 1 (pureSd 1 g_is_page)) [] :=
  cal_mk (w := w_is_page A) T.D_is_page sc_is_page rfl (fun _ _ _ _ _ _ us hl => match us, hl with | [_], _ => rfl) (fun f cdv A1 outer s H E hr => by
    unfold w_is_page
    exact (dss_one (ds_ret (de_pv (fun _ => .cons .non .nil) (fun _ h => pe_calD G_is_whole (hr.mono (by decide)) (fun σ => passAt (takes_of rfl rfl rfl rfl) σ) h) (da_cons (dp_e (de_var (pv 0))) (da_cons (dp_e de_int) da_nil)))))) hw
theorem sc_is_span : FnScope ["thing", "one"] ["thing"] (defScope (topS 24)) := ⟨rfl, rfl, rfl, by decide +kernel, rfl, by decide +kernel, by decide +kernel⟩
theorem ok_is_span (T : Txt K mg A) (G_is_page : CalD P w K mg base 2 "is_page" (toSp (BS K) Value.ref [] 1 (pureSd 1 g_is_page)) []) (hw : ∀ cs Qr Qx, cs.length = 1 → (pureSd 1 g_is_span) cs Qr Qx → w_is_span A (kOf [] 1 Qr Qx) (initC ["thing", "one"] cs)) : CalD P w K mg base (2 + 1) "is_span" (toSp (BS K) Value.ref [] 1 (pureSd 1 g_is_span)) [] :=
  cal_mk (w := w_is_span A) T.D_is_span sc_is_span rfl (fun _ _ _ _ _ _ us hl => match us, hl with | [_], _ => rfl) (fun f cdv A1 outer s H E hr => by
    unfold w_is_span
    exact (dss_one (ds_ret (de_and (de_isa (n := 4) (by decide) (fun _ _ h1 h2 => pe_callB call_isi (by rfl) T.n_isinstance bt_isinstance (pa_cons h1 (pa_cons h2 pa_nil))) (dp_e (de_var (pv 0))) (pe_bltn (v := .ty "tuple") (by rfl) T.n_tuple bt_tuple rfl)) (de_and (de_op2 eqS (fun _ _ h1 h2 => pe_cmpR (op_eqD (hu64 hr)) h1 h2 (nomark _)) (dp_e (de_call lenS (fun _ h => pe_callB call_len (by rfl) T.n_len bt_len h) (da_cons (dp_e (de_var (pv 0))) da_nil))) (dp_e de_int)) (de_and (de_call allS (fun _ h => pe_callB (cr_all rfl) (by rfl) T.n_all bt_all h) (da_cons (dp_e (de_frz (do_lc (fun _ h => pe_lc (own := [("one", 1)]) rfl sc_is_span.nd h (blkOk_by (by show blkC ["thing", "one"] (defScope (topS 24)) _ _ = true; decide +kernel)) (fun _ _ _ _ _ => (dg_name (pg_name (i := 1) sc_is_span.nd rfl (by first | exact .inl rfl | exact .inr rfl)) (by simp))) (fun _ _ _ _ _ => dts_nil) (fun _ _ _ _ _ => (de_pv (fun _ => .nil) (fun _ h => pe_calD G_is_page (hr.mono (by decide)) (fun σ => passAt takes0 σ) h) (da_cons (dp_e (de_var (pv 1))) da_nil)))) (di_tup (de_var (pv 0))) (by simp) (by simp)))) da_nil)) (de_one (de_op2 ltS (fun _ _ h1 h2 => pe_cmpR op_lt h1 h2 (nomark _)) (dp_e (de_ix (dp_e (de_var (pv 0))) (dp_e de_int) (fun _ _ => rfl))) (dp_e (de_ix (dp_e (de_var (pv 0))) (dp_e de_int) (fun _ _ => rfl))))))))))) hw
theorem sc_is_diary : FnScope ["thing", "one", "other"] ["thing"] (defScope (topS 25)) := ⟨rfl, rfl, rfl, by decide +kernel, rfl, by decide +kernel, by decide +kernel⟩
theorem ok_is_diary (T : Txt K mg A) (G_is_span : CalD P w K mg base 3 "is_span" (toSp (BS K) Value.ref [] 1 (pureSd 1 g_is_span)) []) (hw : ∀ cs Qr Qx, cs.length = 1 → (pureSd 1 g_is_diary) cs Qr Qx → w_is_diary A (kOf [] 1 Qr Qx) (initC ["thing", "one", "other"] cs)) : CalD P w K mg base (3 + 1) "is_diary" (toSp (BS K) Value.ref [] 1 (pureSd 1 g_is_diary)) [] :=
  cal_mk (w := w_is_diary A) T.D_is_diary sc_is_diary rfl (fun _ _ _ _ _ _ us hl => match us, hl with | [_], _ => rfl) (fun f cdv A1 outer s H E hr => by
    unfold w_is_diary
    exact (dss_cons (ds_if (dt_w (dw_or (dt_not (dt_val (de_isa (n := 3) (by decide) (fun _ _ h1 h2 => pe_callB call_isi (by rfl) T.n_isinstance bt_isinstance (pa_cons h1 (pa_cons h2 pa_nil))) (dp_e (de_var (pv 0))) (pe_bltn (v := .ty "list") (by rfl) T.n_list bt_list rfl)))) (dw_or1 (dt_not (dt_val (de_call allS (fun _ h => pe_callB (cr_all rfl) (by rfl) T.n_all bt_all h) (da_cons (dp_e (de_frz (do_lc (fun _ h => pe_lc (own := [("one", 1)]) rfl sc_is_diary.nd h (blkOk_by (by show blkC ["thing", "one", "other"] (defScope (topS 25)) _ _ = true; decide +kernel)) (fun _ _ _ _ _ => (dg_name (pg_name (i := 1) sc_is_diary.nd rfl (by first | exact .inl rfl | exact .inr rfl)) (by simp))) (fun _ _ _ _ _ => dts_nil) (fun _ _ _ _ _ => (de_pv (fun _ => .nil) (fun _ h => pe_calD G_is_span (hr.mono (by decide)) (fun σ => passAt takes0 σ) h) (da_cons (dp_e (de_var (pv 1))) da_nil)))) (di_list (de_var (pv 0))) (by simp) (by simp)))) da_nil))))))) (dss_one (ds_ret de_bl)) dss_nil)
    (dss_one (ds_ret (de_call allS (fun _ h => pe_callB (cr_all rfl) (by rfl) T.n_all bt_all h) (da_cons (dp_e (de_frz (do_lc (fun _ h => pe_lc (own := [("one", 1), ("other", 2)]) rfl sc_is_diary.nd h (blkOk_by (by show blkC ["thing", "one", "other"] (defScope (topS 25)) _ _ = true; decide +kernel)) (fun _ _ _ _ _ => (dg_tup rfl (dgs_cons (dg_name (pg_name (i := 1) sc_is_diary.nd rfl (by first | exact .inl rfl | exact .inr rfl)) (by simp)) (dgs_cons (dg_name (pg_name (i := 2) sc_is_diary.nd rfl (by first | exact .inl rfl | exact .inr rfl)) (by simp)) dgs_nil)))) (fun _ _ _ _ _ => dts_nil) (fun _ _ _ _ _ => (de_op2 leS (fun _ _ h1 h2 => pe_cmpR op_le h1 h2 (nomark _)) (dp_e (de_ix (dp_e (de_var (pv 1))) (dp_e de_int) (fun _ _ => rfl))) (dp_e (de_ix (dp_e (de_var (pv 2))) (dp_e de_int) (fun _ _ => rfl)))))) (di_zip (fun _ h => pi_zip (by rfl) T.n_zip h) (de_var (pv 0)) (de_sl (dp_e (de_var (pv 0))) (dq_some de_int) dq_none)) (by simp) (by simp)))) da_nil)))))) hw
theorem sc_are_diaries : FnScope ["readers", "thing", "one"] ["readers", "thing"] (defScope (topS 26)) := ⟨rfl, rfl, rfl, by decide +kernel, rfl, by decide +kernel, by decide +kernel⟩
theorem ok_are_diaries (T : Txt K mg A) (G_is_diary : CalD P w K mg base 4 "is_diary" (toSp (BS K) Value.ref [] 1 (pureSd 1 g_is_diary)) []) (hw : ∀ cs Qr Qx, cs.length = 2 → (pureSd 2 g_are_diaries) cs Qr Qx → w_are_diaries A (kOf [] 2 Qr Qx) (initC ["readers", "thing", "one"] cs)) : CalD P w K mg base (4 + 1) "are_diaries" (toSp (BS K) Value.ref [] 2 (pureSd 2 g_are_diaries)) [] :=
  cal_mk (w := w_are_diaries A) T.D_are_diaries sc_are_diaries rfl (fun _ _ _ _ _ _ us hl => match us, hl with | [_, _], _ => rfl) (fun f cdv A1 outer s H E hr => by
    unfold w_are_diaries
    exact (dss_one (ds_ret (de_and (de_isa (n := 3) (by decide) (fun _ _ h1 h2 => pe_callB call_isi (by rfl) T.n_isinstance bt_isinstance (pa_cons h1 (pa_cons h2 pa_nil))) (dp_e (de_var (pv 1))) (pe_bltn (v := .ty "list") (by rfl) T.n_list bt_list rfl)) (de_and (de_op2 eqS (fun _ _ h1 h2 => pe_cmpR (op_eqD (hu64 hr)) h1 h2 (nomark _)) (dp_e (de_call lenS (fun _ h => pe_callB call_len (by rfl) T.n_len bt_len h) (da_cons (dp_e (de_var (pv 1))) da_nil))) (dp_e (de_var (pv 0)))) (de_one (de_call allS (fun _ h => pe_callB (cr_all rfl) (by rfl) T.n_all bt_all h) (da_cons (dp_e (de_frz (do_lc (fun _ h => pe_lc (own := [("one", 2)]) rfl sc_are_diaries.nd h (blkOk_by (by show blkC ["readers", "thing", "one"] (defScope (topS 26)) _ _ = true; decide +kernel)) (fun _ _ _ _ _ => (dg_name (pg_name (i := 2) sc_are_diaries.nd rfl (by first | exact .inl rfl | exact .inr rfl)) (by simp))) (fun _ _ _ _ _ => dts_nil) (fun _ _ _ _ _ => (de_pv (fun _ => .nil) (fun _ h => pe_calD G_is_diary (hr.mono (by decide)) (fun σ => passAt takes0 σ) h) (da_cons (dp_e (de_var (pv 2))) da_nil)))) (di_list (de_var (pv 1))) (by simp) (by simp)))) da_nil)))))))) hw
theorem sc_number_in : FnScope ["word", "sign"] ["word"] (defScope (topS 31)) := ⟨rfl, rfl, rfl, by decide +kernel, rfl, by decide +kernel, by decide +kernel⟩
theorem ok_number_in (T : Txt K mg A) (hw : ∀ cs Qr Qx, cs.length = 1 → (pureSd 1 g_number_in) cs Qr Qx → w_number_in A (kOf [] 1 Qr Qx) (initC ["word", "sign"] cs)) : CalD P w K mg base (0 + 1) "number_in" (toSp (BS K) Value.ref [] 1 (pureSd 1 g_number_in)) [] :=
  cal_mk (w := w_number_in A) T.D_number_in sc_number_in rfl (fun _ _ _ _ _ _ us hl => match us, hl with | [_], _ => rfl) (fun f cdv A1 outer s H E hr => by
    unfold w_number_in
    exact (dss_cons (ds_if (dt_w (dw_or (dt_not (dt_chain leS leS (fun _ _ _ h1 h2 h3 => pt_chain op_le op_le h1 h2 h3) (dp_e de_int) (dp_e (de_call lenS (fun _ h => pe_callB call_len (by rfl) T.n_len bt_len h) (da_cons (dp_e (de_var (pv 0))) da_nil))) (dp_e (de_glob T.v_MOST_FIGURES (fun _ => .int _))))) (dw_or1 (dt_not (dt_val (de_call allS (fun _ h => pe_callB (cr_all rfl) (by rfl) T.n_all bt_all h) (da_cons (dp_e (de_frz (do_lc (fun _ h => pe_lc (own := [("sign", 1)]) rfl sc_number_in.nd h (blkOk_by (by show blkC ["word", "sign"] (defScope (topS 31)) _ _ = true; decide +kernel)) (fun _ _ _ _ _ => (dg_name (pg_name (i := 1) sc_number_in.nd rfl (by first | exact .inl rfl | exact .inr rfl)) (by simp))) (fun _ _ _ _ _ => dts_nil) (fun _ _ _ _ _ => (de_op2 inS (fun _ _ h1 h2 => pe_cmpR (op_inAll (hu65 hr)) h1 h2 (by with_unfolding_all rfl)) (dp_e (de_var (pv 1))) (dp_e (de_glob T.v_FIGURES (fun _ => .str _)))))) (di_str (de_var (pv 0))) (by simp) (by simp)))) da_nil))))))) (dss_one (ds_ret de_non)) dss_nil)
    (dss_one (ds_ret (de_if (dt_w (dw_and (dt_cmp eqS (fun _ _ h1 h2 => pt_cmpR (op_eqD (hu64 hr)) h1 h2 (nomark _)) (dp_e (de_ix (dp_e (de_var (pv 0))) (dp_e de_int) (fun _ _ => rfl))) (dp_e de_str)) (dw_and1 (dt_cmp neS (fun _ _ h1 h2 => pt_cmpR (op_neD (hu64 hr)) h1 h2 (nomark _)) (dp_e (de_var (pv 0))) (dp_e de_str))))) de_non (de_call intS (fun _ h => pe_callTy call_intAll (by rfl) T.n_int bt_int h) (da_cons (dp_e (de_var (pv 0))) da_nil))))))) hw
theorem sc_span_in : FnScope ["word", "parts"] ["word"] (defScope (topS 33)) := ⟨rfl, rfl, rfl, by decide +kernel, rfl, by decide +kernel, by decide +kernel⟩
theorem ok_span_in (T : Txt K mg A) (G_number_in : CalD P w K mg base 1 "number_in" (toSp (BS K) Value.ref [] 1 (pureSd 1 g_number_in)) []) (hw : ∀ cs Qr Qx, cs.length = 1 → (pureSd 1 g_span_in) cs Qr Qx → w_span_in A (kOf [] 1 Qr Qx) (initC ["word", "parts"] cs)) : CalD P w K mg base (1 + 1) "span_in" (toSp (BS K) Value.ref [] 1 (pureSd 1 g_span_in)) [] :=
  cal_mk (w := w_span_in A) T.D_span_in sc_span_in rfl (fun _ _ _ _ _ _ us hl => match us, hl with | [_], _ => rfl) (fun f cdv A1 outer s H E hr => by
    unfold w_span_in
    exact (dss_cons (ds_set (i := 1) (fun _ h => ps_set sc_span_in.nd rfl (by first | exact .inl rfl | exact .inr rfl) h) (de_frz (do_mt splitO (fun _ _ h1 h2 => pe_bm PySem.F.plainAttrs_str PySem.F.slot_str_split PySem.F.type_str_split mt_split h1 h2) (dp_e (de_var (pv 0))) (da_cons (dp_e de_str) da_nil))) (by simp))
    (dss_one (ds_ret (de_if (dt_cmp eqS (fun _ _ h1 h2 => pt_cmpR (op_eqD (hu64 hr)) h1 h2 (nomark _)) (dp_e (de_call lenS (fun _ h => pe_callB call_len (by rfl) T.n_len bt_len h) (da_cons (dp_e (de_var (pv 1))) da_nil))) (dp_e de_int)) (de_tup (da_cons (dp_e (de_pv (fun _ => .nil) (fun _ h => pe_calD G_number_in (hr.mono (by decide)) (fun σ => passAt (takes_of rfl rfl rfl rfl) σ) h) (da_cons (dp_e (de_ix (dp_e (de_var (pv 1))) (dp_e de_int) (fun _ _ => rfl))) da_nil))) (da_cons (dp_e (de_pv (fun _ => .nil) (fun _ h => pe_calD G_number_in (hr.mono (by decide)) (fun σ => passAt (takes_of rfl rfl rfl rfl) σ) h) (da_cons (dp_e (de_ix (dp_e (de_var (pv 1))) (dp_e de_int) (fun _ _ => rfl))) da_nil))) da_nil))) de_non))))) hw
theorem sc_read_diaries : FnScope ["text", "found", "number", "row", "words", "word"] ["text"] (defScope (topS 34)) := ⟨rfl, rfl, rfl, by decide +kernel, rfl, by decide +kernel, by decide +kernel⟩
theorem ok_read_diaries (T : Txt K mg A) (G_need_text : CalD P w K mg base 1 "need_text" (toSp (BS K) Value.ref [] 1 (pureSdX 1 (g_need_text A))) []) (G_span_in : CalD P w K mg base 2 "span_in" (toSp (BS K) Value.ref [] 1 (pureSd 1 g_span_in)) []) (G_are_diaries : CalD P w K mg base 5 "are_diaries" (toSp (BS K) Value.ref [] 2 (pureSd 2 g_are_diaries)) []) (hw : ∀ cs Qr Qx, cs.length = 1 → (pureSdX 1 (g_read_diaries A)) cs Qr Qx → w_read_diaries A (kOf [] 1 Qr Qx) (initC ["text", "found", "number", "row", "words", "word"] cs)) : CalD P w K mg base (5 + 1) "read_diaries" (toSp (BS K) Value.ref [] 1 (pureSdX 1 (g_read_diaries A))) [] :=
  cal_mk (w := w_read_diaries A) T.D_read_diaries sc_read_diaries rfl (fun _ _ _ _ _ _ us hl => match us, hl with | [_], _ => rfl) (fun f cdv A1 outer s H E hr => by
    unfold w_read_diaries
    exact (dss_cons (ds_expr (de_px (fun _ => .nil) (fun _ h => pe_calD G_need_text (hr.mono (by decide)) (fun σ => passAt (takes_of rfl rfl rfl rfl) σ) h) (da_cons (dp_e (de_var (pv 0))) da_nil)))
    (dss_cons (ds_setO (i := 1) (fun _ h => ps_set sc_read_diaries.nd rfl (by first | exact .inl rfl | exact .inr rfl) h) (do_lst da_nil) (by simp))
    (dss_cons (ds_for (passes_of rfl) rfl (di_enum (fun _ h => pi_enum (by rfl) T.n_enumerate h) (dp_e (de_frz (do_mt splitO (fun _ _ h1 h2 => pe_bm PySem.F.plainAttrs_str PySem.F.slot_str_split PySem.F.type_str_split mt_split h1 h2) (dp_e (de_var (pv 0))) (da_cons (dp_e de_str) da_nil))))) (dg_tup rfl (dgs_cons (dg_name (pg_name (i := 2) sc_read_diaries.nd rfl (by first | exact .inl rfl | exact .inr rfl)) (by simp)) (dgs_cons (dg_name (pg_name (i := 3) sc_read_diaries.nd rfl (by first | exact .inl rfl | exact .inr rfl)) (by simp)) dgs_nil))) (dss_cons (ds_set (i := 4) (fun _ h => ps_set sc_read_diaries.nd rfl (by first | exact .inl rfl | exact .inr rfl) h) (de_frz (do_mt splitO (fun _ _ h1 h2 => pe_bm PySem.F.plainAttrs_str PySem.F.slot_str_split PySem.F.type_str_split mt_split h1 h2) (dp_e (de_var (pv 3))) (da_cons (dp_e de_str) da_nil))) (by simp))
    (dss_cons (ds_if (dt_w (dw_or (dt_cmp geS (fun _ _ h1 h2 => pt_cmpR op_ge h1 h2 (nomark _)) (dp_e (de_var (pv 2))) (dp_e (de_glob T.v_MOST_MARKS (fun _ => .int _)))) (dw_or1 (dt_cmp neS (fun _ _ h1 h2 => pt_cmpR (op_neD (hu64 hr)) h1 h2 (nomark _)) (dp_e (de_ix (dp_e (de_var (pv 4))) (dp_e de_int) (fun _ _ => rfl))) (dp_e (de_op2 addS (fun _ _ h1 h2 => pe_op op_addAll h1 h2) (dp_e (de_ix (dp_e (de_glob T.v_READERS (fun _ => .str _))) (dp_e (de_var (pv 2))) (fun _ _ => rfl))) (dp_e de_str))))))) (dss_one (ds_raise0 rfl (takes_of rfl rfl rfl rfl) rfl (pmk_own PySem.F.excBase_ValueError T.q_NoText T.c_NoText T.ck_NoText (raises_own T.r1_NoText T.r2_NoText) (by rfl)))) dss_nil)
    (dss_one (ds_expr (de_mu appendW (fun _ _ h1 h2 => pe_bm PySem.F.plainAttrs_list PySem.F.slot_list_append PySem.F.type_list_append mt_append h1 h2) (pv 1) (da_cons (dp_e (de_frz (do_lc (fun _ h => pe_lc (own := [("word", 5)]) rfl sc_read_diaries.nd h (blkOk_by (by show blkC ["text", "found", "number", "row", "words", "word"] (defScope (topS 34)) _ _ = true; decide +kernel)) (fun _ _ _ _ _ => (dg_name (pg_name (i := 5) sc_read_diaries.nd rfl (by first | exact .inl rfl | exact .inr rfl)) (by simp))) (fun _ _ _ _ _ => dts_nil) (fun _ _ _ _ _ => (de_pv (fun _ => .nil) (fun _ h => pe_calD G_span_in (hr.mono (by decide)) (fun σ => passAt takes0 σ) h) (da_cons (dp_e (de_var (pv 5))) da_nil)))) (di_list (de_sl (dp_e (de_var (pv 4))) (dq_some de_int) dq_none)) (by simp) (by simp)))) da_nil)))))))
    (dss_cons (ds_if (dt_not (dt_val (de_pv (fun _ => .nil) (fun _ h => pe_calD G_are_diaries (hr.mono (by decide)) (fun σ => passAt (takes_of rfl rfl rfl rfl) σ) h) (da_cons (dp_e (de_call lenS (fun _ h => pe_callB call_len (by rfl) T.n_len bt_len h) (da_cons (dp_own (pv 1)) da_nil))) (da_cons (dp_e (de_fz (pv 1) (by simp))) da_nil))))) (dss_one (ds_raise0 rfl (takes_of rfl rfl rfl rfl) rfl (pmk_own PySem.F.excBase_ValueError T.q_NoText T.c_NoText T.ck_NoText (raises_own T.r1_NoText T.r2_NoText) (by rfl)))) dss_nil)
    (dss_one (ds_ret (de_var (pv 1))))))))) hw
theorem sc_l_word : FnScope ["_law_e", "_law_some", "_law_others", "_law_found", "_law_word_here", "_law_so"] ["_law_e"] (defScope (topS 42)) := ⟨rfl, rfl, rfl, by decide +kernel, rfl, by decide +kernel, by decide +kernel⟩
theorem ok_l_word (T : Txt K mg A) (hw : ∀ cs Qr Qx, cs.length = 1 → (sd_l_word A) cs Qr Qx → w_l_word A (kOf [] 1 Qr Qx) (initC ["_law_e", "_law_some", "_law_others", "_law_found", "_law_word_here", "_law_so"] cs)) : CalD P w K mg base (0 + 1) "_law_word" (toSp (BS K) Value.ref [] 1 (sd_l_word A)) [] :=
  cal_mk (w := w_l_word A) T.D_l_word sc_l_word rfl (fun _ _ _ _ _ _ us hl => match us, hl with | [_], _ => rfl) (fun f cdv A1 outer s H E hr => by
    unfold w_l_word
    exact (dss_cons (ds_setO (i := 1) (fun _ h => ps_set sc_l_word.nd rfl (by first | exact .inl rfl | exact .inr rfl) h) (do_lst (da_cons (dp_e (de_tup (da_cons (dp_e de_str) (da_cons (dp_e (de_isX T.isx_NoStand (.own _) (fun _ _ h1 h2 => pe_callB call_isXo (by rfl) T.n_isinstance bt_isinstance (pa_cons h1 (pa_cons h2 pa_nil))) (de_var (pv 0)) (pe_glob (by rfl) T.c_NoStand rfl))) da_nil)))) (da_cons (dp_e (de_tup (da_cons (dp_e de_str) (da_cons (dp_e (de_isX T.isx_NoMarks (.own _) (fun _ _ h1 h2 => pe_callB call_isXo (by rfl) T.n_isinstance bt_isinstance (pa_cons h1 (pa_cons h2 pa_nil))) (de_var (pv 0)) (pe_glob (by rfl) T.c_NoMarks rfl))) da_nil)))) da_nil))) (by simp))
    (dss_cons (ds_setO (i := 1) (fun _ h => ps_set sc_l_word.nd rfl (by first | exact .inl rfl | exact .inr rfl) h) (do_op2 catO (fun _ _ h1 h2 => pe_op op_cat h1 h2) (dp_own (pv 1)) (dp_e (de_frz (do_lst (da_cons (dp_e (de_tup (da_cons (dp_e de_str) (da_cons (dp_e (de_isX T.isx_NoReading (.own _) (fun _ _ h1 h2 => pe_callB call_isXo (by rfl) T.n_isinstance bt_isinstance (pa_cons h1 (pa_cons h2 pa_nil))) (de_var (pv 0)) (pe_glob (by rfl) T.c_NoReading rfl))) da_nil)))) (da_cons (dp_e (de_tup (da_cons (dp_e de_str) (da_cons (dp_e (de_isX T.isx_NoCounts (.own _) (fun _ _ h1 h2 => pe_callB call_isXo (by rfl) T.n_isinstance bt_isinstance (pa_cons h1 (pa_cons h2 pa_nil))) (de_var (pv 0)) (pe_glob (by rfl) T.c_NoCounts rfl))) da_nil)))) da_nil)))))) (by simp))
    (dss_cons (ds_setO (i := 1) (fun _ h => ps_set sc_l_word.nd rfl (by first | exact .inl rfl | exact .inr rfl) h) (do_op2 catO (fun _ _ h1 h2 => pe_op op_cat h1 h2) (dp_own (pv 1)) (dp_e (de_frz (do_lst (da_cons (dp_e (de_tup (da_cons (dp_e de_str) (da_cons (dp_e (de_isX T.isx_NoHistory (.own _) (fun _ _ h1 h2 => pe_callB call_isXo (by rfl) T.n_isinstance bt_isinstance (pa_cons h1 (pa_cons h2 pa_nil))) (de_var (pv 0)) (pe_glob (by rfl) T.c_NoHistory rfl))) da_nil)))) (da_cons (dp_e (de_tup (da_cons (dp_e de_str) (da_cons (dp_e (de_isX T.isx_NoDiaries (.own _) (fun _ _ h1 h2 => pe_callB call_isXo (by rfl) T.n_isinstance bt_isinstance (pa_cons h1 (pa_cons h2 pa_nil))) (de_var (pv 0)) (pe_glob (by rfl) T.c_NoDiaries rfl))) da_nil)))) da_nil)))))) (by simp))
    (dss_cons (ds_expr (de_mu appendW (fun _ _ h1 h2 => pe_bm PySem.F.plainAttrs_list PySem.F.slot_list_append PySem.F.type_list_append mt_append h1 h2) (pv 1) (da_cons (dp_e (de_tup (da_cons (dp_e de_str) (da_cons (dp_e (de_isX T.isx_NoText (.own _) (fun _ _ h1 h2 => pe_callB call_isXo (by rfl) T.n_isinstance bt_isinstance (pa_cons h1 (pa_cons h2 pa_nil))) (de_var (pv 0)) (pe_glob (by rfl) T.c_NoText rfl))) da_nil)))) da_nil)))
    (dss_cons (ds_set (i := 2) (fun _ h => ps_set sc_l_word.nd rfl (by first | exact .inl rfl | exact .inr rfl) h) (de_isXT T.isx_NoLater_NoLot_NoName_NoNumber_NoPage_NoReader_NoRow_NoStory (.cons (.own _) (.cons (.own _) (.cons (.own _) (.cons (.own _) (.cons (.own _) (.cons (.own _) (.cons (.own _) (.cons (.own _) .nil)))))))) (by show 8 ≤ sizeLine; decide) (fun _ _ h1 h2 => pe_callB call_isXoT (by rfl) T.n_isinstance bt_isinstance (pa_cons h1 (pa_cons (pe_tup h2) pa_nil))) (de_var (pv 0)) (vs_cons (pe_glob (by rfl) T.c_NoLater rfl) (vs_cons (pe_glob (by rfl) T.c_NoLot rfl) (vs_cons (pe_glob (by rfl) T.c_NoName rfl) (vs_cons (pe_glob (by rfl) T.c_NoNumber rfl) (vs_cons (pe_glob (by rfl) T.c_NoPage rfl) (vs_cons (pe_glob (by rfl) T.c_NoReader rfl) (vs_cons (pe_glob (by rfl) T.c_NoRow rfl) (vs_cons (pe_glob (by rfl) T.c_NoStory rfl) vs_nil))))))))) (by simp))
    (dss_cons (ds_set (i := 2) (fun _ h => ps_set sc_l_word.nd rfl (by first | exact .inl rfl | exact .inr rfl) h) (de_or (de_var (pv 2)) (de_one (de_isXT T.isx_Nothing_Taken_TooMany (.cons (.own _) (.cons (.own _) (.cons (.own _) .nil))) (by show 3 ≤ sizeLine; decide) (fun _ _ h1 h2 => pe_callB call_isXoT (by rfl) T.n_isinstance bt_isinstance (pa_cons h1 (pa_cons (pe_tup h2) pa_nil))) (de_var (pv 0)) (vs_cons (pe_glob (by rfl) T.c_Nothing rfl) (vs_cons (pe_glob (by rfl) T.c_Taken rfl) (vs_cons (pe_glob (by rfl) T.c_TooMany rfl) vs_nil)))))) (by simp))
    (dss_cons (ds_setLcF (i := 3) (fun _ h => ps_setLc (own := [("_law_word_here", 4), ("_law_so", 5)]) rfl sc_l_word.nd rfl rfl (sw_true rfl rfl rfl rfl) h (blkOk_by (by show blkC ["_law_e", "_law_some", "_law_others", "_law_found", "_law_word_here", "_law_so"] (defScope (topS 42)) _ _ = true; decide +kernel)) (fun _ _ _ _ _ => (dg_tup rfl (dgs_cons (dg_name (pg_name (i := 4) sc_l_word.nd rfl (by first | exact .inl rfl | exact .inr rfl)) (by simp)) (dgs_cons (dg_name (pg_name (i := 5) sc_l_word.nd rfl (by first | exact .inl rfl | exact .inr rfl)) (by simp)) dgs_nil)))) (fun _ _ _ _ _ => (dts_one (dt_val (de_var (pv 5))))) (fun _ _ _ _ _ => (de_var (pv 4)))) (di_list (de_fz (pv 1) (by simp))) (by simp) (by simp) (by simp))
    (dss_one (ds_ret (de_if (dt_w (dw_or (dt_val (de_var (pv 2))) (dw_or (dt_cmp neS (fun _ _ h1 h2 => pt_cmpR (op_neD (hu64 hr)) h1 h2 (nomark _)) (dp_e (de_call lenS (fun _ h => pe_callB call_len (by rfl) T.n_len bt_len h) (da_cons (dp_e (de_var (pv 3))) da_nil))) (dp_e de_int)) (dw_or1 (dt_not (dt_val (de_isX T.isx_ValueError (.ty _) (fun _ _ h1 h2 => pe_callB call_isXo (by rfl) T.n_isinstance bt_isinstance (pa_cons h1 (pa_cons h2 pa_nil))) (de_var (pv 0)) (pe_bltn (by rfl) T.n_ValueError bt_ValueError rfl)))))))) de_str (de_ix (dp_e (de_var (pv 3))) (dp_e de_int) (fun _ _ => rfl))))))))))))) hw
theorem sc_l_told : FnScope ["_law_line", "_law_found", "_law_caught", "_law_e"] ["_law_line"] (defScope (topS 46)) := ⟨rfl, rfl, rfl, by decide +kernel, rfl, by decide +kernel, by decide +kernel⟩
theorem ok_l_told (T : Txt K mg A) (G_read_diaries : CalD P w K mg base 6 "read_diaries" (toSp (BS K) Value.ref [] 1 (pureSdX 1 (g_read_diaries A))) []) (G_l_word : CalD P w K mg base 1 "_law_word" (toSp (BS K) Value.ref [] 1 (sd_l_word A)) []) (hw : ∀ cs Qr Qx, cs.length = 1 → (sd_l_told A) cs Qr Qx → w_l_told A (kOf [] 1 Qr Qx) (initC ["_law_line", "_law_found", "_law_caught", "_law_e"] cs)) : CalD P w K mg base (6 + 1) "_law_told" (toSp (BS K) Value.ref [] 1 (sd_l_told A)) [] :=
  cal_mk (w := w_l_told A) T.D_l_told sc_l_told rfl (fun _ _ _ _ _ _ us hl => match us, hl with | [_], _ => rfl) (fun f cdv A1 outer s H E hr => by
    unfold w_l_told
    exact (dss_cons (ds_set (i := 1) (fun _ h => ps_set sc_l_told.nd rfl (by first | exact .inl rfl | exact .inr rfl) h) de_non (by simp))
    (dss_cons (ds_set (i := 2) (fun _ h => ps_set sc_l_told.nd rfl (by first | exact .inl rfl | exact .inr rfl) h) de_non (by simp))
    (dss_cons (ds_try rfl rfl sc_l_told.nd rfl rfl (takes_of rfl rfl rfl rfl) (fun _ _ _ tk po => (dss_one (ds_set (i := 1) (fun _ h => ps_set sc_l_told.nd rfl (by first | exact .inl rfl | exact .inr rfl) h) (de_px (fun _ => .nil) (fun _ h => pe_calD G_read_diaries (hr.mono (by decide)) (fun σ => passAt tk σ) h) (da_cons (dp_e (de_var (pv 0))) da_nil)) (by simp)))) (.named ⟨by rfl, by decide, .inl T.c_MarkError⟩ T.exm_MarkError (by rfl) (by rfl) (by simp) (fun _ _ => (dss_one (ds_set (i := 2) (fun _ h => ps_set sc_l_told.nd rfl (by first | exact .inl rfl | exact .inr rfl) h) (de_var (pv 3)) (by simp)))) .nil))
    (dss_one (ds_ret (de_if (dt_cmp isNS (fun _ _ h1 h2 => pt_cmpR op_isN h1 h2 (nomark _)) (dp_e (de_var (pv 2))) (dp_e de_non)) (de_var (pv 1)) (de_fnV (fun _ => .nil) rfl (fun _ h => pe_calD G_l_word (hr.mono (by decide)) (fun σ => passAt (takes_of rfl rfl rfl rfl) σ) h) (da_cons (dp_e (de_var (pv 2))) da_nil))))))))) hw
theorem sc_l_leaf : FnScope ["_law_ream_here", "_law_many", "_law_found", "_law_press"] ["_law_ream_here", "_law_many"] (defScope (topS 37)) := ⟨rfl, rfl, rfl, by decide +kernel, rfl, by decide +kernel, by decide +kernel⟩
theorem ok_l_leaf (T : Txt K mg A) (hw : ∀ cs Qr Qx, cs.length = 2 → (sd_l_leaf A) cs Qr Qx → w_l_leaf A (kOf [0] 2 Qr Qx) (initC ["_law_ream_here", "_law_many", "_law_found", "_law_press"] cs)) : CalD P w K mg base (0 + 1) "_law_leaf" (toSp (BS K) Value.ref [0] 2 (sd_l_leaf A)) [] :=
  cal_mk (w := w_l_leaf A) T.D_l_leaf sc_l_leaf rfl (fun _ _ _ _ _ _ us hl => match us, hl with | [_, _], _ => rfl) (fun f cdv A1 outer s H E hr => by
    unfold w_l_leaf
    exact (dss_cons (ds_if (dt_cmp gtS (fun _ _ h1 h2 => pt_cmpR op_gt h1 h2 (nomark _)) (dp_e (de_ix (dp_own (pv 0)) (dp_e de_int) (fun _ _ => rfl))) (dp_e de_int)) (dss_cons (ds_set (i := 2) (fun _ h => ps_set sc_l_leaf.nd rfl (by first | exact .inl rfl | exact .inr rfl) h) (de_op2 modS (fun _ _ h1 h2 => pe_op op_mod h1 h2) (dp_e (de_ix (dp_own (pv 0)) (dp_e de_int) (fun _ _ => rfl))) (dp_e (de_var (pv 1)))) (by simp))
    (dss_cons (ds_setIx (fun _ _ _ h1 h2 h3 => ps_asg h1 (pg_sub h2 h3 set_list)) (de_op2 fdivS (fun _ _ h1 h2 => pe_op op_fdivW h1 h2) (dp_e (de_ix (dp_own (pv 0)) (dp_e de_int) (fun _ _ => rfl))) (dp_e (de_var (pv 1)))) (pv 0) (dp_e de_int))
    (dss_one (ds_ret (de_var (pv 2)))))) dss_nil)
    (dss_cons (ds_setIx (fun _ _ _ h1 h2 h3 => ps_asg h1 (pg_sub h2 h3 set_list)) (de_op2 addS (fun _ _ h1 h2 => pe_op op_addAll h1 h2) (dp_e (de_ix (dp_own (pv 0)) (dp_e de_int) (fun _ _ => rfl))) (dp_e de_int)) (pv 0) (dp_e de_int))
    (dss_cons (ds_set (i := 3) (fun _ h => ps_set sc_l_leaf.nd rfl (by first | exact .inl rfl | exact .inr rfl) h) (de_op2 modS (fun _ _ h1 h2 => pe_op op_mod h1 h2) (dp_e (de_op2 powS (fun _ _ h1 h2 => pe_op op_powW h1 h2) (dp_e (de_op2 addS (fun _ _ h1 h2 => pe_op op_addAll h1 h2) (dp_e (de_ix (dp_own (pv 0)) (dp_e de_int) (fun _ _ => rfl))) (dp_e (de_op2 mulS (fun _ _ h1 h2 => pe_op op_mulAll h1 h2) (dp_e de_int) (dp_e (de_ix (dp_own (pv 0)) (dp_e de_int) (fun _ _ => rfl))))))) (dp_e de_int))) (dp_e (de_op2 addS (fun _ _ h1 h2 => pe_op op_addAll h1 h2) (dp_e (de_op2 powS (fun _ _ h1 h2 => pe_op op_powW h1 h2) (dp_e de_int) (dp_e de_int))) (dp_e de_int)))) (by simp))
    (dss_cons (ds_set (i := 3) (fun _ h => ps_set sc_l_leaf.nd rfl (by first | exact .inl rfl | exact .inr rfl) h) (de_op2 modS (fun _ _ h1 h2 => pe_op op_mod h1 h2) (dp_e (de_op2 powS (fun _ _ h1 h2 => pe_op op_powW h1 h2) (dp_e (de_op2 addS (fun _ _ h1 h2 => pe_op op_addAll h1 h2) (dp_e (de_op2 mulS (fun _ _ h1 h2 => pe_op op_mulAll h1 h2) (dp_e (de_var (pv 3))) (dp_e de_int))) (dp_e (de_op2 mulS (fun _ _ h1 h2 => pe_op op_mulAll h1 h2) (dp_e de_int) (dp_e (de_ix (dp_own (pv 0)) (dp_e de_int) (fun _ _ => rfl))))))) (dp_e de_int))) (dp_e (de_op2 addS (fun _ _ h1 h2 => pe_op op_addAll h1 h2) (dp_e (de_op2 powS (fun _ _ h1 h2 => pe_op op_powW h1 h2) (dp_e de_int) (dp_e de_int))) (dp_e de_int)))) (by simp))
    (dss_one (ds_ret (de_op2 modS (fun _ _ h1 h2 => pe_op op_mod h1 h2) (dp_e (de_op2 fdivS (fun _ _ h1 h2 => pe_op op_fdivW h1 h2) (dp_e (de_var (pv 3))) (dp_e (de_op2 powS (fun _ _ h1 h2 => pe_op op_powW h1 h2) (dp_e de_int) (dp_e de_int))))) (dp_e (de_var (pv 1))))))))))) hw
theorem sc_l_laid : FnScope ["_law_ream_here", "_law_tomes_here", "_law_rows", "_law_who", "_law_row", "_law_some", "_law_at", "_law_ways", "_law_one", "_law_two"] ["_law_ream_here", "_law_tomes_here"] (defScope (topS 47)) := ⟨rfl, rfl, rfl, by decide +kernel, rfl, by decide +kernel, by decide +kernel⟩
theorem ok_l_laid (T : Txt K mg A) (G_l_leaf : CalD P w K mg base 1 "_law_leaf" (toSp (BS K) Value.ref [0] 2 (sd_l_leaf A)) []) (hw : ∀ cs Qr Qx, cs.length = 2 → (sd_l_laid A) cs Qr Qx → w_l_laid A (kOf [0] 2 Qr Qx) (initC ["_law_ream_here", "_law_tomes_here", "_law_rows", "_law_who", "_law_row", "_law_some", "_law_at", "_law_ways", "_law_one", "_law_two"] cs)) : CalD P w K mg base (1 + 1) "_law_laid" (toSp (BS K) Value.ref [0] 2 (sd_l_laid A)) [] :=
  cal_mk (w := w_l_laid A) T.D_l_laid sc_l_laid rfl (fun _ _ _ _ _ _ us hl => match us, hl with | [_, _], _ => rfl) (fun f cdv A1 outer s H E hr => by
    unfold w_l_laid
    exact (dss_cons (ds_setO (i := 2) (fun _ h => ps_set sc_l_laid.nd rfl (by first | exact .inl rfl | exact .inr rfl) h) (do_lst da_nil) (by simp))
    (dss_cons (ds_for (passes_of rfl) rfl (di_enum (fun _ h => pi_enum (by rfl) T.n_enumerate h) (dp_e (de_var (pv 1)))) (dg_tup rfl (dgs_cons (dg_name (pg_name (i := 3) sc_l_laid.nd rfl (by first | exact .inl rfl | exact .inr rfl)) (by simp)) (dgs_cons (dg_name (pg_name (i := 4) sc_l_laid.nd rfl (by first | exact .inl rfl | exact .inr rfl)) (by simp)) dgs_nil))) (dss_cons (ds_setLcF (i := 5) (fun _ h => ps_setLc (own := [("_law_one", 8), ("_law_two", 9)]) rfl sc_l_laid.nd rfl rfl (sw_true rfl rfl rfl rfl) h (blkOk_by (by show blkC ["_law_ream_here", "_law_tomes_here", "_law_rows", "_law_who", "_law_row", "_law_some", "_law_at", "_law_ways", "_law_one", "_law_two"] (defScope (topS 47)) _ _ = true; decide +kernel)) (fun _ _ _ _ _ => (dg_tup rfl (dgs_cons (dg_name (pg_name (i := 8) sc_l_laid.nd rfl (by first | exact .inl rfl | exact .inr rfl)) (by simp)) (dgs_cons (dg_name (pg_name (i := 9) sc_l_laid.nd rfl (by first | exact .inl rfl | exact .inr rfl)) (by simp)) dgs_nil)))) (fun _ _ _ _ _ => dts_nil) (fun _ _ _ _ _ => (de_op2 addS (fun _ _ h1 h2 => pe_op op_addAll h1 h2) (dp_e (de_op2 addS (fun _ _ h1 h2 => pe_op op_addAll h1 h2) (dp_e (de_call strS (fun _ h => pe_callTy call_str_int (by rfl) T.n_str bt_str h) (da_cons (dp_e (de_var (pv 8))) da_nil))) (dp_e de_str))) (dp_e (de_call strS (fun _ h => pe_callTy call_str_int (by rfl) T.n_str bt_str h) (da_cons (dp_e (de_var (pv 9))) da_nil)))))) (di_list (de_ix (dp_e (de_frz (do_lst (da_cons (dp_e (de_var (pv 4))) (da_cons (dp_e (de_var (pv 4))) (da_cons (dp_e (de_var (pv 4))) (da_cons (dp_e (de_frz (do_rev (fun _ h => pe_revL h) (dp_e (de_var (pv 4)))))) da_nil))))))) (dp_e (de_fnV (fun _ => .nil) rfl (fun _ h => pe_calD G_l_leaf (hr.mono (by decide)) (fun σ => passAt (takes_of rfl rfl rfl rfl) σ) h) (da_cons (dp_own (pv 0)) (da_cons (dp_e de_int) da_nil)))) (fun _ _ => rfl))) (by simp) (by simp) (by simp))
    (dss_one (ds_expr (de_mu appendW (fun _ _ h1 h2 => pe_bm PySem.F.plainAttrs_list PySem.F.slot_list_append PySem.F.type_list_append mt_append h1 h2) (pv 2) (da_cons (dp_e (de_mt joinS (fun _ _ h1 h2 => pe_bm PySem.F.plainAttrs_str PySem.F.slot_str_join PySem.F.type_str_join mt_join h1 h2) (dp_e de_str) (da_cons (dp_e (de_op2 addS (fun _ _ h1 h2 => pe_op op_addAll h1 h2) (dp_e (de_frz (do_lst (da_cons (dp_e (de_op2 addS (fun _ _ h1 h2 => pe_op op_addAll h1 h2) (dp_e (de_ix (dp_e de_str) (dp_e (de_var (pv 3))) (fun _ _ => rfl))) (dp_e de_str))) da_nil)))) (dp_e (de_var (pv 5))))) da_nil))) da_nil))))))
    (dss_cons (ds_set (i := 6) (fun _ h => ps_set sc_l_laid.nd rfl (by first | exact .inl rfl | exact .inr rfl) h) (de_fnV (fun _ => .nil) rfl (fun _ h => pe_calD G_l_leaf (hr.mono (by decide)) (fun σ => passAt (takes_of rfl rfl rfl rfl) σ) h) (da_cons (dp_own (pv 0)) (da_cons (dp_e (de_call lenS (fun _ h => pe_callB call_len (by rfl) T.n_len bt_len h) (da_cons (dp_own (pv 2)) da_nil))) da_nil))) (by simp))
    (dss_cons (ds_set (i := 7) (fun _ h => ps_set sc_l_laid.nd rfl (by first | exact .inl rfl | exact .inr rfl) h) (de_frz (do_lst (da_cons (dp_e (de_fz (pv 2) (by simp))) (da_cons (dp_e (de_var (pv 2))) (da_cons (dp_e (de_op2 addS (fun _ _ h1 h2 => pe_op op_addAll h1 h2) (dp_e (de_sl (dp_e (de_var (pv 2))) dq_none (dq_some (de_var (pv 6))))) (dp_e (de_sl (dp_e (de_var (pv 2))) (dq_some (de_op2 addS (fun _ _ h1 h2 => pe_op op_addAll h1 h2) (dp_e (de_var (pv 6))) (dp_e de_int))) dq_none)))) (da_cons (dp_e (de_frz (do_rev (fun _ h => pe_revL h) (dp_e (de_var (pv 2)))))) (da_cons (dp_e (de_op2 addS (fun _ _ h1 h2 => pe_op op_addAll h1 h2) (dp_e (de_sl (dp_e (de_var (pv 2))) dq_none (dq_some (de_op2 addS (fun _ _ h1 h2 => pe_op op_addAll h1 h2) (dp_e (de_var (pv 6))) (dp_e de_int))))) (dp_e (de_sl (dp_e (de_var (pv 2))) (dq_some (de_var (pv 6))) dq_none)))) (da_cons (dp_e (de_sl (dp_e (de_op2 mulS (fun _ _ h1 h2 => pe_op op_mulAll h1 h2) (dp_e (de_var (pv 2))) (dp_e de_int))) dq_none (dq_some de_int))) (da_cons (dp_e (de_op2 addS (fun _ _ h1 h2 => pe_op op_addAll h1 h2) (dp_e (de_var (pv 2))) (dp_e (de_frz (do_lst (da_cons (dp_e de_str) da_nil)))))) da_nil))))))))) (by simp))
    (dss_one (ds_ret (de_mt joinS (fun _ _ h1 h2 => pe_bm PySem.F.plainAttrs_str PySem.F.slot_str_join PySem.F.type_str_join mt_join h1 h2) (dp_e de_str) (da_cons (dp_e (de_ix (dp_e (de_var (pv 7))) (dp_e (de_fnV (fun _ => .nil) rfl (fun _ h => pe_calD G_l_leaf (hr.mono (by decide)) (fun σ => passAt (takes_of rfl rfl rfl rfl) σ) h) (da_cons (dp_own (pv 0)) (da_cons (dp_e de_int) da_nil)))) (fun _ _ => rfl))) da_nil))))))))) hw
theorem sc_l_crooked : FnScope ["_law_ream_here", "_law_line", "_law_at", "_law_to", "_law_sign", "_law_few", "_law_last", "_law_some"] ["_law_ream_here", "_law_line"] (defScope (topS 40)) := ⟨rfl, rfl, rfl, by decide +kernel, rfl, by decide +kernel, by decide +kernel⟩
theorem ok_l_crooked (T : Txt K mg A) (G_l_leaf : CalD P w K mg base 1 "_law_leaf" (toSp (BS K) Value.ref [0] 2 (sd_l_leaf A)) []) (hw : ∀ cs Qr Qx, cs.length = 2 → (sd_l_crooked A) cs Qr Qx → w_l_crooked A (kOf [0] 2 Qr Qx) (initC ["_law_ream_here", "_law_line", "_law_at", "_law_to", "_law_sign", "_law_few", "_law_last", "_law_some"] cs)) : CalD P w K mg base (1 + 1) "_law_crooked" (toSp (BS K) Value.ref [0] 2 (sd_l_crooked A)) [] :=
  cal_mk (w := w_l_crooked A) T.D_l_crooked sc_l_crooked rfl (fun _ _ _ _ _ _ us hl => match us, hl with | [_, _], _ => rfl) (fun f cdv A1 outer s H E hr => by
    unfold w_l_crooked
    exact (dss_cons (ds_par (i := 2) (j := 3) (fun _ h => ps_par rfl sc_l_crooked.nd rfl rfl (by decide) rfl rfl h (by rfl)) (da_cons (dp_e (de_fnV (fun _ => .nil) rfl (fun _ h => pe_calD G_l_leaf (hr.mono (by decide)) (fun σ => passAt (takes_of rfl rfl rfl rfl) σ) h) (da_cons (dp_own (pv 0)) (da_cons (dp_e (de_op2 addS (fun _ _ h1 h2 => pe_op op_addAll h1 h2) (dp_e (de_call lenS (fun _ h => pe_callB call_len (by rfl) T.n_len bt_len h) (da_cons (dp_e (de_var (pv 1))) da_nil))) (dp_e de_int))) da_nil)))) (da_cons (dp_e (de_fnV (fun _ => .nil) rfl (fun _ h => pe_calD G_l_leaf (hr.mono (by decide)) (fun σ => passAt (takes_of rfl rfl rfl rfl) σ) h) (da_cons (dp_own (pv 0)) (da_cons (dp_e (de_op2 addS (fun _ _ h1 h2 => pe_op op_addAll h1 h2) (dp_e (de_call lenS (fun _ h => pe_callB call_len (by rfl) T.n_len bt_len h) (da_cons (dp_e (de_var (pv 1))) da_nil))) (dp_e de_int))) da_nil)))) da_nil)) (by simp) (by simp))
    (dss_cons (ds_set (i := 4) (fun _ h => ps_set sc_l_crooked.nd rfl (by first | exact .inl rfl | exact .inr rfl) h) (de_ix (dp_e de_str) (dp_e (de_fnV (fun _ => .nil) rfl (fun _ h => pe_calD G_l_leaf (hr.mono (by decide)) (fun σ => passAt (takes_of rfl rfl rfl rfl) σ) h) (da_cons (dp_own (pv 0)) (da_cons (dp_e de_int) da_nil)))) (fun _ _ => rfl)) (by simp))
    (dss_cons (ds_set (i := 5) (fun _ h => ps_set sc_l_crooked.nd rfl (by first | exact .inl rfl | exact .inr rfl) h) (de_call minS (fun _ h => pe_callB (call_minAll rfl) (by rfl) T.n_min bt_min h) (da_cons (dp_e (de_var (pv 2))) (da_cons (dp_e (de_var (pv 3))) da_nil))) (by simp))
    (dss_cons (ds_set (i := 6) (fun _ h => ps_set sc_l_crooked.nd rfl (by first | exact .inl rfl | exact .inr rfl) h) (de_call maxS (fun _ h => pe_callB (call_maxAll rfl) (by rfl) T.n_max bt_max h) (da_cons (dp_e (de_var (pv 2))) (da_cons (dp_e (de_var (pv 3))) da_nil))) (by simp))
    (dss_cons (ds_set (i := 7) (fun _ h => ps_set sc_l_crooked.nd rfl (by first | exact .inl rfl | exact .inr rfl) h) (de_frz (do_lst (da_cons (dp_e (de_op2 addS (fun _ _ h1 h2 => pe_op op_addAll h1 h2) (dp_e (de_op2 addS (fun _ _ h1 h2 => pe_op op_addAll h1 h2) (dp_e (de_sl (dp_e (de_var (pv 1))) dq_none (dq_some (de_var (pv 2))))) (dp_e (de_var (pv 4))))) (dp_e (de_sl (dp_e (de_var (pv 1))) (dq_some (de_var (pv 2))) dq_none)))) (da_cons (dp_e (de_op2 addS (fun _ _ h1 h2 => pe_op op_addAll h1 h2) (dp_e (de_sl (dp_e (de_var (pv 1))) dq_none (dq_some (de_var (pv 2))))) (dp_e (de_sl (dp_e (de_var (pv 1))) (dq_some (de_op2 addS (fun _ _ h1 h2 => pe_op op_addAll h1 h2) (dp_e (de_var (pv 2))) (dp_e de_int))) dq_none)))) (da_cons (dp_e (de_op2 addS (fun _ _ h1 h2 => pe_op op_addAll h1 h2) (dp_e (de_op2 addS (fun _ _ h1 h2 => pe_op op_addAll h1 h2) (dp_e (de_sl (dp_e (de_var (pv 1))) dq_none (dq_some (de_var (pv 2))))) (dp_e (de_var (pv 4))))) (dp_e (de_sl (dp_e (de_var (pv 1))) (dq_some (de_op2 addS (fun _ _ h1 h2 => pe_op op_addAll h1 h2) (dp_e (de_var (pv 2))) (dp_e de_int))) dq_none)))) da_nil))))) (by simp))
    (dss_cons (ds_set (i := 7) (fun _ h => ps_set sc_l_crooked.nd rfl (by first | exact .inl rfl | exact .inr rfl) h) (de_op2 addS (fun _ _ h1 h2 => pe_op op_addAll h1 h2) (dp_e (de_var (pv 7))) (dp_e (de_frz (do_lst (da_cons (dp_e (de_op2 addS (fun _ _ h1 h2 => pe_op op_addAll h1 h2) (dp_e (de_sl (dp_e (de_var (pv 1))) dq_none (dq_some (de_var (pv 5))))) (dp_e (de_sl (dp_e (de_var (pv 1))) (dq_some (de_var (pv 6))) dq_none)))) (da_cons (dp_e (de_op2 addS (fun _ _ h1 h2 => pe_op op_addAll h1 h2) (dp_e (de_sl (dp_e (de_var (pv 1))) dq_none (dq_some (de_var (pv 6))))) (dp_e (de_sl (dp_e (de_var (pv 1))) (dq_some (de_var (pv 5))) dq_none)))) (da_cons (dp_e (de_sl (dp_e (de_var (pv 1))) (dq_some (de_var (pv 5))) (dq_some (de_var (pv 6))))) (da_cons (dp_e (de_op2 addS (fun _ _ h1 h2 => pe_op op_addAll h1 h2) (dp_e (de_sl (dp_e (de_var (pv 1))) (dq_some (de_var (pv 6))) dq_none)) (dp_e (de_sl (dp_e (de_var (pv 1))) dq_none (dq_some (de_var (pv 6))))))) da_nil)))))))) (by simp))
    (dss_cons (ds_set (i := 7) (fun _ h => ps_set sc_l_crooked.nd rfl (by first | exact .inl rfl | exact .inr rfl) h) (de_op2 addS (fun _ _ h1 h2 => pe_op op_addAll h1 h2) (dp_e (de_var (pv 7))) (dp_e (de_frz (do_lst (da_cons (dp_e (de_op2 addS (fun _ _ h1 h2 => pe_op op_addAll h1 h2) (dp_e (de_var (pv 1))) (dp_e (de_sl (dp_e (de_var (pv 1))) dq_none (dq_some de_int))))) (da_cons (dp_e de_str) (da_cons (dp_e (de_op2 addS (fun _ _ h1 h2 => pe_op op_addAll h1 h2) (dp_e (de_var (pv 1))) (dp_e (de_var (pv 4))))) da_nil))))))) (by simp))
    (dss_one (ds_ret (de_ix (dp_e (de_var (pv 7))) (dp_e (de_fnV (fun _ => .nil) rfl (fun _ h => pe_calD G_l_leaf (hr.mono (by decide)) (fun σ => passAt (takes_of rfl rfl rfl rfl) σ) h) (da_cons (dp_own (pv 0)) (da_cons (dp_e de_int) da_nil)))) (fun _ _ => rfl)))))))))))) hw
theorem sc_l_tomes : FnScope ["_law_ream_here", "_law_most", "_law_found", "_law_who", "_law_row", "_law_page", "_law_k", "_law_begin"] ["_law_ream_here", "_law_most"] (defScope (topS 38)) := ⟨rfl, rfl, rfl, by decide +kernel, rfl, by decide +kernel, by decide +kernel⟩
theorem ok_l_tomes (T : Txt K mg A) (G_l_leaf : CalD P w K mg base 1 "_law_leaf" (toSp (BS K) Value.ref [0] 2 (sd_l_leaf A)) []) (hw : ∀ cs Qr Qx, cs.length = 2 → (sd_l_tomes A) cs Qr Qx → w_l_tomes A (kOf [0] 2 Qr Qx) (initC ["_law_ream_here", "_law_most", "_law_found", "_law_who", "_law_row", "_law_page", "_law_k", "_law_begin"] cs)) : CalD P w K mg base (1 + 1) "_law_tomes" (toSp (BS K) Value.ref [0] 2 (sd_l_tomes A)) [] :=
  cal_mk (w := w_l_tomes A) T.D_l_tomes sc_l_tomes rfl (fun _ _ _ _ _ _ us hl => match us, hl with | [_, _], _ => rfl) (fun f cdv A1 outer s H E hr => by
    unfold w_l_tomes
    exact (dss_cons (ds_setO (i := 2) (fun _ h => ps_set sc_l_tomes.nd rfl (by first | exact .inl rfl | exact .inr rfl) h) (do_lst da_nil) (by simp))
    (dss_cons (ds_for (passes_of rfl) rfl (di_rg1 (fun _ h => pi_range1 (by rfl) T.n_range h) (de_op2 addS (fun _ _ h1 h2 => pe_op op_addAll h1 h2) (dp_e de_int) (dp_e (de_fnV (fun _ => .nil) rfl (fun _ h => pe_calD G_l_leaf (hr.mono (by decide)) (fun σ => passAt (takes_of rfl rfl rfl rfl) σ) h) (da_cons (dp_own (pv 0)) (da_cons (dp_e (de_var (pv 1))) da_nil)))))) (dg_name (pg_name (i := 3) sc_l_tomes.nd rfl (by first | exact .inl rfl | exact .inr rfl)) (by simp)) (dss_cons (ds_setO (i := 4) (fun _ h => ps_set sc_l_tomes.nd rfl (by first | exact .inl rfl | exact .inr rfl) h) (do_lst da_nil) (by simp))
    (dss_cons (ds_set (i := 5) (fun _ h => ps_set sc_l_tomes.nd rfl (by first | exact .inl rfl | exact .inr rfl) h) (de_ix (dp_e (de_frz (do_lst (da_cons (dp_e de_int) (da_cons (dp_e (de_fnV (fun _ => .nil) rfl (fun _ h => pe_calD G_l_leaf (hr.mono (by decide)) (fun σ => passAt (takes_of rfl rfl rfl rfl) σ) h) (da_cons (dp_own (pv 0)) (da_cons (dp_e de_int) da_nil)))) (da_cons (dp_e (de_fnV (fun _ => .nil) rfl (fun _ h => pe_calD G_l_leaf (hr.mono (by decide)) (fun σ => passAt (takes_of rfl rfl rfl rfl) σ) h) (da_cons (dp_own (pv 0)) (da_cons (dp_e (de_op2 powS (fun _ _ h1 h2 => pe_op op_powW h1 h2) (dp_e de_int) (dp_e de_int))) da_nil)))) da_nil)))))) (dp_e (de_fnV (fun _ => .nil) rfl (fun _ h => pe_calD G_l_leaf (hr.mono (by decide)) (fun σ => passAt (takes_of rfl rfl rfl rfl) σ) h) (da_cons (dp_own (pv 0)) (da_cons (dp_e de_int) da_nil)))) (fun _ _ => rfl)) (by simp))
    (dss_cons (ds_for (passes_of rfl) rfl (di_rg1 (fun _ h => pi_range1 (by rfl) T.n_range h) (de_fnV (fun _ => .nil) rfl (fun _ h => pe_calD G_l_leaf (hr.mono (by decide)) (fun σ => passAt (takes_of rfl rfl rfl rfl) σ) h) (da_cons (dp_own (pv 0)) (da_cons (dp_e de_int) da_nil)))) (dg_name (pg_name (i := 6) sc_l_tomes.nd rfl (by first | exact .inl rfl | exact .inr rfl)) (by simp)) (dss_cons (ds_set (i := 7) (fun _ h => ps_set sc_l_tomes.nd rfl (by first | exact .inl rfl | exact .inr rfl) h) (de_op2 addS (fun _ _ h1 h2 => pe_op op_addAll h1 h2) (dp_e (de_var (pv 5))) (dp_e (de_ix (dp_e (de_frz (do_lst (da_cons (dp_e de_int) (da_cons (dp_e de_int) (da_cons (dp_e (de_fnV (fun _ => .nil) rfl (fun _ h => pe_calD G_l_leaf (hr.mono (by decide)) (fun σ => passAt (takes_of rfl rfl rfl rfl) σ) h) (da_cons (dp_own (pv 0)) (da_cons (dp_e de_int) da_nil)))) da_nil)))))) (dp_e (de_fnV (fun _ => .nil) rfl (fun _ h => pe_calD G_l_leaf (hr.mono (by decide)) (fun σ => passAt (takes_of rfl rfl rfl rfl) σ) h) (da_cons (dp_own (pv 0)) (da_cons (dp_e de_int) da_nil)))) (fun _ _ => rfl)))) (by simp))
    (dss_cons (ds_set (i := 5) (fun _ h => ps_set sc_l_tomes.nd rfl (by first | exact .inl rfl | exact .inr rfl) h) (de_op2 addS (fun _ _ h1 h2 => pe_op op_addAll h1 h2) (dp_e (de_op2 addS (fun _ _ h1 h2 => pe_op op_addAll h1 h2) (dp_e (de_var (pv 7))) (dp_e de_int))) (dp_e (de_ix (dp_e (de_frz (do_lst (da_cons (dp_e de_int) (da_cons (dp_e (de_fnV (fun _ => .nil) rfl (fun _ h => pe_calD G_l_leaf (hr.mono (by decide)) (fun σ => passAt (takes_of rfl rfl rfl rfl) σ) h) (da_cons (dp_own (pv 0)) (da_cons (dp_e de_int) da_nil)))) (da_cons (dp_e (de_fnV (fun _ => .nil) rfl (fun _ h => pe_calD G_l_leaf (hr.mono (by decide)) (fun σ => passAt (takes_of rfl rfl rfl rfl) σ) h) (da_cons (dp_own (pv 0)) (da_cons (dp_e (de_op2 powS (fun _ _ h1 h2 => pe_op op_powW h1 h2) (dp_e de_int) (dp_e de_int))) da_nil)))) da_nil)))))) (dp_e (de_fnV (fun _ => .nil) rfl (fun _ h => pe_calD G_l_leaf (hr.mono (by decide)) (fun σ => passAt (takes_of rfl rfl rfl rfl) σ) h) (da_cons (dp_own (pv 0)) (da_cons (dp_e de_int) da_nil)))) (fun _ _ => rfl)))) (by simp))
    (dss_one (ds_expr (de_mu appendW (fun _ _ h1 h2 => pe_bm PySem.F.plainAttrs_list PySem.F.slot_list_append PySem.F.type_list_append mt_append h1 h2) (pv 4) (da_cons (dp_e (de_tup (da_cons (dp_e (de_var (pv 7))) (da_cons (dp_e (de_var (pv 5))) da_nil)))) da_nil)))))))
    (dss_one (ds_expr (de_mu appendW (fun _ _ h1 h2 => pe_bm PySem.F.plainAttrs_list PySem.F.slot_list_append PySem.F.type_list_append mt_append h1 h2) (pv 2) (da_cons (dp_e (de_fz (pv 4) (by simp))) da_nil))))))))
    (dss_one (ds_ret (de_fz (pv 2) (by simp))))))) hw
theorem sc_l_number : FnScope ["_law_word_here", "_law_sign"] ["_law_word_here"] (defScope (topS 39)) := ⟨rfl, rfl, rfl, by decide +kernel, rfl, by decide +kernel, by decide +kernel⟩
theorem ok_l_number (T : Txt K mg A) (hw : ∀ cs Qr Qx, cs.length = 1 → (pureSd 1 g_l_number) cs Qr Qx → w_l_number A (kOf [] 1 Qr Qx) (initC ["_law_word_here", "_law_sign"] cs)) : CalD P w K mg base (0 + 1) "_law_number" (toSp (BS K) Value.ref [] 1 (pureSd 1 g_l_number)) [] :=
  cal_mk (w := w_l_number A) T.D_l_number sc_l_number rfl (fun _ _ _ _ _ _ us hl => match us, hl with | [_], _ => rfl) (fun f cdv A1 outer s H E hr => by
    unfold w_l_number
    exact (dss_cons (ds_if (dt_w (dw_or (dt_cmp eqS (fun _ _ h1 h2 => pt_cmpR (op_eqD (hu64 hr)) h1 h2 (nomark _)) (dp_e (de_var (pv 0))) (dp_e de_str)) (dw_or1 (dt_cmp neS (fun _ _ h1 h2 => pt_cmpR (op_neD (hu64 hr)) h1 h2 (nomark _)) (dp_e (de_frz (do_lc (fun _ h => pe_lc (own := [("_law_sign", 1)]) rfl sc_l_number.nd h (blkOk_by (by show blkC ["_law_word_here", "_law_sign"] (defScope (topS 39)) _ _ = true; decide +kernel)) (fun _ _ _ _ _ => (dg_name (pg_name (i := 1) sc_l_number.nd rfl (by first | exact .inl rfl | exact .inr rfl)) (by simp))) (fun _ _ _ _ _ => (dts_one (dt_cmp notInS (fun _ _ h1 h2 => pt_cmpR (op_notInAll (hu65 hr)) h1 h2 (by with_unfolding_all rfl)) (dp_e (de_var (pv 1))) (dp_e de_str)))) (fun _ _ _ _ _ => (de_var (pv 1)))) (di_str (de_var (pv 0))) (by simp) (by simp)))) (dp_e (de_frz (do_lst da_nil))))))) (dss_one (ds_ret de_non)) dss_nil)
    (dss_one (ds_ret (de_if (dt_w (dw_and (dt_cmp eqS (fun _ _ h1 h2 => pt_cmpR (op_eqD (hu64 hr)) h1 h2 (nomark _)) (dp_e (de_ix (dp_e (de_var (pv 0))) (dp_e de_int) (fun _ _ => rfl))) (dp_e de_str)) (dw_and1 (dt_cmp gtS (fun _ _ h1 h2 => pt_cmpR op_gt h1 h2 (nomark _)) (dp_e (de_call lenS (fun _ h => pe_callB call_len (by rfl) T.n_len bt_len h) (da_cons (dp_e (de_var (pv 0))) da_nil))) (dp_e de_int))))) de_non (de_call intS (fun _ h => pe_callTy call_intAll (by rfl) T.n_int bt_int h) (da_cons (dp_e (de_var (pv 0))) da_nil))))))) hw
theorem sc_l_row_of : FnScope ["_law_row", "_law_letter", "_law_words", "_law_found", "_law_word_here", "_law_ends", "_law_part"] ["_law_row", "_law_letter"] (defScope (topS 44)) := ⟨rfl, rfl, rfl, by decide +kernel, rfl, by decide +kernel, by decide +kernel⟩
theorem ok_l_row_of (T : Txt K mg A) (G_l_number : CalD P w K mg base 1 "_law_number" (toSp (BS K) Value.ref [] 1 (pureSd 1 g_l_number)) []) (hw : ∀ cs Qr Qx, cs.length = 2 → (pureSd 2 g_l_row_of) cs Qr Qx → w_l_row_of A (kOf [] 2 Qr Qx) (initC ["_law_row", "_law_letter", "_law_words", "_law_found", "_law_word_here", "_law_ends", "_law_part"] cs)) : CalD P w K mg base (1 + 1) "_law_row_of" (toSp (BS K) Value.ref [] 2 (pureSd 2 g_l_row_of)) [] :=
  cal_mk (w := w_l_row_of A) T.D_l_row_of sc_l_row_of rfl (fun _ _ _ _ _ _ us hl => match us, hl with | [_, _], _ => rfl) (fun f cdv A1 outer s H E hr => by
    unfold w_l_row_of
    exact (dss_cons (ds_set (i := 2) (fun _ h => ps_set sc_l_row_of.nd rfl (by first | exact .inl rfl | exact .inr rfl) h) (de_frz (do_mt splitO (fun _ _ h1 h2 => pe_bm PySem.F.plainAttrs_str PySem.F.slot_str_split PySem.F.type_str_split mt_split h1 h2) (dp_e (de_var (pv 0))) (da_cons (dp_e de_str) da_nil))) (by simp))
    (dss_cons (ds_if (dt_cmp neS (fun _ _ h1 h2 => pt_cmpR (op_neD (hu64 hr)) h1 h2 (nomark _)) (dp_e (de_ix (dp_e (de_var (pv 2))) (dp_e de_int) (fun _ _ => rfl))) (dp_e (de_op2 addS (fun _ _ h1 h2 => pe_op op_addAll h1 h2) (dp_e (de_var (pv 1))) (dp_e de_str)))) (dss_one (ds_ret de_non)) dss_nil)
    (dss_cons (ds_setO (i := 3) (fun _ h => ps_set sc_l_row_of.nd rfl (by first | exact .inl rfl | exact .inr rfl) h) (do_lst da_nil) (by simp))
    (dss_cons (ds_for (passes_of rfl) rfl (di_list (de_sl (dp_e (de_var (pv 2))) (dq_some de_int) dq_none)) (dg_name (pg_name (i := 4) sc_l_row_of.nd rfl (by first | exact .inl rfl | exact .inr rfl)) (by simp)) (dss_cons (ds_setLcF (i := 5) (fun _ h => ps_setLc (own := [("_law_part", 6)]) rfl sc_l_row_of.nd rfl rfl (sw_true rfl rfl rfl rfl) h (blkOk_by (by show blkC ["_law_row", "_law_letter", "_law_words", "_law_found", "_law_word_here", "_law_ends", "_law_part"] (defScope (topS 44)) _ _ = true; decide +kernel)) (fun _ _ _ _ _ => (dg_name (pg_name (i := 6) sc_l_row_of.nd rfl (by first | exact .inl rfl | exact .inr rfl)) (by simp))) (fun _ _ _ _ _ => dts_nil) (fun _ _ _ _ _ => (de_pv (fun _ => .nil) (fun _ h => pe_calD G_l_number (hr.mono (by decide)) (fun σ => passAt takes0 σ) h) (da_cons (dp_e (de_var (pv 6))) da_nil)))) (di_list (de_frz (do_mt splitO (fun _ _ h1 h2 => pe_bm PySem.F.plainAttrs_str PySem.F.slot_str_split PySem.F.type_str_split mt_split h1 h2) (dp_e (de_var (pv 4))) (da_cons (dp_e de_str) da_nil)))) (by simp) (by simp) (by simp))
    (dss_cons (ds_if (dt_w (dw_or (dt_cmp neS (fun _ _ h1 h2 => pt_cmpR (op_neD (hu64 hr)) h1 h2 (nomark _)) (dp_e (de_call lenS (fun _ h => pe_callB call_len (by rfl) T.n_len bt_len h) (da_cons (dp_e (de_var (pv 5))) da_nil))) (dp_e de_int)) (dw_or (dt_cmp inS (fun _ _ h1 h2 => pt_cmpR (op_inAll (hu65 hr)) h1 h2 (by with_unfolding_all rfl)) (dp_e de_non) (dp_e (de_var (pv 5)))) (dw_or1 (dt_cmp geS (fun _ _ h1 h2 => pt_cmpR op_ge h1 h2 (nomark _)) (dp_e (de_ix (dp_e (de_var (pv 5))) (dp_e de_int) (fun _ _ => rfl))) (dp_e (de_ix (dp_e (de_var (pv 5))) (dp_e de_int) (fun _ _ => rfl)))))))) (dss_one (ds_ret de_non)) dss_nil)
    (dss_cons (ds_if (dt_w (dw_and (dt_cmp neS (fun _ _ h1 h2 => pt_cmpR (op_neD (hu64 hr)) h1 h2 (nomark _)) (dp_own (pv 3)) (dp_e (de_frz (do_lst da_nil)))) (dw_and1 (dt_cmp ltS (fun _ _ h1 h2 => pt_cmpR op_lt h1 h2 (nomark _)) (dp_e (de_ix (dp_e (de_var (pv 5))) (dp_e de_int) (fun _ _ => rfl))) (dp_e (de_ix (dp_e (de_ix (dp_own (pv 3)) (dp_e (de_op1 negS (fun _ h => pe_un un_neg h) (dp_e de_int))) (fun _ _ => rfl))) (dp_e de_int) (fun _ _ => rfl))))))) (dss_one (ds_ret de_non)) dss_nil)
    (dss_one (ds_expr (de_mu appendW (fun _ _ h1 h2 => pe_bm PySem.F.plainAttrs_list PySem.F.slot_list_append PySem.F.type_list_append mt_append h1 h2) (pv 3) (da_cons (dp_e (de_tup (da_cons (dp_e (de_ix (dp_e (de_var (pv 5))) (dp_e de_int) (fun _ _ => rfl))) (da_cons (dp_e (de_ix (dp_e (de_var (pv 5))) (dp_e de_int) (fun _ _ => rfl))) da_nil)))) da_nil))))))))
    (dss_one (ds_ret (de_fz (pv 3) (by simp))))))))) hw
theorem sc_l_due : FnScope ["_law_line", "_law_rows", "_law_found", "_law_at", "_law_row"] ["_law_line"] (defScope (topS 45)) := ⟨rfl, rfl, rfl, by decide +kernel, rfl, by decide +kernel, by decide +kernel⟩
theorem ok_l_due (T : Txt K mg A) (G_l_row_of : CalD P w K mg base 2 "_law_row_of" (toSp (BS K) Value.ref [] 2 (pureSd 2 g_l_row_of)) []) (hw : ∀ cs Qr Qx, cs.length = 1 → (pureSd 1 g_l_due) cs Qr Qx → w_l_due A (kOf [] 1 Qr Qx) (initC ["_law_line", "_law_rows", "_law_found", "_law_at", "_law_row"] cs)) : CalD P w K mg base (2 + 1) "_law_due" (toSp (BS K) Value.ref [] 1 (pureSd 1 g_l_due)) [] :=
  cal_mk (w := w_l_due A) T.D_l_due sc_l_due rfl (fun _ _ _ _ _ _ us hl => match us, hl with | [_], _ => rfl) (fun f cdv A1 outer s H E hr => by
    unfold w_l_due
    exact (dss_cons (ds_set (i := 1) (fun _ h => ps_set sc_l_due.nd rfl (by first | exact .inl rfl | exact .inr rfl) h) (de_frz (do_mt splitO (fun _ _ h1 h2 => pe_bm PySem.F.plainAttrs_str PySem.F.slot_str_split PySem.F.type_str_split mt_split h1 h2) (dp_e (de_var (pv 0))) (da_cons (dp_e de_str) da_nil))) (by simp))
    (dss_cons (ds_if (dt_cmp gtS (fun _ _ h1 h2 => pt_cmpR op_gt h1 h2 (nomark _)) (dp_e (de_call lenS (fun _ h => pe_callB call_len (by rfl) T.n_len bt_len h) (da_cons (dp_e (de_var (pv 1))) da_nil))) (dp_e de_int)) (dss_one (ds_ret de_non)) dss_nil)
    (dss_cons (ds_setLcF (i := 2) (fun _ h => ps_setLc (own := [("_law_at", 3), ("_law_row", 4)]) rfl sc_l_due.nd rfl rfl (sw_true rfl rfl rfl rfl) h (blkOk_by (by show blkC ["_law_line", "_law_rows", "_law_found", "_law_at", "_law_row"] (defScope (topS 45)) _ _ = true; decide +kernel)) (fun _ _ _ _ _ => (dg_tup rfl (dgs_cons (dg_name (pg_name (i := 3) sc_l_due.nd rfl (by first | exact .inl rfl | exact .inr rfl)) (by simp)) (dgs_cons (dg_name (pg_name (i := 4) sc_l_due.nd rfl (by first | exact .inl rfl | exact .inr rfl)) (by simp)) dgs_nil)))) (fun _ _ _ _ _ => dts_nil) (fun _ _ _ _ _ => (de_pv (fun _ => .nil) (fun _ h => pe_calD G_l_row_of (hr.mono (by decide)) (fun σ => passAt takes0 σ) h) (da_cons (dp_e (de_var (pv 4))) (da_cons (dp_e (de_ix (dp_e de_str) (dp_e (de_var (pv 3))) (fun _ _ => rfl))) da_nil))))) (di_enum (fun _ h => pi_enum (by rfl) T.n_enumerate h) (dp_e (de_var (pv 1)))) (by simp) (by simp) (by simp))
    (dss_one (ds_ret (de_if (dt_cmp inS (fun _ _ h1 h2 => pt_cmpR (op_inAll (hu65 hr)) h1 h2 (by with_unfolding_all rfl)) (dp_e de_non) (dp_e (de_var (pv 2)))) de_non (de_var (pv 2))))))))) hw
theorem sc_l_is_long : FnScope ["_law_line", "_law_run", "_law_most", "_law_sign"] ["_law_line"] (defScope (topS 41)) := ⟨rfl, rfl, rfl, by decide +kernel, rfl, by decide +kernel, by decide +kernel⟩
theorem ok_l_is_long (T : Txt K mg A) (hw : ∀ cs Qr Qx, cs.length = 1 → (pureSd 1 g_l_is_long) cs Qr Qx → w_l_is_long A (kOf [] 1 Qr Qx) (initC ["_law_line", "_law_run", "_law_most", "_law_sign"] cs)) : CalD P w K mg base (0 + 1) "_law_is_long" (toSp (BS K) Value.ref [] 1 (pureSd 1 g_l_is_long)) [] :=
  cal_mk (w := w_l_is_long A) T.D_l_is_long sc_l_is_long rfl (fun _ _ _ _ _ _ us hl => match us, hl with | [_], _ => rfl) (fun f cdv A1 outer s H E hr => by
    unfold w_l_is_long
    exact (dss_cons (ds_asg (de_tup (da_cons (dp_e de_int) (da_cons (dp_e de_int) da_nil))) (dg_tup rfl (dgs_cons (dg_name (pg_name (i := 1) sc_l_is_long.nd rfl (by first | exact .inl rfl | exact .inr rfl)) (by simp)) (dgs_cons (dg_name (pg_name (i := 2) sc_l_is_long.nd rfl (by first | exact .inl rfl | exact .inr rfl)) (by simp)) dgs_nil))))
    (dss_cons (ds_for (passes_of rfl) rfl (di_str (de_var (pv 0))) (dg_name (pg_name (i := 3) sc_l_is_long.nd rfl (by first | exact .inl rfl | exact .inr rfl)) (by simp)) (dss_cons (ds_set (i := 1) (fun _ h => ps_set sc_l_is_long.nd rfl (by first | exact .inl rfl | exact .inr rfl) h) (de_if (dt_cmp inS (fun _ _ h1 h2 => pt_cmpR (op_inAll (hu65 hr)) h1 h2 (by with_unfolding_all rfl)) (dp_e (de_var (pv 3))) (dp_e de_str)) (de_op2 addS (fun _ _ h1 h2 => pe_op op_addAll h1 h2) (dp_e (de_var (pv 1))) (dp_e de_int)) de_int) (by simp))
    (dss_one (ds_set (i := 2) (fun _ h => ps_set sc_l_is_long.nd rfl (by first | exact .inl rfl | exact .inr rfl) h) (de_call maxS (fun _ h => pe_callB (call_maxAll rfl) (by rfl) T.n_max bt_max h) (da_cons (dp_e (de_var (pv 2))) (da_cons (dp_e (de_var (pv 1))) da_nil))) (by simp)))))
    (dss_one (ds_ret (de_op2 gtS (fun _ _ h1 h2 => pe_cmpR op_gt h1 h2 (nomark _)) (dp_e (de_var (pv 2))) (dp_e de_int))))))) hw
theorem sc_l_same : FnScope ["_law_found", "_law_due_here", "_law_k"] ["_law_found", "_law_due_here"] (defScope (topS 43)) := ⟨rfl, rfl, rfl, by decide +kernel, rfl, by decide +kernel, by decide +kernel⟩
theorem ok_l_same {k0 : Nat} {gself gnext : List D → (D → Prop) → Prop} (T : Txt K mg A) (G_l_same : CalD P w K mg base k0 "_law_same" (toSp (BS K) Value.ref [] 2 (pureSd 2 gself)) []) (hw : ∀ cs Qr Qx, cs.length = 2 → (pureSd 2 gnext) cs Qr Qx → w_l_same A gself (kOf [] 2 Qr Qx) (initC ["_law_found", "_law_due_here", "_law_k"] cs)) : CalD P w K mg base (k0 + 1) "_law_same" (toSp (BS K) Value.ref [] 2 (pureSd 2 gnext)) [] :=
  cal_mk (w := w_l_same A gself) T.D_l_same sc_l_same rfl (fun _ _ _ _ _ _ us hl => match us, hl with | [_, _], _ => rfl) (fun f cdv A1 outer s H E hr => by
    unfold w_l_same
    exact (dss_cons (ds_if (dt_w (dw_or (dt_val (de_isa (n := 3) (by decide) (fun _ _ h1 h2 => pe_callB call_isi (by rfl) T.n_isinstance bt_isinstance (pa_cons h1 (pa_cons h2 pa_nil))) (dp_e (de_var (pv 1))) (pe_bltn (v := .ty "list") (by rfl) T.n_list bt_list rfl))) (dw_or1 (dt_val (de_isa (n := 4) (by decide) (fun _ _ h1 h2 => pe_callB call_isi (by rfl) T.n_isinstance bt_isinstance (pa_cons h1 (pa_cons h2 pa_nil))) (dp_e (de_var (pv 1))) (pe_bltn (v := .ty "tuple") (by rfl) T.n_tuple bt_tuple rfl)))))) (dss_cons (ds_if (dt_w (dw_or (dt_cmp neS (fun _ _ h1 h2 => pt_cmpR (op_neD (hu64 hr)) h1 h2 (nomark _)) (dp_e (de_isa (n := 3) (by decide) (fun _ _ h1 h2 => pe_callB call_isi (by rfl) T.n_isinstance bt_isinstance (pa_cons h1 (pa_cons h2 pa_nil))) (dp_e (de_var (pv 0))) (pe_bltn (v := .ty "list") (by rfl) T.n_list bt_list rfl))) (dp_e (de_isa (n := 3) (by decide) (fun _ _ h1 h2 => pe_callB call_isi (by rfl) T.n_isinstance bt_isinstance (pa_cons h1 (pa_cons h2 pa_nil))) (dp_e (de_var (pv 1))) (pe_bltn (v := .ty "list") (by rfl) T.n_list bt_list rfl)))) (dw_or1 (dt_cmp neS (fun _ _ h1 h2 => pt_cmpR (op_neD (hu64 hr)) h1 h2 (nomark _)) (dp_e (de_isa (n := 4) (by decide) (fun _ _ h1 h2 => pe_callB call_isi (by rfl) T.n_isinstance bt_isinstance (pa_cons h1 (pa_cons h2 pa_nil))) (dp_e (de_var (pv 0))) (pe_bltn (v := .ty "tuple") (by rfl) T.n_tuple bt_tuple rfl))) (dp_e (de_isa (n := 4) (by decide) (fun _ _ h1 h2 => pe_callB call_isi (by rfl) T.n_isinstance bt_isinstance (pa_cons h1 (pa_cons h2 pa_nil))) (dp_e (de_var (pv 1))) (pe_bltn (v := .ty "tuple") (by rfl) T.n_tuple bt_tuple rfl))))))) (dss_one (ds_ret de_bl)) dss_nil)
    (dss_one (ds_ret (de_and (de_op2 eqS (fun _ _ h1 h2 => pe_cmpR (op_eqD (hu64 hr)) h1 h2 (nomark _)) (dp_e (de_call lenS (fun _ h => pe_callB call_len (by rfl) T.n_len bt_len h) (da_cons (dp_e (de_var (pv 0))) da_nil))) (dp_e (de_call lenS (fun _ h => pe_callB call_len (by rfl) T.n_len bt_len h) (da_cons (dp_e (de_var (pv 1))) da_nil)))) (de_one (de_call allS (fun _ h => pe_callB (cr_all rfl) (by rfl) T.n_all bt_all h) (da_cons (dp_e (de_frz (do_lc (fun _ h => pe_lc (own := [("_law_k", 2)]) rfl sc_l_same.nd h (blkOk_by (by show blkC ["_law_found", "_law_due_here", "_law_k"] (defScope (topS 43)) _ _ = true; decide +kernel)) (fun _ _ _ _ _ => (dg_name (pg_name (i := 2) sc_l_same.nd rfl (by first | exact .inl rfl | exact .inr rfl)) (by simp))) (fun _ _ _ _ _ => dts_nil) (fun _ _ _ _ _ => (de_pv (fun _ => .nil) (fun _ h => pe_calD G_l_same (hr.mono (Nat.le_refl _)) (fun σ => passAt takes0 σ) h) (da_cons (dp_e (de_ix (dp_e (de_var (pv 0))) (dp_e (de_var (pv 2))) (fun _ _ => rfl))) (da_cons (dp_e (de_ix (dp_e (de_var (pv 1))) (dp_e (de_var (pv 2))) (fun _ _ => rfl))) da_nil))))) (di_rg1 (fun _ h => pi_range1 (by rfl) T.n_range h) (de_call lenS (fun _ h => pe_callB call_len (by rfl) T.n_len bt_len h) (da_cons (dp_e (de_var (pv 1))) da_nil))) (by simp) (by simp)))) da_nil))))))) dss_nil)
    (dss_cons (ds_if (dt_w (dw_or (dt_cmp isNS (fun _ _ h1 h2 => pt_cmpR op_isN h1 h2 (nomark _)) (dp_e (de_var (pv 1))) (dp_e de_non)) (dw_or1 (dt_cmp isNS (fun _ _ h1 h2 => pt_cmpR op_isN h1 h2 (nomark _)) (dp_e (de_var (pv 0))) (dp_e de_non))))) (dss_one (ds_ret (de_and (de_op2 isNS (fun _ _ h1 h2 => pe_cmpR op_isN h1 h2 (nomark _)) (dp_e (de_var (pv 1))) (dp_e de_non)) (de_one (de_op2 isNS (fun _ _ h1 h2 => pe_cmpR op_isN h1 h2 (nomark _)) (dp_e (de_var (pv 0))) (dp_e de_non)))))) dss_nil)
    (dss_cons (ds_if (dt_w (dw_or (dt_cmp neS (fun _ _ h1 h2 => pt_cmpR (op_neD (hu64 hr)) h1 h2 (nomark _)) (dp_e (de_isa (n := 1) (by decide) (fun _ _ h1 h2 => pe_callB call_isi (by rfl) T.n_isinstance bt_isinstance (pa_cons h1 (pa_cons h2 pa_nil))) (dp_e (de_var (pv 1))) (pe_bltn (v := .ty "bool") (by rfl) T.n_bool bt_bool rfl))) (dp_e (de_isa (n := 1) (by decide) (fun _ _ h1 h2 => pe_callB call_isi (by rfl) T.n_isinstance bt_isinstance (pa_cons h1 (pa_cons h2 pa_nil))) (dp_e (de_var (pv 0))) (pe_bltn (v := .ty "bool") (by rfl) T.n_bool bt_bool rfl)))) (dw_or1 (dt_cmp neS (fun _ _ h1 h2 => pt_cmpR (op_neD (hu64 hr)) h1 h2 (nomark _)) (dp_e (de_isa (n := 2) (by decide) (fun _ _ h1 h2 => pe_callB call_isi (by rfl) T.n_isinstance bt_isinstance (pa_cons h1 (pa_cons h2 pa_nil))) (dp_e (de_var (pv 1))) (pe_bltn (v := .ty "str") (by rfl) T.n_str bt_str rfl))) (dp_e (de_isa (n := 2) (by decide) (fun _ _ h1 h2 => pe_callB call_isi (by rfl) T.n_isinstance bt_isinstance (pa_cons h1 (pa_cons h2 pa_nil))) (dp_e (de_var (pv 0))) (pe_bltn (v := .ty "str") (by rfl) T.n_str bt_str rfl))))))) (dss_one (ds_ret de_bl)) dss_nil)
    (dss_one (ds_ret (de_op2 eqS (fun _ _ h1 h2 => pe_cmpR (op_eqD (hu64 hr)) h1 h2 (nomark _)) (dp_e (de_var (pv 0))) (dp_e (de_var (pv 1)))))))))) hw
theorem sc_law : FnScope ["_law_script", "_law_piece", "_law_thirteen", "_law_k", "_law_ream_here", "_law_turn", "_law_one", "_law_two", "_law_line", "_law_due_here", "_law_at"] ["_law_script"] (defScope (topS 48)) := ⟨rfl, rfl, rfl, by decide +kernel, rfl, by decide +kernel, by decide +kernel⟩
theorem fn_law (T : Txt K mg A) (G_l_told : CalD P w K mg base 7 "_law_told" (toSp (BS K) Value.ref [] 1 (sd_l_told A)) []) (G_l_ream : CalD P w K mg base 1 "_law_ream" (toSp (BS K) Value.ref [0] 2 (sd_l_ream A)) []) (G_l_laid : CalD P w K mg base 2 "_law_laid" (toSp (BS K) Value.ref [0] 2 (sd_l_laid A)) []) (G_l_tomes : CalD P w K mg base 2 "_law_tomes" (toSp (BS K) Value.ref [0] 2 (sd_l_tomes A)) []) (G_l_crooked : CalD P w K mg base 2 "_law_crooked" (toSp (BS K) Value.ref [0] 2 (sd_l_crooked A)) []) (G_l_due : CalD P w K mg base 3 "_law_due" (toSp (BS K) Value.ref [] 1 (pureSd 1 g_l_due)) []) (G_l_is_long : CalD P w K mg base 1 "_law_is_long" (toSp (BS K) Value.ref [] 1 (pureSd 1 g_l_is_long)) []) (G_l_same : CalD P w K mg base 9 "_law_same" (toSp (BS K) Value.ref [] 2 (pureSd 2 g_l_same)) []) (hw : ∀ cs Qr Qx, cs.length = 1 → (sd_law A) cs Qr Qx → w_law A (kOf [0] 1 Qr Qx) (initC ["_law_script", "_law_piece", "_law_thirteen", "_law_k", "_law_ream_here", "_law_turn", "_law_one", "_law_two", "_law_line", "_law_due_here", "_law_at"] cs)) {f : Addr} {fd : FuncData} (F : FunD K "law" "law" (defArgs (topS 48)) (defBody (topS 48)) (defScope (topS 48)) [] [] f fd) : FnOk P w K mg base (L2.CX P w) (9 + 1) f fd ["_law_script"] (toSp (BS K) Value.ref [0] 1 (sd_law A)) :=
  fun_okD (w := w_law A) F sc_law rfl (fun cdv A1 outer s H E hr => by
    unfold w_law
    exact (dss_cons (ds_for (passes_of rfl) rfl (di_list (de_frz (do_lst (da_cons (dp_e de_non) (da_cons (dp_e de_int) (da_cons (dp_e de_bl) (da_cons (dp_e (de_frz (do_lst da_nil))) (da_cons (dp_e (de_frz (do_lst (da_cons (dp_e de_str) da_nil)))) (da_cons (dp_e (de_frz (do_lst (da_cons (dp_e (de_frz (do_lst (da_cons (dp_e (de_tup (da_cons (dp_e de_int) (da_cons (dp_e de_int) da_nil)))) da_nil)))) da_nil)))) (da_cons (dp_e de_dnew) da_nil)))))))))) (dg_name (pg_name (i := 1) sc_law.nd rfl (by first | exact .inl rfl | exact .inr rfl)) (by simp)) (dss_one (ds_if (dt_cmp neS (fun _ _ h1 h2 => pt_cmpR (op_neD (hu64 hr)) h1 h2 (nomark _)) (dp_e (de_fnV (fun _ => .nil) rfl (fun _ h => pe_calD G_l_told (hr.mono (by decide)) (fun σ => passAt (takes_of rfl rfl rfl rfl) σ) h) (da_cons (dp_e (de_var (pv 1))) da_nil))) (dp_e de_str)) (dss_one (ds_ret de_bl)) dss_nil)))
    (dss_cons (ds_set (i := 2) (fun _ h => ps_set sc_law.nd rfl (by first | exact .inl rfl | exact .inr rfl) h) (de_mt joinS (fun _ _ h1 h2 => pe_bm PySem.F.plainAttrs_str PySem.F.slot_str_join PySem.F.type_str_join mt_join h1 h2) (dp_e de_str) (da_cons (dp_e (de_frz (do_lc (fun _ h => pe_lc (own := [("_law_at", 10)]) rfl sc_law.nd h (blkOk_by (by show blkC ["_law_script", "_law_piece", "_law_thirteen", "_law_k", "_law_ream_here", "_law_turn", "_law_one", "_law_two", "_law_line", "_law_due_here", "_law_at"] (defScope (topS 48)) _ _ = true; decide +kernel)) (fun _ _ _ _ _ => (dg_name (pg_name (i := 10) sc_law.nd rfl (by first | exact .inl rfl | exact .inr rfl)) (by simp))) (fun _ _ _ _ _ => dts_nil) (fun _ _ _ _ _ => (de_op2 addS (fun _ _ h1 h2 => pe_op op_addAll h1 h2) (dp_e (de_ix (dp_e de_str) (dp_e (de_var (pv 10))) (fun _ _ => rfl))) (dp_e de_str)))) (di_rg1 (fun _ h => pi_range1 (by rfl) T.n_range h) de_int) (by simp) (by simp)))) da_nil)) (by simp))
    (dss_cons (ds_if (dt_w (dw_or (dt_cmp neS (fun _ _ h1 h2 => pt_cmpR (op_neD (hu64 hr)) h1 h2 (nomark _)) (dp_e (de_fnV (fun _ => .nil) rfl (fun _ h => pe_calD G_l_told (hr.mono (by decide)) (fun σ => passAt (takes_of rfl rfl rfl rfl) σ) h) (da_cons (dp_e (de_var (pv 2))) da_nil))) (dp_e de_str)) (dw_or (dt_cmp neS (fun _ _ h1 h2 => pt_cmpR (op_neD (hu64 hr)) h1 h2 (nomark _)) (dp_e (de_fnV (fun _ => .nil) rfl (fun _ h => pe_calD G_l_told (hr.mono (by decide)) (fun σ => passAt (takes_of rfl rfl rfl rfl) σ) h) (da_cons (dp_e de_str) da_nil))) (dp_e de_str)) (dw_or1 (dt_cmp neS (fun _ _ h1 h2 => pt_cmpR (op_neD (hu64 hr)) h1 h2 (nomark _)) (dp_e (de_fnV (fun _ => .nil) rfl (fun _ h => pe_calD G_l_told (hr.mono (by decide)) (fun σ => passAt (takes_of rfl rfl rfl rfl) σ) h) (da_cons (dp_e de_str) da_nil))) (dp_e de_str)))))) (dss_one (ds_ret de_bl)) dss_nil)
    (dss_cons (ds_for (passes_of rfl) rfl (di_rg1 (fun _ h => pi_range1 (by rfl) T.n_range h) (de_call maxS (fun _ h => pe_callB (call_maxAll rfl) (by rfl) T.n_max bt_max h) (da_cons (dp_e de_int) (da_cons (dp_e (de_call minS (fun _ h => pe_callB (call_minAll rfl) (by rfl) T.n_min bt_min h) (da_cons (dp_e de_int) (da_cons (dp_e (de_scLen (fun _ _ _ _ _ h => h.2) (fun _ h => pe_callB call_len (by rfl) T.n_len bt_len h) (pv 0))) da_nil)))) da_nil)))) (dg_name (pg_name (i := 3) sc_law.nd rfl (by first | exact .inl rfl | exact .inr rfl)) (by simp)) (dss_cons (ds_setO (i := 4) (fun _ h => ps_set sc_law.nd rfl (by first | exact .inl rfl | exact .inr rfl) h) (do_fnT (fun _ => .nil) rfl (fun _ h => pe_calD G_l_ream (hr.mono (by decide)) (fun σ => passAt (takes_of rfl rfl rfl rfl) σ) h) (da_cons (dp_own (pv 0)) (da_cons (dp_e (de_var (pv 3))) da_nil))) (by simp))
    (dss_one (ds_for (passes_of rfl) rfl (di_rg1 (fun _ h => pi_range1 (by rfl) T.n_range h) de_int) (dg_name (pg_name (i := 5) sc_law.nd rfl (by first | exact .inl rfl | exact .inr rfl)) (by simp)) (dss_cons (ds_set (i := 6) (fun _ h => ps_set sc_law.nd rfl (by first | exact .inl rfl | exact .inr rfl) h) (de_fnV (fun _ => .nil) rfl (fun _ h => pe_calD G_l_laid (hr.mono (by decide)) (fun σ => passAt (takes_of rfl rfl rfl rfl) σ) h) (da_cons (dp_own (pv 4)) (da_cons (dp_e (de_fnV (fun _ => .nil) rfl (fun _ h => pe_calD G_l_tomes (hr.mono (by decide)) (fun σ => passAt (takes_of rfl rfl rfl rfl) σ) h) (da_cons (dp_own (pv 4)) (da_cons (dp_e de_int) da_nil)))) da_nil))) (by simp))
    (dss_cons (ds_set (i := 7) (fun _ h => ps_set sc_law.nd rfl (by first | exact .inl rfl | exact .inr rfl) h) (de_fnV (fun _ => .nil) rfl (fun _ h => pe_calD G_l_crooked (hr.mono (by decide)) (fun σ => passAt (takes_of rfl rfl rfl rfl) σ) h) (da_cons (dp_own (pv 4)) (da_cons (dp_e (de_var (pv 6))) da_nil))) (by simp))
    (dss_one (ds_for (passes_of rfl) rfl (di_list (de_frz (do_lst (da_cons (dp_e (de_var (pv 6))) (da_cons (dp_e (de_var (pv 7))) (da_cons (dp_e (de_fnV (fun _ => .nil) rfl (fun _ h => pe_calD G_l_crooked (hr.mono (by decide)) (fun σ => passAt (takes_of rfl rfl rfl rfl) σ) h) (da_cons (dp_own (pv 4)) (da_cons (dp_e (de_var (pv 7))) da_nil)))) da_nil)))))) (dg_name (pg_name (i := 8) sc_law.nd rfl (by first | exact .inl rfl | exact .inr rfl)) (by simp)) (dss_cons (ds_set (i := 9) (fun _ h => ps_set sc_law.nd rfl (by first | exact .inl rfl | exact .inr rfl) h) (de_pv (fun _ => .nil) (fun _ h => pe_calD G_l_due (hr.mono (by decide)) (fun σ => passAt (takes_of rfl rfl rfl rfl) σ) h) (da_cons (dp_e (de_var (pv 8))) da_nil)) (by simp))
    (dss_cons (ds_set (i := 9) (fun _ h => ps_set sc_law.nd rfl (by first | exact .inl rfl | exact .inr rfl) h) (de_if (dt_cmp isNS (fun _ _ h1 h2 => pt_cmpR op_isN h1 h2 (nomark _)) (dp_e (de_var (pv 9))) (dp_e de_non)) de_str (de_var (pv 9))) (by simp))
    (dss_one (ds_if (dt_w (dw_and (dt_not (dt_val (de_pv (fun _ => .nil) (fun _ h => pe_calD G_l_is_long (hr.mono (by decide)) (fun σ => passAt (takes_of rfl rfl rfl rfl) σ) h) (da_cons (dp_e (de_var (pv 8))) da_nil)))) (dw_and1 (dt_not (dt_val (de_pv (fun _ => .nil) (fun _ h => pe_calD G_l_same (hr.mono (by decide)) (fun σ => passAt (takes_of rfl rfl rfl rfl) σ) h) (da_cons (dp_e (de_fnV (fun _ => .nil) rfl (fun _ h => pe_calD G_l_told (hr.mono (by decide)) (fun σ => passAt (takes_of rfl rfl rfl rfl) σ) h) (da_cons (dp_e (de_var (pv 8))) da_nil))) (da_cons (dp_e (de_var (pv 9))) da_nil)))))))) (dss_one (ds_ret de_bl)) dss_nil))))))))))))
    (dss_one (ds_ret de_bl))))))) hw
end
end K18
set_option maxHeartbeats 4000000
namespace K18
open PySem PySem.Spec L2 DL
section
variable {P : Program} {w : World} {K : PySem.W.Frag} {mg : Str → Option Value} {base : Heap} {A : Nat → Nat}
theorem same_none (T : Txt K mg A) : CalD P w K mg base 0 "_law_same" (toSp (BS K) Value.ref [] 2 (pureSd 2 fun _ _ => False)) [] := by
  obtain ⟨f, fd, F, hm⟩ := T.D_l_same
  have no : ∀ vs H Q E, ¬ toSp (BS K) Value.ref [] 2 (pureSd 2 fun _ _ => False) vs H Q E := fun vs H Q E h => by
    obtain ⟨_, G, cs, Qr, Qx, _, _, _, _, ⟨ds, _, z⟩, _⟩ := h
    exact z
  exact ⟨f, fd, ["_law_found", "_law_due_here"], [], ⟨fun vs H Q E h => (no vs H Q E h).elim, fun A outer s H args us vs Q E hr e0 hb r h => (no vs H Q E h).elim⟩, hm, F.kp, F.bindsN (fun _ _ _ _ _ _ us hl => match us, hl with | [_, _], _ => rfl), .nil⟩
theorem same_n (T : Txt K mg A) : ∀ n, CalD P w K mg base (n + 1) "_law_same" (toSp (BS K) Value.ref [] 2 (pureSd 2 (g_same n))) []
  | 0 => ok_l_same T (same_none T) hw_l_same0
  | n + 1 => ok_l_same T (same_n T n) (hw_l_same n)
theorem same_all (T : Txt K mg A) : CalD P w K mg base 9 "_law_same" (toSp (BS K) Value.ref [] 2 (pureSd 2 g_l_same)) [] := same_n T 8
theorem law_ok (T : Txt K mg A) {f : Addr} {fd : FuncData} (F : FunD K "law" "law" (defArgs (topS 48)) (defBody (topS 48)) (defScope (topS 48)) [] [] f fd) : FnOk P w K mg base (L2.CX P w) 10 f fd ["_law_script"] (toSp (BS K) Value.ref [0] 1 (sd_law A)) := by
  have G_l_ream := ok_l_ream (P := P) (w := w) (base := base) T  hw_l_ream
  have G_need_text := ok_need_text (P := P) (w := w) (base := base) T  hw_need_text
  have G_is_whole := ok_is_whole (P := P) (w := w) (base := base) T  hw_is_whole
  have G_is_page := ok_is_page (P := P) (w := w) (base := base) T G_is_whole hw_is_page
  have G_is_span := ok_is_span (P := P) (w := w) (base := base) T G_is_page hw_is_span
  have G_is_diary := ok_is_diary (P := P) (w := w) (base := base) T G_is_span hw_is_diary
  have G_are_diaries := ok_are_diaries (P := P) (w := w) (base := base) T G_is_diary hw_are_diaries
  have G_number_in := ok_number_in (P := P) (w := w) (base := base) T  hw_number_in
  have G_span_in := ok_span_in (P := P) (w := w) (base := base) T G_number_in hw_span_in
  have G_read_diaries := ok_read_diaries (P := P) (w := w) (base := base) T G_need_text G_span_in G_are_diaries hw_read_diaries
  have G_l_word := ok_l_word (P := P) (w := w) (base := base) T  hw_l_word
  have G_l_told := ok_l_told (P := P) (w := w) (base := base) T G_read_diaries G_l_word hw_l_told
  have G_l_leaf := ok_l_leaf (P := P) (w := w) (base := base) T  hw_l_leaf
  have G_l_laid := ok_l_laid (P := P) (w := w) (base := base) T G_l_leaf hw_l_laid
  have G_l_crooked := ok_l_crooked (P := P) (w := w) (base := base) T G_l_leaf hw_l_crooked
  have G_l_tomes := ok_l_tomes (P := P) (w := w) (base := base) T G_l_leaf hw_l_tomes
  have G_l_number := ok_l_number (P := P) (w := w) (base := base) T  hw_l_number
  have G_l_row_of := ok_l_row_of (P := P) (w := w) (base := base) T G_l_number hw_l_row_of
  have G_l_due := ok_l_due (P := P) (w := w) (base := base) T G_l_row_of hw_l_due
  have G_l_is_long := ok_l_is_long (P := P) (w := w) (base := base) T  hw_l_is_long
  have G_l_same := same_all T (P := P) (w := w) (base := base)
  exact fn_law T G_l_told G_l_ream G_l_laid G_l_tomes G_l_crooked G_l_due G_l_is_long G_l_same hw_law F
end
end K18
set_option maxHeartbeats 4000000
set_option maxHeartbeats 0
namespace K18
open PySem PySem.Spec L2 DL
def clss : List Str := ["MarkError", "NoStand", "NoMarks", "NoReading", "NoLater", "NoPage", "NoCounts", "NoNumber", "NoStory", "TooMany", "NoLot", "NoDiaries", "NoRow", "NoName", "Taken", "NoReader", "Nothing", "NoText", "NoHistory"]
def AA (K : PySem.W.Frag) (i : Nat) : Nat := He.ga K (clss.getD i "")
def fa : List He.Fa := [.free "ValueError", .free "abs", .free "all", .free "bool", .free "enumerate", .free "int", .free "isinstance", .free "len", .free "list", .free "max", .free "min", .free "range", .free "str", .free "tuple", .free "zip", .int "MOST_MARKS" 12, .str "FIGURES" "0123456789", .int "MOST_FIGURES" 1000, .str "READERS" "abcdefghijkl", .glo "MarkError", .glo "NoStand", .glo "NoMarks", .glo "NoReading", .glo "NoLater", .glo "NoPage", .glo "NoCounts", .glo "NoNumber", .glo "NoStory", .glo "TooMany", .glo "NoLot", .glo "NoDiaries", .glo "NoRow", .glo "NoName", .glo "Taken", .glo "NoReader", .glo "Nothing", .glo "NoText", .glo "NoHistory", .exc "NoText", .glo "_law_ream", .glo "need_text", .glo "is_whole", .glo "is_page", .glo "is_span", .glo "is_diary", .glo "are_diaries", .glo "number_in", .glo "span_in", .glo "read_diaries", .glo "_law_word", .glo "_law_told", .glo "_law_leaf", .glo "_law_laid", .glo "_law_crooked", .glo "_law_tomes", .glo "_law_number", .glo "_law_row_of", .glo "_law_due", .glo "_law_is_long", .glo "_law_same", .glo "law"]
def exs : List XF := [.exi 17, .exm 17 0 true, .one 17 6 false, .one 17 11 false, .one 17 18 false, .one 17 2 false, .one 17 3 false, .one 17 1 false, .one 17 17 true, .oneT 17 "ValueError" true, .tup 17 [4, 10, 13, 7, 5, 15, 12, 8] false, .tup 17 [16, 14, 9] false]
def fns : List He.DefD := [⟨("_law_ream", none), "_law_ream", "_law_ream", defArgs (topS 36), defBody (topS 36), defScope (topS 36), [], []⟩,
  ⟨("need_text", none), "need_text", "need_text", defArgs (topS 32), defBody (topS 32), defScope (topS 32), [], []⟩,
  ⟨("is_whole", none), "is_whole", "is_whole", defArgs (topS 22), defBody (topS 22), defScope (topS 22), [.non], []⟩,
  ⟨("is_page", none), "is_page", "is_page", defArgs (topS 23), defBody (topS 23), defScope (topS 23), [], []⟩,
  ⟨("is_span", none), "is_span", "is_span", defArgs (topS 24), defBody (topS 24), defScope (topS 24), [], []⟩,
  ⟨("is_diary", none), "is_diary", "is_diary", defArgs (topS 25), defBody (topS 25), defScope (topS 25), [], []⟩,
  ⟨("are_diaries", none), "are_diaries", "are_diaries", defArgs (topS 26), defBody (topS 26), defScope (topS 26), [], []⟩,
  ⟨("number_in", none), "number_in", "number_in", defArgs (topS 31), defBody (topS 31), defScope (topS 31), [], []⟩,
  ⟨("span_in", none), "span_in", "span_in", defArgs (topS 33), defBody (topS 33), defScope (topS 33), [], []⟩,
  ⟨("read_diaries", none), "read_diaries", "read_diaries", defArgs (topS 34), defBody (topS 34), defScope (topS 34), [], []⟩,
  ⟨("_law_word", none), "_law_word", "_law_word", defArgs (topS 42), defBody (topS 42), defScope (topS 42), [], []⟩,
  ⟨("_law_told", none), "_law_told", "_law_told", defArgs (topS 46), defBody (topS 46), defScope (topS 46), [], []⟩,
  ⟨("_law_leaf", none), "_law_leaf", "_law_leaf", defArgs (topS 37), defBody (topS 37), defScope (topS 37), [], []⟩,
  ⟨("_law_laid", none), "_law_laid", "_law_laid", defArgs (topS 47), defBody (topS 47), defScope (topS 47), [], []⟩,
  ⟨("_law_crooked", none), "_law_crooked", "_law_crooked", defArgs (topS 40), defBody (topS 40), defScope (topS 40), [], []⟩,
  ⟨("_law_tomes", none), "_law_tomes", "_law_tomes", defArgs (topS 38), defBody (topS 38), defScope (topS 38), [], []⟩,
  ⟨("_law_number", none), "_law_number", "_law_number", defArgs (topS 39), defBody (topS 39), defScope (topS 39), [], []⟩,
  ⟨("_law_row_of", none), "_law_row_of", "_law_row_of", defArgs (topS 44), defBody (topS 44), defScope (topS 44), [], []⟩,
  ⟨("_law_due", none), "_law_due", "_law_due", defArgs (topS 45), defBody (topS 45), defScope (topS 45), [], []⟩,
  ⟨("_law_is_long", none), "_law_is_long", "_law_is_long", defArgs (topS 41), defBody (topS 41), defScope (topS 41), [], []⟩,
  ⟨("_law_same", none), "_law_same", "_law_same", defArgs (topS 43), defBody (topS 43), defScope (topS 43), [], []⟩,
  ⟨("law", none), "law", "law", defArgs (topS 48), defBody (topS 48), defScope (topS 48), [], []⟩]
theorem txt {K : PySem.W.Frag} {h : Heap} {mg : Str → Option Value} {w : World} (KX : K.In h) (G : h.Ns mainGlobals mg) (c : SaysE AA fa fns exs w h K) : Txt K mg (AA K) where
  n_ValueError := He.free_ok KX G (c.t.d.fact 0 rfl)
  n_abs := He.free_ok KX G (c.t.d.fact 1 rfl)
  n_all := He.free_ok KX G (c.t.d.fact 2 rfl)
  n_bool := He.free_ok KX G (c.t.d.fact 3 rfl)
  n_enumerate := He.free_ok KX G (c.t.d.fact 4 rfl)
  n_int := He.free_ok KX G (c.t.d.fact 5 rfl)
  n_isinstance := He.free_ok KX G (c.t.d.fact 6 rfl)
  n_len := He.free_ok KX G (c.t.d.fact 7 rfl)
  n_list := He.free_ok KX G (c.t.d.fact 8 rfl)
  n_max := He.free_ok KX G (c.t.d.fact 9 rfl)
  n_min := He.free_ok KX G (c.t.d.fact 10 rfl)
  n_range := He.free_ok KX G (c.t.d.fact 11 rfl)
  n_str := He.free_ok KX G (c.t.d.fact 12 rfl)
  n_tuple := He.free_ok KX G (c.t.d.fact 13 rfl)
  n_zip := He.free_ok KX G (c.t.d.fact 14 rfl)
  v_MOST_MARKS := (by obtain ⟨t, h⟩ := He.int_ok KX G (c.t.d.fact 15 rfl); exact ⟨_, h, t, rfl⟩)
  v_FIGURES := (by obtain ⟨t, h⟩ := He.str_ok KX G (c.t.d.fact 16 rfl); exact ⟨_, h, t, rfl⟩)
  v_MOST_FIGURES := (by obtain ⟨t, h⟩ := He.int_ok KX G (c.t.d.fact 17 rfl); exact ⟨_, h, t, rfl⟩)
  v_READERS := (by obtain ⟨t, h⟩ := He.str_ok KX G (c.t.d.fact 18 rfl); exact ⟨_, h, t, rfl⟩)
  c_MarkError := He.glo_ok KX G (c.t.d.fact 19 rfl)
  c_NoStand := He.glo_ok KX G (c.t.d.fact 20 rfl)
  c_NoMarks := He.glo_ok KX G (c.t.d.fact 21 rfl)
  c_NoReading := He.glo_ok KX G (c.t.d.fact 22 rfl)
  c_NoLater := He.glo_ok KX G (c.t.d.fact 23 rfl)
  c_NoPage := He.glo_ok KX G (c.t.d.fact 24 rfl)
  c_NoCounts := He.glo_ok KX G (c.t.d.fact 25 rfl)
  c_NoNumber := He.glo_ok KX G (c.t.d.fact 26 rfl)
  c_NoStory := He.glo_ok KX G (c.t.d.fact 27 rfl)
  c_TooMany := He.glo_ok KX G (c.t.d.fact 28 rfl)
  c_NoLot := He.glo_ok KX G (c.t.d.fact 29 rfl)
  c_NoDiaries := He.glo_ok KX G (c.t.d.fact 30 rfl)
  c_NoRow := He.glo_ok KX G (c.t.d.fact 31 rfl)
  c_NoName := He.glo_ok KX G (c.t.d.fact 32 rfl)
  c_Taken := He.glo_ok KX G (c.t.d.fact 33 rfl)
  c_NoReader := He.glo_ok KX G (c.t.d.fact 34 rfl)
  c_Nothing := He.glo_ok KX G (c.t.d.fact 35 rfl)
  c_NoText := He.glo_ok KX G (c.t.d.fact 36 rfl)
  c_NoHistory := He.glo_ok KX G (c.t.d.fact 37 rfl)
  q_NoText := (He.exc_ok (c.t.d.fact 38 rfl)).1
  ck_NoText := (He.exc_ok (c.t.d.fact 38 rfl)).2.1
  r1_NoText := (He.exc_ok (c.t.d.fact 38 rfl)).2.2.1
  r2_NoText := (He.exc_ok (c.t.d.fact 38 rfl)).2.2.2
  exm_MarkError := (tI_of fun i b h => by simp at h; rcases h with ⟨rfl, rfl⟩ <;> first | exact XF.ok_ (c.ex 1 rfl))
  isx_NoCounts := (tI_of fun i b h => by simp at h; rcases h with ⟨rfl, rfl⟩ <;> first | exact ⟨XF.exi_ok (c.ex 0 rfl), XF.ok_ (c.ex 2 rfl)⟩)
  isx_NoDiaries := (tI_of fun i b h => by simp at h; rcases h with ⟨rfl, rfl⟩ <;> first | exact ⟨XF.exi_ok (c.ex 0 rfl), XF.ok_ (c.ex 3 rfl)⟩)
  isx_NoHistory := (tI_of fun i b h => by simp at h; rcases h with ⟨rfl, rfl⟩ <;> first | exact ⟨XF.exi_ok (c.ex 0 rfl), XF.ok_ (c.ex 4 rfl)⟩)
  isx_NoMarks := (tI_of fun i b h => by simp at h; rcases h with ⟨rfl, rfl⟩ <;> first | exact ⟨XF.exi_ok (c.ex 0 rfl), XF.ok_ (c.ex 5 rfl)⟩)
  isx_NoReading := (tI_of fun i b h => by simp at h; rcases h with ⟨rfl, rfl⟩ <;> first | exact ⟨XF.exi_ok (c.ex 0 rfl), XF.ok_ (c.ex 6 rfl)⟩)
  isx_NoStand := (tI_of fun i b h => by simp at h; rcases h with ⟨rfl, rfl⟩ <;> first | exact ⟨XF.exi_ok (c.ex 0 rfl), XF.ok_ (c.ex 7 rfl)⟩)
  isx_NoText := (tI_of fun i b h => by simp at h; rcases h with ⟨rfl, rfl⟩ <;> first | exact ⟨XF.exi_ok (c.ex 0 rfl), XF.ok_ (c.ex 8 rfl)⟩)
  isx_ValueError := (tI_of fun i b h => by simp at h; rcases h with ⟨rfl, rfl⟩ <;> first | exact ⟨XF.exi_ok (c.ex 0 rfl), XF.ok_ (c.ex 9 rfl)⟩)
  isx_NoLater_NoLot_NoName_NoNumber_NoPage_NoReader_NoRow_NoStory := (tI_of fun i b h => by simp at h; rcases h with ⟨rfl, rfl⟩ <;> first | exact ⟨XF.exi_ok (c.ex 0 rfl), XF.ok_ (c.ex 10 rfl)⟩)
  isx_Nothing_Taken_TooMany := (tI_of fun i b h => by simp at h; rcases h with ⟨rfl, rfl⟩ <;> first | exact ⟨XF.exi_ok (c.ex 0 rfl), XF.ok_ (c.ex 11 rfl)⟩)
  D_l_ream := (by obtain ⟨fd, F⟩ := c.t.d.def_ 0 rfl; exact ⟨_, fd, F, He.glo_ok KX G (c.t.d.fact 39 rfl)⟩)
  D_need_text := (by obtain ⟨fd, F⟩ := c.t.d.def_ 1 rfl; exact ⟨_, fd, F, He.glo_ok KX G (c.t.d.fact 40 rfl)⟩)
  D_is_whole := (by obtain ⟨fd, F⟩ := c.t.d.def_ 2 rfl; exact ⟨_, fd, F, He.glo_ok KX G (c.t.d.fact 41 rfl)⟩)
  D_is_page := (by obtain ⟨fd, F⟩ := c.t.d.def_ 3 rfl; exact ⟨_, fd, F, He.glo_ok KX G (c.t.d.fact 42 rfl)⟩)
  D_is_span := (by obtain ⟨fd, F⟩ := c.t.d.def_ 4 rfl; exact ⟨_, fd, F, He.glo_ok KX G (c.t.d.fact 43 rfl)⟩)
  D_is_diary := (by obtain ⟨fd, F⟩ := c.t.d.def_ 5 rfl; exact ⟨_, fd, F, He.glo_ok KX G (c.t.d.fact 44 rfl)⟩)
  D_are_diaries := (by obtain ⟨fd, F⟩ := c.t.d.def_ 6 rfl; exact ⟨_, fd, F, He.glo_ok KX G (c.t.d.fact 45 rfl)⟩)
  D_number_in := (by obtain ⟨fd, F⟩ := c.t.d.def_ 7 rfl; exact ⟨_, fd, F, He.glo_ok KX G (c.t.d.fact 46 rfl)⟩)
  D_span_in := (by obtain ⟨fd, F⟩ := c.t.d.def_ 8 rfl; exact ⟨_, fd, F, He.glo_ok KX G (c.t.d.fact 47 rfl)⟩)
  D_read_diaries := (by obtain ⟨fd, F⟩ := c.t.d.def_ 9 rfl; exact ⟨_, fd, F, He.glo_ok KX G (c.t.d.fact 48 rfl)⟩)
  D_l_word := (by obtain ⟨fd, F⟩ := c.t.d.def_ 10 rfl; exact ⟨_, fd, F, He.glo_ok KX G (c.t.d.fact 49 rfl)⟩)
  D_l_told := (by obtain ⟨fd, F⟩ := c.t.d.def_ 11 rfl; exact ⟨_, fd, F, He.glo_ok KX G (c.t.d.fact 50 rfl)⟩)
  D_l_leaf := (by obtain ⟨fd, F⟩ := c.t.d.def_ 12 rfl; exact ⟨_, fd, F, He.glo_ok KX G (c.t.d.fact 51 rfl)⟩)
  D_l_laid := (by obtain ⟨fd, F⟩ := c.t.d.def_ 13 rfl; exact ⟨_, fd, F, He.glo_ok KX G (c.t.d.fact 52 rfl)⟩)
  D_l_crooked := (by obtain ⟨fd, F⟩ := c.t.d.def_ 14 rfl; exact ⟨_, fd, F, He.glo_ok KX G (c.t.d.fact 53 rfl)⟩)
  D_l_tomes := (by obtain ⟨fd, F⟩ := c.t.d.def_ 15 rfl; exact ⟨_, fd, F, He.glo_ok KX G (c.t.d.fact 54 rfl)⟩)
  D_l_number := (by obtain ⟨fd, F⟩ := c.t.d.def_ 16 rfl; exact ⟨_, fd, F, He.glo_ok KX G (c.t.d.fact 55 rfl)⟩)
  D_l_row_of := (by obtain ⟨fd, F⟩ := c.t.d.def_ 17 rfl; exact ⟨_, fd, F, He.glo_ok KX G (c.t.d.fact 56 rfl)⟩)
  D_l_due := (by obtain ⟨fd, F⟩ := c.t.d.def_ 18 rfl; exact ⟨_, fd, F, He.glo_ok KX G (c.t.d.fact 57 rfl)⟩)
  D_l_is_long := (by obtain ⟨fd, F⟩ := c.t.d.def_ 19 rfl; exact ⟨_, fd, F, He.glo_ok KX G (c.t.d.fact 58 rfl)⟩)
  D_l_same := (by obtain ⟨fd, F⟩ := c.t.d.def_ 20 rfl; exact ⟨_, fd, F, He.glo_ok KX G (c.t.d.fact 59 rfl)⟩)
  D_law := (by obtain ⟨fd, F⟩ := c.t.d.def_ 21 rfl; exact ⟨_, fd, F, He.glo_ok KX G (c.t.d.fact 60 rfl)⟩)
def loose0 : List PySem.Str := ["MarkError", "NoStand", "NoMarks", "NoReading", "NoLater", "NoPage", "NoCounts", "NoNumber", "NoStory", "TooMany", "NoLot", "NoDiaries", "NoRow", "NoName", "Taken", "NoReader", "Nothing", "NoText", "NoHistory", "MOST_MARKS", "is_whole", "is_page", "is_span", "is_diary", "are_diaries", "FIGURES", "MOST_FIGURES", "READERS", "number_in", "need_text"]
def loose1 : List PySem.Str := ["span_in", "read_diaries", "_law_ream", "_law_leaf", "_law_tomes", "_law_number", "_law_crooked", "_law_is_long", "_law_word", "_law_same", "_law_row_of", "_law_due", "_law_told", "_law_laid"]
def loose : List PySem.Str := loose0 ++ loose1
abbrev R : PySem.W.OpenRow := PySem.W.OpenLaw.row PySem.Challenge.rw_plainmarks_k18_texts_of_no_diaries
abbrev hk : PySem.W.Hook := hookE 5 AA fa fns exs
def ob (s : PySem.W.SharedT) : He.AlX := obsE 5 AA fa fns exs (HandSHeadRun.getT s)
theorem ob_eq (s : PySem.W.SharedT) : ob s = hk.obs s.abs := He.obsX_eq (HandSHeadRun.getT_eq s)
theorem run (w : World) : HandSHeadRun.RunEq R (PySem.W.view R.prog [48]) hk ob 12000 loose w := by
  intro os
  kernel_rfl
end K18
set_option maxHeartbeats 4000000
set_option maxHeartbeats 0
open PySem PySem.W PySem.Calls PyProof.Rows
theorem PySem.Challenge.cw_plainmarks_k18_texts_of_no_diaries_holds : PySem.Challenge.rw_plainmarks_k18_texts_of_no_diaries.Holds := by
  w_on; o_law
  refine HandSHeadRun.head_any (r := K18.R) (q := view K18.R.prog [48]) (H := K18.hk) (ob := K18.ob) (M := 12000) (loose := K18.loose) (d := HandSHeadRun.topDef K18.R.prog 48) (kwd := []) K18.ob_eq
    (by kernel_rfl) (fun s => by kernel_rfl) K18.run (by kernel_rfl) (by kernel_rfl) (by kernel_rfl) (by rfl) (by first | assumption | decide +kernel) (by decide +kernel) ⟨rfl, rfl, rfl, rfl, rfl, by decide +kernel⟩ ?hw ?hc
  case hw => w_witness2
  case hc =>
    refine LamX.walk_ofTsE (l := PySem.Challenge.rw_plainmarks_k18_texts_of_no_diaries) (n := 63) (k := 10) (x := "_law_script") (CX := fun w => L2.CX (PySem.Challenge.rw_plainmarks_k18_texts_of_no_diaries).prog w) rfl (by decide) (by kernel_rfl) ⟨rfl, by decide, by decide⟩ ?F ?E
    case F =>
      intro w mg fa h Y G hmg0
      obtain ⟨K, KX, c⟩ := Y
      have hmg : mg ("law" : PySem.Str) = some (.ref fa) := by
        have e : (HandSHeadRun.topDef K18.R.prog 48).name = ("law" : PySem.Str) := by kernel_rfl
        rw [← e]
        exact hmg0
      have T := K18.txt KX G c
      obtain ⟨f, fd, F, hm⟩ := T.D_law
      have e := hmg.symm.trans hm
      cases e
      refine ⟨K, KX, fd, [], DL.toSp (DL.BS K) Value.ref [0] 1 (K18.sd_law (K18.AA K)), (fun p hp => by cases hp), (fun p hp => by cases hp), (fun p hp => by cases hp), fun s v => ?_, fun H a ns hl hb _ hS => ?_, fun base _ _ _ => K18.law_ok T F⟩
      · exact L2.FunD.bindsA (ps := ["_law_script"]) F (fun _ _ _ _ _ _ us hl => match us, hl with | [_], _ => rfl) s [v] rfl
      · exact DL.law_end hS ⟨ns, rfl, hl, hb, fun _ => rfl⟩
    case E =>
      intro w H s e s' z
      obtain ⟨_, _, _, _, _, _, _, _, _, _, _, _, z⟩ := z
      exact z
