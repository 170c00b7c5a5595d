import PyProof.Rows.All
import Wide.All
import OpenK.AllK
import Wide.FinOn
import HandS.ForMost
import HandS.Exc
import HandS.TryOnly
import HandS.ExcOwn
import HandS.WordsExc
import HandS.CallSlots
import HandS.TryMany
import HandS.IsInst
import HandS.Wide
import HandS.Flow
import HandS.ExcIs
import HandS.SortRule
import HandS.Conv
import PySem.Challenge.RW_beamtable_k26_joined_scaled
set_option Elab.async false
set_option linter.all false
set_option maxRecDepth 100000
/-! PydA: values as trees (Dv), how a tree stands in the abstract heap (Rep), roots. -/
namespace Pyd
open PySem PySem.Spec PyProof.Rows L2

/-- kinds of dicts: keys are ints and texts; flat tuples of such -/
inductive DK where | k | t
  deriving DecidableEq

/-- a value as a tree; the Bool of a list, dict, instance tells whether it is the asker's own (may be changed); that of a tuple whether it may be one of the module's -/
inductive Dv where
  | non | bl (b : Bool) | int (i : Int) | str (s : Str)
  | tup (g : Bool) (ds : List Dv)
  | lst (o : Bool) (ds : List Dv)
  | dct (o : Bool) (k : DK) (ks : List Dv) (ds : List Dv)
  | ins (o : Bool) (c : Str) (fs : List Str) (ds : List Dv)
  /-- the script -/
  | scr (ns : List Int)
  /-- an exception that was caught, of the class c, bearing nothing -/
  | exc (c : Str)

def keyK : Dv → Option Key
  | .int i => some (.inl i)
  | .str s => some (.inr s)
  | _ => none
def keysK : List Dv → Option (List Key)
  | [] => some []
  | d :: ds => match keyK d, keysK ds with
    | some k, some ks => some (k :: ks)
    | _, _ => none
def keyT : Dv → Option (List Key)
  | .tup false ds => keysK ds
  | _ => none
def keysT : List Dv → Option (List (List Key))
  | [] => some []
  | d :: ds => match keyT d, keysT ds with
    | some k, some ks => some (k :: ks)
    | _, _ => none

/-- an exception that was caught, at a -/
def ExV (cls : Value) (d : Option Addr) (a : Addr) : HO := .ext fun h => ∃ (oe : Obj) (vs : Array Value), h.get? a = some oe ∧ Zc cls d oe ∧ oe.data = .fields vs
theorem exV_ok {P : Program} {w : World} {H : Hp} {h : Heap} {a : Addr} {cls : Value} {d : Option Addr} {oe : Obj} {vs : Array Value} (e : h.get? a = some oe) (z : Zc cls d oe) (dd : oe.data = .fields vs) : ObjOk P w H h a (ExV cls d a) :=
  ⟨⟨oe, vs, e, z, dd⟩, ⟨oe, e⟩, fun _ _ ⟨o, v, q, r⟩ k => ⟨o, v, k o q, r⟩⟩
def DctO : DK → List Dv → List V → HO → Prop
  | .k, ks, vs, o => ∃ kk, keysK ks = some kk ∧ kk.length = vs.length ∧ o = .dK (kk.zip vs)
  | .t, ks, vs, o => ∃ kk, keysT ks = some kk ∧ kk.length = vs.length ∧ o = .dT (kk.zip vs)

def TupAt (K : PySem.W.Frag) (F : Hp) : Bool → Addr → List V → Prop
  | true, a, vs => SqT K F a vs
  | false, a, vs => F a = some (.tup vs)
section
variable (K : PySem.W.Frag) (mg : Str → Option Value)
mutual
def Rep (F H : Hp) : Dv → V → List Addr → Prop
  | .non, v, A => v = .non ∧ A = []
  | .bl b, v, A => v = .bl b ∧ A = []
  | .int i, v, A => v = .int i ∧ A = []
  | .str s, v, A => v = .str s ∧ A = []
  | .tup g ds, v, A => ∃ a vs, v = .ref a ∧ TupAt K F g a vs ∧ Reps F H ds vs A
  | .lst o ds, v, A => ∃ a vs B, v = .ref a ∧ Reps F H ds vs B ∧ (if o = true then H a = some (.lst vs) ∧ A = a :: B else F a = some (.lst vs) ∧ A = B)
  | .dct o k ks ds, v, A => ∃ a vs B u, v = .ref a ∧ Reps F H ds vs B ∧ DctO k ks vs u ∧ (if o = true then H a = some u ∧ A = a :: B else F a = some u ∧ A = B)
  | .ins o c fs ds, v, A => ∃ a C dx vs B, v = .ref a ∧ mg c = some (.ref C) ∧ fs.length = vs.length ∧ Reps F H ds vs B ∧
      (if o = true then H a = some (.ins C dx (fs.zip vs)) ∧ A = a :: B else F a = some (.ins C dx (fs.zip vs)) ∧ A = B)
  | .scr ns, v, A => ∃ a, v = .ref a ∧ SqL K F a (ns.map V.int) ∧ A = []
  | .exc c, v, A => ∃ a C, v = .ref a ∧ mg c = some (.ref C) ∧ F a = some (ExV (.ref C) none a) ∧ A = []
def Reps (F H : Hp) : List Dv → List V → List Addr → Prop
  | [], vs, A => vs = [] ∧ A = []
  | d :: ds, vs, A => ∃ v vr A1 A2, vs = v :: vr ∧ A = A1 ++ A2 ∧ Rep F H d v A1 ∧ Reps F H ds vr A2
end
end

mutual
/-- nothing of it may be changed -/
def fzn : Dv → Bool
  | .tup _ ds => fzns ds
  | .lst o ds => !o && fzns ds
  | .dct o _ _ ds => !o && fzns ds
  | .ins o _ _ ds => !o && fzns ds
  | _ => true
def fzns : List Dv → Bool
  | [] => true
  | d :: ds => fzn d && fzns ds
end
mutual
def fz : Dv → Dv
  | .tup g ds => .tup g (fzs ds)
  | .lst _ ds => .lst false (fzs ds)
  | .dct _ k ks ds => .dct false k ks (fzs ds)
  | .ins _ c fs ds => .ins false c fs (fzs ds)
  | .non => .non
  | .bl b => .bl b
  | .int i => .int i
  | .str s => .str s
  | .scr ns => .scr ns
  | .exc c => .exc c
def fzs : List Dv → List Dv
  | [] => []
  | d :: ds => fz d :: fzs ds
end

mutual
theorem fz_id : ∀ (d : Dv), fzn d = true → fz d = d
  | .scr _, _ => rfl
  | .exc _, _ => rfl
  | .non, _ => rfl
  | .bl _, _ => rfl
  | .int _, _ => rfl
  | .str _, _ => rfl
  | .tup g ds, h => by
    have h' : fzns ds = true := h
    show Dv.tup g (fzs ds) = _
    rw [fzs_id ds h']
  | .lst o ds, h => by
    have h' : (!o && fzns ds) = true := h
    rw [Bool.and_eq_true] at h'
    show Dv.lst false (fzs ds) = _
    rw [fzs_id ds h'.2]
    cases o
    · rfl
    · exact absurd h'.1 (by decide)
  | .dct o k ks ds, h => by
    have h' : (!o && fzns ds) = true := h
    rw [Bool.and_eq_true] at h'
    show Dv.dct false k ks (fzs ds) = _
    rw [fzs_id ds h'.2]
    cases o
    · rfl
    · exact absurd h'.1 (by decide)
  | .ins o c fs ds, h => by
    have h' : (!o && fzns ds) = true := h
    rw [Bool.and_eq_true] at h'
    show Dv.ins false c fs (fzs ds) = _
    rw [fzs_id ds h'.2]
    cases o
    · rfl
    · exact absurd h'.1 (by decide)
theorem fzs_id : ∀ (ds : List Dv), fzns ds = true → fzs ds = ds
  | [], _ => rfl
  | d :: ds, h => by
    have h' : (fzn d && fzns ds) = true := h
    rw [Bool.and_eq_true] at h'
    show fz d :: fzs ds = _
    rw [fz_id d h'.1, fzs_id ds h'.2]
end
mutual
theorem fzn_fz : ∀ (d : Dv), fzn (fz d) = true
  | .scr _ => rfl
  | .exc _ => rfl
  | .non => rfl
  | .bl _ => rfl
  | .int _ => rfl
  | .str _ => rfl
  | .tup _ ds => fzns_fzs ds
  | .lst _ ds => by
    show (!false && fzns (fzs ds)) = true
    rw [fzns_fzs ds]; rfl
  | .dct _ _ _ ds => by
    show (!false && fzns (fzs ds)) = true
    rw [fzns_fzs ds]; rfl
  | .ins _ _ _ ds => by
    show (!false && fzns (fzs ds)) = true
    rw [fzns_fzs ds]; rfl
theorem fzns_fzs : ∀ (ds : List Dv), fzns (fzs ds) = true
  | [] => rfl
  | d :: ds => by
    show (fzn (fz d) && fzns (fzs ds)) = true
    rw [fzn_fz d, fzns_fzs ds]; rfl
end
theorem fzns_mem : ∀ {ds : List Dv} {d : Dv}, fzns ds = true → d ∈ ds → fzn d = true
  | e :: ds, d, h, hm => by
    have h' : (fzn e && fzns ds) = true := h
    rw [Bool.and_eq_true] at h'
    cases hm with
    | head => exact h'.1
    | tail _ hm => exact fzns_mem h'.2 hm
theorem fzns_append : ∀ (xs ys : List Dv), fzns (xs ++ ys) = (fzns xs && fzns ys)
  | [], ys => by simp [fzns]
  | x :: xs, ys => by
    show (fzn x && fzns (xs ++ ys)) = (fzn x && fzns xs && fzns ys)
    rw [fzns_append xs ys, Bool.and_assoc]

/-- H' has all of H -/
def Sub (H H' : Hp) : Prop := ∀ a o, H a = some o → H' a = some o
theorem Sub.refl (H : Hp) : Sub H H := fun _ _ h => h
theorem Sub.trans {H H1 H2 : Hp} (a : Sub H H1) (b : Sub H1 H2) : Sub H H2 := fun c o h => b c o (a c o h)
theorem Sub.sqT {K : PySem.W.Frag} {H H' : Hp} {a : Addr} {xs : List V} (e : Sub H H') (h : SqT K H a xs) : SqT K H' a xs := by
  rcases h with (h | ⟨o, h⟩) | h
  · exact .inl (.inl (e _ _ h))
  · exact .inl (.inr ⟨o, e _ _ h⟩)
  · exact .inr h
theorem Sub.sqL {K : PySem.W.Frag} {H H' : Hp} {a : Addr} {xs : List V} (e : Sub H H') (h : SqL K H a xs) : SqL K H' a xs := by
  rcases h with (h | ⟨o, h⟩) | h
  · exact .inl (.inl (e _ _ h))
  · exact .inl (.inr ⟨o, e _ _ h⟩)
  · exact .inr h
theorem TupAt.sub {K : PySem.W.Frag} {H H' : Hp} {g : Bool} {a : Addr} {xs : List V} (h : TupAt K H g a xs) (e : Sub H H') : TupAt K H' g a xs := by
  cases g with
  | true => exact e.sqT h
  | false => exact e _ _ h
theorem TupAt.sq {K : PySem.W.Frag} {H : Hp} {g : Bool} {a : Addr} {xs : List V} (h : TupAt K H g a xs) : SqT K H a xs := by
  cases g with
  | true => exact h
  | false => exact .inl (.inl h)
theorem Sub.new {H : Hp} {p : Addr} {o : HO} (h : H p = none) : Sub H (upd H p o) := fun a u e => by
  rw [upd_ne (ne_of_none e h)]
  exact e

/-- a dict that a loop walks is locked meanwhile -/
def IsDct : HO → Prop
  | .dK _ => True
  | .dT _ => True
  | _ => False
/-- what is fixed (F) stands in the heap H -/
def Fix (F H : Hp) : Prop := ∀ a o, F a = some o → H a = some o ∨ (IsDct o ∧ ∃ ob, H a = some (.frz ob o))
theorem Fix.refl (H : Hp) : Fix H H := fun _ _ h => .inl h
theorem Fix.none {F H : Hp} (x : Fix F H) {a : Addr} (h : H a = none) : F a = none := by
  cases q : F a with
  | none => rfl
  | some o =>
    rcases x a o q with z | ⟨_, ob, z⟩
    · rw [h] at z; cases z
    · rw [h] at z; cases z
theorem Fix.sqT {K : PySem.W.Frag} {F H : Hp} {a : Addr} {xs : List V} (e : Fix F H) (h : SqT K F a xs) : SqT K H a xs := by
  rcases h with (h | ⟨o, h⟩) | h
  · rcases e _ _ h with z | ⟨z, _⟩
    · exact .inl (.inl z)
    · exact z.elim
  · rcases e _ _ h with z | ⟨z, _⟩
    · exact .inl (.inr ⟨o, z⟩)
    · exact z.elim
  · exact .inr h
theorem Fix.sqL {K : PySem.W.Frag} {F H : Hp} {a : Addr} {xs : List V} (e : Fix F H) (h : SqL K F a xs) : SqL K H a xs := by
  rcases h with (h | ⟨o, h⟩) | h
  · rcases e _ _ h with z | ⟨z, _⟩
    · exact .inl (.inl z)
    · exact z.elim
  · rcases e _ _ h with z | ⟨z, _⟩
    · exact .inl (.inr ⟨o, z⟩)
    · exact z.elim
  · exact .inr h
/-- a new thing, fixed at once -/
theorem Fix.new {F H : Hp} (x : Fix F H) {p : Addr} {o : HO} (h : H p = Option.none) : Fix (upd F p o) (upd H p o) := fun a u e => by
  by_cases q : a = p
  · subst q
    rw [upd_same] at e ⊢
    exact .inl e
  · rw [upd_ne q] at e ⊢
    exact x a u e
/-- a thing that is not fixed is written, or new -/
theorem Fix.own {F H : Hp} (x : Fix F H) {p : Addr} {o : HO} (h : F p = Option.none) : Fix F (upd H p o) := fun a u e => by
  have q : a ≠ p := fun z => by rw [z, h] at e; cases e
  rw [upd_ne q]
  exact x a u e

section
variable {K : PySem.W.Frag} {mg : Str → Option Value}
mutual
theorem Rep.mono {F F' H H' : Hp} (s : Sub F F') : ∀ (d : Dv) {v : V} {A : List Addr}, (∀ a ∈ A, H' a = H a) → Rep K mg F H d v A → Rep K mg F' H' d v A
  | .scr ns, v, A, e, h => by
    obtain ⟨a, h1, h2, h3⟩ := h
    exact ⟨a, h1, s.sqL h2, h3⟩
  | .exc c, v, A, e, h => by
    obtain ⟨a, C, h1, h2, h3, h4⟩ := h
    exact ⟨a, C, h1, h2, s _ _ h3, h4⟩
  | .non, _, _, _, h => h
  | .bl _, _, _, _, h => h
  | .int _, _, _, _, h => h
  | .str _, _, _, _, h => h
  | .tup g ds, v, A, e, h => by
    obtain ⟨a, vs, h1, h2, h3⟩ := h
    exact ⟨a, vs, h1, h2.sub s, Reps.mono s ds e h3⟩
  | .lst o ds, v, A, e, h => by
    obtain ⟨a, vs, B, h1, h2, h3⟩ := h
    cases o with
    | true =>
      rw [if_pos rfl] at h3
      obtain ⟨h3, rfl⟩ := h3
      refine ⟨a, vs, B, h1, Reps.mono s ds (fun b hb => e b (.tail _ hb)) h2, ?_⟩
      rw [if_pos rfl]
      exact ⟨(e a (.head _)).trans h3, rfl⟩
    | false =>
      rw [if_neg Bool.false_ne_true] at h3
      obtain ⟨h3, rfl⟩ := h3
      refine ⟨a, vs, A, h1, Reps.mono s ds e h2, ?_⟩
      rw [if_neg Bool.false_ne_true]
      exact ⟨s _ _ h3, rfl⟩
  | .dct o k ks ds, v, A, e, h => by
    obtain ⟨a, vs, B, u, h1, h2, hu, h3⟩ := h
    cases o with
    | true =>
      rw [if_pos rfl] at h3
      obtain ⟨h3, rfl⟩ := h3
      refine ⟨a, vs, B, u, h1, Reps.mono s ds (fun b hb => e b (.tail _ hb)) h2, hu, ?_⟩
      rw [if_pos rfl]
      exact ⟨(e a (.head _)).trans h3, rfl⟩
    | false =>
      rw [if_neg Bool.false_ne_true] at h3
      obtain ⟨h3, rfl⟩ := h3
      refine ⟨a, vs, A, u, h1, Reps.mono s ds e h2, hu, ?_⟩
      rw [if_neg Bool.false_ne_true]
      exact ⟨s _ _ h3, rfl⟩
  | .ins o c fs ds, v, A, e, h => by
    obtain ⟨a, C, dx, vs, B, h1, hc, hl, h2, h3⟩ := h
    cases o with
    | true =>
      rw [if_pos rfl] at h3
      obtain ⟨h3, rfl⟩ := h3
      refine ⟨a, C, dx, vs, B, h1, hc, hl, Reps.mono s ds (fun b hb => e b (.tail _ hb)) h2, ?_⟩
      rw [if_pos rfl]
      exact ⟨(e a (.head _)).trans h3, rfl⟩
    | false =>
      rw [if_neg Bool.false_ne_true] at h3
      obtain ⟨h3, rfl⟩ := h3
      refine ⟨a, C, dx, vs, A, h1, hc, hl, Reps.mono s ds e h2, ?_⟩
      rw [if_neg Bool.false_ne_true]
      exact ⟨s _ _ h3, rfl⟩
theorem Reps.mono {F F' H H' : Hp} (s : Sub F F') : ∀ (ds : List Dv) {vs : List V} {A : List Addr}, (∀ a ∈ A, H' a = H a) → Reps K mg F H ds vs A → Reps K mg F' H' ds vs A
  | [], _, _, _, h => h
  | d :: ds, vs, A, e, h => by
    obtain ⟨v, vr, A1, A2, h1, rfl, h2, h3⟩ := h
    exact ⟨v, vr, A1, A2, h1, rfl, Rep.mono s d (fun a ha => e a (List.mem_append_left _ ha)) h2, Reps.mono s ds (fun a ha => e a (List.mem_append_right _ ha)) h3⟩
end
theorem Reps.len {F H : Hp} : ∀ {ds : List Dv} {vs : List V} {A : List Addr}, Reps K mg F H ds vs A → vs.length = ds.length
  | [], _, _, h => by
    obtain ⟨rfl, _⟩ := h
    rfl
  | d :: ds, vs, A, h => by
    obtain ⟨v, vr, A1, A2, rfl, _, _, h3⟩ := h
    simp [Reps.len h3]
mutual
/-- a fixed tree owns nothing -/
theorem Rep.nil {F H : Hp} : ∀ (d : Dv) {v : V} {A : List Addr}, fzn d = true → Rep K mg F H d v A → A = []
  | .scr ns, v, A, _, h => by
    obtain ⟨a, h1, h2, h3⟩ := h
    exact h3
  | .exc c, v, A, _, h => by
    obtain ⟨a, C, h1, h2, h3, h4⟩ := h
    exact h4
  | .non, _, _, _, h => h.2
  | .bl _, _, _, _, h => h.2
  | .int _, _, _, _, h => h.2
  | .str _, _, _, _, h => h.2
  | .tup g ds, v, A, z, h => by
    obtain ⟨a, vs, _, _, h3⟩ := h
    exact Reps.nil ds z h3
  | .lst o ds, v, A, z, h => by
    obtain ⟨a, vs, B, _, h2, h3⟩ := h
    have z' : (!o && fzns ds) = true := z
    rw [Bool.and_eq_true] at z'
    cases o with
    | true => exact absurd z'.1 (by decide)
    | false =>
      rw [if_neg Bool.false_ne_true] at h3
      obtain ⟨h3, rfl⟩ := h3
      exact Reps.nil ds z'.2 h2
  | .dct o k ks ds, v, A, z, h => by
    obtain ⟨a, vs, B, u, _, h2, _, h3⟩ := h
    have z' : (!o && fzns ds) = true := z
    rw [Bool.and_eq_true] at z'
    cases o with
    | true => exact absurd z'.1 (by decide)
    | false =>
      rw [if_neg Bool.false_ne_true] at h3
      obtain ⟨h3, rfl⟩ := h3
      exact Reps.nil ds z'.2 h2
  | .ins o c fs ds, v, A, z, h => by
    obtain ⟨a, C, dx, vs, B, _, _, _, h2, h3⟩ := h
    have z' : (!o && fzns ds) = true := z
    rw [Bool.and_eq_true] at z'
    cases o with
    | true => exact absurd z'.1 (by decide)
    | false =>
      rw [if_neg Bool.false_ne_true] at h3
      obtain ⟨h3, rfl⟩ := h3
      exact Reps.nil ds z'.2 h2
theorem Reps.nil {F H : Hp} : ∀ (ds : List Dv) {vs : List V} {A : List Addr}, fzns ds = true → Reps K mg F H ds vs A → A = []
  | [], _, _, _, h => h.2
  | d :: ds, vs, A, z, h => by
    obtain ⟨v, vr, A1, A2, _, rfl, h2, h3⟩ := h
    have z' : (fzn d && fzns ds) = true := z
    rw [Bool.and_eq_true] at z'
    rw [Rep.nil d z'.1 h2, Reps.nil ds z'.2 h3]
    rfl
end
mutual
/-- what a tree owns is fixed -/
theorem Rep.fix {F F' H : Hp} (s : Sub F F') : ∀ (d : Dv) {v : V} {A : List Addr}, (∀ a ∈ A, F' a = H a) → Rep K mg F H d v A → Rep K mg F' H (fz d) v []
  | .scr ns, v, A, e, h => by
    obtain ⟨a, h1, h2, h3⟩ := h
    exact ⟨a, h1, s.sqL h2, rfl⟩
  | .exc c, v, A, e, h => by
    obtain ⟨a, C, h1, h2, h3, h4⟩ := h
    exact ⟨a, C, h1, h2, s _ _ h3, rfl⟩
  | .non, _, _, _, h => ⟨h.1, rfl⟩
  | .bl _, _, _, _, h => ⟨h.1, rfl⟩
  | .int _, _, _, _, h => ⟨h.1, rfl⟩
  | .str _, _, _, _, h => ⟨h.1, rfl⟩
  | .tup g ds, v, A, e, h => by
    obtain ⟨a, vs, h1, h2, h3⟩ := h
    exact ⟨a, vs, h1, h2.sub s, Reps.fix s ds e h3⟩
  | .lst o ds, v, A, e, h => by
    obtain ⟨a, vs, B, h1, h2, h3⟩ := h
    cases o with
    | true =>
      rw [if_pos rfl] at h3
      obtain ⟨h3, rfl⟩ := h3
      refine ⟨a, vs, [], h1, Reps.fix s ds (fun b hb => e b (.tail _ hb)) h2, ?_⟩
      rw [if_neg Bool.false_ne_true]
      exact ⟨(e a (.head _)).trans h3, rfl⟩
    | false =>
      rw [if_neg Bool.false_ne_true] at h3
      obtain ⟨h3, rfl⟩ := h3
      refine ⟨a, vs, [], h1, Reps.fix s ds e h2, ?_⟩
      rw [if_neg Bool.false_ne_true]
      exact ⟨s _ _ h3, rfl⟩
  | .dct o k ks ds, v, A, e, h => by
    obtain ⟨a, vs, B, u, h1, h2, hu, h3⟩ := h
    cases o with
    | true =>
      rw [if_pos rfl] at h3
      obtain ⟨h3, rfl⟩ := h3
      refine ⟨a, vs, [], u, h1, Reps.fix s ds (fun b hb => e b (.tail _ hb)) h2, hu, ?_⟩
      rw [if_neg Bool.false_ne_true]
      exact ⟨(e a (.head _)).trans h3, rfl⟩
    | false =>
      rw [if_neg Bool.false_ne_true] at h3
      obtain ⟨h3, rfl⟩ := h3
      refine ⟨a, vs, [], u, h1, Reps.fix s ds e h2, hu, ?_⟩
      rw [if_neg Bool.false_ne_true]
      exact ⟨s _ _ h3, rfl⟩
  | .ins o c fs ds, v, A, e, h => by
    obtain ⟨a, C, dx, vs, B, h1, hc, hl, h2, h3⟩ := h
    cases o with
    | true =>
      rw [if_pos rfl] at h3
      obtain ⟨h3, rfl⟩ := h3
      refine ⟨a, C, dx, vs, [], h1, hc, hl, Reps.fix s ds (fun b hb => e b (.tail _ hb)) h2, ?_⟩
      rw [if_neg Bool.false_ne_true]
      exact ⟨(e a (.head _)).trans h3, rfl⟩
    | false =>
      rw [if_neg Bool.false_ne_true] at h3
      obtain ⟨h3, rfl⟩ := h3
      refine ⟨a, C, dx, vs, [], h1, hc, hl, Reps.fix s ds e h2, ?_⟩
      rw [if_neg Bool.false_ne_true]
      exact ⟨s _ _ h3, rfl⟩
theorem Reps.fix {F F' H : Hp} (s : Sub F F') : ∀ (ds : List Dv) {vs : List V} {A : List Addr}, (∀ a ∈ A, F' a = H a) → Reps K mg F H ds vs A → Reps K mg F' H (fzs ds) vs []
  | [], _, _, _, h => ⟨h.1, rfl⟩
  | d :: ds, vs, A, e, h => by
    obtain ⟨v, vr, A1, A2, h1, rfl, h2, h3⟩ := h
    exact ⟨v, vr, [], [], h1, rfl, Rep.fix s d (fun a ha => e a (List.mem_append_left _ ha)) h2, Reps.fix s ds (fun a ha => e a (List.mem_append_right _ ha)) h3⟩
end
end

/-- a root: a value that stands for a tree; an object that is held by itself -/
inductive Root where
  | val (v : V) (d : Dv)
  | cell (a : Addr) (o : HO)
section
variable (K : PySem.W.Frag) (mg : Str → Option Value)
def RepR (F H : Hp) : Root → List Addr → Prop
  | .val v d, A => Rep K mg F H d v A
  | .cell a o, A => H a = some o ∧ A = [a]
def RepRs (F H : Hp) : List Root → List Addr → Prop
  | [], A => A = []
  | r :: rs, A => ∃ A1 A2, A = A1 ++ A2 ∧ RepR K mg F H r A1 ∧ RepRs F H rs A2
/-- the state: fixed things F in the heap H, and roots that own what they own apart from each other -/
def Rel (F H : Hp) (rs : List Root) : Prop := Fix F H ∧ ∃ A, RepRs K mg F H rs A ∧ A.Nodup ∧ ∀ a ∈ A, F a = none ∧ ∀ xs, H a ≠ some (.tup xs)
end
section
variable {K : PySem.W.Frag} {mg : Str → Option Value} {F F' H H' : Hp} {rs rs' : List Root} {A B : List Addr}
theorem RepR.mono (s : Sub F F') {r : Root} (e : ∀ a ∈ A, H' a = H a) (h : RepR K mg F H r A) : RepR K mg F' H' r A := by
  cases r with
  | val v d => exact Rep.mono s d e h
  | cell a o =>
    obtain ⟨h1, rfl⟩ := h
    exact ⟨(e a (.head _)).trans h1, rfl⟩
theorem RepRs.mono (s : Sub F F') : ∀ {rs : List Root} {A : List Addr}, (∀ a ∈ A, H' a = H a) → RepRs K mg F H rs A → RepRs K mg F' H' rs A
  | [], _, _, h => h
  | r :: rs, A, e, h => by
    obtain ⟨A1, A2, rfl, h2, h3⟩ := h
    exact ⟨A1, A2, rfl, RepR.mono s (fun a ha => e a (List.mem_append_left _ ha)) h2, RepRs.mono s (fun a ha => e a (List.mem_append_right _ ha)) h3⟩
theorem RepRs.append : ∀ {rs rs' : List Root} {A : List Addr}, RepRs K mg F H (rs ++ rs') A → ∃ A1 A2, A = A1 ++ A2 ∧ RepRs K mg F H rs A1 ∧ RepRs K mg F H rs' A2
  | [], rs', A, h => ⟨[], A, rfl, rfl, h⟩
  | r :: rs, rs', A, h => by
    obtain ⟨A1, A2, rfl, h2, h3⟩ := h
    obtain ⟨B1, B2, rfl, h4, h5⟩ := RepRs.append h3
    exact ⟨A1 ++ B1, B2, by rw [List.append_assoc], ⟨A1, B1, rfl, h2, h4⟩, h5⟩
theorem RepRs.join : ∀ {rs rs' : List Root} {A1 A2 : List Addr}, RepRs K mg F H rs A1 → RepRs K mg F H rs' A2 → RepRs K mg F H (rs ++ rs') (A1 ++ A2)
  | [], rs', A1, A2, h, h' => by
    have e : A1 = [] := h
    subst e
    exact h'
  | r :: rs, rs', A1, A2, h, h' => by
    obtain ⟨B1, B2, rfl, h2, h3⟩ := h
    exact ⟨B1, B2 ++ A2, by rw [List.append_assoc], h2, RepRs.join h3 h'⟩
theorem RepRs.perm (p : rs.Perm rs') : ∀ {A : List Addr}, RepRs K mg F H rs A → ∃ A', A.Perm A' ∧ RepRs K mg F H rs' A' := by
  induction p with
  | nil => exact fun {A} h => ⟨A, .refl _, h⟩
  | cons x _ ih =>
    intro A h
    obtain ⟨A1, A2, rfl, h2, h3⟩ := h
    obtain ⟨A', p', h'⟩ := ih h3
    exact ⟨A1 ++ A', p'.append_left A1, A1, A', rfl, h2, h'⟩
  | swap x y l =>
    intro A h
    obtain ⟨A1, A2, rfl, h2, B1, B2, rfl, h3, h4⟩ := h
    refine ⟨B1 ++ (A1 ++ B2), ?_, B1, A1 ++ B2, rfl, h3, A1, B2, rfl, h2, h4⟩
    rw [← List.append_assoc, ← List.append_assoc]
    exact List.perm_append_comm.append_right B2
  | trans _ _ ih1 ih2 =>
    intro A h
    obtain ⟨A', p', h'⟩ := ih1 h
    obtain ⟨A'', p'', h''⟩ := ih2 h'
    exact ⟨A'', p'.trans p'', h''⟩
theorem Rel.perm (h : Rel K mg F H rs) (p : rs.Perm rs') : Rel K mg F H rs' := by
  obtain ⟨f, A, h1, h2, h3⟩ := h
  obtain ⟨A', p', h'⟩ := h1.perm p
  exact ⟨f, A', h', p'.nodup_iff.mp h2, fun a ha => h3 a (p'.mem_iff.mpr ha)⟩
theorem Rel.drop {r : Root} (h : Rel K mg F H (r :: rs)) : Rel K mg F H rs := by
  obtain ⟨f, A, ⟨A1, A2, rfl, h1, h1'⟩, h2, h3⟩ := h
  exact ⟨f, A2, h1', (List.nodup_append.mp h2).2.1, fun a ha => h3 a (List.mem_append_right _ ha)⟩
theorem Rel.dropL : ∀ {rs rs' : List Root}, Rel K mg F H (rs ++ rs') → Rel K mg F H rs'
  | [], _, h => h
  | _ :: _, _, h => Rel.dropL (rs := _) h.drop
/-- what owned addresses are -/
theorem Rel.owned (h : Rel K mg F H rs) : Fix F H := h.1
/-- a new thing, fixed at once -/
theorem Rel.newF {p : Addr} {o : HO} (h : Rel K mg F H rs) (hp : H p = none) (hA : ∀ A, RepRs K mg F H rs A → ∀ a ∈ A, H a ≠ none) : Rel K mg (upd F p o) (upd H p o) rs := by
  obtain ⟨f, A, h1, h2, h3⟩ := h
  have hFp := f.none hp
  have ne : ∀ a ∈ A, a ≠ p := fun a ha z => hA A h1 a ha (by rw [z]; exact hp)
  exact ⟨f.new hp, A, h1.mono (Sub.new hFp) (fun a ha => upd_ne (ne a ha)), h2, fun a ha => by rw [upd_ne (ne a ha), upd_ne (ne a ha)]; exact h3 a ha⟩
end
section
variable {K : PySem.W.Frag} {mg : Str → Option Value} {F F' H H' : Hp}
mutual
theorem Rep.there : ∀ (d : Dv) {v : V} {A : List Addr}, Rep K mg F H d v A → ∀ a ∈ A, H a ≠ none
  | .scr ns, v, A, h => by
    obtain ⟨a, h1, h2, rfl⟩ := h
    exact fun _ z => nomatch z
  | .exc c, v, A, h => by
    obtain ⟨a, C, h1, h2, h3, rfl⟩ := h
    exact fun _ z => nomatch z
  | .non, _, _, h => by
    obtain ⟨_, rfl⟩ := h
    exact fun _ z => nomatch z
  | .bl _, _, _, h => by
    obtain ⟨_, rfl⟩ := h
    exact fun _ z => nomatch z
  | .int _, _, _, h => by
    obtain ⟨_, rfl⟩ := h
    exact fun _ z => nomatch z
  | .str _, _, _, h => by
    obtain ⟨_, rfl⟩ := h
    exact fun _ z => nomatch z
  | .tup g ds, v, A, h => by
    obtain ⟨a, vs, _, _, h3⟩ := h
    exact Reps.there ds h3
  | .lst o ds, v, A, h => by
    obtain ⟨a, vs, B, _, h2, h3⟩ := h
    have q := Reps.there ds h2
    cases o with
    | true =>
      rw [if_pos rfl] at h3
      obtain ⟨h3, rfl⟩ := h3
      intro b hb z
      cases hb with
      | head => rw [h3] at z; cases z
      | tail _ hb => exact q b hb z
    | false =>
      rw [if_neg Bool.false_ne_true] at h3
      obtain ⟨h3, rfl⟩ := h3
      exact q
  | .dct o k ks ds, v, A, h => by
    obtain ⟨a, vs, B, u, _, h2, _, h3⟩ := h
    have q := Reps.there ds h2
    cases o with
    | true =>
      rw [if_pos rfl] at h3
      obtain ⟨h3, rfl⟩ := h3
      intro b hb z
      cases hb with
      | head => rw [h3] at z; cases z
      | tail _ hb => exact q b hb z
    | false =>
      rw [if_neg Bool.false_ne_true] at h3
      obtain ⟨h3, rfl⟩ := h3
      exact q
  | .ins o c fs ds, v, A, h => by
    obtain ⟨a, C, dx, vs, B, _, _, _, h2, h3⟩ := h
    have q := Reps.there ds h2
    cases o with
    | true =>
      rw [if_pos rfl] at h3
      obtain ⟨h3, rfl⟩ := h3
      intro b hb z
      cases hb with
      | head => rw [h3] at z; cases z
      | tail _ hb => exact q b hb z
    | false =>
      rw [if_neg Bool.false_ne_true] at h3
      obtain ⟨h3, rfl⟩ := h3
      exact q
theorem Reps.there : ∀ (ds : List Dv) {vs : List V} {A : List Addr}, Reps K mg F H ds vs A → ∀ a ∈ A, H a ≠ none
  | [], _, _, h => by
    obtain ⟨_, rfl⟩ := h
    exact fun _ z => nomatch z
  | d :: ds, vs, A, h => by
    obtain ⟨v, vr, A1, A2, _, rfl, h2, h3⟩ := h
    intro a ha
    rcases List.mem_append.mp ha with z | z
    · exact Rep.there d h2 a z
    · exact Reps.there ds h3 a z
end
theorem RepRs.there : ∀ {rs : List Root} {A : List Addr}, RepRs K mg F H rs A → ∀ a ∈ A, H a ≠ none
  | [], A, h => by
    have e : A = [] := h
    subst e
    exact fun _ z => nomatch z
  | r :: rs, A, h => by
    obtain ⟨A1, A2, rfl, h2, h3⟩ := h
    intro a ha
    rcases List.mem_append.mp ha with z | z
    · cases r with
      | val v d => exact Rep.there d h2 a z
      | cell b o =>
        obtain ⟨h2, rfl⟩ := h2
        cases z with
        | head => rw [h2]; exact fun z => nomatch z
        | tail _ z => exact nomatch z
    · exact RepRs.there h3 a z
variable {rs : List Root}
theorem Rel.new {p : Addr} {o : HO} (h : Rel K mg F H rs) (hp : H p = none) : Rel K mg (upd F p o) (upd H p o) rs := h.newF hp fun _ q => q.there
/-- a new thing, held -/
theorem Rel.newO {p : Addr} {o : HO} (h : Rel K mg F H rs) (hp : H p = none) (ho : ∀ xs, o ≠ .tup xs := by intro _ h; cases h) : Rel K mg F (upd H p o) (.cell p o :: rs) := by
  obtain ⟨f, A, h1, h2, h3⟩ := h
  have hFp := f.none hp
  have ne : ∀ a ∈ A, a ≠ p := fun a ha z => h1.there a ha (by rw [z]; exact hp)
  refine ⟨f.own hFp, p :: A, ⟨[p], A, rfl, ⟨upd_same, rfl⟩, h1.mono (Sub.refl F) fun a ha => upd_ne (ne a ha)⟩, List.nodup_cons.mpr ⟨fun z => ne p z rfl, h2⟩, fun a ha => ?_⟩
  cases ha with
  | head => exact ⟨hFp, fun xs e => ho xs (by rw [upd_same] at e; exact Option.some.inj e)⟩
  | tail _ ha => rw [upd_ne (ne a ha)]; exact h3 a ha
/-- a held thing is written -/
theorem Rel.write {p : Addr} {o u : HO} (h : Rel K mg F H (.cell p o :: rs)) (hu : ∀ xs, u ≠ .tup xs := by intro _ h; cases h) : Rel K mg F (upd H p u) (.cell p u :: rs) := by
  obtain ⟨f, A, ⟨A1, A2, rfl, ⟨h0, rfl⟩, h1⟩, h2, h3⟩ := h
  have hn := List.nodup_cons.mp h2
  have hFp := (h3 p (.head _)).1
  refine ⟨f.own hFp, p :: A2, ⟨[p], A2, rfl, ⟨upd_same, rfl⟩, h1.mono (Sub.refl F) fun a ha => upd_ne fun z => hn.1 (z ▸ ha)⟩, h2, fun a ha => ?_⟩
  cases ha with
  | head => exact ⟨hFp, fun xs e => hu xs (by rw [upd_same] at e; exact Option.some.inj e)⟩
  | tail _ ha =>
    have ne : a ≠ p := fun z => hn.1 (by rw [← z]; exact ha)
    rw [upd_ne ne]
    exact h3 a (.tail _ ha)
theorem Rel.at {p : Addr} {o : HO} (h : Rel K mg F H (.cell p o :: rs)) : H p = some o := by
  obtain ⟨f, A, ⟨A1, A2, rfl, ⟨h0, rfl⟩, h1⟩, h2, h3⟩ := h
  exact h0
/-- what a root owns is fixed -/
theorem Rel.fix {v : V} {d : Dv} (h : Rel K mg F H (.val v d :: rs)) : ∃ F', Sub F F' ∧ Rel K mg F' H (.val v (fz d) :: rs) := by
  obtain ⟨f, A, ⟨A1, A2, rfl, h0, h1⟩, h2, h3⟩ := h
  obtain ⟨n1, n2, n3⟩ := List.nodup_append.mp h2
  have s : Sub F (fun a => if a ∈ A1 then H a else F a) := fun a o e => by
    have q : a ∉ A1 := fun z => by
      rw [(h3 a (List.mem_append_left _ z)).1] at e; cases e
    show (if a ∈ A1 then H a else F a) = some o
    rw [if_neg q]; exact e
  have hA2 : ∀ a ∈ A2, a ∉ A1 := fun a ha z => n3 a z a ha rfl
  refine ⟨_, s, fun a o e => ?_, A2, ⟨[], A2, rfl, Rep.fix s d (fun a ha => if_pos ha) h0, h1.mono s fun _ _ => rfl⟩, n2, fun a ha => ?_⟩
  · by_cases q : a ∈ A1
    · have e' : (if a ∈ A1 then H a else F a) = some o := e
      rw [if_pos q] at e'
      exact .inl e'
    · have e' : (if a ∈ A1 then H a else F a) = some o := e
      rw [if_neg q] at e'
      exact f a o e'
  · show (if a ∈ A1 then H a else F a) = none ∧ _
    rw [if_neg (hA2 a ha)]
    exact h3 a (List.mem_append_right _ ha)
/-- a fixed tree may be held twice -/
theorem Rel.dup {v : V} {d : Dv} (h : Rel K mg F H (.val v d :: rs)) (z : fzn d = true) : Rel K mg F H (.val v d :: .val v d :: rs) := by
  obtain ⟨f, A, ⟨A1, A2, rfl, h0, h1⟩, h2, h3⟩ := h
  have e := Rep.nil d z h0
  subst e
  exact ⟨f, A2, ⟨[], A2, rfl, h0, [], A2, rfl, h0, h1⟩, h2, h3⟩
theorem Rel.rep {v : V} {d : Dv} (h : Rel K mg F H (.val v d :: rs)) : Fix F H ∧ ∃ A, Rep K mg F H d v A := by
  obtain ⟨f, A, ⟨A1, A2, rfl, h0, h1⟩, h2, h3⟩ := h
  exact ⟨f, A1, h0⟩
/-- a tuple that is known to the object is fixed -/
theorem Rel.learn {b : Addr} {xs : List V} (h : Rel K mg F H rs) (hb : H b = some (.tup xs)) : ∃ F', Sub F F' ∧ F' b = some (.tup xs) ∧ Rel K mg F' H rs := by
  obtain ⟨f, A, h1, h2, h3⟩ := h
  cases e : F b with
  | some o =>
    rcases f b o e with z | ⟨_, ob, z⟩
    · rw [hb] at z
      cases z
      exact ⟨F, Sub.refl F, e, f, A, h1, h2, h3⟩
    · rw [hb] at z
      cases z
  | none =>
    have ne : ∀ a ∈ A, a ≠ b := fun a ha z => (h3 a ha).2 xs (by rw [z]; exact hb)
    refine ⟨upd F b (.tup xs), Sub.new e, upd_same, fun a o q => ?_, A, h1.mono (Sub.new e) fun _ _ => rfl, h2, fun a ha => by rw [upd_ne (ne a ha)]; exact h3 a ha⟩
    by_cases z : a = b
    · subst z
      rw [upd_same] at q
      cases q
      exact .inl hb
    · rw [upd_ne z] at q
      exact f a o q
end
end Pyd
set_option maxRecDepth 100000
/-! PydB: slots, outcomes, judgements of expressions. -/
namespace Pyd
open PySem PySem.Spec PyProof.Rows L2

abbrev En := List (Option Dv)
inductive Slots : L2.St → En → List Root → Prop
  | nil : Slots [] [] []
  | none {v : Option V} {σ : L2.St} {ρ : En} {rs : List Root} : Slots σ ρ rs → Slots (v :: σ) (Option.none :: ρ) rs
  | some {v : V} {d : Dv} {σ : L2.St} {ρ : En} {rs : List Root} : Slots σ ρ rs → Slots (Option.some v :: σ) (Option.some d :: ρ) (.val v d :: rs)
theorem Slots.len {σ : L2.St} {ρ : En} {rs : List Root} (h : Slots σ ρ rs) : σ.length = ρ.length := by
  induction h with
  | nil => rfl
  | none _ ih => simp [ih]
  | some _ ih => simp [ih]
theorem Slots.get {σ : L2.St} {ρ : En} {rs : List Root} (h : Slots σ ρ rs) : ∀ {i : Nat} {d : Dv}, ρ[i]? = Option.some (Option.some d) →
    ∃ v rs', σ[i]? = Option.some (Option.some v) ∧ Slots σ (ρ.set i Option.none) rs' ∧ rs.Perm (.val v d :: rs') := by
  induction h with
  | nil => intro i d e; simp at e
  | @none v σ ρ rs h ih =>
    intro i d e
    cases i with
    | zero => simp at e
    | succ i =>
      obtain ⟨w, rs', h1, h2, h3⟩ := ih (i := i) (d := d) (by simpa using e)
      exact ⟨w, rs', by simpa using h1, by simpa using Slots.none h2, h3⟩
  | @some v d' σ ρ rs h ih =>
    intro i d e
    cases i with
    | zero =>
      have e' : d' = d := by simpa using e
      subst e'
      exact ⟨v, rs, by simp, by simpa using Slots.none h, .refl _⟩
    | succ i =>
      obtain ⟨w, rs', h1, h2, h3⟩ := ih (i := i) (d := d) (by simpa using e)
      exact ⟨w, .val v d' :: rs', by simpa using h1, by simpa using Slots.some h2, (h3.cons _).trans (.swap _ _ _)⟩
/-- a slot is stored -/
theorem Slots.put {σ : L2.St} {ρ : En} {rs : List Root} (h : Slots σ ρ rs) : ∀ {i : Nat} (v : V) (d : Dv), i < ρ.length →
    ∃ rs' rd rk, Slots (σ.set i (Option.some v)) (ρ.set i (Option.some d)) rs' ∧ rs'.Perm (.val v d :: rk) ∧ rs.Perm (rd ++ rk) := by
  induction h with
  | nil => intro i v d e; simp at e
  | @none v0 σ ρ rs h ih =>
    intro i v d e
    cases i with
    | zero => exact ⟨.val v d :: rs, [], rs, by simpa using Slots.some h, .refl _, .refl _⟩
    | succ i =>
      obtain ⟨rs', rd, rk, h1, h2, h3⟩ := ih (i := i) v d (by simpa using e)
      exact ⟨rs', rd, rk, by simpa using Slots.none h1, h2, h3⟩
  | @some v0 d0 σ ρ rs h ih =>
    intro i v d e
    cases i with
    | zero => exact ⟨.val v d :: rs, [.val v0 d0], rs, by simpa using Slots.some h, .refl _, .refl _⟩
    | succ i =>
      obtain ⟨rs', rd, rk, h1, h2, h3⟩ := ih (i := i) v d (by simpa using e)
      refine ⟨.val v0 d0 :: rs', rd, .val v0 d0 :: rk, by simpa using Slots.some h1, (h2.cons _).trans (.swap _ _ _), (h3.cons _).trans ?_⟩
      exact List.perm_middle.symm
/-- a slot is put back -/
theorem Slots.back {σ : L2.St} {ρ : En} {rs : List Root} (h : Slots σ ρ rs) : ∀ {i : Nat} {v : V} (d : Dv), σ[i]? = Option.some (Option.some v) → ρ[i]? = Option.some Option.none →
    ∃ rs', Slots σ (ρ.set i (Option.some d)) rs' ∧ rs'.Perm (.val v d :: rs) := by
  induction h with
  | nil => intro i v d e; simp at e
  | @none v0 σ ρ rs h ih =>
    intro i v d e e2
    cases i with
    | zero =>
      have e' : v0 = Option.some v := by simpa using e
      subst e'
      exact ⟨.val v d :: rs, by simpa using Slots.some h, .refl _⟩
    | succ i =>
      obtain ⟨rs', h1, h2⟩ := ih (i := i) d (by simpa using e) (by simpa using e2)
      exact ⟨rs', by simpa using Slots.none h1, h2⟩
  | @some v0 d0 σ ρ rs h ih =>
    intro i v d e e2
    cases i with
    | zero => simp at e2
    | succ i =>
      obtain ⟨rs', h1, h2⟩ := ih (i := i) d (by simpa using e) (by simpa using e2)
      exact ⟨.val v0 d0 :: rs', by simpa using Slots.some h1, (h2.cons _).trans (.swap _ _ _)⟩
/-- a slot is forgotten -/
theorem Slots.drop {σ : L2.St} {ρ : En} {rs : List Root} (h : Slots σ ρ rs) : ∀ (i : Nat) (v : Option V),
    ∃ rs' rd, Slots (σ.set i v) (ρ.set i Option.none) rs' ∧ rs.Perm (rd ++ rs') := by
  induction h with
  | nil => intro i v; exact ⟨[], [], by simpa using Slots.nil, .refl _⟩
  | @none v0 σ ρ rs h ih =>
    intro i v
    cases i with
    | zero => exact ⟨rs, [], by simpa using Slots.none h, .refl _⟩
    | succ i =>
      obtain ⟨rs', rd, h1, h2⟩ := ih i v
      exact ⟨rs', rd, by simpa using Slots.none h1, h2⟩
  | @some v0 d0 σ ρ rs h ih =>
    intro i v
    cases i with
    | zero => exact ⟨rs, [.val v0 d0], by simpa using Slots.none h, .refl _⟩
    | succ i =>
      obtain ⟨rs', rd, h1, h2⟩ := ih i v
      exact ⟨.val v0 d0 :: rs', rd, by simpa using Slots.some h1, (h2.cons _).trans List.perm_middle.symm⟩

section
variable (K : PySem.W.Frag) (mg : Str → Option Value)
def Now (F H : Hp) (σ : L2.St) (ρ : En) (T : List Root) : Prop := ∃ rs, Slots σ ρ rs ∧ Rel K mg F H (rs ++ T)
end
section
variable {K : PySem.W.Frag} {mg : Str → Option Value} {F F' H H' : Hp} {σ : L2.St} {ρ : En} {T T' L L' : List Root} {i : Nat} {v : V} {d : Dv}
theorem Now.len (h : Now K mg F H σ ρ T) : σ.length = ρ.length := let ⟨_, s, _⟩ := h; s.len
/-- what is done to roots is done beside the slots -/
theorem Now.map (h : Now K mg F H σ ρ (L ++ T)) (f : ∀ rest, Rel K mg F H (L ++ rest) → Rel K mg F' H' (L' ++ rest)) : Now K mg F' H' σ ρ (L' ++ T) := by
  obtain ⟨rs, s, r⟩ := h
  refine ⟨rs, s, ?_⟩
  have p1 : (rs ++ (L ++ T)).Perm (L ++ (rs ++ T)) := by
    rw [← List.append_assoc, ← List.append_assoc]
    exact List.perm_append_comm.append_right T
  have p2 : (L' ++ (rs ++ T)).Perm (rs ++ (L' ++ T)) := by
    rw [← List.append_assoc, ← List.append_assoc]
    exact List.perm_append_comm.append_right T
  exact (f _ (r.perm p1)).perm p2
theorem Now.mapE (h : Now K mg F H σ ρ (L ++ T)) {P : Hp → Hp → Prop} (f : ∀ rest, Rel K mg F H (L ++ rest) → ∃ F' H', P F' H' ∧ Rel K mg F' H' (L' ++ rest)) : ∃ F' H', P F' H' ∧ Now K mg F' H' σ ρ (L' ++ T) := by
  obtain ⟨rs, s, r⟩ := h
  have p1 : (rs ++ (L ++ T)).Perm (L ++ (rs ++ T)) := by
    rw [← List.append_assoc, ← List.append_assoc]
    exact List.perm_append_comm.append_right T
  have p2 : (L' ++ (rs ++ T)).Perm (rs ++ (L' ++ T)) := by
    rw [← List.append_assoc, ← List.append_assoc]
    exact List.perm_append_comm.append_right T
  obtain ⟨F', H', hp, r'⟩ := f _ (r.perm p1)
  exact ⟨F', H', hp, rs, s, r'.perm p2⟩
theorem Now.perm (h : Now K mg F H σ ρ T) (p : T.Perm T') : Now K mg F H σ ρ T' := let ⟨rs, s, r⟩ := h; ⟨rs, s, r.perm (p.append_left rs)⟩
theorem Now.drop {r : Root} (h : Now K mg F H σ ρ (r :: T)) : Now K mg F H σ ρ T := h.map (L := [r]) (L' := []) fun _ q => q.drop
theorem Now.dropL (h : Now K mg F H σ ρ (L ++ T)) : Now K mg F H σ ρ T := h.map (L := L) (L' := []) fun _ q => Rel.dropL q
theorem Now.rel (h : Now K mg F H σ ρ (L ++ T)) : ∃ rest, Rel K mg F H (L ++ rest) := by
  obtain ⟨rs, s, r⟩ := h
  refine ⟨rs ++ T, r.perm ?_⟩
  rw [← List.append_assoc, ← List.append_assoc]
  exact List.perm_append_comm.append_right T
theorem Now.get (h : Now K mg F H σ ρ T) (e : ρ[i]? = some (some d)) : ∃ v, σ[i]? = some (some v) ∧ Now K mg F H σ (ρ.set i none) (.val v d :: T) := by
  obtain ⟨rs, s, r⟩ := h
  obtain ⟨v, rs', h1, h2, h3⟩ := s.get e
  exact ⟨v, h1, rs', h2, r.perm ((h3.append_right T).trans List.perm_middle.symm)⟩
theorem Now.put (h : Now K mg F H σ ρ (.val v d :: T)) (hi : i < ρ.length) : Now K mg F H (σ.set i (some v)) (ρ.set i (some d)) T := by
  obtain ⟨rs, s, r⟩ := h
  obtain ⟨rs', rd, rk, h1, h2, h3⟩ := s.put v d hi
  refine ⟨rs', h1, ?_⟩
  have p : (rs ++ .val v d :: T).Perm (rd ++ (rk ++ (.val v d :: T))) := by
    rw [← List.append_assoc]
    exact h3.append_right _
  refine (Rel.dropL (r.perm p)).perm ?_
  exact List.perm_middle.trans (h2.symm.append_right T)
theorem Now.back (h : Now K mg F H σ ρ (.val v d :: T)) (e : σ[i]? = some (some v)) (e2 : ρ[i]? = some none) : Now K mg F H σ (ρ.set i (some d)) T := by
  obtain ⟨rs, s, r⟩ := h
  obtain ⟨rs', h1, h2⟩ := s.back d e e2
  exact ⟨rs', h1, r.perm (List.perm_middle.trans (h2.symm.append_right T))⟩
theorem Now.fix (h : Now K mg F H σ ρ (.val v d :: T)) : ∃ F', Now K mg F' H σ ρ (.val v (fz d) :: T) := by
  obtain ⟨F', H', e, q⟩ := h.mapE (L := [.val v d]) (L' := [.val v (fz d)]) (P := fun _ H' => H' = H) fun _ q => let ⟨F', _, q'⟩ := q.fix; ⟨F', H, rfl, q'⟩
  subst e
  exact ⟨F', q⟩
theorem Now.dup (h : Now K mg F H σ ρ (.val v d :: T)) (z : fzn d = true) : Now K mg F H σ ρ (.val v d :: .val v d :: T) := h.map (L := [.val v d]) (L' := [.val v d, .val v d]) fun _ q => q.dup z
theorem Now.swap {r s : Root} (h : Now K mg F H σ ρ (r :: s :: T)) : Now K mg F H σ ρ (s :: r :: T) := h.perm (.swap _ _ _)
end

/-! ### outcomes -/
/-- an exception: its class by name, what it bears -/
structure Er where
  c : Str
  pay : Option Dv := none
inductive Rs (α : Type) where
  | ok (a : α) (ρ : En)
  | err (x : Er) (ρ : En)
  | stk
def Rs.bnd {α β : Type} : Rs α → (α → En → Rs β) → Rs β
  | .ok a ρ, f => f a ρ
  | .err x ρ, _ => .err x ρ
  | .stk, _ => .stk
abbrev SE := En → Rs Dv
abbrev SP := En → Option Dv
abbrev SPA := En → Option (List Dv)
abbrev SA := En → Rs (List Dv)
abbrev ST := En → Rs Bool

section
variable (K : PySem.W.Frag) (mg : Str → Option Value)
def ErV (x : Er) (cls : Value) (dd : Option Addr) (rs : List Root) : Prop :=
  ∃ C, cls = .ref C ∧ mg x.c = some (.ref C) ∧ match x.pay with
    | none => dd = none ∧ rs = []
    | some d => ∃ a v, dd = some a ∧ rs = [.val v d, .cell a (.xd [("ring", v)])]
/-- what is wished of an outcome -/
def Post {α : Type} (W : WX) (σ : L2.St) (T : List Root) (q : α → En → Prop) : Rs α → Prop
  | .ok a ρ => q a ρ
  | .err x ρ => ∀ F H cls dd rs, ErV mg x cls dd rs → Now K mg F H σ ρ (rs ++ T) → W cls dd σ H
  | .stk => False
def PostE (W : WX) (σ : L2.St) (T : List Root) (Q : VK) : Rs Dv → Prop := Post K mg W σ T fun d ρ => ∀ F H v, Now K mg F H σ ρ (.val v d :: T) → Q v H
def vals : List V → List Dv → List Root
  | v :: vs, d :: ds => .val v d :: vals vs ds
  | _, _ => []
def PostA (W : WX) (σ : L2.St) (T : List Root) (Q : List V → Hp → Prop) : Rs (List Dv) → Prop := Post K mg W σ T fun ds ρ => ∀ F H vs, vs.length = ds.length → Now K mg F H σ ρ (vals vs ds ++ T) → Q vs H
def PostT (W : WX) (σ : L2.St) (T : List Root) (Q : Bool → Hp → Prop) : Rs Bool → Prop := Post K mg W σ T fun b ρ => ∀ F H, Now K mg F H σ ρ T → Q b H
end
section
variable {K : PySem.W.Frag} {mg : Str → Option Value} {α β : Type} {W : WX} {σ : L2.St} {T T' L : List Root}
theorem Post.bnd {q : β → En → Prop} {r : Rs α} {f : α → En → Rs β} (h : Post K mg W σ T q (r.bnd f)) : Post K mg W σ T (fun a ρ => Post K mg W σ T q (f a ρ)) r := by
  cases r with
  | ok a ρ => exact h
  | err x ρ => exact h
  | stk => exact h
theorem Post.imp {q q' : α → En → Prop} {r : Rs α} (h : Post K mg W σ T q r) (i : ∀ a ρ, q a ρ → q' a ρ) : Post K mg W σ T q' r := by
  cases r with
  | ok a ρ => exact i a ρ h
  | err x ρ => exact h
  | stk => exact h
/-- more roots are held meanwhile -/
theorem Post.more {q : α → En → Prop} {r : Rs α} (h : Post K mg W σ T q r) : Post K mg W σ (L ++ T) q r := by
  cases r with
  | ok a ρ => exact h
  | err x ρ =>
    refine fun F H cls dd rs e n => h F H cls dd rs e ?_
    refine Now.dropL (L := L) (n.perm ?_)
    rw [← List.append_assoc, ← List.append_assoc]
    exact List.perm_append_comm.append_right T
  | stk => exact h
end

def SndE (K : PySem.W.Frag) (mg : Str → Option Value) (W : WX) (t : TE) (f : SE) : Prop := ∀ F H σ ρ T Q, Now K mg F H σ ρ T → PostE K mg W σ T Q (f ρ) → t σ H Q
def SndA (K : PySem.W.Frag) (mg : Str → Option Value) (W : WX) (t : TA) (f : SA) : Prop := ∀ F H σ ρ T Q, Now K mg F H σ ρ T → PostA K mg W σ T Q (f ρ) → t σ H Q
def SndT (K : PySem.W.Frag) (mg : Str → Option Value) (W : WX) (t : TT) (f : ST) : Prop := ∀ F H σ ρ T Q, Now K mg F H σ ρ T → PostT K mg W σ T Q (f ρ) → t σ H Q
/-- the expression e does what f says -/
def JE (X : Cx) (W : WX) (e : Expr) (f : SE) : Prop := ∃ t, PE X e t ∧ SndE X.K X.mg W t f
def JA (X : Cx) (W : WX) (es : List Expr) (f : SA) : Prop := ∃ t, PA X es t ∧ SndA X.K X.mg W t f
def JT (X : Cx) (W : WX) (e : Expr) (f : ST) : Prop := ∃ t, PT X e t ∧ SndT X.K X.mg W t f
def JW (X : Cx) (W : WX) (e : Expr) (f : ST) : Prop := ∃ t, PW X e t ∧ SndT X.K X.mg W t f

/-! ### pure expressions: nothing is made, nothing changes -/
def SndP (K : PySem.W.Frag) (mg : Str → Option Value) (t : TE) (f : SP) : Prop := ∀ F H σ ρ T (Q : VK), Now K mg F H σ ρ T → (∃ d, f ρ = some d ∧ ∀ v A, Rep K mg F H d v A → Q v H) → t σ H Q
def JP (X : Cx) (e : Expr) (f : SP) : Prop := ∃ t, PE X e t ∧ SndP X.K X.mg t f
def SndPA (K : PySem.W.Frag) (mg : Str → Option Value) (t : TA) (f : SPA) : Prop := ∀ F H σ ρ T (Q : List V → Hp → Prop), Now K mg F H σ ρ T → (∃ ds, f ρ = some ds ∧ ∀ vs A, Reps K mg F H ds vs A → Q vs H) → t σ H Q
def JPA (X : Cx) (es : List Expr) (f : SPA) : Prop := ∃ t, PA X es t ∧ SndPA X.K X.mg t f
def pVar (i : Nat) : SP := fun ρ => match ρ[i]? with
  | some (some d) => some d
  | _ => none
def pC (d : Dv) : SP := fun _ => some d
/-- o of two, of one, if both are there -/
def o2 {α β γ : Type} (x : Option α) (y : Option β) (o : α → β → Option γ) : Option γ := match x, y with
  | some a, some b => o a b
  | _, _ => none
def pBin (o : Dv → Dv → Option Dv) (fa fb : SP) : SP := fun ρ => o2 (fa ρ) (fb ρ) o
def pUn (o : Dv → Option Dv) (fa : SP) : SP := fun ρ => (fa ρ).bind o
theorem o2_some {α β γ : Type} {x : Option α} {y : Option β} {o : α → β → Option γ} {c : γ} (h : o2 x y o = some c) : ∃ a b, x = some a ∧ y = some b ∧ o a b = some c := by
  unfold o2 at h
  split at h
  · rename_i a b
    exact ⟨a, b, rfl, rfl, h⟩
  · cases h
theorem Now.reps {K : PySem.W.Frag} {mg : Str → Option Value} {F H : Hp} {σ : L2.St} {ρ : En} {T : List Root} {i : Nat} {d : Dv} (n : Now K mg F H σ ρ T) (e : ρ[i]? = some (some d)) : Fix F H ∧ ∃ v A, σ[i]? = some (some v) ∧ Rep K mg F H d v A := by
  obtain ⟨v, hv, n⟩ := n.get e
  obtain ⟨rest, r⟩ := Now.rel (L := [.val v d]) n
  obtain ⟨f, A, h⟩ := r.rep
  exact ⟨f, v, A, hv, h⟩
theorem Now.fixed {K : PySem.W.Frag} {mg : Str → Option Value} {F H : Hp} {σ : L2.St} {ρ : En} {T : List Root} (n : Now K mg F H σ ρ T) : Fix F H := let ⟨_, _, r⟩ := n; r.1
section
variable {X : Cx} {W : WX}
theorem jp_var {i : Nat} {x : Str} {pos : Pos} (hN : X.N[i]? = some x := by rfl) (hv : Vis X.env.scope x := by first | exact Or.inl rfl | exact Or.inr (Or.inl rfl) | exact Or.inr (Or.inr rfl)) (hd : (x == ("__debug__" : Str)) = false := by decide)
    (hcd : (x == ("__classdict__" : Str)) = false := by decide) : JP X (.Name x pos) (pVar i) := by
  refine ⟨tVar i, pe_var hN hv hd hcd, fun F H σ ρ T Q n h => ?_⟩
  obtain ⟨d, h, q⟩ := h
  unfold pVar at h
  split at h
  · rename_i d' e
    cases h
    obtain ⟨_, v, A, hv', r⟩ := n.reps e
    exact ⟨v, hv', q v A r⟩
  · cases h
theorem sndPC {K : PySem.W.Frag} {mg : Str → Option Value} {v : V} {d : Dv} (hd : ∀ F H : Hp, Rep K mg F H d v []) : SndP K mg (tC v) (pC d) := fun F H σ ρ T Q n h => by
  obtain ⟨d', h, q⟩ := h
  cases h
  exact q v [] (hd F H)
theorem jp_int {i : Int} {j pos} : JP X (.Constant (.int i) j pos) (pC (.int i)) := ⟨_, pe_int, sndPC fun _ _ => ⟨rfl, rfl⟩⟩
theorem jp_bl {b : Bool} {j pos} : JP X (.Constant (.bool b) j pos) (pC (.bl b)) := ⟨_, pe_bl, sndPC fun _ _ => ⟨rfl, rfl⟩⟩
theorem jp_non {j pos} : JP X (.Constant .none j pos) (pC .non) := ⟨_, pe_non, sndPC fun _ _ => ⟨rfl, rfl⟩⟩
theorem jp_str {s : Str} {j pos} : JP X (.Constant (.str s) j pos) (pC (.str s)) := ⟨_, pe_str, sndPC fun _ _ => ⟨rfl, rfl⟩⟩
/-- a module's constant -/
structure Kon (K : PySem.W.Frag) (mg : Str → Option Value) (x : Str) (d : Dv) : Prop where
  ex : ∃ u v, mg x = some u ∧ RelV v u ∧ ∀ F H : Hp, Rep K mg F H d v []
theorem jp_glob {x : Str} {d : Dv} {pos : Pos} (c : Kon X.K X.mg x d) (hg : Gl X x := by rfl) (hb : (x == ("__debug__" : Str)) = false := by decide) : JP X (.Name x pos) (pC d) := by
  obtain ⟨u, v, hm, r, hd⟩ := c.ex
  exact ⟨_, pe_glob hg hm r hb, sndPC hd⟩
end

/-- the operation f does on trees what o says; the value told stands there already, or owns nothing -/
def OpP (X : Cx) (f : Value → Value → Sem Value) (o : Dv → Dv → Option Dv) : Prop :=
  ∃ r, OpR X f r ∧ ∀ (F H : Hp) (v1 v2 : V) (A1 A2 : List Addr) (d1 d2 d : Dv) (Q : VK), Fix F H → Rep X.K X.mg F H d1 v1 A1 → Rep X.K X.mg F H d2 v2 A2 → o d1 d2 = some d → (∀ v A, Rep X.K X.mg F H d v A → Q v H) → r v1 v2 H Q
theorem OpR.or {X : Cx} {f : Value → Value → Sem Value} {r1 r2 : R2} (h1 : OpR X f r1) (h2 : OpR X f r2) : OpR X f (fun x y H Q => r1 x y H Q ∨ r2 x y H Q) := fun pins s σ H x y v u Q I rx ry h =>
  h.elim (fun q => h1 pins s σ H x y v u Q I rx ry q) fun q => h2 pins s σ H x y v u Q I rx ry q
def oOr (o1 o2 : Dv → Dv → Option Dv) : Dv → Dv → Option Dv := fun x y => match o1 x y with
  | some d => some d
  | none => o2 x y
theorem OpP.or {X : Cx} {f : Value → Value → Sem Value} {o1 o2 : Dv → Dv → Option Dv} (h1 : OpP X f o1) (h2 : OpP X f o2) : OpP X f (oOr o1 o2) := by
  obtain ⟨r1, p1, q1⟩ := h1
  obtain ⟨r2, p2, q2⟩ := h2
  refine ⟨_, OpR.or p1 p2, fun F H v1 v2 A1 A2 d1 d2 d Q f x y e k => ?_⟩
  unfold oOr at e
  split at e
  · rename_i d' e'
    cases e
    exact .inl (q1 F H v1 v2 A1 A2 d1 d2 _ Q f x y e' k)
  · exact .inr (q2 F H v1 v2 A1 A2 d1 d2 d Q f x y e k)
theorem rep_int {K : PySem.W.Frag} {mg : Str → Option Value} {F H : Hp} {i : Int} {v : V} {A : List Addr} (h : Rep K mg F H (.int i) v A) : v = .int i := h.1
/-- ints in, under C, a scalar out -/
def oI (C : Int → Int → Bool) (g : Int → Int → Dv) : Dv → Dv → Option Dv
  | .int i, .int j => if C i j = true then some (g i j) else none
  | _, _ => none
def scV : Dv → V
  | .bl b => .bl b
  | .int i => .int i
  | .str s => .str s
  | _ => .non
def isSc : Dv → Bool
  | .bl _ => true
  | .int _ => true
  | .str _ => true
  | .non => true
  | _ => false
theorem rep_sc {K : PySem.W.Frag} {mg : Str → Option Value} {F H : Hp} : ∀ {d : Dv}, isSc d = true → Rep K mg F H d (scV d) []
  | .bl _, _ => ⟨rfl, rfl⟩
  | .int _, _ => ⟨rfl, rfl⟩
  | .str _, _ => ⟨rfl, rfl⟩
  | .non, _ => ⟨rfl, rfl⟩
theorem rep_scV {K : PySem.W.Frag} {mg : Str → Option Value} {F H : Hp} : ∀ {d : Dv} {v : V} {A : List Addr}, isSc d = true → Rep K mg F H d v A → v = scV d
  | .bl _, _, _, _, h => h.1
  | .int _, _, _, _, h => h.1
  | .str _, _, _, _, h => h.1
  | .non, _, _, _, h => h.1
theorem opI_P {X : Cx} {f : Value → Value → Sem Value} {C : Int → Int → Prop} {Cb : Int → Int → Bool} {g : Int → Int → Dv} (ho : OpR X f (rI C fun i j => scV (g i j))) (hC : ∀ i j, Cb i j = true → C i j) (hg : ∀ i j, isSc (g i j) = true) : OpP X f (oI Cb g) := by
  refine ⟨_, ho, fun F H v1 v2 A1 A2 d1 d2 d Q f x y e k => ?_⟩
  unfold oI at e
  split at e
  · rename_i i j
    cases rep_int x
    cases rep_int y
    split at e
    · rename_i hc
      cases e
      exact ⟨i, j, rfl, rfl, hC _ _ hc, k _ [] (rep_sc (hg i j))⟩
    · cases e
  · cases e
theorem opI0_P {X : Cx} {f : Value → Value → Sem Value} {g : Int → Int → Dv} (ho : OpR X f (rI0 fun i j => scV (g i j))) (hg : ∀ i j, isSc (g i j) = true) : OpP X f (oI (fun _ _ => true) g) := by
  refine opI_P (C := fun _ _ => True) (fun pins s σ H x y v u Q I rx ry h => ?_) (fun _ _ _ => trivial) hg
  obtain ⟨i, j, e1, e2, _, q⟩ := h
  exact ho pins s σ H x y v u Q I rx ry ⟨i, j, e1, e2, q⟩

/-! ### ints -/
section
variable {X : Cx}
def mulOk (i j : Int) : Bool := decide (i.natAbs < 2 ^ 64) || decide (j.natAbs < 2 ^ 64) || decide (i.natAbs.log2 + j.natAbs.log2 < 1000000)
theorem op_mulAny : OpR X (binaryOp .Mult) (rI (fun i j => mulOk i j = true) fun i j => .int (i * j)) := by
  intro pins s σ H x y v u Q I rx ry h
  obtain ⟨i, j, e1, e2, hc, q⟩ := h
  unfold mulOk at hc
  rw [Bool.or_eq_true, Bool.or_eq_true, decide_eq_true_eq, decide_eq_true_eq, decide_eq_true_eq] at hc
  rcases hc with (hc | hc) | hc
  · exact op_mul pins s σ H x y v u Q I rx ry ⟨i, j, e1, e2, .inl (by omega), q⟩
  · exact op_mul pins s σ H x y v u Q I rx ry ⟨i, j, e1, e2, .inr (by omega), q⟩
  · exact op_mulW pins s σ H x y v u Q I rx ry ⟨i, j, e1, e2, hc, q⟩
def oAddI := oI (fun _ _ => true) fun i j => .int (i + j)
def oSub := oI (fun _ _ => true) fun i j => .int (i - j)
def oMul := oI mulOk fun i j => .int (i * j)
def divOk (_ j : Int) : Bool := decide (0 < j) && decide (j.natAbs.log2 < 9000)
def oDiv := oI divOk fun i j => .int (i / j)
def oMod := oI (fun _ j => decide (0 < j)) fun i j => .int (i % j)
/-- // and % by any divisor, told by the plain ones where it is above 0 -/
def divOkA (_ j : Int) : Bool := !decide (j = 0) && decide (j.natAbs.log2 < 9000)
def oDivA := oI divOkA fun i j => .int (if 0 < j then i / j else i.fdiv j)
def oModA := oI (fun _ j => !decide (j = 0)) fun i j => .int (if 0 < j then i % j else i.fmod j)
def divOkN (_ j : Int) : Bool := !decide (j = 0) && decide (j.natAbs.log2 < 9000)
def oDivN := oI divOkN fun i j => .int (i.fdiv j)
def oModN := oI (fun _ j => !decide (j = 0)) fun i j => .int (i.fmod j)
def oXor := oI (fun _ _ => true) fun i j => .int (Builtin.bitXor i j)
def powOk (i j : Int) : Bool := decide (0 ≤ j) && decide (j ≤ 1000000) && decide (i.natAbs < 2 ^ 64)
def oPow := oI powOk fun i j => .int (i ^ j.toNat)
theorem op_fdivNW : OpR X (binaryOp .FloorDiv) (rI (fun _ j => j ≠ 0 ∧ j.natAbs.log2 < 9000) fun i j => .int (i.fdiv j)) := opI fun i j _ _ _ _ _ hc q => by
  have h1 : j ≠ 0 := hc.1
  exact floordiv_int h1 q (.inl (PyProof.noPylong_of_log2 hc.2))
theorem os_addI : OpP X (binaryOp .Add) oAddI := opI0_P op_add fun _ _ => rfl
theorem os_sub : OpP X (binaryOp .Sub) oSub := opI0_P op_sub fun _ _ => rfl
theorem os_mul : OpP X (binaryOp .Mult) oMul := opI_P op_mulAny (fun _ _ h => h) fun _ _ => rfl
theorem os_div : OpP X (binaryOp .FloorDiv) oDiv := opI_P op_fdivW (fun i j h => by
  unfold divOk at h
  rw [Bool.and_eq_true, decide_eq_true_eq, decide_eq_true_eq] at h
  exact h) fun _ _ => rfl
theorem os_mod : OpP X (binaryOp .Mod) oMod := opI_P op_mod (fun i j h => of_decide_eq_true h) fun _ _ => rfl
theorem os_divN : OpP X (binaryOp .FloorDiv) oDivN := opI_P op_fdivNW (fun i j h => by
  unfold divOkN at h
  rw [Bool.and_eq_true, decide_eq_true_eq, Bool.not_eq_true', decide_eq_false_iff_not] at h
  exact h) fun _ _ => rfl
theorem os_modN : OpP X (binaryOp .Mod) oModN := opI_P op_modN (fun i j h => by
  rw [Bool.not_eq_true', decide_eq_false_iff_not] at h
  exact h) fun _ _ => rfl
theorem os_divA : OpP X (binaryOp .FloorDiv) oDivA := opI_P (C := fun _ j => j ≠ 0 ∧ j.natAbs.log2 < 9000) (g := fun i j => .int (if 0 < j then i / j else i.fdiv j)) (by
  have e : (fun i j : Int => scV (.int (if 0 < j then i / j else i.fdiv j))) = fun i j => V.int (i.fdiv j) := by
    funext i j
    show V.int _ = V.int _
    by_cases h : 0 < j
    · rw [if_pos h, Int.fdiv_eq_ediv_of_nonneg i (by omega)]
    · rw [if_neg h]
  rw [e]
  exact op_fdivNW) (fun i j h => by
  unfold divOkA at h
  rw [Bool.and_eq_true, decide_eq_true_eq, Bool.not_eq_true', decide_eq_false_iff_not] at h
  exact h) fun _ _ => rfl
theorem os_modA : OpP X (binaryOp .Mod) oModA := opI_P (C := fun _ j => j ≠ 0) (g := fun i j => .int (if 0 < j then i % j else i.fmod j)) (by
  have e : (fun i j : Int => scV (.int (if 0 < j then i % j else i.fmod j))) = fun i j => V.int (i.fmod j) := by
    funext i j
    show V.int _ = V.int _
    by_cases h : 0 < j
    · rw [if_pos h, Int.fmod_eq_emod_of_nonneg i (by omega)]
    · rw [if_neg h]
  rw [e]
  exact op_modN) (fun i j h => by
  rw [Bool.not_eq_true', decide_eq_false_iff_not] at h
  exact h) fun _ _ => rfl
theorem os_xor : OpP X (binaryOp .BitXor) oXor := opI0_P op_xor fun _ _ => rfl
theorem os_pow : OpP X (binaryOp .Pow) oPow := opI_P op_pow (fun i j h => by
  unfold powOk at h
  rw [Bool.and_eq_true, Bool.and_eq_true, decide_eq_true_eq, decide_eq_true_eq, decide_eq_true_eq] at h
  exact ⟨h.1.1, h.1.2, h.2⟩) fun _ _ => rfl
def oLt := oI (fun _ _ => true) fun i j => .bl (decide (i < j))
def oLe := oI (fun _ _ => true) fun i j => .bl (decide (i ≤ j))
def oGt := oI (fun _ _ => true) fun i j => .bl (decide (j < i))
def oGe := oI (fun _ _ => true) fun i j => .bl (decide (j ≤ i))
theorem os_lt : OpP X (compareOp .Lt) oLt := opI0_P op_lt fun _ _ => rfl
theorem os_le : OpP X (compareOp .LtE) oLe := opI0_P op_le fun _ _ => rfl
theorem os_gt : OpP X (compareOp .Gt) oGt := opI0_P op_gt fun _ _ => rfl
theorem os_ge : OpP X (compareOp .GtE) oGe := opI0_P op_ge fun _ _ => rfl
/-- texts together -/
def oAddS : Dv → Dv → Option Dv
  | .int i, .int j => some (.int (i + j))
  | .str x, .str y => if x.length + y.length ≤ 1000000 then some (.str (x ++ y)) else none
  | _, _ => none
def oCatS : Dv → Dv → Option Dv
  | .str x, .str y => if x.length + y.length ≤ 1000000 then some (.str (x ++ y)) else none
  | _, _ => none
theorem os_catS : OpP X (binaryOp .Add) oCatS := by
  refine ⟨_, op_add_str, fun F H v1 v2 A1 A2 d1 d2 d Q f x y e k => ?_⟩
  unfold oCatS at e
  split at e
  · rename_i s1 s2
    split at e
    · rename_i hc
      cases e
      exact ⟨s1, s2, x.1, y.1, by rw [sizeLine_eq]; omega, k _ [] ⟨rfl, rfl⟩⟩
    · cases e
  · cases e
end

theorem os_addS {X : Cx} : OpP X (binaryOp .Add) oAddS := by
  obtain ⟨r1, p1, q1⟩ := os_addI (X := X)
  obtain ⟨r2, p2, q2⟩ := os_catS (X := X)
  refine ⟨_, OpR.or p1 p2, fun F H v1 v2 A1 A2 d1 d2 d Q f x y e k => ?_⟩
  unfold oAddS at e
  split at e
  · exact .inl (q1 F H v1 v2 A1 A2 _ _ d Q f x y e k)
  · exact .inr (q2 F H v1 v2 A1 A2 _ _ d Q f x y e k)
  · cases e

/-! ### equality of data -/
mutual
def pd : Dv → PyData
  | .non => .none
  | .bl b => .bool b
  | .int i => .int i
  | .str s => .str s
  | .tup _ ds => .tuple (pds ds)
  | .lst _ ds => .list (pds ds)
  | .dct _ _ _ _ => .dict []
  | .ins _ _ _ _ => .dict []
  | .scr _ => .dict []
  | .exc _ => .dict []
def pds : List Dv → List PyData
  | [] => []
  | d :: ds => pd d :: pds ds
end
/-- plain data, no deeper than n -/
def dok : Nat → Dv → Bool
  | _, .non => true
  | _, .bl _ => true
  | _, .int _ => true
  | _, .str s => PyData.strOk s
  | n + 1, .tup _ ds => ds.all (dok n)
  | n + 1, .lst _ ds => ds.all (dok n)
  | _, _ => false
mutual
def dEq : Dv → Dv → Bool
  | .non, .non => true
  | .bl a, .bl b => a == b
  | .bl a, .int j => (if a then 1 else 0) == j
  | .int i, .bl b => i == (if b then 1 else 0)
  | .int i, .int j => i == j
  | .str x, .str y => x == y
  | .tup _ xs, .tup _ ys => dEqs xs ys
  | .lst _ xs, .lst _ ys => dEqs xs ys
  | _, _ => false
def dEqs : List Dv → List Dv → Bool
  | [], [] => true
  | x :: xs, y :: ys => dEq x y && dEqs xs ys
  | _, _ => false
end
end Pyd
set_option maxRecDepth 100000
/-! PydC: more pure expressions: ==, subscripts, len, isinstance, and, or, not. -/
namespace Pyd
open PySem PySem.Spec PyProof.Rows L2

/-! ### plain data -/
mutual
theorem dok_lay : ∀ (n : Nat) (d : Dv), dok n d = true → (pd d).canLay0 = true ∧ (pd d).depth ≤ n
  | _, .non, _ => ⟨by simp [pd, PyData.canLay0], by simp [pd, PyData.depth]⟩
  | _, .bl _, _ => ⟨by simp [pd, PyData.canLay0], by simp [pd, PyData.depth]⟩
  | _, .int _, _ => ⟨by simp [pd, PyData.canLay0], by simp [pd, PyData.depth]⟩
  | n, .str s, h => by
    have h' : PyData.strOk s = true := by
      cases n <;> exact h
    exact ⟨by simpa [pd, PyData.canLay0] using h', by simp [pd, PyData.depth]⟩
  | n + 1, .tup g ds, h => by
    have h' : ds.all (dok n) = true := h
    obtain ⟨a, b⟩ := doks_lay n ds h'
    exact ⟨by simpa [pd, PyData.canLay0] using a, by simpa [pd, PyData.depth] using b⟩
  | n + 1, .lst o ds, h => by
    have h' : ds.all (dok n) = true := h
    obtain ⟨a, b⟩ := doks_lay n ds h'
    exact ⟨by simpa [pd, PyData.canLay0] using a, by simpa [pd, PyData.depth] using b⟩
  | 0, .tup _ _, h => by cases h
  | 0, .lst _ _, h => by cases h
  | n, .dct _ _ _ _, h => by cases n <;> cases h
  | n, .ins _ _ _ _, h => by cases n <;> cases h
  | n, .scr _, h => by cases n <;> cases h
  | n, .exc _, h => by cases n <;> cases h
theorem doks_lay : ∀ (n : Nat) (ds : List Dv), ds.all (dok n) = true → PyData.canLayAll0 (pds ds) = true ∧ PyData.depthAll (pds ds) ≤ n
  | _, [], _ => ⟨by simp [pds, PyData.canLayAll0], by simp [pds, PyData.depthAll]⟩
  | n, d :: ds, h => by
    have h' : (dok n d && ds.all (dok n)) = true := h
    rw [Bool.and_eq_true] at h'
    obtain ⟨a1, b1⟩ := dok_lay n d h'.1
    obtain ⟨a2, b2⟩ := doks_lay n ds h'.2
    exact ⟨by simp [pds, PyData.canLayAll0, a1, a2], by simp [pds, PyData.depthAll]; omega⟩
end
theorem dok_shaped {n : Nat} {d : Dv} (h : dok n d = true) (hn : n ≤ 64) : SeqAt.shaped (pd d) = true := by
  obtain ⟨a, b⟩ := dok_lay n d h
  unfold SeqAt.shaped
  rw [a]
  simp
  omega
theorem dok_succ : ∀ (n : Nat) (d : Dv), dok n d = true → dok (n + 1) d = true
  | _, .non, _ => rfl
  | _, .bl _, _ => rfl
  | _, .int _, _ => rfl
  | n, .str s, h => by
    cases n <;> exact h
  | n + 1, .tup g ds, h => by
    show ds.all (dok (n + 1)) = true
    have h' : ds.all (dok n) = true := h
    rw [List.all_eq_true] at h' ⊢
    exact fun x hx => dok_succ n x (h' x hx)
  | n + 1, .lst o ds, h => by
    show ds.all (dok (n + 1)) = true
    have h' : ds.all (dok n) = true := h
    rw [List.all_eq_true] at h' ⊢
    exact fun x hx => dok_succ n x (h' x hx)
  | 0, .tup _ _, h => by cases h
  | 0, .lst _ _, h => by cases h
  | n, .dct _ _ _ _, h => by cases n <;> cases h
  | n, .ins _ _ _ _, h => by cases n <;> cases h
  | n, .scr _, h => by cases n <;> cases h
  | n, .exc _, h => by cases n <;> cases h
theorem dok_le {n m : Nat} {d : Dv} (h : dok n d = true) (hm : n ≤ m) : dok m d = true := by
  induction hm with
  | refl => exact h
  | step _ ih => exact dok_succ _ _ ih
section
variable {K : PySem.W.Frag} {mg : Str → Option Value} {F H : Hp}
mutual
theorem Rep.dp (f : Fix F H) : ∀ (n : Nat) (d : Dv) {v : V} {A : List Addr}, dok n d = true → Rep K mg F H d v A → Dp K H v (pd d)
  | _, .non, v, A, _, h => by
    obtain ⟨rfl, _⟩ := h
    unfold pd
    exact .non
  | _, .bl b, v, A, _, h => by
    obtain ⟨rfl, _⟩ := h
    unfold pd
    exact .bl b
  | _, .int i, v, A, _, h => by
    obtain ⟨rfl, _⟩ := h
    unfold pd
    exact .int i
  | _, .str s, v, A, _, h => by
    obtain ⟨rfl, _⟩ := h
    unfold pd
    exact .str s
  | n + 1, .tup g ds, v, A, hd, h => by
    have hd' : ds.all (dok n) = true := hd
    obtain ⟨a, vs, rfl, h2, h3⟩ := h
    unfold pd
    exact .tup (f.sqT h2.sq) (Reps.dp f n ds hd' h3)
  | n + 1, .lst o ds, v, A, hd, h => by
    have hd' : ds.all (dok n) = true := hd
    obtain ⟨a, vs, B, rfl, h2, h3⟩ := h
    unfold pd
    refine .lst ?_ (Reps.dp f n ds hd' h2)
    cases o with
    | true =>
      rw [if_pos rfl] at h3
      exact .inl (.inl h3.1)
    | false =>
      rw [if_neg Bool.false_ne_true] at h3
      rcases f _ _ h3.1 with z | ⟨z, _⟩
      · exact .inl (.inl z)
      · exact z.elim
  | 0, .tup _ _, _, _, h, _ => by cases h
  | 0, .lst _ _, _, _, h, _ => by cases h
  | n, .dct _ _ _ _, _, _, h, _ => by cases n <;> cases h
  | n, .ins _ _ _ _, _, _, h, _ => by cases n <;> cases h
  | n, .scr _, _, _, h, _ => by cases n <;> cases h
  | n, .exc _, _, _, h, _ => by cases n <;> cases h
theorem Reps.dp (f : Fix F H) : ∀ (n : Nat) (ds : List Dv) {vs : List V} {A : List Addr}, ds.all (dok n) = true → Reps K mg F H ds vs A → DpAll K H vs (pds ds)
  | _, [], vs, A, _, h => by
    obtain ⟨rfl, _⟩ := h
    unfold pds
    exact .nil
  | n, d :: ds, vs, A, hd, h => by
    have h' : (dok n d && ds.all (dok n)) = true := hd
    rw [Bool.and_eq_true] at h'
    obtain ⟨v, vr, A1, A2, rfl, rfl, h2, h3⟩ := h
    unfold pds
    exact .cons (Rep.dp f n d h'.1 h2) (Reps.dp f n ds h'.2 h3)
end
end
mutual
theorem eqv_dEq : ∀ (n m : Nat) (d e : Dv), dok n d = true → dok m e = true → PyData.eqv (pd d) (pd e) = dEq d e
  | n + 1, m + 1, .tup g xs, .tup g' ys, hd, he => by
    unfold pd PyData.eqv dEq
    exact eqvs_dEqs n m xs ys hd he
  | n + 1, m + 1, .lst g xs, .lst g' ys, hd, he => by
    unfold pd PyData.eqv dEq
    exact eqvs_dEqs n m xs ys hd he
  | 0, _, .tup _ _, _, h, _ => by cases h
  | 0, _, .lst _ _, _, h, _ => by cases h
  | _, 0, _, .tup _ _, _, h => by cases h
  | _, 0, _, .lst _ _, _, h => by cases h
  | n, _, .dct _ _ _ _, _, h, _ => by cases n <;> cases h
  | n, _, .ins _ _ _ _, _, h, _ => by cases n <;> cases h
  | n, _, .scr _, _, h, _ => by cases n <;> cases h
  | n, _, .exc _, _, h, _ => by cases n <;> cases h
  | _, n, _, .dct _ _ _ _, _, h => by cases n <;> cases h
  | _, n, _, .ins _ _ _ _, _, h => by cases n <;> cases h
  | _, n, _, .scr _, _, h => by cases n <;> cases h
  | _, n, _, .exc _, _, h => by cases n <;> cases h
  | _, _, .non, .non, _, _ => by simp [pd, PyData.eqv, dEq]
  | _, _, .non, .bl _, _, _ => by simp [pd, PyData.eqv, dEq]
  | _, _, .non, .int _, _, _ => by simp [pd, PyData.eqv, dEq]
  | _, _, .non, .str _, _, _ => by simp [pd, PyData.eqv, dEq]
  | _, _ + 1, .non, .tup _ _, _, _ => by simp [pd, PyData.eqv, dEq]
  | _, _ + 1, .non, .lst _ _, _, _ => by simp [pd, PyData.eqv, dEq]
  | _, _, .bl _, .non, _, _ => by simp [pd, PyData.eqv, dEq]
  | _, _, .bl _, .bl _, _, _ => by simp [pd, PyData.eqv, dEq]
  | _, _, .bl _, .int _, _, _ => by simp [pd, PyData.eqv, dEq]
  | _, _, .bl _, .str _, _, _ => by simp [pd, PyData.eqv, dEq]
  | _, _ + 1, .bl _, .tup _ _, _, _ => by simp [pd, PyData.eqv, dEq]
  | _, _ + 1, .bl _, .lst _ _, _, _ => by simp [pd, PyData.eqv, dEq]
  | _, _, .int _, .non, _, _ => by simp [pd, PyData.eqv, dEq]
  | _, _, .int _, .bl _, _, _ => by simp [pd, PyData.eqv, dEq]
  | _, _, .int _, .int _, _, _ => by simp [pd, PyData.eqv, dEq]
  | _, _, .int _, .str _, _, _ => by simp [pd, PyData.eqv, dEq]
  | _, _ + 1, .int _, .tup _ _, _, _ => by simp [pd, PyData.eqv, dEq]
  | _, _ + 1, .int _, .lst _ _, _, _ => by simp [pd, PyData.eqv, dEq]
  | _, _, .str _, .non, _, _ => by simp [pd, PyData.eqv, dEq]
  | _, _, .str _, .bl _, _, _ => by simp [pd, PyData.eqv, dEq]
  | _, _, .str _, .int _, _, _ => by simp [pd, PyData.eqv, dEq]
  | _, _, .str _, .str _, _, _ => by simp [pd, PyData.eqv, dEq]
  | _, _ + 1, .str _, .tup _ _, _, _ => by simp [pd, PyData.eqv, dEq]
  | _, _ + 1, .str _, .lst _ _, _, _ => by simp [pd, PyData.eqv, dEq]
  | _ + 1, _, .tup _ _, .non, _, _ => by simp [pd, PyData.eqv, dEq]
  | _ + 1, _, .tup _ _, .bl _, _, _ => by simp [pd, PyData.eqv, dEq]
  | _ + 1, _, .tup _ _, .int _, _, _ => by simp [pd, PyData.eqv, dEq]
  | _ + 1, _, .tup _ _, .str _, _, _ => by simp [pd, PyData.eqv, dEq]
  | _ + 1, _ + 1, .tup _ _, .lst _ _, _, _ => by simp [pd, PyData.eqv, dEq]
  | _ + 1, _, .lst _ _, .non, _, _ => by simp [pd, PyData.eqv, dEq]
  | _ + 1, _, .lst _ _, .bl _, _, _ => by simp [pd, PyData.eqv, dEq]
  | _ + 1, _, .lst _ _, .int _, _, _ => by simp [pd, PyData.eqv, dEq]
  | _ + 1, _, .lst _ _, .str _, _, _ => by simp [pd, PyData.eqv, dEq]
  | _ + 1, _ + 1, .lst _ _, .tup _ _, _, _ => by simp [pd, PyData.eqv, dEq]
theorem eqvs_dEqs : ∀ (n m : Nat) (ds es : List Dv), ds.all (dok n) = true → es.all (dok m) = true → PyData.eqvAll (pds ds) (pds es) = dEqs ds es
  | _, _, [], [], _, _ => by simp [pds, PyData.eqvAll, dEqs]
  | _, _, [], _ :: _, _, _ => by simp [pds, PyData.eqvAll, dEqs]
  | _, _, _ :: _, [], _, _ => by simp [pds, PyData.eqvAll, dEqs]
  | n, m, d :: ds, e :: es, hd, he => by
    have h1 : (dok n d && ds.all (dok n)) = true := hd
    have h2 : (dok m e && es.all (dok m)) = true := he
    rw [Bool.and_eq_true] at h1 h2
    unfold pds PyData.eqvAll dEqs
    rw [eqv_dEq n m d e h1.1 h2.1, eqvs_dEqs n m ds es h1.2 h2.2]
end
/-- == of plain data -/
def oEq : Dv → Dv → Option Dv := fun x y => if dok 60 x = true ∧ dok 60 y = true then some (.bl (dEq x y)) else none
def oNe : Dv → Dv → Option Dv := fun x y => if dok 60 x = true ∧ dok 60 y = true then some (.bl (!dEq x y)) else none
section
variable {X : Cx} {W : WX} {a b c : Expr} {fa fb fc : SP} {pos : Pos}
theorem os_eq (hu : X.A.units + 64 < cLine) : OpP X (compareOp .Eq) oEq := by
  refine ⟨_, op_eqD hu, fun F H v1 v2 A1 A2 d1 d2 d Q f x y e k => ?_⟩
  unfold oEq at e
  split at e
  · rename_i h
    cases e
    refine ⟨_, _, x.dp f 60 d1 h.1, y.dp f 60 d2 h.2, dok_shaped h.1 (by decide), dok_shaped h.2 (by decide), ?_⟩
    rw [eqv_dEq 60 60 d1 d2 h.1 h.2]
    exact k _ [] ⟨rfl, rfl⟩
  · cases e
theorem os_ne (hu : X.A.units + 64 < cLine) : OpP X (compareOp .NotEq) oNe := by
  refine ⟨_, op_neD hu, fun F H v1 v2 A1 A2 d1 d2 d Q f x y e k => ?_⟩
  unfold oNe at e
  split at e
  · rename_i h
    cases e
    refine ⟨_, _, x.dp f 60 d1 h.1, y.dp f 60 d2 h.2, dok_shaped h.1 (by decide), dok_shaped h.2 (by decide), ?_⟩
    rw [eqv_dEq 60 60 d1 d2 h.1 h.2]
    exact k _ [] ⟨rfl, rfl⟩
  · cases e
/-! ### None -/
def oIsN : Dv → Dv → Option Dv := fun x y => match y with
  | .non => some (.bl (match x with | .non => true | _ => false))
  | _ => none
def oNotN : Dv → Dv → Option Dv := fun x y => match y with
  | .non => some (.bl (match x with | .non => false | _ => true))
  | _ => none
theorem rep_non {K : PySem.W.Frag} {mg : Str → Option Value} {F H : Hp} : ∀ {d : Dv} {v : V} {A : List Addr}, Rep K mg F H d v A → decide (v = .non) = (match d with | .non => true | _ => false)
  | .non, _, _, h => by simp [h.1]
  | .bl _, _, _, h => by simp [h.1]
  | .int _, _, _, h => by simp [h.1]
  | .str _, _, _, h => by simp [h.1]
  | .tup _ _, _, _, h => by
    obtain ⟨a, vs, rfl, _⟩ := h
    simp
  | .lst _ _, _, _, h => by
    obtain ⟨a, vs, B, rfl, _⟩ := h
    simp
  | .dct _ _ _ _, _, _, h => by
    obtain ⟨a, vs, B, u, rfl, _⟩ := h
    simp
  | .ins _ _ _ _, _, _, h => by
    obtain ⟨a, C, dx, vs, B, rfl, _⟩ := h
    simp
  | .scr _, _, _, h => by
    obtain ⟨a, rfl, _⟩ := h
    simp
  | .exc _, _, _, h => by
    obtain ⟨a, C, rfl, _⟩ := h
    simp
theorem os_isN : OpP X (compareOp .Is) oIsN := by
  refine ⟨_, op_isN, fun F H v1 v2 A1 A2 d1 d2 d Q f x y e k => ?_⟩
  unfold oIsN at e
  split at e
  · cases e
    refine ⟨y.1, ?_⟩
    rw [rep_non x]
    exact k _ [] ⟨rfl, rfl⟩
  · cases e
theorem os_notN : OpP X (compareOp .IsNot) oNotN := by
  refine ⟨_, op_notN, fun F H v1 v2 A1 A2 d1 d2 d Q f x y e k => ?_⟩
  unfold oNotN at e
  split at e
  · cases e
    refine ⟨y.1, ?_⟩
    rw [rep_non x]
    refine k _ [] ⟨?_, rfl⟩
    cases d1 <;> rfl
  · cases e
/-! ### subscripts -/
theorem Reps.at {K : PySem.W.Frag} {mg : Str → Option Value} {F H : Hp} : ∀ {ds : List Dv} {vs : List V} {A : List Addr} {j : Nat} {d : Dv}, Reps K mg F H ds vs A → ds[j]? = some d → ∃ v B, vs[j]? = some v ∧ Rep K mg F H d v B
  | [], _, _, _, _, _, e => by simp at e
  | d0 :: ds, vs, A, 0, d, h, e => by
    obtain ⟨v, vr, A1, A2, rfl, rfl, h2, h3⟩ := h
    have e' : d0 = d := by simpa using e
    subst e'
    exact ⟨v, A1, rfl, h2⟩
  | d0 :: ds, vs, A, j + 1, d, h, e => by
    obtain ⟨v, vr, A1, A2, rfl, rfl, h2, h3⟩ := h
    obtain ⟨w, B, h4, h5⟩ := Reps.at (j := j) h3 (by simpa using e)
    exact ⟨w, B, by simpa using h4, h5⟩
theorem atI_of {α : Type} {xs : List α} {i : Int} {x : α} (h : atI xs i = some x) : ∃ j, ixN xs.length i = some j ∧ xs[j]? = some x := by
  unfold atI at h
  exact Option.bind_eq_some_iff.mp h
theorem Reps.atI {K : PySem.W.Frag} {mg : Str → Option Value} {F H : Hp} {ds : List Dv} {vs : List V} {A : List Addr} {i : Int} {d : Dv} (h : Reps K mg F H ds vs A) (e : L2.atI ds i = some d) : ∃ v B, L2.atI vs i = some v ∧ Rep K mg F H d v B := by
  obtain ⟨j, h1, h2⟩ := atI_of e
  obtain ⟨v, B, h3, h4⟩ := h.at h2
  refine ⟨v, B, ?_, h4⟩
  unfold L2.atI
  rw [h.len, h1]
  exact h3
def oIx : Dv → Dv → Option Dv
  | .scr ns, .int i => (L2.atI ns i).map .int
  | .tup _ ds, .int i => L2.atI ds i
  | .lst _ ds, .int i => L2.atI ds i
  | .str s, .int i => if s.length ≤ 1000000 then (L2.atI s.cps.toList i).map fun c => .str ⟨#[c]⟩ else none
  | _, _ => none
def rIxA (K : PySem.W.Frag) : R2 := fun x y H Q => rIxT K x y H Q ∨ rIxL K x y H Q ∨ rIxS x y H Q
theorem ix_any : IxR X (rIxA X.K) := fun value slice pins s σ H x y v u Q I rx ry h hs => by
  rcases h with h | h | h
  · exact ix_tup value slice pins s σ H x y v u Q I rx ry h hs
  · exact ix_list value slice pins s σ H x y v u Q I rx ry h hs
  · exact ix_str value slice pins s σ H x y v u Q I rx ry h hs
theorem rep_sqL {K : PySem.W.Frag} {mg : Str → Option Value} {F H : Hp} {o : Bool} {ds : List Dv} {v : V} {A : List Addr} (f : Fix F H) (h : Rep K mg F H (.lst o ds) v A) : ∃ a vs B, v = .ref a ∧ SqL K H a vs ∧ Reps K mg F H ds vs B := by
  obtain ⟨a, vs, B, rfl, h2, h3⟩ := h
  refine ⟨a, vs, B, rfl, ?_, h2⟩
  cases o with
  | true =>
    rw [if_pos rfl] at h3
    exact .inl (.inl h3.1)
  | false =>
    rw [if_neg Bool.false_ne_true] at h3
    rcases f _ _ h3.1 with z | ⟨z, _⟩
    · exact .inl (.inl z)
    · exact z.elim
theorem rep_sqT {K : PySem.W.Frag} {mg : Str → Option Value} {F H : Hp} {g : Bool} {ds : List Dv} {v : V} {A : List Addr} (f : Fix F H) (h : Rep K mg F H (.tup g ds) v A) : ∃ a vs, v = .ref a ∧ SqT K H a vs ∧ Reps K mg F H ds vs A := by
  obtain ⟨a, vs, rfl, h2, h3⟩ := h
  exact ⟨a, vs, rfl, f.sqT h2.sq, h3⟩
theorem rIx_of {F H : Hp} {v1 v2 : V} {A1 A2 : List Addr} {d1 d2 d : Dv} {Q : VK} (f : Fix F H) (x : Rep X.K X.mg F H d1 v1 A1) (y : Rep X.K X.mg F H d2 v2 A2) (e : oIx d1 d2 = some d) (k : ∀ v A, Rep X.K X.mg F H d v A → Q v H) : rIxA X.K v1 v2 H Q := by
  unfold oIx at e
  split at e
  · rename_i ns i
    obtain ⟨a, rfl, h1, _⟩ := x
    obtain ⟨j, hj, e2⟩ := Option.map_eq_some_iff.mp e
    subst e2
    refine .inr (.inl ⟨a, _, i, .int j, rfl, y.1, f.sqL h1, ?_, k _ [] ⟨rfl, rfl⟩⟩)
    obtain ⟨m, h3, h4⟩ := atI_of hj
    unfold L2.atI
    rw [List.length_map, h3]
    show (ns.map V.int)[m]? = _
    rw [List.getElem?_map, h4]
    rfl
  · obtain ⟨a, vs, rfl, h1, h2⟩ := rep_sqT f x
    obtain ⟨v, B, h3, h4⟩ := h2.atI e
    exact .inl ⟨a, vs, _, v, rfl, y.1, h1, h3, k v B h4⟩
  · obtain ⟨a, vs, B', rfl, h1, h2⟩ := rep_sqL f x
    obtain ⟨v, B, h3, h4⟩ := h2.atI e
    exact .inr (.inl ⟨a, vs, _, v, rfl, y.1, h1, h3, k v B h4⟩)
  · split at e
    · rename_i s i hc
      obtain ⟨c, hc1, hc2⟩ := Option.map_eq_some_iff.mp e
      subst hc2
      exact .inr (.inr ⟨s, i, c, x.1, y.1, by rw [sizeLine_eq]; omega, hc1, k _ [] ⟨rfl, rfl⟩⟩)
    · cases e
  · cases e
theorem snd_p2 {K : PySem.W.Frag} {mg : Str → Option Value} {r : R2} {o : Dv → Dv → Option Dv} {ta tb : TE} (ha : SndP K mg ta fa) (hb : SndP K mg tb fb)
    (q : ∀ (F H : Hp) (v1 v2 : V) (A1 A2 : List Addr) (d1 d2 d : Dv) (Q : VK), Fix F H → Rep K mg F H d1 v1 A1 → Rep K mg F H d2 v2 A2 → o d1 d2 = some d → (∀ v A, Rep K mg F H d v A → Q v H) → r v1 v2 H Q) : SndP K mg (tOp r ta tb) (pBin o fa fb) := fun F H σ ρ T Q n h => by
  obtain ⟨d, h, k⟩ := h
  obtain ⟨x, y, ex, ey, e⟩ := o2_some h
  exact ha F H σ ρ T _ n ⟨x, ex, fun v1 A1 r1 => hb F H σ ρ T _ n ⟨y, ey, fun v2 A2 r2 => q F H v1 v2 A1 A2 x y d Q n.fixed r1 r2 e k⟩⟩
theorem jp_bin {op : Operator} {o : Dv → Dv → Option Dv} (ho : OpP X (binaryOp op) o) (ha : JP X a fa) (hb : JP X b fb) : JP X (.BinOp a op b pos) (pBin o fa fb) := by
  obtain ⟨ta, pa, sa⟩ := ha
  obtain ⟨tb, pb, sb⟩ := hb
  obtain ⟨r, p, q⟩ := ho
  exact ⟨_, pe_op p pa pb, snd_p2 sa sb q⟩
theorem jp_cmp {op : CmpOp} {o : Dv → Dv → Option Dv} (ho : OpP X (compareOp op) o) (ha : JP X a fa) (hb : JP X b fb) (hm : behindInMarks op b = false := by first | exact nomark _ | rfl) : JP X (.Compare a [op] [b] pos) (pBin o fa fb) := by
  obtain ⟨ta, pa, sa⟩ := ha
  obtain ⟨tb, pb, sb⟩ := hb
  obtain ⟨r, p, q⟩ := ho
  exact ⟨_, pe_cmpR p pa pb hm, snd_p2 sa sb q⟩
theorem jp_ix (ha : JP X a fa) (hb : JP X b fb) (hs : PlainIx b := by exact fun _ _ => rfl) : JP X (.Subscript a b pos) (pBin oIx fa fb) := by
  obtain ⟨ta, pa, sa⟩ := ha
  obtain ⟨tb, pb, sb⟩ := hb
  exact ⟨_, pe_ix ix_any pa pb hs, snd_p2 sa sb fun F H v1 v2 A1 A2 d1 d2 d Q f x y e k => rIx_of f x y e k⟩
/-- -a -/
def oNeg : Dv → Option Dv
  | .int i => some (.int (-i))
  | _ => none
theorem jp_neg (ha : JP X a fa) : JP X (.UnaryOp .USub a pos) (pUn oNeg fa) := by
  obtain ⟨ta, pa, sa⟩ := ha
  refine ⟨_, pe_un un_neg pa, fun F H σ ρ T Q n h => ?_⟩
  obtain ⟨d, h, k⟩ := h
  obtain ⟨x, ex, e⟩ := Option.bind_eq_some_iff.mp h
  refine sa F H σ ρ T _ n ⟨x, ex, fun v A r => ?_⟩
  cases x <;> first | (cases e; done) | skip
  cases e
  exact ⟨_, r.1, k _ [] ⟨rfl, rfl⟩⟩
/-- a < b < c -/
def pChain (o o' : Dv → Dv → Option Dv) (fa fb fc : SP) : SP := fun ρ => (o2 (fa ρ) (fb ρ) o).bind fun z => match z with
  | .bl true => o2 (fb ρ) (fc ρ) o'
  | .bl false => some (.bl false)
  | _ => none
theorem snd_chain {K : PySem.W.Frag} {mg : Str → Option Value} {r r' : R2} {o o' : Dv → Dv → Option Dv} {ta tb tc : TE} (ha : SndP K mg ta fa) (hb : SndP K mg tb fb) (hc : SndP K mg tc fc)
    (q : ∀ (F H : Hp) (v1 v2 : V) (A1 A2 : List Addr) (d1 d2 d : Dv) (Q : VK), Fix F H → Rep K mg F H d1 v1 A1 → Rep K mg F H d2 v2 A2 → o d1 d2 = some d → (∀ v A, Rep K mg F H d v A → Q v H) → r v1 v2 H Q)
    (q' : ∀ (F H : Hp) (v1 v2 : V) (A1 A2 : List Addr) (d1 d2 d : Dv) (Q : VK), Fix F H → Rep K mg F H d1 v1 A1 → Rep K mg F H d2 v2 A2 → o' d1 d2 = some d → (∀ v A, Rep K mg F H d v A → Q v H) → r' v1 v2 H Q) : SndP K mg (tChain r r' ta tb tc) (pChain o o' fa fb fc) := fun F H σ ρ T Q n h => by
  obtain ⟨d, h, k⟩ := h
  obtain ⟨z, hz, h⟩ := Option.bind_eq_some_iff.mp h
  obtain ⟨x, y, ex, ey, e⟩ := o2_some hz
  refine ha F H σ ρ T _ n ⟨x, ex, fun v1 A1 r1 => hb F H σ ρ T _ n ⟨y, ey, fun v2 A2 r2 => q F H v1 v2 A1 A2 x y z _ n.fixed r1 r2 e fun v A rz => ?_⟩⟩
  split at h
  · refine ⟨true, rz.1, ?_⟩
    rw [if_pos rfl]
    obtain ⟨y', w, ey', ew, e'⟩ := o2_some h
    rw [ey] at ey'
    cases ey'
    exact hc F H σ ρ T _ n ⟨w, ew, fun v3 A3 r3 => q' F H v2 v3 A2 A3 y w d Q n.fixed r2 r3 e' k⟩
  · refine ⟨false, rz.1, ?_⟩
    rw [if_neg Bool.false_ne_true]
    cases h
    exact k _ [] ⟨rfl, rfl⟩
  · cases h
theorem jp_chain {op op' : CmpOp} {o o' : Dv → Dv → Option Dv} (ho : OpP X (compareOp op) o) (ho' : OpP X (compareOp op') o') (ha : JP X a fa) (hb : JP X b fb) (hc : JP X c fc)
    (hm : lastMarks [op, op'] [b, c] = false := by with_unfolding_all rfl) : JP X (.Compare a [op, op'] [b, c] pos) (pChain o o' fa fb fc) := by
  obtain ⟨ta, pa, sa⟩ := ha
  obtain ⟨tb, pb, sb⟩ := hb
  obtain ⟨tc, pc, sc⟩ := hc
  obtain ⟨r, p, q⟩ := ho
  obtain ⟨r', p', q'⟩ := ho'
  exact ⟨_, pe_chain p p' pa pb pc hm, snd_chain sa sb sc q q'⟩
/-! ### arguments, builtin calls -/
def pA0 : SPA := fun _ => some []
def pA1 (fa : SP) (fr : SPA) : SPA := fun ρ => o2 (fa ρ) (fr ρ) fun d ds => some (d :: ds)
theorem jpa_nil : JPA X [] pA0 := ⟨_, pa_nil, fun F H σ ρ T Q n h => by
  obtain ⟨ds, h, k⟩ := h
  cases h
  exact k [] [] ⟨rfl, rfl⟩⟩
theorem jpa_cons {es : List Expr} {fr : SPA} (ha : JP X a fa) (hr : JPA X es fr) (hs : starEach (a :: es) X.env = (false, eval a X.env) :: starEach es X.env := by rfl) : JPA X (a :: es) (pA1 fa fr) := by
  obtain ⟨ta, pa, sa⟩ := ha
  obtain ⟨tr, pr, sr⟩ := hr
  refine ⟨_, pa_cons pa pr hs, fun F H σ ρ T Q n h => ?_⟩
  obtain ⟨ds, h, k⟩ := h
  obtain ⟨x, xs, ex, exs, e⟩ := o2_some h
  cases e
  exact sa F H σ ρ T _ n ⟨x, ex, fun v A r => sr F H σ ρ T _ n ⟨xs, exs, fun vs B rs => k (v :: vs) (A ++ B) ⟨v, vs, A, B, rfl, rfl, r, rs⟩⟩⟩
/-- the builtin f does on trees what o says -/
def CallP (X : Cx) (f : Value) (o : List Dv → Option Dv) : Prop :=
  ∃ r, CallR X f r ∧ ∀ (F H : Hp) (vs : List V) (A : List Addr) (ds : List Dv) (d : Dv) (Q : VK), Fix F H → Reps X.K X.mg F H ds vs A → o ds = some d → (∀ v A, Rep X.K X.mg F H d v A → Q v H) → r vs H Q
def pCall (o : List Dv → Option Dv) (fs : SPA) : SP := fun ρ => (fs ρ).bind o
theorem snd_pcall {K : PySem.W.Frag} {mg : Str → Option Value} {r : List V → Hp → VK → Prop} {o : List Dv → Option Dv} {ta : TA} {fs : SPA} (ha : SndPA K mg ta fs)
    (q : ∀ (F H : Hp) (vs : List V) (A : List Addr) (ds : List Dv) (d : Dv) (Q : VK), Fix F H → Reps K mg F H ds vs A → o ds = some d → (∀ v A, Rep K mg F H d v A → Q v H) → r vs H Q) : SndP K mg (tCB r ta) (pCall o fs) := fun F H σ ρ T Q n h => by
  obtain ⟨d, h, k⟩ := h
  obtain ⟨ds, e1, e2⟩ := Option.bind_eq_some_iff.mp h
  exact ha F H σ ρ T _ n ⟨ds, e1, fun vs A rs => q F H vs A ds d Q n.fixed rs e2 k⟩
theorem jp_callB {x : Str} {id : String} {o : List Dv → Option Dv} {p : Pos} {es : List Expr} {fs : SPA} (ho : CallP X (.builtin id) o) (hm : X.mg x = none) (hv : bootBuiltins x = some (.builtin id)) (ha : JPA X (a :: es) fs) (hg : Gl X x := by rfl)
    (hn : x ≠ "__name__" := by decide) (hdb : (x == ("__debug__" : Str)) = false := by decide) (he : starEach (a :: es) X.env = (false, eval a X.env) :: starEach es X.env := by rfl) (hpl : (backTo pos (starEach es X.env)).any (·.1) = false := by rfl) :
    JP X (.Call (.Name x p) (a :: es) [] pos) (pCall o fs) := by
  obtain ⟨ta, pa, sa⟩ := ha
  obtain ⟨r, pr, q⟩ := ho
  exact ⟨_, pe_callB pr hg hm hv pa hn hdb he hpl, snd_pcall sa q⟩
theorem jp_callTy {x : Str} {id : String} {o : List Dv → Option Dv} {p : Pos} {es : List Expr} {fs : SPA} (ho : CallP X (.type id) o) (hm : X.mg x = none) (hv : bootBuiltins x = some (.type id)) (ha : JPA X (a :: es) fs) (hg : Gl X x := by rfl)
    (hn : x ≠ "__name__" := by decide) (hdb : (x == ("__debug__" : Str)) = false := by decide) (he : starEach (a :: es) X.env = (false, eval a X.env) :: starEach es X.env := by rfl) (hpl : (backTo pos (starEach es X.env)).any (·.1) = false := by rfl) :
    JP X (.Call (.Name x p) (a :: es) [] pos) (pCall o fs) := by
  obtain ⟨ta, pa, sa⟩ := ha
  obtain ⟨r, pr, q⟩ := ho
  exact ⟨_, pe_callTy pr hg hm hv pa hn hdb he hpl, snd_pcall sa q⟩
def cLen : List Dv → Option Dv
  | [.scr ns] => some (.int ns.length)
  | [.tup _ ds] => some (.int ds.length)
  | [.lst _ ds] => some (.int ds.length)
  | [.str s] => if s.length ≤ 1000000 then some (.int s.length) else none
  | _ => none
theorem reps_one {K : PySem.W.Frag} {mg : Str → Option Value} {F H : Hp} {d : Dv} {vs : List V} {A : List Addr} (h : Reps K mg F H [d] vs A) : ∃ v B, vs = [v] ∧ Rep K mg F H d v B := by
  obtain ⟨v, vr, A1, A2, rfl, rfl, h1, rfl, _⟩ := h
  exact ⟨v, A1, rfl, h1⟩
theorem cs_len : CallP X (.builtin "len") cLen := by
  refine ⟨_, call_len, fun F H vs A ds d Q f rs e k => ?_⟩
  unfold cLen at e
  split at e
  · obtain ⟨v, B, rfl, r⟩ := reps_one rs
    obtain ⟨a, rfl, h1, _⟩ := r
    cases e
    exact ⟨_, _, rfl, .inl ⟨_, f.sqL h1, by rw [List.length_map]⟩, k _ [] ⟨rfl, rfl⟩⟩
  · obtain ⟨v, B, rfl, r⟩ := reps_one rs
    obtain ⟨a, vs, rfl, h1, h2⟩ := rep_sqT f r
    cases e
    exact ⟨_, _, rfl, .inr ⟨_, h1, by rw [h2.len]⟩, k _ [] ⟨rfl, rfl⟩⟩
  · obtain ⟨v, B, rfl, r⟩ := reps_one rs
    obtain ⟨a, vs, B', rfl, h1, h2⟩ := rep_sqL f r
    cases e
    exact ⟨_, _, rfl, .inl ⟨_, h1, by rw [h2.len]⟩, k _ [] ⟨rfl, rfl⟩⟩
  · obtain ⟨v, B, rfl, r⟩ := reps_one rs
    split at e
    · rename_i s hc
      cases e
      obtain ⟨rfl, _⟩ := r
      exact ⟨_, _, rfl, ⟨by rw [sizeLine_eq]; omega, rfl⟩, k _ [] ⟨rfl, rfl⟩⟩
    · cases e
  · cases e
def cAbs : List Dv → Option Dv
  | [.int i] => some (.int (if i < 0 then -i else i))
  | _ => none
theorem cs_abs : CallP X (.builtin "abs") cAbs := by
  refine ⟨_, call_abs, fun F H vs A ds d Q f rs e k => ?_⟩
  unfold cAbs at e
  split at e
  · obtain ⟨v, B, rfl, rfl, _⟩ := reps_one rs
    cases e
    exact ⟨_, rfl, k _ [] ⟨rfl, rfl⟩⟩
  · cases e
end
end Pyd
set_option maxRecDepth 100000
/-! PydD: expressions that make things: displays, calls of defs, comprehensions; tests; iterators; targets. -/
namespace Pyd
open PySem PySem.Spec PyProof.Rows L2

/-! ### roots and lists of roots -/
section
variable {K : PySem.W.Frag} {mg : Str → Option Value} {F F' H H' : Hp} {σ : L2.St} {ρ : En} {T L : List Root}
theorem vals_of : ∀ {vs : List V} {ds : List Dv} {A : List Addr}, vs.length = ds.length → RepRs K mg F H (vals vs ds) A → Reps K mg F H ds vs A
  | [], [], A, _, h => ⟨rfl, h⟩
  | v :: vs, d :: ds, A, hl, h => by
    obtain ⟨A1, A2, rfl, h1, h2⟩ := h
    exact ⟨v, vs, A1, A2, rfl, rfl, h1, vals_of (by simpa using hl) h2⟩
  | [], _ :: _, _, hl, _ => by simp at hl
  | _ :: _, [], _, hl, _ => by simp at hl
theorem of_vals : ∀ {vs : List V} {ds : List Dv} {A : List Addr}, Reps K mg F H ds vs A → RepRs K mg F H (vals vs ds) A
  | vs, [], A, h => by
    obtain ⟨rfl, rfl⟩ := h
    rfl
  | vs, d :: ds, A, h => by
    obtain ⟨v, vr, A1, A2, rfl, rfl, h1, h2⟩ := h
    exact ⟨A1, A2, rfl, h1, of_vals h2⟩
/-- roots together as one, by what they own -/
theorem Rel.join {r : Root} {rs : List Root} (h : Rel K mg F H (rs ++ T)) (f : ∀ A, RepRs K mg F H rs A → RepR K mg F H r A) : Rel K mg F H (r :: T) := by
  obtain ⟨x, A, h1, h2, h3⟩ := h
  obtain ⟨A1, A2, rfl, q1, q2⟩ := h1.append
  exact ⟨x, A1 ++ A2, ⟨A1, A2, rfl, f A1 q1, q2⟩, h2, h3⟩
theorem Rel.add {v : V} {d : Dv} (h : Rel K mg F H T) (r : Rep K mg F H d v []) : Rel K mg F H (.val v d :: T) := by
  obtain ⟨x, A, h1, h2, h3⟩ := h
  exact ⟨x, A, ⟨[], A, rfl, r, h1⟩, h2, h3⟩
theorem Rel.of (h : Rel K mg F H (L ++ T)) : ∃ A, RepRs K mg F H L A := by
  obtain ⟨x, A, h1, h2, h3⟩ := h
  obtain ⟨A1, A2, rfl, q1, q2⟩ := h1.append
  exact ⟨A1, q1⟩
/-- a tuple is made -/
theorem Rel.tup {vs : List V} {ds : List Dv} {p : Addr} (g : Bool) (h : Rel K mg F H (vals vs ds ++ T)) (hl : vs.length = ds.length) (hp : H p = none) : Rel K mg (upd F p (.tup vs)) (upd H p (.tup vs)) (.val (.ref p) (.tup g ds) :: T) := by
  refine (h.new (o := .tup vs) hp).join fun A q => ⟨p, vs, rfl, ?_, vals_of hl q⟩
  cases g with
  | true => exact .inl (.inl upd_same)
  | false => exact upd_same
/-- a list is made -/
theorem Rel.lst {vs : List V} {ds : List Dv} {p : Addr} (h : Rel K mg F H (vals vs ds ++ T)) (hl : vs.length = ds.length) (hp : H p = none) : Rel K mg F (upd H p (.lst vs)) (.val (.ref p) (.lst true ds) :: T) := by
  have q := h.newO (o := .lst vs) hp
  refine Rel.join (rs := .cell p (.lst vs) :: vals vs ds) q fun A q => ?_
  obtain ⟨A1, A2, rfl, ⟨h1, rfl⟩, h2⟩ := q
  refine ⟨p, vs, A2, rfl, vals_of hl h2, ?_⟩
  rw [if_pos rfl]
  exact ⟨h1, rfl⟩
/-- a fixed child of a root -/
theorem Rel.kid {r : Root} {v : V} {d : Dv} {B : List Addr} (h : Rel K mg F H (r :: T)) (k : Rep K mg F H d v B) (z : fzn d = true) : Rel K mg F H (.val v d :: r :: T) := by
  have e := Rep.nil d z k
  subst e
  exact h.add k
theorem vals_append : ∀ {vs ws : List V} {ds es : List Dv}, vs.length = ds.length → vals (vs ++ ws) (ds ++ es) = vals vs ds ++ vals ws es
  | [], ws, [], es, _ => rfl
  | v :: vs, ws, d :: ds, es, hl => by
    show Root.val v d :: vals (vs ++ ws) (ds ++ es) = _
    rw [vals_append (by simpa using hl)]
    rfl
  | [], _, _ :: _, _, hl => by simp at hl
  | _ :: _, _, [], _, hl => by simp at hl
theorem fzs_append : ∀ (xs ys : List Dv), fzs (xs ++ ys) = fzs xs ++ fzs ys
  | [], _ => rfl
  | x :: xs, ys => by
    show fz x :: fzs (xs ++ ys) = fz x :: (fzs xs ++ fzs ys)
    rw [fzs_append xs ys]
theorem fzs_length : ∀ (xs : List Dv), (fzs xs).length = xs.length
  | [] => rfl
  | x :: xs => by
    show (fzs xs).length + 1 = xs.length + 1
    rw [fzs_length xs]
/-- all of them are fixed -/
theorem Rel.fixAll : ∀ {vs : List V} {ds : List Dv} {T : List Root} {F : Hp}, vs.length = ds.length → Rel K mg F H (vals vs ds ++ T) → ∃ F', Rel K mg F' H (vals vs (fzs ds) ++ T)
  | [], [], T, F, _, h => ⟨F, h⟩
  | v :: vs, d :: ds, T, F, hl, h => by
    obtain ⟨F1, _, h1⟩ := Rel.fix (rs := vals vs ds ++ T) h
    have h2 : Rel K mg F1 H (vals vs ds ++ (.val v (fz d) :: T)) := h1.perm List.perm_middle.symm
    obtain ⟨F2, h3⟩ := Rel.fixAll (by simpa using hl) h2
    exact ⟨F2, h3.perm List.perm_middle⟩
  | [], _ :: _, _, _, hl, _ => by simp at hl
  | _ :: _, [], _, _, hl, _ => by simp at hl
end

/-! ### pure expressions as expressions -/
def sP (f : SP) : SE := fun ρ => match f ρ with
  | some d => if fzn d = true then .ok d ρ else .stk
  | none => .stk
section
variable {X : Cx} {W : WX} {a b c : Expr} {fa fb fc : SE} {pos : Pos}
theorem je_p {f : SP} (h : JP X a f) : JE X W a (sP f) := by
  obtain ⟨t, p, s⟩ := h
  refine ⟨t, p, fun F H σ ρ T Q n h => ?_⟩
  unfold sP at h
  split at h
  · rename_i d e
    split at h
    · rename_i z
      refine s F H σ ρ T Q n ⟨d, e, fun v A r => h F H v ?_⟩
      have e := Rep.nil d z r
      subst e
      exact n.map (L := []) (L' := [.val v d]) fun rest q => by
        obtain ⟨f, A, h1, h2, h3⟩ := q
        exact ⟨f, A, ⟨[], A, rfl, r, h1⟩, h2, h3⟩
    · exact h.elim
  · exact h.elim
/-- a name: the thing is held twice from here on, so it is fixed -/
def sVar (i : Nat) : SE := fun ρ => match ρ[i]? with
  | some (some d) => .ok (fz d) (ρ.set i (some (fz d)))
  | _ => .stk
def sC (d : Dv) : SE := fun ρ => .ok d ρ
theorem Now.read {K : PySem.W.Frag} {mg : Str → Option Value} {F H : Hp} {σ : L2.St} {ρ : En} {T : List Root} {i : Nat} {d : Dv} (h : Now K mg F H σ ρ T) (e : ρ[i]? = some (some d)) :
    ∃ v F', σ[i]? = some (some v) ∧ Now K mg F' H σ (ρ.set i (some (fz d))) (.val v (fz d) :: T) := by
  obtain ⟨v, hv, n⟩ := h.get e
  obtain ⟨F', n⟩ := n.fix
  have n2 := n.dup (fzn_fz d)
  have hi : i < ρ.length := (List.getElem?_eq_some_iff.mp e).1
  have n3 := n2.back (i := i) hv (by rw [List.getElem?_set_self hi])
  rw [List.set_set] at n3
  exact ⟨v, F', hv, n3⟩
theorem je_var {i : Nat} {x : Str} (hN : X.N[i]? = some x := by rfl) (hv : Vis X.env.scope x := by first | exact Or.inl rfl | exact Or.inr (Or.inl rfl) | exact Or.inr (Or.inr rfl)) (hd : (x == ("__debug__" : Str)) = false := by decide)
    (hcd : (x == ("__classdict__" : Str)) = false := by decide) : JE X W (.Name x pos) (sVar i) := by
  refine ⟨tVar i, pe_var hN hv hd hcd, fun F H σ ρ T Q n h => ?_⟩
  unfold sVar at h
  split at h
  · rename_i d e
    obtain ⟨v, F', hv', n'⟩ := n.read e
    exact ⟨v, hv', h F' H v n'⟩
  · exact h.elim
theorem sndC {K : PySem.W.Frag} {mg : Str → Option Value} {v : V} {d : Dv} (hd : ∀ F H : Hp, Rep K mg F H d v []) : SndE K mg W (tC v) (sC d) := fun F H σ ρ T Q n h => by
  refine h F H v ?_
  exact n.map (L := []) (L' := [.val v d]) fun rest q => Rel.add q (hd F H)
theorem je_int {i : Int} {j pos} : JE X W (.Constant (.int i) j pos) (sC (.int i)) := ⟨_, pe_int, sndC fun _ _ => ⟨rfl, rfl⟩⟩
theorem je_bl {b : Bool} {j pos} : JE X W (.Constant (.bool b) j pos) (sC (.bl b)) := ⟨_, pe_bl, sndC fun _ _ => ⟨rfl, rfl⟩⟩
theorem je_non {j pos} : JE X W (.Constant .none j pos) (sC .non) := ⟨_, pe_non, sndC fun _ _ => ⟨rfl, rfl⟩⟩
theorem je_str {s : Str} {j pos} : JE X W (.Constant (.str s) j pos) (sC (.str s)) := ⟨_, pe_str, sndC fun _ _ => ⟨rfl, rfl⟩⟩
/-! ### arguments -/
def sA0 : SA := fun ρ => .ok [] ρ
def sA1 (fa : SE) (fr : SA) : SA := fun ρ => (fa ρ).bnd fun d ρ1 => (fr ρ1).bnd fun ds ρ2 => .ok (d :: ds) ρ2
theorem ja_nil : JA X W [] sA0 := ⟨_, pa_nil, fun F H σ ρ T Q n h => h F H [] rfl n⟩
theorem ja_cons {es : List Expr} {fr : SA} (ha : JE X W a fa) (hr : JA X W es fr) (hs : starEach (a :: es) X.env = (false, eval a X.env) :: starEach es X.env := by rfl) : JA X W (a :: es) (sA1 fa fr) := by
  obtain ⟨ta, pa, sa⟩ := ha
  obtain ⟨tr, pr, sr⟩ := hr
  refine ⟨_, pa_cons pa pr hs, fun F H σ ρ T Q n h => ?_⟩
  refine sa F H σ ρ T _ n (h.bnd.imp fun d ρ1 h1 F1 H1 v n1 => ?_)
  refine sr F1 H1 σ ρ1 (.val v d :: T) _ n1 (Post.imp (Post.more (L := [.val v d]) h1.bnd) fun ds ρ2 h2 F2 H2 vs hl n2 => ?_)
  exact h2 F2 H2 (v :: vs) (by simp [hl]) (n2.perm List.perm_middle)
/-! ### displays -/
def sTup (g : Bool) (fs : SA) : SE := fun ρ => (fs ρ).bnd fun ds ρ1 => if ds.length ≤ 1000 then .ok (.tup g ds) ρ1 else .stk
def sLst (fs : SA) : SE := fun ρ => (fs ρ).bnd fun ds ρ1 => if ds.length ≤ 1000 then .ok (.lst true ds) ρ1 else .stk
theorem je_tup {g : Bool} {es : List Expr} {fs : SA} {x1} (h : JA X W es fs) : JE X W (.Tuple es x1 pos) (sTup g fs) := by
  obtain ⟨t, p, s⟩ := h
  refine ⟨_, pe_tup p, fun F H σ ρ T Q n h => ?_⟩
  refine s F H σ ρ T _ n (h.bnd.imp fun ds ρ1 h1 F1 H1 vs hl n1 => ?_)
  split at h1
  · rename_i hz
    refine ⟨by rw [sizeLine_eq, hl]; omega, fun p hp => h1 _ _ _ (n1.map (L := vals vs ds) (L' := [.val (.ref p) (.tup g ds)]) fun rest q => q.tup g hl hp)⟩
  · exact h1.elim
theorem je_lst {es : List Expr} {fs : SA} (h : JA X W es fs) : JE X W (.List es pos) (sLst fs) := by
  obtain ⟨t, p, s⟩ := h
  refine ⟨_, pe_lst p, fun F H σ ρ T Q n h => ?_⟩
  refine s F H σ ρ T _ n (h.bnd.imp fun ds ρ1 h1 F1 H1 vs hl n1 => ?_)
  split at h1
  · rename_i hz
    refine ⟨by rw [sizeLine_eq, hl]; omega, fun p hp => h1 _ _ _ (n1.map (L := vals vs ds) (L' := [.val (.ref p) (.lst true ds)]) fun rest q => q.lst hl hp)⟩
  · exact h1.elim
/-! ### an operator of two expressions whose value owns nothing -/
def sBin (o : Dv → Dv → Option Dv) (fa fb : SE) : SE := fun ρ => (fa ρ).bnd fun x ρ1 => (fb ρ1).bnd fun y ρ2 => match o x y with
  | some d => if fzn d = true then .ok d ρ2 else .stk
  | none => .stk
theorem snd_e2 {K : PySem.W.Frag} {mg : Str → Option Value} {r : R2} {o : Dv → Dv → Option Dv} {ta tb : TE} (ha : SndE K mg W ta fa) (hb : SndE K mg W tb fb)
    (q : ∀ (F H : Hp) (v1 v2 : V) (A1 A2 : List Addr) (d1 d2 d : Dv) (Q : VK), Fix F H → Rep K mg F H d1 v1 A1 → Rep K mg F H d2 v2 A2 → o d1 d2 = some d → (∀ v A, Rep K mg F H d v A → Q v H) → r v1 v2 H Q) : SndE K mg W (tOp r ta tb) (sBin o fa fb) := fun F H σ ρ T Q n h => by
  refine ha F H σ ρ T _ n (h.bnd.imp fun x ρ1 h1 F1 H1 v1 n1 => ?_)
  refine hb F1 H1 σ ρ1 (.val v1 x :: T) _ n1 (Post.imp (Post.more (L := [.val v1 x]) h1.bnd) fun y ρ2 h2 F2 H2 v2 n2 => ?_)
  obtain ⟨rest, nr⟩ := Now.rel (L := [.val v2 y, .val v1 x]) n2
  obtain ⟨fx, A2, r2⟩ := nr.rep
  obtain ⟨_, A1, r1⟩ := nr.drop.rep
  split at h2
  · rename_i d e
    split at h2
    · rename_i z
      refine q F2 H2 v1 v2 A1 A2 x y d Q fx r1 r2 e fun v A rd => h2 F2 H2 v ?_
      have e := Rep.nil d z rd
      subst e
      exact n2.map (L := [.val v2 y, .val v1 x]) (L' := [.val v d]) fun rest q => q.drop.drop.add rd
    · exact h2.elim
  · exact h2.elim
theorem je_bin {op : Operator} {o : Dv → Dv → Option Dv} (ho : OpP X (binaryOp op) o) (ha : JE X W a fa) (hb : JE X W b fb) : JE X W (.BinOp a op b pos) (sBin o fa fb) := by
  obtain ⟨ta, pa, sa⟩ := ha
  obtain ⟨tb, pb, sb⟩ := hb
  obtain ⟨r, p, q⟩ := ho
  exact ⟨_, pe_op p pa pb, snd_e2 sa sb q⟩
theorem je_cmp {op : CmpOp} {o : Dv → Dv → Option Dv} (ho : OpP X (compareOp op) o) (ha : JE X W a fa) (hb : JE X W b fb) (hm : behindInMarks op b = false := by first | exact nomark _ | rfl) : JE X W (.Compare a [op] [b] pos) (sBin o fa fb) := by
  obtain ⟨ta, pa, sa⟩ := ha
  obtain ⟨tb, pb, sb⟩ := hb
  obtain ⟨r, p, q⟩ := ho
  exact ⟨_, pe_cmpR p pa pb hm, snd_e2 sa sb q⟩
/-- a thing just made is fixed -/
def sFz (fa : SE) : SE := fun ρ => (fa ρ).bnd fun d ρ1 => .ok (fz d) ρ1
theorem je_fz (ha : JE X W a fa) : JE X W a (sFz fa) := by
  obtain ⟨ta, pa, sa⟩ := ha
  refine ⟨ta, pa, fun F H σ ρ T Q n h => sa F H σ ρ T _ n (h.bnd.imp fun d ρ1 h1 F1 H1 v n1 => ?_)⟩
  obtain ⟨F2, n2⟩ := n1.fix
  exact h1 F2 H1 v n2
/-- a subscript of a thing just made -/
theorem je_ix (ha : JE X W a fa) (hb : JE X W b fb) (hs : PlainIx b := by exact fun _ _ => rfl) : JE X W (.Subscript a b pos) (sBin oIx (sFz fa) fb) := by
  obtain ⟨ta, pa, sa⟩ := je_fz ha
  obtain ⟨tb, pb, sb⟩ := hb
  exact ⟨_, pe_ix ix_any pa pb hs, snd_e2 sa sb fun F H v1 v2 A1 A2 d1 d2 d Q f x y e k => rIx_of f x y e k⟩
/-- a builtin's call whose value owns nothing -/
def sCallB (o : List Dv → Option Dv) (fs : SA) : SE := fun ρ => (fs ρ).bnd fun ds ρ1 => match o ds with
  | some d => if fzn d = true then .ok d ρ1 else .stk
  | none => .stk
theorem snd_cb {K : PySem.W.Frag} {mg : Str → Option Value} {r : List V → Hp → VK → Prop} {o : List Dv → Option Dv} {ta : TA} {fs : SA} (ha : SndA K mg W ta fs)
    (q : ∀ (F H : Hp) (vs : List V) (A : List Addr) (ds : List Dv) (d : Dv) (Q : VK), Fix F H → Reps K mg F H ds vs A → o ds = some d → (∀ v A, Rep K mg F H d v A → Q v H) → r vs H Q) : SndE K mg W (tCB r ta) (sCallB o fs) := fun F H σ ρ T Q n h => by
  refine ha F H σ ρ T _ n (h.bnd.imp fun ds ρ1 h1 F1 H1 vs hl n1 => ?_)
  obtain ⟨rest, nr⟩ := Now.rel n1
  obtain ⟨A, rs⟩ := nr.of
  split at h1
  · rename_i d e
    split at h1
    · rename_i z
      refine q F1 H1 vs A ds d Q nr.owned (vals_of hl rs) e fun v B rd => h1 F1 H1 v ?_
      have e := Rep.nil d z rd
      subst e
      exact n1.map (L := vals vs ds) (L' := [.val v d]) fun rest q => (Rel.dropL q).add rd
    · exact h1.elim
  · exact h1.elim
theorem je_callB {x : Str} {id : String} {o : List Dv → Option Dv} {p : Pos} {es : List Expr} {fs : SA} (ho : CallP X (.builtin id) o) (hm : X.mg x = none) (hv : bootBuiltins x = some (.builtin id)) (ha : JA X W (a :: es) fs) (hg : Gl X x := by rfl)
    (hn : x ≠ "__name__" := by decide) (hdb : (x == ("__debug__" : Str)) = false := by decide) (he : starEach (a :: es) X.env = (false, eval a X.env) :: starEach es X.env := by rfl) (hpl : (backTo pos (starEach es X.env)).any (·.1) = false := by rfl) :
    JE X W (.Call (.Name x p) (a :: es) [] pos) (sCallB o fs) := by
  obtain ⟨ta, pa, sa⟩ := ha
  obtain ⟨r, pr, q⟩ := ho
  exact ⟨_, pe_callB pr hg hm hv pa hn hdb he hpl, snd_cb sa q⟩
theorem je_callTy {x : Str} {id : String} {o : List Dv → Option Dv} {p : Pos} {es : List Expr} {fs : SA} (ho : CallP X (.type id) o) (hm : X.mg x = none) (hv : bootBuiltins x = some (.type id)) (ha : JA X W (a :: es) fs) (hg : Gl X x := by rfl)
    (hn : x ≠ "__name__" := by decide) (hdb : (x == ("__debug__" : Str)) = false := by decide) (he : starEach (a :: es) X.env = (false, eval a X.env) :: starEach es X.env := by rfl) (hpl : (backTo pos (starEach es X.env)).any (·.1) = false := by rfl) :
    JE X W (.Call (.Name x p) (a :: es) [] pos) (sCallB o fs) := by
  obtain ⟨ta, pa, sa⟩ := ha
  obtain ⟨r, pr, q⟩ := ho
  exact ⟨_, pe_callTy pr hg hm hv pa hn hdb he hpl, snd_cb sa q⟩

/-! ### tests -/
def tP (f : SP) : ST := fun ρ => match f ρ with
  | some (.bl b) => .ok b ρ
  | _ => .stk
def tE (f : SE) : ST := fun ρ => (f ρ).bnd fun d ρ1 => match d with
  | .bl b => .ok b ρ1
  | _ => .stk
theorem snd_tP {K : PySem.W.Frag} {mg : Str → Option Value} {t : TE} {f : SP} (s : SndP K mg t f) : SndT K mg W (fun σ H Q => t σ H fun x H' => ∃ k, x = .bl k ∧ Q k H') (tP f) := fun F H σ ρ T Q n h => by
  unfold tP at h
  split at h
  · rename_i b e
    exact s F H σ ρ T _ n ⟨.bl b, e, fun v A r => ⟨b, r.1, h F H n⟩⟩
  · exact h.elim
theorem snd_tE {K : PySem.W.Frag} {mg : Str → Option Value} {t : TE} {f : SE} (s : SndE K mg W t f) : SndT K mg W (fun σ H Q => t σ H fun x H' => ∃ k, x = .bl k ∧ Q k H') (tE f) := fun F H σ ρ T Q n h => by
  refine s F H σ ρ T _ n (h.bnd.imp fun d ρ1 h1 F1 H1 v n1 => ?_)
  split at h1
  · rename_i b
    obtain ⟨rest, nr⟩ := Now.rel (L := [.val v (.bl b)]) n1
    obtain ⟨_, A, r⟩ := nr.rep
    exact ⟨b, r.1, h1 F1 H1 n1.drop⟩
  · exact h1.elim
/-- a name, a call, .. that gives a truth, as a test -/
theorem jt_p {f : SP} (h : JP X a f) (he : ∀ whole, isTrue a X.env whole = (do let v ← whole; standAt a.pos; holding [v] (truthy v)) := by intro _; rfl) : JT X W a (tP f) := by
  obtain ⟨t, p, s⟩ := h
  exact ⟨_, pt_val p he, snd_tP s⟩
theorem jt_e {f : SE} (h : JE X W a f) (he : ∀ whole, isTrue a X.env whole = (do let v ← whole; standAt a.pos; holding [v] (truthy v)) := by intro _; rfl) : JT X W a (tE f) := by
  obtain ⟨t, p, s⟩ := h
  exact ⟨_, pt_val p he, snd_tE s⟩
theorem jt_cmpP {op : CmpOp} {o : Dv → Dv → Option Dv} {fa fb : SP} (ho : OpP X (compareOp op) o) (ha : JP X a fa) (hb : JP X b fb) (hm : behindInMarks op b = false := by first | exact nomark _ | rfl) : JT X W (.Compare a [op] [b] pos) (tP (pBin o fa fb)) := by
  obtain ⟨ta, pa, sa⟩ := ha
  obtain ⟨tb, pb, sb⟩ := hb
  obtain ⟨r, p, q⟩ := ho
  exact ⟨_, pt_cmpR p pa pb hm, snd_tP (snd_p2 sa sb q)⟩
theorem jt_cmp {op : CmpOp} {o : Dv → Dv → Option Dv} (ho : OpP X (compareOp op) o) (ha : JE X W a fa) (hb : JE X W b fb) (hm : behindInMarks op b = false := by first | exact nomark _ | rfl) : JT X W (.Compare a [op] [b] pos) (tE (sBin o fa fb)) := by
  obtain ⟨ta, pa, sa⟩ := ha
  obtain ⟨tb, pb, sb⟩ := hb
  obtain ⟨r, p, q⟩ := ho
  exact ⟨_, pt_cmpR p pa pb hm, snd_tE (snd_e2 sa sb q)⟩
theorem jt_chain {op op' : CmpOp} {o o' : Dv → Dv → Option Dv} {fa fb fc : SP} (ho : OpP X (compareOp op) o) (ho' : OpP X (compareOp op') o') (ha : JP X a fa) (hb : JP X b fb) (hc : JP X c fc)
    (hm : lastMarks [op, op'] [b, c] = false := by with_unfolding_all rfl) : JT X W (.Compare a [op, op'] [b, c] pos) (tP (pChain o o' fa fb fc)) := by
  obtain ⟨ta, pa, sa⟩ := ha
  obtain ⟨tb, pb, sb⟩ := hb
  obtain ⟨tc, pc, sc⟩ := hc
  obtain ⟨r, p, q⟩ := ho
  obtain ⟨r', p', q'⟩ := ho'
  exact ⟨_, pt_chain p p' pa pb pc hm, snd_tP (snd_chain sa sb sc q q')⟩
def tNt (f : ST) : ST := fun ρ => (f ρ).bnd fun b ρ1 => .ok (!b) ρ1
def tAn (f g : ST) : ST := fun ρ => (f ρ).bnd fun b ρ1 => if b = true then g ρ1 else .ok false ρ1
def tOrr (f g : ST) : ST := fun ρ => (f ρ).bnd fun b ρ1 => if b = true then .ok true ρ1 else g ρ1
variable {ft gt : ST} {rest : List Expr}
theorem jt_not (h : JT X W a ft) : JT X W (.UnaryOp .Not a pos) (tNt ft) := by
  obtain ⟨t, p, s⟩ := h
  exact ⟨_, pt_not p, fun F H σ ρ T Q n h => s F H σ ρ T _ n (h.bnd.imp fun b ρ1 h1 F1 H1 n1 => h1 F1 H1 n1)⟩
theorem jw_and1 (h : JT X W a ft) : JW X W (.BoolOp .And [a] pos) ft := by
  obtain ⟨t, p, s⟩ := h
  exact ⟨t, pw_and1 p, s⟩
theorem jw_or1 (h : JT X W a ft) : JW X W (.BoolOp .Or [a] pos) ft := by
  obtain ⟨t, p, s⟩ := h
  exact ⟨t, pw_or1 p, s⟩
theorem jw_and (h : JT X W a ft) (hr : JW X W (.BoolOp .And (b :: rest) pos) gt) : JW X W (.BoolOp .And (a :: b :: rest) pos) (tAn ft gt) := by
  obtain ⟨t, p, s⟩ := h
  obtain ⟨u, q, s'⟩ := hr
  refine ⟨_, pw_and p q, fun F H σ ρ T Q n h => s F H σ ρ T _ n (h.bnd.imp fun b ρ1 h1 F1 H1 n1 => ?_)⟩
  cases b with
  | true =>
    rw [if_pos rfl] at h1 ⊢
    exact s' F1 H1 σ ρ1 T Q n1 h1
  | false =>
    rw [if_neg Bool.false_ne_true] at h1 ⊢
    exact h1 F1 H1 n1
theorem jw_or (h : JT X W a ft) (hr : JW X W (.BoolOp .Or (b :: rest) pos) gt) : JW X W (.BoolOp .Or (a :: b :: rest) pos) (tOrr ft gt) := by
  obtain ⟨t, p, s⟩ := h
  obtain ⟨u, q, s'⟩ := hr
  refine ⟨_, pw_or p q, fun F H σ ρ T Q n h => s F H σ ρ T _ n (h.bnd.imp fun b ρ1 h1 F1 H1 n1 => ?_)⟩
  cases b with
  | true =>
    rw [if_pos rfl] at h1 ⊢
    exact h1 F1 H1 n1
  | false =>
    rw [if_neg Bool.false_ne_true] at h1 ⊢
    exact s' F1 H1 σ ρ1 T Q n1 h1
theorem jt_w (h : JW X W a ft) : JT X W a ft := by
  obtain ⟨t, p, s⟩ := h
  exact ⟨t, p.pt, s⟩
/-! ### and, or, not as values -/
def sAnd (f g : SE) : SE := fun ρ => (f ρ).bnd fun d ρ1 => match d with
  | .bl true => g ρ1
  | .bl false => .ok (.bl false) ρ1
  | _ => .stk
def sOr (f g : SE) : SE := fun ρ => (f ρ).bnd fun d ρ1 => match d with
  | .bl true => .ok (.bl true) ρ1
  | .bl false => g ρ1
  | _ => .stk
def sNot (f : SE) : SE := fun ρ => (f ρ).bnd fun d ρ1 => match d with
  | .bl b => .ok (.bl (!b)) ρ1
  | _ => .stk
theorem Now.bl {K : PySem.W.Frag} {mg : Str → Option Value} {F H : Hp} {σ : L2.St} {ρ : En} {T : List Root} {v : V} {b : Bool} (n : Now K mg F H σ ρ (.val v (.bl b) :: T)) : v = .bl b := by
  obtain ⟨rest, nr⟩ := Now.rel (L := [.val v (.bl b)]) n
  obtain ⟨_, A, r⟩ := nr.rep
  exact r.1
theorem Now.add {K : PySem.W.Frag} {mg : Str → Option Value} {F H : Hp} {σ : L2.St} {ρ : En} {T : List Root} {v : V} {d : Dv} (n : Now K mg F H σ ρ T) (r : Rep K mg F H d v []) : Now K mg F H σ ρ (.val v d :: T) :=
  n.map (L := []) (L' := [.val v d]) fun _ q => Rel.add q r
theorem je_one {op} (h : JE X W a fa) : JE X W (.BoolOp op [a] pos) fa := by
  obtain ⟨t, p, s⟩ := h
  exact ⟨t, pe_one p, s⟩
theorem je_and (ha : JE X W a fa) (hb : JE X W (.BoolOp .And (b :: rest) pos) fb) : JE X W (.BoolOp .And (a :: b :: rest) pos) (sAnd fa fb) := by
  obtain ⟨t, p, s⟩ := ha
  obtain ⟨u, q, s'⟩ := hb
  refine ⟨_, pe_and p q, fun F H σ ρ T Q n h => s F H σ ρ T _ n (h.bnd.imp fun d ρ1 h1 F1 H1 v n1 => ?_)⟩
  split at h1
  · refine ⟨true, n1.bl, ?_⟩
    rw [if_pos rfl]
    exact s' F1 H1 σ ρ1 T Q n1.drop h1
  · refine ⟨false, n1.bl, ?_⟩
    rw [if_neg Bool.false_ne_true]
    exact h1 F1 H1 _ (n1.drop.add ⟨rfl, rfl⟩)
  · exact h1.elim
theorem je_or (ha : JE X W a fa) (hb : JE X W (.BoolOp .Or (b :: rest) pos) fb) : JE X W (.BoolOp .Or (a :: b :: rest) pos) (sOr fa fb) := by
  obtain ⟨t, p, s⟩ := ha
  obtain ⟨u, q, s'⟩ := hb
  refine ⟨_, pe_or p q, fun F H σ ρ T Q n h => s F H σ ρ T _ n (h.bnd.imp fun d ρ1 h1 F1 H1 v n1 => ?_)⟩
  split at h1
  · refine ⟨true, n1.bl, ?_⟩
    rw [if_pos rfl]
    exact h1 F1 H1 _ (n1.drop.add ⟨rfl, rfl⟩)
  · refine ⟨false, n1.bl, ?_⟩
    rw [if_neg Bool.false_ne_true]
    exact s' F1 H1 σ ρ1 T Q n1.drop h1
  · exact h1.elim
theorem je_not (ha : JE X W a fa) : JE X W (.UnaryOp .Not a pos) (sNot fa) := by
  obtain ⟨t, p, s⟩ := ha
  refine ⟨_, pe_not p, fun F H σ ρ T Q n h => s F H σ ρ T _ n (h.bnd.imp fun d ρ1 h1 F1 H1 v n1 => ?_)⟩
  split at h1
  · rename_i b
    exact ⟨b, n1.bl, h1 F1 H1 _ (n1.drop.add ⟨rfl, rfl⟩)⟩
  · exact h1.elim
def sIf (t : ST) (f g : SE) : SE := fun ρ => (t ρ).bnd fun b ρ1 => if b = true then f ρ1 else g ρ1
theorem je_if (hc : JT X W c ft) (ha : JE X W a fa) (hb : JE X W b fb) : JE X W (.IfExp c a b pos) (sIf ft fa fb) := by
  obtain ⟨t, p, s⟩ := hc
  obtain ⟨ta, pa, sa⟩ := ha
  obtain ⟨tb, pb, sb⟩ := hb
  refine ⟨_, pe_ifExp p pa pb, fun F H σ ρ T Q n h => s F H σ ρ T _ n (h.bnd.imp fun b ρ1 h1 F1 H1 n1 => ?_)⟩
  cases b with
  | true =>
    rw [if_pos rfl] at h1 ⊢
    exact sa F1 H1 σ ρ1 T Q n1 h1
  | false =>
    rw [if_neg Bool.false_ne_true] at h1 ⊢
    exact sb F1 H1 σ ρ1 T Q n1 h1
end

/-! ### the promise of a def, by trees -/
inductive Rz where
  | ok (d : Dv)
  | err (x : Er)
  | stk
/-- called with things that stand for ds, the def gives what sem says; all else stays -/
def spD (K : PySem.W.Frag) (mg : Str → Option Value) (n : Nat) (sem : List Dv → Rz) : Sp := fun vs H Q E => vs.length = n ∧ ∃ F ds T, vs.length = ds.length ∧ Rel K mg F H (vals vs ds ++ T) ∧ (match sem ds with
  | .ok d => ∀ F' H' v, Rel K mg F' H' (.val v d :: T) → Q v H'
  | .err x => ∀ F' H' cls dd rs, ErV mg x cls dd rs → Rel K mg F' H' (rs ++ T) → E cls dd H'
  | .stk => False)
def Rz.to (r : Rz) (ρ : En) : Rs Dv := match r with
  | .ok d => .ok d ρ
  | .err x => .err x ρ
  | .stk => .stk
def sCall (sem : List Dv → Rz) (fs : SA) : SE := fun ρ => (fs ρ).bnd fun ds ρ1 => (sem (fzs ds)).to ρ1
section
variable {X : Cx} {W : WX} {a : Expr} {es : List Expr} {pos p : Pos} {x : Str} {k : Nat} {f : Addr} {fd : FuncData} {ps : List Str} {fs : SA} {sem : List Dv → Rz} {n : Nat}
/-- a def as it may be called -/
structure Def (P : Program) (w : World) (K : PySem.W.Frag) (mg : Str → Option Value) (base : Heap) (x : Str) (k n : Nat) (sem : List Dv → Rz) : Prop where
  ex : ∃ f fd ps, FnOk P w K mg base (L2.CX P w) k f fd ps (spD K mg n sem) ∧ mg x = some (.ref f) ∧ PySem.W.keepIn K (.ref f) = true ∧ Binds K fd ps []
theorem snd_call {K : PySem.W.Frag} {mg : Str → Option Value} {t : TA} (s : SndA K mg W t fs) : SndE K mg W (fun σ H Q => t σ H fun vs H1 => spD K mg n sem (vs ++ []) H1 Q (WE W σ)) (fun ρ => (fs ρ).bnd fun ds ρ1 => if ds.length = n then (sem (fzs ds)).to ρ1 else .stk) := fun F H σ ρ T Q nw h => by
  refine s F H σ ρ T _ nw (h.bnd.imp fun ds ρ1 h1 F1 H1 vs hl n1 => ?_)
  split at h1
  · rename_i hn
    rw [List.append_nil]
    obtain ⟨rs, sl, r⟩ := n1
    have r' : Rel K mg F1 H1 (vals vs ds ++ (rs ++ T)) := r.perm (by
      rw [← List.append_assoc, ← List.append_assoc]
      exact List.perm_append_comm.append_right T)
    obtain ⟨F2, r2⟩ := Rel.fixAll hl r'
    refine ⟨by rw [hl, hn], F2, fzs ds, rs ++ T, by rw [hl, fzs_length], r2, ?_⟩
    cases e : sem (fzs ds) with
    | ok d =>
      rw [e] at h1
      exact fun F' H' v q => h1 F' H' v ⟨rs, sl, q.perm List.perm_middle.symm⟩
    | err x =>
      rw [e] at h1
      refine fun F' H' cls dd re ev q => h1 F' H' cls dd re ev ⟨rs, sl, q.perm ?_⟩
      rw [← List.append_assoc, ← List.append_assoc]
      exact List.perm_append_comm.append_right T
    | stk =>
      rw [e] at h1
      exact h1.elim
  · exact h1.elim
def sCallN (n : Nat) (sem : List Dv → Rz) (fs : SA) : SE := fun ρ => (fs ρ).bnd fun ds ρ1 => if ds.length = n then (sem (fzs ds)).to ρ1 else .stk
theorem je_call (D : Def X.prog X.w X.K X.mg X.base x k n sem) (hr : Room k X.A) (tk : Takes X W) (ha : JA X W (a :: es) fs) (hg : Gl X x := by rfl)
    (hdb : (x == ("__debug__" : Str)) = false := by decide) (he : starEach (a :: es) X.env = (false, eval a X.env) :: starEach es X.env := by rfl) (hpl : (backTo pos (starEach es X.env)).any (·.1) = false := by rfl) :
    JE X W (.Call (.Name x p) (a :: es) [] pos) (sCallN n sem fs) := by
  obtain ⟨f, fd, ps, F, hm, hk, hb⟩ := D.ex
  obtain ⟨t, pa, s⟩ := ha
  exact ⟨_, pe_callSD (E := WE W) F hr hg hm hk hb .nil (passAt tk) pa hdb he hpl, snd_call s⟩
end
end Pyd
set_option maxRecDepth 100000
/-! PydE: statements, targets, iterators, loops, comprehensions, defs. -/
namespace Pyd
open PySem PySem.Spec PyProof.Rows L2

inductive Ss where
  | nx (ρ : En)
  | rt (d : Dv) (ρ : En)
  | bk (ρ : En)
  | ct (ρ : En)
  | err (x : Er) (ρ : En)
  | stk
abbrev SS := En → Ss
def Keep (fx : List Nat) (σ σ' : L2.St) : Prop := ∀ i ∈ fx, σ'[i]? = σ[i]?
theorem Keep.refl {fx : List Nat} (σ : L2.St) : Keep fx σ σ := fun _ _ => rfl
theorem Keep.trans {fx : List Nat} {a b c : L2.St} (h : Keep fx a b) (k : Keep fx b c) : Keep fx a c := fun i hi => (k i hi).trans (h i hi)
section
variable (K : PySem.W.Frag) (mg : Str → Option Value)
def PostS (fx : List Nat) (W : WX) (σ : L2.St) (T : List Root) (D : Ends) : Ss → Prop
  | .nx ρ => ∀ F H σ', Keep fx σ σ' → Now K mg F H σ' ρ T → D.nx σ' H
  | .rt d ρ => ∀ F H σ' v, Keep fx σ σ' → Now K mg F H σ' ρ (.val v d :: T) → D.rt v H
  | .bk ρ => ∀ F H σ', Keep fx σ σ' → Now K mg F H σ' ρ T → D.bk σ' H
  | .ct ρ => ∀ F H σ', Keep fx σ σ' → Now K mg F H σ' ρ T → D.ct σ' H
  | .err x ρ => ∀ F H σ' cls dd rs, Keep fx σ σ' → ErV mg x cls dd rs → Now K mg F H σ' ρ (rs ++ T) → W cls dd σ' H
  | .stk => False
def SndS (fx : List Nat) (W : WX) (t : TS) (g : SS) : Prop := ∀ F H σ ρ T D, Now K mg F H σ ρ T → PostS K mg fx W σ T D (g ρ) → t D σ H
end
/-- wishes about exceptions do not look at the slots' forgotten parts: kept as they are -/
def JS (X : Cx) (W : WX) (fx : List Nat) (st : Stmt) (g : SS) : Prop := ∃ t, PS X st t ∧ SndS X.K X.mg fx W t g
def JSs (X : Cx) (W : WX) (fx : List Nat) (st : List Stmt) (g : SS) : Prop := ∃ t, PSs X st t ∧ SndS X.K X.mg fx W t g
section
variable {K : PySem.W.Frag} {mg : Str → Option Value} {fx : List Nat} {W : WX} {σ σ' : L2.St} {T L : List Root} {D D' : Ends} {r : Ss}
theorem PostS.keep (h : PostS K mg fx W σ T D r) (k : Keep fx σ σ') : PostS K mg fx W σ' T D r := by
  cases r with
  | nx ρ => exact fun F H σ2 k2 => h F H σ2 (k.trans k2)
  | rt d ρ => exact fun F H σ2 v k2 => h F H σ2 v (k.trans k2)
  | bk ρ => exact fun F H σ2 k2 => h F H σ2 (k.trans k2)
  | ct ρ => exact fun F H σ2 k2 => h F H σ2 (k.trans k2)
  | err x ρ => exact fun F H σ2 cls dd rs k2 => h F H σ2 cls dd rs (k.trans k2)
  | stk => exact h
theorem shift {K : PySem.W.Frag} {mg : Str → Option Value} {F H : Hp} {σ : L2.St} {ρ : En} {A L T : List Root} (n : Now K mg F H σ ρ (A ++ (L ++ T))) : Now K mg F H σ ρ (A ++ T) := by
  refine Now.dropL (L := L) (n.perm ?_)
  rw [← List.append_assoc, ← List.append_assoc]
  exact List.perm_append_comm.append_right T
/-- more roots are held meanwhile -/
theorem PostS.more (h : PostS K mg fx W σ T D r) : PostS K mg fx W σ (L ++ T) D r := by
  cases r with
  | nx ρ => exact fun F H σ2 k2 n => h F H σ2 k2 n.dropL
  | rt d ρ => exact fun F H σ2 v k2 n => h F H σ2 v k2 (shift (A := [.val v d]) n)
  | bk ρ => exact fun F H σ2 k2 n => h F H σ2 k2 n.dropL
  | ct ρ => exact fun F H σ2 k2 n => h F H σ2 k2 n.dropL
  | err x ρ => exact fun F H σ2 cls dd rs k2 e n => h F H σ2 cls dd rs k2 e (shift n)
  | stk => exact h
theorem post_err {α : Type} {q : α → En → Prop} {x : Er} {ρ : En} (h : PostS K mg fx W σ T D (.err x ρ)) : Post K mg W σ T q (.err x ρ) := fun F H cls dd rs e n => h F H σ cls dd rs (Keep.refl σ) e n
end

/-! ### blocks, small statements -/
def gSeq (g1 g2 : SS) : SS := fun ρ => match g1 ρ with
  | .nx ρ1 => g2 ρ1
  | .rt d ρ1 => .rt d ρ1
  | .bk ρ1 => .bk ρ1
  | .ct ρ1 => .ct ρ1
  | .err x ρ1 => .err x ρ1
  | .stk => .stk
def gNx : SS := fun ρ => .nx ρ
def bndS {α : Type} (r : Rs α) (f : α → En → Ss) : Ss := match r with
  | .ok a ρ => f a ρ
  | .err x ρ => .err x ρ
  | .stk => .stk
theorem postS_bnd {K : PySem.W.Frag} {mg : Str → Option Value} {α : Type} {fx : List Nat} {W : WX} {σ : L2.St} {T : List Root} {D : Ends} {r : Rs α} {f : α → En → Ss} (h : PostS K mg fx W σ T D (bndS r f)) : Post K mg W σ T (fun a ρ => PostS K mg fx W σ T D (f a ρ)) r := by
  cases r with
  | ok a ρ => exact h
  | err x ρ => exact post_err h
  | stk => exact h
def gSet (i : Nat) (f : SE) : SS := fun ρ => bndS (f ρ) fun d ρ1 => if i < ρ1.length then .nx (ρ1.set i (some d)) else .stk
def gDrop (f : SE) : SS := fun ρ => bndS (f ρ) fun _ ρ1 => .nx ρ1
def gRet (f : SE) : SS := fun ρ => bndS (f ρ) fun d ρ1 => .rt d ρ1
def gRetN : SS := fun ρ => .rt .non ρ
def gIf (t : ST) (g1 g2 : SS) : SS := fun ρ => bndS (t ρ) fun b ρ1 => if b = true then g1 ρ1 else g2 ρ1
def gBrk : SS := fun ρ => .bk ρ
def gCnt : SS := fun ρ => .ct ρ
section
variable {X : Cx} {W : WX} {fx : List Nat} {st : Stmt} {sts : List Stmt} {g g1 g2 : SS} {e c : Expr} {f : SE} {t : ST} {pos pos' : Pos}
theorem jss_nil : JSs X W fx [] gNx := ⟨_, pss_nil, fun F H σ ρ T D n h => h F H σ (Keep.refl σ) n⟩
theorem jss_one (h : JS X W fx st g) : JSs X W fx [st] g := by
  obtain ⟨t, p, s⟩ := h
  exact ⟨t, pss_one p, s⟩
theorem jss_cons (h : JS X W fx st g1) (hr : JSs X W fx sts g2) : JSs X W fx (st :: sts) (gSeq g1 g2) := by
  obtain ⟨t, p, s⟩ := h
  obtain ⟨u, q, s'⟩ := hr
  refine ⟨_, pss_cons p q, fun F H σ ρ T D n h => ?_⟩
  refine s F H σ ρ T { D with nx := u D } n ?_
  unfold gSeq at h
  cases e : g1 ρ with
  | nx ρ1 =>
    rw [e] at h
    exact fun F1 H1 σ1 k n1 => s' F1 H1 σ1 ρ1 T D n1 (h.keep k)
  | rt d ρ1 => rw [e] at h; exact h
  | bk ρ1 => rw [e] at h; exact h
  | ct ρ1 => rw [e] at h; exact h
  | err x ρ1 => rw [e] at h; exact h
  | stk => rw [e] at h; exact h
theorem set_keep {σ : L2.St} {i : Nat} {v : Option V} (h : i ∉ fx) : Keep fx σ (σ.set i v) := fun j hj => by
  rw [List.getElem?_set_ne (fun (z : i = j) => h (by rw [z]; exact hj))]
theorem js_set {i : Nat} {x : Str} (hN : X.N.Nodup) (hf : JE X W e f) (hi : X.N[i]? = some x := by rfl) (hx : Loc X.env.scope x := by first | exact Or.inl rfl | exact Or.inr rfl) (hfx : i ∉ fx := by decide) (hs : swapsWith e (some (.Name x pos')) pos.line X.env = pure false := by rfl)
    (hl : X.fn x = true ∨ X.env.scope.names.lookup x = some .local := by first | exact .inl rfl | exact .inr rfl | assumption) : JS X W fx (.Assign [.Name x pos'] e pos) (gSet i f) := by
  obtain ⟨t, p, s⟩ := hf
  refine ⟨_, ps_set (i := i) hN hi hx p hs hl, fun F H σ ρ T D n h => ?_⟩
  refine s F H σ ρ T _ n ((postS_bnd h).imp fun d ρ1 h1 F1 H1 v n1 => ?_)
  split at h1
  · rename_i hi
    exact h1 F1 H1 _ (set_keep hfx) (n1.put hi)
  · exact h1.elim
theorem js_expr (he : JE X W e f) (hs : swapsWith e none pos.line X.env = pure false := by rfl) : JS X W fx (.Expr e pos) (gDrop f) := by
  obtain ⟨t, p, s⟩ := he
  exact ⟨_, ps_expr p hs, fun F H σ ρ T D n h => s F H σ ρ T _ n ((postS_bnd h).imp fun d ρ1 h1 F1 H1 v n1 => h1 F1 H1 σ (Keep.refl σ) n1.drop)⟩
theorem js_ret (he : JE X W e f) : JS X W fx (.Return (some e) pos) (gRet f) := by
  obtain ⟨t, p, s⟩ := he
  exact ⟨_, ps_ret p, fun F H σ ρ T D n h => s F H σ ρ T _ n ((postS_bnd h).imp fun d ρ1 h1 F1 H1 v n1 => h1 F1 H1 σ v (Keep.refl σ) n1)⟩
theorem js_retN : JS X W fx (.Return none pos) gRetN := ⟨_, ps_retN, fun F H σ ρ T D n h => h F H σ .non (Keep.refl σ) (n.add ⟨rfl, rfl⟩)⟩
theorem js_pass : JS X W fx (.Pass pos) gNx := ⟨_, ps_pass, fun F H σ ρ T D n h => h F H σ (Keep.refl σ) n⟩
theorem js_break : JS X W fx (.Break pos) gBrk := ⟨_, ps_break, fun F H σ ρ T D n h => h F H σ (Keep.refl σ) n⟩
theorem js_if {a b : List Stmt} (hc : JT X W c t) (ha : JSs X W fx a g1) (hb : JSs X W fx b g2) : JS X W fx (.If c a b pos) (gIf t g1 g2) := by
  obtain ⟨tc, p, s⟩ := hc
  obtain ⟨ta, pa, sa⟩ := ha
  obtain ⟨tb, pb, sb⟩ := hb
  refine ⟨_, ps_if p pa pb, fun F H σ ρ T D n h => s F H σ ρ T _ n ((postS_bnd h).imp fun b ρ1 h1 F1 H1 n1 => ?_)⟩
  cases b with
  | true =>
    rw [if_pos rfl] at h1 ⊢
    exact sa F1 H1 σ ρ1 T D n1 h1
  | false =>
    rw [if_neg Bool.false_ne_true] at h1 ⊢
    exact sb F1 H1 σ ρ1 T D n1 h1
/-- code that is not reached (of another law) -/
def gStk : SS := fun _ => .stk
theorem jss_never : JSs X W fx sts gStk := ⟨_, pss_never, fun F H σ ρ T D n h => h⟩
/-! ### raise X('..') -/
structure Exc (K : PySem.W.Frag) (mg : Str → Option Value) (x : Str) : Prop where
  ex : ∃ C, mg x = some (.ref C) ∧ PySem.W.excIn K C [.type "ValueError", .type "Exception", .type "BaseException", .type "object"] "ValueError.__new__" = true ∧ PySem.W.keepIn K (.ref C) = true ∧
    PySem.W.subIn K (.ref C) (.type "BaseException") = some true ∧ PySem.W.typeIn K (.ref C) = some (.type "type")
def gRaise (x : Str) : SS := fun ρ => .err ⟨x, none⟩ ρ
theorem js_raise {x m : Str} {j : Nat} {p p2 cpos : Pos} (E : Exc X.K X.mg x) (tk : Takes X W) (hc : X.calm = true := by rfl) (hg : Gl X x := by rfl) (hdb : (x == ("__debug__" : Str)) = false := by decide) :
    JS X W fx (.Raise (some (.Call (.Name x p) [.Constant (.str m) j p2] [] cpos)) none pos) (gRaise x) := by
  obtain ⟨C, hm, hx, hk, hb, ht⟩ := E.ex
  refine ⟨_, ps_raise hc tk (pmk_own PySem.F.excBase_ValueError hx hm hk (raises_own hb ht) hg hdb), fun F H σ ρ T D n h => ?_⟩
  exact h F H σ (.ref C) none [] (Keep.refl σ) ⟨C, rfl, hm, rfl, rfl⟩ n
end

/-! ### targets -/
def Off (ts : List Nat) (σ σ' : L2.St) : Prop := σ'.length = σ.length ∧ ∀ j, j ∉ ts → σ'[j]? = σ[j]?
theorem Off.refl (ts : List Nat) (σ : L2.St) : Off ts σ σ := ⟨rfl, fun _ _ => rfl⟩
theorem Off.keep {ts fx : List Nat} {σ σ' : L2.St} (h : Off ts σ σ') (d : ∀ i ∈ fx, i ∉ ts) : Keep fx σ σ' := fun i hi => h.2 i (d i hi)
abbrev GT := Dv → En → Option En
abbrev GTs := List Dv → En → Option En
def SndG (K : PySem.W.Frag) (mg : Str → Option Value) (g : TG) (gt : GT) (ts : List Nat) : Prop := ∀ F H σ ρ T v d ρ' (Q : L2.St → Hp → Prop), Now K mg F H σ ρ (.val v d :: T) → gt d ρ = some ρ' → (∀ F' σ', Off ts σ σ' → Now K mg F' H σ' ρ' T → Q σ' H) → g v σ H Q
def SndGs (K : PySem.W.Frag) (mg : Str → Option Value) (g : TGs) (gt : GTs) (ts : List Nat) : Prop := ∀ F H σ ρ T vs ds ρ' (Q : L2.St → Hp → Prop), vs.length = ds.length → Now K mg F H σ ρ (vals vs ds ++ T) → gt ds ρ = some ρ' → (∀ F' σ', Off ts σ σ' → Now K mg F' H σ' ρ' T → Q σ' H) → g vs σ H Q
def JG (X : Cx) (tg : Expr) (gt : GT) (ts : List Nat) : Prop := ∃ g, PG X tg g ∧ SndG X.K X.mg g gt ts
def JGs (X : Cx) (tgs : List Expr) (gt : GTs) (ts : List Nat) : Prop := ∃ g, PGs X tgs g ∧ SndGs X.K X.mg g gt ts
def kName (i : Nat) : GT := fun d ρ => if i < ρ.length then some (ρ.set i (some (fz d))) else none
def kNil : GTs := fun ds ρ => match ds with
  | [] => some ρ
  | _ => none
def kCons (a : GT) (b : GTs) : GTs := fun ds ρ => match ds with
  | d :: ds => (a d ρ).bind fun ρ1 => b ds ρ1
  | [] => none
def kTup (n : Nat) (b : GTs) : GT := fun d ρ => match d with
  | .tup _ ds => if ds.length = n then b ds ρ else none
  | _ => none
def kLst (n : Nat) (b : GTs) : GT := fun d ρ => match d with
  | .lst false ds => if ds.length = n ∧ fzns ds = true then b ds ρ else none
  | _ => none
theorem Now.tupAt {K : PySem.W.Frag} {mg : Str → Option Value} {F H : Hp} {σ : L2.St} {ρ : En} {T : List Root} {v : V} {g : Bool} {ds : List Dv} (n : Now K mg F H σ ρ (.val v (.tup g ds) :: T)) :
    ∃ a vs, v = .ref a ∧ SqT K H a vs ∧ vs.length = ds.length ∧ Now K mg F H σ ρ (vals vs ds ++ T) := by
  obtain ⟨rs, s, r⟩ := n
  have r' : Rel K mg F H (.val v (.tup g ds) :: (rs ++ T)) := r.perm List.perm_middle
  obtain ⟨f, A, ⟨A1, A2, rfl, h1, h2⟩, h3, h4⟩ := r'
  obtain ⟨a, vs, rfl, h5, h6⟩ := rep_sqT f h1
  refine ⟨a, vs, rfl, h5, h6.len, rs, s, ?_⟩
  have q : Rel K mg F H (vals vs ds ++ (rs ++ T)) := ⟨f, A1 ++ A2, (of_vals h6).join h2, h3, h4⟩
  refine q.perm ?_
  rw [← List.append_assoc, ← List.append_assoc]
  exact List.perm_append_comm.append_right T
theorem Now.lstAt {K : PySem.W.Frag} {mg : Str → Option Value} {F H : Hp} {σ : L2.St} {ρ : En} {T : List Root} {v : V} {o : Bool} {ds : List Dv} (n : Now K mg F H σ ρ (.val v (.lst o ds) :: T)) (z : fzns ds = true) :
    ∃ a vs, v = .ref a ∧ SqL K H a vs ∧ vs.length = ds.length ∧ Now K mg F H σ ρ (vals vs ds ++ T) := by
  obtain ⟨rs, s, r⟩ := n
  have r' : Rel K mg F H (.val v (.lst o ds) :: (rs ++ T)) := r.perm List.perm_middle
  obtain ⟨f, A, ⟨A1, A2, rfl, h1, h2⟩, h3, h4⟩ := r'
  obtain ⟨a, vs, B, rfl, h5, h6⟩ := rep_sqL f h1
  have e := Reps.nil ds z h6
  subst e
  refine ⟨a, vs, rfl, h5, h6.len, rs, s, ?_⟩
  have q : Rel K mg F H (vals vs ds ++ (rs ++ T)) := ⟨f, [] ++ A2, (of_vals h6).join h2, (List.nodup_append.mp h3).2.1, fun a ha => h4 a (List.mem_append_right _ ha)⟩
  refine q.perm ?_
  rw [← List.append_assoc, ← List.append_assoc]
  exact List.perm_append_comm.append_right T
section
variable {X : Cx} {pos : Pos}
theorem jg_name {i : Nat} {x : Str} (hN : X.N.Nodup) (hi : X.N[i]? = some x := by rfl) (hx : Loc X.env.scope x := by first | exact Or.inl rfl | exact Or.inr rfl)
    (hl : X.fn x = true ∨ X.env.scope.names.lookup x = some .local := by first | exact .inl rfl | exact .inr rfl | assumption) : JG X (.Name x pos) (kName i) [i] := by
  refine ⟨_, pg_name (i := i) hN hi hx hl, fun F H σ ρ T v d ρ' Q n e k => ?_⟩
  unfold kName at e
  split at e
  · rename_i hi
    cases e
    obtain ⟨F', n'⟩ := n.fix
    refine k F' _ ⟨by simp, fun j hj => ?_⟩ (n'.put hi)
    rw [List.getElem?_set_ne (fun z => hj (by rw [z]; exact .head _))]
  · cases e
theorem jgs_nil : JGs X [] kNil [] := by
  refine ⟨_, pgs_nil, fun F H σ ρ T vs ds ρ' Q hl n e k => ?_⟩
  unfold kNil at e
  split at e
  · cases e
    have e' : vs = [] := List.length_eq_zero_iff.mp hl
    subst e'
    exact ⟨rfl, k F σ (Off.refl _ σ) n⟩
  · cases e
theorem jgs_cons {e : Expr} {es : List Expr} {a : GT} {b : GTs} {ts us : List Nat} (h1 : JG X e a ts) (h2 : JGs X es b us) (hs : (assignEach (e :: es) X.env).map (·.2) = assign e X.env :: (assignEach es X.env).map (·.2) := by rfl) : JGs X (e :: es) (kCons a b) (ts ++ us) := by
  obtain ⟨g, p, s⟩ := h1
  obtain ⟨g', p', s'⟩ := h2
  refine ⟨_, pgs_cons p p' hs, fun F H σ ρ T vs ds ρ' Q hl n e k => ?_⟩
  unfold kCons at e
  split at e
  · rename_i d ds
    obtain ⟨ρ1, e1, e2⟩ := Option.bind_eq_some_iff.mp e
    cases vs with
    | nil => simp at hl
    | cons v vs =>
      refine ⟨v, vs, rfl, s F H σ ρ (vals vs ds ++ T) v d ρ1 _ n e1 fun F1 σ1 o1 n1 => ?_⟩
      refine s' F1 H σ1 ρ1 T vs ds ρ' Q (by simpa using hl) n1 e2 fun F2 σ2 o2 n2 => k F2 σ2 ⟨o2.1.trans o1.1, fun j hj => ?_⟩ n2
      rw [List.mem_append] at hj
      rw [o2.2 j fun z => hj (.inr z), o1.2 j fun z => hj (.inl z)]
  · cases e
theorem jg_tup {es : List Expr} {k0 : Nat} {b : GTs} {ts : List Nat} {n : Nat} (h : JGs X es b ts) (hc : X.calm = true := by rfl) (hn : (assignEach es X.env).length = n := by rfl) (hst : (assignEach es X.env).findIdx? (·.1) = none := by rfl) : JG X (.Tuple es k0 pos) (kTup n b) ts := by
  obtain ⟨g, p, s⟩ := h
  refine ⟨_, pg_tup hc p hn hst, fun F H σ ρ T v d ρ' Q nw e k => ?_⟩
  unfold kTup at e
  split at e
  · split at e
    · rename_i hl
      obtain ⟨a, vs, rfl, h1, h2, n1⟩ := nw.tupAt
      exact ⟨a, vs, rfl, h1, h2.trans hl, s F H σ ρ T vs _ ρ' Q h2 n1 e k⟩
    · cases e
  · cases e
theorem jg_lst {es : List Expr} {k0 : Nat} {b : GTs} {ts : List Nat} {n : Nat} (h : JGs X es b ts) (hc : X.calm = true := by rfl) (hn : (assignEach es X.env).length = n := by rfl) (hst : (assignEach es X.env).findIdx? (·.1) = none := by rfl) : JG X (.Tuple es k0 pos) (kLst n b) ts := by
  obtain ⟨g, p, s⟩ := h
  refine ⟨_, pg_lst hc p hn hst, fun F H σ ρ T v d ρ' Q nw e k => ?_⟩
  unfold kLst at e
  split at e
  · split at e
    · rename_i hl
      obtain ⟨a, vs, rfl, h1, h2, n1⟩ := nw.lstAt hl.2
      exact ⟨a, vs, rfl, h1, h2.trans hl.1, s F H σ ρ T vs _ ρ' Q h2 n1 e k⟩
    · cases e
  · cases e
def gAsg (f : SE) (gt : GT) : SS := fun ρ => bndS (f ρ) fun d ρ1 => match gt d ρ1 with
  | some ρ2 => .nx ρ2
  | none => .stk
theorem js_asg {W : WX} {fx ts : List Nat} {tg e : Expr} {f : SE} {gt : GT} (he : JE X W e f) (hg : JG X tg gt ts) (hd : ∀ i ∈ fx, i ∉ ts := by decide) (hs : swapsWithSole [tg] e pos.line X.env = pure false := by rfl) (hw : swappedStores [tg] e X.env = pure none := by rfl)
    (h1 : (assignEach [tg] X.env).map (·.2) = [assign tg X.env] := by rfl) : JS X W fx (.Assign [tg] e pos) (gAsg f gt) := by
  obtain ⟨t, p, s⟩ := he
  obtain ⟨g, q, s'⟩ := hg
  refine ⟨_, ps_asg p q hs hw h1, fun F H σ ρ T D n h => s F H σ ρ T _ n ((postS_bnd h).imp fun d ρ1 h1 F1 H1 v n1 => ?_)⟩
  split at h1
  · rename_i ρ2 e
    exact s' F1 H1 σ ρ1 T v d ρ2 _ n1 e fun F2 σ2 o n2 => h1 F2 H1 σ2 (o.keep hd) n2
  · exact h1.elim
/-- a, b = x, y -/
def gPar (i j : Nat) (fs : SA) : SS := fun ρ => bndS (fs ρ) fun ds ρ1 => match ds with
  | [d, e] => if i < ρ1.length ∧ j < ρ1.length then .nx ((ρ1.set i (some d)).set j (some e)) else .stk
  | _ => .stk
theorem js_par {W : WX} {fx : List Nat} {i j : Nat} {x y : Str} {a b : Expr} {fs : SA} {px py pt : Pos} {kt k2 pt2} (hN : X.N.Nodup) (ha : JA X W [a, b] fs) (hi : X.N[i]? = some x := by rfl) (hj : X.N[j]? = some y := by rfl) (hij : i ≠ j := by decide)
    (hfi : i ∉ fx := by decide) (hfj : j ∉ fx := by decide) (hc : X.calm = true := by rfl) (hx : X.env.scope.names.lookup x = some .local := by rfl) (hy : X.env.scope.names.lookup y = some .local := by rfl)
    (hw : swappedStores [.Tuple [.Name x px, .Name y py] kt pt] (.Tuple [a, b] k2 pt2) X.env = pure (some [x, y]) := by rfl) (hs : swapsWithSole [.Tuple [.Name x px, .Name y py] kt pt] (.Tuple [a, b] k2 pt2) pos.line X.env = pure false := by rfl) :
    JS X W fx (.Assign [.Tuple [.Name x px, .Name y py] kt pt] (.Tuple [a, b] k2 pt2) pos) (gPar i j fs) := by
  obtain ⟨t, p, s⟩ := ha
  refine ⟨_, ps_par hc hN hi hj hij hx hy p hw hs, fun F H σ ρ T D n h => s F H σ ρ T _ n ((postS_bnd h).imp fun ds ρ1 h1 F1 H1 vs hl n1 => ?_)⟩
  split at h1
  · rename_i d e
    split at h1
    · rename_i hz
      match vs, hl with
      | [v, w], _ =>
        refine ⟨v, w, rfl, h1 F1 H1 _ ?_ ?_⟩
        · exact (set_keep hfi).trans (set_keep hfj)
        · have n2 : Now X.K X.mg F1 H1 σ ρ1 (.val v d :: .val w e :: T) := n1
          exact (n2.put hz.1).put (by rw [List.length_set]; exact hz.2)
    · exact h1.elim
  · exact h1.elim
end

/-! ### what is walked -/
def ItS (K : PySem.W.Frag) (mg : Str → Option Value) (J : It) (L : List Root) (items : List Dv) : Prop := ∀ j F H rest, Rel K mg F H (L ++ rest) → (∀ x, items[j]? = some x → J.go j H ∧ ∀ v H', J.yld j H v H' → ∃ F', ∀ rest', Rel K mg F H (L ++ rest') → Rel K mg F' H' (.val v x :: (L ++ rest'))) ∧ (items.length ≤ j → J.stop j H)
abbrev SI := En → Rs (List Dv)
def SndI (K : PySem.W.Frag) (mg : Str → Option Value) (W : WX) (wi : TI) (fi : SI) : Prop := ∀ F H σ ρ T R, Now K mg F H σ ρ T → Post K mg W σ T (fun items ρ1 => ∀ F1 H1 J L, ItS K mg J L items → Now K mg F1 H1 σ ρ1 (L ++ T) → R J H1) (fi ρ) → wi σ H R
def JI (X : Cx) (W : WX) (tg it : Expr) (fi : SI) : Prop := ∃ wi, PI X tg it wi ∧ SndI X.K X.mg W wi fi
/-- the items of a list (a tuple): they own nothing -/
def iLst (f : SE) : SI := fun ρ => (f ρ).bnd fun d ρ1 => match d with
  | .lst _ ds => if fzns ds = true then .ok ds ρ1 else .stk
  | _ => .stk
def iTup (f : SE) : SI := fun ρ => (f ρ).bnd fun d ρ1 => match d with
  | .tup _ ds => if fzns ds = true then .ok ds ρ1 else .stk
  | _ => .stk
theorem getElem_some {α : Type} {xs : List α} {j : Nat} {x : α} (h : xs[j]? = some x) : j < xs.length := (List.getElem?_eq_some_iff.mp h).1
section
variable {X : Cx} {W : WX} {tg a b : Expr} {f : SE} {pos : Pos}
theorem its_lst {K : PySem.W.Frag} {mg : Str → Option Value} {p : Addr} {o : Bool} {ds : List Dv} (z : fzns ds = true) : ItS K mg (Itl K p) [.val (.ref p) (.lst o ds)] ds := fun j F H rest r => by
  obtain ⟨fx, A, rr⟩ := r.rep
  obtain ⟨a, vs, B, e, h1, h2⟩ := rep_sqL fx rr
  cases e
  refine ⟨fun x hx => ?_, fun hl => ⟨vs, h1, by rw [h2.len]; exact hl⟩⟩
  obtain ⟨v, C, h3, h4⟩ := h2.at hx
  refine ⟨⟨vs, v, h1, h3⟩, fun w H' y => ⟨F, fun rest' r' => ?_⟩⟩
  obtain ⟨e1, e2⟩ := y
  subst e1
  have e3 := e2 vs h1
  rw [h3] at e3
  cases e3
  exact Rel.kid (r := .val (.ref p) (.lst o ds)) r' h4 (fzns_mem z (List.mem_of_getElem? hx))
theorem its_tup {K : PySem.W.Frag} {mg : Str → Option Value} {p : Addr} {o : Bool} {ds : List Dv} (z : fzns ds = true) : ItS K mg (Itt K p) [.val (.ref p) (.tup o ds)] ds := fun j F H rest r => by
  obtain ⟨fx, A, rr⟩ := r.rep
  obtain ⟨a, vs, e, h1, h2⟩ := rep_sqT fx rr
  cases e
  refine ⟨fun x hx => ?_, fun hl => ⟨vs, h1, by rw [h2.len]; exact hl⟩⟩
  obtain ⟨v, C, h3, h4⟩ := h2.at hx
  refine ⟨⟨vs, v, h1, h3⟩, fun w H' y => ⟨F, fun rest' r' => ?_⟩⟩
  obtain ⟨e1, e2⟩ := y
  subst e1
  have e3 := e2 vs h1
  rw [h3] at e3
  cases e3
  exact Rel.kid (r := .val (.ref p) (.tup o ds)) r' h4 (fzns_mem z (List.mem_of_getElem? hx))
theorem ji_lst (h : JE X W a f) : JI X W tg a (iLst f) := by
  obtain ⟨t, p, s⟩ := h
  refine ⟨_, pi_list p, fun F H σ ρ T R n h => s F H σ ρ T _ n (h.bnd.imp fun d ρ1 h1 F1 H1 v n1 => ?_)⟩
  split at h1
  · rename_i o ds
    split at h1
    · rename_i z
      obtain ⟨rest, nr⟩ := Now.rel (L := [.val v (.lst o ds)]) n1
      obtain ⟨fx, A, rr⟩ := nr.rep
      obtain ⟨p, vs, B, rfl, q1, q2⟩ := rep_sqL fx rr
      exact ⟨p, rfl, ⟨vs, q1⟩, h1 F1 H1 _ _ (its_lst z) n1⟩
    · exact h1.elim
  · exact h1.elim
theorem ji_tup (h : JE X W a f) : JI X W tg a (iTup f) := by
  obtain ⟨t, p, s⟩ := h
  refine ⟨_, pi_tup p, fun F H σ ρ T R n h => s F H σ ρ T _ n (h.bnd.imp fun d ρ1 h1 F1 H1 v n1 => ?_)⟩
  split at h1
  · rename_i o ds
    split at h1
    · rename_i z
      obtain ⟨rest, nr⟩ := Now.rel (L := [.val v (.tup o ds)]) n1
      obtain ⟨fx, A, rr⟩ := nr.rep
      obtain ⟨p, vs, rfl, q1, q2⟩ := rep_sqT fx rr
      exact ⟨p, rfl, ⟨vs, q1⟩, h1 F1 H1 _ _ (its_tup z) n1⟩
    · exact h1.elim
  · exact h1.elim
/-- the signs of a text -/
def signs (s : Str) : List Dv := s.cps.toList.map fun c => .str ⟨#[c]⟩
def iStrD (f : SE) : SI := fun ρ => (f ρ).bnd fun d ρ1 => match d with
  | .str s => .ok (signs s) ρ1
  | _ => .stk
theorem its_str {K : PySem.W.Frag} {mg : Str → Option Value} {s : Str} : ItS K mg (L2.Its s) [] (signs s) := fun j F H rest r => by
  refine ⟨fun x hx => ?_, fun hl => ?_⟩
  · unfold signs at hx
    rw [List.getElem?_map] at hx
    obtain ⟨c, h1, h2⟩ := Option.map_eq_some_iff.mp hx
    subst h2
    rw [Array.getElem?_toList] at h1
    refine ⟨(Array.getElem?_eq_some_iff.mp h1).1, fun w H' y => ⟨F, fun rest' r' => ?_⟩⟩
    obtain ⟨e1, c', e2, e3⟩ := y
    rw [h1] at e2
    cases e2
    rw [e1, e3]
    exact Rel.add r' ⟨rfl, rfl⟩
  · unfold signs at hl
    rw [List.length_map, Array.length_toList] at hl
    exact hl
theorem ji_str (h : JE X W a f) : JI X W tg a (Pyd.iStrD f) := by
  obtain ⟨t, p, s⟩ := h
  refine ⟨_, pi_str p, fun F H σ ρ T R n h => s F H σ ρ T _ n (h.bnd.imp fun d ρ1 h1 F1 H1 v n1 => ?_)⟩
  split at h1
  · rename_i x
    obtain ⟨rest, nr⟩ := Now.rel (L := [.val v (.str x)]) n1
    obtain ⟨fx, A, rr⟩ := nr.rep
    exact ⟨x, rr.1, h1 F1 H1 _ [] its_str n1.drop⟩
  · exact h1.elim
/-- the items of a list, of a tuple, of a text, whichever it is -/
def iAny (f : SE) : SI := fun ρ => (f ρ).bnd fun d ρ1 => match d with
  | .lst _ ds => if fzns ds = true then .ok ds ρ1 else .stk
  | .tup _ ds => if fzns ds = true then .ok ds ρ1 else .stk
  | .str s => .ok (signs s) ρ1
  | _ => .stk
theorem iAny_or (f : SE) (ρ : En) : Pyd.iAny f ρ = Pyd.iLst f ρ ∨ Pyd.iAny f ρ = Pyd.iTup f ρ ∨ Pyd.iAny f ρ = Pyd.iStrD f ρ := by
  unfold Pyd.iAny Pyd.iLst Pyd.iTup Pyd.iStrD
  cases f ρ with
  | ok d ρ1 =>
    cases d with
    | tup g ds => exact .inr (.inl rfl)
    | str s => exact .inr (.inr rfl)
    | _ => exact .inl rfl
  | _ => exact .inl rfl
theorem ji_any (h : JE X W a f) : JI X W tg a (Pyd.iAny f) := by
  obtain ⟨w1, p1, s1⟩ := ji_lst (tg := tg) h
  obtain ⟨w2, p2, s2⟩ := ji_tup (tg := tg) h
  obtain ⟨w3, p3, s3⟩ := ji_str (tg := tg) h
  refine ⟨fun σ H R => w1 σ H R ∨ w2 σ H R ∨ w3 σ H R, ⟨fun pins s σ H R I z => z.elim (p1.run pins s σ H R I) fun z => z.elim (p2.run pins s σ H R I) (p3.run pins s σ H R I)⟩, fun F H σ ρ T R n z => ?_⟩
  rcases iAny_or f ρ with e | e | e <;> rw [e] at z
  · exact .inl (s1 F H σ ρ T R n z)
  · exact .inr (.inl (s2 F H σ ρ T R n z))
  · exact .inr (.inr (s3 F H σ ρ T R n z))
def rng (lo : Int) (n : Nat) : List Dv := (List.range n).map fun k => .int (lo + (k : Nat))
theorem its_rng {K : PySem.W.Frag} {mg : Str → Option Value} {lo : Int} {n : Nat} : ItS K mg (Itr lo n) [] (rng lo n) := fun j F H rest r => by
  refine ⟨fun x hx => ?_, fun hl => show n ≤ j by simpa [rng] using hl⟩
  have hj : j < n := by simpa [rng] using getElem_some hx
  have e : x = .int (lo + j) := by
    unfold rng at hx
    rw [List.getElem?_map, List.getElem?_range hj] at hx
    exact (Option.some.inj hx).symm
  subst e
  refine ⟨hj, fun v H' y => ⟨F, fun rest' r' => ?_⟩⟩
  obtain ⟨e1, e2⟩ := y
  subst e1 e2
  exact r'.add ⟨rfl, rfl⟩
def iRng1 (fs : SPA) : SI := fun ρ => match fs ρ with
  | some [.int n] => if -1000000 ≤ n ∧ n ≤ 1000000 then .ok (rng 0 n.toNat) ρ else .stk
  | _ => .stk
def iRng2 (fs : SPA) : SI := fun ρ => match fs ρ with
  | some [.int m, .int n] => if (-1000000 ≤ m ∧ m ≤ 1000000) ∧ -1000000 ≤ n ∧ n ≤ 1000000 then .ok (rng m (n - m).toNat) ρ else .stk
  | _ => .stk
theorem reps_two {K : PySem.W.Frag} {mg : Str → Option Value} {F H : Hp} {d e : Dv} {vs : List V} {A : List Addr} (h : Reps K mg F H [d, e] vs A) : ∃ v w B C, vs = [v, w] ∧ Rep K mg F H d v B ∧ Rep K mg F H e w C := by
  obtain ⟨v, vr, A1, A2, rfl, rfl, h1, h2⟩ := h
  obtain ⟨w, C, rfl, h3⟩ := reps_one h2
  exact ⟨v, w, A1, C, rfl, h1, h3⟩
theorem ji_rng1 {p : Pos} {fs : SPA} (hm : X.mg "range" = none) (h : JPA X [a] fs) (hg : Gl X "range" := by rfl) (hs : starEach [a] X.env = [(false, eval a X.env)] := by rfl) : JI X W tg (.Call (.Name "range" p) [a] [] pos) (iRng1 fs) := by
  obtain ⟨t, pa, s⟩ := h
  refine ⟨_, pi_range1 hg hm pa hs, fun F H σ ρ T R n h => ?_⟩
  unfold iRng1 at h
  split at h
  · rename_i m e
    split at h
    · rename_i hz
      refine s F H σ ρ T _ n ⟨_, e, fun vs A r => ?_⟩
      obtain ⟨v, B, rfl, r1⟩ := reps_one r
      obtain ⟨rfl, _⟩ := r1
      exact ⟨m, rfl, by omega, by omega, h F H _ [] its_rng n⟩
    · exact h.elim
  · exact h.elim
theorem ji_rng2 {p : Pos} {fs : SPA} (hm : X.mg "range" = none) (h : JPA X [a, b] fs) (hg : Gl X "range" := by rfl) (hs : starEach [a, b] X.env = [(false, eval a X.env), (false, eval b X.env)] := by rfl) (hs2 : starEach [b] X.env = [(false, eval b X.env)] := by rfl) : JI X W tg (.Call (.Name "range" p) [a, b] [] pos) (iRng2 fs) := by
  obtain ⟨t, pa, s⟩ := h
  refine ⟨_, pi_range2 hg hm pa hs hs2, fun F H σ ρ T R n h => ?_⟩
  unfold iRng2 at h
  split at h
  · rename_i m m' e
    split at h
    · rename_i hz
      refine s F H σ ρ T _ n ⟨_, e, fun vs A r => ?_⟩
      obtain ⟨v, w, B, C, rfl, r1, r2⟩ := reps_two r
      obtain ⟨rfl, _⟩ := r1
      obtain ⟨rfl, _⟩ := r2
      exact ⟨m, m', rfl, ⟨by omega, by omega, by omega, by omega⟩, h F H _ [] its_rng n⟩
    · exact h.elim
  · exact h.elim
end

/-! ### for -/
def forL (gt : GT) (gb : SS) : List Dv → En → Ss
  | [], ρ => .nx ρ
  | x :: xs, ρ => match gt x ρ with
    | none => .stk
    | some ρ1 => match gb ρ1 with
      | .nx ρ2 => forL gt gb xs ρ2
      | .ct ρ2 => forL gt gb xs ρ2
      | .bk ρ2 => .nx ρ2
      | .rt d ρ2 => .rt d ρ2
      | .err x ρ2 => .err x ρ2
      | .stk => .stk
def gFor (fi : SI) (gt : GT) (gb : SS) : SS := fun ρ => bndS (fi ρ) fun items ρ1 => forL gt gb items ρ1
theorem drop_cons {α : Type} {xs : List α} {j : Nat} {x : α} (h : xs[j]? = some x) : xs.drop j = x :: xs.drop (j + 1) := by
  obtain ⟨hl, e⟩ := List.getElem?_eq_some_iff.mp h
  rw [List.drop_eq_getElem_cons hl, e]
section
variable {X : Cx} {W : WX} {fx ts : List Nat} {tg it c : Expr} {body : List Stmt} {fi : SI} {gt : GT} {gb : SS} {t : ST} {pos : Pos}
theorem js_for (po : PassesOwn (model X.prog X.w) X.A X.env X.xe) (hi : JI X W tg it fi) (hg : JG X tg gt ts) (hb : JSs X W fx body gb) (hd : ∀ i ∈ fx, i ∉ ts := by decide) (hc : X.calm = true := by rfl)
    (hs : ∀ x, foldedSetIterable it X.env x = pure x := by intro _; rfl) : JS X W fx (.For tg it body [] pos) (gFor fi gt gb) := by
  obtain ⟨wi, p, s⟩ := hi
  obtain ⟨g, q, s'⟩ := hg
  obtain ⟨tb, r, sb⟩ := hb
  refine ⟨_, ps_for po hc p q r hs, fun F H σ ρ T D n h => s F H σ ρ T _ n ((postS_bnd h).imp fun items ρ1 h1 F1 H1 J L hJ n1 => ?_)⟩
  refine ⟨fun i m σ' H' => m = items.length - i ∧ i ≤ items.length ∧ ∃ F' ρ', Keep fx σ σ' ∧ Now X.K X.mg F' H' σ' ρ' (L ++ T) ∧ PostS X.K X.mg fx W σ T D (forL gt gb (items.drop i) ρ'), ⟨_, rfl, Nat.zero_le _, F1, ρ1, Keep.refl σ, n1, h1⟩, ?_⟩
  rintro i m σ2 H2 ⟨rfl, hi, F2, ρ2, k2, n2, h2⟩
  obtain ⟨rest, nr⟩ := n2.rel
  obtain ⟨j1, j2⟩ := hJ i F2 H2 rest nr
  by_cases hlt : i < items.length
  · have hx : items[i]? = some items[i] := List.getElem?_eq_getElem hlt
    obtain ⟨go, y⟩ := j1 _ hx
    rw [drop_cons hx] at h2
    refine .inr ⟨go, fun σ' H' => ∃ F' ρ', Keep fx σ σ' ∧ Now X.K X.mg F' H' σ' ρ' (L ++ T) ∧ PostS X.K X.mg fx W σ T D (forL gt gb (items.drop (i + 1)) ρ'), fun σ' H' w => ⟨_, by omega, rfl, hlt, w⟩, fun v H3 hy => ?_⟩
    obtain ⟨F3, tr⟩ := y v H3 hy
    have n3 : Now X.K X.mg F3 H3 σ2 ρ2 (.val v items[i] :: (L ++ T)) := by
      obtain ⟨rs, sl, rr⟩ := n2
      refine ⟨rs, sl, ?_⟩
      have rr' : Rel X.K X.mg F2 H2 (L ++ (rs ++ T)) := rr.perm (by
        rw [← List.append_assoc, ← List.append_assoc]
        exact List.perm_append_comm.append_right T)
      refine (tr _ rr').perm ?_
      refine List.Perm.trans (List.Perm.cons _ ?_) List.perm_middle.symm
      rw [← List.append_assoc, ← List.append_assoc]
      exact List.perm_append_comm.append_right T
    unfold forL at h2
    split at h2
    · exact h2.elim
    · rename_i ρ3 e3
      refine s' F3 H3 σ2 ρ2 (L ++ T) v _ ρ3 _ n3 e3 fun F4 σ4 o4 n4 => ?_
      have k4 := k2.trans (o4.keep hd)
      refine sb F4 H3 σ4 ρ3 (L ++ T) _ n4 ?_
      cases e5 : gb ρ3 with
      | nx ρ5 =>
        rw [e5] at h2
        exact fun F5 H5 σ5 k5 n5 => ⟨F5, ρ5, k4.trans k5, n5, h2⟩
      | ct ρ5 =>
        rw [e5] at h2
        exact fun F5 H5 σ5 k5 n5 => ⟨F5, ρ5, k4.trans k5, n5, h2⟩
      | bk ρ5 =>
        rw [e5] at h2
        exact fun F5 H5 σ5 k5 n5 => h2 F5 H5 σ5 (k4.trans k5) n5.dropL
      | rt d ρ5 =>
        rw [e5] at h2
        exact fun F5 H5 σ5 v k5 n5 => h2 F5 H5 σ5 v (k4.trans k5) (shift (A := [.val v d]) n5)
      | err x ρ5 =>
        rw [e5] at h2
        exact fun F5 H5 σ5 cls dd rs k5 ev n5 => h2 F5 H5 σ5 cls dd rs (k4.trans k5) ev (shift n5)
      | stk =>
        rw [e5] at h2
        exact h2
  · have e : i = items.length := by omega
    subst e
    rw [List.drop_length] at h2
    exact .inl ⟨j2 (Nat.le_refl _), h2 F2 H2 σ2 k2 n2.dropL⟩
/-! ### while -/
def whL (t : ST) (gb : SS) : Nat → En → Ss
  | 0, _ => .stk
  | n + 1, ρ => match t ρ with
    | .ok true ρ1 => (match gb ρ1 with
      | .nx ρ2 => whL t gb n ρ2
      | .ct ρ2 => whL t gb n ρ2
      | .bk ρ2 => .nx ρ2
      | .rt d ρ2 => .rt d ρ2
      | .err x ρ2 => .err x ρ2
      | .stk => .stk)
    | .ok false ρ1 => .nx ρ1
    | .err x ρ1 => .err x ρ1
    | .stk => .stk
open Classical in
noncomputable def gWh (t : ST) (gb : SS) : SS := fun ρ => if h : ∃ n, whL t gb n ρ ≠ .stk then whL t gb h.choose ρ else .stk
theorem whL_mono {n : Nat} : ∀ {ρ : En}, whL t gb n ρ ≠ .stk → whL t gb (n + 1) ρ = whL t gb n ρ := by
  induction n with
  | zero => exact fun h => absurd rfl h
  | succ n ih =>
    intro ρ h
    unfold whL at h ⊢
    cases e : t ρ with
    | ok b ρ1 =>
      cases b with
      | false => rfl
      | true =>
        rw [e] at h
        simp only at h ⊢
        cases e2 : gb ρ1 with
        | nx ρ2 => rw [e2] at h; exact ih h
        | ct ρ2 => rw [e2] at h; exact ih h
        | bk ρ2 => rfl
        | rt d ρ2 => rfl
        | err x ρ2 => rfl
        | stk => rfl
    | err x ρ1 => rfl
    | stk => rfl
theorem whL_le {n m : Nat} {ρ : En} (h : whL t gb n ρ ≠ .stk) (hm : n ≤ m) : whL t gb m ρ = whL t gb n ρ := by
  induction hm with
  | refl => rfl
  | step _ ih => rw [whL_mono (by rw [ih]; exact h), ih]
theorem gWh_eq {n : Nat} {ρ : En} {r : Ss} (h : whL t gb n ρ = r) (hr : r ≠ .stk) : gWh t gb ρ = r := by
  have hx : ∃ n, whL t gb n ρ ≠ .stk := ⟨n, by rw [h]; exact hr⟩
  unfold gWh
  rw [dif_pos hx]
  have c := hx.choose_spec
  have hn : whL t gb n ρ ≠ .stk := by rw [h]; exact hr
  rcases Nat.le_total n hx.choose with z | z
  · rw [whL_le hn z, h]
  · rw [← h, whL_le c z]
theorem js_while (po : PassesOwn (model X.prog X.w) X.A X.env X.xe) (hc : JT X W c t) (hb : JSs X W fx body gb) : JS X W fx (.While c body [] pos) (gWh t gb) := by
  obtain ⟨tc, p, s⟩ := hc
  obtain ⟨tb, r, sb⟩ := hb
  refine ⟨_, ps_while po p r, fun F H σ ρ T D n h => ?_⟩
  unfold gWh at h
  split at h
  · rename_i hx
    refine ⟨fun m σ' H' => ∃ F' ρ', Keep fx σ σ' ∧ Now X.K X.mg F' H' σ' ρ' T ∧ PostS X.K X.mg fx W σ T D (whL t gb m ρ'), ⟨_, F, ρ, Keep.refl σ, n, h⟩, ?_⟩
    rintro m σ2 H2 ⟨F2, ρ2, k2, n2, h2⟩
    cases m with
    | zero => exact h2.elim
    | succ m =>
      unfold whL at h2
      refine s F2 H2 σ2 ρ2 T _ n2 ?_
      cases e : t ρ2 with
      | ok b ρ3 =>
        rw [e] at h2
        intro F3 H3 n3
        cases b with
        | true =>
          rw [if_pos rfl]
          simp only at h2
          refine ⟨fun σ' H' => ∃ F' ρ', Keep fx σ σ' ∧ Now X.K X.mg F' H' σ' ρ' T ∧ PostS X.K X.mg fx W σ T D (whL t gb m ρ'), fun σ' H' w => ⟨m, by omega, w⟩, sb F3 H3 σ2 ρ3 T _ n3 ?_⟩
          cases e5 : gb ρ3 with
          | nx ρ5 =>
            rw [e5] at h2
            exact fun F5 H5 σ5 k5 n5 => ⟨F5, ρ5, k2.trans k5, n5, h2⟩
          | ct ρ5 =>
            rw [e5] at h2
            exact fun F5 H5 σ5 k5 n5 => ⟨F5, ρ5, k2.trans k5, n5, h2⟩
          | bk ρ5 =>
            rw [e5] at h2
            exact fun F5 H5 σ5 k5 n5 => h2 F5 H5 σ5 (k2.trans k5) n5
          | rt d ρ5 =>
            rw [e5] at h2
            exact fun F5 H5 σ5 v k5 n5 => h2 F5 H5 σ5 v (k2.trans k5) n5
          | err x ρ5 =>
            rw [e5] at h2
            exact fun F5 H5 σ5 cls dd rs k5 ev n5 => h2 F5 H5 σ5 cls dd rs (k2.trans k5) ev n5
          | stk =>
            rw [e5] at h2
            exact h2
        | false =>
          rw [if_neg Bool.false_ne_true]
          exact h2 F3 H3 σ2 k2 n3
      | err x ρ3 =>
        rw [e] at h2
        exact fun F3 H3 cls dd rs ev n3 => h2 F3 H3 σ2 cls dd rs k2 ev n3
      | stk =>
        rw [e] at h2
        exact h2
  · exact h.elim
end

/-! ### a def -/
def semB (m : Nat) (g : SS) : List Dv → Rz := fun ds => match g (ds.map some ++ List.replicate (m - ds.length) none) with
  | .nx _ => .ok .non
  | .rt d _ => .ok d
  | .err x _ => .err x
  | _ => .stk
theorem slots_nones : ∀ (n : Nat), Slots (List.replicate n none) (List.replicate n none) []
  | 0 => .nil
  | n + 1 => by
    rw [List.replicate_succ]
    exact .none (slots_nones n)
theorem slots_start : ∀ {vs : List V} {ds : List Dv} (n : Nat), vs.length = ds.length → Slots (vs.map some ++ List.replicate n none) (ds.map some ++ List.replicate n none) (vals vs ds)
  | [], [], n, _ => slots_nones n
  | v :: vs, d :: ds, n, h => .some (slots_start n (by simpa using h))
  | [], _ :: _, _, h => by simp at h
  | _ :: _, [], _, h => by simp at h
section
variable {P : Program} {w : World} {K : PySem.W.Frag} {mg : Str → Option Value} {base : Heap}
/-- a def keeps the promise that its body's trees tell -/
theorem Fun.okD {x qual : Str} {st : Stmt} {f : Addr} {fd : FuncData} {N ps : List Str} {k m n : Nat} {g : SS} (F : Fun K x qual st f fd) (S : FnScope N ps (defScope st)) (hm : N.length = m) (hn : ps.length = n)
    (hbody : ∀ (cdv : Value) (A : Around) (outer : List Env) (s : Shared) (H : Hp) (E : XK), Room k (A.deeper (envOfC qual (defScope st) s.heap.objs.size f cdv)) →
      Takes (cxOf (L2.CX P w) P w K mg base N qual (defScope st) f cdv A outer s H E) (fun cls d _ H => E cls d H) →
      PassesOwn (model P w) (A.deeper (envOfC qual (defScope st) s.heap.objs.size f cdv)) (envOfC qual (defScope st) s.heap.objs.size f cdv) (cxOf (L2.CX P w) P w K mg base N qual (defScope st) f cdv A outer s H E).xe →
      JSs (cxOf (L2.CX P w) P w K mg base N qual (defScope st) f cdv A outer s H E) (fun cls d _ H => E cls d H) [] (defBody st) g) :
    FnOk P w K mg base (L2.CX P w) (k + 1) f fd ps (spD K mg n (semB m g)) := by
  refine F.okX S (fun vs H Q E h => by rw [hn]; exact h.1) fun cdv A outer s H vs Q E hr h => ?_
  obtain ⟨t, p, sn⟩ := hbody cdv A outer s H E hr (takes_of rfl rfl rfl rfl) (passes_of (X := cxOf (L2.CX P w) P w K mg base N qual (defScope st) f cdv A outer s H E) rfl)
  refine ⟨t, p, ?_⟩
  obtain ⟨hl, F0, ds, T, hd, r, q⟩ := h
  have e1 : L2.start N vs = vs.map some ++ List.replicate (m - ds.length) none := by
    unfold L2.start
    rw [hm, hd]
  rw [e1]
  refine sn F0 H _ (ds.map some ++ List.replicate (m - ds.length) none) T _ ⟨vals vs ds, slots_start _ hd, r⟩ ?_
  unfold semB at q
  cases e : g (ds.map some ++ List.replicate (m - ds.length) none) with
  | nx ρ =>
    rw [e] at q
    refine fun F1 H1 σ1 _ n1 => q F1 H1 .non ?_
    obtain ⟨rs, sl, rr⟩ := n1
    exact (Rel.dropL rr).add ⟨rfl, rfl⟩
  | rt d ρ =>
    rw [e] at q
    refine fun F1 H1 σ1 v _ n1 => q F1 H1 v ?_
    obtain ⟨rs, sl, rr⟩ := n1
    exact Rel.dropL rr
  | bk ρ => rw [e] at q; exact q.elim
  | ct ρ => rw [e] at q; exact q.elim
  | err x ρ =>
    rw [e] at q
    refine fun F1 H1 σ1 cls dd rs' _ ev n1 => q F1 H1 cls dd rs' ev ?_
    obtain ⟨rs, sl, rr⟩ := n1
    exact Rel.dropL rr
  | stk => rw [e] at q; exact q.elim
/-- another telling of what it does -/
theorem Def.imp {x : Str} {k n : Nat} {sem sem' : List Dv → Rz} (d : Def P w K mg base x k n sem) (h : ∀ ds, ds.length = n → sem' ds ≠ .stk → sem ds = sem' ds) : Def P w K mg base x k n sem' := by
  obtain ⟨f, fd, ps, F, a, b, c⟩ := d.ex
  refine ⟨⟨f, fd, ps, F.imp fun vs H Q E q => ?_, a, b, c⟩⟩
  obtain ⟨hl, F0, ds, T, hd, r, z⟩ := q
  refine ⟨hl, F0, ds, T, hd, r, ?_⟩
  have hne : sem' ds ≠ .stk := fun e => by rw [e] at z; exact z
  rw [h ds (by omega) hne]
  exact z
theorem _root_.L2.FnOk.nice {k n : Nat} {f : Addr} {fd : FuncData} {ps : List Str} {sem sem' : List Dv → Rz} (F : FnOk P w K mg base (L2.CX P w) k f fd ps (spD K mg n sem)) (h : ∀ ds, ds.length = n → sem' ds ≠ .stk → sem ds = sem' ds) : FnOk P w K mg base (L2.CX P w) k f fd ps (spD K mg n sem') := by
  refine F.imp fun vs H Q E q => ?_
  obtain ⟨hl, F0, ds, T, hd, r, z⟩ := q
  refine ⟨hl, F0, ds, T, hd, r, ?_⟩
  have hne : sem' ds ≠ .stk := fun e => by rw [e] at z; exact z
  rw [h ds (by omega) hne]
  exact z
theorem Def.mk2 {x : Str} {k n : Nat} {f : Addr} {fd : FuncData} {ps : List Str} {sem sem' : List Dv → Rz} (h : ∀ ds, ds.length = n → sem' ds ≠ .stk → sem ds = sem' ds) (F : FnOk P w K mg base (L2.CX P w) k f fd ps (spD K mg n sem)) (hm : mg x = some (.ref f)) (hk : PySem.W.keepIn K (.ref f) = true) (hb : Binds K fd ps []) : Def P w K mg base x k n sem' :=
  ⟨⟨f, fd, ps, F.nice h, hm, hk, hb⟩⟩
theorem Def.up {x : Str} {j k n : Nat} {sem : List Dv → Rz} (d : Def P w K mg base x j n sem) (h : j ≤ k) : Def P w K mg base x k n sem := by
  obtain ⟨f, fd, ps, F, a, b, c⟩ := d.ex
  exact ⟨⟨f, fd, ps, F.mono h, a, b, c⟩⟩
end
end Pyd
set_option maxRecDepth 100000
/-! PydF: comprehensions, lists by operators and builtins. -/
namespace Pyd
open PySem PySem.Spec PyProof.Rows L2

/-! ### comprehensions -/
def wipeE (ρ : En) : List Nat → En
  | [] => ρ
  | v :: vs => (wipeE ρ vs).set v none
/-- the slots vs as they were in ρ -/
def backE (ρ ρ' : En) : List Nat → En
  | [] => ρ'
  | v :: vs => backE ρ (match (wipeE ρ vs)[v]? with
    | some (some d) => ρ'.set v (some d)
    | _ => ρ') vs
section
variable {K : PySem.W.Frag} {mg : Str → Option Value}
theorem wipeE_length (ρ : En) : ∀ vs : List Nat, (wipeE ρ vs).length = ρ.length
  | [] => rfl
  | v :: vs => by
    show ((wipeE ρ vs).set v none).length = _
    rw [List.length_set, wipeE_length ρ vs]
theorem wipe_len (σ : L2.St) : ∀ vs : List Nat, (wipe σ vs).length = σ.length
  | [] => rfl
  | v :: vs => by
    show ((wipe σ vs).set v none).length = _
    rw [List.length_set, wipe_len σ vs]
theorem wipe_get (σ : L2.St) (j : Nat) : ∀ vs : List Nat, (wipe σ vs)[j]? = if j ∈ vs then (if j < σ.length then some none else none) else σ[j]?
  | [] => by simp [wipe]
  | v :: vs => by
    show ((wipe σ vs).set v none)[j]? = _
    by_cases h : v = j
    · subst h
      by_cases hl : v < σ.length
      · rw [List.getElem?_set_self (by rw [wipe_len]; exact hl)]
        simp [hl]
      · rw [List.getElem?_eq_none (by rw [List.length_set, wipe_len]; omega)]
        simp [hl]
    · rw [List.getElem?_set_ne h, wipe_get σ j vs]
      have e : (j ∈ v :: vs) ↔ j ∈ vs := by
        constructor
        · intro z
          cases z with
          | head => exact absurd rfl h
          | tail _ z => exact z
        · exact fun z => .tail _ z
      simp only [e]
theorem wipe_off {σ σ' : L2.St} {ts vs : List Nat} (o : Off ts (wipe σ vs) σ') (h : ∀ i ∈ ts, i ∈ vs) : wipe σ' vs = wipe σ vs := by
  have hl : σ'.length = σ.length := by rw [o.1, wipe_len]
  apply List.ext_getElem?
  intro j
  rw [wipe_get, wipe_get, hl]
  by_cases hj : j ∈ vs
  · rw [if_pos hj, if_pos hj]
  · rw [if_neg hj, if_neg hj, o.2 j (fun z => hj (h j z)), wipe_get, if_neg hj]
theorem wipeE_none (ρ : En) : ∀ (vs : List Nat) (i : Nat), i ∈ vs → i < ρ.length → (wipeE ρ vs)[i]? = some none
  | v :: vs, i, hi, hl => by
    show ((wipeE ρ vs).set v none)[i]? = _
    by_cases h : v = i
    · subst h
      rw [List.getElem?_set_self (by rw [wipeE_length]; exact hl)]
    · rw [List.getElem?_set_ne h]
      cases hi with
      | head => exact absurd rfl h
      | tail _ hi => exact wipeE_none ρ vs i hi hl
/-- slots that are wiped are kept aside -/
theorem Now.wipe {F H : Hp} {σ : L2.St} {ρ : En} {T : List Root} (n : Now K mg F H σ ρ T) : ∀ vs : List Nat, ∃ L, Now K mg F H (L2.wipe σ vs) (wipeE ρ vs) (L ++ T) ∧
    ∀ F' H' ρ' T', (∀ i ∈ vs, i < ρ.length → ρ'[i]? = some none) → Now K mg F' H' (L2.wipe σ vs) ρ' (L ++ T') → Now K mg F' H' σ (backE ρ ρ' vs) T'
  | [] => ⟨[], n, fun F' H' ρ' T' _ n' => n'⟩
  | v :: vs => by
    obtain ⟨L, n1, back⟩ := Now.wipe n vs
    cases e : (wipeE ρ vs)[v]? with
    | none =>
      have hl : ρ.length ≤ v := by
        have := List.getElem?_eq_none_iff.mp e
        rwa [wipeE_length] at this
      have e1 : (wipeE ρ vs).set v none = wipeE ρ vs := List.set_eq_of_length_le (by rw [wipeE_length]; exact hl)
      have e2 : (L2.wipe σ vs).set v none = L2.wipe σ vs := List.set_eq_of_length_le (by rw [wipe_len, n.len]; exact hl)
      refine ⟨L, by show Now K mg F H ((L2.wipe σ vs).set v none) ((wipeE ρ vs).set v none) (L ++ T); rw [e1, e2]; exact n1, fun F' H' ρ' T' hn n' => ?_⟩
      have n2 : Now K mg F' H' ((L2.wipe σ vs).set v none) ρ' (L ++ T') := n'
      rw [e2] at n2
      show Now K mg F' H' σ (backE ρ (match (wipeE ρ vs)[v]? with | some (some d) => ρ'.set v (some d) | _ => ρ') vs) T'
      rw [e]
      exact back F' H' ρ' T' (fun i hi => hn i (.tail _ hi)) n2
    | some x =>
      have hv : v < ρ.length := by
        have := (List.getElem?_eq_some_iff.mp e).1
        rwa [wipeE_length] at this
      cases x with
      | none =>
        have e1 : (wipeE ρ vs).set v none = wipeE ρ vs := by
          apply List.ext_getElem?
          intro j
          by_cases h : v = j
          · subst h
            rw [List.getElem?_set_self (by rw [wipeE_length]; exact hv), e]
          · rw [List.getElem?_set_ne h]
        obtain ⟨rs, sl, r⟩ := n1
        obtain ⟨rs', rd, sl', pr⟩ := sl.drop v none
        have n2 : Now K mg F H ((L2.wipe σ vs).set v none) ((wipeE ρ vs).set v none) (L ++ T) := ⟨rs', sl', by
          refine Rel.dropL (rs := rd) (r.perm ?_)
          rw [← List.append_assoc rd]
          exact pr.append_right _⟩
        refine ⟨L, n2, fun F' H' ρ' T' hn n' => ?_⟩
        show Now K mg F' H' σ (backE ρ (match (wipeE ρ vs)[v]? with | some (some d) => ρ'.set v (some d) | _ => ρ') vs) T'
        rw [e]
        have n3 : Now K mg F' H' ((L2.wipe σ vs).set v none) ρ' (L ++ T') := n'
        refine back F' H' ρ' T' (fun i hi => hn i (.tail _ hi)) ?_
        obtain ⟨rs2, sl2, r2⟩ := n3
        have hρ : ρ'[v]? = some none := hn v (.head _) hv
        obtain ⟨rs3, rd3, sl3, pr3⟩ := sl2.drop v ((L2.wipe σ vs)[v]?.join)
        have e3 : ρ'.set v none = ρ' := by
          apply List.ext_getElem?
          intro j
          by_cases h : v = j
          · subst h
            rw [List.getElem?_set_self (List.getElem?_eq_some_iff.mp hρ).1, hρ]
          · rw [List.getElem?_set_ne h]
        have e4 : ((L2.wipe σ vs).set v none).set v ((L2.wipe σ vs)[v]?.join) = L2.wipe σ vs := by
          rw [List.set_set]
          have hv2 : v < (L2.wipe σ vs).length := by rw [wipe_len, n.len]; exact hv
          apply List.ext_getElem?
          intro j
          by_cases h : v = j
          · subst h
            rw [List.getElem?_set_self hv2, List.getElem?_eq_getElem hv2]
            rfl
          · rw [List.getElem?_set_ne h]
        rw [e3, e4] at sl3
        refine ⟨rs3, sl3, Rel.dropL (rs := rd3) (r2.perm ?_)⟩
        rw [← List.append_assoc rd3]
        exact pr3.append_right _
      | some d =>
        obtain ⟨w, hw, n2⟩ := n1.get e
        obtain ⟨rs, sl, r⟩ := n2
        obtain ⟨rs', rd, sl', pr⟩ := sl.drop v none
        rw [List.set_set] at sl'
        have n3 : Now K mg F H ((L2.wipe σ vs).set v none) ((wipeE ρ vs).set v none) ((.val w d :: L) ++ T) := ⟨rs', sl', by
          refine Rel.dropL (rs := rd) (r.perm ?_)
          rw [← List.append_assoc rd]
          exact pr.append_right _⟩
        refine ⟨.val w d :: L, n3, fun F' H' ρ' T' hn n' => ?_⟩
        show Now K mg F' H' σ (backE ρ (match (wipeE ρ vs)[v]? with | some (some d) => ρ'.set v (some d) | _ => ρ') vs) T'
        rw [e]
        have n4 : Now K mg F' H' ((L2.wipe σ vs).set v none) ρ' (.val w d :: (L ++ T')) := n'
        have n5 := n4.put (i := v) (by rw [← n4.len, List.length_set, wipe_len, n.len]; exact hv)
        rw [List.set_set] at n5
        have e4 : (L2.wipe σ vs).set v (some w) = L2.wipe σ vs := by
          apply List.ext_getElem?
          intro j
          by_cases h : v = j
          · subst h
            rw [List.getElem?_set_self (by rw [wipe_len, n.len]; exact hv), hw]
          · rw [List.getElem?_set_ne h]
        rw [e4] at n5
        refine back F' H' (ρ'.set v (some d)) T' (fun i hi hil => ?_) n5
        by_cases h : v = i
        · subst h
          -- v is among vs: it was wiped there
          have := e
          exfalso
          have q : (wipeE ρ vs)[v]? = some none := wipeE_none ρ vs v hi hil
          rw [q] at this
          cases this
        · rw [List.getElem?_set_ne h]
          exact hn i (.tail _ hi) hil
end
def lcL (vs : List Nat) (gt : GT) (ft : ST) (fe : SE) : List Dv → En → List Dv → Rs (List Dv)
  | [], ρ, acc => .ok acc ρ
  | x :: xs, ρ, acc => match gt x ρ with
    | none => .stk
    | some ρ1 => match ft ρ1 with
      | .ok true ρ2 => (match fe ρ2 with
        | .ok y ρ3 => if acc.length < 1000000 then lcL vs gt ft fe xs (wipeE ρ3 vs) (acc ++ [y]) else .stk
        | _ => .stk)
      | .ok false ρ2 => lcL vs gt ft fe xs (wipeE ρ2 vs) acc
      | _ => .stk
def sLc (vs : List Nat) (fi : SI) (gt : GT) (ft : ST) (fe : SE) : SE := fun ρ => (fi ρ).bnd fun items ρ1 => (lcL vs gt ft fe items (wipeE ρ1 vs) []).bnd fun acc ρ2 => .ok (.lst true acc) (backE ρ1 ρ2 vs)
def W0 : WX := fun _ _ _ _ => False
def tYs : ST := fun ρ => .ok true ρ
theorem Now.wipeD {K : PySem.W.Frag} {mg : Str → Option Value} {F H : Hp} {σ σ' : L2.St} {ρ : En} {T : List Root} (n : Now K mg F H σ ρ T) : ∀ (vs : List Nat), Now K mg F H (L2.wipe σ vs) (wipeE ρ vs) T
  | [] => n
  | v :: vs => by
    obtain ⟨rs, sl, r⟩ := Now.wipeD (σ' := σ') n vs
    obtain ⟨rs', rd, sl', pr⟩ := sl.drop v none
    refine ⟨rs', sl', Rel.dropL (rs := rd) (r.perm ?_)⟩
    rw [← List.append_assoc rd]
    exact pr.append_right _
theorem perm_pull {α : Type} (X L Y : List α) : (X ++ (L ++ Y)).Perm (L ++ (X ++ Y)) := by
  rw [← List.append_assoc, ← List.append_assoc]
  exact List.perm_append_comm.append_right Y
theorem perm_lc {α : Type} (a c : α) (L V R : List α) : (a :: (L ++ (c :: (V ++ R)))).Perm (c :: (L ++ (V ++ (a :: R)))) := by
  have h1 : (V ++ a :: R).Perm (a :: (V ++ R)) := List.perm_middle
  have h2 : (L ++ (V ++ a :: R)).Perm (L ++ (a :: (V ++ R))) := h1.append_left L
  have h3 : (L ++ (a :: (V ++ R))).Perm (a :: (L ++ (V ++ R))) := List.perm_middle
  have h4 : (L ++ (c :: (V ++ R))).Perm (c :: (L ++ (V ++ R))) := List.perm_middle
  exact (h4.cons a).trans ((List.Perm.swap _ _ _).trans ((h2.trans h3).cons c).symm)
section
variable {K : PySem.W.Frag} {mg : Str → Option Value} {W : WX}
theorem ItS.step {J : It} {L R R' : List Root} {items : List Dv} (hJ : ItS K mg J L items) {j : Nat} {F H : Hp} {σ : L2.St} {ρ : En} (n : Now K mg F H σ ρ R) (p : R.Perm (L ++ R')) :
    (∀ x, items[j]? = some x → J.go j H ∧ ∀ v H', J.yld j H v H' → ∃ F', Now K mg F' H' σ ρ (.val v x :: R)) ∧ (items.length ≤ j → J.stop j H) := by
  obtain ⟨rs, sl, r⟩ := n
  have q : (rs ++ R).Perm (L ++ (rs ++ R')) := (p.append_left rs).trans (perm_pull rs L R')
  obtain ⟨h1, h2⟩ := hJ j F H _ (r.perm q)
  refine ⟨fun x hx => ⟨(h1 x hx).1, fun v H' y => ?_⟩, h2⟩
  obtain ⟨F', tr⟩ := (h1 x hx).2 v H' y
  refine ⟨F', rs, sl, (tr _ (r.perm q)).perm ?_⟩
  exact ((q.symm).cons _).trans List.perm_middle.symm
theorem lcL_noerr (vs : List Nat) (gt : GT) (ft : ST) (fe : SE) (x : Er) (ρx : En) : ∀ (items : List Dv) (ρ : En) (acc : List Dv), lcL vs gt ft fe items ρ acc ≠ .err x ρx
  | [], ρ, acc => fun h => nomatch h
  | y :: ys, ρ, acc => fun h => by
    unfold lcL at h
    split at h
    · cases h
    · split at h
      · split at h
        · split at h
          · exact lcL_noerr vs gt ft fe x ρx ys _ _ h
          · cases h
        · cases h
      · exact lcL_noerr vs gt ft fe x ρx ys _ _ h
      · cases h
theorem perm_end (c : Root) (L M A T : List Root) : (L ++ (c :: (M ++ (A ++ T)))).Perm ((c :: M) ++ (A ++ (L ++ T))) := by
  have h1 : (L ++ ((c :: M) ++ (A ++ T))).Perm ((c :: M) ++ (L ++ (A ++ T))) := List.perm_append_comm_assoc _ _ _
  exact h1.trans (List.Perm.append_left _ (List.perm_append_comm_assoc _ _ _))
/-- the loop of a comprehension, what is walked held by L all the time -/
theorem lcK {J : It} {L : List Root} {g : TG} {gt : GT} {ts vs : List Nat} {tt : TT} {ft : ST} {te : TE} {fe : SE} (hg : SndG K mg g gt ts) (ht : SndT K mg W0 tt ft) (he : SndE K mg W0 te fe) (hts : ∀ i ∈ ts, i ∈ vs)
    {F1 H1 : Hp} {σ : L2.St} {ρ1 ρF : En} {T : List Root} {items accF : List Dv} {Q : VK} (hJ : ItS K mg J L items) (n1 : Now K mg F1 H1 σ ρ1 (L ++ T)) (hr : lcL vs gt ft fe items (wipeE ρ1 vs) [] = .ok accF ρF)
    (h2 : ∀ F' H' v, Now K mg F' H' σ (backE ρ1 ρF vs) (.val v (.lst true accF) :: (L ++ T)) → Q v H') : tLc (fun _ _ R => R J H1) g tt te vs σ H1 Q := by
  intro D hD
  obtain ⟨A, n2, back⟩ := n1.wipe vs
  -- the slots vs are empty again at each turn's end
  have hlen : ∀ {σ' : L2.St} {F' H' : Hp} {ρ' : En} {T' : List Root}, Now K mg F' H' (wipe σ vs) ρ' T' → ρ'.length = ρ1.length := fun n' => by
    rw [← n'.len, wipe_len, n1.len]
  refine ⟨fun i m H' => m = items.length - i ∧ i ≤ items.length ∧ ∃ F' ρ' acc vacc, vacc.length = acc.length ∧ (∀ i ∈ vs, i < ρ1.length → ρ'[i]? = some none) ∧
    Now K mg F' H' (wipe σ vs) ρ' (L ++ (.cell D (.lst vacc) :: (vals vacc acc ++ (A ++ T)))) ∧ lcL vs gt ft fe (items.drop i) ρ' acc = .ok accF ρF, ⟨_, rfl, Nat.zero_le _, F1, wipeE ρ1 vs, [], [], rfl, fun i hi hl => wipeE_none ρ1 vs i hi hl, ?_, hr⟩, ?_⟩
  · obtain ⟨rs, sl, r⟩ := n2
    have n3 : Now K mg F1 (upd H1 D (.lst [])) (wipe σ vs) (wipeE ρ1 vs) (.cell D (.lst []) :: (A ++ (L ++ T))) := ⟨rs, sl, (r.newO hD).perm List.perm_middle.symm⟩
    have pp : (Root.cell D (.lst []) :: (A ++ (L ++ T))).Perm (L ++ (Root.cell D (.lst []) :: (A ++ T))) := perm_pull (Root.cell D (.lst []) :: A) L T
    exact n3.perm pp
  · rintro i m H2 ⟨rfl, hi, F2, ρ2, acc, vacc, hacc, hno, n3, h3⟩
    obtain ⟨j1, j2⟩ := hJ.step (j := i) n3 (.refl _)
    by_cases hlt : i < items.length
    · have hx : items[i]? = some items[i] := List.getElem?_eq_getElem hlt
      obtain ⟨go, y⟩ := j1 _ hx
      rw [drop_cons hx] at h3
      refine .inr ⟨go, fun H' => ∃ F' ρ' acc vacc, vacc.length = acc.length ∧ (∀ i ∈ vs, i < ρ1.length → ρ'[i]? = some none) ∧
        Now K mg F' H' (wipe σ vs) ρ' (L ++ (.cell D (.lst vacc) :: (vals vacc acc ++ (A ++ T)))) ∧ lcL vs gt ft fe (items.drop (i + 1)) ρ' acc = .ok accF ρF, fun H' w => ⟨_, by omega, rfl, hlt, w⟩, fun v H3 hy => ?_⟩
      obtain ⟨F3, n4⟩ := y v H3 hy
      unfold lcL at h3
      split at h3
      · cases h3
      · rename_i ρ3 e3
        refine hg F3 H3 (wipe σ vs) ρ2 _ v _ ρ3 _ n4 e3 fun F4 σ4 o4 n5 => ⟨wipe_off o4 hts, ?_⟩
        have hw := wipe_off o4 hts
        refine ht F4 H3 σ4 ρ3 _ _ n5 ?_
        split at h3
        · rename_i ρ4 e4
          rw [e4]
          intro F5 H5 n6
          rw [if_pos rfl]
          refine he F5 H5 σ4 ρ4 _ _ n6 ?_
          split at h3
          · rename_i dy ρ5 e5
            rw [e5]
            intro F6 H6 yv n7
            split at h3
            · rename_i hz
              have n8 := n7.perm (perm_lc (.val yv dy) (.cell D (.lst vacc)) L (vals vacc acc) (A ++ T))
              obtain ⟨rest, nr⟩ := Now.rel (L := [.cell D (.lst vacc)]) n8
              refine ⟨vacc, nr.at, by rw [sizeLine_eq, hacc]; omega, ?_⟩
              have n9 : Now K mg F6 (upd H6 D (.lst (vacc ++ [yv]))) σ4 ρ5 (.cell D (.lst (vacc ++ [yv])) :: (L ++ (vals vacc acc ++ (.val yv dy :: (A ++ T))))) :=
                n8.map (L := [.cell D (.lst vacc)]) (L' := [.cell D (.lst (vacc ++ [yv]))]) fun rest q => q.write
              have n10 := n9.wipeD (σ' := σ4) vs
              rw [hw] at n10
              refine ⟨F6, wipeE ρ5 vs, acc ++ [dy], vacc ++ [yv], by simp [hacc], fun i hi hl => wipeE_none ρ5 vs i hi ?_, ?_, h3⟩
              · have := n9.len
                rw [← this, o4.1, wipe_len, n1.len]
                exact hl
              · refine n10.perm ?_
                rw [vals_append hacc]
                refine List.Perm.trans List.perm_middle.symm ?_
                rw [List.append_assoc]
                exact .refl _
            · cases h3
          · cases h3
        · rename_i ρ4 e4
          rw [e4]
          intro F5 H5 n6
          rw [if_neg Bool.false_ne_true]
          have n10 := n6.wipeD (σ' := σ4) vs
          rw [hw] at n10
          refine ⟨F5, wipeE ρ4 vs, acc, vacc, hacc, fun i hi hl => wipeE_none ρ4 vs i hi ?_, n10, h3⟩
          have := n6.len
          rw [← this, o4.1, wipe_len, n1.len]
          exact hl
        · cases h3
    · have e : i = items.length := by omega
      subst e
      rw [List.drop_length] at h3
      cases h3
      refine .inl ⟨j2 (Nat.le_refl _), ?_⟩
      refine h2 F2 H2 (.ref D) ?_
      refine back F2 H2 ρF (.val (.ref D) (.lst true accF) :: (L ++ T)) hno ?_
      have n3' := n3.perm (perm_end (.cell D (.lst vacc)) L (vals vacc accF) A T)
      have n5 : Now K mg F2 H2 (wipe σ vs) ρF ([.val (.ref D) (.lst true accF)] ++ (A ++ (L ++ T))) := n3'.map (L := .cell D (.lst vacc) :: vals vacc accF) (L' := [.val (.ref D) (.lst true accF)]) fun rest q =>
        Rel.join (rs := .cell D (.lst vacc) :: vals vacc accF) q fun B q => by
          obtain ⟨B1, B2, rfl, ⟨g1, rfl⟩, g2⟩ := q
          refine ⟨D, vacc, B2, rfl, vals_of hacc g2, ?_⟩
          rw [if_pos rfl]
          exact ⟨g1, rfl⟩
      exact n5.perm (perm_pull [.val (.ref D) (.lst true accF)] A (L ++ T))
theorem snd_lc {wi : TI} {fi : SI} {g : TG} {gt : GT} {ts vs : List Nat} {tt : TT} {ft : ST} {te : TE} {fe : SE} (hi : SndI K mg W wi fi) (hg : SndG K mg g gt ts) (ht : SndT K mg W0 tt ft) (he : SndE K mg W0 te fe) (hts : ∀ i ∈ ts, i ∈ vs) : SndE K mg W (tLc wi g tt te vs) (sLc vs fi gt ft fe) := fun F H σ ρ T Q n h => by
  refine hi F H σ ρ T _ n (h.bnd.imp fun items ρ1 h1 F1 H1 J L hJ n1 => ?_)
  cases hr : lcL vs gt ft fe items (wipeE ρ1 vs) [] with
  | err x ρx => exact absurd hr (lcL_noerr vs gt ft fe x ρx items _ _)
  | stk =>
    rw [hr] at h1
    exact h1.elim
  | ok accF ρF =>
    rw [hr] at h1
    have h2 : ∀ F' H' v, Now K mg F' H' σ (backE ρ1 ρF vs) (.val v (.lst true accF) :: T) → Q v H' := h1
    exact lcK hg ht he hts hJ n1 hr fun F' H' v n => h2 F' H' v (shift (A := [.val v (.lst true accF)]) n)
end
section
variable {X : Cx} {W : WX} {elt tg iter : Expr} {ifs : List Expr} {scope : Scope} {own : List (Str × Nat)} {pos : Pos} {fi : SI} {gt : GT} {ts : List Nat} {ft : ST} {fe : SE}
/-- what stands within a comprehension's block, whatever the block's frame is -/
def InBlk (X : Cx) (scope : Scope) (J : Cx → Prop) : Prop := ∀ (s : Shared) (H : Hp) (C : Addr) (cl : List (Str × Addr)) (fp : List Addr), J (X.blk s H scope (compEnvC scope cl C X.env) fp)
def tOf (K : PySem.W.Frag) (mg : Str → Option Value) (W : WX) (f : SE) : TE := fun σ H Q => ∃ F ρ T, Now K mg F H σ ρ T ∧ PostE K mg W σ T Q (f ρ)
def ttOf (K : PySem.W.Frag) (mg : Str → Option Value) (W : WX) (f : ST) : TT := fun σ H Q => ∃ F ρ T, Now K mg F H σ ρ T ∧ PostT K mg W σ T Q (f ρ)
def gOf (K : PySem.W.Frag) (mg : Str → Option Value) (gt : GT) (ts : List Nat) : TG := fun v σ H Q => ∃ F ρ T d ρ', Now K mg F H σ ρ (.val v d :: T) ∧ gt d ρ = some ρ' ∧ ∀ F' σ', Off ts σ σ' → Now K mg F' H σ' ρ' T → Q σ' H
theorem JE.pe {Y : Cx} {W : WX} {e : Expr} {f : SE} (h : JE Y W e f) : PE Y e (tOf Y.K Y.mg W f) := by
  obtain ⟨t, p, s⟩ := h
  exact ⟨fun pins st σ H Q I ⟨F, ρ, T, n, q⟩ => p.run pins st σ H Q I (s F H σ ρ T Q n q)⟩
theorem JT.pt {Y : Cx} {W : WX} {e : Expr} {f : ST} (h : JT Y W e f) : PT Y e (ttOf Y.K Y.mg W f) := by
  obtain ⟨t, p, s⟩ := h
  exact ⟨fun pins st σ H Q I ⟨F, ρ, T, n, q⟩ => p.run pins st σ H Q I (s F H σ ρ T Q n q)⟩
theorem JG.pg {Y : Cx} {e : Expr} {gt : GT} {ts : List Nat} (h : JG Y e gt ts) : PG Y e (gOf Y.K Y.mg gt ts) := by
  obtain ⟨g, p, s⟩ := h
  exact ⟨fun pins st σ H v u Q I r ⟨F, ρ, T, d, ρ', n, e, q⟩ => p.run pins st σ H v u Q I r (s F H σ ρ T v d ρ' Q n e q)⟩
theorem snd_tOf {K : PySem.W.Frag} {mg : Str → Option Value} {W : WX} {f : SE} : SndE K mg W (tOf K mg W f) f := fun F H σ ρ T Q n h => ⟨F, ρ, T, n, h⟩
theorem snd_ttOf {K : PySem.W.Frag} {mg : Str → Option Value} {W : WX} {f : ST} : SndT K mg W (ttOf K mg W f) f := fun F H σ ρ T Q n h => ⟨F, ρ, T, n, h⟩
theorem snd_gOf {K : PySem.W.Frag} {mg : Str → Option Value} {gt : GT} {ts : List Nat} : SndG K mg (gOf K mg gt ts) gt ts := fun F H σ ρ T v d ρ' Q n e q => ⟨F, ρ, T, d, ρ', n, e, q⟩
/-- the tests of a comprehension -/
def PTc (Y : Cx) (ifs : List Expr) (f : ST) : Prop := PTs Y ifs (ttOf Y.K Y.mg W0 f)
theorem ptc_nil {Y : Cx} : PTc Y [] tYs := ⟨fun pins st σ H Q I ⟨F, ρ, T, n, q⟩ => pts_nil.run pins st σ H Q I (q F H n)⟩
theorem ptc_one {Y : Cx} {c : Expr} {f : ST} (h : JT Y W0 c f) : PTc Y [c] f := pts_one h.pt
theorem je_lc (hN : X.N.Nodup) (hi : JI X W tg iter fi) (ok : BlkOk X.N X.env.scope scope own)
    (hg : InBlk X scope fun Y => JG Y tg gt ts) (ht : InBlk X scope fun Y => PTc Y ifs ft) (he : InBlk X scope fun Y => JE Y W0 elt fe) (hts : ∀ i ∈ ts, i ∈ own.map (·.2) := by decide) (hc : X.calm = true := by rfl) (hs : ∀ x, foldedSetIterable iter X.env x = pure x := by intro _; rfl) :
    JE X W (.ListComp elt [⟨tg, iter, ifs, 0⟩] scope pos) (sLc (own.map (·.2)) fi gt ft fe) := by
  obtain ⟨wi, p, s⟩ := hi
  exact ⟨_, pe_lc (g := gOf X.K X.mg gt ts) (tt := ttOf X.K X.mg W0 ft) (te := tOf X.K X.mg W0 fe) hc hN p ok (fun s H C cl fp => (hg s H C cl fp).pg) (fun s H C cl fp => ht s H C cl fp) (fun s H C cl fp => (he s H C cl fp).pe) hs, snd_lc s snd_gOf snd_ttOf snd_tOf hts⟩
/-- over a list of one's own, which stays one's own -/
def sLcB (i : Nat) (vs : List Nat) (gt : GT) (ft : ST) (fe : SE) : SE := fun ρ => match ρ[i]? with
  | some (some (.lst o ds)) => if fzns ds = true then (lcL vs gt ft fe ds (wipeE (ρ.set i none) vs) []).bnd fun acc ρ2 => (match (backE (ρ.set i none) ρ2 vs)[i]? with
    | some none => .ok (.lst true acc) ((backE (ρ.set i none) ρ2 vs).set i (some (.lst o ds)))
    | _ => .stk) else .stk
  | _ => .stk
theorem je_lcB {i : Nat} {y : Str} {py : Pos} (hN : X.N.Nodup) (ok : BlkOk X.N X.env.scope scope own)
    (hg : InBlk X scope fun Y => JG Y tg gt ts) (ht : InBlk X scope fun Y => PTc Y ifs ft) (he : InBlk X scope fun Y => JE Y W0 elt fe) (hts : ∀ i ∈ ts, i ∈ own.map (·.2) := by decide) (hc : X.calm = true := by rfl) (hs : ∀ x, foldedSetIterable (.Name y py) X.env x = pure x := by intro _; rfl)
    (hi : X.N[i]? = some y := by rfl) (hvis : Vis X.env.scope y := by first | exact Or.inl rfl | exact Or.inr (Or.inl rfl) | exact Or.inr (Or.inr rfl)) (hd : (y == ("__debug__" : Str)) = false := by decide) (hcd : (y == ("__classdict__" : Str)) = false := by decide) :
    JE X W (.ListComp elt [⟨tg, .Name y py, ifs, 0⟩] scope pos) (sLcB i (own.map (·.2)) gt ft fe) := by
  refine ⟨_, pe_lc (g := gOf X.K X.mg gt ts) (tt := ttOf X.K X.mg W0 ft) (te := tOf X.K X.mg W0 fe) hc hN (pi_list (tg := tg) (pe_var hi hvis hd hcd)) ok (fun s H C cl fp => (hg s H C cl fp).pg) (fun s H C cl fp => ht s H C cl fp) (fun s H C cl fp => (he s H C cl fp).pe) hs, fun F H σ ρ T Q n h => ?_⟩
  unfold sLcB at h
  split at h
  · rename_i o ds e
    split at h
    · rename_i z
      obtain ⟨v, hv, n1⟩ := n.get e
      obtain ⟨rest, nr⟩ := Now.rel (L := [.val v (.lst o ds)]) n1
      obtain ⟨fx, A, rr⟩ := nr.rep
      obtain ⟨p, vs, B, rfl, q1, q2⟩ := rep_sqL fx rr
      refine ⟨_, hv, p, rfl, ⟨vs, q1⟩, ?_⟩
      cases hr : lcL (own.map (·.2)) gt ft fe ds (wipeE (ρ.set i none) (own.map (·.2))) [] with
      | err x ρx => exact absurd hr (lcL_noerr _ gt ft fe x ρx ds _ _)
      | stk =>
        rw [hr] at h
        exact h.elim
      | ok accF ρF =>
        rw [hr] at h
        refine lcK snd_gOf snd_ttOf snd_tOf hts (its_lst z) n1 hr fun F' H' w n2 => ?_
        have h' : PostE X.K X.mg W σ T Q (match (backE (ρ.set i none) ρF (own.map (·.2)))[i]? with
          | some none => .ok (.lst true accF) ((backE (ρ.set i none) ρF (own.map (·.2))).set i (some (.lst o ds)))
          | _ => .stk) := h
        split at h'
        · rename_i e2
          exact h' F' H' w ((n2.perm (.swap _ _ _)).back hv e2)
        · exact h'.elim
    · exact h.elim
  · exact h.elim
theorem js_setLc {fx : List Nat} {i : Nat} {y : Str} {py spos : Pos} (hN : X.N.Nodup) (hi : JI X W tg iter fi) (ok : BlkOk X.N X.env.scope scope own)
    (hg : InBlk X scope fun Y => JG Y tg gt ts) (ht : InBlk X scope fun Y => PTc Y ifs ft) (he : InBlk X scope fun Y => JE Y W0 elt fe) (hts : ∀ i ∈ ts, i ∈ own.map (·.2) := by decide) (hc : X.calm = true := by rfl) (hs : ∀ x, foldedSetIterable iter X.env x = pure x := by intro _; rfl)
    (hy : X.N[i]? = some y := by rfl) (hyl : X.env.scope.names.lookup y = some .local := by rfl) (hfx : i ∉ fx := by decide)
    (hsw : swapsWith (.ListComp elt [⟨tg, iter, ifs, 0⟩] scope pos) (some (.Name y py)) spos.line X.env = pure true := by exact sw_true rfl rfl rfl (by decide +kernel)) :
    JS X W fx (.Assign [.Name y py] (.ListComp elt [⟨tg, iter, ifs, 0⟩] scope pos) spos) (gSet i (sLc (own.map (·.2)) fi gt ft fe)) := by
  obtain ⟨wi, p, s⟩ := hi
  refine ⟨_, ps_setLc (i := i) (g := gOf X.K X.mg gt ts) (tt := ttOf X.K X.mg W0 ft) (te := tOf X.K X.mg W0 fe) hc hN hy hyl hsw p ok (fun s H C cl fp => (hg s H C cl fp).pg) (fun s H C cl fp => ht s H C cl fp) (fun s H C cl fp => (he s H C cl fp).pe) hs, fun F H σ ρ T D n h => ?_⟩
  refine snd_lc (W := W) s snd_gOf snd_ttOf snd_tOf hts F H σ ρ T _ n ((postS_bnd h).imp fun d ρ1 h1 F1 H1 v n1 => ?_)
  split at h1
  · rename_i hi
    exact h1 F1 H1 _ (set_keep hfx) (n1.put hi)
  · exact h1.elim
end

/-! ### lists together, slices, list(..) -/
/-- a new list of fixed things -/
theorem Rel.lstF {K : PySem.W.Frag} {mg : Str → Option Value} {F H : Hp} {T : List Root} {vs : List V} {ds : List Dv} {p : Addr} {A : List Addr} (h : Rel K mg F H T) (r : Reps K mg F H ds vs A) (z : fzns ds = true) (hp : H p = none) : Rel K mg F (upd H p (.lst vs)) (.val (.ref p) (.lst true ds) :: T) := by
  have e := Reps.nil ds z r
  subst e
  obtain ⟨f, B, h1, h2, h3⟩ := h
  have q : Rel K mg F H (vals vs ds ++ T) := ⟨f, [] ++ B, (of_vals r).join h1, h2, h3⟩
  exact q.lst r.len hp
theorem Rel.tupF {K : PySem.W.Frag} {mg : Str → Option Value} {F H : Hp} {T : List Root} {vs : List V} {ds : List Dv} {p : Addr} {A : List Addr} (g : Bool) (h : Rel K mg F H T) (r : Reps K mg F H ds vs A) (z : fzns ds = true) (hp : H p = none) : Rel K mg (upd F p (.tup vs)) (upd H p (.tup vs)) (.val (.ref p) (.tup g ds) :: T) := by
  have e := Reps.nil ds z r
  subst e
  obtain ⟨f, B, h1, h2, h3⟩ := h
  have q : Rel K mg F H (vals vs ds ++ T) := ⟨f, [] ++ B, (of_vals r).join h1, h2, h3⟩
  exact q.tup g r.len hp
theorem Reps.append {K : PySem.W.Frag} {mg : Str → Option Value} {F H : Hp} : ∀ {ds es : List Dv} {vs ws : List V} {A B : List Addr}, Reps K mg F H ds vs A → Reps K mg F H es ws B → Reps K mg F H (ds ++ es) (vs ++ ws) (A ++ B)
  | [], es, vs, ws, A, B, h, h' => by
    obtain ⟨rfl, rfl⟩ := h
    exact h'
  | d :: ds, es, vs, ws, A, B, h, h' => by
    obtain ⟨v, vr, A1, A2, rfl, rfl, h1, h2⟩ := h
    exact ⟨v, vr ++ ws, A1, A2 ++ B, rfl, by rw [List.append_assoc], h1, h2.append h'⟩
theorem Reps.take {K : PySem.W.Frag} {mg : Str → Option Value} {F H : Hp} : ∀ {ds : List Dv} {vs : List V} {A : List Addr} (n : Nat), Reps K mg F H ds vs A → ∃ B, Reps K mg F H (ds.take n) (vs.take n) B
  | _, _, _, 0, _ => ⟨[], rfl, rfl⟩
  | [], vs, A, n + 1, h => by
    obtain ⟨rfl, rfl⟩ := h
    exact ⟨[], rfl, rfl⟩
  | d :: ds, vs, A, n + 1, h => by
    obtain ⟨v, vr, A1, A2, rfl, rfl, h1, h2⟩ := h
    obtain ⟨B, h3⟩ := h2.take n
    exact ⟨A1 ++ B, v, vr.take n, A1, B, rfl, rfl, h1, h3⟩
theorem Reps.drop {K : PySem.W.Frag} {mg : Str → Option Value} {F H : Hp} : ∀ {ds : List Dv} {vs : List V} {A : List Addr} (n : Nat), Reps K mg F H ds vs A → ∃ B, Reps K mg F H (ds.drop n) (vs.drop n) B
  | _, _, A, 0, h => ⟨A, h⟩
  | [], vs, A, n + 1, h => by
    obtain ⟨rfl, rfl⟩ := h
    exact ⟨[], rfl, rfl⟩
  | d :: ds, vs, A, n + 1, h => by
    obtain ⟨v, vr, A1, A2, rfl, rfl, h1, h2⟩ := h
    exact h2.drop n
end Pyd
set_option maxRecDepth 100000
/-! PydG: + of anything, slices, all, any, isinstance of built-in classes, min, max, int, list. -/
namespace Pyd
open PySem PySem.Spec PyProof.Rows L2

section
variable {K : PySem.W.Frag} {mg : Str → Option Value} {F H : Hp}
theorem rep_lstH {o : Bool} {ds : List Dv} {v : V} {A : List Addr} (f : Fix F H) (h : Rep K mg F H (.lst o ds) v A) : ∃ a vs B, v = .ref a ∧ H a = some (.lst vs) ∧ Reps K mg F H ds vs B := by
  obtain ⟨a, vs, B, rfl, h2, h3⟩ := h
  refine ⟨a, vs, B, rfl, ?_, h2⟩
  cases o with
  | true =>
    rw [if_pos rfl] at h3
    exact h3.1
  | false =>
    rw [if_neg Bool.false_ne_true] at h3
    rcases f _ _ h3.1 with z | ⟨z, _⟩
    · exact z
    · exact z.elim
end
/-! ### a + b -/
def oAdd : Dv → Dv → Option Dv
  | .int i, .int j => some (.int (i + j))
  | .str x, .str y => if x.length + y.length ≤ 1000000 then some (.str (x ++ y)) else none
  | .lst _ xs, .lst _ ys => if (fzns xs = true ∧ fzns ys = true) ∧ xs.length + ys.length ≤ 1000000 then some (.lst true (xs ++ ys)) else none
  | .tup _ (x :: xs), .tup _ (y :: ys) => if (fzns (x :: xs) = true ∧ fzns (y :: ys) = true) ∧ xs.length + ys.length ≤ 100000 then some (.tup true ((x :: xs) ++ (y :: ys))) else none
  | _, _ => none
def sAdd (fa fb : SE) : SE := fun ρ => (fa ρ).bnd fun x ρ1 => (fb ρ1).bnd fun y ρ2 => match oAdd x y with
  | some d => .ok d ρ2
  | none => .stk
def rAddA (K : PySem.W.Frag) : R2 := fun x y H Q => ((rI0 (fun i j => .int (i + j)) x y H Q ∨ (∃ i j, x = .str i ∧ y = .str j ∧ i.length + j.length ≤ sizeLine ∧ Q (.str (i ++ j)) H)) ∨ rCat x y H Q) ∨ rCatT K x y H Q
section
variable {X : Cx} {W : WX} {a b c : Expr} {fa fb fc : SE} {pos : Pos}
theorem op_addA : OpR X (binaryOp .Add) (rAddA X.K) := OpR.or (OpR.or (OpR.or op_add op_add_str) op_cat) op_catT
theorem je_add (ha : JE X W a fa) (hb : JE X W b fb) : JE X W (.BinOp a .Add b pos) (sAdd fa fb) := by
  obtain ⟨ta, pa, sa⟩ := ha
  obtain ⟨tb, pb, sb⟩ := hb
  refine ⟨_, pe_op op_addA pa pb, fun F H σ ρ T Q n h => ?_⟩
  refine sa F H σ ρ T _ n (h.bnd.imp fun x ρ1 h1 F1 H1 v1 n1 => ?_)
  refine sb F1 H1 σ ρ1 (.val v1 x :: T) _ n1 (Post.imp (Post.more (L := [.val v1 x]) h1.bnd) fun y ρ2 h2 F2 H2 v2 n2 => ?_)
  obtain ⟨rest, nr⟩ := Now.rel (L := [.val v2 y, .val v1 x]) n2
  obtain ⟨fx, A2, r2⟩ := nr.rep
  obtain ⟨_, A1, r1⟩ := nr.drop.rep
  split at h2
  · rename_i d e
    unfold oAdd at e
    split at e
    · cases e
      exact .inl (.inl (.inl ⟨_, _, r1.1, r2.1, h2 F2 H2 _ (n2.drop.drop.add ⟨rfl, rfl⟩)⟩))
    · split at e
      · cases e
        exact .inl (.inl (.inr ⟨_, _, r1.1, r2.1, by rw [sizeLine_eq]; omega, h2 F2 H2 _ (n2.drop.drop.add ⟨rfl, rfl⟩)⟩))
      · cases e
    · rename_i o1 xs o2 ys
      split at e
      · rename_i hz
        cases e
        obtain ⟨p1, vs1, B1, rfl, g1, k1⟩ := rep_lstH fx r1
        obtain ⟨p2, vs2, B2, rfl, g2, k2⟩ := rep_lstH fx r2
        refine .inl (.inr ⟨p1, p2, vs1, vs2, rfl, rfl, g1, g2, by rw [sizeLine_eq, k1.len, k2.len]; omega, fun p hp => h2 F2 _ _ ?_⟩)
        exact n2.map (L := [.val (.ref p2) (.lst o2 ys), .val (.ref p1) (.lst o1 xs)]) (L' := [.val (.ref p) (.lst true (xs ++ ys))]) fun rest q =>
          Rel.lstF q.drop.drop (k1.append k2) (by rw [fzns_append, hz.1.1, hz.1.2]; rfl) hp
      · cases e
    · rename_i o1 x xs o2 y ys
      split at e
      · rename_i hz
        cases e
        obtain ⟨p1, vs1, rfl, g1, k1⟩ := rep_sqT fx r1
        obtain ⟨p2, vs2, rfl, g2, k2⟩ := rep_sqT fx r2
        have l1 := k1.len
        have l2 := k2.len
        simp only [List.length_cons] at l1 l2
        refine .inr ⟨p1, p2, vs1, vs2, rfl, rfl, g1, g2, fun z => by subst z; simp at l1, by rw [sizeLine_eq, l1, l2]; omega, fun z => by subst z; simp at l2, fun _ p hp => h2 (upd F2 p (.tup (vs1 ++ vs2))) _ _ ?_⟩
        exact n2.map (L := [.val (.ref p2) (.tup o2 (y :: ys)), .val (.ref p1) (.tup o1 (x :: xs))]) (L' := [.val (.ref p) (.tup true ((x :: xs) ++ (y :: ys)))]) fun rest q =>
          Rel.tupF true q.drop.drop (k1.append k2) (by rw [fzns_append, hz.1.1, hz.1.2]; rfl) hp
      · cases e
    · cases e
  · exact h2.elim
/-! ### slices -/
def cutD {α : Type} (xs : List α) (lo hi : Option Int) : List α := (xs.drop (HT.sIx xs.length 0 lo)).take (HT.sIx xs.length xs.length hi - HT.sIx xs.length 0 lo)
theorem cutD_map {α β : Type} (f : α → β) (xs : List α) (lo hi : Option Int) : cutD (xs.map f) lo hi = (cutD xs lo hi).map f := by
  unfold cutD
  rw [List.length_map, ← List.map_drop, ← List.map_take]
theorem fzns_take : ∀ (ds : List Dv) (n : Nat), fzns ds = true → fzns (ds.take n) = true
  | _, 0, _ => by rw [List.take_zero]; rfl
  | [], n + 1, _ => rfl
  | d :: ds, n + 1, h => by
    have h' : (fzn d && fzns ds) = true := h
    rw [Bool.and_eq_true] at h'
    show (fzn d && fzns (ds.take n)) = true
    rw [h'.1, fzns_take ds n h'.2]
    rfl
theorem fzns_drop : ∀ (ds : List Dv) (n : Nat), fzns ds = true → fzns (ds.drop n) = true
  | _, 0, h => h
  | [], n + 1, h => h
  | d :: ds, n + 1, h => by
    have h' : (fzn d && fzns ds) = true := h
    rw [Bool.and_eq_true] at h'
    exact fzns_drop ds n h'.2
theorem fzns_cut {ds : List Dv} (lo hi : Option Int) (h : fzns ds = true) : fzns (cutD ds lo hi) = true := fzns_take _ _ (fzns_drop _ _ h)
theorem Reps.cut {K : PySem.W.Frag} {mg : Str → Option Value} {F H : Hp} {ds : List Dv} {vs : List V} {A : List Addr} (h : Reps K mg F H ds vs A) (lo hi : Option Int) : ∃ B, Reps K mg F H (cutD ds lo hi) (cutV vs lo hi) B := by
  obtain ⟨B, h1⟩ := h.drop (HT.sIx ds.length 0 lo)
  obtain ⟨C, h2⟩ := h1.take (HT.sIx ds.length ds.length hi - HT.sIx ds.length 0 lo)
  refine ⟨C, ?_⟩
  unfold cutV
  rw [h.len]
  exact h2
theorem reps_ints {K : PySem.W.Frag} {mg : Str → Option Value} {F H : Hp} : ∀ (ns : List Int), Reps K mg F H (ns.map .int) (ns.map V.int) []
  | [] => ⟨rfl, rfl⟩
  | n :: ns => ⟨.int n, ns.map V.int, [], [], rfl, rfl, ⟨rfl, rfl⟩, reps_ints ns⟩
theorem fzns_ints : ∀ (ns : List Int), fzns (ns.map .int) = true
  | [] => rfl
  | n :: ns => by
    show (true && fzns (ns.map .int)) = true
    rw [fzns_ints ns]
    rfl
abbrev PPart := En → Option (Option Int)
def SndO (K : PySem.W.Frag) (mg : Str → Option Value) (t : TO) (f : PPart) : Prop := ∀ F H σ ρ T (Q : Option Int → Hp → Prop), Now K mg F H σ ρ T → (∃ o, f ρ = some o ∧ Q o H) → t σ H Q
def JO (X : Cx) (e : Option Expr) (f : PPart) : Prop := ∃ t, PO X e t ∧ SndO X.K X.mg t f
def pNo : PPart := fun _ => some none
def pPart (f : SP) : PPart := fun ρ => match f ρ with
  | some (.int i) => some (some i)
  | _ => none
theorem jo_none : JO X none pNo := ⟨_, po_none, fun F H σ ρ T Q n h => by
  obtain ⟨o, h, q⟩ := h
  cases h
  exact q⟩
theorem jo_some {f : SP} (h : JP X a f) : JO X (some a) (pPart f) := by
  obtain ⟨t, p, s⟩ := h
  refine ⟨_, po_some p, fun F H σ ρ T Q n h => ?_⟩
  obtain ⟨o, h, q⟩ := h
  unfold pPart at h
  split at h
  · rename_i i e
    cases h
    exact s F H σ ρ T _ n ⟨_, e, fun v A r => ⟨i, r.1, q⟩⟩
  · cases h
def oSl (x : Dv) (lo hi : Option Int) : Option Dv := match x with
  | .lst _ ds => if fzns ds = true then some (.lst true (cutD ds lo hi)) else none
  | .scr ns => some (.lst true ((cutD ns lo hi).map .int))
  | .str s => if s.length ≤ 1000000 then some (.str (cutS s lo hi)) else none
  | _ => none
def sSl (fa : SP) (lo hi : PPart) : SE := fun ρ => match fa ρ, lo ρ, hi ρ with
  | some x, some l, some u => (match oSl x l u with
    | some d => .ok d ρ
    | none => .stk)
  | _, _, _ => .stk
theorem je_sl {f : SP} {lo hi : Option Expr} {fl fh : PPart} {p2 : Pos} (ha : JP X a f) (hl : JO X lo fl) (hh : JO X hi fh) : JE X W (.Subscript a (.Slice lo hi none p2) pos) (sSl f fl fh) := by
  obtain ⟨ta, pa, sa⟩ := ha
  obtain ⟨tl, pl, sl⟩ := hl
  obtain ⟨th, ph, sh⟩ := hh
  refine ⟨_, pe_slice (SlR.or sl_list sl_str) pa pl ph, fun F H σ ρ T Q n h => ?_⟩
  unfold sSl at h
  split at h
  · rename_i x l u e1 e2 e3
    refine sa F H σ ρ T _ n ⟨x, e1, fun v A r => sl F H σ ρ T _ n ⟨l, e2, sh F H σ ρ T _ n ⟨u, e3, ?_⟩⟩⟩
    have fx := n.fixed
    split at h
    · rename_i d e
      unfold oSl at e
      split at e
      · split at e
        · rename_i hz
          cases e
          obtain ⟨p, vs, B, rfl, g1, k1⟩ := rep_sqL fx r
          obtain ⟨C, k2⟩ := k1.cut l u
          exact .inl ⟨p, vs, rfl, g1, fun q hq => h F _ _ (n.map (L := []) (L' := [.val (.ref q) (.lst true (cutD _ l u))]) fun rest q => Rel.lstF q k2 (fzns_cut l u hz) hq)⟩
        · cases e
      · rename_i ns
        cases e
        obtain ⟨p, rfl, g1, _⟩ := r
        refine .inl ⟨p, _, rfl, fx.sqL g1, fun q hq => h F _ _ (n.map (L := []) (L' := [.val (.ref q) (.lst true ((cutD ns l u).map .int))]) fun rest q => ?_)⟩
        have e1 : cutV (ns.map V.int) l u = (cutD ns l u).map V.int := cutD_map V.int ns l u
        rw [e1]
        exact Rel.lstF q (reps_ints _) (fzns_ints _) hq
      · split at e
        · rename_i s hz
          cases e
          exact .inr ⟨s, r.1, by rw [sizeLine_eq]; omega, h _ _ _ (n.add ⟨rfl, rfl⟩)⟩
        · cases e
      · cases e
    · exact h.elim
  · exact h.elim
/-! ### all, any -/
def bls : List Dv → Option (List Bool)
  | [] => some []
  | .bl b :: ds => (bls ds).map fun bs => b :: bs
  | _ :: _ => none
theorem reps_bls {K : PySem.W.Frag} {mg : Str → Option Value} {F H : Hp} : ∀ {ds : List Dv} {bs : List Bool} {vs : List V} {A : List Addr}, bls ds = some bs → Reps K mg F H ds vs A → vs = bs.map V.bl
  | [], bs, vs, A, e, h => by
    obtain ⟨rfl, _⟩ := h
    cases e
    rfl
  | .bl b :: ds, bs, vs, A, e, h => by
    obtain ⟨v, vr, A1, A2, rfl, rfl, h1, h2⟩ := h
    obtain ⟨cs, e1, e2⟩ := Option.map_eq_some_iff.mp e
    subst e2
    rw [reps_bls e1 h2, h1.1]
    rfl
  | .non :: _, _, _, _, e, _ => by cases e
  | .int _ :: _, _, _, _, e, _ => by cases e
  | .str _ :: _, _, _, _, e, _ => by cases e
  | .tup _ _ :: _, _, _, _, e, _ => by cases e
  | .lst _ _ :: _, _, _, _, e, _ => by cases e
  | .dct _ _ _ _ :: _, _, _, _, e, _ => by cases e
  | .ins _ _ _ _ :: _, _, _, _, e, _ => by cases e
  | .scr _ :: _, _, _, _, e, _ => by cases e
  | .exc _ :: _, _, _, _, e, _ => by cases e
def cAll : List Dv → Option Dv
  | [.lst _ ds] => (bls ds).map fun bs => .bl (bs.all id)
  | _ => none
def cAny : List Dv → Option Dv
  | [.lst _ ds] => (bls ds).map fun bs => .bl (bs.any id)
  | _ => none
theorem cs_all (hc : X.calm = true) : CallP X (.builtin "all") cAll := by
  refine ⟨_, cr_all hc, fun F H vs A ds d Q f rs e k => ?_⟩
  unfold cAll at e
  split at e
  · obtain ⟨v, B, rfl, r⟩ := reps_one rs
    obtain ⟨a, vs, B', rfl, h1, h2⟩ := rep_sqL f r
    obtain ⟨bs, e1, e2⟩ := Option.map_eq_some_iff.mp e
    subst e2
    have e3 := reps_bls e1 h2
    subst e3
    exact ⟨a, bs, rfl, h1, k _ [] ⟨rfl, rfl⟩⟩
  · cases e
theorem cs_any (hc : X.calm = true) : CallP X (.builtin "any") cAny := by
  refine ⟨_, cr_any hc, fun F H vs A ds d Q f rs e k => ?_⟩
  unfold cAny at e
  split at e
  · obtain ⟨v, B, rfl, r⟩ := reps_one rs
    obtain ⟨a, vs, B', rfl, h1, h2⟩ := rep_sqL f r
    obtain ⟨bs, e1, e2⟩ := Option.map_eq_some_iff.mp e
    subst e2
    have e3 := reps_bls e1 h2
    subst e3
    exact ⟨a, bs, rfl, h1, k _ [] ⟨rfl, rfl⟩⟩
  · cases e
/-! ### isinstance of a built-in class -/
def tyD : Dv → Option String
  | .non => some "NoneType"
  | .bl _ => some "bool"
  | .int _ => some "int"
  | .str _ => some "str"
  | .tup _ _ => some "tuple"
  | .lst _ _ => some "list"
  | _ => none
def isB (a b : String) : Bool := a == b || (a == "bool" && b == "int")
theorem isB_kit : ∀ a ∈ ["NoneType", "bool", "int", "str", "tuple", "list"], ∀ b ∈ ["bool", "int", "str", "tuple", "list", "dict"], kitB a b = some (isB a b) := by decide +kernel
theorem tyD_mem {d : Dv} {t : String} (h : tyD d = some t) : t ∈ ["NoneType", "bool", "int", "str", "tuple", "list"] := by
  cases d <;> first | (cases h; done) | (cases h; simp)
theorem tyx_of {K : PySem.W.Frag} {mg : Str → Option Value} {F H : Hp} {d : Dv} {t : String} {v : V} {A : List Addr} (f : Fix F H) (h : tyD d = some t) (r : Rep K mg F H d v A) : TyX K H v (.type t) := by
  cases d with
  | non => cases h; cases r.1; exact .base .non
  | bl b => cases h; cases r.1; exact .base (.bl b)
  | int i => cases h; cases r.1; exact .base (.int i)
  | str s => cases h; cases r.1; exact .base (.str s)
  | tup g ds =>
    cases h
    obtain ⟨a, vs, rfl, h1, _⟩ := rep_sqT f r
    rcases h1 with (h1 | ⟨o, h1⟩) | ⟨o, its, n, hk, hc, _⟩
    · exact .base (.tup h1)
    · exact .fTuple h1
    · exact .kTuple hk hc
  | lst o ds =>
    cases h
    obtain ⟨a, vs, B, rfl, h1, _⟩ := rep_lstH f r
    exact .base (.lst h1)
  | dct _ _ _ _ => cases h
  | ins _ _ _ _ => cases h
  | scr _ => cases h
  | exc _ => cases h
def oIsB (b : String) : Dv → Option Dv := fun d => (tyD d).map fun t => .bl (isB t b)
theorem jp_isB {f : SP} {b : String} {x : Str} {p p2 : Pos} (ha : JP X a f) (hb : b ∈ ["bool", "int", "str", "tuple", "list", "dict"] := by decide) (hm : X.mg "isinstance" = none := by assumption) (hm2 : X.mg x = none := by assumption) (hv2 : bootBuiltins x = some (.type b) := by decide +kernel)
    (hv : bootBuiltins "isinstance" = some (.builtin "isinstance") := by decide +kernel) (hg : Gl X "isinstance" := by rfl) (hg2 : Gl X x := by rfl) (hn : x ≠ "__name__" := by decide) (hdb : (x == ("__debug__" : Str)) = false := by decide)
    (he : starEach [a, .Name x p2] X.env = (false, eval a X.env) :: starEach [.Name x p2] X.env := by rfl) (he2 : starEach [.Name x p2] X.env = (false, eval (.Name x p2) X.env) :: starEach [] X.env := by rfl) (hpl : (backTo pos (starEach [.Name x p2] X.env)).any (·.1) = false := by rfl) :
    JP X (.Call (.Name "isinstance" p) [a, .Name x p2] [] pos) (pUn (oIsB b) f) := by
  obtain ⟨t, pa, s⟩ := ha
  have pb : PE X (.Name x p2) (tC (.ty b)) := pe_bltn hg2 hm2 hv2 rfl hn hdb
  refine ⟨_, pe_callB call_isi hg hm hv (pa_cons pa (pa_cons pb pa_nil he2) he) (by decide) (by decide) he hpl, fun F H σ ρ T Q n h => ?_⟩
  obtain ⟨d, h, k⟩ := h
  obtain ⟨x0, ex, e⟩ := Option.bind_eq_some_iff.mp h
  obtain ⟨ty, e1, e2⟩ := Option.map_eq_some_iff.mp e
  subst e2
  refine s F H σ ρ T _ n ⟨x0, ex, fun v A r => ?_⟩
  exact ⟨v, .ty b, .type ty, .type b, isB ty b, rfl, .ty b, tyx_of n.fixed e1 r, kit_ty (isB_kit ty (tyD_mem e1) b hb), k _ [] ⟨rfl, rfl⟩⟩
theorem je_isB {f : SE} {b : String} {x : Str} {p p2 : Pos} (ha : JE X W a f) (hb : b ∈ ["bool", "int", "str", "tuple", "list", "dict"] := by decide) (hm : X.mg "isinstance" = none := by assumption) (hm2 : X.mg x = none := by assumption) (hv2 : bootBuiltins x = some (.type b) := by decide +kernel)
    (hv : bootBuiltins "isinstance" = some (.builtin "isinstance") := by decide +kernel) (hg : Gl X "isinstance" := by rfl) (hg2 : Gl X x := by rfl) (hn : x ≠ "__name__" := by decide) (hdb : (x == ("__debug__" : Str)) = false := by decide)
    (he : starEach [a, .Name x p2] X.env = (false, eval a X.env) :: starEach [.Name x p2] X.env := by rfl) (he2 : starEach [.Name x p2] X.env = (false, eval (.Name x p2) X.env) :: starEach [] X.env := by rfl) (hpl : (backTo pos (starEach [.Name x p2] X.env)).any (·.1) = false := by rfl) :
    JE X W (.Call (.Name "isinstance" p) [a, .Name x p2] [] pos) (fun ρ => (f ρ).bnd fun d ρ1 => match oIsB b d with | some e => .ok e ρ1 | none => .stk) := by
  obtain ⟨t, pa, s⟩ := ha
  have pb : PE X (.Name x p2) (tC (.ty b)) := pe_bltn hg2 hm2 hv2 rfl hn hdb
  refine ⟨_, pe_callB call_isi hg hm hv (pa_cons pa (pa_cons pb pa_nil he2) he) (by decide) (by decide) he hpl, fun F H σ ρ T Q n h => ?_⟩
  refine s F H σ ρ T _ n (h.bnd.imp fun d ρ1 h1 F1 H1 v n1 => ?_)
  split at h1
  · rename_i e ee
    obtain ⟨ty, e1, e2⟩ := Option.map_eq_some_iff.mp ee
    subst e2
    obtain ⟨rest, nr⟩ := Now.rel (L := [.val v d]) n1
    obtain ⟨fx, A, r⟩ := nr.rep
    exact ⟨v, .ty b, .type ty, .type b, isB ty b, rfl, .ty b, tyx_of fx e1 r, kit_ty (isB_kit ty (tyD_mem e1) b hb), h1 _ _ _ (n1.drop.add ⟨rfl, rfl⟩)⟩
  · exact h1.elim
/-! ### max, min of two, int of a truth -/
def cMax2 : List Dv → Option Dv
  | [.int i, .int j] => some (.int (if j > i then j else i))
  | _ => none
def cMin2 : List Dv → Option Dv
  | [.int i, .int j] => some (.int (if j < i then j else i))
  | _ => none
def cInt : List Dv → Option Dv
  | [.int i] => some (.int i)
  | [.bl b] => some (.int (if b then 1 else 0))
  | _ => none
theorem cs_max2 (hc : X.calm = true) : CallP X (.builtin "max") cMax2 := by
  refine ⟨_, call_max2 hc, fun F H vs A ds d Q f rs e k => ?_⟩
  unfold cMax2 at e
  split at e
  · obtain ⟨v, w, B, C, rfl, r1, r2⟩ := reps_two rs
    cases e
    rw [r1.1, r2.1]
    exact ⟨_, _, rfl, k _ [] ⟨rfl, rfl⟩⟩
  · cases e
theorem cs_min2 (hc : X.calm = true) : CallP X (.builtin "min") cMin2 := by
  refine ⟨_, call_min2 hc, fun F H vs A ds d Q f rs e k => ?_⟩
  unfold cMin2 at e
  split at e
  · obtain ⟨v, w, B, C, rfl, r1, r2⟩ := reps_two rs
    cases e
    rw [r1.1, r2.1]
    exact ⟨_, _, rfl, k _ [] ⟨rfl, rfl⟩⟩
  · cases e
theorem cs_int : CallP X (.type "int") cInt := by
  refine ⟨_, call_int1, fun F H vs A ds d Q f rs e k => ?_⟩
  unfold cInt at e
  split at e
  · obtain ⟨v, B, rfl, r⟩ := reps_one rs
    cases e
    rw [r.1]
    exact .inl ⟨_, rfl, k _ [] ⟨rfl, rfl⟩⟩
  · obtain ⟨v, B, rfl, r⟩ := reps_one rs
    cases e
    rw [r.1]
    exact .inr ⟨_, rfl, k _ [] ⟨rfl, rfl⟩⟩
  · cases e
end
end Pyd
set_option maxRecDepth 100000
/-! PydZ: the end of a law. -/
namespace Pyd
open PySem PySem.Spec PyProof.Rows L2
theorem rel_script {K : PySem.W.Frag} {mg : Str → Option Value} {H : Hp} {a : Addr} {ns : List Int} (h : SqL K H a (ns.map V.int)) : Rel K mg H H (vals [.ref a] [.scr ns] ++ []) :=
  ⟨Fix.refl H, [], ⟨[], [], rfl, ⟨a, rfl, h, rfl⟩, rfl⟩, List.nodup_nil, fun _ z => nomatch z⟩
/-- a law's own promise -/
def spS (K : PySem.W.Frag) : Sp := fun vs H Q _ => ∃ (a : Addr) (ns : List Int), vs = [.ref a] ∧ SqL K H a (ns.map V.int) ∧ ns.length ≤ 63 ∧ ∀ H', Q (.bl true) H'
theorem sp_law {P : Program} {w : World} {K : PySem.W.Frag} {mg : Str → Option Value} {base : Heap} {k : Nat} {f : Addr} {fd : FuncData} {ps : List Str} {sem : List Dv → Rz} (e : ∀ ns : List Int, ns.length ≤ 63 → sem [.scr ns] = .ok (.bl true))
    (F : FnOk P w K mg base (L2.CX P w) k f fd ps (spD K mg 1 sem)) : FnOk P w K mg base (L2.CX P w) k f fd ps (spS K) := by
  refine F.imp fun vs H Q E h => ?_
  obtain ⟨a, ns, rfl, hS, hl, q⟩ := h
  refine ⟨rfl, H, [.scr ns], [], rfl, rel_script hS, ?_⟩
  rw [e ns hl]
  refine fun F' H' v r => ?_
  obtain ⟨_, _, z⟩ := r.rep
  rw [z.1]
  exact q H'
theorem cx_none {P : Program} {w : World} (H : Hp) (s : Shared) (e : Value) (s' : Shared) (h : L2.CX P w [] H s (fun _ _ _ => False) e s') : False := by
  obtain ⟨_, _, _, _, _, _, _, _, _, _, _, _, z⟩ := h
  exact z.elim
end Pyd
/-! Own work: plain help for the laws' mathematics over the trees. -/
namespace Pyd
open PySem PySem.Spec PyProof.Rows L2
theorem atI_nat {α : Type} {xs : List α} {i : Int} (h0 : 0 ≤ i) (h : i < xs.length) : L2.atI xs i = xs[i.toNat]? := by
  unfold L2.atI L2.ixN
  rw [if_pos h0, if_pos h]
  rfl
theorem atI_neg1 {α : Type} {xs : List α} (h : xs ≠ []) : L2.atI xs (-1) = xs[xs.length - 1]? := by
  have : 0 < xs.length := List.length_pos_iff.mpr h
  unfold L2.atI L2.ixN
  rw [if_neg (by omega), if_pos (by omega)]
  show xs[((-1 : Int) + xs.length).toNat]? = _
  congr 1
  omega
/-- a loop that keeps I -/
theorem forL_inv {gt : GT} {gb : SS} (I : List Dv → En → Prop) : ∀ (items done : List Dv) (ρ : En), I done ρ →
    (∀ dn d rest ρ, done ++ items = dn ++ d :: rest → I dn ρ → ∃ ρ1, gt d ρ = some ρ1 ∧ ∃ ρ2, (gb ρ1 = .nx ρ2 ∨ gb ρ1 = .ct ρ2) ∧ I (dn ++ [d]) ρ2) → ∃ ρ', forL gt gb items ρ = .nx ρ' ∧ I (done ++ items) ρ'
  | [], done, ρ, h, _ => ⟨ρ, rfl, by rw [List.append_nil]; exact h⟩
  | d :: rest, done, ρ, h, st => by
    obtain ⟨ρ1, h1, ρ2, h2, h3⟩ := st done d rest ρ rfl h
    obtain ⟨ρ', h4, h5⟩ := forL_inv I rest (done ++ [d]) ρ2 h3 (fun dn d' r' ρ' e => st dn d' r' ρ' (by rw [← e, List.append_assoc]; rfl))
    refine ⟨ρ', ?_, by rw [List.append_assoc] at h5; exact h5⟩
    unfold forL
    simp only [h1]
    rcases h2 with h2 | h2 <;> simp only [h2] <;> exact h4
/-- a loop over like items that keeps I -/
theorem forL_all {gt : GT} {gb : SS} (I : En → Prop) (items : List Dv) (ρ : En) (h : I ρ)
    (st : ∀ d ∈ items, ∀ ρ, I ρ → ∃ ρ1, gt d ρ = some ρ1 ∧ ∃ ρ2, (gb ρ1 = .nx ρ2 ∨ gb ρ1 = .ct ρ2) ∧ I ρ2) : ∃ ρ', forL gt gb items ρ = .nx ρ' ∧ I ρ' := by
  obtain ⟨ρ', h1, h2⟩ := forL_inv (gt := gt) (gb := gb) (fun _ => I) items [] ρ h (fun dn d rest ρ e i => st d (by rw [List.nil_append] at e; rw [e]; exact List.mem_append_right _ (.head _)) ρ i)
  exact ⟨ρ', h1, h2⟩
/-- a comprehension -/
theorem lcL_map {vs : List Nat} {gt : GT} {ft : ST} {fe : SE} (h : Dv → Dv) (ρ : En) : ∀ (items acc : List Dv),
    (∀ d ∈ items, ∃ ρ1 ρ2 ρ3, gt d ρ = some ρ1 ∧ ft ρ1 = .ok true ρ2 ∧ fe ρ2 = .ok (h d) ρ3 ∧ wipeE ρ3 vs = ρ) → acc.length + items.length ≤ 1000000 → lcL vs gt ft fe items ρ acc = .ok (acc ++ items.map h) ρ
  | [], acc, _, _ => by rw [lcL, List.map_nil, List.append_nil]
  | d :: ds, acc, H, hl => by
    obtain ⟨ρ1, ρ2, ρ3, h1, h2, h3, h4⟩ := H d (.head _)
    rw [List.length_cons] at hl
    rw [lcL, h1]
    simp only [h2, h3]
    rw [if_pos (by omega), h4, lcL_map h ρ ds (acc ++ [h d]) (fun d' m => H d' (.tail _ m)) (by rw [List.length_append]; simp only [List.length_cons, List.length_nil]; omega), List.append_assoc]
    rfl
theorem lcL_filter {vs : List Nat} {gt : GT} {ft : ST} {fe : SE} (p : Dv → Bool) (h : Dv → Dv) (ρ : En) : ∀ (items acc : List Dv),
    (∀ d ∈ items, ∃ ρ1 ρ2, gt d ρ = some ρ1 ∧ ft ρ1 = .ok (p d) ρ2 ∧ (p d = true → ∃ ρ3, fe ρ2 = .ok (h d) ρ3 ∧ wipeE ρ3 vs = ρ) ∧ (p d = false → wipeE ρ2 vs = ρ)) → acc.length + items.length ≤ 1000000 → lcL vs gt ft fe items ρ acc = .ok (acc ++ (items.filter p).map h) ρ
  | [], acc, _, _ => by rw [lcL, List.filter_nil, List.map_nil, List.append_nil]
  | d :: ds, acc, H, hl => by
    obtain ⟨ρ1, ρ2, h1, h2, h3, h4⟩ := H d (.head _)
    rw [List.length_cons] at hl
    rw [lcL, h1]
    cases hp : p d with
    | true =>
      obtain ⟨ρ3, h5, h6⟩ := h3 hp
      rw [hp] at h2
      simp only [h2, h5]
      rw [if_pos (by omega), h6, lcL_filter p h ρ ds (acc ++ [h d]) (fun d' m => H d' (.tail _ m)) (by rw [List.length_append]; simp only [List.length_cons, List.length_nil]; omega), List.append_assoc, List.filter_cons_of_pos hp]
      rfl
    | false =>
      rw [hp] at h2
      simp only [h2]
      rw [h4 hp, lcL_filter p h ρ ds acc (fun d' m => H d' (.tail _ m)) (by omega), List.filter_cons_of_neg (by rw [hp]; decide)]
/-- the divisor's loop -/
theorem whL_gcd {t : ST} {gb : SS} (R : Nat → Nat → En → Prop) (hf : ∀ a b ρ, R a b ρ → b ≠ 0 → ∃ ρ1 ρ2, t ρ = .ok true ρ1 ∧ gb ρ1 = .nx ρ2 ∧ R b (a % b) ρ2) (h0 : ∀ a ρ, R a 0 ρ → t ρ = .ok false ρ) :
    ∀ b a ρ, R a b ρ → ∃ n ρ', whL t gb n ρ = .nx ρ' ∧ R (Nat.gcd a b) 0 ρ' := by
  intro b
  induction b using Nat.strongRecOn with
  | ind b ih =>
    intro a ρ hR
    by_cases hb : b = 0
    · subst hb
      refine ⟨1, ρ, ?_, by rw [Nat.gcd_zero_right]; exact hR⟩
      unfold whL
      rw [h0 a ρ hR]
    · obtain ⟨ρ1, ρ2, h1, h2, h3⟩ := hf a b ρ hR hb
      obtain ⟨n, ρ', e, h4⟩ := ih (a % b) (Nat.mod_lt _ (Nat.pos_of_ne_zero hb)) b ρ2 h3
      refine ⟨n + 1, ρ', ?_, ?_⟩
      · unfold whL
        simp only [h1, h2]
        exact e
      · rw [Nat.gcd_comm, ← Nat.gcd_rec, Nat.gcd_comm] at h4
        rw [Nat.gcd_comm]
        exact (Nat.gcd_comm b a) ▸ h4
theorem gWh_gcd {t : ST} {gb : SS} (R : Nat → Nat → En → Prop) (hf : ∀ a b ρ, R a b ρ → b ≠ 0 → ∃ ρ1 ρ2, t ρ = .ok true ρ1 ∧ gb ρ1 = .nx ρ2 ∧ R b (a % b) ρ2) (h0 : ∀ a ρ, R a 0 ρ → t ρ = .ok false ρ) {a b : Nat} {ρ : En} (h : R a b ρ) :
    ∃ ρ', gWh t gb ρ = .nx ρ' ∧ R (Nat.gcd a b) 0 ρ' := by
  obtain ⟨n, ρ', e, h4⟩ := whL_gcd R hf h0 b a ρ h
  exact ⟨ρ', gWh_eq e (by intro c; cases c), h4⟩
theorem abs_ite (a : Int) : (if a < 0 then -a else a) = (a.natAbs : Int) := by omega
/-! ### ints -/
theorem oMul_r {i j : Int} (h : j.natAbs < 2 ^ 64) : oMul (.int i) (.int j) = some (.int (i * j)) := by
  have e : mulOk i j = true := by unfold mulOk; rw [decide_eq_true h, Bool.or_true, Bool.true_or]
  show (if mulOk i j = true then _ else _) = _
  rw [if_pos e]
theorem oMul_l {i j : Int} (h : i.natAbs < 2 ^ 64) : oMul (.int i) (.int j) = some (.int (i * j)) := by
  have e : mulOk i j = true := by unfold mulOk; rw [decide_eq_true h, Bool.true_or, Bool.true_or]
  show (if mulOk i j = true then _ else _) = _
  rw [if_pos e]
theorem log2_lt' {n k : Nat} (h : n < 2 ^ k) (hk : 0 < k) : n.log2 < k := by
  by_cases e : n = 0
  · subst e
    exact Nat.lt_of_le_of_lt (Nat.le_of_eq (by decide)) hk
  · exact (Nat.log2_lt e).mpr h
/-- factors of at most 2000 bits -/
theorem oMul_b {i j : Int} (hi : i.natAbs < 2 ^ 4000) (hj : j.natAbs < 2 ^ 4000) : oMul (.int i) (.int j) = some (.int (i * j)) := by
  have e : mulOk i j = true := by
    unfold mulOk
    have h1 := log2_lt' hi (by decide)
    have h2 := log2_lt' hj (by decide)
    rw [decide_eq_true (show i.natAbs.log2 + j.natAbs.log2 < 1000000 by omega), Bool.or_true]
  show (if mulOk i j = true then _ else _) = _
  rw [if_pos e]
theorem oDivA_big {i j : Int} (h0 : 0 < j) (h : j.natAbs < 2 ^ 8000) : oDivA (.int i) (.int j) = some (.int (i / j)) := by
  have e : divOkA i j = true := by
    unfold divOkA
    have h1 := log2_lt' h (by decide)
    rw [decide_eq_true (show j.natAbs.log2 < 9000 by omega), decide_eq_false (by omega)]
    rfl
  show (if divOkA i j = true then some (Dv.int (if 0 < j then i / j else i.fdiv j)) else _) = _
  rw [if_pos e, if_pos h0]
theorem oDivA_pos {i j : Int} (h0 : 0 < j) (h : j.natAbs < 2 ^ 250) : oDivA (.int i) (.int j) = some (.int (i / j)) := oDivA_big h0 (Nat.lt_of_lt_of_le h (Nat.pow_le_pow_right (by decide) (by decide)))
theorem oDivA_neg {i j : Int} (h0 : j < 0) (h : j.natAbs < 2 ^ 8000) : oDivA (.int i) (.int j) = some (.int (i.fdiv j)) := by
  have e : divOkA i j = true := by
    unfold divOkA
    have h1 := log2_lt' h (by decide)
    rw [decide_eq_true (show j.natAbs.log2 < 9000 by omega), decide_eq_false (by omega)]
    rfl
  show (if divOkA i j = true then some (Dv.int (if 0 < j then i / j else i.fdiv j)) else _) = _
  rw [if_pos e, if_neg (by omega)]
theorem oModA_pos {i j : Int} (h0 : 0 < j) : oModA (.int i) (.int j) = some (.int (i % j)) := by
  show (if (!decide (j = 0)) = true then some (Dv.int (if 0 < j then i % j else i.fmod j)) else _) = _
  rw [decide_eq_false (by omega), if_pos (by rfl), if_pos h0]
theorem oPow_10 (k : Nat) (h : k ≤ 1000000) : oPow (.int 10) (.int k) = some (.int (10 ^ k)) := by
  have e : powOk 10 k = true := by
    unfold powOk
    rw [decide_eq_true (by omega), decide_eq_true (by omega)]
    rfl
  show (if powOk 10 k = true then _ else _) = _
  rw [if_pos e]
  rfl
theorem oPow_10_30 : oPow (.int 10) (.int 30) = some (.int 1000000000000000000000000000000) := oPow_10 30 (by decide)
theorem oPow_10_60 : oPow (.int 10) (.int 60) = some (.int 1000000000000000000000000000000000000000000000000000000000000) := oPow_10 60 (by decide)
theorem oPow_10_4 : oPow (.int 10) (.int 4) = some (.int 10000) := oPow_10 4 (by decide)
/-! ### scripts, lists -/
theorem cut_take {α : Type} (xs : List α) (n : Nat) : Pyd.cutD xs none (some (n : Int)) = xs.take n := by
  unfold Pyd.cutD
  rw [HT.sIx_none, HT.sIx_nat, List.drop_zero, Nat.sub_zero]
  by_cases h : n ≤ xs.length
  · rw [Nat.min_eq_left h]
  · rw [Nat.min_eq_right (by omega), List.take_length, List.take_of_length_le (by omega)]
theorem cut_63 {α : Type} (xs : List α) : Pyd.cutD xs none (some 63) = xs.take 63 := cut_take xs 63
theorem cut_40 {α : Type} (xs : List α) : Pyd.cutD xs none (some 40) = xs.take 40 := cut_take xs 40
theorem cut_60 {α : Type} (xs : List α) : Pyd.cutD xs none (some 60) = xs.take 60 := cut_take xs 60
/-! ### fractions -/
/-- what both are divided by -/
def fby (t b : Int) : Int := if b < 0 then -(Int.gcd t b : Int) else (Int.gcd t b : Int)
def fn (t b : Int) : Int := t / fby t b
def fd (t b : Int) : Int := b / fby t b
theorem gcd_pos' {t b : Int} (h : b ≠ 0) : 0 < Int.gcd t b := Int.gcd_pos_of_ne_zero_right _ h
theorem fby_ne {t b : Int} (h : b ≠ 0) : fby t b ≠ 0 := by
  have := gcd_pos' (t := t) h
  unfold fby
  split <;> omega
theorem fby_dvdl (t b : Int) : fby t b ∣ t := by
  unfold fby
  split
  · exact Int.neg_dvd.mpr (Int.gcd_dvd_left _ _)
  · exact Int.gcd_dvd_left _ _
theorem fby_dvdr (t b : Int) : fby t b ∣ b := by
  unfold fby
  split
  · exact Int.neg_dvd.mpr (Int.gcd_dvd_right _ _)
  · exact Int.gcd_dvd_right _ _
theorem fn_mul (t b : Int) : fn t b * fby t b = t := Int.ediv_mul_cancel (fby_dvdl t b)
theorem fd_mul (t b : Int) : fd t b * fby t b = b := Int.ediv_mul_cancel (fby_dvdr t b)
theorem fby_abs (t b : Int) : (fby t b).natAbs = Int.gcd t b := by
  unfold fby
  split <;> simp
theorem gcd_le_right {t b : Int} (h : b ≠ 0) : Int.gcd t b ≤ b.natAbs := Nat.le_of_dvd (Int.natAbs_pos.mpr h) (Nat.gcd_dvd_right _ _)
theorem fd_pos {t b : Int} (h : b ≠ 0) : 1 ≤ fd t b := by
  have e := fd_mul t b
  have g := gcd_pos' (t := t) h
  rcases Int.lt_or_lt_of_ne h with hb | hb
  · have hf : fby t b < 0 := by unfold fby; rw [if_pos hb]; omega
    by_cases z : 0 < fd t b
    · exact z
    · exfalso
      have : 0 ≤ fd t b * fby t b := Int.mul_nonneg_of_nonpos_of_nonpos (by omega) (by omega)
      omega
  · have hf : 0 < fby t b := by unfold fby; rw [if_neg (by omega)]; omega
    by_cases z : 0 < fd t b
    · exact z
    · exfalso
      have : fd t b * fby t b ≤ 0 := Int.mul_nonpos_of_nonpos_of_nonneg (by omega) (by omega)
      omega
theorem fnd_cop {t b : Int} (h : b ≠ 0) : Int.gcd (fn t b) (fd t b) = 1 := by
  have g := gcd_pos' (t := t) h
  have e : Int.gcd (fn t b * fby t b) (fd t b * fby t b) = Int.gcd (fn t b) (fd t b) * (fby t b).natAbs := Int.gcd_mul_right _ _ _
  rw [fn_mul, fd_mul, fby_abs] at e
  exact Nat.eq_of_mul_eq_mul_right g (by rw [Nat.one_mul]; exact e.symm)
theorem fnd_cross {t b : Int} (h : b ≠ 0) : fn t b * b = t * fd t b := by
  have e1 := fn_mul t b
  have e2 := fd_mul t b
  calc fn t b * b = fn t b * (fd t b * fby t b) := by rw [e2]
    _ = (fn t b * fby t b) * fd t b := by rw [Int.mul_comm (fd t b), Int.mul_assoc]
    _ = t * fd t b := by rw [e1]
theorem fd_le {t b : Int} (h : b ≠ 0) : fd t b ≤ b.natAbs := by
  have e2 := fd_mul t b
  have g := gcd_pos' (t := t) h
  have p := fd_pos (t := t) h
  have : (fd t b).natAbs * (fby t b).natAbs = b.natAbs := by rw [← Int.natAbs_mul, e2]
  rw [fby_abs] at this
  have : (fd t b).natAbs * 1 ≤ (fd t b).natAbs * Int.gcd t b := Nat.mul_le_mul_left _ g
  omega
theorem fn_le {t b : Int} (h : b ≠ 0) : (fn t b).natAbs ≤ t.natAbs := by
  have e2 := fn_mul t b
  have g := gcd_pos' (t := t) h
  have : (fn t b).natAbs * (fby t b).natAbs = t.natAbs := by rw [← Int.natAbs_mul, e2]
  rw [fby_abs] at this
  have : (fn t b).natAbs * 1 ≤ (fn t b).natAbs * Int.gcd t b := Nat.mul_le_mul_left _ g
  omega
theorem cop_dvd {k m n : Int} (h : Int.gcd k m = 1) (e : k ∣ m * n) : k ∣ n := by
  rw [← Int.natAbs_dvd_natAbs] at e ⊢
  rw [Int.natAbs_mul] at e
  exact Nat.Coprime.dvd_of_dvd_mul_left h e
/-- two coprime crosswise alike ones are alike -/
theorem frac_eq {a b c d : Int} (hb : 1 ≤ b) (hd : 1 ≤ d) (h1 : Int.gcd a b = 1) (h2 : Int.gcd c d = 1) (e : a * d = c * b) : a = c ∧ b = d := by
  have k1 : b ∣ d := by
    have : b ∣ a * d := ⟨c, by rw [e, Int.mul_comm]⟩
    exact cop_dvd (by rw [Int.gcd_comm]; exact h1) this
  have k2 : d ∣ b := by
    have : d ∣ c * b := ⟨a, by rw [← e, Int.mul_comm]⟩
    exact cop_dvd (by rw [Int.gcd_comm]; exact h2) this
  have k3 : b = d := Int.le_antisymm (Int.le_of_dvd (by omega) k1) (Int.le_of_dvd (by omega) k2)
  subst k3
  exact ⟨Int.eq_of_mul_eq_mul_right (by omega) e, rfl⟩
theorem fnd_self {a b : Int} (hb : 1 ≤ b) (h : Int.gcd a b = 1) : fn a b = a ∧ fd a b = b :=
  frac_eq (fd_pos (by omega)) hb (fnd_cop (by omega)) h (fnd_cross (by omega))
theorem fnd_zero {b : Int} (h : b ≠ 0) : fn 0 b = 0 ∧ fd 0 b = 1 := by
  refine frac_eq (fd_pos h) (by decide) (fnd_cop h) (by decide) ?_
  have e := fnd_cross (t := 0) h
  rw [Int.zero_mul] at e ⊢
  have : fn 0 b = 0 := by
    rcases Int.mul_eq_zero.mp e with e | e
    · exact e
    · exact absurd e h
  rw [this, Int.zero_mul]
theorem oDivA_dvd {i j : Int} (h0 : j ≠ 0) (hd : j ∣ i) (h : j.natAbs < 2 ^ 8000) : oDivA (.int i) (.int j) = some (.int (i / j)) := by
  rcases Int.lt_or_lt_of_ne h0 with hb | hb
  · rw [oDivA_neg hb h, Int.fdiv_eq_ediv_of_dvd hd]
  · exact oDivA_big hb h
theorem oDivA_gl8 {t b : Int} (h : 1 ≤ b) (hb : b.natAbs < 2 ^ 8000) : oDivA (.int t) (.int (Int.gcd t b)) = some (.int (fn t b)) := by
  have e3 : fby t b = (Int.gcd t b : Int) := by unfold fby; rw [if_neg (by omega)]
  rw [← e3]
  refine oDivA_dvd (fby_ne (by omega)) (fby_dvdl t b) ?_
  rw [fby_abs]
  exact Nat.lt_of_le_of_lt (gcd_le_right (by omega)) hb
theorem oDivA_gr8 {t b : Int} (h : 1 ≤ b) (hb : b.natAbs < 2 ^ 8000) : oDivA (.int b) (.int (Int.gcd t b)) = some (.int (fd t b)) := by
  have e3 : fby t b = (Int.gcd t b : Int) := by unfold fby; rw [if_neg (by omega)]
  rw [← e3]
  refine oDivA_dvd (fby_ne (by omega)) (fby_dvdr t b) ?_
  rw [fby_abs]
  exact Nat.lt_of_le_of_lt (gcd_le_right (by omega)) hb
theorem oDivA_gl {t b : Int} (h : 1 ≤ b) (hb : b.natAbs < 2 ^ 250) : oDivA (.int t) (.int (Int.gcd t b)) = some (.int (fn t b)) := oDivA_gl8 h (Nat.lt_of_lt_of_le hb (Nat.pow_le_pow_right (by decide) (by decide)))
theorem oDivA_gr {t b : Int} (h : 1 ≤ b) (hb : b.natAbs < 2 ^ 250) : oDivA (.int b) (.int (Int.gcd t b)) = some (.int (fd t b)) := oDivA_gr8 h (Nat.lt_of_lt_of_le hb (Nat.pow_le_pow_right (by decide) (by decide)))
theorem atI_mem {α : Type} {xs : List α} {i : Int} (h0 : -(xs.length : Int) ≤ i) (h1 : i < xs.length) : ∃ x, L2.atI xs i = some x ∧ x ∈ xs := by
  unfold L2.atI L2.ixN
  by_cases h : 0 ≤ i
  · rw [if_pos h, if_pos h1]
    exact ⟨xs[i.toNat], List.getElem?_eq_getElem (by omega), List.getElem_mem _⟩
  · rw [if_neg h, if_pos h0]
    exact ⟨xs[(i + xs.length).toNat], List.getElem?_eq_getElem (by omega), List.getElem_mem _⟩
theorem rng_mem {d : Dv} {n : Nat} (h : d ∈ rng 0 n) : ∃ k : Nat, k < n ∧ d = .int k := by
  obtain ⟨k, h1, h2⟩ := List.mem_map.mp h
  exact ⟨k, List.mem_range.mp h1, by rw [← h2, Int.zero_add]⟩
theorem atI_0 {α : Type} (a : α) (r : List α) : L2.atI (a :: r) 0 = some a := by
  rw [atI_nat (by decide) (by simp only [List.length_cons]; omega)]; rfl
theorem atI_1 {α : Type} (a b : α) (r : List α) : L2.atI (a :: b :: r) 1 = some b := by
  rw [atI_nat (by decide) (by simp only [List.length_cons]; omega)]; rfl
theorem atI_2 {α : Type} (a b c : α) (r : List α) : L2.atI (a :: b :: c :: r) 2 = some c := by
  rw [atI_nat (by decide) (by simp only [List.length_cons]; omega)]; rfl
theorem atI_3 {α : Type} (a b c d : α) (r : List α) : L2.atI (a :: b :: c :: d :: r) 3 = some d := by
  rw [atI_nat (by decide) (by simp only [List.length_cons]; omega)]; rfl
theorem atI_4 {α : Type} (a b c d e : α) (r : List α) : L2.atI (a :: b :: c :: d :: e :: r) 4 = some e := by
  rw [atI_nat (by decide) (by simp only [List.length_cons]; omega)]; rfl
theorem atI_5 {α : Type} (a b c d e f : α) (r : List α) : L2.atI (a :: b :: c :: d :: e :: f :: r) 5 = some f := by
  rw [atI_nat (by decide) (by simp only [List.length_cons]; omega)]; rfl
theorem dEq_int (i j : Int) : dEq (.int i) (.int j) = (i == j) := by rw [dEq]
theorem dEq_str (i j : Str) : dEq (.str i) (.str j) = (i == j) := by rw [dEq]
theorem dEq_bl (i j : Bool) : dEq (.bl i) (.bl j) = (i == j) := by rw [dEq]
theorem dEq_non : dEq .non .non = true := by rw [dEq]
theorem dEq_tup (g g' : Bool) (x y : List Dv) : dEq (.tup g x) (.tup g' y) = dEqs x y := by rw [dEq]
theorem dEq_lst (g g' : Bool) (x y : List Dv) : dEq (.lst g x) (.lst g' y) = dEqs x y := by rw [dEq]
theorem dEqs_nil : dEqs [] [] = true := by rw [dEqs]
theorem dEqs_cons (a b : Dv) (x y : List Dv) : dEqs (a :: x) (b :: y) = (dEq a b && dEqs x y) := by rw [dEqs]
theorem dEqs_n1 (a : Dv) (x : List Dv) : dEqs (a :: x) [] = false := by rw [dEqs] <;> simp
theorem dEqs_n2 (a : Dv) (x : List Dv) : dEqs [] (a :: x) = false := by rw [dEqs] <;> simp
theorem bls_true {α : Type} (l : List α) : bls (l.map fun _ => Dv.bl true) = some (l.map fun _ => true) := by
  induction l with
  | nil => rfl
  | cons a l ih =>
    rw [List.map_cons, bls, ih]
    rfl
theorem all_true {α : Type} (l : List α) : (l.map fun _ => true).all id = true := by
  induction l with
  | nil => rfl
  | cons a l ih =>
    rw [List.map_cons, List.all_cons, ih]
    rfl
theorem fzns_true {α : Type} (l : List α) : fzns (l.map fun _ => Dv.bl true) = true := by
  induction l with
  | nil => rfl
  | cons a l ih =>
    rw [List.map_cons, fzns, ih]
    rfl
theorem rng_at {n : Nat} {dn : List Dv} {d : Dv} {rest : List Dv} (h : rng 0 n = dn ++ d :: rest) : d = .int dn.length ∧ dn.length < n := by
  have e : (rng 0 n)[dn.length]? = some d := by
    rw [h, List.getElem?_append_right (Nat.le_refl _), Nat.sub_self]
    rfl
  unfold rng at e
  rw [List.getElem?_map] at e
  obtain ⟨k, h1, h2⟩ := Option.map_eq_some_iff.mp e
  obtain ⟨h3, h4⟩ := List.getElem?_eq_some_iff.mp h1
  rw [List.getElem_range] at h4
  rw [List.length_range] at h3
  subst h4
  exact ⟨by rw [← h2, Int.zero_add], h3⟩
end Pyd
set_option maxRecDepth 100000
/-! Own work: try .. except, the exception a value that may be kept. -/
namespace Pyd
open PySem PySem.Spec PyProof.Rows L2
section
variable {X : Cx} {pins : List (Addr × Obj)} {σ : L2.St} {H : Hp} {s sI : Shared}
/-- an object that came between sI and s is told of in H from here on -/
theorem ghost {a : Addr} {o : HO} (J : Inv X pins σ H sI) (I : Inv X pins σ H s) (n0 : sI.heap.get? a = none) (na : H a = none) (nL : a ≠ X.env.locals) (ho : ∀ H' : Hp, ObjOk X.prog X.w H' s.heap a o) : Inv X pins σ (upd H a o) s := by
  have old : ∀ b u, sI.heap.get? b = some u → b ≠ a := fun b u e z => by
    rw [z, n0] at e
    cases e
  have seen : ∀ b u, H b = some u → upd H a o b = some u := fun b u e => by
    rw [upd_ne fun z => ?_]
    · exact e
    · rw [z, na] at e
      cases e
  refine ⟨I.ok, I.os, I.bare, ⟨I.base.keep, I.base.slot, fun b u e n hx => ?_, I.base.there, fun b xs e => seen _ _ (I.base.tups b xs e), fun b u v e => seen _ _ (I.base.frzs b u v e), fun b ps e => ?_⟩, I.loc, I.cell, ?_, fun x c e => ?_, fun p hp => ?_, fun b u e => ?_, I.len⟩
  · obtain ⟨u', e'⟩ := J.base.there b u e hx
    rw [upd_ne (old b u' e')]
    exact I.base.free b u e n hx
  · obtain ⟨more, q⟩ := I.base.tbls b ps e
    exact ⟨more, seen _ _ q⟩
  · rw [upd_ne (Ne.symm nL)]
    exact I.free
  · obtain ⟨v, u, e', _⟩ := J.cell x c e
    rw [upd_ne (old c u e')]
    exact I.freeC x c e
  · obtain ⟨h1, h2, h3⟩ := I.pin p hp
    exact ⟨h1, by rw [upd_ne (old p.1 p.2 (J.pin p hp).1)]; exact h2, h3⟩
  · by_cases hb : b = a
    · subst hb
      rw [upd_same] at e
      cases e
      exact ho _
    · rw [upd_ne hb] at e
      exact (I.hok b u e).stay (fun _ _ _ q => q) (fun c q => seen _ _ q) fun c xs q => seen _ _ q
/-- into the suite of an except clause, and out of it -/
theorem intoSuite (I : Inv X pins σ H s) (a : Addr) : Inv (X.suite a (X.pn ++ pins)) [] σ H s :=
  ⟨I.ok.suite _ _, I.os, I.bare, I.base, I.loc, I.cell, I.free, I.freeC, fun p hp => I.pin p (by rw [List.append_nil] at hp; exact hp), I.hok, I.len⟩
theorem outOfSuite {a : Addr} {pn' : List (Addr × Obj)} (I : Inv (X.suite a (X.pn ++ pins)) pn' σ H s) (ok : X.Ok) : Inv X pins σ H s :=
  ⟨ok, I.os, I.bare, I.base, I.loc, I.cell, I.free, I.freeC, fun p hp => I.pin p (List.mem_append_left _ hp), I.hok, I.len⟩
end
/-- what the clause 'except x as n' wishes: the exception is told of in the heap, slot i holds it in the suite -/
def wEx (K : PySem.W.Frag) (c : Value) (i : Nat) (ts : Addr → TS) (Wout : WX) (D : Ends) : WX := fun cls d σ H =>
  ∃ b, PySem.W.exmOne K cls c = some b ∧ (b = true → ∀ a, H a = none → ts a { nx := fun σ' H' => D.nx (σ'.set i none) H', rt := D.rt, bk := fun σ' H' => D.bk (σ'.set i none) H', ct := fun σ' H' => D.ct (σ'.set i none) H' } (σ.set i (some (.ref a))) (upd H a (ExV cls d a))) ∧
    (b = false → Wout cls d σ H)
section
variable {X : Cx} {x n : Str} {c : Value} {i : Nat} {body suite : List Stmt} {b₀ : Stmt} {np pos pos' : Pos} {tb : WX → TS} {ts : Addr → TS} {Wout : WX}
theorem ps_try_ex (hs : X.stack = X.env :: X.outer) (hf : X.env.frame = some X.env.locals) (hN : X.N.Nodup) (hi : X.N[i]? = some n) (hln : X.env.kindOf n = some .local) (hc : Names X x c) (tk : Takes X Wout)
    (hb : ∀ (W : WX) (pn : List (Addr × Obj)) (xe : Value → Shared → Prop), Takes (X.tr pn xe) W → PassesOwn (model X.prog X.w) X.A X.env xe → PSs (X.tr pn xe) body (tb W))
    (hsu : ∀ (a : Addr) (pn : List (Addr × Obj)), PSs (X.suite a pn) (b₀ :: suite) (ts a)) :
    PS X (.Try body [.ExceptHandler (some (.Name x np)) (some n) (b₀ :: suite) pos'] [] [] pos) (fun D σ H => tb (wEx X.K c i ts Wout D) D σ H) := by
  constructor
  intro pins s σ H D I h
  have ok := I.ok
  have hloc : Loc X.env.scope n := .inl hln
  have hfr : X.A.frames = some (X.env :: X.outer) := by rw [← hs]; exact ok.frames
  apply wpAny_Try_except
  have landing : ∀ u s', XE (X.tr (X.pn ++ pins) fun e s₁ => wpAny (model X.prog X.w) X.A (noteFrame e X.env) (fun _ s₂ => wpAny (model X.prog X.w) X.A (setFlight e none) (fun _ s₃ => wpAny (model X.prog X.w) X.A (handleBy e X.env [.ExceptHandler (some (.Name x np)) (some n) (b₀ :: suite) pos']) (L2.SP X pins D) X.xe s₃) X.xe s₂) X.xe s₁) (wEx X.K c i ts Wout D) u s' →
      wpAny (model X.prog X.w) X.A (noteFrame u X.env) (fun _ s₂ => wpAny (model X.prog X.w) X.A (setFlight u none) (fun _ s₃ => wpAny (model X.prog X.w) X.A (handleBy u X.env [.ExceptHandler (some (.Name x np)) (some n) (b₀ :: suite) pos']) (L2.SP X pins D) X.xe s₃) X.xe s₂) X.xe s' := by
    rintro u s' ⟨a, B, sI, pI, σ', H', cls, d, rfl, J', nb, up, sky, na, os, ag, b, hb1, yes, no⟩
    have J : Inv X pins σ' H' sI := J'.ofTry ok
    rw [show (X.tr (X.pn ++ pins) _).stack = X.env :: X.outer from hs] at sky
    apply Sky.land Zc.steady hfr hf sky
    intro h3 fl3 up3
    have J3 : Inv X pins σ' H' { s' with heap := h3 } := J.landed nb fl3.1 (up.trans up3) os ag
    obtain ⟨oe3, vs3, he3, hz3, hd3⟩ := fl3.there
    have nfr : a ∉ frs (X.env :: X.outer) := fun hm => by
      obtain ⟨_, o', e', hnf⟩ := fl3.2.2.1.mem hm
      rw [he3] at e'
      cases e'
      exact hnf _ hd3
    have nL : a ≠ X.env.locals := fun z => nfr (List.mem_filterMap.mpr ⟨X.env, .head _, by rw [hf, z]⟩)
    have n0 : sI.heap.get? a = none := by
      cases q : sI.heap.get? a with
      | none => rfl
      | some o =>
        have := nb a o q (by rw [show (X.tr (X.pn ++ pins) _).stack = X.env :: X.outer from hs]; exact nfr)
        rw [fl3.2.1] at this
        cases this
    have G3 := intoSuite (ghost (o := ExV cls d a) J J3 n0 na nL fun _ => exV_ok he3 hz3 hd3) a
    have look : PySem.W.Looks (model X.prog X.w) h3 (typeOf (.ref a)) cls := fun A Q E s k q => wpAny_typeOf_ref (k _ _ he3) (by rw [hz3.1]; exact q)
    have match_ := PySem.W.exm_one (M := model X.prog X.w) (J3.kIn) look hb1
    apply wpAny_handleBy_cons _ (by intro q; cases q)
    apply codeAny_handlers_test
    have named : ∀ {Q : Value → Shared → Prop} {E : Value → Shared → Prop}, Q c { s' with heap := h3 } → wpAny (model X.prog X.w) (X.A.mark (some (.ref a))) (eval (.Name x np) X.env) Q E { s' with heap := h3 } := by
      intro Q E q
      obtain ⟨hg, hdbg, hm | ⟨hm, hv, hnn⟩⟩ := hc
      · exact ld_glob (X := X.suite a (X.pn ++ pins)) G3 hg hm q hdbg
      · exact ld_blt (X := X.suite a (X.pn ++ pins)) G3 hg hm hv q hnn hdbg
    apply named
    apply match_.here
    cases b with
    | false =>
      show wpAny _ X.A (handleBy (.ref a) X.env []) _ _ _
      apply wpAny_handleBy_nil
      obtain ⟨_, _, _, oe, vs, T, _, _, he, _, hd, h1, _⟩ := id fl3
      unfold PySem.passOn
      apply wpAny_bind
      apply wpAny_field he hd h1
      rw [if_neg (show ¬ ((Value.ref T == Value.none) = true) from by simp)]
      have away : wpAny (model X.prog X.w) X.A (setFlight (.ref a) X.env.frame) (fun _ s4 => wpAny (model X.prog X.w) X.A (throw (.ref a) : Sem Flow) (L2.SP X pins D) X.xe s4) X.xe { s' with heap := h3 } := by
        rw [hf]
        apply HandSPX.setFlight_upZ fl3
        intro h4 hh4 up4
        exact wpAny_throw (tk _ _ ⟨a, B, sI, pins, σ', H', cls, d, rfl, J, nb, (up.trans up3).trans up4, .inr (.inr (by rw [hs]; exact hh4)), na, os, ag, no rfl⟩)
      first
        | exact wpAny_bind (wpAny_pure (wpAny_bind away))
        | exact wpAny_bind away
    | true =>
      apply codeAny_handlers_suite_as
      apply HandSPX.lands_againZ fl3
      intro h4 fl4 up4
      have J4 : Inv X pins σ' H' { s' with heap := h4 } := J.landed nb fl4.1 ((up.trans up3).trans up4) os ag
      obtain ⟨oe4, vs4, he4, hz4, hd4⟩ := fl4.there
      have G4 := intoSuite (ghost (o := ExV cls d a) J J4 n0 na nL fun _ => exV_ok he4 hz4 hd4) a
      apply store_ok (X := X.suite a (X.pn ++ pins)) (v := .ref a) G4 hN hi hloc rfl _ (.inr hln)
      intro s5 S5
      refine wpAny_mono ((hsu a (X.pn ++ pins)).run [] s5 _ _ _ S5 (yes rfl a na)) (fun f s6 hsp => ?_) fun _ _ z => False.elim z
      have close : ∀ {σ6 : L2.St} {H6 : Hp} {Q : Shared → Prop}, Inv (X.suite a (X.pn ++ pins)) [] σ6 H6 s6 → (∀ s7, Inv X pins (σ6.set i none) H6 s7 → Q s7) →
          wpAny (model X.prog X.w) X.A (do bindName X.env n .none; unbindBehindTheSuite X.env n pos') (fun _ s7 => Q s7) X.xe s6 := fun S6 hq => gone_ok (outOfSuite S6 ok) hN hi hln hq
      cases f with
      | ret u =>
        obtain ⟨v6, σ6, H6, S6, r6, q6⟩ := hsp
        exact close S6 fun s7 J7 => ⟨_, _, _, J7, r6, q6⟩
      | _ =>
        obtain ⟨σ6, H6, S6, q6⟩ := hsp
        exact close S6 fun s7 J7 => ⟨_, _, J7, q6⟩
  have R := (hb (wEx X.K c i ts Wout D) (X.pn ++ pins) _ landing PassesOwn.looking).run [] s σ H D (I.toTry _) h
  refine wpAny_mono R (fun f s1 hsp => ?_) fun e s1 he => he
  cases f with
  | next =>
    obtain ⟨σ', H', J', q⟩ := hsp
    exact wpAny_execs_nil ⟨σ', H', J'.ofTry ok, q⟩
  | ret u =>
    obtain ⟨v, σ', H', J', r, q⟩ := hsp
    exact ⟨v, σ', H', J'.ofTry ok, r, q⟩
  | _ =>
    obtain ⟨σ', H', J', q⟩ := hsp
    exact ⟨σ', H', J'.ofTry ok, q⟩
end
/-! ### classes by name -/
def rf (mg : Str → Option Value) (y : Str) : Addr := match mg y with
  | some (.ref a) => a
  | _ => default
theorem rf_of {mg : Str → Option Value} {y : Str} {D : Addr} (h : mg y = some (.ref D)) : rf mg y = D := by
  unfold rf
  rw [h]
theorem rf_mg {mg : Str → Option Value} {y : Str} {D : Addr} (h : mg y = some (.ref D)) : mg y = some (.ref (rf mg y)) := by
  rw [rf_of h]
  exact h
def lk : List (Str × Bool) → Str → Option Bool
  | [], _ => none
  | (n, b) :: r, c => if n = c then some b else lk r c
theorem lk_mem : ∀ {tbl : List (Str × Bool)} {c : Str} {b : Bool}, lk tbl c = some b → (c, b) ∈ tbl
  | [], _, _, h => nomatch h
  | (n, b') :: r, c, b, h => by
    unfold lk at h
    split at h
    · rename_i e
      cases h
      rw [e]
      exact .head _
    · exact .tail _ (lk_mem h)
/-- what isinstance says of errors, by their class -/
def IsTb (K : PySem.W.Frag) (mg : Str → Option Value) (us : List Value) : List (Str × Bool) → Prop
  | [] => True
  | (n, b) :: r => (mg n = some (.ref (rf mg n)) ∧ ExcC K (rf mg n) ∧ PySem.W.kitAny K (.ref (rf mg n)) us = some b) ∧ IsTb K mg us r
theorem IsTb.at {K : PySem.W.Frag} {mg : Str → Option Value} {us : List Value} : ∀ {tbl : List (Str × Bool)} {n : Str} {b : Bool}, IsTb K mg us tbl → (n, b) ∈ tbl → mg n = some (.ref (rf mg n)) ∧ ExcC K (rf mg n) ∧ PySem.W.kitAny K (.ref (rf mg n)) us = some b
  | [], _, _, _, h => nomatch h
  | (n, b) :: r, n', b', t, h => by
    rcases List.mem_cons.mp h with e | h
    · cases e
      exact t.1
    · exact IsTb.at t.2 h
/-- what an except clause says of errors, by their class -/
def CtTb (K : PySem.W.Frag) (mg : Str → Option Value) (y : Str) : List (Str × Bool) → Prop
  | [] => True
  | (n, b) :: r => (mg n = some (.ref (rf mg n)) ∧ PySem.W.exmOne K (.ref (rf mg n)) (.ref (rf mg y)) = some b) ∧ CtTb K mg y r
theorem CtTb.at {K : PySem.W.Frag} {mg : Str → Option Value} {y : Str} : ∀ {tbl : List (Str × Bool)} {n : Str} {b : Bool}, CtTb K mg y tbl → (n, b) ∈ tbl → mg n = some (.ref (rf mg n)) ∧ PySem.W.exmOne K (.ref (rf mg n)) (.ref (rf mg y)) = some b
  | [], _, _, _, h => nomatch h
  | (n, b) :: r, n', b', t, h => by
    rcases List.mem_cons.mp h with e | h
    · cases e
      exact t.1
    · exact CtTb.at t.2 h
/-! ### isinstance of an error -/
def rIsX (K : PySem.W.Frag) : List V → Hp → VK → Prop := fun xs H Q => ∃ (a D : Addr) (c : V) (us : List Value) (b : Bool), xs = [.ref a, c] ∧ H a = some (ExV (.ref D) none a) ∧ ExcC K D ∧ PySem.W.kitAny K (.ref D) us = some b ∧
  ((∃ u, ClsV c u ∧ us = [u]) ∨ ∃ tp cs, c = .ref tp ∧ H tp = some (.tup cs) ∧ Paired ClsV cs us) ∧ Q (.bl b) H
theorem kit_single {K : PySem.W.Frag} {t u : Value} {b : Bool} (h : PySem.W.kitAny K t [u] = some b) : PySem.W.kitOne K t u = some b := by
  unfold PySem.W.kitAny at h
  split at h
  · rename_i e
    rw [e]
    exact h
  · rename_i e
    rw [e]
    exact h
  · cases h
theorem call_isX {X : Cx} : CallR X (.builtin "isinstance") (rIsX X.K) := by
  intro pins s σ H xs us Q I r h
  obtain ⟨a, D, c, ws, b, rfl, ha, C, e, hc, q⟩ := h
  obtain ⟨u1, u2, rfl, r1, r2⟩ := vals2 r
  cases (show u1 = Value.ref a from r1)
  obtain ⟨⟨oe, vs, hget, hz, hv⟩, _⟩ := I.hok a _ ha
  have J : PySem.W.InstAt s.heap a oe D none := by
    obtain ⟨oc, od, oda, osl⟩ := oe
    obtain ⟨h1, h2⟩ := hz
    dsimp only at h1 h2 hv
    subst h1 h2 hv
    exact ⟨hget, rfl, rfl, trivial⟩
  have Z := PySem.W.handS_kitx_exc (x := a) (ox := oe) C.hg C.hk C.hs C.hd C.ha C.hn C.ht C.hm
  rcases hc with ⟨u, k, rfl⟩ | ⟨tp, cs, rfl, hT, k⟩
  · have e2 := k.eq r2
    subst e2
    exact PySem.W.kia_one Z I.kIn J (kit_single e) (fun z => nomatch z) fun tk => ⟨.bl b, H, I.tok tk, rfl, q⟩
  · cases (show u2 = Value.ref tp from r2)
    obtain ⟨_, its, rv, o, h1, h2, n, h3⟩ := (show ObjOk X.prog X.w H s.heap tp (.tup cs) from I.hok tp _ hT)
    have e3 := ClsV.all k rv
    subst e3
    obtain ⟨oc, od, dt, sl⟩ := o
    simp only at h2 h3
    subst h2 h3
    exact PySem.W.kia_tup Z I.kIn J h1 e (fun z => nomatch z) fun tk => ⟨.bl b, H, I.tok tk, rfl, q⟩
/-- a class expression, or a tuple of such -/
def JC (X : Cx) (e : Expr) (us : List Value) : Prop := ∃ v u, PE X e (tC v) ∧ ClsV v u ∧ us = [u]
theorem jc_own {X : Cx} {y : Str} {p : Pos} (h : X.mg y = some (.ref (rf X.mg y))) (hg : Gl X y := by rfl) (hdb : (y == ("__debug__" : Str)) = false := by decide) : JC X (.Name y p) [.ref (rf X.mg y)] := ⟨_, _, pe_glob (v := .ref (rf X.mg y)) hg h rfl hdb, .own _, rfl⟩
theorem jc_blt {X : Cx} {y : Str} {b : String} {p : Pos} (hm : X.mg y = none) (hv : bootBuiltins y = some (.type b) := by decide +kernel) (hg : Gl X y := by rfl) (hn : y ≠ "__name__" := by decide) (hdb : (y == ("__debug__" : Str)) = false := by decide) : JC X (.Name y p) [.type b] :=
  ⟨_, _, pe_bltn (v := .ty b) hg hm hv rfl hn hdb, .ty b, rfl⟩
def JCs (X : Cx) (es : List Expr) (us : List Value) : Prop := ∃ t vs, PA X es t ∧ (∀ σ H Q, Q vs H → t σ H Q) ∧ Paired ClsV vs us ∧ vs.length = es.length
theorem jcs_nil {X : Cx} : JCs X [] [] := ⟨_, [], pa_nil, fun _ _ _ q => q, .nil, rfl⟩
theorem jcs_cons {X : Cx} {y : Str} {p : Pos} {es : List Expr} {us : List Value} (h : X.mg y = some (.ref (rf X.mg y))) (r : JCs X es us) (hg : Gl X y := by rfl) (hdb : (y == ("__debug__" : Str)) = false := by decide)
    (hs : starEach (.Name y p :: es) X.env = (false, eval (.Name y p) X.env) :: starEach es X.env := by rfl) : JCs X (.Name y p :: es) (.ref (rf X.mg y) :: us) := by
  obtain ⟨t, vs, pa, k, pr, hl⟩ := r
  exact ⟨_, .ref (rf X.mg y) :: vs, pa_cons (pe_glob (v := .ref (rf X.mg y)) hg h rfl hdb) pa hs, fun σ H Q q => k _ _ _ q, .cons (.own _) pr, by simp [hl]⟩
def oIsE (tbl : List (Str × Bool)) : Dv → Option Dv
  | .exc c => (lk tbl c).map .bl
  | _ => none
def sIsE (tbl : List (Str × Bool)) (f : SE) : SE := fun ρ => (f ρ).bnd fun d ρ1 => match oIsE tbl d with
  | some e => .ok e ρ1
  | none => .stk
section
variable {X : Cx} {W : WX} {a c : Expr} {f : SE} {pos p p2 : Pos} {us : List Value} {tbl : List (Str × Bool)}
theorem oIsE_some {d e : Dv} (h : oIsE tbl d = some e) : ∃ n b, d = .exc n ∧ e = .bl b ∧ (n, b) ∈ tbl := by
  unfold oIsE at h
  split at h
  · rename_i n
    obtain ⟨b, h1, h2⟩ := Option.map_eq_some_iff.mp h
    exact ⟨n, b, rfl, h2.symm, lk_mem h1⟩
  · cases h
theorem je_isE (ha : JE X W a f) (hc : JC X c us) (T : IsTb X.K X.mg us tbl) (hm : X.mg "isinstance" = none)
    (hv : bootBuiltins "isinstance" = some (.builtin "isinstance") := by decide +kernel) (hg : Gl X "isinstance" := by rfl)
    (he : starEach [a, c] X.env = (false, eval a X.env) :: starEach [c] X.env := by rfl) (he2 : starEach [c] X.env = (false, eval c X.env) :: starEach [] X.env := by rfl) (hpl : (backTo pos (starEach [c] X.env)).any (·.1) = false := by rfl) :
    JE X W (.Call (.Name "isinstance" p) [a, c] [] pos) (sIsE tbl f) := by
  obtain ⟨t, pa, s⟩ := ha
  obtain ⟨v, u, pc, kc, rfl⟩ := hc
  refine ⟨_, pe_callB call_isX hg hm hv (pa_cons pa (pa_cons pc pa_nil he2) he) (by decide) (by decide) he hpl, fun F H σ ρ T' Q n h => ?_⟩
  refine s F H σ ρ T' _ n (h.bnd.imp fun d ρ1 h1 F1 H1 w n1 => ?_)
  split at h1
  · rename_i e ee
    obtain ⟨y, b, rfl, rfl, hmem⟩ := oIsE_some ee
    obtain ⟨rest, nr⟩ := Now.rel (L := [.val w (.exc y)]) n1
    obtain ⟨fx, A, r⟩ := nr.rep
    obtain ⟨a', D, rfl, hD, hF, _⟩ := r
    obtain ⟨m1, m2, m3⟩ := T.at hmem
    rw [rf_of hD] at m2 m3
    refine ⟨a', D, v, [u], b, rfl, ?_, m2, m3, .inl ⟨u, kc, rfl⟩, h1 _ _ _ (n1.drop.add ⟨rfl, rfl⟩)⟩
    rcases fx _ _ hF with z | ⟨z, _⟩
    · exact z
    · exact z.elim
  · exact h1.elim
theorem je_isET {es : List Expr} {k : Nat} (ha : JE X W a f) (hc : JCs X es us) (T : IsTb X.K X.mg us tbl) (hm : X.mg "isinstance" = none) (hlen : es.length ≤ 1000 := by decide)
    (hv : bootBuiltins "isinstance" = some (.builtin "isinstance") := by decide +kernel) (hg : Gl X "isinstance" := by rfl)
    (he : starEach [a, .Tuple es k p2] X.env = (false, eval a X.env) :: starEach [.Tuple es k p2] X.env := by rfl) (he2 : starEach [.Tuple es k p2] X.env = (false, eval (.Tuple es k p2) X.env) :: starEach [] X.env := by rfl) (hpl : (backTo pos (starEach [.Tuple es k p2] X.env)).any (·.1) = false := by rfl) :
    JE X W (.Call (.Name "isinstance" p) [a, .Tuple es k p2] [] pos) (sIsE tbl f) := by
  obtain ⟨t, pa, s⟩ := ha
  obtain ⟨t2, vs, pc, kc, kp, hl⟩ := hc
  refine ⟨_, pe_callB call_isX hg hm hv (pa_cons pa (pa_cons (pe_tup pc) pa_nil he2) he) (by decide) (by decide) he hpl, fun F H σ ρ T' Q n h => ?_⟩
  refine s F H σ ρ T' _ n (h.bnd.imp fun d ρ1 h1 F1 H1 w n1 => ?_)
  split at h1
  · rename_i e ee
    obtain ⟨y, b, rfl, rfl, hmem⟩ := oIsE_some ee
    obtain ⟨rest, nr⟩ := Now.rel (L := [.val w (.exc y)]) n1
    obtain ⟨fx, A, r⟩ := nr.rep
    obtain ⟨a', D, rfl, hD, hF, _⟩ := r
    obtain ⟨m1, m2, m3⟩ := T.at hmem
    rw [rf_of hD] at m2 m3
    have hH : H1 a' = some (ExV (.ref D) none a') := by
      rcases fx _ _ hF with z | ⟨z, _⟩
      · exact z
      · exact z.elim
    refine kc _ _ _ ⟨by rw [sizeLine_eq, hl]; omega, fun q hq => ?_⟩
    refine ⟨a', D, .ref q, us, b, rfl, ?_, m2, m3, .inr ⟨q, vs, rfl, upd_same, kp⟩, ?_⟩
    · rw [upd_ne (ne_of_none hH hq)]
      exact hH
    · have n2 := n1.drop.map (L := []) (L' := []) (F' := upd F1 q (.tup vs)) (H' := upd H1 q (.tup vs)) fun rest r => Rel.new r hq
      exact h1 _ _ _ (n2.add ⟨rfl, rfl⟩)
  · exact h1.elim
end
/-! ### is True, is False -/
theorem op_isBl {X : Cx} : OpR X (compareOp .Is) (fun x y H Q => ∃ a b, x = .bl a ∧ y = .bl b ∧ Q (.bl (a == b)) H) := by
  intro pins s σ H x y v u Q I rx ry h
  obtain ⟨m, n, rfl, rfl, q⟩ := h
  cases (show v = Value.bool m from rx)
  cases (show u = Value.bool n from ry)
  by_cases e : m = n
  · subst e
    exact wpAny_is_self rfl ⟨.bl true, H, I, rfl, by simpa using q⟩
  · exact wpAny_is_other rfl (fun z => e (Value.bool.inj z)) ⟨.bl false, H, I, rfl, by rw [show (m == n) = false from beq_eq_false_iff_ne.mpr e] at q; exact q⟩
def oIsT : Dv → Dv → Option Dv
  | .bl a, .bl b => some (.bl (a == b))
  | _, _ => none
theorem os_isT {X : Cx} : OpP X (compareOp .Is) oIsT := by
  refine ⟨_, op_isBl, fun F H v1 v2 A1 A2 d1 d2 d Q f x y e k => ?_⟩
  unfold oIsT at e
  split at e
  · rename_i a b
    cases e
    exact ⟨a, b, x.1, y.1, k _ [] ⟨rfl, rfl⟩⟩
  · cases e
/-! ### try .. except C as n -/
def gTry (tbl : List (Str × Bool)) (i : Nat) (g1 g2 : SS) : SS := fun ρ => match g1 ρ with
  | .err ⟨c, none⟩ ρ1 => match lk tbl c with
    | some true => if i < ρ1.length then (match g2 (ρ1.set i (some (.exc c))) with
      | .nx ρ2 => .nx (ρ2.set i none)
      | .rt d ρ2 => .rt d ρ2
      | .bk ρ2 => .bk (ρ2.set i none)
      | .ct ρ2 => .ct (ρ2.set i none)
      | _ => .stk) else .stk
    | some false => .err ⟨c, none⟩ ρ1
    | none => .stk
  | .err ⟨_, some _⟩ _ => .stk
  | r => r
def tsOf (K : PySem.W.Frag) (mg : Str → Option Value) (fx : List Nat) (W : WX) (g : SS) : TS := fun D σ H => ∃ F ρ T, Now K mg F H σ ρ T ∧ PostS K mg fx W σ T D (g ρ)
theorem JSs.ps {Y : Cx} {fx : List Nat} {W : WX} {sts : List Stmt} {g : SS} (h : JSs Y W fx sts g) : PSs Y sts (tsOf Y.K Y.mg fx W g) := by
  obtain ⟨t, p, s⟩ := h
  exact ⟨fun pins st σ H D I ⟨F, ρ, T, n, q⟩ => p.run pins st σ H D I (s F H σ ρ T D n q)⟩
theorem Now.unset {K : PySem.W.Frag} {mg : Str → Option Value} {F H : Hp} {σ : L2.St} {ρ : En} {T : List Root} (n : Now K mg F H σ ρ T) (i : Nat) : Now K mg F H (σ.set i none) (ρ.set i none) T := by
  obtain ⟨rs, sl, r⟩ := n
  obtain ⟨rs', rd, sl', pr⟩ := sl.drop i none
  refine ⟨rs', sl', Rel.dropL (rs := rd) (r.perm ?_)⟩
  rw [← List.append_assoc rd]
  exact pr.append_right T
section
variable {X : Cx} {W : WX} {fx : List Nat} {body suite : List Stmt} {b₀ : Stmt} {g1 g2 : SS} {i : Nat} {x n : Str} {np pos pos' : Pos} {tbl : List (Str × Bool)}
theorem js_try (hN : X.N.Nodup) (T : CtTb X.K X.mg x tbl) (hx : X.mg x = some (.ref (rf X.mg x))) (tk : Takes X W)
    (hb : ∀ (W' : WX) (pn : List (Addr × Obj)) (xe : Value → Shared → Prop), Takes (X.tr pn xe) W' → PassesOwn (model X.prog X.w) X.A X.env xe → JSs (X.tr pn xe) W' fx body g1)
    (hs : ∀ (a : Addr) (pn : List (Addr × Obj)), JSs (X.suite a pn) (fun _ _ _ _ => False) fx (b₀ :: suite) g2)
    (hfx : i ∉ fx := by decide) (hi : X.N[i]? = some n := by rfl) (hln : X.env.kindOf n = some .local := by rfl) (hg : Gl X x := by rfl) (hdb : (x == ("__debug__" : Str)) = false := by decide) (hst : X.stack = X.env :: X.outer := by rfl) (hf : X.env.frame = some X.env.locals := by rfl) :
    JS X W fx (.Try body [.ExceptHandler (some (.Name x np)) (some n) (b₀ :: suite) pos'] [] [] pos) (gTry tbl i g1 g2) := by
  refine ⟨_, ps_try_ex (i := i) (tb := fun W' => tsOf X.K X.mg fx W' g1) (ts := fun _ => tsOf X.K X.mg fx (fun _ _ _ _ => False) g2) hst hf hN hi hln ⟨hg, hdb, .inl hx⟩ tk (fun W' pn xe tk' po' => (hb W' pn xe tk' po').ps) (fun a pn => (hs a pn).ps), fun F H σ ρ R D n0 h => ⟨F, ρ, R, n0, ?_⟩⟩
  unfold gTry at h
  cases e : g1 ρ with
  | nx ρ1 => rw [e] at h; exact h
  | rt d ρ1 => rw [e] at h; exact h
  | bk ρ1 => rw [e] at h; exact h
  | ct ρ1 => rw [e] at h; exact h
  | stk => rw [e] at h; exact h
  | err y ρ1 =>
    rw [e] at h
    obtain ⟨c, pay⟩ := y
    cases pay with
    | some d => exact h.elim
    | none =>
      intro F1 H1 σ1 cls dd rs k1 ev n1
      obtain ⟨C, rfl, hC, hp⟩ := ev
      obtain ⟨rfl, rfl⟩ := (hp : dd = none ∧ rs = [])
      have n1' : Now X.K X.mg F1 H1 σ1 ρ1 R := n1
      simp only at h
      cases e2 : lk tbl c with
      | none => rw [e2] at h; exact h.elim
      | some b =>
        rw [e2] at h
        obtain ⟨m1, m2⟩ := T.at (lk_mem e2)
        rw [rf_of hC] at m2
        refine ⟨b, m2, fun hb1 a na => ?_, fun hb0 => ?_⟩
        · subst hb1
          simp only at h
          split at h
          · rename_i hil
            have n2 := n1'.map (L := []) (L' := []) (F' := upd F1 a (ExV (.ref C) none a)) (H' := upd H1 a (ExV (.ref C) none a)) fun rest r => Rel.new r na
            have n3 := n2.add (v := .ref a) (d := .exc c) ⟨a, C, rfl, hC, upd_same, rfl⟩
            refine ⟨_, _, _, n3.put hil, ?_⟩
            have kp := set_keep (σ := σ1) (v := some (V.ref a)) hfx
            cases e3 : g2 (ρ1.set i (some (.exc c))) with
            | nx ρ2 =>
              rw [e3] at h
              exact fun F4 H4 σ4 k4 n4 => h F4 H4 _ (((k1.trans kp).trans k4).trans (set_keep hfx)) (n4.unset i)
            | rt d ρ2 =>
              rw [e3] at h
              exact fun F4 H4 σ4 v k4 n4 => h F4 H4 σ4 v ((k1.trans kp).trans k4) n4
            | bk ρ2 =>
              rw [e3] at h
              exact fun F4 H4 σ4 k4 n4 => h F4 H4 _ (((k1.trans kp).trans k4).trans (set_keep hfx)) (n4.unset i)
            | ct ρ2 =>
              rw [e3] at h
              exact fun F4 H4 σ4 k4 n4 => h F4 H4 _ (((k1.trans kp).trans k4).trans (set_keep hfx)) (n4.unset i)
            | err y ρ2 => rw [e3] at h; exact h.elim
            | stk => rw [e3] at h; exact h.elim
          · exact h.elim
        · subst hb0
          exact h F1 H1 σ1 (.ref C) none [] k1 ⟨C, rfl, hC, rfl, rfl⟩ n1
end
end Pyd
set_option maxRecDepth 100000
/-! Own work: instances: made, asked for their fields, their methods called. -/
namespace Pyd
open PySem PySem.Spec PyProof.Rows L2
/-! ### fields -/
def putN (f : Str) : List Str → List Str
  | [] => [f]
  | n :: ns => if n = f then n :: ns else n :: putN f ns
def putV {α : Type} (f : Str) (y : α) : List Str → List α → List α
  | [], _ => [y]
  | n :: ns, v :: vs => if n = f then y :: vs else v :: putV f y ns vs
  | _ :: _, [] => []
def lookD (f : Str) : List Str → List Dv → Option Dv
  | n :: ns, d :: ds => if f = n then some d else lookD f ns ds
  | _, _ => none
theorem putF_zip (f : Str) (y : V) : ∀ (fs : List Str) (vs : List V), fs.length = vs.length → putF f y (fs.zip vs) = (putN f fs).zip (putV f y fs vs) ∧ (putN f fs).length = (putV f y fs vs).length ∧ (putN f fs).length ≤ fs.length + 1
  | [], [], _ => ⟨rfl, rfl, Nat.le_refl _⟩
  | n :: ns, v :: vs, h => by
    obtain ⟨e1, e2, e3⟩ := putF_zip f y ns vs (by simpa using h)
    show (if n = f then (n, y) :: ns.zip vs else (n, v) :: putF f y (ns.zip vs)) = _ ∧ _
    unfold putN putV
    by_cases q : n = f
    · rw [if_pos q, if_pos q, if_pos q]
      exact ⟨rfl, by simpa using h, by simp⟩
    · rw [if_neg q, if_neg q, if_neg q]
      exact ⟨by rw [e1]; rfl, by simp [e2], by simpa using e3⟩
  | [], _ :: _, h => by simp at h
  | _ :: _, [], h => by simp at h
section
variable {K : PySem.W.Frag} {mg : Str → Option Value} {F H : Hp}
theorem putV_reps {f : Str} {y : V} {d : Dv} (hd : Rep K mg F H d y []) : ∀ {fs : List Str} {ds : List Dv} {vs : List V}, fs.length = vs.length → Reps K mg F H ds vs [] → Reps K mg F H (putV f d fs ds) (putV f y fs vs) []
  | [], ds, vs, hl, h => ⟨y, [], [], [], rfl, rfl, hd, rfl, rfl⟩
  | n :: ns, [], vs, hl, h => by
    obtain ⟨rfl, _⟩ := h
    simp at hl
  | n :: ns, e :: ds, vs, hl, h => by
    obtain ⟨v, vr, A1, A2, rfl, hA, h1, h2⟩ := h
    obtain ⟨rfl, rfl⟩ := List.append_eq_nil_iff.mp hA.symm
    unfold putV
    by_cases q : n = f
    · rw [if_pos q, if_pos q]
      exact ⟨y, vr, [], [], rfl, rfl, hd, h2⟩
    · rw [if_neg q, if_neg q]
      exact ⟨v, _, [], [], rfl, rfl, h1, putV_reps hd (by simpa using hl) h2⟩
theorem lookD_reps {f : Str} : ∀ {fs : List Str} {ds : List Dv} {vs : List V} {A : List Addr} {d : Dv}, Reps K mg F H ds vs A → lookD f fs ds = some d → ∃ v B, (fs.zip vs).lookup f = some v ∧ Rep K mg F H d v B
  | [], _, _, _, _, _, e => by simp [lookD] at e
  | n :: ns, [], _, _, _, _, e => by simp [lookD] at e
  | n :: ns, x :: ds, vs, A, d, h, e => by
    obtain ⟨v, vr, A1, A2, rfl, _, h1, h2⟩ := h
    unfold lookD at e
    show ∃ w B, List.lookup f ((n, v) :: ns.zip vr) = some w ∧ _
    by_cases q : f = n
    · rw [if_pos q] at e
      cases e
      have hb : (f == n) = true := beq_iff_eq.mpr q
      exact ⟨v, A1, by simp only [List.lookup, hb], h1⟩
    · rw [if_neg q] at e
      have hb : (f == n) = false := beq_eq_false_iff_ne.mpr q
      obtain ⟨w, B, z1, z2⟩ := lookD_reps h2 e
      exact ⟨w, B, by simp only [List.lookup, hb]; exact z1, z2⟩
/-- an own instance whose fields are all fixed is one object -/
theorem ins_cell {v : V} {c : Str} {fs : List Str} {ds : List Dv} {rs : List Root} (h : Rel K mg F H (.val v (.ins true c fs ds) :: rs)) (z : fzns ds = true) :
    ∃ a C dx vs, v = .ref a ∧ mg c = some (.ref C) ∧ fs.length = vs.length ∧ H a = some (.ins C dx (fs.zip vs)) ∧ Reps K mg F H ds vs [] ∧ Rel K mg F H (.cell a (.ins C dx (fs.zip vs)) :: rs) := by
  obtain ⟨fx, A, hr, hn, hF⟩ := h
  obtain ⟨A1, A2, rfl, h1, h2⟩ := hr
  obtain ⟨a, C, dx, vs, B, rfl, hc, hl, hk, ho⟩ := h1
  rw [if_pos rfl] at ho
  obtain ⟨ho, rfl⟩ := ho
  have hB : B = [] := Reps.nil ds z hk
  subst hB
  exact ⟨a, C, dx, vs, rfl, hc, hl, ho, hk, fx, [a] ++ A2, ⟨[a], A2, rfl, ⟨ho, rfl⟩, h2⟩, hn, hF⟩
theorem cell_ins {a C dx : Addr} {c : Str} {fs : List Str} {ds : List Dv} {vs : List V} {rs : List Root} (h : Rel K mg F H (.cell a (.ins C dx (fs.zip vs)) :: rs)) (hc : mg c = some (.ref C)) (hl : fs.length = vs.length) (hk : Reps K mg F H ds vs []) : Rel K mg F H (.val (.ref a) (.ins true c fs ds) :: rs) := by
  obtain ⟨fx, A, hr, hn, hF⟩ := h
  obtain ⟨A1, A2, rfl, ⟨h1, rfl⟩, h2⟩ := hr
  exact ⟨fx, [a] ++ A2, ⟨[a], A2, rfl, ⟨a, C, dx, vs, [], rfl, hc, hl, hk, by rw [if_pos rfl]; exact ⟨h1, rfl⟩⟩, h2⟩, hn, hF⟩
end
/-! ### o.f, o a variable or the like -/
/-- classes whose instances hold the field f -/
def ClF (K : PySem.W.Frag) (mg : Str → Option Value) (f : Str) : List Str → Prop
  | [] => True
  | c :: r => (mg c = some (.ref (rf mg c)) ∧ Cls K (rf mg c) ∧ NoAttr K (rf mg c) f) ∧ ClF K mg f r
theorem ClF.at {K : PySem.W.Frag} {mg : Str → Option Value} {f : Str} : ∀ {cs : List Str} {c : Str}, ClF K mg f cs → c ∈ cs → mg c = some (.ref (rf mg c)) ∧ Cls K (rf mg c) ∧ NoAttr K (rf mg c) f
  | [], _, _, h => nomatch h
  | _ :: _, _, t, h => by
    rcases List.mem_cons.mp h with e | h
    · subst e
      exact t.1
    · exact ClF.at t.2 h
def oFld (cs : List Str) (f : Str) : Dv → Option Dv
  | .ins _ c fs ds => if c ∈ cs then lookD f fs ds else none
  | _ => none
section
variable {X : Cx} {W : WX} {a o value : Expr} {pos pos' : Pos} {f : Str} {cs : List Str}
theorem jp_fld {fa : SP} (ha : JP X a fa) (T : ClF X.K X.mg f cs) (hb : attributeBase a f X.env (eval a X.env) = eval a X.env := by rfl) : JP X (.Attribute a f pos) (pUn (oFld cs f) fa) := by
  obtain ⟨t, p, s⟩ := ha
  refine ⟨_, pe_fld p hb, fun F H σ ρ R Q n h => ?_⟩
  obtain ⟨d, h, k⟩ := h
  obtain ⟨x0, ex, e⟩ := Option.bind_eq_some_iff.mp h
  refine s F H σ ρ R _ n ⟨x0, ex, fun v A r => ?_⟩
  unfold oFld at e
  split at e
  · rename_i og c fs ds
    split at e
    · rename_i hm
      obtain ⟨ad, C, dx, vs, B, rfl, hc, hl, hk, ho⟩ := r
      obtain ⟨m1, m2, m3⟩ := T.at hm
      rw [rf_of hc] at m2 m3
      obtain ⟨w, B', z1, z2⟩ := lookD_reps hk e
      refine ⟨ad, C, dx, _, w, rfl, ?_, m2, m3, z1, k w B' z2⟩
      split at ho
      · exact ho.1
      · rcases n.fixed _ _ ho.1 with z | ⟨z, _⟩
        · exact z
        · exact z.elim
    · cases e
  · cases e
/-! ### self.f = e -/
def gFld (cs : List Str) (i : Nat) (f : Str) (g : SE) : SS := fun ρ => bndS (g ρ) fun d ρ1 => match ρ1[i]? with
  | some (some (.ins true c fs ds)) => if c ∈ cs ∧ fzns ds = true ∧ fs.length < 900 then .nx (ρ1.set i (some (.ins true c (putN f fs) (putV f (fz d) fs ds)))) else .stk
  | _ => .stk
theorem js_fld {fx : List Nat} {i : Nat} {x : Str} {g : SE} {px : Pos} (hv : JE X W value g) (T : ClF X.K X.mg f cs) (hi : X.N[i]? = some x := by rfl) (hvis : Vis X.env.scope x := by first | exact Or.inl rfl | exact Or.inr (Or.inl rfl) | exact Or.inr (Or.inr rfl))
    (hd : (x == ("__debug__" : Str)) = false := by decide) (hcd : (x == ("__classdict__" : Str)) = false := by decide) (hs : swapsWith value (some (.Attribute (.Name x px) f pos')) pos.line X.env = pure false := by rfl) :
    JS X W fx (.Assign [.Attribute (.Name x px) f pos'] value pos) (gFld cs i f g) := by
  obtain ⟨t, p, s⟩ := hv
  refine ⟨_, ps_fld (pe_var hi hvis hd hcd) p hs, fun F H σ ρ R D n h => ?_⟩
  refine s F H σ ρ R _ n ((postS_bnd h).imp fun d ρ1 h1 F1 H1 y n1 => ?_)
  split at h1
  · rename_i c fs ds e
    split at h1
    · rename_i hm
      obtain ⟨hm, hz, h9⟩ := hm
      obtain ⟨F2, n2⟩ := n1.fix
      have n3 := n2.drop
      have hiσ : i < ρ1.length := (List.getElem?_eq_some_iff.mp e).1
      obtain ⟨v, hv', n4⟩ := n3.get e
      obtain ⟨v2, hv2, n5⟩ := n2.get e
      rw [hv'] at hv2
      cases hv2
      obtain ⟨rest, r5⟩ := Now.rel (L := [.val v (.ins true c fs ds), .val y (fz d)]) n5
      have ry : Rep X.K X.mg F2 H1 (fz d) y [] := by
        obtain ⟨_, A, q⟩ := (r5.perm (.swap _ _ _)).rep
        have := Rep.nil (fz d) (fzn_fz d) q
        subst this
        exact q
      obtain ⟨a0, C, dx, vs, rfl, hc, hl, hH, hk, rc⟩ := ins_cell r5 hz
      obtain ⟨m1, m2, m3⟩ := T.at hm
      rw [rf_of hc] at m2 m3
      obtain ⟨e1, e2, e3⟩ := putF_zip f y fs vs hl
      refine ⟨_, hv', a0, C, dx, fs.zip vs, rfl, hH, m2, m3, by rw [List.length_zip]; omega, ?_⟩
      rw [e1]
      have n6 := n4.map (L := [.val (.ref a0) (.ins true c fs ds)]) (L' := [.val (.ref a0) (.ins true c (putN f fs) (putV f (fz d) fs ds))]) (F' := F2) (H' := upd H1 a0 (.ins C dx ((putN f fs).zip (putV f y fs vs)))) fun rest r => by
        obtain ⟨a1, C1, dx1, vs1, q1, q2, q3, q4, q5, q6⟩ := ins_cell r hz
        cases q1
        refine cell_ins (Rel.write q6) hc e2 (putV_reps (Rep.mono (Sub.refl _) (fz d) (fun _ m => nomatch m) ry) hl (Reps.mono (Sub.refl _) ds (fun _ m => nomatch m) hk))
      have n7 := n6.back hv' (by rw [List.getElem?_set_self hiσ])
      rw [List.set_set] at n7
      exact h1 F2 _ σ (Keep.refl σ) n7
    · exact h1.elim
  · exact h1.elim
end
/-! ### __init__ -/
inductive RzI where
  | ok (d s : Dv)
  | err (x : Er)
  | stk
/-- the first thing given is changed in place, and stands for s behind -/
def spI (K : PySem.W.Frag) (mg : Str → Option Value) (n : Nat) (sem : List Dv → RzI) : Sp := fun vs H Q E => vs.length = n ∧ ∃ F ds T, vs.length = ds.length ∧ Rel K mg F H (vals vs ds ++ T) ∧ (match sem ds with
  | .ok d s => ∀ F' H' v v0, vs[0]? = some v0 → Rel K mg F' H' (.val v d :: .val v0 s :: T) → Q v H'
  | .err x => ∀ F' H' cls dd rs, ErV mg x cls dd rs → Rel K mg F' H' (rs ++ T) → E cls dd H'
  | .stk => False)
def outI (ρ : En) (d : Dv) : RzI := match ρ[0]? with
  | some (some s) => .ok d s
  | _ => .stk
def semI (m : Nat) (g : SS) : List Dv → RzI := fun ds => match g (ds.map some ++ List.replicate (m - ds.length) none) with
  | .nx ρ => outI ρ .non
  | .rt d ρ => outI ρ d
  | .err x _ => .err x
  | _ => .stk
section
variable {P : Program} {w : World} {K : PySem.W.Frag} {mg : Str → Option Value} {base : Heap}
theorem Fun.okI {x qual : Str} {st : Stmt} {f : Addr} {fd : FuncData} {N ps : List Str} {k m n : Nat} {g : SS} (F : Fun K x qual st f fd) (S : FnScope N ps (defScope st)) (hm : N.length = m) (hn : ps.length = n)
    (hbody : ∀ (cdv : Value) (A : Around) (outer : List Env) (s : Shared) (H : Hp) (E : XK), Room k (A.deeper (envOfC qual (defScope st) s.heap.objs.size f cdv)) →
      Takes (cxOf (L2.CX P w) P w K mg base N qual (defScope st) f cdv A outer s H E) (fun cls d _ H => E cls d H) →
      PassesOwn (model P w) (A.deeper (envOfC qual (defScope st) s.heap.objs.size f cdv)) (envOfC qual (defScope st) s.heap.objs.size f cdv) (cxOf (L2.CX P w) P w K mg base N qual (defScope st) f cdv A outer s H E).xe →
      JSs (cxOf (L2.CX P w) P w K mg base N qual (defScope st) f cdv A outer s H E) (fun cls d _ H => E cls d H) [0] (defBody st) g) :
    FnOk P w K mg base (L2.CX P w) (k + 1) f fd ps (spI K mg n (semI m g)) := by
  refine F.okX S (fun vs H Q E h => by rw [hn]; exact h.1) fun cdv A outer s H vs Q E hr h => ?_
  obtain ⟨t, p, sn⟩ := hbody cdv A outer s H E hr (takes_of rfl rfl rfl rfl) (passes_of (X := cxOf (L2.CX P w) P w K mg base N qual (defScope st) f cdv A outer s H E) rfl)
  refine ⟨t, p, ?_⟩
  obtain ⟨hl, F0, ds, T, hd, r, q⟩ := h
  have e1 : L2.start N vs = vs.map some ++ List.replicate (m - ds.length) none := by
    unfold L2.start
    rw [hm, hd]
  rw [e1]
  refine sn F0 H _ (ds.map some ++ List.replicate (m - ds.length) none) T _ ⟨vals vs ds, slots_start _ hd, r⟩ ?_
  have slot0 : ∀ {σ1 : L2.St} {v0 : V}, Keep [0] (vs.map some ++ List.replicate (m - ds.length) none) σ1 → σ1[0]? = some (some v0) → vs[0]? = some v0 := fun {σ1 v0} k e => by
    rw [k 0 (.head _)] at e
    cases vs with
    | nil =>
      rw [List.map_nil, List.nil_append, List.getElem?_replicate] at e
      split at e
      · cases e
      · cases e
    | cons v vr =>
      cases e
      rfl
  have fin : ∀ {ρ : En} {d : Dv}, (match outI ρ d with
      | .ok d s => ∀ F' H' v v0, vs[0]? = some v0 → Rel K mg F' H' (.val v d :: .val v0 s :: T) → Q v H'
      | .err x => ∀ F' H' cls dd rs, ErV mg x cls dd rs → Rel K mg F' H' (rs ++ T) → E cls dd H'
      | .stk => False) → ∀ F1 H1 (σ1 : L2.St) v, Keep [0] (vs.map some ++ List.replicate (m - ds.length) none) σ1 → Now K mg F1 H1 σ1 ρ (.val v d :: T) → Q v H1 := fun {ρ d} q F1 H1 σ1 v kp n1 => by
    unfold outI at q
    split at q
    · rename_i d' s' e
      split at e
      · rename_i s0 e0
        cases e
        obtain ⟨v0, hv0, n2⟩ := n1.get e0
        obtain ⟨rs, sl, rr⟩ := n2
        exact q F1 H1 v v0 (slot0 kp hv0) ((Rel.dropL rr).perm (.swap _ _ _))
      · cases e
    · rename_i e
      split at e <;> cases e
    · exact q.elim
  unfold semI at q
  cases e : g (ds.map some ++ List.replicate (m - ds.length) none) with
  | nx ρ =>
    rw [e] at q
    exact fun F1 H1 σ1 kp n1 => fin q F1 H1 σ1 .non kp (n1.add ⟨rfl, rfl⟩)
  | rt d ρ =>
    rw [e] at q
    exact fun F1 H1 σ1 v kp n1 => fin q F1 H1 σ1 v kp n1
  | bk ρ => rw [e] at q; exact q.elim
  | ct ρ => rw [e] at q; exact q.elim
  | err x ρ =>
    rw [e] at q
    refine fun F1 H1 σ1 cls dd rs' _ ev n1 => q F1 H1 cls dd rs' ev ?_
    obtain ⟨rs, sl, rr⟩ := n1
    exact Rel.dropL rr
  | stk => rw [e] at q; exact q.elim
theorem nice_I {k n : Nat} {f : Addr} {fd : FuncData} {ps : List Str} {sem sem' : List Dv → RzI} (F : FnOk P w K mg base (L2.CX P w) k f fd ps (spI K mg n sem)) (h : ∀ ds, ds.length = n → sem' ds ≠ .stk → sem ds = sem' ds) : FnOk P w K mg base (L2.CX P w) k f fd ps (spI K mg n sem') := by
  refine F.imp fun vs H Q E q => ?_
  obtain ⟨hl, F0, ds, T, hd, r, z⟩ := q
  refine ⟨hl, F0, ds, T, hd, r, ?_⟩
  have hne : sem' ds ≠ .stk := fun e => by rw [e] at z; exact z
  rw [h ds (by omega) hne]
  exact z
/-- a class as it may be made, by its __init__ -/
structure Maker (P : Program) (w : World) (K : PySem.W.Frag) (mg : Str → Option Value) (base : Heap) (c : Str) (k n : Nat) (sem : List Dv → RzI) : Prop where
  ex : ∃ C f fd ps, mg c = some (.ref C) ∧ Mk K C f ∧ FnOk P w K mg base (L2.CX P w) k f fd ps (spI K mg n sem) ∧ Binds K fd ps []
theorem Maker.up {c : Str} {j k n : Nat} {sem : List Dv → RzI} (d : Maker P w K mg base c j n sem) (h : j ≤ k) : Maker P w K mg base c k n sem := by
  obtain ⟨C, f, fd, ps, a, b, F, e⟩ := d.ex
  exact ⟨⟨C, f, fd, ps, a, b, F.mono h, e⟩⟩
end
section
variable {X : Cx} {W : WX} {k n : Nat} {x : Str} {p pos : Pos} {e : Expr} {es : List Expr} {C f : Addr} {fd : FuncData} {ps : List Str} {sp : Sp} {t : TA} {fs : SA}
def tNewS (C : Addr) (sp : Sp) (E : L2.St → XK) (t : TA) : TE := fun σ H Q => t σ H fun vs H1 => ∀ y dx, H1 y = none → H1 dx = none → dx ≠ y → sp (.ref y :: vs) (upd (upd H1 dx (.own y)) y (.ins C dx [])) (fun v H2 => v = .non ∧ Q (.ref y) H2) (E σ)
theorem pe_newS {E : L2.St → XK} (M : Mk X.K C f) (F : FnOk X.prog X.w X.K X.mg X.base (L2.CX X.prog X.w) k f fd ps sp) (hr : Room (k + 1) X.A) (hg : Gl X x) (hm : X.mg x = some (.ref C)) (hb : Binds X.K fd ps []) (hx : ∀ σ, PassesAt (L2.CX X.prog X.w) X σ (E σ))
    (ha : PA X (e :: es) t) (hdb : (x == ("__debug__" : Str)) = false := by decide) (he : starEach (e :: es) X.env = (false, eval e X.env) :: starEach es X.env := by rfl) (hpl : (backTo pos (starEach es X.env)).any (·.1) = false := by rfl) :
    PE X (.Call (.Name x p) (e :: es) [] pos) (tNewS C sp E t) := by
  constructor
  intro pins s σ H Q I h
  apply wpAny_Call_Name_kw
  apply ld_glob I hg hm _ hdb
  refine PySem.W.callWith_K (h₀ := X.base) I.ok.mod.kin M.kp (thn (ha.run pos pins s σ H _ I h) ?_) he hpl
  rintro us s1 ⟨vs, H1, I1, r, q⟩
  refine ⟨I1.kIn, ?_⟩
  have new1 := I1.hok.fresh (Nat.le_succ s1.heap.objs.size)
  have new0 := I1.hok.fresh (Nat.le_refl s1.heap.objs.size)
  have hq := q _ _ new1 new0 (Nat.ne_of_lt (Nat.lt_succ_self _))
  have J := Inv.made (C := C) I1
  have rr : Vals (V.ref (s1.heap.objs.size + 1) :: vs) (Value.ref (s1.heap.objs.size + 1) :: us) := .cons rfl r
  have len : (Value.ref (s1.heap.objs.size + 1) :: us ++ []).length = ps.length := by
    rw [List.append_nil, ← rr.length]
    exact F.len _ _ _ _ hq
  apply wpAny_call
  apply make_map (f := f) I1.kIn M.makes M.init (beq_iff_eq.mp M.fn)
  have bound := hb _ (Value.ref (s1.heap.objs.size + 1) :: us) J.kIn len
  rw [List.append_nil] at bound
  refine codeAny_mono (F.run _ X.stack _ _ ⟨Value.ref (s1.heap.objs.size + 1) :: us, []⟩ (Value.ref (s1.heap.objs.size + 1) :: us) _ _ (E σ) (hr.make C us []) (J.env0.make C us []) bound rr hq) ?_
  intro z s' hz
  rcases z with er | (u | _ | _ | _)
  · exact hx σ pins _ _ er s' J hz
  all_goals first
    | exact False.elim hz
    | (obtain ⟨v, H', I3, rv, ev, q3⟩ := J.after hz
       subst ev
       exact ⟨rv, ⟨V.ref (s1.heap.objs.size + 1), H', I3, rfl, q3⟩⟩)
/-- what a class without its own __init__ must have to be made -/
structure MkB (K : PySem.W.Frag) (C : Addr) : Prop where
  makes : PySem.W.makesIn K C = true
  init : PySem.W.findIn K (.ref C) "__init__" = some (some (.builtin "object.__init__"))
  kp : PySem.W.keepIn K (.ref C) = true
theorem pe_newB (M : MkB X.K C) (hg : Gl X x) (hm : X.mg x = some (.ref C)) (hdb : (x == ("__debug__" : Str)) = false := by decide) :
    PE X (.Call (.Name x p) [] [] pos) (fun σ H Q => ∀ y dx, H y = none → H dx = none → dx ≠ y → Q (.ref y) (upd (upd H dx (.own y)) y (.ins C dx []))) := by
  constructor
  intro pins s σ H Q I h
  apply wpAny_Call_Name_kw
  apply ld_glob I hg hm _ hdb
  apply PySem.W.callWith_K0 I.kIn M.kp
  have hq := h _ _ (I.hok.fresh (Nat.le_succ s.heap.objs.size)) (I.hok.fresh (Nat.le_refl s.heap.objs.size)) (Nat.ne_of_lt (Nat.lt_succ_self _))
  have J := Inv.made (C := C) I
  apply wpAny_call
  apply make_map0 I.kIn M.makes M.init fun self => PySem.W.Looks.of_pure (PySem.W.oi_bind self)
  have Y := PySem.W.makes_of (M := model X.prog X.w) J.kIn M.makes
  have ho : ((s.heap.push PySem.W.emptyDict).push (PySem.W.instObj C s.heap.objs.size)).get? (s.heap.objs.size + 1) = some (PySem.W.instObj C s.heap.objs.size) := by
    have := Heap.get?_push_size (s.heap.push PySem.W.emptyDict) (o := PySem.W.instObj C s.heap.objs.size) rfl
    rwa [Heap.size_push] at this
  have ty : PySem.W.Looks (model X.prog X.w) ((s.heap.push PySem.W.emptyDict).push (PySem.W.instObj C s.heap.objs.size)) (typeOf (.ref (s.heap.objs.size + 1))) (.ref C) := (PySem.W.Looks.ld ho).andThen .now
  have isObj : PySem.W.Looks (model X.prog X.w) ((s.heap.push PySem.W.emptyDict).push (PySem.W.instObj C s.heap.objs.size)) (isInstance (.ref (s.heap.objs.size + 1)) (.type "object")) true := ty.andThen Y.top
  refine codeAny_call_builtin PySem.W.oi_plain PySem.W.entry_oi ?_
  refine @PySem.W.check_slot (model X.prog X.w) _ _ _ "object.__init__" "object" "__init__" (.ref (s.heap.objs.size + 1)) [] [] _ PySem.W.oi_kind PySem.W.oi_split isObj (PySem.W.oi_args (.ref (s.heap.objs.size + 1))) ?_
  rw [PySem.W.oi_run]
  exact wpAny_pure ⟨rfl, ⟨V.ref (s.heap.objs.size + 1), _, J, rfl, hq⟩⟩
/-! ### C(..) -/
def sMake (c : Str) (n : Nat) (sem : List Dv → RzI) (fs : SA) : SE := fun ρ => (fs ρ).bnd fun ds ρ1 => if ds.length + 1 = n then (match sem (.ins true c [] [] :: fzs ds) with
  | .ok .non s => .ok s ρ1
  | .err x => .err x ρ1
  | _ => .stk) else .stk
def sMakeB (c : Str) : SE := fun ρ => .ok (.ins true c [] []) ρ
/-- a new instance -/
theorem rel_made {K : PySem.W.Frag} {mg : Str → Option Value} {F H : Hp} {rs : List Root} {c : Str} {y dx : Addr} (h : Rel K mg F H rs) (hc : mg c = some (.ref C)) (hy : H y = none) (hdx : H dx = none) (ne : dx ≠ y) : Rel K mg F (upd (upd H dx (.own y)) y (.ins C dx [])) (.val (.ref y) (.ins true c [] []) :: rs) := by
  have r1 := (Rel.newO (o := .own y) h hdx).drop
  have r2 := Rel.newO (p := y) (o := .ins C dx (([] : List Str).zip ([] : List V))) r1 (by rw [upd_ne (Ne.symm ne)]; exact hy)
  exact cell_ins r2 hc rfl ⟨rfl, rfl⟩
theorem je_make {c : Str} {sem : List Dv → RzI} (M : Maker X.prog X.w X.K X.mg X.base c k n sem) (hr : Room (k + 1) X.A) (tk : Takes X W) (ha : JA X W (e :: es) fs) (hg : Gl X c := by rfl)
    (hdb : (c == ("__debug__" : Str)) = false := by decide) (he : starEach (e :: es) X.env = (false, eval e X.env) :: starEach es X.env := by rfl) (hpl : (backTo pos (starEach es X.env)).any (·.1) = false := by rfl) :
    JE X W (.Call (.Name c p) (e :: es) [] pos) (sMake c n sem fs) := by
  obtain ⟨C, f, fd, ps, hc, mk, F, hb⟩ := M.ex
  obtain ⟨t, pa, s⟩ := ha
  refine ⟨_, pe_newS (E := WE W) mk F hr hg hc hb (passAt tk) pa hdb he hpl, fun F0 H σ ρ T Q nw h => ?_⟩
  refine s F0 H σ ρ T _ nw (h.bnd.imp fun ds ρ1 h1 F1 H1 vs hl n1 => ?_)
  split at h1
  · rename_i hn
    intro y dx hy hdx ne
    obtain ⟨rs, sl, r⟩ := n1
    have r' : Rel X.K X.mg F1 H1 (vals vs ds ++ (rs ++ T)) := r.perm (by
      rw [← List.append_assoc, ← List.append_assoc]
      exact List.perm_append_comm.append_right T)
    obtain ⟨F2, r2⟩ := Rel.fixAll hl r'
    have r3 := rel_made r2 hc hy hdx ne
    refine ⟨by rw [List.length_cons, hl, hn], F2, .ins true c [] [] :: fzs ds, rs ++ T, by rw [List.length_cons, List.length_cons, hl, fzs_length], r3, ?_⟩
    cases e1 : sem (.ins true c [] [] :: fzs ds) with
    | ok d s0 =>
      rw [e1] at h1
      cases d with
      | non =>
        intro F' H' v v0 hv q
        cases hv
        obtain ⟨_, A, q1⟩ := q.rep
        refine ⟨q1.1, h1 F' H' _ ⟨rs, sl, q.drop.perm List.perm_middle.symm⟩⟩
      | _ => exact h1.elim
    | err x =>
      rw [e1] at h1
      refine fun F' H' cls dd re ev q => h1 F' H' cls dd re ev ⟨rs, sl, q.perm ?_⟩
      rw [← List.append_assoc, ← List.append_assoc]
      exact List.perm_append_comm.append_right T
    | stk =>
      rw [e1] at h1
      exact h1.elim
  · exact h1.elim
theorem je_makeB {c : Str} (hc : X.mg c = some (.ref (rf X.mg c))) (M : MkB X.K (rf X.mg c)) (hg : Gl X c := by rfl) (hdb : (c == ("__debug__" : Str)) = false := by decide) : JE X W (.Call (.Name c p) [] [] pos) (sMakeB c) :=
  ⟨_, pe_newB M hg hc hdb, fun F H σ ρ T Q n h y dx hy hdx ne => h _ _ _ (n.map (L := []) (L' := [.val (.ref y) (.ins true c [] [])]) fun rest r => rel_made r hc hy hdx ne)⟩
end
end Pyd
set_option maxRecDepth 100000
/-! Own work: methods by the instance's class; isinstance of instances; in; clear, append. -/
namespace Pyd
open PySem PySem.Spec PyProof.Rows L2
/-! ### o.m(..) -/
def lkA {α : Type} : List (Str × α) → Str → Option α
  | [], _ => none
  | (n, b) :: r, c => if n = c then some b else lkA r c
/-- m, asked of an instance of c, is this def -/
structure MethD (P : Program) (w : World) (K : PySem.W.Frag) (mg : Str → Option Value) (base : Heap) (c m : Str) (k n : Nat) (sem : List Dv → Rz) : Prop where
  ex : ∃ C f fd ps, mg c = some (.ref C) ∧ Cls K C ∧ Meth K C m f ∧ FnOk P w K mg base (L2.CX P w) k f fd ps (spD K mg n sem) ∧ Binds K fd ps []
theorem MethD.up {P : Program} {w : World} {K : PySem.W.Frag} {mg : Str → Option Value} {base : Heap} {c m : Str} {j k n : Nat} {sem : List Dv → Rz} (d : MethD P w K mg base c m j n sem) (h : j ≤ k) : MethD P w K mg base c m k n sem := by
  obtain ⟨C, f, fd, ps, a, b, e, F, g⟩ := d.ex
  exact ⟨⟨C, f, fd, ps, a, b, e, F.mono h, g⟩⟩
def MethT (P : Program) (w : World) (K : PySem.W.Frag) (mg : Str → Option Value) (base : Heap) (m : Str) (k n : Nat) : List (Str × (List Dv → Rz)) → Prop
  | [] => True
  | (c, sem) :: r => MethD P w K mg base c m k n sem ∧ MethT P w K mg base m k n r
theorem MethT.at {P : Program} {w : World} {K : PySem.W.Frag} {mg : Str → Option Value} {base : Heap} {m : Str} {k n : Nat} : ∀ {tbl : List (Str × (List Dv → Rz))} {c : Str} {sem : List Dv → Rz}, MethT P w K mg base m k n tbl → lkA tbl c = some sem → MethD P w K mg base c m k n sem
  | [], _, _, _, h => nomatch h
  | (c', s') :: r, c, sem, t, h => by
    unfold lkA at h
    split at h
    · rename_i e
      cases h
      exact e ▸ t.1
    · exact MethT.at t.2 h
def tMs (X : Cx) (m : Str) (k n : Nat) (E : L2.St → XK) (ta : TE) (t : TA) : TE := fun σ H Q => ta σ H fun x H1 => ∃ (C f : Addr) (fd : FuncData) (ps : List Str) (sem : List Dv → Rz) (a dx : Addr) (fs : List (Str × V)), Cls X.K C ∧ Meth X.K C m f ∧
  FnOk X.prog X.w X.K X.mg X.base (L2.CX X.prog X.w) k f fd ps (spD X.K X.mg n sem) ∧ Binds X.K fd ps [] ∧ x = .ref a ∧ H1 a = some (.ins C dx fs) ∧ fs.lookup m = none ∧ t σ H1 fun vs H2 => spD X.K X.mg n sem (x :: vs) H2 Q (E σ)
section
variable {X : Cx} {W : WX} {o e : Expr} {es : List Expr} {m : Str} {k n : Nat} {apos pos : Pos} {ta : TE} {t : TA}
theorem pe_ms {E : L2.St → XK} {pl : Sem Bool} (he : PE X o ta) (hr : Room k X.A) (hx : ∀ σ, PassesAt (L2.CX X.prog X.w) X σ (E σ)) (ha : PA X (e :: es) t)
    (hst : starEach (e :: es) X.env = (false, eval e X.env) :: starEach es X.env := by rfl) (hpl : (backTo pos (starEach es X.env)).any (·.1) = false := by rfl)
    (ht : eval (.Call (.Attribute o m apos) (e :: es) [] pos) X.env = (do
      let ov ← eval o X.env
      standAt apos.atName
      let (f, first) ← holding [ov] (getMethod ov m pl)
      callWith pos f first (backTo pos (starEach (e :: es) X.env)) (backToKw pos (keywordEach [] X.env))) := by rfl) : PE X (.Call (.Attribute o m apos) (e :: es) [] pos) (tMs X m k n E ta t) := by
  constructor
  intro pins s σ H Q I h
  refine PySem.W.methodCall_KW (pl := pl) (thn (he.run pins s σ H _ I h) ?_) ht
  rintro u s1 ⟨x, H1, I1, rx, C, f, fd, ps, sem, a, dx, fs, c, hm, F, hb, rfl, ea, l, q⟩
  obtain rfl : u = Value.ref a := rx
  apply getmeth_ok I1 ea c hm l
  refine PySem.W.callWith_K (first := [.ref a]) (h₀ := X.base) I.ok.mod.kin hm.kp (thn (ha.run pos pins s1 σ H1 _ I1 q) ?_) hst hpl
  rintro us s2 ⟨vs, H2, I2, r, q2⟩
  exact ⟨I2.kIn, run_fnSD (us := .ref a :: us) (vs := .ref a :: vs) (dvs := []) F hr hb .nil (hx σ) I2 (.cons rfl r) (by rw [List.append_nil]; exact q2)⟩
theorem pe_ms0 {E : L2.St → XK} {pl : Sem Bool} (he : PE X o ta) (hr : Room k X.A) (hx : ∀ σ, PassesAt (L2.CX X.prog X.w) X σ (E σ))
    (ht : eval (.Call (.Attribute o m apos) [] [] pos) X.env = (do
      let ov ← eval o X.env
      standAt apos.atName
      let (f, first) ← holding [ov] (getMethod ov m pl)
      callWith pos f first (backTo pos (starEach [] X.env)) (backToKw pos (keywordEach [] X.env))) := by rfl) : PE X (.Call (.Attribute o m apos) [] [] pos) (tMs X m k n E ta tNil) := by
  constructor
  intro pins s σ H Q I h
  refine PySem.W.methodCall_KW (pl := pl) (thn (he.run pins s σ H _ I h) ?_) ht
  rintro u s1 ⟨x, H1, I1, rx, C, f, fd, ps, sem, a, dx, fs, c, hm, F, hb, rfl, ea, l, q⟩
  obtain rfl : u = Value.ref a := rx
  apply getmeth_ok I1 ea c hm l
  exact PySem.W.callWith_K0 (first := [.ref a]) I1.kIn hm.kp (run_fnSD (us := [.ref a]) (vs := [.ref a]) (dvs := []) F hr hb .nil (hx σ) I1 (.cons rfl .nil) (by rw [List.append_nil]; exact q))
def sMeth (m : Str) (n : Nat) (tbl : List (Str × (List Dv → Rz))) (fo : SE) (fs : SA) : SE := fun ρ => (fo ρ).bnd fun d ρ1 => match d with
  | .ins o c fl vs => if m ∈ fl then .stk else (match lkA tbl c with
    | some sem => (fs ρ1).bnd fun ds ρ2 => if ds.length + 1 = n then (sem (fz (.ins o c fl vs) :: fzs ds)).to ρ2 else .stk
    | none => .stk)
  | _ => .stk
theorem no_key {m : Str} : ∀ {fl : List Str} {vs : List V}, m ∉ fl → (fl.zip vs).lookup m = none
  | [], _, _ => rfl
  | _ :: _, [], _ => rfl
  | n :: fl, v :: vs, h => by
    have hb : (m == n) = false := beq_eq_false_iff_ne.mpr fun e => h (by rw [e]; exact .head _)
    show List.lookup m ((n, v) :: fl.zip vs) = none
    simp only [List.lookup, hb]
    exact no_key fun z => h (.tail _ z)
theorem snd_ms {tbl : List (Str × (List Dv → Rz))} {fo : SE} {fs : SA} (so : SndE X.K X.mg W ta fo) (ss : SndA X.K X.mg W t fs) (T : MethT X.prog X.w X.K X.mg X.base m k n tbl) : SndE X.K X.mg W (tMs X m k n (WE W) ta t) (sMeth m n tbl fo fs) := fun F H σ ρ R Q nw h => by
  refine so F H σ ρ R _ nw (h.bnd.imp fun d ρ1 h1 F1 H1 v n1 => ?_)
  split at h1
  · rename_i od c fl vd
    split at h1
    · exact h1.elim
    · rename_i hm
      split at h1
      · rename_i sem es
        obtain ⟨rest, nr⟩ := Now.rel (L := [.val v (.ins od c fl vd)]) n1
        obtain ⟨fx, A, r⟩ := nr.rep
        obtain ⟨a, C, dx, vs, B, rfl, hc, hl, hk, ho⟩ := r
        obtain ⟨C', f, fd, ps, q1, q2, q3, q4, q5⟩ := (T.at es).ex
        rw [hc] at q1
        cases q1
        refine ⟨C, f, fd, ps, sem, a, dx, fl.zip vs, q2, q3, q4, q5, rfl, ?_, no_key hm, ?_⟩
        · split at ho
          · exact ho.1
          · rcases fx _ _ ho.1 with z | ⟨z, _⟩
            · exact z
            · exact z.elim
        · refine ss F1 H1 σ ρ1 (.val (.ref a) (.ins od c fl vd) :: R) _ n1 (Post.imp (Post.more (L := [.val (.ref a) (.ins od c fl vd)]) h1.bnd) fun ds ρ2 h2 F2 H2 ws hw n2 => ?_)
          split at h2
          · rename_i hn
            obtain ⟨rs, sl, rr⟩ := n2
            have hl2 : (V.ref a :: ws).length = (Dv.ins od c fl vd :: ds).length := by simp [hw]
            have r' : Rel X.K X.mg F2 H2 (vals (V.ref a :: ws) (Dv.ins od c fl vd :: ds) ++ (rs ++ R)) := rr.perm (by
              show (rs ++ (vals ws ds ++ (.val (.ref a) (.ins od c fl vd) :: R))).Perm (.val (.ref a) (.ins od c fl vd) :: (vals ws ds ++ (rs ++ R)))
              refine (List.perm_append_comm_assoc _ _ _).trans ?_
              refine (List.Perm.append_left _ List.perm_middle).trans ?_
              exact List.perm_middle)
            obtain ⟨F3, r3⟩ := Rel.fixAll hl2 r'
            refine ⟨by rw [List.length_cons, hw, hn], F3, fzs (.ins od c fl vd :: ds), rs ++ R, by rw [fzs_length]; exact hl2, r3, ?_⟩
            have ef : fzs (.ins od c fl vd :: ds) = fz (.ins od c fl vd) :: fzs ds := rfl
            rw [ef]
            cases e1 : sem (fz (.ins od c fl vd) :: fzs ds) with
            | ok d =>
              rw [e1] at h2
              exact fun F' H' v q => h2 F' H' v ⟨rs, sl, q.perm List.perm_middle.symm⟩
            | err x =>
              rw [e1] at h2
              refine fun F' H' cls dd re ev q => h2 F' H' cls dd re ev ⟨rs, sl, q.perm ?_⟩
              rw [← List.append_assoc, ← List.append_assoc]
              exact List.perm_append_comm.append_right R
            | stk =>
              rw [e1] at h2
              exact h2.elim
          · exact h2.elim
      · exact h1.elim
  · exact h1.elim
theorem je_meth {tbl : List (Str × (List Dv → Rz))} {fo : SE} {fs : SA} {pl : Sem Bool} (ho : JE X W o fo) (T : MethT X.prog X.w X.K X.mg X.base m k n tbl) (hr : Room k X.A) (tk : Takes X W) (ha : JA X W (e :: es) fs)
    (hst : starEach (e :: es) X.env = (false, eval e X.env) :: starEach es X.env := by rfl) (hpl : (backTo pos (starEach es X.env)).any (·.1) = false := by rfl)
    (ht : eval (.Call (.Attribute o m apos) (e :: es) [] pos) X.env = (do
      let ov ← eval o X.env
      standAt apos.atName
      let (f, first) ← holding [ov] (getMethod ov m pl)
      callWith pos f first (backTo pos (starEach (e :: es) X.env)) (backToKw pos (keywordEach [] X.env))) := by rfl) : JE X W (.Call (.Attribute o m apos) (e :: es) [] pos) (sMeth m n tbl fo fs) := by
  obtain ⟨to, po, so⟩ := ho
  obtain ⟨t, pa, s⟩ := ha
  exact ⟨_, pe_ms (E := WE W) po hr (passAt tk) pa hst hpl ht, snd_ms so s T⟩
theorem je_meth0 {tbl : List (Str × (List Dv → Rz))} {fo : SE} {pl : Sem Bool} (ho : JE X W o fo) (T : MethT X.prog X.w X.K X.mg X.base m k n tbl) (hr : Room k X.A) (tk : Takes X W)
    (ht : eval (.Call (.Attribute o m apos) [] [] pos) X.env = (do
      let ov ← eval o X.env
      standAt apos.atName
      let (f, first) ← holding [ov] (getMethod ov m pl)
      callWith pos f first (backTo pos (starEach [] X.env)) (backToKw pos (keywordEach [] X.env))) := by rfl) : JE X W (.Call (.Attribute o m apos) [] [] pos) (sMeth m n tbl fo sA0) := by
  obtain ⟨to, po, so⟩ := ho
  obtain ⟨t, pa, s⟩ := (ja_nil : JA X W [] sA0)
  refine ⟨_, pe_ms0 (E := WE W) po hr (passAt tk) ht, snd_ms so ?_ T⟩
  intro F H σ ρ R Q n h
  exact h F H [] rfl n
end
/-! ### isinstance of an instance -/
def InTb (K : PySem.W.Frag) (mg : Str → Option Value) (u : Value) : List (Str × Bool) → Prop
  | [] => True
  | (n, b) :: r => (mg n = some (.ref (rf mg n)) ∧ Cls K (rf mg n) ∧ PySem.W.findIn K (.ref (rf mg n)) "__class__" = some (some (.builtin "object.__class__")) ∧ PySem.W.specialIn K (.builtin "object.__class__") "__get__" = some (some (.builtin "getset_descriptor.__get__")) ∧
      PySem.W.takesIn K (.builtin "object.__class__") = some true ∧ PySem.W.mroIn K (rf mg n) (.type "object") = some true ∧ PySem.W.kitOne K (.ref (rf mg n)) u = some b) ∧ InTb K mg u r
theorem InTb.at {K : PySem.W.Frag} {mg : Str → Option Value} {u : Value} : ∀ {tbl : List (Str × Bool)} {n : Str} {b : Bool}, InTb K mg u tbl → (n, b) ∈ tbl → (mg n = some (.ref (rf mg n)) ∧ Cls K (rf mg n) ∧ PySem.W.findIn K (.ref (rf mg n)) "__class__" = some (some (.builtin "object.__class__")) ∧ PySem.W.specialIn K (.builtin "object.__class__") "__get__" = some (some (.builtin "getset_descriptor.__get__")) ∧
      PySem.W.takesIn K (.builtin "object.__class__") = some true ∧ PySem.W.mroIn K (rf mg n) (.type "object") = some true ∧ PySem.W.kitOne K (.ref (rf mg n)) u = some b)
  | [], _, _, _, h => nomatch h
  | (n, b) :: r, n', b', t, h => by
    rcases List.mem_cons.mp h with e | h
    · cases e
      exact t.1
    · exact InTb.at t.2 h
def oIsI (tbl : List (Str × Bool)) : Dv → Option Dv
  | .ins _ c _ _ => (lk tbl c).map .bl
  | _ => none
section
variable {X : Cx} {W : WX} {a c : Expr} {f : SP} {pos p p2 : Pos} {u : Value} {tbl : List (Str × Bool)}
theorem jp_isI (ha : JP X a f) (hc : JC X c [u]) (T : InTb X.K X.mg u tbl) (hm : X.mg "isinstance" = none)
    (hv : bootBuiltins "isinstance" = some (.builtin "isinstance") := by decide +kernel) (hg : Gl X "isinstance" := by rfl)
    (he : starEach [a, c] X.env = (false, eval a X.env) :: starEach [c] X.env := by rfl) (he2 : starEach [c] X.env = (false, eval c X.env) :: starEach [] X.env := by rfl) (hpl : (backTo pos (starEach [c] X.env)).any (·.1) = false := by rfl) :
    JP X (.Call (.Name "isinstance" p) [a, c] [] pos) (pUn (oIsI tbl) f) := by
  obtain ⟨t, pa, s⟩ := ha
  obtain ⟨v, u', pc, kc, hu⟩ := hc
  cases hu
  refine ⟨_, pe_callB call_isi hg hm hv (pa_cons pa (pa_cons pc pa_nil he2) he) (by decide) (by decide) he hpl, fun F H σ ρ R Q n h => ?_⟩
  obtain ⟨d, h, k⟩ := h
  obtain ⟨x0, ex, e⟩ := Option.bind_eq_some_iff.mp h
  refine s F H σ ρ R _ n ⟨x0, ex, fun w A r => ?_⟩
  unfold oIsI at e
  split at e
  · rename_i o cn fl ds
    obtain ⟨b, h1, h2⟩ := Option.map_eq_some_iff.mp e
    subst h2
    obtain ⟨ad, C, dx, vs, B, rfl, hcn, hl, hk, ho⟩ := r
    obtain ⟨m1, m2, m3, m4, m5, m6, m7⟩ := T.at (lk_mem h1)
    rw [rf_of hcn] at m2 m3 m6 m7
    have hH : H ad = some (.ins C dx (fl.zip vs)) := by
      split at ho
      · exact ho.1
      · rcases n.fixed _ _ ho.1 with z | ⟨z, _⟩
        · exact z
        · exact z.elim
    exact ⟨.ref ad, v, .ref C, u, b, rfl, kc, .base (.ins hH m2 m3 m4 m5 m6), m7, k _ [] ⟨rfl, rfl⟩⟩
  · cases e
end
/-! ### in -/
def intsD : List Dv → Option (List Int)
  | [] => some []
  | .int i :: ds => (intsD ds).map fun is => i :: is
  | _ :: _ => none
theorem intsD_reps {K : PySem.W.Frag} {mg : Str → Option Value} {F H : Hp} : ∀ {ds : List Dv} {is : List Int} {vs : List V} {A : List Addr}, intsD ds = some is → Reps K mg F H ds vs A → vs = is.map V.int
  | [], is, vs, A, e, h => by
    obtain ⟨rfl, _⟩ := h
    cases e
    rfl
  | .int i :: ds, is, vs, A, e, h => by
    obtain ⟨v, vr, A1, A2, rfl, rfl, h1, h2⟩ := h
    obtain ⟨js, e1, e2⟩ := Option.map_eq_some_iff.mp (show (intsD ds).map (fun is => i :: is) = some is from e)
    subst e2
    rw [intsD_reps e1 h2, h1.1]
    rfl
  | .non :: _, _, _, _, e, _ => by cases e
  | .bl _ :: _, _, _, _, e, _ => by cases e
  | .str _ :: _, _, _, _, e, _ => by cases e
  | .tup _ _ :: _, _, _, _, e, _ => by cases e
  | .lst _ _ :: _, _, _, _, e, _ => by cases e
  | .dct _ _ _ _ :: _, _, _, _, e, _ => by cases e
  | .ins _ _ _ _ :: _, _, _, _, e, _ => by cases e
  | .scr _ :: _, _, _, _, e, _ => by cases e
  | .exc _ :: _, _, _, _, e, _ => by cases e
theorem flat_ints (is : List Int) : (is.map V.int).all flatV = true := by
  induction is with
  | nil => rfl
  | cons i is ih => rw [List.map_cons, List.all_cons, ih]; rfl
theorem in_ints (i : Int) (is : List Int) : inV (.int i) (is.map .int) = is.any (· == i) := by
  unfold inV
  rw [List.any_map]
  rfl
def oInT (neg : Bool) : Dv → Dv → Option Dv
  | .int i, .tup _ ds => (intsD ds).map fun is => .bl (if neg then !(is.any (· == i)) else is.any (· == i))
  | .int i, .lst _ ds => (intsD ds).map fun is => .bl (if neg then !(is.any (· == i)) else is.any (· == i))
  | .str x, .str z => match x.cps.toList with
    | [c] => some (.bl (if neg then !decide (c ∈ z.cps.toList) else decide (c ∈ z.cps.toList)))
    | _ => none
  | _, _ => none
def rInA (K : PySem.W.Frag) (neg : Bool) : R2 := fun x y H Q => rIn K neg x y H Q ∨ ∃ (c : Nat) (z : Str), x = .str ⟨#[c]⟩ ∧ y = .str z ∧ Q (.bl (if neg then !decide (c ∈ z.cps.toList) else decide (c ∈ z.cps.toList))) H
theorem op_inA {X : Cx} : OpR X (compareOp .In) (rInA X.K false) := fun pins s σ H x y v u Q I rx ry h => by
  rcases h with h | ⟨c, z, h1, h2, q⟩
  · exact op_in_seq pins s σ H x y v u Q I rx ry h
  · exact op_in_sign pins s σ H x y v u Q I rx ry ⟨c, z, h1, h2, q⟩
theorem op_notInA {X : Cx} : OpR X (compareOp .NotIn) (rInA X.K true) := fun pins s σ H x y v u Q I rx ry h => by
  rcases h with h | ⟨c, z, h1, h2, q⟩
  · exact op_notIn_seq pins s σ H x y v u Q I rx ry h
  · exact op_notIn_sign pins s σ H x y v u Q I rx ry ⟨c, z, h1, h2, q⟩
theorem inA_snd {K : PySem.W.Frag} {mg : Str → Option Value} {neg : Bool} {F H : Hp} {v1 v2 : V} {A1 A2 : List Addr} {d1 d2 d : Dv} {Q : VK} (f : Fix F H) (x : Rep K mg F H d1 v1 A1) (y : Rep K mg F H d2 v2 A2) (e : oInT neg d1 d2 = some d) (k : ∀ v A, Rep K mg F H d v A → Q v H) : rInA K neg v1 v2 H Q := by
  unfold oInT at e
  split at e
  · rename_i i g ds
    obtain ⟨is, h1, h2⟩ := Option.map_eq_some_iff.mp e
    subst h2
    obtain ⟨a, vs, rfl, q1, q2⟩ := rep_sqT f y
    have := intsD_reps h1 q2
    subst this
    rw [x.1]
    exact .inl ⟨a, _, rfl, .inr q1, rfl, flat_ints is, by rw [in_ints]; exact k _ [] ⟨rfl, rfl⟩⟩
  · rename_i i g ds
    obtain ⟨is, h1, h2⟩ := Option.map_eq_some_iff.mp e
    subst h2
    obtain ⟨a, vs, B, rfl, q1, q2⟩ := rep_sqL f y
    have := intsD_reps h1 q2
    subst this
    rw [x.1]
    exact .inl ⟨a, _, rfl, .inl q1, rfl, flat_ints is, by rw [in_ints]; exact k _ [] ⟨rfl, rfl⟩⟩
  · rename_i s z
    split at e
    · rename_i c hc
      cases e
      rw [x.1, y.1]
      have hs : s = ⟨#[c]⟩ := by
        obtain ⟨⟨l⟩⟩ := s
        simp only at hc
        rw [hc]
      exact .inr ⟨c, z, by rw [hs], rfl, k _ [] ⟨rfl, rfl⟩⟩
    · cases e
  · cases e
theorem os_in {X : Cx} : OpP X (compareOp .In) (oInT false) := ⟨_, op_inA, fun F H v1 v2 A1 A2 d1 d2 d Q f x y e k => inA_snd f x y e k⟩
theorem os_notIn {X : Cx} : OpP X (compareOp .NotIn) (oInT true) := ⟨_, op_notInA, fun F H v1 v2 A1 A2 d1 d2 d Q f x y e k => inA_snd f x y e k⟩
/-! ### xs.clear(), xs.append(e), xs a variable that owns its list -/
theorem lst_cell {K : PySem.W.Frag} {mg : Str → Option Value} {F H : Hp} {v : V} {ds : List Dv} {rs : List Root} (h : Rel K mg F H (.val v (.lst true ds) :: rs)) (z : fzns ds = true) :
    ∃ a vs, v = .ref a ∧ H a = some (.lst vs) ∧ Reps K mg F H ds vs [] ∧ Rel K mg F H (.cell a (.lst vs) :: rs) := by
  obtain ⟨fx, A, hr, hn, hF⟩ := h
  obtain ⟨A1, A2, rfl, h1, h2⟩ := hr
  obtain ⟨a, vs, B, rfl, hk, ho⟩ := h1
  rw [if_pos rfl] at ho
  obtain ⟨ho, rfl⟩ := ho
  have hB : B = [] := Reps.nil ds z hk
  subst hB
  exact ⟨a, vs, rfl, ho, hk, fx, [a] ++ A2, ⟨[a], A2, rfl, ⟨ho, rfl⟩, h2⟩, hn, hF⟩
theorem cell_lst {K : PySem.W.Frag} {mg : Str → Option Value} {F H : Hp} {a : Addr} {ds : List Dv} {vs : List V} {rs : List Root} (h : Rel K mg F H (.cell a (.lst vs) :: rs)) (hk : Reps K mg F H ds vs []) : Rel K mg F H (.val (.ref a) (.lst true ds) :: rs) := by
  obtain ⟨fx, A, hr, hn, hF⟩ := h
  obtain ⟨A1, A2, rfl, ⟨h1, rfl⟩, h2⟩ := hr
  exact ⟨fx, [a] ++ A2, ⟨[a], A2, rfl, ⟨a, vs, [], rfl, hk, by rw [if_pos rfl]; exact ⟨h1, rfl⟩⟩, h2⟩, hn, hF⟩
def gClr (i : Nat) : SS := fun ρ => match ρ[i]? with
  | some (some (.lst true ds)) => if fzns ds = true then .nx (ρ.set i (some (.lst true []))) else .stk
  | _ => .stk
section
variable {X : Cx} {W : WX} {fx : List Nat} {i : Nat} {x : Str} {px apos cpos pos : Pos} {e : Expr} {fe : SE}
theorem js_clear (hi : X.N[i]? = some x := by rfl) (hvis : Vis X.env.scope x := by first | exact Or.inl rfl | exact Or.inr (Or.inl rfl) | exact Or.inr (Or.inr rfl)) (hfx : i ∉ fx := by decide)
    (hd : (x == ("__debug__" : Str)) = false := by decide) (hcd : (x == ("__classdict__" : Str)) = false := by decide) (hbase : attributeBase (.Name x px) "clear" X.env (eval (.Name x px) X.env) = eval (.Name x px) X.env := by rfl) (hline : (apos.endLine == cpos.line) = true := by rfl)
    (hs : swapsWith (.Call (.Attribute (.Name x px) "clear" apos) [] [] cpos) none pos.line X.env = pure false := by rfl) : JS X W fx (.Expr (.Call (.Attribute (.Name x px) "clear" apos) [] [] cpos) pos) (gClr i) := by
  refine ⟨_, ps_expr (pe_bm0 PySem.F.plainAttrs_list PySem.F.slot_list_clear PySem.F.type_list_clear mt_clear (pe_var hi hvis hd hcd) hbase hline) hs, fun F H σ ρ R D n h => ?_⟩
  unfold gClr at h
  split at h
  · rename_i ds e
    split at h
    · rename_i z
      obtain ⟨v, hv, n1⟩ := n.get e
      obtain ⟨rest, r1⟩ := Now.rel (L := [.val v (.lst true ds)]) n1
      obtain ⟨a, vs, rfl, hH, hk, _⟩ := lst_cell r1 z
      have hiσ : i < ρ.length := (List.getElem?_eq_some_iff.mp e).1
      refine ⟨_, hv, .inl ⟨rfl, vs, .inl (.inl hH)⟩, a, vs, rfl, rfl, hH, ?_⟩
      have n2 := n1.map (L := [.val (.ref a) (.lst true ds)]) (L' := [.val (.ref a) (.lst true [])]) (F' := F) (H' := upd H a (.lst [])) fun rest r => by
        obtain ⟨a1, vs1, q1, q2, q3, q4⟩ := lst_cell r z
        cases q1
        exact cell_lst (Rel.write q4) ⟨rfl, rfl⟩
      have n3 := n2.back hv (by rw [List.getElem?_set_self hiσ])
      rw [List.set_set] at n3
      exact h F _ σ (Keep.refl σ) n3
    · exact h.elim
  · exact h.elim
end
end Pyd
set_option maxRecDepth 100000
/-! Own work: sorted(..) of a list of tuples that begin with m ints, no two alike in these. -/
namespace Pyd
open PySem PySem.Spec PyProof.Rows L2
def lexI : List Int → List Int → Bool
  | [], [] => false
  | [], _ :: _ => true
  | _ :: _, [] => false
  | a :: as, b :: bs => if a = b then lexI as bs else decide (a < b)
theorem lexI_cons {a b : Int} {as bs : List Int} : lexI (a :: as) (b :: bs) = true ↔ a < b ∨ (a = b ∧ lexI as bs = true) := by
  rw [lexI]
  by_cases h : a = b
  · rw [if_pos h]
    constructor
    · exact fun q => .inr ⟨h, q⟩
    · rintro (q | ⟨_, q⟩)
      · omega
      · exact q
  · rw [if_neg h, decide_eq_true_eq]
    constructor
    · exact fun q => .inl q
    · rintro (q | ⟨q, _⟩)
      · exact q
      · exact absurd q h
theorem lexI_irr : ∀ (a : List Int), lexI a a = false
  | [] => rfl
  | a :: as => by rw [lexI, if_pos rfl]; exact lexI_irr as
theorem lexI_total : ∀ {a b : List Int}, a ≠ b → lexI a b = true ∨ lexI b a = true
  | [], [], h => absurd rfl h
  | [], _ :: _, _ => .inl rfl
  | _ :: _, [], _ => .inr rfl
  | a :: as, b :: bs, h => by
    by_cases e : a = b
    · subst e
      rcases lexI_total (a := as) (b := bs) (fun z => h (by rw [z])) with q | q
      · exact .inl (lexI_cons.mpr (.inr ⟨rfl, q⟩))
      · exact .inr (lexI_cons.mpr (.inr ⟨rfl, q⟩))
    · rcases Int.lt_or_gt_of_ne e with q | q
      · exact .inl (lexI_cons.mpr (.inl q))
      · exact .inr (lexI_cons.mpr (.inl q))
theorem lexI_trans : ∀ {a b c : List Int}, lexI a b = true → lexI b c = true → lexI a c = true
  | [], b, [], h, k => by cases b <;> simp [lexI] at h k
  | [], _, _ :: _, _, _ => rfl
  | _ :: _, [], _, h, _ => by simp [lexI] at h
  | _ :: _, _ :: _, [], _, k => by simp [lexI] at k
  | a :: as, b :: bs, c :: cs, h, k => by
    rw [lexI_cons] at h k ⊢
    rcases h with h | ⟨h, h'⟩ <;> rcases k with k | ⟨k, k'⟩
    · exact .inl (by omega)
    · exact .inl (by omega)
    · exact .inl (by omega)
    · exact .inr ⟨by omega, lexI_trans h' k'⟩
theorem lexI_asym {a b : List Int} (h : lexI a b = true) : lexI b a = false := by
  cases q : lexI b a with
  | false => rfl
  | true =>
    have := lexI_trans h q
    rw [lexI_irr] at this
    cases this
theorem lexI_neg {a b c : List Int} (h : lexI b a = false) (k : lexI c b = false) : lexI c a = false := by
  cases q : lexI c a with
  | false => rfl
  | true =>
    by_cases e : a = b
    · subst e
      rw [q] at k
      cases k
    · rcases lexI_total e with z | z
      · rw [lexI_trans q z] at k
        cases k
      · rw [z] at h
        cases h
theorem swoI {α : Type} (k : α → List Int) : SrtO.Swo fun v u => lexI (k v) (k u) := ⟨fun x y h => lexI_asym h, fun x y z h1 h2 => lexI_neg h1 h2⟩
/-! ### the order is the only one -/
theorem perm_only {α : Type} {lt : α → α → Bool} : ∀ {l m : List α}, l.Perm m → l.Pairwise (fun x y => lt y x = false) → m.Pairwise (fun x y => lt y x = false) → (∀ x ∈ l, ∀ y ∈ l, x ≠ y → lt x y = true ∨ lt y x = true) → l = m
  | [], m, p, _, _, _ => (p.nil_eq).symm ▸ rfl
  | x :: l, [], p, _, _, _ => by simpa using p.length_eq
  | x :: l, y :: m, p, h1, h2, t => by
    by_cases e : x = y
    · subst e
      rw [perm_only (p.cons_inv) (List.pairwise_cons.mp h1).2 (List.pairwise_cons.mp h2).2 fun a ha b hb => t a (.tail _ ha) b (.tail _ hb)]
    · have mx : x ∈ m := by
        rcases List.mem_cons.mp (p.mem_iff.mp (.head _)) with z | z
        · exact absurd z e
        · exact z
      have my : y ∈ l := by
        rcases List.mem_cons.mp (p.mem_iff.mpr (.head _)) with z | z
        · exact absurd z.symm e
        · exact z
      have a := (List.pairwise_cons.mp h1).1 y my
      have b := (List.pairwise_cons.mp h2).1 x mx
      rcases t x (.head _) y (.tail _ my) e with z | z
      · rw [z] at b
        cases b
      · rw [z] at a
        cases a
/-! ### sorting by keys -/
section
variable {α β : Type}
def insK (p : List Int × α) : List (List Int × α) → List (List Int × α)
  | [] => [p]
  | q :: r => if lexI q.1 p.1 = true then q :: insK p r else p :: q :: r
def sortK : List (List Int × α) → List (List Int × α)
  | [] => []
  | p :: r => insK p (sortK r)
theorem insK_perm (p : List Int × α) : ∀ l, (insK p l).Perm (p :: l)
  | [] => .refl _
  | q :: r => by
    unfold insK
    split
    · exact ((insK_perm p r).cons q).trans (.swap _ _ _)
    · exact .refl _
theorem sortK_perm : ∀ (l : List (List Int × α)), (sortK l).Perm l
  | [] => .refl _
  | p :: r => (insK_perm p _).trans ((sortK_perm r).cons p)
theorem insK_srt (p : List Int × α) : ∀ {l : List (List Int × α)}, l.Pairwise (fun x y => lexI y.1 x.1 = false) → (insK p l).Pairwise (fun x y => lexI y.1 x.1 = false)
  | [], _ => List.pairwise_singleton _ _
  | q :: r, h => by
    obtain ⟨h1, h2⟩ := List.pairwise_cons.mp h
    unfold insK
    split
    · rename_i e
      refine List.pairwise_cons.mpr ⟨fun y hy => ?_, insK_srt p h2⟩
      rcases List.mem_cons.mp ((insK_perm p r).mem_iff.mp hy) with z | z
      · rw [z]
        exact lexI_asym e
      · exact h1 y z
    · rename_i e
      rw [Bool.not_eq_true] at e
      refine List.pairwise_cons.mpr ⟨fun y hy => ?_, h⟩
      rcases List.mem_cons.mp hy with z | z
      · rw [z]
        exact e
      · exact lexI_neg e (h1 y z)
theorem sortK_srt : ∀ (l : List (List Int × α)), (sortK l).Pairwise (fun x y => lexI y.1 x.1 = false)
  | [] => .nil
  | p :: r => insK_srt p (sortK_srt r)
theorem insK_map (f : α → β) (p : List Int × α) : ∀ l : List (List Int × α), insK (p.1, f p.2) (l.map fun q => (q.1, f q.2)) = (insK p l).map fun q => (q.1, f q.2)
  | [] => rfl
  | q :: r => by
    rw [List.map_cons]
    unfold insK
    split
    · rw [List.map_cons, insK_map f p r]
    · rfl
theorem sortK_map (f : α → β) : ∀ l : List (List Int × α), sortK (l.map fun q => (q.1, f q.2)) = (sortK l).map fun q => (q.1, f q.2)
  | [] => rfl
  | p :: r => by
    rw [List.map_cons, sortK, sortK_map f r, insK_map]
    rfl
theorem zip_map2 (f : α → β) : ∀ (ks : List (List Int)) (xs : List α), ks.zip (xs.map f) = (ks.zip xs).map fun q => (q.1, f q.2)
  | [], _ => rfl
  | _ :: _, [] => rfl
  | k :: ks, x :: xs => by
    rw [List.map_cons, List.zip_cons_cons, List.zip_cons_cons, List.map_cons, zip_map2 f ks xs]
end
/-! ### in the model -/
def intsV (k : List (Int × Tok)) : List Value := k.map fun p => .int p.1 p.2
/-- the tuple at u begins with the ints ks, then r -/
def ItAt (h : Heap) (u : Value) (ks : List Int) (r : List Value) : Prop := ∃ (t : Addr) (o : Obj) (n : Nat) (k : List (Int × Tok)), u = .ref t ∧ h.get? t = some o ∧ o.cls = .type "tuple" ∧ o.data = .seq (intsV k ++ r).toArray n ∧ k.map (·.1) = ks
def valI : Value → Int
  | .int i _ => i
  | _ => 0
def kfH (h : Heap) (m : Nat) : Value → List Int
  | .ref t => (match h.get? t with
    | some o => (match o.data with
      | .seq xs _ => (xs.toList.take m).map valI
      | _ => [])
    | none => [])
  | _ => []
theorem kfH_eq {h : Heap} {m : Nat} {u : Value} {ks : List Int} {r : List Value} (i : ItAt h u ks r) (hm : ks.length = m) : kfH h m u = ks := by
  obtain ⟨t, o, n, k, rfl, ho, hc, hd, rfl⟩ := i
  unfold kfH
  simp only [ho, hd]
  rw [List.take_append_of_le_length (by rw [intsV, List.length_map]; rw [List.length_map] at hm; omega), List.take_of_length_le (by rw [intsV, List.length_map]; rw [List.length_map] at hm; omega), intsV, List.map_map]
  rfl
theorem ItAt.keep {h h' : Heap} {u : Value} {ks : List Int} {r : List Value} (i : ItAt h u ks r) (k : ∀ b o, h.get? b = some o → o.cls = .type "tuple" → h'.get? b = some o) : ItAt h' u ks r := by
  obtain ⟨t, o, n, q, a, ho, hc, b⟩ := i
  exact ⟨t, o, n, q, a, k t o ho hc, hc, b⟩
section
variable {prog : Program} {w : World} {A : Around} {s : Shared} {E : Value → Shared → Prop}
theorem kat_ints {fin : Bool} : ∀ (k k' : List (Int × Tok)) (r r' : List Value) (i : Nat), k.length = k'.length → (k.map (·.1) = k'.map (·.1) → r = r' ∧ fin = false) →
    PySem.W.KatLex prog w A true fin (fun b s' => s' = s ∧ b = lexI (k.map (·.1)) (k'.map (·.1))) ((intsV k ++ r).zip (intsV k' ++ r')) i s
  | [], [], r, r', i, _, h => by
    obtain ⟨rfl, rfl⟩ := h rfl
    have same : ∀ (r : List Value) (i : Nat), PySem.W.KatLex prog w A true false (fun b s' => s' = s ∧ b = lexI [] []) (r.zip r) i s := by
      intro r
      induction r with
      | nil => exact fun i => PySem.W.kat_nil ⟨rfl, rfl⟩
      | cons x r ih => exact fun i => PySem.W.kat_cons (SeqAt.EqAt.same x prog w _ _ (PySem.W.kat_yes (ih (i + 1))))
    exact same r i
  | (x, t) :: k, (x', t') :: k', r, r', i, hl, h => by
    show PySem.W.KatLex prog w A true fin _ ((.int x t, .int x' t') :: (intsV k ++ r).zip (intsV k' ++ r')) i s
    refine PySem.W.kat_cons (SeqAt.EqAt.int_int x t x' t' prog w _ _ ?_)
    refine PySem.W.kat_go (fun e1 => ?_) (fun e1 => ?_)
    · have ex : x = x' := by simpa using e1
      have e3 : lexI (((x, t) :: k).map (·.1)) (((x', t') :: k').map (·.1)) = lexI (k.map (·.1)) (k'.map (·.1)) := by
        rw [List.map_cons, List.map_cons, lexI, if_pos ex]
      rw [e3]
      exact PySem.W.kat_yes (kat_ints k k' r r' (i + 1) (by simpa using hl) fun z => h (by rw [List.map_cons, List.map_cons, z, ex]))
    · have ex : ¬ x = x' := by simpa using e1
      have e3 : lexI (((x, t) :: k).map (·.1)) (((x', t') :: k').map (·.1)) = decide (x < x') := by
        rw [List.map_cons, List.map_cons, lexI, if_neg ex]
      rw [e3]
      refine PySem.W.kat_no ?_
      cases hi : (true && i == 0) with
      | true => exact oneLt_int ⟨rfl, rfl⟩
      | false =>
        refine PySem.W.kat_one _ _ (PyProof.Rows.lt_int ?_)
        exact (show s = s ∧ decide (x < x') = decide (x < x') from ⟨rfl, rfl⟩)
  | [], _ :: _, _, _, _, hl, _ => by simp at hl
  | _ :: _, [], _, _, _, hl, _ => by simp at hl
theorem firsts_int {h : Heap} {m : Nat} (hm : 1 ≤ m) : ∀ {vs : List Value}, (∀ v ∈ vs, ∃ ks r, ItAt h v ks r ∧ ks.length = m) → ∃ fs : List Value, PySem.W.KatTups h vs fs ∧ fs.length = vs.length ∧ ∀ f ∈ fs, ∃ x t, f = .int x t
  | [], _ => ⟨[], .nil, rfl, fun _ z => nomatch z⟩
  | v :: vs, hp => by
    obtain ⟨fs, h1, h2, h3⟩ := firsts_int hm fun u hu => hp u (.tail _ hu)
    obtain ⟨ks, r, ⟨t, o, n, k, rfl, ho, hc, hd, hk⟩, hl⟩ := hp v (.head _)
    match k, hk, hd with
    | [], hk, hd =>
      rw [← hk] at hl
      simp at hl
      omega
    | (x, tk) :: k, hk, hd =>
      refine ⟨.int x tk :: fs, .cons ho hc hd ?_ h1, by rw [List.length_cons, List.length_cons, h2], fun f hf => ?_⟩
      · simp [intsV]
      · rcases List.mem_cons.mp hf with z | z
        · exact ⟨x, tk, z⟩
        · exact h3 f z
theorem ints_sortable {a : Addr} {vs : List Value} {h0 : Heap} {m : Nat} (hm : 1 ≤ m) (hl : 0 < vs.length) (hp : ∀ v ∈ vs, ∃ ks r, ItAt s.heap v ks r ∧ ks.length = m ∧ kfH h0 m v = ks) (hd : ∀ v ∈ vs, ∀ u ∈ vs, kfH h0 m v = kfH h0 m u → v = u)
    (ha : ∀ o, s.heap.get? a = some o → o.cls ≠ .type "tuple") : SrtO.SortableO prog w A s a vs fun v u => lexI (kfH h0 m v) (kfH h0 m u) := by
  intro h' keep
  have kp : ∀ b o, s.heap.get? b = some o → o.cls = .type "tuple" → h'.get? b = some o := fun b o e c => keep b o (fun z => by subst z; exact ha o e c) e
  have hp' : ∀ v ∈ vs, ∃ ks r, ItAt h' v ks r ∧ ks.length = m := fun v hv => by
    obtain ⟨ks, r, h1, h2, _⟩ := hp v hv
    exact ⟨ks, r, h1.keep kp, h2⟩
  obtain ⟨fs, h1, h2, h3⟩ := firsts_int hm hp'
  refine ⟨tuples' true, fun Q E hq => ?_, fun p q hp1 hq1 => ?_⟩
  · refine PySem.W.kat_kind (T := .type "int") h1 (by omega) (fun f hf => ?_) (by rfl) ?_
    · obtain ⟨x, t, rfl⟩ := h3 f hf
      exact PySem.W.Looks.now
    · have e : (Value.type "int" != Value.type "tuple") = true := by first | decide +kernel | rfl | decide
      rw [e]
      exact hq
  · obtain ⟨ks, r, i1, l1, e1⟩ := hp p.1 hp1
    obtain ⟨ks', r', i2, l2, e2⟩ := hp q.1 hq1
    show wpAny (model prog w) A (keyLt' (tuples' true) p.1 q.1) (fun b s' => s' = { s with heap := h' } ∧ b = lexI (kfH h0 m p.1) (kfH h0 m q.1)) (fun _ _ => False) { s with heap := h' }
    rw [e1, e2]
    have same : ks = ks' → p.1 = q.1 := fun z => hd _ hp1 _ hq1 (by rw [e1, e2, z])
    have j1 := i1.keep kp
    have j2 := i2.keep kp
    obtain ⟨t, o, n, k, ep, ho, hc, hdt, rfl⟩ := j1
    obtain ⟨t', o', n', k', eq, ho', hc', hdt', rfl⟩ := j2
    rw [ep, eq] at same ⊢
    refine PySem.W.kat_lt ho hdt ho' hdt' ?_
    rw [List.toList_toArray, List.toList_toArray]
    refine kat_ints k k' r r' 0 (by rw [List.length_map] at l1 l2; omega) fun z => ?_
    cases same z
    rw [ho] at ho'
    cases ho'
    rw [hdt] at hdt'
    have hx : intsV k ++ r = intsV k' ++ r' := by injection hdt' with h1 _; injection h1
    have hk : (intsV k).length = (intsV k').length := by rw [intsV, intsV, List.length_map, List.length_map]; rw [List.length_map] at l1 l2; omega
    refine ⟨(List.append_inj hx hk).2, ?_⟩
    rw [hx]
    exact decide_eq_false (Nat.lt_irrefl _)
end
/-! ### as a rule -/
def rSortK (K : PySem.W.Frag) (m : Nat) : List V → Hp → VK → Prop := fun vs H Q => ∃ (a : Addr) (xs : List V) (ks : List (List Int)), vs = [.ref a] ∧ SqL K H a xs ∧ ks.length = xs.length ∧ ks.Nodup ∧ 1 ≤ m ∧
  (∀ (j : Nat) (x : V) (k : List Int), xs[j]? = some x → ks[j]? = some k → k.length = m ∧ ∃ t ys, x = .ref t ∧ SqT K H t ys ∧ ys.take m = k.map V.int) ∧ ∀ p, H p = none → Q (.ref p) (upd H p (.lst ((sortK (ks.zip xs)).map (·.2))))
theorem vals_ints : ∀ {k : List Int} {us : List Value}, Vals (k.map V.int) us → ∃ q : List (Int × Tok), us = intsV q ∧ q.map (·.1) = k
  | [], _, r => by
    cases r
    exact ⟨[], rfl, rfl⟩
  | i :: k, _, r => by
    cases r with
    | cons h t =>
      obtain ⟨tk, rfl⟩ := h
      obtain ⟨q, rfl, rfl⟩ := vals_ints t
      exact ⟨(i, tk) :: q, rfl, rfl⟩
theorem vals_take : ∀ {vs : List V} {us : List Value} (m : Nat), Vals vs us → Vals (vs.take m) (us.take m)
  | _, _, 0, _ => .nil
  | [], _, m + 1, r => by
    cases r
    exact .nil
  | v :: vs, _, m + 1, r => by
    cases r with
    | cons h t => exact .cons h (vals_take m t)
theorem zip_snd {α β : Type} : ∀ {ks : List β} {xs : List α}, ks.length = xs.length → (ks.zip xs).map (·.2) = xs
  | [], [], _ => rfl
  | _ :: _, _ :: _, h => by rw [List.zip_cons_cons, List.map_cons, zip_snd (by simpa using h)]
  | [], _ :: _, h => by simp at h
  | _ :: _, [], h => by simp at h
theorem zip_at {α β : Type} : ∀ {ks : List β} {xs : List α} {p : β × α}, p ∈ ks.zip xs → ∃ j : Nat, ks[j]? = some p.1 ∧ xs[j]? = some p.2
  | k :: ks, x :: xs, p, h => by
    rw [List.zip_cons_cons] at h
    rcases List.mem_cons.mp h with e | h
    · exact ⟨0, by rw [e]; rfl, by rw [e]; rfl⟩
    · obtain ⟨j, h1, h2⟩ := zip_at h
      exact ⟨j + 1, h1, h2⟩
theorem sort_only {ks : List (List Int)} {its out : List Value} {kf : Value → List Int} (hl : ks.length = its.length) (hn : ks.Nodup) (hk : ∀ (j : Nat) (u : Value) (k : List Int), its[j]? = some u → ks[j]? = some k → kf u = k) (h1 : out.Pairwise fun x y => lexI (kf y) (kf x) = false) (h2 : out.Perm its) :
    out = (sortK (ks.zip its)).map (·.2) := by
  have pm : ((sortK (ks.zip its)).map (·.2)).Perm its := by
    have := (sortK_perm (ks.zip its)).map (·.2)
    rw [zip_snd hl] at this
    exact this
  have keyed : ∀ p ∈ sortK (ks.zip its), kf p.2 = p.1 := fun p hp => by
    obtain ⟨j, e1, e2⟩ := zip_at ((sortK_perm _).mem_iff.mp hp)
    exact hk j _ _ e2 e1
  refine perm_only (lt := fun x y => lexI (kf x) (kf y)) (h2.trans pm.symm) h1 ?_ fun x hx y hy ne => ?_
  · refine List.pairwise_map.mpr ((sortK_srt (ks.zip its)).imp_of_mem fun {p q} hp hq z => ?_)
    rw [keyed p hp, keyed q hq]
    exact z
  · obtain ⟨i, hi⟩ := List.getElem?_of_mem (h2.mem_iff.mp hx)
    obtain ⟨j, hj⟩ := List.getElem?_of_mem (h2.mem_iff.mp hy)
    have li := (List.getElem?_eq_some_iff.mp hi).1
    have lj := (List.getElem?_eq_some_iff.mp hj).1
    have e1 := hk i x _ hi (List.getElem?_eq_getElem (by omega))
    have e2 := hk j y _ hj (List.getElem?_eq_getElem (by omega))
    refine lexI_total fun z => ?_
    rw [e1, e2] at z
    have := (List.getElem_inj hn).mp z
    subst this
    rw [hi] at hj
    cases hj
    exact ne rfl
theorem cr_sortK {X : Cx} (m : Nat) : CallR X (.builtin "sorted") (rSortK X.K m) := by
  intro pins s σ H vs us Q I r h
  obtain ⟨a, xs, ks, rfl, hs, hlen, hn, hm, hx, q⟩ := h
  obtain ⟨its, rv, hl, hz⟩ := I.list hs
  obtain ⟨u, rfl, ru⟩ := vals1 r
  obtain rfl : u = Value.ref a := ru
  obtain ⟨e1, e2⟩ := refs_back rv fun x mx => by
    obtain ⟨j, hj⟩ := List.getElem?_of_mem mx
    have lj := (List.getElem?_eq_some_iff.mp hj).1
    obtain ⟨_, t, ys, e, _⟩ := hx j x _ hj (List.getElem?_eq_getElem (by omega))
    exact ⟨t, e⟩
  have hl2 : ks.length = its.length := by rw [hlen, rv.length]
  have key : ∀ (j : Nat) (u : Value) (k : List Int), its[j]? = some u → ks[j]? = some k → ∃ r, ItAt s.heap u k r ∧ k.length = m := fun j u k hu hk => by
    obtain ⟨t, rfl⟩ := e2 u (List.mem_of_getElem? hu)
    have hxj : xs[j]? = some (V.ref t) := by rw [e1, List.getElem?_map, hu]; rfl
    obtain ⟨lk, t', ys, ey, hT, hy⟩ := hx j _ k hxj hk
    cases ey
    obtain ⟨ws, rw1, pt, hz'⟩ := I.tuple hT
    obtain ⟨o, ho, hc, n, hd⟩ := (show s.heap.IsTuple t ws.toArray from pt)
    have t1 := vals_take m rw1
    rw [hy] at t1
    obtain ⟨q, e3, e4⟩ := vals_ints t1
    exact ⟨ws.drop m, ⟨t, o, n, q, rfl, ho, hc, by rw [← e3, List.take_append_drop]; exact hd, e4⟩, lk⟩
  have kfe : ∀ (j : Nat) (u : Value) (k : List Int), its[j]? = some u → ks[j]? = some k → kfH s.heap m u = k := fun j u k hu hk => by
    obtain ⟨r, i, l⟩ := key j u k hu hk
    exact kfH_eq i l
  have all : ∀ v ∈ its, ∃ (j : Nat) (k : List Int), its[j]? = some v ∧ ks[j]? = some k := fun v hv => by
    obtain ⟨j, hj⟩ := List.getElem?_of_mem hv
    have lj := (List.getElem?_eq_some_iff.mp hj).1
    exact ⟨j, _, hj, List.getElem?_eq_getElem (by omega)⟩
  refine SrtO.sorted_ord (ltv := fun v u => lexI (kfH s.heap m v) (kfH s.heap m u)) (swoI _) hl.isList (by rw [← rv.length]; exact hz) (fun h2 h₁ b hb kk => ?_) fun out so st => ?_
  · refine ints_sortable (s := { s with heap := h₁ }) hm (by omega) (fun v hv => ?_) (fun v hv w hw e => ?_) fun o e => ?_
    · obtain ⟨j, k, h3, h4⟩ := all v hv
      obtain ⟨r, i, l⟩ := key j v k h3 h4
      exact ⟨k, r, i.keep fun b o e _ => (kk b o e).2, l, kfe j v k h3 h4⟩
    · obtain ⟨j, k, h3, h4⟩ := all v hv
      obtain ⟨j', k', h3', h4'⟩ := all w hw
      rw [kfe j v k h3 h4, kfe j' w k' h3' h4'] at e
      subst e
      have lj := (List.getElem?_eq_some_iff.mp h4).1
      have lj' := (List.getElem?_eq_some_iff.mp h4').1
      have q1 := (List.getElem?_eq_some_iff.mp h4).2
      have q2 := (List.getElem?_eq_some_iff.mp h4').2
      have := (List.getElem_inj hn).mp (q1.trans q2.symm)
      subst this
      rw [h3] at h3'
      cases h3'
      rfl
    · have e' : some o = some (seqObj "list" its.toArray 0) := e.symm.trans hb
      cases e'
      intro c
      exact absurd (Value.type.inj c) (by decide)
  · have eo := sort_only hl2 hn kfe so st.perm
    have hrefs : ∀ u ∈ out, ∃ a, u = Value.ref a := fun u hu => e2 u (st.perm.mem_iff.mp hu)
    have ev : (sortK (ks.zip xs)).map (·.2) = out.map backV := by
      rw [eo, e1, zip_map2, sortK_map, List.map_map, List.map_map]
      rfl
    have nw := q (s.heap.objs.size + 1) (I.hok.fresh (Nat.le_succ _))
    rw [ev] at nw
    obtain ⟨n, hn'⟩ := sortedAll_at s.heap its out.toArray
    refine ⟨.ref (s.heap.objs.size + 1), upd H (s.heap.objs.size + 1) (.lst (out.map backV)), I.laid (a := s.heap.objs.size + 1) (o := .lst (out.map backV)) (t' := s.toks) (fun b o e => sortedAll_old e) (Nat.le_succ _) ⟨?_, out, n, vals_back hrefs, hn'⟩, rfl, nw⟩
    rw [List.length_map, st.perm.length_eq, ← rv.length]
    exact hz
/-! ### by trees -/
def keyP (m : Nat) : Dv → Option (List Int)
  | .tup _ es => (intsD (es.take m)).bind fun js => if js.length = m then some js else none
  | _ => none
def keysP (m : Nat) : List Dv → Option (List (List Int))
  | [] => some []
  | d :: ds => match keyP m d, keysP m ds with
    | some k, some ks => some (k :: ks)
    | _, _ => none
theorem keysP_len {m : Nat} : ∀ {ds : List Dv} {ks : List (List Int)}, keysP m ds = some ks → ks.length = ds.length
  | [], ks, h => by cases h; rfl
  | d :: ds, ks, h => by
    unfold keysP at h
    split at h
    · rename_i k ks' e1 e2
      cases h
      rw [List.length_cons, List.length_cons, keysP_len e2]
    · cases h
theorem keysP_at {m : Nat} : ∀ {ds : List Dv} {ks : List (List Int)} {j : Nat} {d : Dv} {k : List Int}, keysP m ds = some ks → ds[j]? = some d → ks[j]? = some k → keyP m d = some k
  | [], _, _, _, _, _, h, _ => by simp at h
  | d :: ds, ks, j, d', k', h, h1, h2 => by
    unfold keysP at h
    split at h
    · rename_i k ks' e1 e2
      cases h
      cases j with
      | zero =>
        cases h1
        cases h2
        exact e1
      | succ j => exact keysP_at e2 h1 h2
    · cases h
def oSortK (m : Nat) : Dv → Option Dv
  | .lst _ ds => match keysP m ds with
    | some ks => if ks.Nodup ∧ fzns ds = true ∧ 1 ≤ m then some (.lst true ((sortK (ks.zip ds)).map (·.2))) else none
    | none => none
  | _ => none
def sSorted (m : Nat) (f : SE) : SE := fun ρ => (f ρ).bnd fun d ρ1 => match oSortK m d with
  | some e => .ok e ρ1
  | none => .stk
theorem reps_pts {K : PySem.W.Frag} {mg : Str → Option Value} {F H : Hp} : ∀ {L : List (Dv × V)}, (∀ p ∈ L, Rep K mg F H p.1 p.2 []) → Reps K mg F H (L.map (·.1)) (L.map (·.2)) []
  | [], _ => ⟨rfl, rfl⟩
  | p :: L, h => ⟨p.2, L.map (·.2), [], [], rfl, rfl, h p (.head _), reps_pts fun q hq => h q (.tail _ hq)⟩
theorem pts_reps {K : PySem.W.Frag} {mg : Str → Option Value} {F H : Hp} : ∀ {ds : List Dv} {vs : List V} {A : List Addr}, fzns ds = true → Reps K mg F H ds vs A → ∀ p ∈ ds.zip vs, Rep K mg F H p.1 p.2 []
  | [], _, _, _, _ => fun p hp => by simp at hp
  | d :: ds, vs, A, z, h => by
    obtain ⟨v, vr, A1, A2, rfl, rfl, h1, h2⟩ := h
    have z' : (fzn d && fzns ds) = true := z
    rw [Bool.and_eq_true] at z'
    intro p hp
    rw [List.zip_cons_cons] at hp
    rcases List.mem_cons.mp hp with e | hp
    · subst e
      have := Rep.nil d z'.1 h1
      subst this
      exact h1
    · exact pts_reps z'.2 h2 p hp
theorem fst_zip {α β : Type} : ∀ {ds : List α} {vs : List β}, ds.length = vs.length → (ds.zip vs).map (·.1) = ds
  | [], [], _ => rfl
  | _ :: _, _ :: _, h => by rw [List.zip_cons_cons, List.map_cons, fst_zip (by simpa using h)]
  | [], _ :: _, h => by simp at h
  | _ :: _, [], h => by simp at h
theorem fzns_perm : ∀ {a b : List Dv}, a.Perm b → fzns a = fzns b := fun p => by
  induction p with
  | nil => rfl
  | cons x _ ih => rw [fzns, fzns, ih]
  | swap x y l => rw [fzns, fzns, fzns, fzns, ← Bool.and_assoc, ← Bool.and_assoc, Bool.and_comm (fzn y)]
  | trans _ _ h1 h2 => rw [h1, h2]
section
variable {X : Cx} {W : WX} {a : Expr} {f : SE} {pos p : Pos} {m : Nat}
theorem je_sorted (ha : JE X W a f) (hm : X.mg "sorted" = none) (hv : bootBuiltins "sorted" = some (.builtin "sorted") := by decide +kernel) (hg : Gl X "sorted" := by rfl)
    (he : starEach [a] X.env = (false, eval a X.env) :: starEach [] X.env := by rfl) (hpl : (backTo pos (starEach [] X.env)).any (·.1) = false := by rfl) :
    JE X W (.Call (.Name "sorted" p) [a] [] pos) (sSorted m f) := by
  obtain ⟨t, pa, s⟩ := ha
  refine ⟨_, pe_callB (cr_sortK m) hg hm hv (pa_cons pa pa_nil he) (by decide) (by decide) he hpl, fun F H σ ρ T Q n h => ?_⟩
  refine s F H σ ρ T _ n (h.bnd.imp fun d ρ1 h1 F1 H1 v n1 => ?_)
  split at h1
  · rename_i e ee
    unfold oSortK at ee
    split at ee
    · rename_i o ds
      split at ee
      · rename_i ks hks
        split at ee
        · rename_i hc
          cases ee
          obtain ⟨hnd, hz, hm1⟩ := hc
          obtain ⟨rest, nr⟩ := Now.rel (L := [.val v (.lst o ds)]) n1
          obtain ⟨fx, A, rr⟩ := nr.rep
          obtain ⟨q, vs, B, rfl, q1, q2⟩ := rep_sqL fx rr
          have hlen : ks.length = ds.length := keysP_len hks
          have hvl : vs.length = ds.length := q2.len
          refine ⟨q, vs, ks, rfl, q1, by rw [hlen, hvl], hnd, hm1, fun j x k hx hk => ?_, fun pn hp => ?_⟩
          · have lj := (List.getElem?_eq_some_iff.mp hx).1
            have hdj : ds[j]? = some ds[j] := List.getElem?_eq_getElem (by omega)
            have kp := keysP_at hks hdj hk
            obtain ⟨w, C, w1, w2⟩ := q2.at hdj
            rw [hx] at w1
            cases w1
            revert kp w2
            cases ds[j] with
            | tup g es =>
              intro kp w2
              obtain ⟨js, k1, k2⟩ := Option.bind_eq_some_iff.mp kp
              split at k2
              · rename_i hjl
                cases k2
                obtain ⟨t, ys, rfl, t1, t2⟩ := rep_sqT fx w2
                obtain ⟨B', t3⟩ := t2.take m
                exact ⟨hjl, t, ys, rfl, t1, intsD_reps k1 t3⟩
              · cases k2
            | _ =>
              intro kp w2
              cases kp
          · have hp2 := pts_reps hz q2
            have S : ∀ r ∈ sortK (ks.zip (ds.zip vs)), Rep X.K X.mg F1 H1 r.2.1 r.2.2 [] := fun r hr => by
              obtain ⟨j, _, e2⟩ := zip_at ((sortK_perm _).mem_iff.mp hr)
              exact hp2 _ (List.mem_of_getElem? e2)
            have rp : Reps X.K X.mg F1 H1 ((sortK (ks.zip ds)).map (·.2)) ((sortK (ks.zip vs)).map (·.2)) [] := by
              have e1 : (sortK (ks.zip ds)).map (·.2) = ((sortK (ks.zip (ds.zip vs))).map (·.2)).map (·.1) := by
                have : ks.zip ds = (ks.zip (ds.zip vs)).map fun q => (q.1, q.2.1) := by rw [← zip_map2 (fun x : Dv × V => x.1), fst_zip hvl.symm]
                rw [this, sortK_map (fun x : Dv × V => x.1), List.map_map, List.map_map]
                rfl
              have e2 : (sortK (ks.zip vs)).map (·.2) = ((sortK (ks.zip (ds.zip vs))).map (·.2)).map (·.2) := by
                have : ks.zip vs = (ks.zip (ds.zip vs)).map fun q => (q.1, q.2.2) := by rw [← zip_map2 (fun x : Dv × V => x.2), zip_snd hvl.symm]
                rw [this, sortK_map (fun x : Dv × V => x.2), List.map_map, List.map_map]
                rfl
              rw [e1, e2]
              refine reps_pts fun r hr => ?_
              obtain ⟨z, hz1, hz2⟩ := List.mem_map.mp hr
              rw [← hz2]
              exact S z hz1
            have zz : fzns ((sortK (ks.zip ds)).map (·.2)) = true := by
              have pm := (sortK_perm (ks.zip ds)).map (·.2)
              rw [zip_snd hlen] at pm
              rw [fzns_perm pm]
              exact hz
            exact h1 _ _ _ (n1.drop.map (L := []) (L' := [.val (.ref pn) (.lst true ((sortK (ks.zip ds)).map (·.2)))]) fun rest r => Rel.lstF r rp zz hp)
        · cases ee
      · cases ee
    · cases ee
  · exact h1.elim
end
end Pyd
set_option maxRecDepth 100000
/-! Own work: dicts whose keys are ints, texts, or flat tuples of such. -/
namespace Pyd
open PySem PySem.Spec PyProof.Rows L2
/-! ### keys and values side by side -/
section
variable {κ : Type} [DecidableEq κ] {α β : Type}
def hasQ (kk : List κ) (q : κ) : Bool := kk.any fun k => decide (k = q)
def getA : List κ → List α → κ → Option α
  | k :: kk, x :: xs, q => if k = q then some x else getA kk xs q
  | _, _, _ => none
def putR : List κ → κ → α → List α → List α
  | k :: kk, q, y, x :: xs => (if k = q then y else x) :: putR kk q y xs
  | _, _, _, _ => []
def putA (kk : List κ) (q : κ) (y : α) (xs : List α) : List α := if hasQ kk q = true then putR kk q y xs else xs ++ [y]
def putQ (kk : List κ) (q : κ) : List κ := if hasQ kk q = true then kk else kk ++ [q]
theorem putR_len : ∀ {kk : List κ} {q : κ} {y : α} {xs : List α}, kk.length = xs.length → (putR kk q y xs).length = kk.length
  | [], _, _, _, _ => rfl
  | k :: kk, q, y, x :: xs, h => by
    show (putR kk q y xs).length + 1 = kk.length + 1
    rw [putR_len (by simpa using h)]
  | _ :: _, _, _, [], h => by simp at h
theorem putA_len {kk : List κ} {q : κ} {y : α} {xs : List α} (h : kk.length = xs.length) : (putA kk q y xs).length = (putQ kk q).length := by
  unfold putA putQ
  split
  · exact putR_len h
  · simp [h]
theorem zip_any : ∀ {kk : List κ} {vs : List V} {q : κ}, kk.length = vs.length → ((kk.zip vs).any fun kv => decide (kv.1 = q)) = hasQ kk q
  | [], _, _, _ => rfl
  | k :: kk, v :: vs, q, h => by
    show (decide (k = q) || ((kk.zip vs).any fun kv => decide (kv.1 = q))) = (decide (k = q) || hasQ kk q)
    rw [zip_any (by simpa using h)]
  | _ :: _, [], _, h => by simp at h
theorem zip_map : ∀ {kk : List κ} {vs : List V} {q : κ} {y : V}, kk.length = vs.length → ((kk.zip vs).map fun kv => if kv.1 = q then (kv.1, y) else kv) = kk.zip (putR kk q y vs)
  | [], _, _, _, _ => rfl
  | k :: kk, v :: vs, q, y, h => by
    show (if k = q then (k, y) else (k, v)) :: ((kk.zip vs).map fun kv => if kv.1 = q then (kv.1, y) else kv) = (k, (if k = q then y else v)) :: kk.zip (putR kk q y vs)
    rw [zip_map (by simpa using h)]
    by_cases e : k = q
    · rw [if_pos e, if_pos e]
    · rw [if_neg e, if_neg e]
  | _ :: _, [], _, _, h => by simp at h
theorem putK_zip {kk : List κ} {vs : List V} {q : κ} {y : V} (h : kk.length = vs.length) : putK (kk.zip vs) q y = (putQ kk q).zip (putA kk q y vs) := by
  unfold putK putA putQ
  rw [zip_any h]
  by_cases e : hasQ kk q = true
  · rw [if_pos e, if_pos e, if_pos e, zip_map h]
  · rw [if_neg e, if_neg e, if_neg e, List.zip_append h]
    rfl
theorem getA_val {K : PySem.W.Frag} {mg : Str → Option Value} {F H : Hp} : ∀ {kk : List κ} {ds : List Dv} {vs : List V} {A : List Addr} {q : κ}, kk.length = vs.length → Reps K mg F H ds vs A →
    match getA kk ds q with
    | some d => ∃ v B, valV (kk.zip vs) q = some v ∧ Rep K mg F H d v B
    | none => valV (kk.zip vs) q = none
  | [], ds, vs, A, q, _, _ => by cases ds <;> rfl
  | k :: kk, [], vs, A, q, hl, h => by
    obtain ⟨rfl, _⟩ := h
    simp at hl
  | k :: kk, d :: ds, vs, A, q, hl, h => by
    obtain ⟨v, vr, A1, A2, rfl, rfl, h1, h2⟩ := h
    unfold getA
    have ih := getA_val (q := q) (kk := kk) (by simpa using hl) h2
    have e : valV ((k :: kk).zip (v :: vr)) q = if k = q then some v else valV (kk.zip vr) q := by
      unfold valV
      rw [List.zip_cons_cons, List.find?_cons]
      by_cases z : k = q
      · rw [if_pos z]
        simp [z]
      · rw [if_neg z]
        simp [z]
    rw [e]
    by_cases z : k = q
    · rw [if_pos z, if_pos z]
      exact ⟨v, A1, rfl, h1⟩
    · rw [if_neg z, if_neg z]
      exact ih
theorem putR_reps {K : PySem.W.Frag} {mg : Str → Option Value} {F H : Hp} {q : κ} {y : V} {d : Dv} (hd : Rep K mg F H d y []) : ∀ {kk : List κ} {ds : List Dv} {vs : List V}, kk.length = vs.length → Reps K mg F H ds vs [] → Reps K mg F H (putR kk q d ds) (putR kk q y vs) []
  | [], ds, vs, hl, h => ⟨rfl, rfl⟩
  | k :: kk, [], vs, hl, h => by
    obtain ⟨rfl, _⟩ := h
    simp at hl
  | k :: kk, e :: ds, vs, hl, h => by
    obtain ⟨v, vr, A1, A2, rfl, hA, h1, h2⟩ := h
    obtain ⟨rfl, rfl⟩ := List.append_eq_nil_iff.mp hA.symm
    refine ⟨(if k = q then y else v), _, [], [], rfl, rfl, ?_, putR_reps hd (by simpa using hl) h2⟩
    by_cases z : k = q
    · rw [if_pos z, if_pos z]
      exact hd
    · rw [if_neg z, if_neg z]
      exact h1
theorem putA_reps {K : PySem.W.Frag} {mg : Str → Option Value} {F H : Hp} {q : κ} {y : V} {d : Dv} (hd : Rep K mg F H d y []) {kk : List κ} {ds : List Dv} {vs : List V} (hl : kk.length = vs.length) (h : Reps K mg F H ds vs []) : Reps K mg F H (putA kk q d ds) (putA kk q y vs) [] := by
  unfold putA
  split
  · exact putR_reps hd hl h
  · exact Reps.append (A := []) (B := []) h ⟨y, [], [], [], rfl, rfl, hd, rfl, rfl⟩
end
/-! ### a dict's tree -/
def putKs {κ : Type} [DecidableEq κ] (ks : List Dv) (kk : List κ) (q : κ) (d : Dv) : List Dv := if hasQ kk q = true then ks else ks ++ [d]
theorem keysT_app : ∀ {ks : List Dv} {kk : List (List Key)} {d : Dv} {q : List Key}, keysT ks = some kk → keyT d = some q → keysT (ks ++ [d]) = some (kk ++ [q])
  | [], kk, d, q, h, e => by
    cases h
    show (match keyT d, keysT [] with | some k, some ks => some (k :: ks) | _, _ => none) = _
    rw [e]
    rfl
  | x :: ks, kk, d, q, h, e => by
    unfold keysT at h
    split at h
    · rename_i k0 kk0 e1 e2
      cases h
      show (match keyT x, keysT (ks ++ [d]) with | some k, some ks => some (k :: ks) | _, _ => none) = _
      rw [e1, keysT_app e2 e]
      rfl
    · cases h
theorem keysK_app : ∀ {ks : List Dv} {kk : List Key} {d : Dv} {q : Key}, keysK ks = some kk → keyK d = some q → keysK (ks ++ [d]) = some (kk ++ [q])
  | [], kk, d, q, h, e => by
    cases h
    show (match keyK d, keysK [] with | some k, some ks => some (k :: ks) | _, _ => none) = _
    rw [e]
    rfl
  | x :: ks, kk, d, q, h, e => by
    unfold keysK at h
    split at h
    · rename_i k0 kk0 e1 e2
      cases h
      show (match keyK x, keysK (ks ++ [d]) with | some k, some ks => some (k :: ks) | _, _ => none) = _
      rw [e1, keysK_app e2 e]
      rfl
    · cases h
theorem keyK_rep {K : PySem.W.Frag} {mg : Str → Option Value} {F H : Hp} {d : Dv} {v : V} {A : List Addr} {q : Key} (r : Rep K mg F H d v A) (e : keyK d = some q) : v = kV q := by
  cases d with
  | int i => cases e; exact r.1
  | str s => cases e; exact r.1
  | _ => cases e
theorem keysK_reps {K : PySem.W.Frag} {mg : Str → Option Value} {F H : Hp} : ∀ {ds : List Dv} {vs : List V} {A : List Addr} {kk : List Key}, Reps K mg F H ds vs A → keysK ds = some kk → vs = kk.map kV
  | [], vs, A, kk, r, e => by
    cases e
    exact r.1
  | d :: ds, vs, A, kk, r, e => by
    obtain ⟨v, vr, A1, A2, rfl, _, h1, h2⟩ := r
    unfold keysK at e
    split at e
    · rename_i k ks e1 e2
      cases e
      rw [List.map_cons, keyK_rep h1 e1, keysK_reps h2 e2]
    · cases e
theorem keyT_rep {K : PySem.W.Frag} {mg : Str → Option Value} {F H : Hp} {d : Dv} {v : V} {A : List Addr} {q : List Key} (f : Fix F H) (r : Rep K mg F H d v A) (e : keyT d = some q) : ∃ b, v = .ref b ∧ H b = some (.tup (q.map kV)) := by
  unfold keyT at e
  split at e
  · obtain ⟨a, vs, rfl, t, rs⟩ := r
    have hv := keysK_reps rs e
    subst hv
    rcases f _ _ t with z | ⟨z, _⟩
    · exact ⟨a, rfl, z⟩
    · exact z.elim
  · cases e
/-- what is found at the key, if the dict and the key fit -/
def dGet (x key : Dv) : Option (Option Dv) := match x with
  | .dct _ .t ks ds => (match keysT ks, keyT key with
    | some kk, some q => some (getA kk ds q)
    | _, _ => none)
  | .dct _ .k ks ds => (match keysK ks, keyK key with
    | some kk, some q => some (getA kk ds q)
    | _, _ => none)
  | _ => none
def Hit (K : PySem.W.Frag) (mg : Str → Option Value) (F H : Hp) : Option Dv → Option V → Prop
  | some d, o => ∃ v B, o = some v ∧ Rep K mg F H d v B
  | none, o => o = none
theorem hit_of {κ : Type} [DecidableEq κ] {K : PySem.W.Frag} {mg : Str → Option Value} {F H : Hp} {kk : List κ} {ds : List Dv} {vs : List V} {A : List Addr} {q : κ} (hl : kk.length = vs.length) (h : Reps K mg F H ds vs A) : Hit K mg F H (getA kk ds q) (valV (kk.zip vs) q) := by
  have g := getA_val (q := q) hl h
  cases e : getA kk ds q with
  | some d => rw [e] at g; exact g
  | none => rw [e] at g; exact g
theorem dct_rd {F H : Hp} (f : Fix F H) {o : Bool} {a : Addr} {u : HO} {A B : List Addr} (hu : IsDct u) (h : if o = true then H a = some u ∧ A = a :: B else F a = some u ∧ A = B) : Rd H a u := by
  split at h
  · exact .inl h.1
  · rcases f _ _ h.1 with z | ⟨_, ob, z⟩
    · exact .inl z
    · exact .inr ⟨ob, z⟩
theorem dct_isD {K : PySem.W.Frag} {mg : Str → Option Value} {F H : Hp} {x key : Dv} {v1 : V} {A1 : List Addr} {r : Option Dv} (f : Fix F H) (rx : Rep K mg F H x v1 A1) (e : dGet x key = some r) : ∃ a, v1 = .ref a ∧ IsD H a := by
  cases x with
  | dct o k ks ds =>
    cases k with
    | t =>
      obtain ⟨a, vs, B, u, rfl, rs, ⟨kk', e3, hl, rfl⟩, ho⟩ := rx
      exact ⟨a, rfl, .inr ⟨_, dct_rd f (u := .dT (kk'.zip vs)) True.intro ho⟩⟩
    | k =>
      obtain ⟨a, vs, B, u, rfl, rs, ⟨kk', e3, hl, rfl⟩, ho⟩ := rx
      exact ⟨a, rfl, .inl ⟨_, dct_rd f (u := .dK (kk'.zip vs)) True.intro ho⟩⟩
  | _ => cases e
theorem dGet_ok {K : PySem.W.Frag} {mg : Str → Option Value} {F H : Hp} {x key : Dv} {v1 v2 : V} {A1 A2 : List Addr} {r : Option Dv} (f : Fix F H) (rx : Rep K mg F H x v1 A1) (ry : Rep K mg F H key v2 A2) (e : dGet x key = some r) :
    ∃ a o, v1 = .ref a ∧ DGet H a v2 o ∧ IsD H a ∧ Hit K mg F H r o := by
  cases x with
  | dct o k ks ds =>
    cases k with
    | t =>
      have e0 : (match keysT ks, keyT key with | some kk, some q => some (getA kk ds q) | _, _ => none) = some r := e
      split at e0
      · rename_i kk q e1 e2
        cases e0
        obtain ⟨a, vs, B, u, rfl, rs, ⟨kk', e3, hl, rfl⟩, ho⟩ := rx
        rw [e1] at e3
        cases e3
        have rd := dct_rd f (u := .dT (kk.zip vs)) True.intro ho
        obtain ⟨b, rfl, hb⟩ := keyT_rep f ry e2
        exact ⟨a, valV (kk.zip vs) q, rfl, .inr ⟨kk.zip vs, q, b, rd, rfl, hb, rfl⟩, .inr ⟨_, rd⟩, hit_of hl rs⟩
      · cases e0
    | k =>
      have e0 : (match keysK ks, keyK key with | some kk, some q => some (getA kk ds q) | _, _ => none) = some r := e
      split at e0
      · rename_i kk q e1 e2
        cases e0
        obtain ⟨a, vs, B, u, rfl, rs, ⟨kk', e3, hl, rfl⟩, ho⟩ := rx
        rw [e1] at e3
        cases e3
        have rd := dct_rd f (u := .dK (kk.zip vs)) True.intro ho
        exact ⟨a, valV (kk.zip vs) q, rfl, .inl ⟨kk.zip vs, q, rd, keyK_rep ry e2, rfl⟩, .inl ⟨_, rd⟩, hit_of hl rs⟩
      · cases e0
  | _ => cases e
def oDGet (x key : Dv) : Option Dv := (dGet x key).bind id
def oDIn (neg : Bool) (key x : Dv) : Option Dv := (dGet x key).map fun r => .bl (if neg then !r.isSome else r.isSome)
section
variable {X : Cx} {W : WX} {a b c : Expr} {fa fb fc : SP} {pos apos cpos : Pos}
theorem jp_dget (hu : X.A.units + 64 < cLine) (ha : JP X a fa) (hb : JP X b fb) (hs : NoSl b := by exact fun _ _ => rfl) : JP X (.Subscript a b pos) (pBin oDGet fa fb) := by
  obtain ⟨ta, pa, sa⟩ := ha
  obtain ⟨tb, pb, sb⟩ := hb
  refine ⟨_, pe_dget (by omega) pa pb hs, fun F H σ ρ T Q n h => ?_⟩
  obtain ⟨d, h, k⟩ := h
  obtain ⟨x, y, e1, e2, e3⟩ := o2_some h
  refine sa F H σ ρ T _ n ⟨x, e1, fun v A rx => sb F H σ ρ T _ n ⟨y, e2, fun v2 A2 ry => ?_⟩⟩
  obtain ⟨r, e4, e5⟩ := Option.bind_eq_some_iff.mp e3
  have e6 : r = some d := e5
  subst e6
  obtain ⟨ad, o, rfl, g, _, w, B, rfl, rw_⟩ := dGet_ok n.fixed rx ry e4
  exact ⟨ad, w, rfl, g, k w B rw_⟩
theorem jp_din (hu : X.A.units + 64 < cLine) (ha : JP X a fa) (hb : JP X b fb) (hm : behindInMarks .In b = false := by rfl) : JP X (.Compare a [.In] [b] pos) (pBin (oDIn false) fa fb) := by
  obtain ⟨ta, pa, sa⟩ := ha
  obtain ⟨tb, pb, sb⟩ := hb
  refine ⟨_, pe_cmp (pc_din (by omega) pa pb) hm, fun F H σ ρ T Q n h => ?_⟩
  obtain ⟨d, h, k⟩ := h
  obtain ⟨x, y, e1, e2, e3⟩ := o2_some h
  refine sa F H σ ρ T _ n ⟨x, e1, fun v A rx => sb F H σ ρ T _ n ⟨y, e2, fun v2 A2 ry => ?_⟩⟩
  obtain ⟨r, e4, rfl⟩ := Option.map_eq_some_iff.mp e3
  obtain ⟨ad, o, rfl, g, _, hr⟩ := dGet_ok n.fixed ry rx e4
  refine ⟨ad, o, rfl, g, k _ [] ⟨?_, rfl⟩⟩
  cases r with
  | some d => obtain ⟨w, B, rfl, _⟩ := hr; rfl
  | none => subst hr; rfl
theorem jp_dnotin (hu : X.A.units + 64 < cLine) (ha : JP X a fa) (hb : JP X b fb) (hm : behindInMarks .NotIn b = false := by rfl) : JP X (.Compare a [.NotIn] [b] pos) (pBin (oDIn true) fa fb) := by
  obtain ⟨ta, pa, sa⟩ := ha
  obtain ⟨tb, pb, sb⟩ := hb
  refine ⟨_, pe_cmp (pc_dnotin (by omega) pa pb) hm, fun F H σ ρ T Q n h => ?_⟩
  obtain ⟨d, h, k⟩ := h
  obtain ⟨x, y, e1, e2, e3⟩ := o2_some h
  refine sa F H σ ρ T _ n ⟨x, e1, fun v A rx => sb F H σ ρ T _ n ⟨y, e2, fun v2 A2 ry => ?_⟩⟩
  obtain ⟨r, e4, rfl⟩ := Option.map_eq_some_iff.mp e3
  obtain ⟨ad, o, rfl, g, _, hr⟩ := dGet_ok n.fixed ry rx e4
  refine ⟨ad, o, rfl, g, k _ [] ⟨?_, rfl⟩⟩
  cases r with
  | some d => obtain ⟨w, B, rfl, _⟩ := hr; rfl
  | none => subst hr; rfl
theorem jt_din (hu : X.A.units + 64 < cLine) (ha : JP X a fa) (hb : JP X b fb) (hm : behindInMarks .In b = false := by rfl) : JT X W (.Compare a [.In] [b] pos) (tP (pBin (oDIn false) fa fb)) := by
  obtain ⟨ta, pa, sa⟩ := ha
  obtain ⟨tb, pb, sb⟩ := hb
  have s : SndP X.K X.mg (tDIn ta tb) (pBin (oDIn false) fa fb) := fun F H σ ρ T Q n h => by
    obtain ⟨d, h, k⟩ := h
    obtain ⟨x, y, e1, e2, e3⟩ := o2_some h
    refine sa F H σ ρ T _ n ⟨x, e1, fun v A rx => sb F H σ ρ T _ n ⟨y, e2, fun v2 A2 ry => ?_⟩⟩
    obtain ⟨r, e4, rfl⟩ := Option.map_eq_some_iff.mp e3
    obtain ⟨ad, o, rfl, g, _, hr⟩ := dGet_ok n.fixed ry rx e4
    refine ⟨ad, o, rfl, g, k _ [] ⟨?_, rfl⟩⟩
    cases r with
    | some d => obtain ⟨w, B, rfl, _⟩ := hr; rfl
    | none => subst hr; rfl
  exact ⟨_, pt_cmp (pc_din (by omega) pa pb) hm, snd_tP s⟩
theorem jt_dnotin (hu : X.A.units + 64 < cLine) (ha : JP X a fa) (hb : JP X b fb) (hm : behindInMarks .NotIn b = false := by rfl) : JT X W (.Compare a [.NotIn] [b] pos) (tP (pBin (oDIn true) fa fb)) := by
  obtain ⟨ta, pa, sa⟩ := ha
  obtain ⟨tb, pb, sb⟩ := hb
  have s : SndP X.K X.mg (tDNotIn ta tb) (pBin (oDIn true) fa fb) := fun F H σ ρ T Q n h => by
    obtain ⟨d, h, k⟩ := h
    obtain ⟨x, y, e1, e2, e3⟩ := o2_some h
    refine sa F H σ ρ T _ n ⟨x, e1, fun v A rx => sb F H σ ρ T _ n ⟨y, e2, fun v2 A2 ry => ?_⟩⟩
    obtain ⟨r, e4, rfl⟩ := Option.map_eq_some_iff.mp e3
    obtain ⟨ad, o, rfl, g, _, hr⟩ := dGet_ok n.fixed ry rx e4
    refine ⟨ad, o, rfl, g, k _ [] ⟨?_, rfl⟩⟩
    cases r with
    | some d => obtain ⟨w, B, rfl, _⟩ := hr; rfl
    | none => subst hr; rfl
  exact ⟨_, pt_cmp (pc_dnotin (by omega) pa pb) hm, snd_tP s⟩
/-- d.get(k, x) -/
def pDGet2 (fa fb fc : SP) : SP := fun ρ => match fa ρ, fb ρ, fc ρ with
  | some x, some y, some z => (dGet x y).map fun r => r.getD z
  | _, _, _ => none
theorem jp_dget2 (hu : X.A.units + 64 < cLine) (ha : JP X a fa) (hb : JP X b fb) (hc : JP X c fc) (m : M2 X a "get" apos b c cpos := by exact ⟨rfl, rfl, rfl, rfl⟩) : JP X (.Call (.Attribute a "get" apos) [b, c] [] cpos) (pDGet2 fa fb fc) := by
  obtain ⟨ta, pa, sa⟩ := ha
  obtain ⟨tb, pb, sb⟩ := hb
  obtain ⟨tc, pc, sc⟩ := hc
  refine ⟨_, pe_dget2 (by omega) pa pb pc m, fun F H σ ρ T Q n h => ?_⟩
  obtain ⟨d, h, k⟩ := h
  unfold pDGet2 at h
  split at h
  · rename_i x y z e1 e2 e3
    obtain ⟨r, e4, rfl⟩ := Option.map_eq_some_iff.mp h
    refine sa F H σ ρ T _ n ⟨x, e1, fun v A rx => ?_⟩
    have isd := dct_isD n.fixed rx e4
    obtain ⟨ad, rfl, i⟩ := isd
    refine ⟨ad, rfl, i, sb F H σ ρ T _ n ⟨y, e2, fun v2 A2 ry => sc F H σ ρ T _ n ⟨z, e3, fun v3 A3 rz => ?_⟩⟩⟩
    obtain ⟨ad', o, e5, g, _, hr⟩ := dGet_ok n.fixed rx ry e4
    cases e5
    cases r with
    | some d => obtain ⟨w, B, rfl, rw_⟩ := hr; exact ⟨some w, g, k w B rw_⟩
    | none => subst hr; exact ⟨none, g, k v3 A3 rz⟩
  · cases h
end
/-! ### {} and d[k] = v, d a variable that owns its dict -/
theorem dct_cell {K : PySem.W.Frag} {mg : Str → Option Value} {F H : Hp} {v : V} {k : DK} {ks ds : List Dv} {rs : List Root} (h : Rel K mg F H (.val v (.dct true k ks ds) :: rs)) (z : fzns ds = true) :
    ∃ a vs u, v = .ref a ∧ H a = some u ∧ DctO k ks vs u ∧ Reps K mg F H ds vs [] ∧ Rel K mg F H (.cell a u :: rs) := by
  obtain ⟨fx, A, hr, hn, hF⟩ := h
  obtain ⟨A1, A2, rfl, h1, h2⟩ := hr
  obtain ⟨a, vs, B, u, rfl, hk, hu, ho⟩ := h1
  rw [if_pos rfl] at ho
  obtain ⟨ho, rfl⟩ := ho
  have hB : B = [] := Reps.nil ds z hk
  subst hB
  exact ⟨a, vs, u, rfl, ho, hu, hk, fx, [a] ++ A2, ⟨[a], A2, rfl, ⟨ho, rfl⟩, h2⟩, hn, hF⟩
theorem cell_dct {K : PySem.W.Frag} {mg : Str → Option Value} {F H : Hp} {a : Addr} {u : HO} {k : DK} {ks ds : List Dv} {vs : List V} {rs : List Root} (h : Rel K mg F H (.cell a u :: rs)) (hu : DctO k ks vs u) (hk : Reps K mg F H ds vs []) : Rel K mg F H (.val (.ref a) (.dct true k ks ds) :: rs) := by
  obtain ⟨fx, A, hr, hn, hF⟩ := h
  obtain ⟨A1, A2, rfl, ⟨h1, rfl⟩, h2⟩ := hr
  exact ⟨fx, [a] ++ A2, ⟨[a], A2, rfl, ⟨a, vs, [], u, rfl, hk, hu, by rw [if_pos rfl]; exact ⟨h1, rfl⟩⟩, h2⟩, hn, hF⟩
def sDctT : SE := fun ρ => .ok (.dct true .t [] []) ρ
def sDctK : SE := fun ρ => .ok (.dct true .k [] []) ρ
def dPut (k : DK) (ks ds : List Dv) (key y : Dv) : Option Dv := match k with
  | .t => (match keysT ks, keyT key with
    | some kk, some q => some (.dct true .t (putKs ks kk q key) (putA kk q y ds))
    | _, _ => none)
  | .k => (match keysK ks, keyK key with
    | some kk, some q => some (.dct true .k (putKs ks kk q key) (putA kk q y ds))
    | _, _ => none)
def gDPut (i : Nat) (fk : SP) (fv : SE) : SS := fun ρ => bndS (fv ρ) fun d ρ1 => match ρ1[i]?, fk ρ1 with
  | some (some (.dct true k ks ds)), some key => if fzns ds = true ∧ ds.length < 900000 then (match dPut k ks ds key (fz d) with
    | some x => .nx (ρ1.set i (some x))
    | none => .stk) else .stk
  | _, _ => .stk
theorem keysT_len : ∀ {ks : List Dv} {kk : List (List Key)}, keysT ks = some kk → kk.length = ks.length
  | [], kk, h => by cases h; rfl
  | d :: ds, kk, h => by
    unfold keysT at h
    split at h
    · rename_i k0 kk0 e1 e2
      cases h
      rw [List.length_cons, List.length_cons, keysT_len e2]
    · cases h
/-- the heap's dict behind the store, and its tree -/
theorem dPut_ok {K : PySem.W.Frag} {mg : Str → Option Value} {F H : Hp} {k : DK} {ks ds : List Dv} {key y x : Dv} {vs : List V} {u : HO} {a : Addr} {v2 yv : V} {A2 : List Addr} (f : Fix F H) (hu : DctO k ks vs u) (hH : H a = some u) (hk : Reps K mg F H ds vs []) (hl : ds.length < 900000)
    (ry : Rep K mg F H key v2 A2) (rv : Rep K mg F H y yv []) (e : dPut k ks ds key y = some x) : ∃ u' ks' ds' vs', x = .dct true k ks' ds' ∧ (∀ zs, u' ≠ .tup zs) ∧ DPut H a v2 yv (upd H a u') ∧ DctO k ks' vs' u' ∧ Reps K mg F H ds' vs' [] := by
  have hvl : vs.length = ds.length := hk.len
  have size : ∀ {n : Nat}, n = ds.length → n < sizeLine := fun e => by rw [sizeLine_eq, e]; omega
  unfold dPut at e
  cases k with
  | t =>
    obtain ⟨kk, e3, hl2, rfl⟩ := hu
    simp only [e3] at e
    cases hq : keyT key with
    | none => rw [hq] at e; cases e
    | some q =>
      rw [hq] at e
      cases e
      obtain ⟨b, rfl, hb⟩ := keyT_rep f ry hq
      refine ⟨.dT (putK (kk.zip vs) q yv), _, _, putA kk q yv vs, rfl, (fun zs z => by cases z), .inr ⟨kk.zip vs, q, b, hH, rfl, hb, size (by rw [List.length_zip]; omega), rfl⟩, ⟨putQ kk q, ?_, ?_, by rw [putK_zip hl2]⟩, putA_reps rv hl2 hk⟩
      · unfold putKs putQ
        split
        · exact e3
        · exact keysT_app e3 hq
      · exact (putA_len hl2).symm
  | k =>
    obtain ⟨kk, e3, hl2, rfl⟩ := hu
    simp only [e3] at e
    cases hq : keyK key with
    | none => rw [hq] at e; cases e
    | some q =>
      rw [hq] at e
      cases e
      refine ⟨.dK (putK (kk.zip vs) q yv), _, _, putA kk q yv vs, rfl, (fun zs z => by cases z), .inl ⟨kk.zip vs, q, hH, keyK_rep ry hq, size (by rw [List.length_zip]; omega), rfl⟩, ⟨putQ kk q, ?_, ?_, by rw [putK_zip hl2]⟩, putA_reps rv hl2 hk⟩
      · unfold putKs putQ
        split
        · exact e3
        · exact keysK_app e3 hq
      · exact (putA_len hl2).symm
section
variable {X : Cx} {W : WX} {value key : Expr} {pos pos' px : Pos}
theorem je_dictT : JE X W (.Dict [] [] pos) sDctT := ⟨_, pe_dnewT, fun F H σ ρ T Q n h p hp => h _ _ _ (n.map (L := []) (L' := [.val (.ref p) (.dct true .t [] [])]) fun rest r => cell_dct (r.newO hp) ⟨[], rfl, rfl, rfl⟩ ⟨rfl, rfl⟩)⟩
theorem je_dictK : JE X W (.Dict [] [] pos) sDctK := ⟨_, pe_dnewK, fun F H σ ρ T Q n h p hp => h _ _ _ (n.map (L := []) (L' := [.val (.ref p) (.dct true .k [] [])]) fun rest r => cell_dct (r.newO hp) ⟨[], rfl, rfl, rfl⟩ ⟨rfl, rfl⟩)⟩
theorem js_dput {fx : List Nat} {i : Nat} {x : Str} {fk : SP} {fv : SE} (hu : X.A.units + 64 < cLine) (hv : JE X W value fv) (hk : JP X key fk) (hi : X.N[i]? = some x := by rfl) (hvis : Vis X.env.scope x := by first | exact Or.inl rfl | exact Or.inr (Or.inl rfl) | exact Or.inr (Or.inr rfl))
    (hd : (x == ("__debug__" : Str)) = false := by decide) (hcd : (x == ("__classdict__" : Str)) = false := by decide) (hs : swapsWith value (some (.Subscript (.Name x px) key pos')) pos.line X.env = pure false := by rfl) :
    JS X W fx (.Assign [.Subscript (.Name x px) key pos'] value pos) (gDPut i fk fv) := by
  obtain ⟨t, p, s⟩ := hv
  obtain ⟨tk, pk, sk⟩ := hk
  refine ⟨_, ps_dput (by omega) (pe_var hi hvis hd hcd) pk p hs, fun F H σ ρ R D n h => ?_⟩
  refine s F H σ ρ R _ n ((postS_bnd h).imp fun d ρ1 h1 F1 H1 y n1 => ?_)
  split at h1
  · rename_i k ks ds kd e ek
    split at h1
    · rename_i hz
      obtain ⟨hz, h9⟩ := hz
      split at h1
      · rename_i x' ex
        obtain ⟨F2, n2⟩ := n1.fix
        have hiσ : i < ρ1.length := (List.getElem?_eq_some_iff.mp e).1
        obtain ⟨v, hv', n4⟩ := n2.drop.get e
        obtain ⟨v2, hv2, n5⟩ := n2.get e
        rw [hv'] at hv2
        cases hv2
        obtain ⟨rest, r5⟩ := Now.rel (L := [.val v (.dct true k ks ds), .val y (fz d)]) n5
        have ry : Rep X.K X.mg F2 H1 (fz d) y [] := by
          obtain ⟨_, A, q⟩ := (r5.perm (.swap _ _ _)).rep
          have := Rep.nil (fz d) (fzn_fz d) q
          subst this
          exact q
        obtain ⟨a0, vs, u, rfl, hH, hu', hk', rc⟩ := dct_cell r5 hz
        refine ⟨_, hv', sk F2 H1 σ ρ1 _ _ n2 ⟨kd, ek, fun v3 A3 rk => ?_⟩⟩
        obtain ⟨u', ks', ds', vs', rfl, hnt, hp, hu2, hk2⟩ := dPut_ok n2.fixed hu' hH hk' h9 rk ry ex
        refine ⟨a0, _, rfl, hp, ?_⟩
        have n6 := n4.map (L := [.val (.ref a0) (.dct true k ks ds)]) (L' := [.val (.ref a0) (.dct true k ks' ds')]) (F' := F2) (H' := upd H1 a0 u') fun rest r => by
          obtain ⟨a1, vs1, u1, q1, q2, q3, q4, q5⟩ := dct_cell r hz
          cases q1
          exact cell_dct (Rel.write q5 hnt) hu2 (Reps.mono (Sub.refl _) ds' (fun _ m => nomatch m) hk2)
        have n7 := n6.back hv' (by rw [List.getElem?_set_self hiσ])
        rw [List.set_set] at n7
        exact h1 F2 _ σ (Keep.refl σ) n7
      · exact h1.elim
    · exact h1.elim
  · exact h1.elim
end
/-! ### sorted(d), d a dict whose keys are tuples -/
def rSortD (m : Nat) : List V → Hp → VK → Prop := fun vs H Q => ∃ (a : Addr) (kvs : List (List Key × V)) (ks : List (List Int)), vs = [.ref a] ∧ Rd H a (.dT kvs) ∧ ks.length = kvs.length ∧ ks.Nodup ∧ 1 ≤ m ∧
  (∀ (j : Nat) (p : List Key × V) (k : List Int), kvs[j]? = some p → ks[j]? = some k → k.length = m ∧ (p.1.map kV).take m = k.map V.int) ∧ ∀ bs p, IsKeys H kvs bs → H p = none → Q (.ref p) (upd H p (.lst ((sortK (ks.zip (bs.map V.ref))).map (·.2))))
theorem keys_at {H : Hp} : ∀ {kvs : List (List Key × V)} {bs : List Addr} {j : Nat} {b : Addr}, IsKeys H kvs bs → bs[j]? = some b → ∃ p, kvs[j]? = some p ∧ H b = some (.tup (p.1.map kV))
  | _, _, j, b, .nil, h => by simp at h
  | _, _, 0, b, .cons h t, e => by
    cases e
    exact ⟨_, rfl, h⟩
  | _, _, j + 1, b, .cons h t, e => by
    obtain ⟨p, h1, h2⟩ := keys_at t (by simpa using e)
    exact ⟨p, by simpa using h1, h2⟩
theorem cr_sortD {X : Cx} (hc : X.calm = true) (m : Nat) : CallR X (.builtin "sorted") (rSortD m) := by
  intro pins s σ H xs us Q I r h
  obtain ⟨d, kvs, ks, rfl, hd, hlen, hn, hm, hx, q⟩ := h
  obtain ⟨u, rfl, rx⟩ := vals1 r
  cases rx
  obtain ⟨z, hs, es', pr, o, es, ep, ho, hxd, hdt, he, hnd⟩ := (show ObjOk X.prog X.w H s.heap d (.dT kvs) from hd.ok I.hok)
  have l1 : es.size = es'.length := size_of_entries he
  have l2 : kvs.length = es'.length := Paired.length pr
  refine Calls.call_function_entry PyProof.Rows.kind_sorted PyProof.Rows.plain_sorted PyProof.Rows.entry_sorted (PyProof.Rows.args_sorted1 _) ?_
  unfold Builtin.«sorted»
  refine wpAny_bind (m := checkCount "sorted" 1 1 _) (wpAny_pure ?_)
  refine wpAny_bind (PySem.W.kdu_collect (A := X.A.in1) (kdl_raw hs hxd hdt) (I.ok.hd hc) ho (by omega) fun h' tk acc hk hacc => ?_)
  have ea : acc.toList = (es'.map fun x => x.2.1).map Value.ref := by
    have hl : acc.toList.length = es'.length := by rw [Array.length_toList, hacc.1]; exact l1
    apply List.ext_getElem?
    intro j
    rw [List.getElem?_map, List.getElem?_map]
    cases hj : acc.toList[j]? with
    | none =>
      have h1 := List.getElem?_eq_none_iff.mp hj
      rw [List.getElem?_eq_none (by omega)]
      rfl
    | some v =>
      obtain ⟨en, hen, hv⟩ := hacc.2 j v (by rw [← Array.getElem?_toList]; exact hj)
      have qe := entry_at he j
      rw [hen] at qe
      cases hb : es'[j]? with
      | none =>
        rw [hb] at qe
        exact nomatch (show some en = none from qe)
      | some b =>
        rw [hb] at qe
        have e2 : en = entryOfKey (tupleKind (mixKind X.prog X.w)) b := Option.some.inj qe
        rw [hv, e2]
        rfl
  generalize hbs : (es'.map fun x => x.2.1) = bs at ea
  have ik : IsKeys H kvs bs := by rw [← hbs]; exact isKeys_of pr
  have lb : bs.length = kvs.length := by rw [← hbs, List.length_map]; omega
  generalize acc.toList = its at ea
  subst ea
  have I1 : Inv X pins σ H { s with heap := h', toks := tk } := I.kept hk
  have hz : (bs.map Value.ref).length ≤ sizeLine := by rw [List.length_map]; omega
  refine wpAny_bind (wpAny_newList ?_ hz)
  have hoL : (h'.push (seqObj "list" (bs.map Value.ref).toArray 0)).get? h'.objs.size = some (seqObj "list" (bs.map Value.ref).toArray 0) := Heap.get?_push_size _ rfl
  show wpAny _ _ _ _ _ { s with heap := h'.push (seqObj "list" (bs.map Value.ref).toArray 0), toks := tk }
  have I2 : Inv X pins σ H { s with heap := h'.push (seqObj "list" (bs.map Value.ref).toArray 0), toks := tk } := I1.kept (t' := tk) fun b o e => Heap.get?_push_of_some _ e
  have key : ∀ (j : Nat) (u : Value) (k : List Int), (bs.map Value.ref)[j]? = some u → ks[j]? = some k → ∃ r, ItAt (h'.push (seqObj "list" (bs.map Value.ref).toArray 0)) u k r ∧ k.length = m := fun j u k hu hk2 => by
    rw [List.getElem?_map] at hu
    obtain ⟨b, hb, rfl⟩ := Option.map_eq_some_iff.mp hu
    obtain ⟨p, hp, hT⟩ := keys_at ik hb
    obtain ⟨lk, hy⟩ := hx j p k hp hk2
    obtain ⟨ws, rw1, pt, hz'⟩ := I2.tuple (show SqT X.K H b (p.1.map kV) from .inl (.inl hT))
    obtain ⟨o, ho, hc, n, hd⟩ := (show (h'.push (seqObj "list" (bs.map Value.ref).toArray 0)).IsTuple b ws.toArray from pt)
    have t1 := vals_take m rw1
    rw [hy] at t1
    obtain ⟨q, e3, e4⟩ := vals_ints t1
    exact ⟨ws.drop m, ⟨b, o, n, q, rfl, ho, hc, by rw [← e3, List.take_append_drop]; exact hd, e4⟩, lk⟩
  have hl2 : ks.length = (bs.map Value.ref).length := by rw [List.length_map]; omega
  have kfe : ∀ (j : Nat) (u : Value) (k : List Int), (bs.map Value.ref)[j]? = some u → ks[j]? = some k → kfH (h'.push (seqObj "list" (bs.map Value.ref).toArray 0)) m u = k := fun j u k hu hk => by
    obtain ⟨r, i, l⟩ := key j u k hu hk
    exact kfH_eq i l
  have all : ∀ v ∈ bs.map Value.ref, ∃ (j : Nat) (k : List Int), (bs.map Value.ref)[j]? = some v ∧ ks[j]? = some k := fun v hv => by
    obtain ⟨j, hj⟩ := List.getElem?_of_mem hv
    have lj := (List.getElem?_eq_some_iff.mp hj).1
    exact ⟨j, _, hj, List.getElem?_eq_getElem (by omega)⟩
  refine wpAny_bind (wpAny_holding (wpAny_call_entry PyProof.Rows.slot_list_sort ⟨_, hoL, rfl⟩ PyProof.Rows.entry_list_sort
    (SrtO.list_sort_ord (s := { s with heap := h'.push (seqObj "list" (bs.map Value.ref).toArray 0), toks := tk }) (ltv := fun v u => lexI (kfH (h'.push (seqObj "list" (bs.map Value.ref).toArray 0)) m v) (kfH (h'.push (seqObj "list" (bs.map Value.ref).toArray 0)) m u)) (swoI _) hoL hz (fun h2 => ?_) fun out so st => ⟨_, rfl, ?_⟩)
    (PyProof.Rows.args_list_sort _)))
  · refine ints_sortable (s := { s with heap := h'.push (seqObj "list" (bs.map Value.ref).toArray 0), toks := tk }) hm (by omega) (fun v hv => ?_) (fun v hv w hw e => ?_) fun o e => ?_
    · obtain ⟨j, k, h3, h4⟩ := all v hv
      obtain ⟨r, i, l⟩ := key j v k h3 h4
      exact ⟨k, r, i, l, kfe j v k h3 h4⟩
    · obtain ⟨j, k, h3, h4⟩ := all v hv
      obtain ⟨j', k', h3', h4'⟩ := all w hw
      rw [kfe j v k h3 h4, kfe j' w k' h3' h4'] at e
      subst e
      have q1 := (List.getElem?_eq_some_iff.mp h4).2
      have q2 := (List.getElem?_eq_some_iff.mp h4').2
      have := (List.getElem_inj hn).mp (q1.trans q2.symm)
      subst this
      rw [h3] at h3'
      cases h3'
      rfl
    · have e' : some o = some (seqObj "list" (bs.map Value.ref).toArray 0) := e.symm.trans hoL
      cases e'
      intro c
      exact absurd (Value.type.inj c) (by decide)
  · have eo := sort_only hl2 hn kfe so st.perm
    have hrefs : ∀ u ∈ out, ∃ a, u = Value.ref a := fun u hu => by
      obtain ⟨b, _, e⟩ := List.mem_map.mp (st.perm.mem_iff.mp hu)
      exact ⟨b, e.symm⟩
    have ev : (sortK (ks.zip (bs.map V.ref))).map (·.2) = out.map backV := by
      have e1 : bs.map V.ref = (bs.map Value.ref).map backV := by rw [List.map_map]; rfl
      rw [eo, e1, zip_map2, sortK_map, List.map_map, List.map_map]
      rfl
    have nw := q bs h'.objs.size ik (I1.hok.fresh (Nat.le_refl _))
    rw [ev] at nw
    obtain ⟨n, hn'⟩ := PyProof.Rows.sortedHeap_at (vs := bs.map Value.ref) (out := out.toArray) hoL
    refine wpAny_pure ⟨_, rfl, .ref h'.objs.size, upd H h'.objs.size (.lst (out.map backV)), I1.laid (a := h'.objs.size) (o := .lst (out.map backV)) (t' := tk) (fun b u e => ?_) (Nat.le_refl _) ⟨?_, out, n, vals_back hrefs, hn'⟩, rfl, nw⟩
    · have hb : b < h'.objs.size := Heap.lt_size e
      rw [PyProof.Rows.sortedHeap_old (Nat.ne_of_lt hb) (by rw [size_push']; exact Nat.lt_succ_of_lt hb)]
      exact Heap.get?_push_of_some _ e
    · rw [List.length_map, st.perm.length_eq]
      exact hz
/-! ### the same by trees -/
theorem keysK_mk {K : PySem.W.Frag} {mg : Str → Option Value} {F H : Hp} : ∀ {es : List Dv} {q : List Key}, keysK es = some q → Reps K mg F H es (q.map kV) []
  | [], q, e => by cases e; exact ⟨rfl, rfl⟩
  | d :: es, q, e => by
    unfold keysK at e
    split at e
    · rename_i k ks e1 e2
      cases e
      refine ⟨kV k, _, [], [], rfl, rfl, ?_, keysK_mk e2⟩
      cases d with
      | int i => cases e1; exact ⟨rfl, rfl⟩
      | str s => cases e1; exact ⟨rfl, rfl⟩
      | _ => cases e1
    · cases e
/-- the keys of a dict, all of them told -/
theorem learn_keys {K : PySem.W.Frag} {mg : Str → Option Value} {H : Hp} {rs : List Root} : ∀ {ks : List Dv} {kvs : List (List Key × V)} {bs : List Addr} {F : Hp}, IsKeys H kvs bs → keysT ks = some (kvs.map (·.1)) → Rel K mg F H rs →
    ∃ F', Sub F F' ∧ Reps K mg F' H ks (bs.map V.ref) [] ∧ Rel K mg F' H rs
  | [], _, _, F, .nil, e, r => ⟨F, Sub.refl F, ⟨rfl, rfl⟩, r⟩
  | [], _, _, F, .cons h t, e, r => by cases e
  | d :: ks, _, _, F, .nil, e, r => by
    unfold keysT at e
    split at e <;> cases e
  | d :: ks, p :: kvs, b :: bs, F, .cons h t, e, r => by
    unfold keysT at e
    split at e
    · rename_i q kk e1 e2
      rw [List.map_cons] at e
      have e' := Option.some.inj e
      have h1 : q = p.1 := (List.cons.inj e').1
      have h2 : kk = kvs.map (·.1) := (List.cons.inj e').2
      subst h2
      obtain ⟨F1, s1, t1, r1⟩ := r.learn h
      obtain ⟨F2, s2, reps, r2⟩ := learn_keys t e2 r1
      refine ⟨F2, s1.trans s2, ?_, r2⟩
      refine ⟨.ref b, _, [], [], rfl, rfl, ?_, reps⟩
      unfold keyT at e1
      split at e1
      · subst h1
        exact ⟨b, _, rfl, s2 _ _ t1, keysK_mk e1⟩
      · cases e1
    · cases e
def sSortD (m : Nat) (fa : SP) : SE := fun ρ => match fa ρ with
  | some (.dct _ .t ks ds) => (match oSortK m (.lst false ks) with
    | some e => .ok e ρ
    | none => .stk)
  | _ => .stk
theorem key_ints {d : Dv} {q : List Key} {m : Nat} {k : List Int} (e1 : keyT d = some q) (e2 : keyP m d = some k) : k.length = m ∧ (q.map kV).take m = k.map V.int := by
  unfold keyT at e1
  split at e1
  · rename_i es
    obtain ⟨js, k1, k2⟩ := Option.bind_eq_some_iff.mp e2
    split at k2
    · rename_i hj
      cases k2
      refine ⟨hj, ?_⟩
      have r : Reps (default : PySem.W.Frag) (fun _ => none) (fun _ => none) (fun _ => none) es (q.map kV) [] := keysK_mk e1
      obtain ⟨B, t⟩ := r.take m
      exact intsD_reps k1 t
    · cases k2
  · cases e1
theorem keysT_at : ∀ {ks : List Dv} {kk : List (List Key)} {j : Nat} {d : Dv} {q : List Key}, keysT ks = some kk → ks[j]? = some d → kk[j]? = some q → keyT d = some q
  | [], _, _, _, _, _, h, _ => by simp at h
  | x :: ks, kk, j, d, q, h, h1, h2 => by
    unfold keysT at h
    split at h
    · rename_i k0 kk0 e1 e2
      cases h
      cases j with
      | zero => cases h1; cases h2; exact e1
      | succ j => exact keysT_at e2 (by simpa using h1) (by simpa using h2)
    · cases h
section
variable {X : Cx} {W : WX} {a : Expr} {fa : SP} {f : SE} {pos p : Pos} {m : Nat}
theorem je_sortedD (hc : X.calm = true) (ha : JP X a fa) (hm : X.mg "sorted" = none) (hv : bootBuiltins "sorted" = some (.builtin "sorted") := by decide +kernel) (hg : Gl X "sorted" := by rfl)
    (he : starEach [a] X.env = (false, eval a X.env) :: starEach [] X.env := by rfl) (hpl : (backTo pos (starEach [] X.env)).any (·.1) = false := by rfl) :
    JE X W (.Call (.Name "sorted" p) [a] [] pos) (sSortD m fa) := by
  obtain ⟨t, pa, s⟩ := ha
  refine ⟨_, pe_callB (cr_sortD hc m) hg hm hv (pa_cons pa pa_nil he) (by decide) (by decide) he hpl, fun F H σ ρ T Q n h => ?_⟩
  unfold sSortD at h
  split at h
  · rename_i o ks ds ex
    split at h
    · rename_i e ee
      unfold oSortK at ee
      simp only at ee
      split at ee
      · rename_i ns hns
        split at ee
        · rename_i hcnd
          cases ee
          obtain ⟨hnd, hz, hm1⟩ := hcnd
          refine s F H σ ρ T _ n ⟨_, ex, fun v A rx => ?_⟩
          obtain ⟨ad, vs, B, u, rfl, rs, ⟨kk, e3, hl, rfl⟩, ho⟩ := rx
          have rd := dct_rd n.fixed (u := .dT (kk.zip vs)) True.intro ho
          have l1 := keysP_len hns
          have l2 := keysT_len e3
          have kkz : (kk.zip vs).map (·.1) = kk := fst_zip hl
          refine ⟨ad, kk.zip vs, ns, rfl, rd, by rw [List.length_zip]; omega, hnd, hm1, fun j pr k hp hk => ?_, fun bs pn ik hp => ?_⟩
          · obtain ⟨h3, h4⟩ := List.getElem?_eq_some_iff.mp hk
            have hd : ks[j]? = some ks[j] := List.getElem?_eq_getElem (by omega)
            have hq : kk[j]? = some pr.1 := by
              rw [← kkz, List.getElem?_map, hp]
              rfl
            exact key_ints (keysT_at e3 hd hq) (keysP_at hns hd hk)
          · have lb : bs.length = ks.length := by
              have := Paired.length ik
              rw [List.length_zip] at this
              omega
            obtain ⟨F', H', q1, n2⟩ := n.mapE (L := []) (L' := [.val (.ref pn) (.lst true ((sortK (ns.zip ks)).map (·.2)))]) (P := fun _ H' => H' = upd H pn (.lst ((sortK (ns.zip (bs.map V.ref))).map (·.2)))) fun rest r => by
              obtain ⟨F', sb, reps, r2⟩ := learn_keys ik (by rw [kkz]; exact e3) r
              have hvl : (bs.map V.ref).length = ks.length := by rw [List.length_map]; exact lb
              have hp2 := pts_reps hz reps
              have S : ∀ r ∈ sortK (ns.zip (ks.zip (bs.map V.ref))), Rep X.K X.mg F' H r.2.1 r.2.2 [] := fun r hr => by
                obtain ⟨j, _, e2⟩ := zip_at ((sortK_perm _).mem_iff.mp hr)
                exact hp2 _ (List.mem_of_getElem? e2)
              have rp : Reps X.K X.mg F' H ((sortK (ns.zip ks)).map (·.2)) ((sortK (ns.zip (bs.map V.ref))).map (·.2)) [] := by
                have e1 : (sortK (ns.zip ks)).map (·.2) = ((sortK (ns.zip (ks.zip (bs.map V.ref)))).map (·.2)).map (·.1) := by
                  have : ns.zip ks = (ns.zip (ks.zip (bs.map V.ref))).map fun q => (q.1, q.2.1) := by rw [← zip_map2 (fun x : Dv × V => x.1), fst_zip hvl.symm]
                  rw [this, sortK_map (fun x : Dv × V => x.1), List.map_map, List.map_map]
                  rfl
                have e2 : (sortK (ns.zip (bs.map V.ref))).map (·.2) = ((sortK (ns.zip (ks.zip (bs.map V.ref)))).map (·.2)).map (·.2) := by
                  have : ns.zip (bs.map V.ref) = (ns.zip (ks.zip (bs.map V.ref))).map fun q => (q.1, q.2.2) := by rw [← zip_map2 (fun x : Dv × V => x.2), zip_snd hvl.symm]
                  rw [this, sortK_map (fun x : Dv × V => x.2), List.map_map, List.map_map]
                  rfl
                rw [e1, e2]
                refine reps_pts fun r hr => ?_
                obtain ⟨z, hz1, hz2⟩ := List.mem_map.mp hr
                rw [← hz2]
                exact S z hz1
              have zz : fzns ((sortK (ns.zip ks)).map (·.2)) = true := by
                have pm := (sortK_perm (ns.zip ks)).map (·.2)
                rw [zip_snd l1] at pm
                rw [fzns_perm pm]
                exact hz
              exact ⟨F', _, rfl, Rel.lstF r2 rp zz hp⟩
            subst q1
            exact h _ _ _ n2
        · cases ee
      · cases ee
    · exact h.elim
  · exact h.elim
/-! ### list(xs), a copy; xs.append(e) -/
def oLstC : Dv → Option Dv
  | .lst _ ds => if fzns ds = true then some (.lst true ds) else none
  | .tup _ ds => if fzns ds = true then some (.lst true ds) else none
  | _ => none
def sLstC (fa : SP) : SE := fun ρ => match (fa ρ).bind oLstC with
  | some e => .ok e ρ
  | none => .stk
theorem je_listC (ha : JP X a fa) (hm : X.mg "list" = none) (hv : bootBuiltins "list" = some (.type "list") := by decide +kernel) (hg : Gl X "list" := by rfl) (hn : ("list" : Str) ≠ "__name__" := by decide) (hdb : (("list" : Str) == ("__debug__" : Str)) = false := by decide)
    (he : starEach [a] X.env = (false, eval a X.env) :: starEach [] X.env := by rfl) (hpl : (backTo pos (starEach [] X.env)).any (·.1) = false := by rfl) :
    JE X W (.Call (.Name "list" p) [a] [] pos) (sLstC fa) := by
  obtain ⟨t, pa, s⟩ := ha
  refine ⟨_, pe_callTy call_list_of hg hm hv (pa_cons pa pa_nil he) hn hdb he hpl, fun F H σ ρ T Q n h => ?_⟩
  unfold sLstC at h
  split at h
  · rename_i e ee
    obtain ⟨d, ed, eo⟩ := Option.bind_eq_some_iff.mp ee
    refine s F H σ ρ T _ n ⟨d, ed, fun v A rx => ?_⟩
    unfold oLstC at eo
    split at eo
    · rename_i o ds
      split at eo
      · rename_i z
        cases eo
        obtain ⟨q, vs, B, rfl, q1, q2⟩ := rep_sqL n.fixed rx
        exact ⟨q, vs, rfl, .inl q1, fun l hl => h _ _ _ (n.map (L := []) (L' := [.val (.ref l) (.lst true ds)]) fun rest r => Rel.lstF r q2 z hl)⟩
      · cases eo
    · rename_i o ds
      split at eo
      · rename_i z
        cases eo
        obtain ⟨q, vs, rfl, q1, q2⟩ := rep_sqT n.fixed rx
        exact ⟨q, vs, rfl, .inr q1, fun l hl => h _ _ _ (n.map (L := []) (L' := [.val (.ref l) (.lst true ds)]) fun rest r => Rel.lstF r q2 z hl)⟩
      · cases eo
    · cases eo
  · exact h.elim
end
def gApp (i : Nat) (fe : SE) : SS := fun ρ => match ρ[i]? with
  | some (some (.lst true ds)) => if fzns ds = true ∧ ds.length < 900000 then bndS (fe (ρ.set i none)) fun d ρ1 => (match ρ1[i]? with
    | some none => .nx (ρ1.set i (some (.lst true (ds ++ [fz d]))))
    | _ => .stk) else .stk
  | _ => .stk
section
variable {X : Cx} {W : WX} {fx : List Nat} {i : Nat} {x : Str} {px apos cpos pos : Pos} {e : Expr} {fe : SE}
theorem js_append (he : JE X W e fe) (hi : X.N[i]? = some x := by rfl) (hvis : Vis X.env.scope x := by first | exact Or.inl rfl | exact Or.inr (Or.inl rfl) | exact Or.inr (Or.inr rfl)) (hfx : i ∉ fx := by decide)
    (hd : (x == ("__debug__" : Str)) = false := by decide) (hcd : (x == ("__classdict__" : Str)) = false := by decide) (hbase : attributeBase (.Name x px) "append" X.env (eval (.Name x px) X.env) = eval (.Name x px) X.env := by rfl)
    (hfew : ((backTo cpos (starEach [e] X.env)).all (fun x => !x.1) && (backToKw cpos (keywordEach [] X.env)).all (fun x => x.1.isSome)
      && decide (([e] : List Expr).length + ([] : List Keyword).length + (if ([] : List Keyword).isEmpty then 0 else 1) < 30)) = true := by rfl) (hline : (apos.endLine == cpos.line) = true := by rfl)
    (hst : starEach [e] X.env = (false, eval e X.env) :: starEach [] X.env := by rfl) (hpl : (backTo cpos (starEach [] X.env)).any (·.1) = false := by rfl)
    (hs : swapsWith (.Call (.Attribute (.Name x px) "append" apos) [e] [] cpos) none pos.line X.env = pure false := by rfl) : JS X W fx (.Expr (.Call (.Attribute (.Name x px) "append" apos) [e] [] cpos) pos) (gApp i fe) := by
  obtain ⟨t, p, s⟩ := he
  refine ⟨_, ps_expr (pe_bm PySem.F.plainAttrs_list PySem.F.slot_list_append PySem.F.type_list_append mt_append (pe_var hi hvis hd hcd) (pa_cons p pa_nil hst) hbase hfew hline hst hpl) hs, fun F H σ ρ R D n h => ?_⟩
  unfold gApp at h
  split at h
  · rename_i ds e0
    split at h
    · rename_i hz
      obtain ⟨z, h9⟩ := hz
      obtain ⟨v, hv, n1⟩ := n.get e0
      obtain ⟨rest, r1⟩ := Now.rel (L := [.val v (.lst true ds)]) n1
      obtain ⟨a, vs, rfl, hH, hk, _⟩ := lst_cell r1 z
      refine ⟨_, hv, .inl ⟨rfl, vs, .inl (.inl hH)⟩, ?_⟩
      refine s F H σ _ (.val (.ref a) (.lst true ds) :: R) _ n1 (Post.imp (Post.more (L := [.val (.ref a) (.lst true ds)]) (postS_bnd h)) fun d ρ1 h1 F1 H1 y n2 => ?_)
      split at h1
      · rename_i e1
        obtain ⟨F2, n3⟩ := n2.fix
        have hi1 : i < ρ1.length := (List.getElem?_eq_some_iff.mp e1).1
        obtain ⟨rest2, r3⟩ := Now.rel (L := [.val y (fz d), .val (.ref a) (.lst true ds)]) n3
        have ry : Rep X.K X.mg F2 H1 (fz d) y [] := by
          obtain ⟨_, A, q⟩ := r3.rep
          have := Rep.nil (fz d) (fzn_fz d) q
          subst this
          exact q
        obtain ⟨a1, vs1, q1, hH1, hk1, _⟩ := lst_cell (r3.perm (.swap _ _ _)) z
        cases q1
        have hl1 : vs1.length = ds.length := hk1.len
        refine ⟨a, vs1, y, rfl, rfl, hH1, by rw [sizeLine_eq, hl1]; omega, ?_⟩
        have n4 := n3.drop
        have n5 := n4.map (L := [.val (.ref a) (.lst true ds)]) (L' := [.val (.ref a) (.lst true (ds ++ [fz d]))]) (F' := F2) (H' := upd H1 a (.lst (vs1 ++ [y]))) fun rest r => by
          obtain ⟨a2, vs2, q1, q2, q3, q4⟩ := lst_cell r z
          cases q1
          refine cell_lst (Rel.write q4) ?_
          have rr : Reps X.K X.mg F2 H1 (ds ++ [fz d]) (vs1 ++ [y]) ([] ++ []) := Reps.append hk1 ⟨y, [], [], [], rfl, rfl, ry, rfl, rfl⟩
          exact Reps.mono (Sub.refl _) _ (fun _ m => nomatch m) rr
        have n6 := n5.back hv e1
        exact h1 F2 _ σ (Keep.refl σ) n6
      · exact h1.elim
    · exact h.elim
  · exact h.elim
end
/-- f(..).clear() -/
def gClrE (fe : SE) : SS := fun ρ => bndS (fe ρ) fun d ρ1 => match d with
  | .lst true ds => if fzns ds = true then .nx ρ1 else .stk
  | _ => .stk
section
variable {X : Cx} {W : WX} {fx : List Nat} {apos cpos pos : Pos} {e : Expr} {fe : SE}
theorem js_clearE (he : JE X W e fe) (hbase : attributeBase e "clear" X.env (eval e X.env) = eval e X.env := by rfl) (hline : (apos.endLine == cpos.line) = true := by rfl)
    (hs : swapsWith (.Call (.Attribute e "clear" apos) [] [] cpos) none pos.line X.env = pure false := by rfl) : JS X W fx (.Expr (.Call (.Attribute e "clear" apos) [] [] cpos) pos) (gClrE fe) := by
  obtain ⟨t, p, s⟩ := he
  refine ⟨_, ps_expr (pe_bm0 PySem.F.plainAttrs_list PySem.F.slot_list_clear PySem.F.type_list_clear mt_clear p hbase hline) hs, fun F H σ ρ R D n h => ?_⟩
  refine s F H σ ρ R _ n ((postS_bnd h).imp fun d ρ1 h1 F1 H1 v n1 => ?_)
  split at h1
  · rename_i ds
    split at h1
    · rename_i z
      obtain ⟨rest, r1⟩ := Now.rel (L := [.val v (.lst true ds)]) n1
      obtain ⟨a, vs, rfl, hH, hk, _⟩ := lst_cell r1 z
      refine ⟨.inl ⟨rfl, vs, .inl (.inl hH)⟩, a, vs, rfl, rfl, hH, ?_⟩
      have n2 := n1.map (L := [.val (.ref a) (.lst true ds)]) (L' := [.val (.ref a) (.lst true [])]) (F' := F1) (H' := upd H1 a (.lst [])) fun rest r => by
        obtain ⟨a1, vs1, q1, q2, q3, q4⟩ := lst_cell r z
        cases q1
        exact cell_lst (Rel.write q4) ⟨rfl, rfl⟩
      exact h1 F1 _ σ (Keep.refl σ) n2.drop
    · exact h1.elim
  · exact h1.elim
end
/-! ### key and default any expressions -/
def sDGet2 (i : Nat) (fk fd : SE) : SE := fun ρ => match ρ[i]? with
  | some (some (.dct o k ks ds)) => (match k with
    | .t => if (keysT ks).isSome = true then .ok () ρ else .stk
    | .k => if (keysK ks).isSome = true then .ok () ρ else .stk : Rs Unit).bnd fun _ ρ => (fk ρ).bnd fun key ρ1 => (fd ρ1).bnd fun z ρ2 => (match ρ2[i]? with
    | some (some x) => (match dGet x key with
      | some (some d) => if fzn d = true then .ok d ρ2 else .stk
      | some none => .ok z ρ2
      | none => .stk)
    | _ => .stk)
  | _ => .stk
def gDPutE (i : Nat) (fk fv : SE) : SS := fun ρ => bndS (fv ρ) fun d ρ1 => match ρ1[i]? with
  | some (some _) => bndS (fk ρ1) fun key ρ2 => (match ρ2[i]? with
    | some (some (.dct true k ks ds)) => if fzns ds = true ∧ ds.length < 900000 then (match dPut k ks ds key (fz d) with
      | some x => .nx (ρ2.set i (some x))
      | none => .stk) else .stk
    | _ => .stk)
  | _ => .stk
section
variable {X : Cx} {W : WX} {a b c value key : Expr} {pos pos' px apos cpos : Pos} {i : Nat} {x : Str} {fk fd fv : SE}
theorem je_dget2 (hu : X.A.units + 64 < cLine) (hk : JE X W b fk) (hd : JE X W c fd) (hi : X.N[i]? = some x := by rfl) (hvis : Vis X.env.scope x := by first | exact Or.inl rfl | exact Or.inr (Or.inl rfl) | exact Or.inr (Or.inr rfl))
    (hdb : (x == ("__debug__" : Str)) = false := by decide) (hcd : (x == ("__classdict__" : Str)) = false := by decide) (m : M2 X (.Name x px) "get" apos b c cpos := by exact ⟨rfl, rfl, rfl, rfl⟩) :
    JE X W (.Call (.Attribute (.Name x px) "get" apos) [b, c] [] cpos) (sDGet2 i fk fd) := by
  obtain ⟨tk, pk, sk⟩ := hk
  obtain ⟨td, pd, sd⟩ := hd
  refine ⟨_, pe_dget2 (by omega) (pe_var hi hvis hdb hcd) pk pd m, fun F H σ ρ T Q n h => ?_⟩
  unfold sDGet2 at h
  split at h
  · rename_i o k ks ds e
    obtain ⟨fx, v, A, hv, r⟩ := n.reps e
    have isd : ∃ ad, v = .ref ad ∧ IsD H ad := by
      cases k with
      | t =>
        obtain ⟨ad, vs, B, u, rfl, rs, ⟨kk', e3, hl, rfl⟩, ho⟩ := r
        exact ⟨ad, rfl, .inr ⟨_, dct_rd fx (u := .dT (kk'.zip vs)) True.intro ho⟩⟩
      | k =>
        obtain ⟨ad, vs, B, u, rfl, rs, ⟨kk', e3, hl, rfl⟩, ho⟩ := r
        exact ⟨ad, rfl, .inl ⟨_, dct_rd fx (u := .dK (kk'.zip vs)) True.intro ho⟩⟩
    obtain ⟨ad, rfl, isd⟩ := isd
    refine ⟨_, hv, ad, rfl, isd, ?_⟩
    have h' : PostE X.K X.mg W σ T Q ((fk ρ).bnd fun key ρ1 => (fd ρ1).bnd fun z ρ2 => (match ρ2[i]? with
      | some (some x) => (match dGet x key with
        | some (some d) => if fzn d = true then .ok d ρ2 else .stk
        | some none => .ok z ρ2
        | none => .stk)
      | _ => .stk)) := by
      cases k with
      | t =>
        simp only at h
        split at h
        · exact h
        · exact h.elim
      | k =>
        simp only at h
        split at h
        · exact h
        · exact h.elim
    refine sk F H σ ρ T _ n (h'.bnd.imp fun kd ρ1 h1 F1 H1 yk n1 => ?_)
    refine sd F1 H1 σ ρ1 (.val yk kd :: T) _ n1 (Post.imp (Post.more (L := [.val yk kd]) h1.bnd) fun z ρ2 h2 F2 H2 zv n2 => ?_)
    split at h2
    · rename_i x2 e2
      obtain ⟨fx2, v2, A2, hv2, r2⟩ := n2.reps e2
      rw [hv] at hv2
      cases hv2
      obtain ⟨rest, nr⟩ := Now.rel (L := [.val zv z, .val yk kd]) n2
      obtain ⟨_, A3, rk⟩ := (nr.perm (.swap _ _ _)).rep
      split at h2
      · rename_i d eg
        split at h2
        · rename_i zd
          obtain ⟨a', o', e5, g, _, w, B, rfl, rw_⟩ := dGet_ok fx2 r2 rk eg
          cases e5
          have := Rep.nil d zd rw_
          subst this
          exact ⟨some w, g, h2 _ _ _ (n2.drop.drop.add rw_)⟩
        · exact h2.elim
      · rename_i eg
        obtain ⟨a', o', e5, g, _, hn⟩ := dGet_ok fx2 r2 rk eg
        cases e5
        have hn' : o' = none := hn
        subst hn'
        exact ⟨none, g, h2 _ _ _ (n2.swap.drop)⟩
      · exact h2.elim
    · exact h2.elim
  · exact h.elim
theorem js_dputE {fx : List Nat} (hu : X.A.units + 64 < cLine) (hv : JE X W value fv) (hk : JE X W key fk) (hi : X.N[i]? = some x := by rfl) (hvis : Vis X.env.scope x := by first | exact Or.inl rfl | exact Or.inr (Or.inl rfl) | exact Or.inr (Or.inr rfl))
    (hd : (x == ("__debug__" : Str)) = false := by decide) (hcd : (x == ("__classdict__" : Str)) = false := by decide) (hs : swapsWith value (some (.Subscript (.Name x px) key pos')) pos.line X.env = pure false := by rfl) :
    JS X W fx (.Assign [.Subscript (.Name x px) key pos'] value pos) (gDPutE i fk fv) := by
  obtain ⟨t, p, s⟩ := hv
  obtain ⟨tk, pk, sk⟩ := hk
  refine ⟨_, ps_dput (by omega) (pe_var hi hvis hd hcd) pk p hs, fun F H σ ρ R D n h => ?_⟩
  refine s F H σ ρ R _ n ((postS_bnd h).imp fun d ρ1 h1 F1 H1 y n1 => ?_)
  split at h1
  · rename_i x1 ex1
    obtain ⟨_, v0, A0, hv0, _⟩ := n1.reps ex1
    refine ⟨v0, hv0, ?_⟩
    refine sk F1 H1 σ ρ1 (.val y d :: R) _ n1 (Post.imp (Post.more (L := [.val y d]) (postS_bnd h1)) fun kd ρ2 h2 F2' H2 ky n2' => ?_)
    split at h2
    · rename_i k ks ds e
      split at h2
      · rename_i hz
        obtain ⟨hz, h9⟩ := hz
        split at h2
        · rename_i x' ex
          obtain ⟨F2, n2s⟩ := (n2'.swap).fix
          have n2 := n2s.swap
          have hiσ : i < ρ2.length := (List.getElem?_eq_some_iff.mp e).1
          obtain ⟨v, hv', n4⟩ := n2.drop.drop.get e
          rw [hv0] at hv'
          cases hv'
          obtain ⟨v2, hv2, n5⟩ := n2.get e
          rw [hv0] at hv2
          cases hv2
          obtain ⟨rest, r5⟩ := Now.rel (L := [.val v0 (.dct true k ks ds), .val ky kd, .val y (fz d)]) n5
          have fx2 := n2.fixed
          obtain ⟨_, Ak, rk⟩ := (r5.perm (.swap _ _ _)).rep
          have ry : Rep X.K X.mg F2 H2 (fz d) y [] := by
            obtain ⟨_, A, q⟩ := (Rel.drop (Rel.drop r5)).rep
            have := Rep.nil (fz d) (fzn_fz d) q
            subst this
            exact q
          obtain ⟨a0, vs, u, rfl, hH, hu', hk', rc⟩ := dct_cell r5 hz
          obtain ⟨u', ks', ds', vs', rfl, hnt, hp, hu2, hk2⟩ := dPut_ok fx2 hu' hH hk' h9 rk ry ex
          refine ⟨a0, _, rfl, hp, ?_⟩
          have n6 := n4.map (L := [.val (.ref a0) (.dct true k ks ds)]) (L' := [.val (.ref a0) (.dct true k ks' ds')]) (F' := F2) (H' := upd H2 a0 u') fun rest r => by
            obtain ⟨a1, vs1, u1, q1, q2, q3, q4, q5⟩ := dct_cell r hz
            cases q1
            exact cell_dct (Rel.write q5 hnt) hu2 (Reps.mono (Sub.refl _) ds' (fun _ m => nomatch m) hk2)
          have n7 := n6.back hv0 (by rw [List.getElem?_set_self hiσ])
          rw [List.set_set] at n7
          exact h2 F2 _ σ (Keep.refl σ) n7
        · exact h2.elim
      · exact h2.elim
    · exact h2.elim
  · exact h1.elim
end
end Pyd
/-! Own work: lists of pairs of a pass (ints) and a strength (a fraction), and dicts of such: plain. -/
namespace Pyd
open PySem PySem.Spec PyProof.Rows L2
abbrev Fq := Int × Int
abbrev AD := List (List Int × Fq)
def kD (k : List Int) : Dv := .tup false (k.map .int)
def fD (v : Fq) : Dv := .tup true [.int v.1, .int v.2]
def eD (e : List Int × Fq) : Dv := .tup true [kD e.1, fD e.2]
def dD (l : AD) : Dv := .dct true .t (l.map fun e => kD e.1) (l.map fun e => fD e.2)
def kQ (k : List Int) : List Key := k.map Sum.inl
theorem kQ_inj : ∀ {a b : List Int}, kQ a = kQ b → a = b
  | [], [], _ => rfl
  | [], _ :: _, h => by cases h
  | _ :: _, [], h => by cases h
  | x :: a, y :: b, h => by
    have h1 := (List.cons.inj h).1
    have h2 := (List.cons.inj h).2
    cases h1
    rw [kQ_inj h2]
theorem keysK_ints : ∀ (k : List Int), keysK (k.map .int) = some (kQ k)
  | [] => rfl
  | x :: k => by
    show (match keyK (.int x), keysK (k.map .int) with | some a, some b => some (a :: b) | _, _ => none) = _
    rw [keysK_ints k]
    rfl
theorem keyT_kD (k : List Int) : keyT (kD k) = some (kQ k) := keysK_ints k
theorem keysT_dD : ∀ (l : AD), keysT (l.map fun e => kD e.1) = some (l.map fun e => kQ e.1)
  | [] => rfl
  | e :: l => by
    show (match keyT (kD e.1), keysT (l.map fun e => kD e.1) with | some a, some b => some (a :: b) | _, _ => none) = _
    rw [keyT_kD, keysT_dD l]
    rfl
def lookA : AD → List Int → Option Fq
  | [], _ => none
  | e :: l, k => if e.1 = k then some e.2 else lookA l k
def upA (k : List Int) (v : Fq) : AD → AD
  | [] => [(k, v)]
  | e :: l => if e.1 = k then (k, v) :: l else e :: upA k v l
theorem getA_dD (k : List Int) : ∀ (l : AD), getA (l.map fun e => kQ e.1) (l.map fun e => fD e.2) (kQ k) = (lookA l k).map fD
  | [] => rfl
  | e :: l => by
    rw [List.map_cons, List.map_cons, getA, lookA]
    by_cases h : e.1 = k
    · rw [if_pos h, if_pos (by rw [h])]
      rfl
    · rw [if_neg h, if_neg fun z => h (kQ_inj z), getA_dD k l]
theorem dGet_dD (l : AD) (k : List Int) : dGet (dD l) (kD k) = some ((lookA l k).map fD) := by
  show (match keysT (l.map fun (e : List Int × Fq) => kD e.1), keyT (kD k) with | some kk, some q => some (getA kk (l.map fun (e : List Int × Fq) => fD e.2) q) | _, _ => none) = _
  rw [keysT_dD, keyT_kD]
  simp only [getA_dD]
theorem hasQ_dD (k : List Int) : ∀ (l : AD), hasQ (l.map fun e => kQ e.1) (kQ k) = (lookA l k).isSome
  | [] => rfl
  | e :: l => by
    rw [List.map_cons, lookA]
    show (decide (kQ e.1 = kQ k) || hasQ (l.map fun e => kQ e.1) (kQ k)) = _
    by_cases h : e.1 = k
    · rw [if_pos h, h, decide_eq_true rfl]
      rfl
    · rw [if_neg h, decide_eq_false fun z => h (kQ_inj z), Bool.false_or, hasQ_dD k l]
theorem look_none {k : List Int} : ∀ {l : AD}, lookA l k = none ↔ k ∉ l.map (·.1)
  | [] => by simp [lookA]
  | e :: l => by
    rw [lookA, List.map_cons, List.mem_cons, not_or]
    by_cases h : e.1 = k
    · rw [if_pos h]
      constructor
      · intro z; cases z
      · intro z; exact absurd h.symm z.1
    · rw [if_neg h, look_none (l := l)]
      exact ⟨fun z => ⟨fun q => h q.symm, z⟩, fun z => z.2⟩
theorem putR_id {k : List Int} {v : Fq} : ∀ {l : AD}, k ∉ l.map (·.1) → putR (l.map fun e => kQ e.1) (kQ k) (fD v) (l.map fun e => fD e.2) = l.map fun e => fD e.2
  | [], _ => rfl
  | e :: l, h => by
    rw [List.map_cons, List.mem_cons, not_or] at h
    rw [List.map_cons, List.map_cons, putR, if_neg fun z => h.1 (kQ_inj z).symm, putR_id h.2]
theorem putR_dD {k : List Int} {v : Fq} : ∀ {l : AD}, (l.map (·.1)).Nodup → (lookA l k).isSome = true → putR (l.map fun e => kQ e.1) (kQ k) (fD v) (l.map fun e => fD e.2) = (upA k v l).map (fun e => fD e.2) ∧ (upA k v l).map (fun e => kD e.1) = l.map fun e => kD e.1
  | [], _, h => by cases h
  | e :: l, hn, h => by
    rw [List.map_cons] at hn
    obtain ⟨n1, n2⟩ := List.nodup_cons.mp hn
    rw [lookA] at h
    rw [List.map_cons, List.map_cons, putR, upA]
    by_cases q : e.1 = k
    · rw [if_pos (by rw [q]), if_pos q, putR_id (by rw [← q]; exact n1)]
      exact ⟨rfl, by rw [List.map_cons, List.map_cons, q]⟩
    · rw [if_neg q] at h
      obtain ⟨i1, i2⟩ := putR_dD n2 h
      rw [if_neg fun z => q (kQ_inj z), if_neg q, i1]
      exact ⟨rfl, by rw [List.map_cons, List.map_cons, i2]⟩
theorem upA_new {k : List Int} {v : Fq} : ∀ {l : AD}, lookA l k = none → upA k v l = l ++ [(k, v)]
  | [], _ => rfl
  | e :: l, h => by
    rw [lookA] at h
    split at h
    · cases h
    · rename_i q
      rw [upA, if_neg q, upA_new h]
      rfl
theorem dPut_dD {l : AD} (hn : (l.map (·.1)).Nodup) (k : List Int) (v : Fq) : dPut .t (l.map fun e => kD e.1) (l.map fun e => fD e.2) (kD k) (fD v) = some (dD (upA k v l)) := by
  unfold dPut
  simp only [keysT_dD, keyT_kD]
  unfold putKs putA
  rw [hasQ_dD]
  by_cases h : (lookA l k).isSome = true
  · rw [if_pos h, if_pos h]
    obtain ⟨i1, i2⟩ := putR_dD (v := v) hn h
    rw [i1]
    show some (Dv.dct true .t _ _) = some (Dv.dct true .t _ _)
    rw [i2]
  · rw [if_neg h, if_neg h]
    have h0 : lookA l k = none := by
      cases e : lookA l k with
      | none => rfl
      | some x => rw [e] at h; exact absurd rfl h
    rw [dD, upA_new h0, List.map_append, List.map_append]
    rfl
theorem keys_upA {k : List Int} {v : Fq} : ∀ {l : AD}, (upA k v l).map (·.1) = if k ∈ l.map (·.1) then l.map (·.1) else l.map (·.1) ++ [k]
  | [] => rfl
  | e :: l => by
    rw [upA]
    by_cases q : e.1 = k
    · rw [if_pos q, if_pos (by rw [List.map_cons, q]; exact .head _), List.map_cons, List.map_cons, q]
    · rw [if_neg q, List.map_cons, keys_upA (l := l), List.map_cons]
      by_cases h : k ∈ l.map (·.1)
      · rw [if_pos h, if_pos (.tail _ h)]
      · rw [if_neg h, if_neg fun z => by
          rcases List.mem_cons.mp z with z | z
          · exact q z.symm
          · exact h z]
        rfl
theorem nodup_upA {k : List Int} {v : Fq} {l : AD} (hn : (l.map (·.1)).Nodup) : ((upA k v l).map (·.1)).Nodup := by
  rw [keys_upA]
  split
  · exact hn
  · rename_i h
    rw [List.nodup_append]
    exact ⟨hn, List.nodup_cons.mpr ⟨(fun z => nomatch z), List.nodup_nil⟩, fun a ha b hb => by
      cases List.mem_singleton.mp hb
      exact fun z => h (z ▸ ha)⟩
theorem look_upA {k q : List Int} {v : Fq} : ∀ {l : AD}, lookA (upA k v l) q = if k = q then some v else lookA l q
  | [] => rfl
  | e :: l => by
    rw [upA]
    by_cases h : e.1 = k
    · rw [if_pos h, lookA, lookA]
      by_cases z : k = q
      · rw [if_pos z, if_pos z]
      · rw [if_neg z, if_neg z, if_neg fun y => z (h.symm.trans y)]
    · rw [if_neg h, lookA, look_upA (l := l), lookA]
      by_cases z : k = q
      · rw [if_pos z]
        by_cases y : e.1 = q
        · exact absurd (y.trans z.symm) h
        · rw [if_neg y, if_pos z]
      · rw [if_neg z, if_neg z]
/-! ### sorted -/
def srtA (l : AD) : AD := (sortK (l.map fun e => (e.1, e))).map (·.2)
theorem keysP_kD {m : Nat} : ∀ {l : AD}, (∀ e ∈ l, e.1.length = m) → keysP m (l.map fun e => kD e.1) = some (l.map (·.1))
  | [], _ => rfl
  | e :: l, h => by
    have hi : ∀ (k : List Int), intsD (k.map .int) = some k := by
      intro k
      induction k with
      | nil => rfl
      | cons x k ih => rw [List.map_cons, intsD, ih]; rfl
    have hk : keyP m (kD e.1) = some e.1 := by
      have hl := h e (.head _)
      show ((intsD ((e.1.map .int).take m)).bind fun js => if js.length = m then some js else none) = _
      rw [List.take_of_length_le (by rw [List.length_map, hl]; exact Nat.le_refl _), hi]
      show (if e.1.length = m then some e.1 else none) = _
      rw [if_pos hl]
    show (match keyP m (kD e.1), keysP m (l.map fun e => kD e.1) with | some a, some b => some (a :: b) | _, _ => none) = _
    rw [hk, keysP_kD fun x hx => h x (.tail _ hx)]
    rfl
theorem fzns_kD : ∀ (l : AD), fzns (l.map fun e => kD e.1) = true
  | [] => rfl
  | e :: l => by
    rw [List.map_cons, fzns, fzns_kD l]
    show (fzns (e.1.map Dv.int) && true) = true
    rw [fzns_ints]
    rfl
theorem sort_dD {m : Nat} (hm : 1 ≤ m) {l : AD} (hl : ∀ e ∈ l, e.1.length = m) (hn : (l.map (·.1)).Nodup) : oSortK m (.lst false (l.map fun e => kD e.1)) = some (.lst true ((srtA l).map fun e => kD e.1)) := by
  unfold oSortK
  simp only [keysP_kD hl]
  rw [if_pos ⟨hn, fzns_kD l, hm⟩]
  have e1 : (l.map (·.1)).zip (l.map fun e => kD e.1) = (l.map fun e => (e.1, e)).map fun q => (q.1, kD q.2.1) := by
    rw [List.zip_map', List.map_map]
    rfl
  rw [e1, sortK_map (fun e : List Int × Fq => kD e.1), srtA, List.map_map, List.map_map]
  rfl
theorem srtA_perm (l : AD) : (srtA l).Perm l := by
  have := (sortK_perm (l.map fun e => (e.1, e))).map (·.2)
  rw [List.map_map] at this
  have e : (l.map ((fun x : List Int × (List Int × Fq) => x.2) ∘ fun e => (e.1, e))) = l := by
    rw [show ((fun x : List Int × (List Int × Fq) => x.2) ∘ fun e : List Int × Fq => (e.1, e)) = id from rfl, List.map_id]
  rw [e] at this
  exact this
theorem srtA_srt (l : AD) : (srtA l).Pairwise fun x y => lexI y.1 x.1 = false := by
  have keyed : ∀ p ∈ sortK (l.map fun e => (e.1, e)), p.1 = p.2.1 := fun p hp => by
    obtain ⟨e, _, rfl⟩ := List.mem_map.mp ((sortK_perm _).mem_iff.mp hp)
    rfl
  exact List.pairwise_map.mpr ((sortK_srt (l.map fun e => (e.1, e))).imp_of_mem fun {p q} hp hq z => by rw [← keyed p hp, ← keyed q hq]; exact z)
theorem look_mem {k : List Int} {v : Fq} : ∀ {l : AD}, (l.map (·.1)).Nodup → (lookA l k = some v ↔ (k, v) ∈ l)
  | [], _ => by simp [lookA]
  | e :: l, hn => by
    rw [List.map_cons] at hn
    obtain ⟨n1, n2⟩ := List.nodup_cons.mp hn
    rw [lookA, List.mem_cons]
    by_cases h : e.1 = k
    · rw [if_pos h]
      constructor
      · intro z
        left
        rw [← h, ← Option.some.inj z]
      · rintro (z | z)
        · rw [← z]
        · exact absurd (List.mem_map.mpr ⟨(k, v), z, h.symm⟩) n1
    · rw [if_neg h, look_mem n2]
      constructor
      · exact fun z => .inr z
      · rintro (z | z)
        · exact absurd (by rw [← z]) h
        · exact z
/-- a sorted list of pairs is told by what it holds -/
theorem srtA_eq {l m : AD} (hl : (l.map (·.1)).Nodup) (hm : (m.map (·.1)).Nodup) (h : ∀ k, lookA l k = lookA m k) : srtA l = srtA m := by
  have nd : ∀ {l : AD}, (l.map (·.1)).Nodup → l.Nodup := fun {l} h => List.Pairwise.imp (fun {a b} z y => z (by rw [y])) (List.pairwise_map.mp h)
  have p : l.Perm m := by
    rw [List.perm_ext_iff_of_nodup (nd hl) (nd hm)]
    rintro ⟨k, v⟩
    rw [← look_mem hl, ← look_mem hm, h]
  refine perm_only (lt := fun x y => lexI x.1 y.1) (((srtA_perm l).trans p).trans (srtA_perm m).symm) (srtA_srt l) (srtA_srt m) fun x hx y hy ne => ?_
  have mx := (srtA_perm l).mem_iff.mp hx
  have my := (srtA_perm l).mem_iff.mp hy
  refine lexI_total fun z => ne ?_
  have a := (look_mem hl).mpr (show (x.1, x.2) ∈ l from mx)
  have b := (look_mem hl).mpr (show (y.1, y.2) ∈ l from my)
  rw [z, b] at a
  exact Prod.ext z (Option.some.inj a).symm
theorem srtA_id {l : AD} (hl : (l.map (·.1)).Nodup) (h : l.Pairwise fun x y => lexI y.1 x.1 = false) : srtA l = l := by
  refine perm_only (lt := fun x y => lexI x.1 y.1) (srtA_perm l) (srtA_srt l) h fun x hx y hy ne => ?_
  have mx := (srtA_perm l).mem_iff.mp hx
  have my := (srtA_perm l).mem_iff.mp hy
  refine lexI_total fun z => ne ?_
  have a := (look_mem hl).mpr (show (x.1, x.2) ∈ l from mx)
  have b := (look_mem hl).mpr (show (y.1, y.2) ∈ l from my)
  rw [z, b] at a
  exact Prod.ext z (Option.some.inj a).symm
/-! ### fractions -/
def pl (x y : Fq) : Fq := (fn (x.1 * y.2 + y.1 * x.2) (x.2 * y.2), fd (x.1 * y.2 + y.1 * x.2) (x.2 * y.2))
def tm (x y : Fq) : Fq := (fn (x.1 * y.1) (x.2 * y.2), fd (x.1 * y.1) (x.2 * y.2))
/-- a fraction in lowest terms, its bottom a divisor of L, no farther from 0 than C -/
structure Fok (L : Int) (C : Nat) (v : Fq) : Prop where
  p : 1 ≤ v.2
  g : Int.gcd v.1 v.2 = 1
  d : v.2 ∣ L
  a : v.1.natAbs ≤ C * v.2.natAbs
theorem pl_comm (x y : Fq) : pl x y = pl y x := by
  unfold pl
  rw [Int.add_comm (x.1 * y.2), Int.mul_comm x.2]
/-- v stands for n / d -/
def Rp (v : Fq) (n d : Int) : Prop := v.1 * d = n * v.2
theorem rp_only {u v : Fq} {n d : Int} (hd : d ≠ 0) (p : 1 ≤ u.2) (q : 1 ≤ v.2) (g : Int.gcd u.1 u.2 = 1) (h : Int.gcd v.1 v.2 = 1) (r : Rp u n d) (s : Rp v n d) : u = v := by
  have e : u.1 * v.2 = v.1 * u.2 := by
    refine Int.eq_of_mul_eq_mul_right hd ?_
    unfold Rp at r s
    calc u.1 * v.2 * d = (u.1 * d) * v.2 := by ac_rfl
      _ = (n * v.2) * u.2 := by rw [r]; ac_rfl
      _ = v.1 * u.2 * d := by rw [← s]; ac_rfl
  obtain ⟨a, b⟩ := frac_eq p q g h e
  exact Prod.ext a b
theorem pl_rp {x y : Fq} (px : 1 ≤ x.2) (py : 1 ≤ y.2) {n d m e : Int} (rx : Rp x n d) (ry : Rp y m e) : Rp (pl x y) (n * e + m * d) (d * e) := by
  have hb : x.2 * y.2 ≠ 0 := Int.mul_ne_zero (by omega) (by omega)
  have c := fnd_cross (t := x.1 * y.2 + y.1 * x.2) hb
  unfold Rp at *
  refine Int.eq_of_mul_eq_mul_right hb ?_
  show fn _ _ * (d * e) * (x.2 * y.2) = (n * e + m * d) * fd _ _ * (x.2 * y.2)
  generalize fn (x.1 * y.2 + y.1 * x.2) (x.2 * y.2) = f at c
  generalize fd (x.1 * y.2 + y.1 * x.2) (x.2 * y.2) = g at c
  calc f * (d * e) * (x.2 * y.2) = (f * (x.2 * y.2)) * (d * e) := by ac_rfl
    _ = (x.1 * y.2 + y.1 * x.2) * g * (d * e) := by rw [c]
    _ = (x.1 * d) * (y.2 * g * e) + (y.1 * e) * (x.2 * g * d) := by
      rw [Int.add_mul, Int.add_mul]
      congr 1 <;> ac_rfl
    _ = (n * e + m * d) * g * (x.2 * y.2) := by
      rw [rx, ry, Int.add_mul, Int.add_mul]
      congr 1 <;> ac_rfl
theorem tm_rp {x y : Fq} (px : 1 ≤ x.2) (py : 1 ≤ y.2) {n d m e : Int} (rx : Rp x n d) (ry : Rp y m e) : Rp (tm x y) (n * m) (d * e) := by
  have hb : x.2 * y.2 ≠ 0 := Int.mul_ne_zero (by omega) (by omega)
  have c := fnd_cross (t := x.1 * y.1) hb
  unfold Rp at *
  refine Int.eq_of_mul_eq_mul_right hb ?_
  show fn _ _ * (d * e) * (x.2 * y.2) = (n * m) * fd _ _ * (x.2 * y.2)
  generalize fn (x.1 * y.1) (x.2 * y.2) = f at c
  generalize fd (x.1 * y.1) (x.2 * y.2) = g at c
  calc f * (d * e) * (x.2 * y.2) = (f * (x.2 * y.2)) * (d * e) := by ac_rfl
    _ = (x.1 * y.1) * g * (d * e) := by rw [c]
    _ = (x.1 * d) * (y.1 * e) * g := by ac_rfl
    _ = (n * m) * g * (x.2 * y.2) := by rw [rx, ry]; ac_rfl
theorem pl_low {x y : Fq} (px : 1 ≤ x.2) (py : 1 ≤ y.2) : 1 ≤ (pl x y).2 ∧ Int.gcd (pl x y).1 (pl x y).2 = 1 := by
  have hb : x.2 * y.2 ≠ 0 := Int.mul_ne_zero (by omega) (by omega)
  exact ⟨fd_pos hb, fnd_cop hb⟩
theorem tm_low {x y : Fq} (px : 1 ≤ x.2) (py : 1 ≤ y.2) : 1 ≤ (tm x y).2 ∧ Int.gcd (tm x y).1 (tm x y).2 = 1 := by
  have hb : x.2 * y.2 ≠ 0 := Int.mul_ne_zero (by omega) (by omega)
  exact ⟨fd_pos hb, fnd_cop hb⟩
theorem rp_self (x : Fq) : Rp x x.1 x.2 := rfl
/-- (x + y) b = x b + y b -/
theorem tm_pl {x y b : Fq} (px : 1 ≤ x.2) (py : 1 ≤ y.2) (pb : 1 ≤ b.2) : tm (pl x y) b = pl (tm x b) (tm y b) := by
  have l1 := pl_low px py
  have l2 := tm_low px pb
  have l3 := tm_low py pb
  have l4 := tm_low l1.1 pb
  have l5 := pl_low l2.1 l3.1
  have r1 := tm_rp l1.1 pb (pl_rp px py (rp_self x) (rp_self y)) (rp_self b)
  have r2 := pl_rp l2.1 l3.1 (tm_rp px pb (rp_self x) (rp_self b)) (tm_rp py pb (rp_self y) (rp_self b))
  have r1' : Rp (tm (pl x y) b) (x.1 * b.1 * (y.2 * b.2) + y.1 * b.1 * (x.2 * b.2)) (x.2 * b.2 * (y.2 * b.2)) := by
    unfold Rp at *
    have e1 : x.2 * b.2 * (y.2 * b.2) = x.2 * y.2 * b.2 * b.2 := by ac_rfl
    have e2 : x.1 * b.1 * (y.2 * b.2) + y.1 * b.1 * (x.2 * b.2) = (x.1 * y.2 + y.1 * x.2) * b.1 * b.2 := by
      rw [Int.add_mul, Int.add_mul]
      congr 1 <;> ac_rfl
    rw [e1, e2]
    calc (tm (pl x y) b).1 * (x.2 * y.2 * b.2 * b.2) = (tm (pl x y) b).1 * (x.2 * y.2 * b.2) * b.2 := by ac_rfl
      _ = (x.1 * y.2 + y.1 * x.2) * b.1 * (tm (pl x y) b).2 * b.2 := by rw [r1]
      _ = (x.1 * y.2 + y.1 * x.2) * b.1 * b.2 * (tm (pl x y) b).2 := by ac_rfl
  exact rp_only (Int.mul_ne_zero (Int.mul_ne_zero (by omega) (by omega)) (Int.mul_ne_zero (by omega) (by omega))) l4.1 l5.1 l4.2 l5.2 r1' r2
theorem dvd_of {v : Fq} {n d L : Int} (g : Int.gcd v.1 v.2 = 1) (hd : d ≠ 0) (r : Rp v n d) (h : d ∣ n * L) : v.2 ∣ L := by
  -- v.1 L is a multiple of v.2
  obtain ⟨q, e⟩ := h
  have k : v.1 * L = q * v.2 := by
    refine Int.eq_of_mul_eq_mul_right hd ?_
    unfold Rp at r
    calc v.1 * L * d = (v.1 * d) * L := by ac_rfl
      _ = n * L * v.2 := by rw [r]; ac_rfl
      _ = d * q * v.2 := by rw [e]
      _ = q * v.2 * d := by ac_rfl
  exact cop_dvd (by rw [Int.gcd_comm]; exact g) ⟨q, by rw [k, Int.mul_comm]⟩
theorem abs_of {v : Fq} {n d : Int} {C : Nat} (p : 1 ≤ v.2) (hd : d ≠ 0) (r : Rp v n d) (h : n.natAbs ≤ C * d.natAbs) : v.1.natAbs ≤ C * v.2.natAbs := by
  unfold Rp at r
  have e : v.1.natAbs * d.natAbs = n.natAbs * v.2.natAbs := by rw [← Int.natAbs_mul, ← Int.natAbs_mul, r]
  have h2 : v.1.natAbs * d.natAbs ≤ (C * v.2.natAbs) * d.natAbs := by
    rw [e]
    calc n.natAbs * v.2.natAbs ≤ (C * d.natAbs) * v.2.natAbs := Nat.mul_le_mul_right _ h
      _ = (C * v.2.natAbs) * d.natAbs := by ac_rfl
  exact Nat.le_of_mul_le_mul_right h2 (Int.natAbs_pos.mpr hd)
theorem pl_ok {L : Int} {C D : Nat} {x y : Fq} (hx : Fok L C x) (hy : Fok L D y) : Fok L (C + D) (pl x y) := by
  have hb : x.2 * y.2 ≠ 0 := Int.mul_ne_zero (by have := hx.p; omega) (by have := hy.p; omega)
  have l := pl_low hx.p hy.p
  have r := pl_rp hx.p hy.p (rp_self x) (rp_self y)
  refine ⟨l.1, l.2, dvd_of l.2 hb r ?_, abs_of l.1 hb r ?_⟩
  · obtain ⟨q, e⟩ := hx.d
    obtain ⟨s, f⟩ := hy.d
    refine ⟨x.1 * q + y.1 * s, ?_⟩
    rw [Int.add_mul, Int.mul_add]
    congr 1
    · rw [e]; ac_rfl
    · rw [f]; ac_rfl
  · refine Nat.le_trans (Int.natAbs_add_le _ _) ?_
    rw [Int.natAbs_mul, Int.natAbs_mul, Int.natAbs_mul, Nat.add_mul]
    refine Nat.add_le_add ?_ ?_
    · rw [← Nat.mul_assoc]
      exact Nat.mul_le_mul_right _ hx.a
    · calc y.1.natAbs * x.2.natAbs ≤ (D * y.2.natAbs) * x.2.natAbs := Nat.mul_le_mul_right _ hy.a
        _ = D * (x.2.natAbs * y.2.natAbs) := by ac_rfl
theorem tm_ok {L M : Int} {C D : Nat} {x y : Fq} (hx : Fok L C x) (hy : Fok M D y) : Fok (L * M) (C * D) (tm x y) := by
  have hb : x.2 * y.2 ≠ 0 := Int.mul_ne_zero (by have := hx.p; omega) (by have := hy.p; omega)
  have l := tm_low hx.p hy.p
  have r := tm_rp hx.p hy.p (rp_self x) (rp_self y)
  refine ⟨l.1, l.2, dvd_of l.2 hb r ?_, abs_of l.1 hb r ?_⟩
  · obtain ⟨q, e⟩ := hx.d
    obtain ⟨s, f⟩ := hy.d
    refine ⟨x.1 * y.1 * (q * s), ?_⟩
    rw [e, f]
    ac_rfl
  · rw [Int.natAbs_mul, Int.natAbs_mul]
    calc x.1.natAbs * y.1.natAbs ≤ (C * x.2.natAbs) * (D * y.2.natAbs) := Nat.mul_le_mul hx.a hy.a
      _ = C * D * (x.2.natAbs * y.2.natAbs) := by ac_rfl
theorem Fok.up {L : Int} {C D : Nat} {x : Fq} (h : Fok L C x) (hC : C ≤ D) : Fok L D x := ⟨h.p, h.g, h.d, Nat.le_trans h.a (Nat.mul_le_mul_right _ hC)⟩
theorem zero_ok {L : Int} : Fok L 0 (0, 1) := ⟨by decide, by decide, ⟨L, by simp⟩, by decide⟩
theorem pl_zero {x : Fq} (p : 1 ≤ x.2) (g : Int.gcd x.1 x.2 = 1) : pl (0, 1) x = x := by
  have l := pl_low (x := (0, 1)) (y := x) (by decide) p
  have r := pl_rp (x := (0, 1)) (y := x) (by decide) p (rp_self _) (rp_self x)
  refine rp_only (n := x.1) (d := x.2) (by omega) l.1 p l.2 g ?_ (rp_self x)
  unfold Rp at *
  simpa using r
theorem tm_zero {b : Fq} (p : 1 ≤ b.2) : tm (0, 1) b = (0, 1) := by
  have hb : (1 : Int) * b.2 ≠ 0 := by omega
  show (fn (0 * b.1) (1 * b.2), fd (0 * b.1) (1 * b.2)) = _
  rw [Int.zero_mul]
  have z := fnd_zero hb
  rw [z.1, z.2]
theorem sum_tm {b : Fq} (pb : 1 ≤ b.2) : ∀ (vs : List Fq) (x : Fq), 1 ≤ x.2 → (∀ v ∈ vs, 1 ≤ v.2) → (vs.map fun v => tm v b).foldl pl (tm x b) = tm (vs.foldl pl x) b
  | [], _, _, _ => rfl
  | v :: vs, x, px, h => by
    have pv := h v (.head _)
    rw [List.map_cons, List.foldl_cons, List.foldl_cons, ← tm_pl px pv pb, sum_tm pb vs (pl x v) (pl_low px pv).1 fun w hw => h w (.tail _ hw)]
/-! ### in the trees' words -/
theorem fz_kD (k : List Int) : fz (kD k) = kD k := fz_id _ (fzns_ints k)
theorem fz_fD (v : Fq) : fz (fD v) = fD v := rfl
theorem fzn_kD (k : List Int) : fzn (kD k) = true := fzns_ints k
theorem oDGet_dD (l : AD) (k : List Int) : oDGet (dD l) (kD k) = (lookA l k).map fD := by
  unfold oDGet
  rw [dGet_dD]
  rfl
theorem oDIn_dD (l : AD) (k : List Int) : oDIn false (kD k) (dD l) = some (.bl (lookA l k).isSome) := by
  unfold oDIn
  rw [dGet_dD]
  cases lookA l k <;> rfl
theorem fzns_fD : ∀ (l : AD), fzns (l.map fun e => fD e.2) = true
  | [] => rfl
  | e :: l => by
    rw [List.map_cons, fzns, fzns_fD l]
    rfl
theorem gDPut_dD {i : Nat} {fk : SP} {fv : SE} {ρ ρ1 : En} {l : AD} {k : List Int} {v : Fq} (hv : fv ρ = .ok (fD v) ρ1) (hi : ρ1[i]? = some (some (dD l))) (hk : fk ρ1 = some (kD k)) (hn : (l.map (·.1)).Nodup) (hz : l.length < 900000) : gDPut i fk fv ρ = .nx (ρ1.set i (some (dD (upA k v l)))) := by
  unfold gDPut bndS
  rw [hv]
  simp only [hi, hk]
  have e : dPut .t (l.map fun e => kD e.1) (l.map fun e => fD e.2) (kD k) (fz (fD v)) = some (dD (upA k v l)) := by rw [fz_fD]; exact dPut_dD hn k v
  show (if fzns (l.map fun e => fD e.2) = true ∧ (l.map fun e => fD e.2).length < 900000 then _ else _) = _
  rw [if_pos ⟨fzns_fD l, by rw [List.length_map]; exact hz⟩]
  simp only [e]
theorem gDPutE_dD {i : Nat} {fk fv : SE} {ρ ρ1 ρ2 : En} {l : AD} {k : List Int} {v : Fq} {x : Dv} (hv : fv ρ = .ok (fD v) ρ1) (h1 : ρ1[i]? = some (some x)) (hk : fk ρ1 = .ok (kD k) ρ2) (hi : ρ2[i]? = some (some (dD l))) (hn : (l.map (·.1)).Nodup) (hz : l.length < 900000) : gDPutE i fk fv ρ = .nx (ρ2.set i (some (dD (upA k v l)))) := by
  unfold gDPutE bndS
  rw [hv]
  simp only [h1]
  rw [hk]
  simp only [hi]
  have e : dPut .t (l.map fun e => kD e.1) (l.map fun e => fD e.2) (kD k) (fz (fD v)) = some (dD (upA k v l)) := by rw [fz_fD]; exact dPut_dD hn k v
  show (if fzns (l.map fun e => fD e.2) = true ∧ (l.map fun e => fD e.2).length < 900000 then _ else _) = _
  rw [if_pos ⟨fzns_fD l, by rw [List.length_map]; exact hz⟩]
  simp only [e]
theorem comp_dD {i j : Nat} {ρ : En} {acc : AD} (hij : j ≠ i) (hj : j < ρ.length) (hi : ρ[i]? = some (some (dD acc))) (hl : ∀ e ∈ acc, e.1.length = 3) (hn : (acc.map (·.1)).Nodup) (hz : acc.length ≤ 1000) :
    ∃ ρ', sLc [j] (Pyd.iAny (sSortD 3 (pVar i))) (kName j) tYs (sTup true (sA1 (sVar j) (sA1 (sP (pBin oDGet (pVar i) (pVar j))) sA0))) ρ = .ok (.lst true ((srtA acc).map eD)) ρ' := by
  have e1 : pVar i ρ = some (dD acc) := by unfold pVar; rw [hi]
  have e2 : sSortD 3 (pVar i) ρ = .ok (.lst true ((srtA acc).map fun e => kD e.1)) ρ := by
    unfold sSortD
    rw [e1]
    show (match oSortK 3 (.lst false (acc.map fun e => kD e.1)) with | some e => Rs.ok e ρ | none => .stk) = _
    rw [sort_dD (by decide) hl hn]
  have e3 : Pyd.iAny (sSortD 3 (pVar i)) ρ = .ok ((srtA acc).map fun e => kD e.1) ρ := by
    unfold Pyd.iAny
    rw [e2]
    show (if fzns ((srtA acc).map fun e => kD e.1) = true then _ else _) = _
    rw [if_pos (fzns_kD _)]
  have ln : (srtA acc).length ≤ 1000 := by rw [(srtA_perm acc).length_eq]; exact hz
  have hw : wipeE ρ [j] = ρ.set j none := rfl
  have k := lcL_map (vs := [j]) (gt := kName j) (ft := tYs) (fe := sTup true (sA1 (sVar j) (sA1 (sP (pBin oDGet (pVar i) (pVar j))) sA0))) (fun d => .tup true [d, (oDGet (dD acc) d).getD .non]) (ρ.set j none) ((srtA acc).map fun e => kD e.1) [] (fun d hd => by
    obtain ⟨e, he, rfl⟩ := List.mem_map.mp hd
    have hlk : lookA acc e.1 = some e.2 := (look_mem hn).mpr ((srtA_perm acc).mem_iff.mp he)
    have hjw : j < (ρ.set j none).length := by rw [List.length_set]; exact hj
    have a1 : ((ρ.set j none).set j (some (kD e.1)))[j]? = some (some (kD e.1)) := List.getElem?_set_self hjw
    have a2 : ((ρ.set j none).set j (some (kD e.1)))[i]? = some (some (dD acc)) := by rw [List.getElem?_set_ne hij, List.getElem?_set_ne hij]; exact hi
    have a3 : ((ρ.set j none).set j (some (kD e.1))).set j (some (kD e.1)) = (ρ.set j none).set j (some (kD e.1)) := List.set_set ..
    refine ⟨(ρ.set j none).set j (some (kD e.1)), (ρ.set j none).set j (some (kD e.1)), (ρ.set j none).set j (some (kD e.1)), ?_, rfl, ?_, ?_⟩
    · unfold kName
      rw [if_pos hjw, fz_kD]
    · have s1 : sVar j ((ρ.set j none).set j (some (kD e.1))) = .ok (kD e.1) ((ρ.set j none).set j (some (kD e.1))) := by
        unfold sVar
        simp only [a1, fz_kD, a3]
      have s2 : sP (pBin oDGet (pVar i) (pVar j)) ((ρ.set j none).set j (some (kD e.1))) = .ok (fD e.2) ((ρ.set j none).set j (some (kD e.1))) := by
        unfold sP pBin pVar
        simp only [a1, a2, Pyd.o2, oDGet_dD, hlk, Option.map_some]
        rfl
      unfold sTup sA1
      simp only [s1, Rs.bnd, s2, sA0, oDGet_dD, hlk, Option.map_some, Option.getD_some]
      rfl
    · show ((ρ.set j none).set j (some (kD e.1))).set j none = _
      rw [List.set_set, List.set_set]) (by rw [List.length_map]; show 0 + _ ≤ _; omega)
  have em : ((srtA acc).map fun e => kD e.1).map (fun d => Dv.tup true [d, (oDGet (dD acc) d).getD .non]) = (srtA acc).map eD := by
    rw [List.map_map]
    refine List.map_congr_left fun e he => ?_
    have hlk : lookA acc e.1 = some e.2 := (look_mem hn).mpr ((srtA_perm acc).mem_iff.mp he)
    show Dv.tup true [kD e.1, (oDGet (dD acc) (kD e.1)).getD .non] = _
    rw [oDGet_dD, hlk]
    rfl
  refine ⟨backE ρ (ρ.set j none) [j], ?_⟩
  unfold sLc
  rw [e3]
  simp only [Rs.bnd, hw, k]
  rw [List.nil_append, em]
/-! ### added up -/
def st (acc : AD) (e : List Int × Fq) : AD := upA e.1 (match lookA acc e.1 with | some v => pl v e.2 | none => e.2) acc
structure Aok (L : Int) (C : Nat) (l : AD) : Prop where
  n : (l.map (·.1)).Nodup
  k : ∀ e ∈ l, e.1.length = 3
  f : ∀ e ∈ l, Fok L C e.2
theorem upA_mem {k : List Int} {v : Fq} {e : List Int × Fq} : ∀ {l : AD}, e ∈ upA k v l → e = (k, v) ∨ e ∈ l
  | [], h => .inl (List.mem_singleton.mp h)
  | x :: l, h => by
    rw [upA] at h
    split at h
    · rcases List.mem_cons.mp h with z | z
      · exact .inl z
      · exact .inr (.tail _ z)
    · rcases List.mem_cons.mp h with z | z
      · exact .inr (z ▸ .head _)
      · rcases upA_mem z with y | y
        · exact .inl y
        · exact .inr (.tail _ y)
theorem upA_len {k : List Int} {v : Fq} : ∀ {l : AD}, (upA k v l).length ≤ l.length + 1
  | [] => Nat.le_refl _
  | x :: l => by
    rw [upA]
    split
    · simp
    · rw [List.length_cons, List.length_cons]
      have := upA_len (k := k) (v := v) (l := l)
      omega
theorem look_in {k : List Int} {v : Fq} : ∀ {l : AD}, lookA l k = some v → (k, v) ∈ l
  | [], h => by cases h
  | x :: l, h => by
    rw [lookA] at h
    split at h
    · rename_i q
      cases h
      rw [← q]
      exact .head _
    · exact .tail _ (look_in h)
theorem st_ok {L : Int} {C D : Nat} {acc : AD} {e : List Int × Fq} (h : Aok L C acc) (he : Fok L D e.2) (hk : e.1.length = 3) : Aok L (C + D) (st acc e) := by
  have hv : Fok L (C + D) (match lookA acc e.1 with | some v => pl v e.2 | none => e.2) := by
    cases q : lookA acc e.1 with
    | some v => exact pl_ok (h.f _ (look_in q)) he
    | none => exact he.up (by omega)
  refine ⟨nodup_upA h.n, fun x hx => ?_, fun x hx => ?_⟩
  · rcases upA_mem hx with z | z
    · rw [z]; exact hk
    · exact h.k x z
  · rcases upA_mem hx with z | z
    · rw [z]; exact hv
    · exact (h.f x z).up (by omega)
theorem look_st {acc : AD} {e : List Int × Fq} {q : List Int} : lookA (st acc e) q = if e.1 = q then some (match lookA acc q with | some v => pl v e.2 | none => e.2) else lookA acc q := by
  unfold st
  rw [look_upA]
  by_cases h : e.1 = q
  · rw [if_pos h, if_pos h, h]
  · rw [if_neg h, if_neg h]
/-- a list of pairs with unlike passes is added -/
theorem look_fold {q : List Int} : ∀ (l acc : AD), (l.map (·.1)).Nodup → lookA (l.foldl st acc) q = match lookA l q with | some s => some (match lookA acc q with | some v => pl v s | none => s) | none => lookA acc q
  | [], acc, _ => rfl
  | e :: l, acc, hn => by
    rw [List.map_cons] at hn
    obtain ⟨n1, n2⟩ := List.nodup_cons.mp hn
    rw [List.foldl_cons, look_fold l _ n2, look_st, lookA]
    by_cases h : e.1 = q
    · have hq : lookA l q = none := look_none.mpr (h ▸ n1)
      rw [hq, if_pos h, if_pos h]
    · rw [if_neg h, if_neg h]
theorem look_two {a b : AD} {q : List Int} (ha : (a.map (·.1)).Nodup) (hb : (b.map (·.1)).Nodup) : lookA ((a ++ b).foldl st []) q = match lookA a q, lookA b q with | some x, some y => some (pl x y) | some x, none => some x | none, y => y := by
  rw [List.foldl_append, look_fold b _ hb, look_fold a [] ha]
  show (match lookA b q with | some s => some (match (match lookA a q with | some s => some s | none => none) with | some v => pl v s | none => s) | none => (match lookA a q with | some s => some s | none => none)) = _
  cases lookA a q <;> cases lookA b q <;> rfl
theorem look_swap {a b : AD} {q : List Int} (ha : (a.map (·.1)).Nodup) (hb : (b.map (·.1)).Nodup) : lookA ((a ++ b).foldl st []) q = lookA ((b ++ a).foldl st []) q := by
  rw [look_two ha hb, look_two hb ha]
  cases lookA a q with
  | none => cases lookA b q <;> rfl
  | some x =>
    cases lookA b q with
    | none => rfl
    | some y => show some (pl x y) = some (pl y x); rw [pl_comm]
theorem fold_ok {L : Int} {C D : Nat} : ∀ (l acc : AD), Aok L C acc → (∀ e ∈ l, e.1.length = 3 ∧ Fok L D e.2) → Aok L (C + l.length * D) (l.foldl st acc)
  | [], acc, h, _ => by simpa using h
  | e :: l, acc, h, hl => by
    have h1 := st_ok h (hl e (.head _)).2 (hl e (.head _)).1
    have h2 := fold_ok l _ h1 fun x hx => hl x (.tail _ hx)
    rw [List.foldl_cons, List.length_cons, Nat.add_mul, Nat.one_mul, show C + (l.length * D + D) = C + D + l.length * D by omega]
    exact h2
theorem nil_ok {L : Int} : Aok L 0 [] := ⟨List.nodup_nil, (fun _ z => nomatch z), fun _ z => nomatch z⟩
theorem fold_len : ∀ (l acc : AD), (l.foldl st acc).length ≤ acc.length + l.length
  | [], acc => Nat.le_refl _
  | e :: l, acc => by
    have h1 := fold_len l (st acc e)
    have h2 : (st acc e).length ≤ acc.length + 1 := upA_len
    rw [List.foldl_cons, List.length_cons]
    omega
end Pyd
set_option maxRecDepth 100000
namespace L_beamtable_k26_joined_scaled
open PySem PySem.Spec PyProof.Rows L2 Pyd

def topS (i : Nat) : Stmt := PySem.Challenge.pw_beamtable_k26_joined_scaled.main.body.getD i (.Pass ⟨0, 0, 0, 0⟩)
def k_NONE : Dv := (.tup true [(.int 0), (.int 1)])
def ti_0 : List (Str × Bool) := [("NoFraction", false), ("NoStrength", true)]
def ti_1 : List (Str × Bool) := [("NoFraction", true), ("NoStrength", true)]
def ti_2 : List (Str × Bool) := [("NoFraction", false), ("NoStrength", false)]
def tc_0 : List (Str × Bool) := [("NoFraction", true), ("NoStrength", true)]
theorem ne_NoFraction__NoStrength : ((("NoFraction" : Str) = "NoStrength") = False) := eq_false (by decide +kernel)
theorem ne_NoStrength__NoFraction : ((("NoStrength" : Str) = "NoFraction") = False) := eq_false (by decide +kernel)
def LL : Int := 69720375229712477164533808935312303556800
theorem LL_dvd {b : Int} (h : 1 ≤ b) (h2 : b ≤ 97) : b ∣ LL := by
  have all : ∀ k ∈ List.range 98, k = 0 ∨ 69720375229712477164533808935312303556800 % k = 0 := by decide +kernel
  have hk : b.toNat < 98 := by omega
  rcases all b.toNat (List.mem_range.mpr hk) with z | z
  · omega
  · have d : b.toNat ∣ 69720375229712477164533808935312303556800 := Nat.dvd_of_mod_eq_zero z
    have d2 : (b.toNat : Int) ∣ ((69720375229712477164533808935312303556800 : Nat) : Int) := Int.natCast_dvd_natCast.mpr d
    rwa [Int.toNat_of_nonneg (by omega)] at d2
theorem LL_lt : LL.natAbs < 2 ^ 150 := by decide +kernel
theorem LL_pos : 0 < LL := by decide +kernel
/-- sizes -/
theorem fok_z {M : Int} {C : Nat} {v : Fq} (h : Fok M C v) (hM : 0 < M) (hm : M.natAbs < 2 ^ 300) (hC : C ≤ 2 ^ 300) : v.1.natAbs < 2 ^ 601 ∧ v.2.natAbs < 2 ^ 300 := by
  have h2 : v.2 ≤ M := Int.le_of_dvd hM h.d
  have p := h.p
  have hv : v.2.natAbs < 2 ^ 300 := by omega
  refine ⟨?_, hv⟩
  have := h.a
  have h3 : C * v.2.natAbs ≤ 2 ^ 300 * 2 ^ 300 := Nat.mul_le_mul hC (by omega)
  have h4 : (2 : Nat) ^ 300 * 2 ^ 300 < 2 ^ 601 := by rw [← Nat.pow_add]; exact Nat.pow_lt_pow_right (by decide) (by decide)
  omega
theorem up4 {a : Int} {k : Nat} (h : a.natAbs < 2 ^ k) (hk : k ≤ 4000) : a.natAbs < 2 ^ 4000 := Nat.lt_of_lt_of_le h (Nat.pow_le_pow_right (by decide) hk)
theorem mul_lt {a b : Int} {x y : Nat} (ha : a.natAbs < 2 ^ x) (hb : b.natAbs < 2 ^ y) : (a * b).natAbs < 2 ^ (x + y) := by
  rw [Int.natAbs_mul, Nat.pow_add]
  exact Nat.mul_lt_mul'' ha hb
/-- a strength -/
structure Str1 (v : Fq) : Prop where
  f : Fok LL (10 ^ 30) v
  p : 0 < v.1
theorem low_str {t b : Int} (ht : 1 ≤ t) (ht2 : t.natAbs ≤ 10 ^ 30) (hb : 1 ≤ b) (hb2 : b ≤ 97) : Str1 (fn t b, fd t b) := by
  have b0 : b ≠ 0 := by omega
  have fp : 0 < fby t b := by
    have g := gcd_pos' (t := t) b0
    unfold fby
    rw [if_neg (by omega)]
    omega
  refine ⟨⟨fd_pos b0, fnd_cop b0, ?_, ?_⟩, ?_⟩
  · exact Int.dvd_trans ⟨fby t b, (fd_mul t b).symm⟩ (LL_dvd hb hb2)
  · have h1 := fn_le (t := t) b0
    have h2 := fd_pos (t := t) b0
    have h3 : 10 ^ 30 * 1 ≤ 10 ^ 30 * (fd t b).natAbs := Nat.mul_le_mul_left _ (by omega)
    show (fn t b).natAbs ≤ 10 ^ 30 * (fd t b).natAbs
    omega
  · have e1 := fn_mul t b
    exact Int.pos_of_mul_pos_left (b := fby t b) (by rw [e1]; omega) fp

/-! ### _law_low -/
abbrev st_law_low : Stmt := topS 20
theorem sc_law_low : FnScope ["_law_top", "_law_bottom", "_law_one", "_law_other"] ["_law_top", "_law_bottom"] (defScope st_law_low) := ⟨rfl, rfl, rfl, by decide +kernel, rfl, by decide +kernel, by decide +kernel⟩
noncomputable def b_law_low_1 : SS := (gPar 2 3 (sA1 (sVar 3) (sA1 (sP (pBin oModA (pVar 2) (pVar 3))) sA0)))
noncomputable def t_law_low_1 : ST := (tP (pBin oNe (pVar 3) (pC (.int 0))))
noncomputable def g_law_low : SS := (gSeq (gSet 2 (sVar 0))
  (gSeq (gSet 3 (sVar 1))
  (gSeq (gWh t_law_low_1
  b_law_low_1)
  (gRet (sTup true (sA1 (sP (pBin oDivA (pVar 0) (pVar 2))) (sA1 (sP (pBin oDivA (pVar 1) (pVar 2))) sA0)))))))
noncomputable def sem_law_low : List Dv → Rz := semB 4 g_law_low
def s_law_low : List Dv → Rz
  | [.int t, .int b] => if 0 ≤ t ∧ 1 ≤ b ∧ b.natAbs < 2 ^ 8000 then .ok (.tup true [.int (fn t b), .int (fd t b)]) else .stk
  | _ => .stk
theorem wh_law_low (t b : Int) (x y : Nat) : ∃ ρ', gWh t_law_low_1 b_law_low_1 [some (.int t), some (.int b), some (.int x), some (.int y)] = .nx ρ' ∧ ρ' = [some (.int t), some (.int b), some (.int (Nat.gcd x y)), some (.int 0)] := by
  refine gWh_gcd (fun x y ρ => ρ = [some (.int t), some (.int b), some (.int x), some (.int y)]) (fun x y ρ h0 hb => ?_) (fun x ρ h0 => ?_) rfl
  · subst h0
    have hp : (0 : Int) < y := by omega
    have hq : ((y : Int) == 0) = false := by rw [beq_eq_false_iff_ne]; omega
    refine ⟨[some (.int t), some (.int b), some (.int x), some (.int y)], _, ?_, ?_, rfl⟩
    · unfold t_law_low_1
      simp only [semB, List.map_cons, List.map_nil, List.length_cons, List.length_nil, List.replicate, List.cons_append, List.nil_append, Nat.reduceAdd, Nat.reduceSub, Nat.zero_add, gSeq, gNx, bndS, gSet, gDrop, gRet, gRetN, gIf, gBrk, gRaise, gAsg, gPar, Rs.bnd, Rz.to, pVar, pC, pBin, pUn, Pyd.o2, pChain, pA0, pA1, pCall, sP, sVar, sC, sA0, sA1, sTup, sLst, sBin, sFz, sCallB, sCallN, tP, tE, tNt, tAn, tOrr, sAnd, sOr, sNot, sIf, kName, kNil, kCons, Pyd.kTup, oI, oAddS, oAddI, oSub, oXor, oLt, oLe, oGt, oGe, oNeg, oIx, cLen, cAbs, cAll, cAny, bls, cMax2, cMin2, cInt, fz, fzs, fzn, fzns, dEq_int, dEq_str, dEq_bl, dEq_non, dEq_tup, dEq_lst, dEqs_nil, dEqs_cons, dEqs_n1, dEqs_n2, dok, oEq, oNe, oIsN, oNotN, oIsB, tyD, isB, List.getElem?_cons_zero, List.getElem?_cons_succ, List.set_cons_zero, List.set_cons_succ, Option.bind_some, Option.bind_none, Option.map_some, Option.map_none, if_true, if_false, ite_true, ite_false, Bool.not_true, Bool.not_false, Bool.and_true, Bool.true_and, Bool.and_self, Bool.false_and, Bool.and_false, Bool.or_true, Bool.true_or, Bool.or_false, Bool.false_or, decide_true, decide_false, eq_self_iff_true, and_self, true_and, and_true, List.all_cons, List.all_nil, Nat.lt_add_one, Nat.reduceLT, Nat.reduceLeDiff, Nat.zero_lt_succ, gFor, iLst, Pyd.iTup, Pyd.iAny, Option.some_inj, reduceCtorEq, Bool.false_eq_true, beq_self_eq_true, id_eq, Nat.le_refl, Nat.zero_le, Int.reduceBEq, Int.reduceEq, Int.reduceLT, Int.reduceLE, Int.reduceAdd, Int.reduceSub, Int.reduceMul, Int.reduceNeg, ↓reduceIte, Int.reduceToNat, sLc, Int.toNat_zero, Int.toNat_one, List.getElem?_nil, Int.cast_ofNat_Int, Int.natCast_add, wipeE, backE, tYs, sAdd, oAdd, sSl, oSl, pNo, pPart, decide_eq_true_eq, Bool.not_eq_true', decide_not, bne, Int.add_sub_cancel, Int.sub_add_cancel, Int.reducePow, gCnt, Int.reduceGT, Int.reduceGE, Int.reduceNe, ne_eq, not_true_eq_false, not_false_eq_true, String.reduceEq, String.reduceBEq, Bool.or_self, oMul_r, oMul_l, oDivA_pos, oModA_pos, oPow_10_30, oPow_10_60, oPow_10_4, cut_63, cut_40, cut_60, fzns_ints, Int.reduceAbs, Nat.reducePow, List.length_map, List.length_take, atI_0, atI_1, atI_2, atI_3, atI_4, atI_5, Pyd.iRng1, Pyd.iRng2, Int.toNat_natCast, sIsE, oIsE, gTry, oIsT, Bool.false_beq, Bool.true_beq, lk, lkA, List.mem_cons, List.not_mem_nil, or_false, false_or, or_true, true_or, ne_NoFraction__NoStrength, ne_NoStrength__NoFraction, sMake, sMakeB, gFld, putN, putV, oFld, lookD, sMeth, oIsI, oInT, intsD, gClr, sLcB, semI, outI, hq]
    · unfold b_law_low_1
      simp only [semB, List.map_cons, List.map_nil, List.length_cons, List.length_nil, List.replicate, List.cons_append, List.nil_append, Nat.reduceAdd, Nat.reduceSub, Nat.zero_add, gSeq, gNx, bndS, gSet, gDrop, gRet, gRetN, gIf, gBrk, gRaise, gAsg, gPar, Rs.bnd, Rz.to, pVar, pC, pBin, pUn, Pyd.o2, pChain, pA0, pA1, pCall, sP, sVar, sC, sA0, sA1, sTup, sLst, sBin, sFz, sCallB, sCallN, tP, tE, tNt, tAn, tOrr, sAnd, sOr, sNot, sIf, kName, kNil, kCons, Pyd.kTup, oI, oAddS, oAddI, oSub, oXor, oLt, oLe, oGt, oGe, oNeg, oIx, cLen, cAbs, cAll, cAny, bls, cMax2, cMin2, cInt, fz, fzs, fzn, fzns, dEq_int, dEq_str, dEq_bl, dEq_non, dEq_tup, dEq_lst, dEqs_nil, dEqs_cons, dEqs_n1, dEqs_n2, dok, oEq, oNe, oIsN, oNotN, oIsB, tyD, isB, List.getElem?_cons_zero, List.getElem?_cons_succ, List.set_cons_zero, List.set_cons_succ, Option.bind_some, Option.bind_none, Option.map_some, Option.map_none, if_true, if_false, ite_true, ite_false, Bool.not_true, Bool.not_false, Bool.and_true, Bool.true_and, Bool.and_self, Bool.false_and, Bool.and_false, Bool.or_true, Bool.true_or, Bool.or_false, Bool.false_or, decide_true, decide_false, eq_self_iff_true, and_self, true_and, and_true, List.all_cons, List.all_nil, Nat.lt_add_one, Nat.reduceLT, Nat.reduceLeDiff, Nat.zero_lt_succ, gFor, iLst, Pyd.iTup, Pyd.iAny, Option.some_inj, reduceCtorEq, Bool.false_eq_true, beq_self_eq_true, id_eq, Nat.le_refl, Nat.zero_le, Int.reduceBEq, Int.reduceEq, Int.reduceLT, Int.reduceLE, Int.reduceAdd, Int.reduceSub, Int.reduceMul, Int.reduceNeg, ↓reduceIte, Int.reduceToNat, sLc, Int.toNat_zero, Int.toNat_one, List.getElem?_nil, Int.cast_ofNat_Int, Int.natCast_add, wipeE, backE, tYs, sAdd, oAdd, sSl, oSl, pNo, pPart, decide_eq_true_eq, Bool.not_eq_true', decide_not, bne, Int.add_sub_cancel, Int.sub_add_cancel, Int.reducePow, gCnt, Int.reduceGT, Int.reduceGE, Int.reduceNe, ne_eq, not_true_eq_false, not_false_eq_true, String.reduceEq, String.reduceBEq, Bool.or_self, oMul_r, oMul_l, oDivA_pos, oModA_pos, oPow_10_30, oPow_10_60, oPow_10_4, cut_63, cut_40, cut_60, fzns_ints, Int.reduceAbs, Nat.reducePow, List.length_map, List.length_take, atI_0, atI_1, atI_2, atI_3, atI_4, atI_5, Pyd.iRng1, Pyd.iRng2, Int.toNat_natCast, sIsE, oIsE, gTry, oIsT, Bool.false_beq, Bool.true_beq, lk, lkA, List.mem_cons, List.not_mem_nil, or_false, false_or, or_true, true_or, ne_NoFraction__NoStrength, ne_NoStrength__NoFraction, sMake, sMakeB, gFld, putN, putV, oFld, lookD, sMeth, oIsI, oInT, intsD, gClr, sLcB, semI, outI, oModA_pos hp, Int.natCast_emod]
  · subst h0
    unfold t_law_low_1
    simp only [semB, List.map_cons, List.map_nil, List.length_cons, List.length_nil, List.replicate, List.cons_append, List.nil_append, Nat.reduceAdd, Nat.reduceSub, Nat.zero_add, gSeq, gNx, bndS, gSet, gDrop, gRet, gRetN, gIf, gBrk, gRaise, gAsg, gPar, Rs.bnd, Rz.to, pVar, pC, pBin, pUn, Pyd.o2, pChain, pA0, pA1, pCall, sP, sVar, sC, sA0, sA1, sTup, sLst, sBin, sFz, sCallB, sCallN, tP, tE, tNt, tAn, tOrr, sAnd, sOr, sNot, sIf, kName, kNil, kCons, Pyd.kTup, oI, oAddS, oAddI, oSub, oXor, oLt, oLe, oGt, oGe, oNeg, oIx, cLen, cAbs, cAll, cAny, bls, cMax2, cMin2, cInt, fz, fzs, fzn, fzns, dEq_int, dEq_str, dEq_bl, dEq_non, dEq_tup, dEq_lst, dEqs_nil, dEqs_cons, dEqs_n1, dEqs_n2, dok, oEq, oNe, oIsN, oNotN, oIsB, tyD, isB, List.getElem?_cons_zero, List.getElem?_cons_succ, List.set_cons_zero, List.set_cons_succ, Option.bind_some, Option.bind_none, Option.map_some, Option.map_none, if_true, if_false, ite_true, ite_false, Bool.not_true, Bool.not_false, Bool.and_true, Bool.true_and, Bool.and_self, Bool.false_and, Bool.and_false, Bool.or_true, Bool.true_or, Bool.or_false, Bool.false_or, decide_true, decide_false, eq_self_iff_true, and_self, true_and, and_true, List.all_cons, List.all_nil, Nat.lt_add_one, Nat.reduceLT, Nat.reduceLeDiff, Nat.zero_lt_succ, gFor, iLst, Pyd.iTup, Pyd.iAny, Option.some_inj, reduceCtorEq, Bool.false_eq_true, beq_self_eq_true, id_eq, Nat.le_refl, Nat.zero_le, Int.reduceBEq, Int.reduceEq, Int.reduceLT, Int.reduceLE, Int.reduceAdd, Int.reduceSub, Int.reduceMul, Int.reduceNeg, ↓reduceIte, Int.reduceToNat, sLc, Int.toNat_zero, Int.toNat_one, List.getElem?_nil, Int.cast_ofNat_Int, Int.natCast_add, wipeE, backE, tYs, sAdd, oAdd, sSl, oSl, pNo, pPart, decide_eq_true_eq, Bool.not_eq_true', decide_not, bne, Int.add_sub_cancel, Int.sub_add_cancel, Int.reducePow, gCnt, Int.reduceGT, Int.reduceGE, Int.reduceNe, ne_eq, not_true_eq_false, not_false_eq_true, String.reduceEq, String.reduceBEq, Bool.or_self, oMul_r, oMul_l, oDivA_pos, oModA_pos, oPow_10_30, oPow_10_60, oPow_10_4, cut_63, cut_40, cut_60, fzns_ints, Int.reduceAbs, Nat.reducePow, List.length_map, List.length_take, atI_0, atI_1, atI_2, atI_3, atI_4, atI_5, Pyd.iRng1, Pyd.iRng2, Int.toNat_natCast, sIsE, oIsE, gTry, oIsT, Bool.false_beq, Bool.true_beq, lk, lkA, List.mem_cons, List.not_mem_nil, or_false, false_or, or_true, true_or, ne_NoFraction__NoStrength, ne_NoStrength__NoFraction, sMake, sMakeB, gFld, putN, putV, oFld, lookD, sMeth, oIsI, oInT, intsD, gClr, sLcB, semI, outI, Int.natCast_zero]
theorem nice_law_low : ∀ ds : List Dv, ds.length = 2 → s_law_low ds ≠ .stk → sem_law_low ds = s_law_low ds := by
  intro ds hl; clear hl
  unfold s_law_low
  split
  · rename_i t b
    intro h
    split
    · rename_i hb
      obtain ⟨ρ', h1, rfl⟩ := wh_law_low t b t.natAbs b.natAbs
      have e1 : (t.natAbs : Int) = t := by omega
      have e2 : (b.natAbs : Int) = b := by omega
      rw [e1, e2] at h1
      have e3 : (Nat.gcd t.natAbs b.natAbs : Int) = (Int.gcd t b : Int) := rfl
      unfold sem_law_low g_law_low
      simp only [semB, List.map_cons, List.map_nil, List.length_cons, List.length_nil, List.replicate, List.cons_append, List.nil_append, Nat.reduceAdd, Nat.reduceSub, Nat.zero_add, gSeq, gNx, bndS, gSet, gDrop, gRet, gRetN, gIf, gBrk, gRaise, gAsg, gPar, Rs.bnd, Rz.to, pVar, pC, pBin, pUn, Pyd.o2, pChain, pA0, pA1, pCall, sP, sVar, sC, sA0, sA1, sTup, sLst, sBin, sFz, sCallB, sCallN, tP, tE, tNt, tAn, tOrr, sAnd, sOr, sNot, sIf, kName, kNil, kCons, Pyd.kTup, oI, oAddS, oAddI, oSub, oXor, oLt, oLe, oGt, oGe, oNeg, oIx, cLen, cAbs, cAll, cAny, bls, cMax2, cMin2, cInt, fz, fzs, fzn, fzns, dEq_int, dEq_str, dEq_bl, dEq_non, dEq_tup, dEq_lst, dEqs_nil, dEqs_cons, dEqs_n1, dEqs_n2, dok, oEq, oNe, oIsN, oNotN, oIsB, tyD, isB, List.getElem?_cons_zero, List.getElem?_cons_succ, List.set_cons_zero, List.set_cons_succ, Option.bind_some, Option.bind_none, Option.map_some, Option.map_none, if_true, if_false, ite_true, ite_false, Bool.not_true, Bool.not_false, Bool.and_true, Bool.true_and, Bool.and_self, Bool.false_and, Bool.and_false, Bool.or_true, Bool.true_or, Bool.or_false, Bool.false_or, decide_true, decide_false, eq_self_iff_true, and_self, true_and, and_true, List.all_cons, List.all_nil, Nat.lt_add_one, Nat.reduceLT, Nat.reduceLeDiff, Nat.zero_lt_succ, gFor, iLst, Pyd.iTup, Pyd.iAny, Option.some_inj, reduceCtorEq, Bool.false_eq_true, beq_self_eq_true, id_eq, Nat.le_refl, Nat.zero_le, Int.reduceBEq, Int.reduceEq, Int.reduceLT, Int.reduceLE, Int.reduceAdd, Int.reduceSub, Int.reduceMul, Int.reduceNeg, ↓reduceIte, Int.reduceToNat, sLc, Int.toNat_zero, Int.toNat_one, List.getElem?_nil, Int.cast_ofNat_Int, Int.natCast_add, wipeE, backE, tYs, sAdd, oAdd, sSl, oSl, pNo, pPart, decide_eq_true_eq, Bool.not_eq_true', decide_not, bne, Int.add_sub_cancel, Int.sub_add_cancel, Int.reducePow, gCnt, Int.reduceGT, Int.reduceGE, Int.reduceNe, ne_eq, not_true_eq_false, not_false_eq_true, String.reduceEq, String.reduceBEq, Bool.or_self, oMul_r, oMul_l, oDivA_pos, oModA_pos, oPow_10_30, oPow_10_60, oPow_10_4, cut_63, cut_40, cut_60, fzns_ints, Int.reduceAbs, Nat.reducePow, List.length_map, List.length_take, atI_0, atI_1, atI_2, atI_3, atI_4, atI_5, Pyd.iRng1, Pyd.iRng2, Int.toNat_natCast, sIsE, oIsE, gTry, oIsT, Bool.false_beq, Bool.true_beq, lk, lkA, List.mem_cons, List.not_mem_nil, or_false, false_or, or_true, true_or, ne_NoFraction__NoStrength, ne_NoStrength__NoFraction, sMake, sMakeB, gFld, putN, putV, oFld, lookD, sMeth, oIsI, oInT, intsD, gClr, sLcB, semI, outI, h1, e3, oDivA_gl8 hb.2.1 hb.2.2, oDivA_gr8 hb.2.1 hb.2.2]
    · rename_i hb
      rw [if_neg hb] at h
      exact absurd rfl h
  · exact fun h => absurd rfl h
theorem e_law_low {t b : Int} (h0 : 0 ≤ t) (h : 1 ≤ b) (h2 : b.natAbs < 2 ^ 250) : s_law_low [.int t, .int b] = .ok (.tup true [.int (fn t b), .int (fd t b)]) := if_pos ⟨h0, h, Nat.lt_of_lt_of_le h2 (Nat.pow_le_pow_right (by decide) (by decide))⟩

/-! ### _law_plus -/
abbrev st_law_plus : Stmt := topS 21
theorem sc_law_plus : FnScope ["_law_one", "_law_other"] ["_law_one", "_law_other"] (defScope st_law_plus) := ⟨rfl, rfl, rfl, by decide +kernel, rfl, by decide +kernel, by decide +kernel⟩
noncomputable def g_law_plus : SS := (gRet (sCallN 2 s_law_low (sA1 (sP (pBin oAddS (pBin oMul (pBin oIx (pVar 0) (pC (.int 0))) (pBin oIx (pVar 1) (pC (.int 1)))) (pBin oMul (pBin oIx (pVar 1) (pC (.int 0))) (pBin oIx (pVar 0) (pC (.int 1)))))) (sA1 (sP (pBin oMul (pBin oIx (pVar 0) (pC (.int 1))) (pBin oIx (pVar 1) (pC (.int 1))))) sA0))))
noncomputable def sem_law_plus : List Dv → Rz := semB 2 g_law_plus
noncomputable def s_law_plus : List Dv → Rz := sem_law_plus
theorem nice_law_plus : ∀ ds : List Dv, ds.length = 2 → s_law_plus ds ≠ .stk → sem_law_plus ds = s_law_plus ds := fun _ _ _ => rfl
theorem e_law_plus {C D : Nat} {x y : Fq} (hx : Fok LL C x) (hy : Fok LL D y) (hC : C ≤ 2 ^ 300) (hD : D ≤ 2 ^ 300) (px : 0 ≤ x.1) (py : 0 ≤ y.1) : s_law_plus [fD x, fD y] = .ok (fD (pl x y)) := by
  obtain ⟨a1, a2⟩ := fok_z hx LL_pos (Nat.lt_of_lt_of_le LL_lt (Nat.pow_le_pow_right (by decide) (by decide))) hC
  obtain ⟨b1, b2⟩ := fok_z hy LL_pos (Nat.lt_of_lt_of_le LL_lt (Nat.pow_le_pow_right (by decide) (by decide))) hD
  have p1 := hx.p
  have p2 := hy.p
  have hb : 1 ≤ x.2 * y.2 := by have := Int.mul_pos (a := x.2) (b := y.2) (by omega) (by omega); omega
  have hz : (x.2 * y.2).natAbs < 2 ^ 8000 := Nat.lt_of_lt_of_le (mul_lt a2 b2) (Nat.pow_le_pow_right (by decide) (by decide))
  have hn : 0 ≤ x.1 * y.2 + y.1 * x.2 := Int.add_nonneg (Int.mul_nonneg px (by omega)) (Int.mul_nonneg py (by omega))
  have k : s_law_low [.int (x.1 * y.2 + y.1 * x.2), .int (x.2 * y.2)] = .ok (fD (pl x y)) := if_pos ⟨hn, hb, hz⟩
  unfold s_law_plus sem_law_plus g_law_plus
  show semB 2 _ [.tup true [.int x.1, .int x.2], .tup true [.int y.1, .int y.2]] = _
  simp only [semB, List.map_cons, List.map_nil, List.length_cons, List.length_nil, List.replicate, List.cons_append, List.nil_append, Nat.reduceAdd, Nat.reduceSub, Nat.zero_add, gSeq, gNx, bndS, gSet, gDrop, gRet, gRetN, gIf, gBrk, gRaise, gAsg, gPar, Rs.bnd, Rz.to, pVar, pC, pBin, pUn, Pyd.o2, pChain, pA0, pA1, pCall, sP, sVar, sC, sA0, sA1, sTup, sLst, sBin, sFz, sCallB, sCallN, tP, tE, tNt, tAn, tOrr, sAnd, sOr, sNot, sIf, kName, kNil, kCons, Pyd.kTup, oI, oAddS, oAddI, oSub, oXor, oLt, oLe, oGt, oGe, oNeg, oIx, cLen, cAbs, cAll, cAny, bls, cMax2, cMin2, cInt, fz, fzs, fzn, fzns, dEq_int, dEq_str, dEq_bl, dEq_non, dEq_tup, dEq_lst, dEqs_nil, dEqs_cons, dEqs_n1, dEqs_n2, dok, oEq, oNe, oIsN, oNotN, oIsB, tyD, isB, List.getElem?_cons_zero, List.getElem?_cons_succ, List.set_cons_zero, List.set_cons_succ, Option.bind_some, Option.bind_none, Option.map_some, Option.map_none, if_true, if_false, ite_true, ite_false, Bool.not_true, Bool.not_false, Bool.and_true, Bool.true_and, Bool.and_self, Bool.false_and, Bool.and_false, Bool.or_true, Bool.true_or, Bool.or_false, Bool.false_or, decide_true, decide_false, eq_self_iff_true, and_self, true_and, and_true, List.all_cons, List.all_nil, Nat.lt_add_one, Nat.reduceLT, Nat.reduceLeDiff, Nat.zero_lt_succ, gFor, iLst, Pyd.iTup, Pyd.iAny, Option.some_inj, reduceCtorEq, Bool.false_eq_true, beq_self_eq_true, id_eq, Nat.le_refl, Nat.zero_le, Int.reduceBEq, Int.reduceEq, Int.reduceLT, Int.reduceLE, Int.reduceAdd, Int.reduceSub, Int.reduceMul, Int.reduceNeg, ↓reduceIte, Int.reduceToNat, sLc, Int.toNat_zero, Int.toNat_one, List.getElem?_nil, Int.cast_ofNat_Int, Int.natCast_add, wipeE, backE, tYs, sAdd, oAdd, sSl, oSl, pNo, pPart, decide_eq_true_eq, Bool.not_eq_true', decide_not, bne, Int.add_sub_cancel, Int.sub_add_cancel, Int.reducePow, gCnt, Int.reduceGT, Int.reduceGE, Int.reduceNe, ne_eq, not_true_eq_false, not_false_eq_true, String.reduceEq, String.reduceBEq, Bool.or_self, oMul_r, oMul_l, oDivA_pos, oModA_pos, oPow_10_30, oPow_10_60, oPow_10_4, cut_63, cut_40, cut_60, fzns_ints, Int.reduceAbs, Nat.reducePow, List.length_map, List.length_take, atI_0, atI_1, atI_2, atI_3, atI_4, atI_5, Pyd.iRng1, Pyd.iRng2, Int.toNat_natCast, sIsE, oIsE, gTry, oIsT, Bool.false_beq, Bool.true_beq, lk, lkA, List.mem_cons, List.not_mem_nil, or_false, false_or, or_true, true_or, ne_NoFraction__NoStrength, ne_NoStrength__NoFraction, sMake, sMakeB, gFld, putN, putV, oFld, lookD, sMeth, oIsI, oInT, intsD, gClr, sLcB, semI, outI, oMul_b (up4 a1 (by decide)) (up4 b2 (by decide)), oMul_b (up4 b1 (by decide)) (up4 a2 (by decide)), oMul_b (up4 a2 (by decide)) (up4 b2 (by decide)), k, fD]

/-! ### _law_both -/
abbrev st_law_both : Stmt := topS 25
theorem sc_law_both : FnScope ["_law_one", "_law_other", "_law_kept", "_law_p", "_law_strength_here"] ["_law_one", "_law_other"] (defScope st_law_both) := ⟨rfl, rfl, rfl, by decide +kernel, rfl, by decide +kernel, by decide +kernel⟩
noncomputable def b_law_both_1 : SS := (gDPut 2 (pVar 3) (sCallN 2 s_law_plus (sA1 (sDGet2 2 (sVar 3) (sTup true (sA1 (sC (.int 0)) (sA1 (sC (.int 1)) sA0)))) (sA1 (sVar 4) sA0))))
noncomputable def c_law_both_1 : SE := (sLc [3] (Pyd.iAny (sSortD 3 (pVar 2))) (kName 3) tYs (sTup true (sA1 (sVar 3) (sA1 (sP (pBin oDGet (pVar 2) (pVar 3))) sA0))))
noncomputable def g_law_both : SS := (gSeq (gSet 2 sDctT)
  (gSeq (gFor (Pyd.iAny (sAdd (sVar 0) (sVar 1))) (Pyd.kTup 2 (kCons (kName 3) (kCons (kName 4) kNil)))
  b_law_both_1)
  (gRet (sFz c_law_both_1))))
noncomputable def sem_law_both : List Dv → Rz := semB 5 g_law_both
noncomputable def s_law_both : List Dv → Rz := sem_law_both
theorem nice_law_both : ∀ ds : List Dv, ds.length = 2 → s_law_both ds ≠ .stk → sem_law_both ds = s_law_both ds := fun _ _ _ => rfl
/-! ### _law_cell_at -/
abbrev st_law_cell_at : Stmt := topS 19
theorem sc_law_cell_at : FnScope ["_law_script", "_law_k"] ["_law_script", "_law_k"] (defScope st_law_cell_at) := ⟨rfl, rfl, rfl, by decide +kernel, rfl, by decide +kernel, by decide +kernel⟩
noncomputable def g_law_cell_at : SS := (gSeq (gIf (tP (pBin oLt (pVar 1) (pCall cLen (pA1 (pVar 0) pA0)))) (gRet (sP (pBin oIx (pVar 0) (pVar 1)))) gNx)
  (gRet (sC (.int 0))))
noncomputable def sem_law_cell_at : List Dv → Rz := semB 2 g_law_cell_at
noncomputable def s_law_cell_at : List Dv → Rz := sem_law_cell_at
theorem nice_law_cell_at : ∀ ds : List Dv, ds.length = 2 → s_law_cell_at ds ≠ .stk → sem_law_cell_at ds = s_law_cell_at ds := fun _ _ _ => rfl
/-! ### _law_pass -/
abbrev st_law_pass : Stmt := topS 23
theorem sc_law_pass : FnScope ["_law_cell"] ["_law_cell"] (defScope st_law_pass) := ⟨rfl, rfl, rfl, by decide +kernel, rfl, by decide +kernel, by decide +kernel⟩
noncomputable def g_law_pass : SS := (gSeq (gIf (tP (pBin oEq (pBin oModA (pVar 0) (pC (.int 2))) (pC (.int 0)))) (gRet (sTup false (sA1 (sP (pBin oModA (pBin oDivA (pVar 0) (pC (.int 2))) (pC (.int 3)))) (sA1 (sP (pBin oModA (pBin oDivA (pVar 0) (pC (.int 6))) (pC (.int 3)))) (sA1 (sP (pBin oModA (pBin oDivA (pVar 0) (pC (.int 18))) (pC (.int 4)))) sA0))))) gNx)
  (gRet (sBin oIx (sFz (sLst (sA1 (sTup false (sA1 (sC (.int 3)) (sA1 (sC (.int 0)) (sA1 (sC (.int 0)) sA0)))) (sA1 (sTup false (sA1 (sP (pUn oNeg (pC (.int 1)))) (sA1 (sC (.int 2)) (sA1 (sC (.int 2)) sA0)))) (sA1 (sTup false (sA1 (sC (.int 1)) (sA1 (sP (pUn oNeg (pC (.int 1)))) (sA1 (sC (.int 1)) sA0)))) (sA1 (sTup false (sA1 (sC (.int 2)) (sA1 (sC (.int 3)) (sA1 (sC (.int 3)) sA0)))) sA0)))))) (sP (pBin oModA (pBin oDivA (pVar 0) (pC (.int 2))) (pC (.int 4)))))))
noncomputable def sem_law_pass : List Dv → Rz := semB 1 g_law_pass
noncomputable def s_law_pass : List Dv → Rz := sem_law_pass
theorem nice_law_pass : ∀ ds : List Dv, ds.length = 1 → s_law_pass ds ≠ .stk → sem_law_pass ds = s_law_pass ds := fun _ _ _ => rfl
theorem e_pass (c : Int) : ∃ k : List Int, k.length = 3 ∧ s_law_pass [.int c] = .ok (kD k) := by
  by_cases h : (c % 2 == 0) = true
  · refine ⟨[c / 2 % 3, c / 6 % 3, c / 18 % 4], rfl, ?_⟩
    unfold s_law_pass sem_law_pass g_law_pass
    simp only [semB, List.map_cons, List.map_nil, List.length_cons, List.length_nil, List.replicate, List.cons_append, List.nil_append, Nat.reduceAdd, Nat.reduceSub, Nat.zero_add, gSeq, gNx, bndS, gSet, gDrop, gRet, gRetN, gIf, gBrk, gRaise, gAsg, gPar, Rs.bnd, Rz.to, pVar, pC, pBin, pUn, Pyd.o2, pChain, pA0, pA1, pCall, sP, sVar, sC, sA0, sA1, sTup, sLst, sBin, sFz, sCallB, sCallN, tP, tE, tNt, tAn, tOrr, sAnd, sOr, sNot, sIf, kName, kNil, kCons, Pyd.kTup, oI, oAddS, oAddI, oSub, oXor, oLt, oLe, oGt, oGe, oNeg, oIx, cLen, cAbs, cAll, cAny, bls, cMax2, cMin2, cInt, fz, fzs, fzn, fzns, dEq_int, dEq_str, dEq_bl, dEq_non, dEq_tup, dEq_lst, dEqs_nil, dEqs_cons, dEqs_n1, dEqs_n2, dok, oEq, oNe, oIsN, oNotN, oIsB, tyD, isB, List.getElem?_cons_zero, List.getElem?_cons_succ, List.set_cons_zero, List.set_cons_succ, Option.bind_some, Option.bind_none, Option.map_some, Option.map_none, if_true, if_false, ite_true, ite_false, Bool.not_true, Bool.not_false, Bool.and_true, Bool.true_and, Bool.and_self, Bool.false_and, Bool.and_false, Bool.or_true, Bool.true_or, Bool.or_false, Bool.false_or, decide_true, decide_false, eq_self_iff_true, and_self, true_and, and_true, List.all_cons, List.all_nil, Nat.lt_add_one, Nat.reduceLT, Nat.reduceLeDiff, Nat.zero_lt_succ, gFor, iLst, Pyd.iTup, Pyd.iAny, Option.some_inj, reduceCtorEq, Bool.false_eq_true, beq_self_eq_true, id_eq, Nat.le_refl, Nat.zero_le, Int.reduceBEq, Int.reduceEq, Int.reduceLT, Int.reduceLE, Int.reduceAdd, Int.reduceSub, Int.reduceMul, Int.reduceNeg, ↓reduceIte, Int.reduceToNat, sLc, Int.toNat_zero, Int.toNat_one, List.getElem?_nil, Int.cast_ofNat_Int, Int.natCast_add, wipeE, backE, tYs, sAdd, oAdd, sSl, oSl, pNo, pPart, decide_eq_true_eq, Bool.not_eq_true', decide_not, bne, Int.add_sub_cancel, Int.sub_add_cancel, Int.reducePow, gCnt, Int.reduceGT, Int.reduceGE, Int.reduceNe, ne_eq, not_true_eq_false, not_false_eq_true, String.reduceEq, String.reduceBEq, Bool.or_self, oMul_r, oMul_l, oDivA_pos, oModA_pos, oPow_10_30, oPow_10_60, oPow_10_4, cut_63, cut_40, cut_60, fzns_ints, Int.reduceAbs, Nat.reducePow, List.length_map, List.length_take, atI_0, atI_1, atI_2, atI_3, atI_4, atI_5, Pyd.iRng1, Pyd.iRng2, Int.toNat_natCast, sIsE, oIsE, gTry, oIsT, Bool.false_beq, Bool.true_beq, lk, lkA, List.mem_cons, List.not_mem_nil, or_false, false_or, or_true, true_or, ne_NoFraction__NoStrength, ne_NoStrength__NoFraction, sMake, sMakeB, gFld, putN, putV, oFld, lookD, sMeth, oIsI, oInT, intsD, gClr, sLcB, semI, outI, h, kD]
  · rw [Bool.not_eq_true] at h
    have h4 : c / 2 % 4 = 0 ∨ c / 2 % 4 = 1 ∨ c / 2 % 4 = 2 ∨ c / 2 % 4 = 3 := by omega
    rcases h4 with z | z | z | z
    · refine ⟨[3, 0, 0], rfl, ?_⟩
      unfold s_law_pass sem_law_pass g_law_pass
      simp only [semB, List.map_cons, List.map_nil, List.length_cons, List.length_nil, List.replicate, List.cons_append, List.nil_append, Nat.reduceAdd, Nat.reduceSub, Nat.zero_add, gSeq, gNx, bndS, gSet, gDrop, gRet, gRetN, gIf, gBrk, gRaise, gAsg, gPar, Rs.bnd, Rz.to, pVar, pC, pBin, pUn, Pyd.o2, pChain, pA0, pA1, pCall, sP, sVar, sC, sA0, sA1, sTup, sLst, sBin, sFz, sCallB, sCallN, tP, tE, tNt, tAn, tOrr, sAnd, sOr, sNot, sIf, kName, kNil, kCons, Pyd.kTup, oI, oAddS, oAddI, oSub, oXor, oLt, oLe, oGt, oGe, oNeg, oIx, cLen, cAbs, cAll, cAny, bls, cMax2, cMin2, cInt, fz, fzs, fzn, fzns, dEq_int, dEq_str, dEq_bl, dEq_non, dEq_tup, dEq_lst, dEqs_nil, dEqs_cons, dEqs_n1, dEqs_n2, dok, oEq, oNe, oIsN, oNotN, oIsB, tyD, isB, List.getElem?_cons_zero, List.getElem?_cons_succ, List.set_cons_zero, List.set_cons_succ, Option.bind_some, Option.bind_none, Option.map_some, Option.map_none, if_true, if_false, ite_true, ite_false, Bool.not_true, Bool.not_false, Bool.and_true, Bool.true_and, Bool.and_self, Bool.false_and, Bool.and_false, Bool.or_true, Bool.true_or, Bool.or_false, Bool.false_or, decide_true, decide_false, eq_self_iff_true, and_self, true_and, and_true, List.all_cons, List.all_nil, Nat.lt_add_one, Nat.reduceLT, Nat.reduceLeDiff, Nat.zero_lt_succ, gFor, iLst, Pyd.iTup, Pyd.iAny, Option.some_inj, reduceCtorEq, Bool.false_eq_true, beq_self_eq_true, id_eq, Nat.le_refl, Nat.zero_le, Int.reduceBEq, Int.reduceEq, Int.reduceLT, Int.reduceLE, Int.reduceAdd, Int.reduceSub, Int.reduceMul, Int.reduceNeg, ↓reduceIte, Int.reduceToNat, sLc, Int.toNat_zero, Int.toNat_one, List.getElem?_nil, Int.cast_ofNat_Int, Int.natCast_add, wipeE, backE, tYs, sAdd, oAdd, sSl, oSl, pNo, pPart, decide_eq_true_eq, Bool.not_eq_true', decide_not, bne, Int.add_sub_cancel, Int.sub_add_cancel, Int.reducePow, gCnt, Int.reduceGT, Int.reduceGE, Int.reduceNe, ne_eq, not_true_eq_false, not_false_eq_true, String.reduceEq, String.reduceBEq, Bool.or_self, oMul_r, oMul_l, oDivA_pos, oModA_pos, oPow_10_30, oPow_10_60, oPow_10_4, cut_63, cut_40, cut_60, fzns_ints, Int.reduceAbs, Nat.reducePow, List.length_map, List.length_take, atI_0, atI_1, atI_2, atI_3, atI_4, atI_5, Pyd.iRng1, Pyd.iRng2, Int.toNat_natCast, sIsE, oIsE, gTry, oIsT, Bool.false_beq, Bool.true_beq, lk, lkA, List.mem_cons, List.not_mem_nil, or_false, false_or, or_true, true_or, ne_NoFraction__NoStrength, ne_NoStrength__NoFraction, sMake, sMakeB, gFld, putN, putV, oFld, lookD, sMeth, oIsI, oInT, intsD, gClr, sLcB, semI, outI, h, z, kD]
    · refine ⟨[-1, 2, 2], rfl, ?_⟩
      unfold s_law_pass sem_law_pass g_law_pass
      simp only [semB, List.map_cons, List.map_nil, List.length_cons, List.length_nil, List.replicate, List.cons_append, List.nil_append, Nat.reduceAdd, Nat.reduceSub, Nat.zero_add, gSeq, gNx, bndS, gSet, gDrop, gRet, gRetN, gIf, gBrk, gRaise, gAsg, gPar, Rs.bnd, Rz.to, pVar, pC, pBin, pUn, Pyd.o2, pChain, pA0, pA1, pCall, sP, sVar, sC, sA0, sA1, sTup, sLst, sBin, sFz, sCallB, sCallN, tP, tE, tNt, tAn, tOrr, sAnd, sOr, sNot, sIf, kName, kNil, kCons, Pyd.kTup, oI, oAddS, oAddI, oSub, oXor, oLt, oLe, oGt, oGe, oNeg, oIx, cLen, cAbs, cAll, cAny, bls, cMax2, cMin2, cInt, fz, fzs, fzn, fzns, dEq_int, dEq_str, dEq_bl, dEq_non, dEq_tup, dEq_lst, dEqs_nil, dEqs_cons, dEqs_n1, dEqs_n2, dok, oEq, oNe, oIsN, oNotN, oIsB, tyD, isB, List.getElem?_cons_zero, List.getElem?_cons_succ, List.set_cons_zero, List.set_cons_succ, Option.bind_some, Option.bind_none, Option.map_some, Option.map_none, if_true, if_false, ite_true, ite_false, Bool.not_true, Bool.not_false, Bool.and_true, Bool.true_and, Bool.and_self, Bool.false_and, Bool.and_false, Bool.or_true, Bool.true_or, Bool.or_false, Bool.false_or, decide_true, decide_false, eq_self_iff_true, and_self, true_and, and_true, List.all_cons, List.all_nil, Nat.lt_add_one, Nat.reduceLT, Nat.reduceLeDiff, Nat.zero_lt_succ, gFor, iLst, Pyd.iTup, Pyd.iAny, Option.some_inj, reduceCtorEq, Bool.false_eq_true, beq_self_eq_true, id_eq, Nat.le_refl, Nat.zero_le, Int.reduceBEq, Int.reduceEq, Int.reduceLT, Int.reduceLE, Int.reduceAdd, Int.reduceSub, Int.reduceMul, Int.reduceNeg, ↓reduceIte, Int.reduceToNat, sLc, Int.toNat_zero, Int.toNat_one, List.getElem?_nil, Int.cast_ofNat_Int, Int.natCast_add, wipeE, backE, tYs, sAdd, oAdd, sSl, oSl, pNo, pPart, decide_eq_true_eq, Bool.not_eq_true', decide_not, bne, Int.add_sub_cancel, Int.sub_add_cancel, Int.reducePow, gCnt, Int.reduceGT, Int.reduceGE, Int.reduceNe, ne_eq, not_true_eq_false, not_false_eq_true, String.reduceEq, String.reduceBEq, Bool.or_self, oMul_r, oMul_l, oDivA_pos, oModA_pos, oPow_10_30, oPow_10_60, oPow_10_4, cut_63, cut_40, cut_60, fzns_ints, Int.reduceAbs, Nat.reducePow, List.length_map, List.length_take, atI_0, atI_1, atI_2, atI_3, atI_4, atI_5, Pyd.iRng1, Pyd.iRng2, Int.toNat_natCast, sIsE, oIsE, gTry, oIsT, Bool.false_beq, Bool.true_beq, lk, lkA, List.mem_cons, List.not_mem_nil, or_false, false_or, or_true, true_or, ne_NoFraction__NoStrength, ne_NoStrength__NoFraction, sMake, sMakeB, gFld, putN, putV, oFld, lookD, sMeth, oIsI, oInT, intsD, gClr, sLcB, semI, outI, h, z, kD]
    · refine ⟨[1, -1, 1], rfl, ?_⟩
      unfold s_law_pass sem_law_pass g_law_pass
      simp only [semB, List.map_cons, List.map_nil, List.length_cons, List.length_nil, List.replicate, List.cons_append, List.nil_append, Nat.reduceAdd, Nat.reduceSub, Nat.zero_add, gSeq, gNx, bndS, gSet, gDrop, gRet, gRetN, gIf, gBrk, gRaise, gAsg, gPar, Rs.bnd, Rz.to, pVar, pC, pBin, pUn, Pyd.o2, pChain, pA0, pA1, pCall, sP, sVar, sC, sA0, sA1, sTup, sLst, sBin, sFz, sCallB, sCallN, tP, tE, tNt, tAn, tOrr, sAnd, sOr, sNot, sIf, kName, kNil, kCons, Pyd.kTup, oI, oAddS, oAddI, oSub, oXor, oLt, oLe, oGt, oGe, oNeg, oIx, cLen, cAbs, cAll, cAny, bls, cMax2, cMin2, cInt, fz, fzs, fzn, fzns, dEq_int, dEq_str, dEq_bl, dEq_non, dEq_tup, dEq_lst, dEqs_nil, dEqs_cons, dEqs_n1, dEqs_n2, dok, oEq, oNe, oIsN, oNotN, oIsB, tyD, isB, List.getElem?_cons_zero, List.getElem?_cons_succ, List.set_cons_zero, List.set_cons_succ, Option.bind_some, Option.bind_none, Option.map_some, Option.map_none, if_true, if_false, ite_true, ite_false, Bool.not_true, Bool.not_false, Bool.and_true, Bool.true_and, Bool.and_self, Bool.false_and, Bool.and_false, Bool.or_true, Bool.true_or, Bool.or_false, Bool.false_or, decide_true, decide_false, eq_self_iff_true, and_self, true_and, and_true, List.all_cons, List.all_nil, Nat.lt_add_one, Nat.reduceLT, Nat.reduceLeDiff, Nat.zero_lt_succ, gFor, iLst, Pyd.iTup, Pyd.iAny, Option.some_inj, reduceCtorEq, Bool.false_eq_true, beq_self_eq_true, id_eq, Nat.le_refl, Nat.zero_le, Int.reduceBEq, Int.reduceEq, Int.reduceLT, Int.reduceLE, Int.reduceAdd, Int.reduceSub, Int.reduceMul, Int.reduceNeg, ↓reduceIte, Int.reduceToNat, sLc, Int.toNat_zero, Int.toNat_one, List.getElem?_nil, Int.cast_ofNat_Int, Int.natCast_add, wipeE, backE, tYs, sAdd, oAdd, sSl, oSl, pNo, pPart, decide_eq_true_eq, Bool.not_eq_true', decide_not, bne, Int.add_sub_cancel, Int.sub_add_cancel, Int.reducePow, gCnt, Int.reduceGT, Int.reduceGE, Int.reduceNe, ne_eq, not_true_eq_false, not_false_eq_true, String.reduceEq, String.reduceBEq, Bool.or_self, oMul_r, oMul_l, oDivA_pos, oModA_pos, oPow_10_30, oPow_10_60, oPow_10_4, cut_63, cut_40, cut_60, fzns_ints, Int.reduceAbs, Nat.reducePow, List.length_map, List.length_take, atI_0, atI_1, atI_2, atI_3, atI_4, atI_5, Pyd.iRng1, Pyd.iRng2, Int.toNat_natCast, sIsE, oIsE, gTry, oIsT, Bool.false_beq, Bool.true_beq, lk, lkA, List.mem_cons, List.not_mem_nil, or_false, false_or, or_true, true_or, ne_NoFraction__NoStrength, ne_NoStrength__NoFraction, sMake, sMakeB, gFld, putN, putV, oFld, lookD, sMeth, oIsI, oInT, intsD, gClr, sLcB, semI, outI, h, z, kD]
    · refine ⟨[2, 3, 3], rfl, ?_⟩
      unfold s_law_pass sem_law_pass g_law_pass
      simp only [semB, List.map_cons, List.map_nil, List.length_cons, List.length_nil, List.replicate, List.cons_append, List.nil_append, Nat.reduceAdd, Nat.reduceSub, Nat.zero_add, gSeq, gNx, bndS, gSet, gDrop, gRet, gRetN, gIf, gBrk, gRaise, gAsg, gPar, Rs.bnd, Rz.to, pVar, pC, pBin, pUn, Pyd.o2, pChain, pA0, pA1, pCall, sP, sVar, sC, sA0, sA1, sTup, sLst, sBin, sFz, sCallB, sCallN, tP, tE, tNt, tAn, tOrr, sAnd, sOr, sNot, sIf, kName, kNil, kCons, Pyd.kTup, oI, oAddS, oAddI, oSub, oXor, oLt, oLe, oGt, oGe, oNeg, oIx, cLen, cAbs, cAll, cAny, bls, cMax2, cMin2, cInt, fz, fzs, fzn, fzns, dEq_int, dEq_str, dEq_bl, dEq_non, dEq_tup, dEq_lst, dEqs_nil, dEqs_cons, dEqs_n1, dEqs_n2, dok, oEq, oNe, oIsN, oNotN, oIsB, tyD, isB, List.getElem?_cons_zero, List.getElem?_cons_succ, List.set_cons_zero, List.set_cons_succ, Option.bind_some, Option.bind_none, Option.map_some, Option.map_none, if_true, if_false, ite_true, ite_false, Bool.not_true, Bool.not_false, Bool.and_true, Bool.true_and, Bool.and_self, Bool.false_and, Bool.and_false, Bool.or_true, Bool.true_or, Bool.or_false, Bool.false_or, decide_true, decide_false, eq_self_iff_true, and_self, true_and, and_true, List.all_cons, List.all_nil, Nat.lt_add_one, Nat.reduceLT, Nat.reduceLeDiff, Nat.zero_lt_succ, gFor, iLst, Pyd.iTup, Pyd.iAny, Option.some_inj, reduceCtorEq, Bool.false_eq_true, beq_self_eq_true, id_eq, Nat.le_refl, Nat.zero_le, Int.reduceBEq, Int.reduceEq, Int.reduceLT, Int.reduceLE, Int.reduceAdd, Int.reduceSub, Int.reduceMul, Int.reduceNeg, ↓reduceIte, Int.reduceToNat, sLc, Int.toNat_zero, Int.toNat_one, List.getElem?_nil, Int.cast_ofNat_Int, Int.natCast_add, wipeE, backE, tYs, sAdd, oAdd, sSl, oSl, pNo, pPart, decide_eq_true_eq, Bool.not_eq_true', decide_not, bne, Int.add_sub_cancel, Int.sub_add_cancel, Int.reducePow, gCnt, Int.reduceGT, Int.reduceGE, Int.reduceNe, ne_eq, not_true_eq_false, not_false_eq_true, String.reduceEq, String.reduceBEq, Bool.or_self, oMul_r, oMul_l, oDivA_pos, oModA_pos, oPow_10_30, oPow_10_60, oPow_10_4, cut_63, cut_40, cut_60, fzns_ints, Int.reduceAbs, Nat.reducePow, List.length_map, List.length_take, atI_0, atI_1, atI_2, atI_3, atI_4, atI_5, Pyd.iRng1, Pyd.iRng2, Int.toNat_natCast, sIsE, oIsE, gTry, oIsT, Bool.false_beq, Bool.true_beq, lk, lkA, List.mem_cons, List.not_mem_nil, or_false, false_or, or_true, true_or, ne_NoFraction__NoStrength, ne_NoStrength__NoFraction, sMake, sMakeB, gFld, putN, putV, oFld, lookD, sMeth, oIsI, oInT, intsD, gClr, sLcB, semI, outI, h, z, kD]

/-! ### _law_strength -/
abbrev st_law_strength : Stmt := topS 22
theorem sc_law_strength : FnScope ["_law_cell"] ["_law_cell"] (defScope st_law_strength) := ⟨rfl, rfl, rfl, by decide +kernel, rfl, by decide +kernel, by decide +kernel⟩
noncomputable def g_law_strength : SS := (gRet (sCallN 2 s_law_low (sA1 (sP (pBin oAddS (pC (.int 1)) (pBin oModA (pBin oMul (pVar 0) (pC (.int 48271))) (pBin oPow (pC (.int 10)) (pC (.int 30)))))) (sA1 (sP (pBin oAddS (pC (.int 1)) (pBin oModA (pBin oDivA (pVar 0) (pC (.int 7))) (pC (.int 97))))) sA0))))
noncomputable def sem_law_strength : List Dv → Rz := semB 1 g_law_strength
noncomputable def s_law_strength : List Dv → Rz := sem_law_strength
theorem nice_law_strength : ∀ ds : List Dv, ds.length = 1 → s_law_strength ds ≠ .stk → sem_law_strength ds = s_law_strength ds := fun _ _ _ => rfl
theorem e_strength (c : Int) : ∃ v, Str1 v ∧ s_law_strength [.int c] = .ok (fD v) := by
  have k := e_law_low (t := 1 + c * 48271 % 1000000000000000000000000000000) (b := 1 + c / 7 % 97) (by omega) (by omega) (by omega)
  refine ⟨_, low_str (t := 1 + c * 48271 % 1000000000000000000000000000000) (b := 1 + c / 7 % 97) (by omega) (by omega) (by omega) (by omega), ?_⟩
  unfold s_law_strength sem_law_strength g_law_strength
  simp only [semB, List.map_cons, List.map_nil, List.length_cons, List.length_nil, List.replicate, List.cons_append, List.nil_append, Nat.reduceAdd, Nat.reduceSub, Nat.zero_add, gSeq, gNx, bndS, gSet, gDrop, gRet, gRetN, gIf, gBrk, gRaise, gAsg, gPar, Rs.bnd, Rz.to, pVar, pC, pBin, pUn, Pyd.o2, pChain, pA0, pA1, pCall, sP, sVar, sC, sA0, sA1, sTup, sLst, sBin, sFz, sCallB, sCallN, tP, tE, tNt, tAn, tOrr, sAnd, sOr, sNot, sIf, kName, kNil, kCons, Pyd.kTup, oI, oAddS, oAddI, oSub, oXor, oLt, oLe, oGt, oGe, oNeg, oIx, cLen, cAbs, cAll, cAny, bls, cMax2, cMin2, cInt, fz, fzs, fzn, fzns, dEq_int, dEq_str, dEq_bl, dEq_non, dEq_tup, dEq_lst, dEqs_nil, dEqs_cons, dEqs_n1, dEqs_n2, dok, oEq, oNe, oIsN, oNotN, oIsB, tyD, isB, List.getElem?_cons_zero, List.getElem?_cons_succ, List.set_cons_zero, List.set_cons_succ, Option.bind_some, Option.bind_none, Option.map_some, Option.map_none, if_true, if_false, ite_true, ite_false, Bool.not_true, Bool.not_false, Bool.and_true, Bool.true_and, Bool.and_self, Bool.false_and, Bool.and_false, Bool.or_true, Bool.true_or, Bool.or_false, Bool.false_or, decide_true, decide_false, eq_self_iff_true, and_self, true_and, and_true, List.all_cons, List.all_nil, Nat.lt_add_one, Nat.reduceLT, Nat.reduceLeDiff, Nat.zero_lt_succ, gFor, iLst, Pyd.iTup, Pyd.iAny, Option.some_inj, reduceCtorEq, Bool.false_eq_true, beq_self_eq_true, id_eq, Nat.le_refl, Nat.zero_le, Int.reduceBEq, Int.reduceEq, Int.reduceLT, Int.reduceLE, Int.reduceAdd, Int.reduceSub, Int.reduceMul, Int.reduceNeg, ↓reduceIte, Int.reduceToNat, sLc, Int.toNat_zero, Int.toNat_one, List.getElem?_nil, Int.cast_ofNat_Int, Int.natCast_add, wipeE, backE, tYs, sAdd, oAdd, sSl, oSl, pNo, pPart, decide_eq_true_eq, Bool.not_eq_true', decide_not, bne, Int.add_sub_cancel, Int.sub_add_cancel, Int.reducePow, gCnt, Int.reduceGT, Int.reduceGE, Int.reduceNe, ne_eq, not_true_eq_false, not_false_eq_true, String.reduceEq, String.reduceBEq, Bool.or_self, oMul_r, oMul_l, oDivA_pos, oModA_pos, oPow_10_30, oPow_10_60, oPow_10_4, cut_63, cut_40, cut_60, fzns_ints, Int.reduceAbs, Nat.reducePow, List.length_map, List.length_take, atI_0, atI_1, atI_2, atI_3, atI_4, atI_5, Pyd.iRng1, Pyd.iRng2, Int.toNat_natCast, sIsE, oIsE, gTry, oIsT, Bool.false_beq, Bool.true_beq, lk, lkA, List.mem_cons, List.not_mem_nil, or_false, false_or, or_true, true_or, ne_NoFraction__NoStrength, ne_NoStrength__NoFraction, sMake, sMakeB, gFld, putN, putV, oFld, lookD, sMeth, oIsI, oInT, intsD, gClr, sLcB, semI, outI, k, fD]

/-! ### _law_light -/
abbrev st_law_light : Stmt := topS 24
theorem sc_law_light : FnScope ["_law_cells", "_law_kept", "_law_cell", "_law_p"] ["_law_cells"] (defScope st_law_light) := ⟨rfl, rfl, rfl, by decide +kernel, rfl, by decide +kernel, by decide +kernel⟩
noncomputable def b_law_light_1 : SS := (gDPutE 1 (sCallN 1 s_law_pass (sA1 (sVar 2) sA0)) (sCallN 1 s_law_strength (sA1 (sP (pBin oDivA (pVar 2) (pC (.int 3)))) sA0)))
noncomputable def c_law_light_1 : SE := (sLc [3] (Pyd.iAny (sSortD 3 (pVar 1))) (kName 3) tYs (sTup true (sA1 (sVar 3) (sA1 (sP (pBin oDGet (pVar 1) (pVar 3))) sA0))))
noncomputable def g_law_light : SS := (gSeq (gSet 1 sDctT)
  (gSeq (gFor (Pyd.iAny (sVar 0)) (kName 2)
  b_law_light_1)
  (gRet (sFz c_law_light_1))))
noncomputable def sem_law_light : List Dv → Rz := semB 4 g_law_light
noncomputable def s_law_light : List Dv → Rz := sem_law_light
theorem nice_law_light : ∀ ds : List Dv, ds.length = 1 → s_law_light ds ≠ .stk → sem_law_light ds = s_law_light ds := fun _ _ _ => rfl
/-! ### under -/
abbrev st_under : Stmt := topS 10
theorem sc_under : FnScope ["one", "other"] ["one", "other"] (defScope st_under) := ⟨rfl, rfl, rfl, by decide +kernel, rfl, by decide +kernel, by decide +kernel⟩
noncomputable def g_under : SS := (gRet (sP (pBin oLt (pBin oMul (pBin oIx (pVar 0) (pC (.int 0))) (pBin oIx (pVar 1) (pC (.int 1)))) (pBin oMul (pBin oIx (pVar 1) (pC (.int 0))) (pBin oIx (pVar 0) (pC (.int 1)))))))
noncomputable def sem_under : List Dv → Rz := semB 2 g_under
def s_under : List Dv → Rz
  | [.tup _ [.int a, .int b], .tup _ [.int c, .int d]] => if a.natAbs < 2 ^ 4000 ∧ b.natAbs < 2 ^ 4000 ∧ c.natAbs < 2 ^ 4000 ∧ d.natAbs < 2 ^ 4000 then .ok (.bl (decide (a * d < c * b))) else .stk
  | _ => .stk
theorem nice_under : ∀ ds : List Dv, ds.length = 2 → s_under ds ≠ .stk → sem_under ds = s_under ds := by
  intro ds hl; clear hl
  unfold s_under
  split
  · intro h
    split
    · rename_i hb
      unfold sem_under g_under
      simp only [semB, List.map_cons, List.map_nil, List.length_cons, List.length_nil, List.replicate, List.cons_append, List.nil_append, Nat.reduceAdd, Nat.reduceSub, Nat.zero_add, gSeq, gNx, bndS, gSet, gDrop, gRet, gRetN, gIf, gBrk, gRaise, gAsg, gPar, Rs.bnd, Rz.to, pVar, pC, pBin, pUn, Pyd.o2, pChain, pA0, pA1, pCall, sP, sVar, sC, sA0, sA1, sTup, sLst, sBin, sFz, sCallB, sCallN, tP, tE, tNt, tAn, tOrr, sAnd, sOr, sNot, sIf, kName, kNil, kCons, Pyd.kTup, oI, oAddS, oAddI, oSub, oXor, oLt, oLe, oGt, oGe, oNeg, oIx, cLen, cAbs, cAll, cAny, bls, cMax2, cMin2, cInt, fz, fzs, fzn, fzns, dEq_int, dEq_str, dEq_bl, dEq_non, dEq_tup, dEq_lst, dEqs_nil, dEqs_cons, dEqs_n1, dEqs_n2, dok, oEq, oNe, oIsN, oNotN, oIsB, tyD, isB, List.getElem?_cons_zero, List.getElem?_cons_succ, List.set_cons_zero, List.set_cons_succ, Option.bind_some, Option.bind_none, Option.map_some, Option.map_none, if_true, if_false, ite_true, ite_false, Bool.not_true, Bool.not_false, Bool.and_true, Bool.true_and, Bool.and_self, Bool.false_and, Bool.and_false, Bool.or_true, Bool.true_or, Bool.or_false, Bool.false_or, decide_true, decide_false, eq_self_iff_true, and_self, true_and, and_true, List.all_cons, List.all_nil, Nat.lt_add_one, Nat.reduceLT, Nat.reduceLeDiff, Nat.zero_lt_succ, gFor, iLst, Pyd.iTup, Pyd.iAny, Option.some_inj, reduceCtorEq, Bool.false_eq_true, beq_self_eq_true, id_eq, Nat.le_refl, Nat.zero_le, Int.reduceBEq, Int.reduceEq, Int.reduceLT, Int.reduceLE, Int.reduceAdd, Int.reduceSub, Int.reduceMul, Int.reduceNeg, ↓reduceIte, Int.reduceToNat, sLc, Int.toNat_zero, Int.toNat_one, List.getElem?_nil, Int.cast_ofNat_Int, Int.natCast_add, wipeE, backE, tYs, sAdd, oAdd, sSl, oSl, pNo, pPart, decide_eq_true_eq, Bool.not_eq_true', decide_not, bne, Int.add_sub_cancel, Int.sub_add_cancel, Int.reducePow, gCnt, Int.reduceGT, Int.reduceGE, Int.reduceNe, ne_eq, not_true_eq_false, not_false_eq_true, String.reduceEq, String.reduceBEq, Bool.or_self, oMul_r, oMul_l, oDivA_pos, oModA_pos, oPow_10_30, oPow_10_60, oPow_10_4, cut_63, cut_40, cut_60, fzns_ints, Int.reduceAbs, Nat.reducePow, List.length_map, List.length_take, atI_0, atI_1, atI_2, atI_3, atI_4, atI_5, Pyd.iRng1, Pyd.iRng2, Int.toNat_natCast, sIsE, oIsE, gTry, oIsT, Bool.false_beq, Bool.true_beq, lk, lkA, List.mem_cons, List.not_mem_nil, or_false, false_or, or_true, true_or, ne_NoFraction__NoStrength, ne_NoStrength__NoFraction, sMake, sMakeB, gFld, putN, putV, oFld, lookD, sMeth, oIsI, oInT, intsD, gClr, sLcB, semI, outI, oMul_b hb.1 hb.2.2.2, oMul_b hb.2.2.1 hb.2.1]
    · rename_i hb
      rw [if_neg hb] at h
      exact absurd rfl h
  · exact fun h => absurd rfl h

/-! ### need_strength -/
abbrev st_need_strength : Stmt := topS 14
theorem sc_need_strength : FnScope ["strength"] ["strength"] (defScope st_need_strength) := ⟨rfl, rfl, rfl, by decide +kernel, rfl, by decide +kernel, by decide +kernel⟩
noncomputable def g_need_strength : SS := (gIf (tNt (tE (sCallN 2 s_under (sA1 (sP (pC k_NONE)) (sA1 (sVar 0) sA0))))) (gRaise "NoStrength") gNx)
noncomputable def sem_need_strength : List Dv → Rz := semB 1 g_need_strength
noncomputable def s_need_strength : List Dv → Rz := sem_need_strength
theorem nice_need_strength : ∀ ds : List Dv, ds.length = 1 → s_need_strength ds ≠ .stk → sem_need_strength ds = s_need_strength ds := fun _ _ _ => rfl
/-! ### shared_by -/
abbrev st_shared_by : Stmt := topS 6
theorem sc_shared_by : FnScope ["one", "other", "here", "there", "rest"] ["one", "other"] (defScope st_shared_by) := ⟨rfl, rfl, rfl, by decide +kernel, rfl, by decide +kernel, by decide +kernel⟩
noncomputable def b_shared_by_1 : SS := (gSeq (gSet 4 (sP (pBin oModA (pVar 2) (pVar 3))))
  (gSeq (gSet 2 (sVar 3))
  (gSet 3 (sVar 4))))
noncomputable def t_shared_by_1 : ST := (tP (pBin oGt (pVar 3) (pC (.int 0))))
noncomputable def g_shared_by : SS := (gSeq (gSet 2 (sP (pCall cAbs (pA1 (pVar 0) pA0))))
  (gSeq (gSet 3 (sP (pCall cAbs (pA1 (pVar 1) pA0))))
  (gSeq (gWh t_shared_by_1
  b_shared_by_1)
  (gRet (sVar 2)))))
noncomputable def sem_shared_by : List Dv → Rz := semB 5 g_shared_by
def s_shared_by : List Dv → Rz
  | [.int a, .int b] => .ok (.int (Int.gcd a b))
  | _ => .stk
theorem wh_shared_by (a b : Int) (x y : Nat) (p : Option Dv) : ∃ ρ', gWh t_shared_by_1 b_shared_by_1 [some (.int a), some (.int b), some (.int x), some (.int y), p] = .nx ρ' ∧ ∃ p', ρ' = [some (.int a), some (.int b), some (.int (Nat.gcd x y)), some (.int 0), p'] := by
  refine gWh_gcd (fun x y ρ => ∃ p, ρ = [some (.int a), some (.int b), some (.int x), some (.int y), p]) (fun x y ρ h0 hb => ?_) (fun x ρ h0 => ?_) ⟨p, rfl⟩
  · obtain ⟨p, rfl⟩ := h0
    have hp : (0 : Int) < y := by omega
    refine ⟨[some (.int a), some (.int b), some (.int x), some (.int y), p], _, ?_, ?_, ⟨some (.int (x % y : Nat)), rfl⟩⟩
    · unfold t_shared_by_1
      simp only [semB, List.map_cons, List.map_nil, List.length_cons, List.length_nil, List.replicate, List.cons_append, List.nil_append, Nat.reduceAdd, Nat.reduceSub, Nat.zero_add, gSeq, gNx, bndS, gSet, gDrop, gRet, gRetN, gIf, gBrk, gRaise, gAsg, gPar, Rs.bnd, Rz.to, pVar, pC, pBin, pUn, Pyd.o2, pChain, pA0, pA1, pCall, sP, sVar, sC, sA0, sA1, sTup, sLst, sBin, sFz, sCallB, sCallN, tP, tE, tNt, tAn, tOrr, sAnd, sOr, sNot, sIf, kName, kNil, kCons, Pyd.kTup, oI, oAddS, oAddI, oSub, oXor, oLt, oLe, oGt, oGe, oNeg, oIx, cLen, cAbs, cAll, cAny, bls, cMax2, cMin2, cInt, fz, fzs, fzn, fzns, dEq_int, dEq_str, dEq_bl, dEq_non, dEq_tup, dEq_lst, dEqs_nil, dEqs_cons, dEqs_n1, dEqs_n2, dok, oEq, oNe, oIsN, oNotN, oIsB, tyD, isB, List.getElem?_cons_zero, List.getElem?_cons_succ, List.set_cons_zero, List.set_cons_succ, Option.bind_some, Option.bind_none, Option.map_some, Option.map_none, if_true, if_false, ite_true, ite_false, Bool.not_true, Bool.not_false, Bool.and_true, Bool.true_and, Bool.and_self, Bool.false_and, Bool.and_false, Bool.or_true, Bool.true_or, Bool.or_false, Bool.false_or, decide_true, decide_false, eq_self_iff_true, and_self, true_and, and_true, List.all_cons, List.all_nil, Nat.lt_add_one, Nat.reduceLT, Nat.reduceLeDiff, Nat.zero_lt_succ, gFor, iLst, Pyd.iTup, Pyd.iAny, Option.some_inj, reduceCtorEq, Bool.false_eq_true, beq_self_eq_true, id_eq, Nat.le_refl, Nat.zero_le, Int.reduceBEq, Int.reduceEq, Int.reduceLT, Int.reduceLE, Int.reduceAdd, Int.reduceSub, Int.reduceMul, Int.reduceNeg, ↓reduceIte, Int.reduceToNat, sLc, Int.toNat_zero, Int.toNat_one, List.getElem?_nil, Int.cast_ofNat_Int, Int.natCast_add, wipeE, backE, tYs, sAdd, oAdd, sSl, oSl, pNo, pPart, decide_eq_true_eq, Bool.not_eq_true', decide_not, bne, Int.add_sub_cancel, Int.sub_add_cancel, Int.reducePow, gCnt, Int.reduceGT, Int.reduceGE, Int.reduceNe, ne_eq, not_true_eq_false, not_false_eq_true, String.reduceEq, String.reduceBEq, Bool.or_self, oMul_r, oMul_l, oDivA_pos, oModA_pos, oPow_10_30, oPow_10_60, oPow_10_4, cut_63, cut_40, cut_60, fzns_ints, Int.reduceAbs, Nat.reducePow, List.length_map, List.length_take, atI_0, atI_1, atI_2, atI_3, atI_4, atI_5, Pyd.iRng1, Pyd.iRng2, Int.toNat_natCast, sIsE, oIsE, gTry, oIsT, Bool.false_beq, Bool.true_beq, lk, lkA, List.mem_cons, List.not_mem_nil, or_false, false_or, or_true, true_or, ne_NoFraction__NoStrength, ne_NoStrength__NoFraction, sMake, sMakeB, gFld, putN, putV, oFld, lookD, sMeth, oIsI, oInT, intsD, gClr, sLcB, semI, outI, hp]
    · unfold b_shared_by_1
      simp only [semB, List.map_cons, List.map_nil, List.length_cons, List.length_nil, List.replicate, List.cons_append, List.nil_append, Nat.reduceAdd, Nat.reduceSub, Nat.zero_add, gSeq, gNx, bndS, gSet, gDrop, gRet, gRetN, gIf, gBrk, gRaise, gAsg, gPar, Rs.bnd, Rz.to, pVar, pC, pBin, pUn, Pyd.o2, pChain, pA0, pA1, pCall, sP, sVar, sC, sA0, sA1, sTup, sLst, sBin, sFz, sCallB, sCallN, tP, tE, tNt, tAn, tOrr, sAnd, sOr, sNot, sIf, kName, kNil, kCons, Pyd.kTup, oI, oAddS, oAddI, oSub, oXor, oLt, oLe, oGt, oGe, oNeg, oIx, cLen, cAbs, cAll, cAny, bls, cMax2, cMin2, cInt, fz, fzs, fzn, fzns, dEq_int, dEq_str, dEq_bl, dEq_non, dEq_tup, dEq_lst, dEqs_nil, dEqs_cons, dEqs_n1, dEqs_n2, dok, oEq, oNe, oIsN, oNotN, oIsB, tyD, isB, List.getElem?_cons_zero, List.getElem?_cons_succ, List.set_cons_zero, List.set_cons_succ, Option.bind_some, Option.bind_none, Option.map_some, Option.map_none, if_true, if_false, ite_true, ite_false, Bool.not_true, Bool.not_false, Bool.and_true, Bool.true_and, Bool.and_self, Bool.false_and, Bool.and_false, Bool.or_true, Bool.true_or, Bool.or_false, Bool.false_or, decide_true, decide_false, eq_self_iff_true, and_self, true_and, and_true, List.all_cons, List.all_nil, Nat.lt_add_one, Nat.reduceLT, Nat.reduceLeDiff, Nat.zero_lt_succ, gFor, iLst, Pyd.iTup, Pyd.iAny, Option.some_inj, reduceCtorEq, Bool.false_eq_true, beq_self_eq_true, id_eq, Nat.le_refl, Nat.zero_le, Int.reduceBEq, Int.reduceEq, Int.reduceLT, Int.reduceLE, Int.reduceAdd, Int.reduceSub, Int.reduceMul, Int.reduceNeg, ↓reduceIte, Int.reduceToNat, sLc, Int.toNat_zero, Int.toNat_one, List.getElem?_nil, Int.cast_ofNat_Int, Int.natCast_add, wipeE, backE, tYs, sAdd, oAdd, sSl, oSl, pNo, pPart, decide_eq_true_eq, Bool.not_eq_true', decide_not, bne, Int.add_sub_cancel, Int.sub_add_cancel, Int.reducePow, gCnt, Int.reduceGT, Int.reduceGE, Int.reduceNe, ne_eq, not_true_eq_false, not_false_eq_true, String.reduceEq, String.reduceBEq, Bool.or_self, oMul_r, oMul_l, oDivA_pos, oModA_pos, oPow_10_30, oPow_10_60, oPow_10_4, cut_63, cut_40, cut_60, fzns_ints, Int.reduceAbs, Nat.reducePow, List.length_map, List.length_take, atI_0, atI_1, atI_2, atI_3, atI_4, atI_5, Pyd.iRng1, Pyd.iRng2, Int.toNat_natCast, sIsE, oIsE, gTry, oIsT, Bool.false_beq, Bool.true_beq, lk, lkA, List.mem_cons, List.not_mem_nil, or_false, false_or, or_true, true_or, ne_NoFraction__NoStrength, ne_NoStrength__NoFraction, sMake, sMakeB, gFld, putN, putV, oFld, lookD, sMeth, oIsI, oInT, intsD, gClr, sLcB, semI, outI, oModA_pos hp, Int.natCast_emod]
  · obtain ⟨p, rfl⟩ := h0
    unfold t_shared_by_1
    simp only [semB, List.map_cons, List.map_nil, List.length_cons, List.length_nil, List.replicate, List.cons_append, List.nil_append, Nat.reduceAdd, Nat.reduceSub, Nat.zero_add, gSeq, gNx, bndS, gSet, gDrop, gRet, gRetN, gIf, gBrk, gRaise, gAsg, gPar, Rs.bnd, Rz.to, pVar, pC, pBin, pUn, Pyd.o2, pChain, pA0, pA1, pCall, sP, sVar, sC, sA0, sA1, sTup, sLst, sBin, sFz, sCallB, sCallN, tP, tE, tNt, tAn, tOrr, sAnd, sOr, sNot, sIf, kName, kNil, kCons, Pyd.kTup, oI, oAddS, oAddI, oSub, oXor, oLt, oLe, oGt, oGe, oNeg, oIx, cLen, cAbs, cAll, cAny, bls, cMax2, cMin2, cInt, fz, fzs, fzn, fzns, dEq_int, dEq_str, dEq_bl, dEq_non, dEq_tup, dEq_lst, dEqs_nil, dEqs_cons, dEqs_n1, dEqs_n2, dok, oEq, oNe, oIsN, oNotN, oIsB, tyD, isB, List.getElem?_cons_zero, List.getElem?_cons_succ, List.set_cons_zero, List.set_cons_succ, Option.bind_some, Option.bind_none, Option.map_some, Option.map_none, if_true, if_false, ite_true, ite_false, Bool.not_true, Bool.not_false, Bool.and_true, Bool.true_and, Bool.and_self, Bool.false_and, Bool.and_false, Bool.or_true, Bool.true_or, Bool.or_false, Bool.false_or, decide_true, decide_false, eq_self_iff_true, and_self, true_and, and_true, List.all_cons, List.all_nil, Nat.lt_add_one, Nat.reduceLT, Nat.reduceLeDiff, Nat.zero_lt_succ, gFor, iLst, Pyd.iTup, Pyd.iAny, Option.some_inj, reduceCtorEq, Bool.false_eq_true, beq_self_eq_true, id_eq, Nat.le_refl, Nat.zero_le, Int.reduceBEq, Int.reduceEq, Int.reduceLT, Int.reduceLE, Int.reduceAdd, Int.reduceSub, Int.reduceMul, Int.reduceNeg, ↓reduceIte, Int.reduceToNat, sLc, Int.toNat_zero, Int.toNat_one, List.getElem?_nil, Int.cast_ofNat_Int, Int.natCast_add, wipeE, backE, tYs, sAdd, oAdd, sSl, oSl, pNo, pPart, decide_eq_true_eq, Bool.not_eq_true', decide_not, bne, Int.add_sub_cancel, Int.sub_add_cancel, Int.reducePow, gCnt, Int.reduceGT, Int.reduceGE, Int.reduceNe, ne_eq, not_true_eq_false, not_false_eq_true, String.reduceEq, String.reduceBEq, Bool.or_self, oMul_r, oMul_l, oDivA_pos, oModA_pos, oPow_10_30, oPow_10_60, oPow_10_4, cut_63, cut_40, cut_60, fzns_ints, Int.reduceAbs, Nat.reducePow, List.length_map, List.length_take, atI_0, atI_1, atI_2, atI_3, atI_4, atI_5, Pyd.iRng1, Pyd.iRng2, Int.toNat_natCast, sIsE, oIsE, gTry, oIsT, Bool.false_beq, Bool.true_beq, lk, lkA, List.mem_cons, List.not_mem_nil, or_false, false_or, or_true, true_or, ne_NoFraction__NoStrength, ne_NoStrength__NoFraction, sMake, sMakeB, gFld, putN, putV, oFld, lookD, sMeth, oIsI, oInT, intsD, gClr, sLcB, semI, outI, Int.natCast_zero, Int.lt_irrefl]
theorem nice_shared_by : ∀ ds : List Dv, ds.length = 2 → s_shared_by ds ≠ .stk → sem_shared_by ds = s_shared_by ds := by
  intro ds hl; clear hl
  unfold s_shared_by
  split
  · rename_i a b
    intro _
    obtain ⟨ρ', h1, p', rfl⟩ := wh_shared_by a b a.natAbs b.natAbs none
    unfold sem_shared_by g_shared_by
    simp only [semB, List.map_cons, List.map_nil, List.length_cons, List.length_nil, List.replicate, List.cons_append, List.nil_append, Nat.reduceAdd, Nat.reduceSub, Nat.zero_add, gSeq, gNx, bndS, gSet, gDrop, gRet, gRetN, gIf, gBrk, gRaise, gAsg, gPar, Rs.bnd, Rz.to, pVar, pC, pBin, pUn, Pyd.o2, pChain, pA0, pA1, pCall, sP, sVar, sC, sA0, sA1, sTup, sLst, sBin, sFz, sCallB, sCallN, tP, tE, tNt, tAn, tOrr, sAnd, sOr, sNot, sIf, kName, kNil, kCons, Pyd.kTup, oI, oAddS, oAddI, oSub, oXor, oLt, oLe, oGt, oGe, oNeg, oIx, cLen, cAbs, cAll, cAny, bls, cMax2, cMin2, cInt, fz, fzs, fzn, fzns, dEq_int, dEq_str, dEq_bl, dEq_non, dEq_tup, dEq_lst, dEqs_nil, dEqs_cons, dEqs_n1, dEqs_n2, dok, oEq, oNe, oIsN, oNotN, oIsB, tyD, isB, List.getElem?_cons_zero, List.getElem?_cons_succ, List.set_cons_zero, List.set_cons_succ, Option.bind_some, Option.bind_none, Option.map_some, Option.map_none, if_true, if_false, ite_true, ite_false, Bool.not_true, Bool.not_false, Bool.and_true, Bool.true_and, Bool.and_self, Bool.false_and, Bool.and_false, Bool.or_true, Bool.true_or, Bool.or_false, Bool.false_or, decide_true, decide_false, eq_self_iff_true, and_self, true_and, and_true, List.all_cons, List.all_nil, Nat.lt_add_one, Nat.reduceLT, Nat.reduceLeDiff, Nat.zero_lt_succ, gFor, iLst, Pyd.iTup, Pyd.iAny, Option.some_inj, reduceCtorEq, Bool.false_eq_true, beq_self_eq_true, id_eq, Nat.le_refl, Nat.zero_le, Int.reduceBEq, Int.reduceEq, Int.reduceLT, Int.reduceLE, Int.reduceAdd, Int.reduceSub, Int.reduceMul, Int.reduceNeg, ↓reduceIte, Int.reduceToNat, sLc, Int.toNat_zero, Int.toNat_one, List.getElem?_nil, Int.cast_ofNat_Int, Int.natCast_add, wipeE, backE, tYs, sAdd, oAdd, sSl, oSl, pNo, pPart, decide_eq_true_eq, Bool.not_eq_true', decide_not, bne, Int.add_sub_cancel, Int.sub_add_cancel, Int.reducePow, gCnt, Int.reduceGT, Int.reduceGE, Int.reduceNe, ne_eq, not_true_eq_false, not_false_eq_true, String.reduceEq, String.reduceBEq, Bool.or_self, oMul_r, oMul_l, oDivA_pos, oModA_pos, oPow_10_30, oPow_10_60, oPow_10_4, cut_63, cut_40, cut_60, fzns_ints, Int.reduceAbs, Nat.reducePow, List.length_map, List.length_take, atI_0, atI_1, atI_2, atI_3, atI_4, atI_5, Pyd.iRng1, Pyd.iRng2, Int.toNat_natCast, sIsE, oIsE, gTry, oIsT, Bool.false_beq, Bool.true_beq, lk, lkA, List.mem_cons, List.not_mem_nil, or_false, false_or, or_true, true_or, ne_NoFraction__NoStrength, ne_NoStrength__NoFraction, sMake, sMakeB, gFld, putN, putV, oFld, lookD, sMeth, oIsI, oInT, intsD, gClr, sLcB, semI, outI, abs_ite, h1]
    rfl
  · exact fun h => absurd rfl h

/-! ### fraction -/
abbrev st_fraction : Stmt := topS 7
theorem sc_fraction : FnScope ["top", "bottom", "by"] ["top", "bottom"] (defScope st_fraction) := ⟨rfl, rfl, rfl, by decide +kernel, rfl, by decide +kernel, by decide +kernel⟩
noncomputable def g_fraction : SS := (gSeq (gIf (tP (pBin oEq (pVar 1) (pC (.int 0)))) (gRaise "NoFraction") gNx)
  (gSeq (gSet 2 (sCallN 2 s_shared_by (sA1 (sVar 0) (sA1 (sVar 1) sA0))))
  (gSeq (gIf (tP (pBin oLt (pVar 1) (pC (.int 0)))) (gSet 2 (sP (pBin oSub (pC (.int 0)) (pVar 2)))) gNx)
  (gRet (sTup true (sA1 (sP (pBin oDivA (pVar 0) (pVar 2))) (sA1 (sP (pBin oDivA (pVar 1) (pVar 2))) sA0)))))))
noncomputable def sem_fraction : List Dv → Rz := semB 3 g_fraction
def s_fraction : List Dv → Rz
  | [.int t, .int b] => if b = 0 then .err ⟨"NoFraction", none⟩ else if b.natAbs < 2 ^ 8000 then .ok (.tup true [.int (fn t b), .int (fd t b)]) else .stk
  | _ => .stk
theorem nice_fraction : ∀ ds : List Dv, ds.length = 2 → s_fraction ds ≠ .stk → sem_fraction ds = s_fraction ds := by
  intro ds hl; clear hl
  unfold s_fraction
  split
  · rename_i t b
    by_cases h0 : b = 0
    · intro _
      subst h0
      unfold sem_fraction g_fraction
      simp only [semB, List.map_cons, List.map_nil, List.length_cons, List.length_nil, List.replicate, List.cons_append, List.nil_append, Nat.reduceAdd, Nat.reduceSub, Nat.zero_add, gSeq, gNx, bndS, gSet, gDrop, gRet, gRetN, gIf, gBrk, gRaise, gAsg, gPar, Rs.bnd, Rz.to, pVar, pC, pBin, pUn, Pyd.o2, pChain, pA0, pA1, pCall, sP, sVar, sC, sA0, sA1, sTup, sLst, sBin, sFz, sCallB, sCallN, tP, tE, tNt, tAn, tOrr, sAnd, sOr, sNot, sIf, kName, kNil, kCons, Pyd.kTup, oI, oAddS, oAddI, oSub, oXor, oLt, oLe, oGt, oGe, oNeg, oIx, cLen, cAbs, cAll, cAny, bls, cMax2, cMin2, cInt, fz, fzs, fzn, fzns, dEq_int, dEq_str, dEq_bl, dEq_non, dEq_tup, dEq_lst, dEqs_nil, dEqs_cons, dEqs_n1, dEqs_n2, dok, oEq, oNe, oIsN, oNotN, oIsB, tyD, isB, List.getElem?_cons_zero, List.getElem?_cons_succ, List.set_cons_zero, List.set_cons_succ, Option.bind_some, Option.bind_none, Option.map_some, Option.map_none, if_true, if_false, ite_true, ite_false, Bool.not_true, Bool.not_false, Bool.and_true, Bool.true_and, Bool.and_self, Bool.false_and, Bool.and_false, Bool.or_true, Bool.true_or, Bool.or_false, Bool.false_or, decide_true, decide_false, eq_self_iff_true, and_self, true_and, and_true, List.all_cons, List.all_nil, Nat.lt_add_one, Nat.reduceLT, Nat.reduceLeDiff, Nat.zero_lt_succ, gFor, iLst, Pyd.iTup, Pyd.iAny, Option.some_inj, reduceCtorEq, Bool.false_eq_true, beq_self_eq_true, id_eq, Nat.le_refl, Nat.zero_le, Int.reduceBEq, Int.reduceEq, Int.reduceLT, Int.reduceLE, Int.reduceAdd, Int.reduceSub, Int.reduceMul, Int.reduceNeg, ↓reduceIte, Int.reduceToNat, sLc, Int.toNat_zero, Int.toNat_one, List.getElem?_nil, Int.cast_ofNat_Int, Int.natCast_add, wipeE, backE, tYs, sAdd, oAdd, sSl, oSl, pNo, pPart, decide_eq_true_eq, Bool.not_eq_true', decide_not, bne, Int.add_sub_cancel, Int.sub_add_cancel, Int.reducePow, gCnt, Int.reduceGT, Int.reduceGE, Int.reduceNe, ne_eq, not_true_eq_false, not_false_eq_true, String.reduceEq, String.reduceBEq, Bool.or_self, oMul_r, oMul_l, oDivA_pos, oModA_pos, oPow_10_30, oPow_10_60, oPow_10_4, cut_63, cut_40, cut_60, fzns_ints, Int.reduceAbs, Nat.reducePow, List.length_map, List.length_take, atI_0, atI_1, atI_2, atI_3, atI_4, atI_5, Pyd.iRng1, Pyd.iRng2, Int.toNat_natCast, sIsE, oIsE, gTry, oIsT, Bool.false_beq, Bool.true_beq, lk, lkA, List.mem_cons, List.not_mem_nil, or_false, false_or, or_true, true_or, ne_NoFraction__NoStrength, ne_NoStrength__NoFraction, sMake, sMakeB, gFld, putN, putV, oFld, lookD, sMeth, oIsI, oInT, intsD, gClr, sLcB, semI, outI, beq_self_eq_true]
    · by_cases hb : b.natAbs < 2 ^ 8000
      · intro _
        rw [if_neg h0, if_pos hb]
        have hb' : (b == 0) = false := by rw [beq_eq_false_iff_ne]; exact h0
        have k : (fby t b).natAbs < 2 ^ 8000 := by rw [fby_abs]; exact Nat.lt_of_le_of_lt (gcd_le_right h0) hb
        have e1 : oDivA (.int t) (.int (fby t b)) = some (.int (fn t b)) := oDivA_dvd (fby_ne h0) (fby_dvdl t b) k
        have e2 : oDivA (.int b) (.int (fby t b)) = some (.int (fd t b)) := oDivA_dvd (fby_ne h0) (fby_dvdr t b) k
        unfold sem_fraction g_fraction
        by_cases hn : b < 0
        · have e3 : fby t b = 0 - (Int.gcd t b : Int) := by unfold fby; rw [if_pos hn]; omega
          rw [e3] at e1 e2
          simp only [semB, List.map_cons, List.map_nil, List.length_cons, List.length_nil, List.replicate, List.cons_append, List.nil_append, Nat.reduceAdd, Nat.reduceSub, Nat.zero_add, gSeq, gNx, bndS, gSet, gDrop, gRet, gRetN, gIf, gBrk, gRaise, gAsg, gPar, Rs.bnd, Rz.to, pVar, pC, pBin, pUn, Pyd.o2, pChain, pA0, pA1, pCall, sP, sVar, sC, sA0, sA1, sTup, sLst, sBin, sFz, sCallB, sCallN, tP, tE, tNt, tAn, tOrr, sAnd, sOr, sNot, sIf, kName, kNil, kCons, Pyd.kTup, oI, oAddS, oAddI, oSub, oXor, oLt, oLe, oGt, oGe, oNeg, oIx, cLen, cAbs, cAll, cAny, bls, cMax2, cMin2, cInt, fz, fzs, fzn, fzns, dEq_int, dEq_str, dEq_bl, dEq_non, dEq_tup, dEq_lst, dEqs_nil, dEqs_cons, dEqs_n1, dEqs_n2, dok, oEq, oNe, oIsN, oNotN, oIsB, tyD, isB, List.getElem?_cons_zero, List.getElem?_cons_succ, List.set_cons_zero, List.set_cons_succ, Option.bind_some, Option.bind_none, Option.map_some, Option.map_none, if_true, if_false, ite_true, ite_false, Bool.not_true, Bool.not_false, Bool.and_true, Bool.true_and, Bool.and_self, Bool.false_and, Bool.and_false, Bool.or_true, Bool.true_or, Bool.or_false, Bool.false_or, decide_true, decide_false, eq_self_iff_true, and_self, true_and, and_true, List.all_cons, List.all_nil, Nat.lt_add_one, Nat.reduceLT, Nat.reduceLeDiff, Nat.zero_lt_succ, gFor, iLst, Pyd.iTup, Pyd.iAny, Option.some_inj, reduceCtorEq, Bool.false_eq_true, beq_self_eq_true, id_eq, Nat.le_refl, Nat.zero_le, Int.reduceBEq, Int.reduceEq, Int.reduceLT, Int.reduceLE, Int.reduceAdd, Int.reduceSub, Int.reduceMul, Int.reduceNeg, ↓reduceIte, Int.reduceToNat, sLc, Int.toNat_zero, Int.toNat_one, List.getElem?_nil, Int.cast_ofNat_Int, Int.natCast_add, wipeE, backE, tYs, sAdd, oAdd, sSl, oSl, pNo, pPart, decide_eq_true_eq, Bool.not_eq_true', decide_not, bne, Int.add_sub_cancel, Int.sub_add_cancel, Int.reducePow, gCnt, Int.reduceGT, Int.reduceGE, Int.reduceNe, ne_eq, not_true_eq_false, not_false_eq_true, String.reduceEq, String.reduceBEq, Bool.or_self, oMul_r, oMul_l, oDivA_pos, oModA_pos, oPow_10_30, oPow_10_60, oPow_10_4, cut_63, cut_40, cut_60, fzns_ints, Int.reduceAbs, Nat.reducePow, List.length_map, List.length_take, atI_0, atI_1, atI_2, atI_3, atI_4, atI_5, Pyd.iRng1, Pyd.iRng2, Int.toNat_natCast, sIsE, oIsE, gTry, oIsT, Bool.false_beq, Bool.true_beq, lk, lkA, List.mem_cons, List.not_mem_nil, or_false, false_or, or_true, true_or, ne_NoFraction__NoStrength, ne_NoStrength__NoFraction, sMake, sMakeB, gFld, putN, putV, oFld, lookD, sMeth, oIsI, oInT, intsD, gClr, sLcB, semI, outI, hb', s_shared_by, hn, e1, e2]
        · have e3 : fby t b = (Int.gcd t b : Int) := by unfold fby; rw [if_neg hn]
          rw [e3] at e1 e2
          simp only [semB, List.map_cons, List.map_nil, List.length_cons, List.length_nil, List.replicate, List.cons_append, List.nil_append, Nat.reduceAdd, Nat.reduceSub, Nat.zero_add, gSeq, gNx, bndS, gSet, gDrop, gRet, gRetN, gIf, gBrk, gRaise, gAsg, gPar, Rs.bnd, Rz.to, pVar, pC, pBin, pUn, Pyd.o2, pChain, pA0, pA1, pCall, sP, sVar, sC, sA0, sA1, sTup, sLst, sBin, sFz, sCallB, sCallN, tP, tE, tNt, tAn, tOrr, sAnd, sOr, sNot, sIf, kName, kNil, kCons, Pyd.kTup, oI, oAddS, oAddI, oSub, oXor, oLt, oLe, oGt, oGe, oNeg, oIx, cLen, cAbs, cAll, cAny, bls, cMax2, cMin2, cInt, fz, fzs, fzn, fzns, dEq_int, dEq_str, dEq_bl, dEq_non, dEq_tup, dEq_lst, dEqs_nil, dEqs_cons, dEqs_n1, dEqs_n2, dok, oEq, oNe, oIsN, oNotN, oIsB, tyD, isB, List.getElem?_cons_zero, List.getElem?_cons_succ, List.set_cons_zero, List.set_cons_succ, Option.bind_some, Option.bind_none, Option.map_some, Option.map_none, if_true, if_false, ite_true, ite_false, Bool.not_true, Bool.not_false, Bool.and_true, Bool.true_and, Bool.and_self, Bool.false_and, Bool.and_false, Bool.or_true, Bool.true_or, Bool.or_false, Bool.false_or, decide_true, decide_false, eq_self_iff_true, and_self, true_and, and_true, List.all_cons, List.all_nil, Nat.lt_add_one, Nat.reduceLT, Nat.reduceLeDiff, Nat.zero_lt_succ, gFor, iLst, Pyd.iTup, Pyd.iAny, Option.some_inj, reduceCtorEq, Bool.false_eq_true, beq_self_eq_true, id_eq, Nat.le_refl, Nat.zero_le, Int.reduceBEq, Int.reduceEq, Int.reduceLT, Int.reduceLE, Int.reduceAdd, Int.reduceSub, Int.reduceMul, Int.reduceNeg, ↓reduceIte, Int.reduceToNat, sLc, Int.toNat_zero, Int.toNat_one, List.getElem?_nil, Int.cast_ofNat_Int, Int.natCast_add, wipeE, backE, tYs, sAdd, oAdd, sSl, oSl, pNo, pPart, decide_eq_true_eq, Bool.not_eq_true', decide_not, bne, Int.add_sub_cancel, Int.sub_add_cancel, Int.reducePow, gCnt, Int.reduceGT, Int.reduceGE, Int.reduceNe, ne_eq, not_true_eq_false, not_false_eq_true, String.reduceEq, String.reduceBEq, Bool.or_self, oMul_r, oMul_l, oDivA_pos, oModA_pos, oPow_10_30, oPow_10_60, oPow_10_4, cut_63, cut_40, cut_60, fzns_ints, Int.reduceAbs, Nat.reducePow, List.length_map, List.length_take, atI_0, atI_1, atI_2, atI_3, atI_4, atI_5, Pyd.iRng1, Pyd.iRng2, Int.toNat_natCast, sIsE, oIsE, gTry, oIsT, Bool.false_beq, Bool.true_beq, lk, lkA, List.mem_cons, List.not_mem_nil, or_false, false_or, or_true, true_or, ne_NoFraction__NoStrength, ne_NoStrength__NoFraction, sMake, sMakeB, gFld, putN, putV, oFld, lookD, sMeth, oIsI, oInT, intsD, gClr, sLcB, semI, outI, hb', s_shared_by, hn, e1, e2]
      · intro h
        rw [if_neg h0, if_neg hb] at h
        exact absurd rfl h
  · exact fun h => absurd rfl h

/-! ### times -/
abbrev st_times : Stmt := topS 9
theorem sc_times : FnScope ["one", "other"] ["one", "other"] (defScope st_times) := ⟨rfl, rfl, rfl, by decide +kernel, rfl, by decide +kernel, by decide +kernel⟩
noncomputable def g_times : SS := (gRet (sCallN 2 s_fraction (sA1 (sP (pBin oMul (pBin oIx (pVar 0) (pC (.int 0))) (pBin oIx (pVar 1) (pC (.int 0))))) (sA1 (sP (pBin oMul (pBin oIx (pVar 0) (pC (.int 1))) (pBin oIx (pVar 1) (pC (.int 1))))) sA0))))
noncomputable def sem_times : List Dv → Rz := semB 2 g_times
def s_times : List Dv → Rz
  | [.tup _ [.int a, .int b], .tup _ [.int c, .int d]] => if a.natAbs < 2 ^ 4000 ∧ b.natAbs < 2 ^ 4000 ∧ c.natAbs < 2 ^ 4000 ∧ d.natAbs < 2 ^ 4000 then s_fraction [.int (a * c), .int (b * d)] else .stk
  | _ => .stk
theorem nice_times : ∀ ds : List Dv, ds.length = 2 → s_times ds ≠ .stk → sem_times ds = s_times ds := by
  intro ds hl; clear hl
  unfold s_times
  split
  · intro h
    split
    · rename_i hb
      unfold sem_times g_times
      simp only [semB, List.map_cons, List.map_nil, List.length_cons, List.length_nil, List.replicate, List.cons_append, List.nil_append, Nat.reduceAdd, Nat.reduceSub, Nat.zero_add, gSeq, gNx, bndS, gSet, gDrop, gRet, gRetN, gIf, gBrk, gRaise, gAsg, gPar, Rs.bnd, Rz.to, pVar, pC, pBin, pUn, Pyd.o2, pChain, pA0, pA1, pCall, sP, sVar, sC, sA0, sA1, sTup, sLst, sBin, sFz, sCallB, sCallN, tP, tE, tNt, tAn, tOrr, sAnd, sOr, sNot, sIf, kName, kNil, kCons, Pyd.kTup, oI, oAddS, oAddI, oSub, oXor, oLt, oLe, oGt, oGe, oNeg, oIx, cLen, cAbs, cAll, cAny, bls, cMax2, cMin2, cInt, fz, fzs, fzn, fzns, dEq_int, dEq_str, dEq_bl, dEq_non, dEq_tup, dEq_lst, dEqs_nil, dEqs_cons, dEqs_n1, dEqs_n2, dok, oEq, oNe, oIsN, oNotN, oIsB, tyD, isB, List.getElem?_cons_zero, List.getElem?_cons_succ, List.set_cons_zero, List.set_cons_succ, Option.bind_some, Option.bind_none, Option.map_some, Option.map_none, if_true, if_false, ite_true, ite_false, Bool.not_true, Bool.not_false, Bool.and_true, Bool.true_and, Bool.and_self, Bool.false_and, Bool.and_false, Bool.or_true, Bool.true_or, Bool.or_false, Bool.false_or, decide_true, decide_false, eq_self_iff_true, and_self, true_and, and_true, List.all_cons, List.all_nil, Nat.lt_add_one, Nat.reduceLT, Nat.reduceLeDiff, Nat.zero_lt_succ, gFor, iLst, Pyd.iTup, Pyd.iAny, Option.some_inj, reduceCtorEq, Bool.false_eq_true, beq_self_eq_true, id_eq, Nat.le_refl, Nat.zero_le, Int.reduceBEq, Int.reduceEq, Int.reduceLT, Int.reduceLE, Int.reduceAdd, Int.reduceSub, Int.reduceMul, Int.reduceNeg, ↓reduceIte, Int.reduceToNat, sLc, Int.toNat_zero, Int.toNat_one, List.getElem?_nil, Int.cast_ofNat_Int, Int.natCast_add, wipeE, backE, tYs, sAdd, oAdd, sSl, oSl, pNo, pPart, decide_eq_true_eq, Bool.not_eq_true', decide_not, bne, Int.add_sub_cancel, Int.sub_add_cancel, Int.reducePow, gCnt, Int.reduceGT, Int.reduceGE, Int.reduceNe, ne_eq, not_true_eq_false, not_false_eq_true, String.reduceEq, String.reduceBEq, Bool.or_self, oMul_r, oMul_l, oDivA_pos, oModA_pos, oPow_10_30, oPow_10_60, oPow_10_4, cut_63, cut_40, cut_60, fzns_ints, Int.reduceAbs, Nat.reducePow, List.length_map, List.length_take, atI_0, atI_1, atI_2, atI_3, atI_4, atI_5, Pyd.iRng1, Pyd.iRng2, Int.toNat_natCast, sIsE, oIsE, gTry, oIsT, Bool.false_beq, Bool.true_beq, lk, lkA, List.mem_cons, List.not_mem_nil, or_false, false_or, or_true, true_or, ne_NoFraction__NoStrength, ne_NoStrength__NoFraction, sMake, sMakeB, gFld, putN, putV, oFld, lookD, sMeth, oIsI, oInT, intsD, gClr, sLcB, semI, outI, oMul_b hb.1 hb.2.2.1, oMul_b hb.2.1 hb.2.2.2]
      cases s_fraction _ <;> rfl
    · rename_i hb
      rw [if_neg hb] at h
      exact absurd rfl h
  · exact fun h => absurd rfl h

/-! ### scaled -/
abbrev st_scaled : Stmt := topS 17
theorem sc_scaled : FnScope ["light", "by", "p", "strength"] ["light", "by"] (defScope st_scaled) := ⟨rfl, rfl, rfl, by decide +kernel, rfl, by decide +kernel, by decide +kernel⟩
noncomputable def c_scaled_1 : SE := (sLc [2, 3] (Pyd.iAny (sVar 0)) (Pyd.kTup 2 (kCons (kName 2) (kCons (kName 3) kNil))) tYs (sTup true (sA1 (sVar 2) (sA1 (sCallN 2 s_times (sA1 (sVar 3) (sA1 (sVar 1) sA0))) sA0))))
noncomputable def g_scaled : SS := (gSeq (gDrop (sCallN 1 s_need_strength (sA1 (sVar 1) sA0)))
  (gRet c_scaled_1))
noncomputable def sem_scaled : List Dv → Rz := semB 4 g_scaled
noncomputable def s_scaled : List Dv → Rz := sem_scaled
theorem nice_scaled : ∀ ds : List Dv, ds.length = 2 → s_scaled ds ≠ .stk → sem_scaled ds = s_scaled ds := fun _ _ _ => rfl
/-! ### _law_refused -/
abbrev st_law_refused : Stmt := topS 26
theorem sc_law_refused : FnScope ["_law_light_here", "_law_by", "_law_refused_here", "e"] ["_law_light_here", "_law_by"] (defScope st_law_refused) := ⟨rfl, rfl, rfl, by decide +kernel, rfl, by decide +kernel, by decide +kernel⟩
noncomputable def b_law_refused_1 : SS := (gDrop (sCallN 2 s_scaled (sA1 (sVar 0) (sA1 (sVar 1) sA0))))
noncomputable def b_law_refused_2 : SS := (gSet 2 (sAnd (sIsE ti_0 (sVar 3)) (sAnd (sIsE ti_1 (sVar 3)) (sNot (sIsE ti_2 (sVar 3))))))
noncomputable def g_law_refused : SS := (gSeq (gSet 2 (sC (.bl false)))
  (gSeq (gTry tc_0 3 b_law_refused_1 b_law_refused_2)
  (gRet (sVar 2))))
noncomputable def sem_law_refused : List Dv → Rz := semB 4 g_law_refused
noncomputable def s_law_refused : List Dv → Rz := sem_law_refused
theorem nice_law_refused : ∀ ds : List Dv, ds.length = 2 → s_law_refused ds ≠ .stk → sem_law_refused ds = s_law_refused ds := fun _ _ _ => rfl
/-! ### plus -/
abbrev st_plus : Stmt := topS 8
theorem sc_plus : FnScope ["one", "other"] ["one", "other"] (defScope st_plus) := ⟨rfl, rfl, rfl, by decide +kernel, rfl, by decide +kernel, by decide +kernel⟩
noncomputable def g_plus : SS := (gRet (sCallN 2 s_fraction (sA1 (sP (pBin oAddS (pBin oMul (pBin oIx (pVar 0) (pC (.int 0))) (pBin oIx (pVar 1) (pC (.int 1)))) (pBin oMul (pBin oIx (pVar 1) (pC (.int 0))) (pBin oIx (pVar 0) (pC (.int 1)))))) (sA1 (sP (pBin oMul (pBin oIx (pVar 0) (pC (.int 1))) (pBin oIx (pVar 1) (pC (.int 1))))) sA0))))
noncomputable def sem_plus : List Dv → Rz := semB 2 g_plus
def s_plus : List Dv → Rz
  | [.tup _ [.int a, .int b], .tup _ [.int c, .int d]] => if a.natAbs < 2 ^ 4000 ∧ b.natAbs < 2 ^ 4000 ∧ c.natAbs < 2 ^ 4000 ∧ d.natAbs < 2 ^ 4000 then s_fraction [.int (a * d + c * b), .int (b * d)] else .stk
  | _ => .stk
theorem nice_plus : ∀ ds : List Dv, ds.length = 2 → s_plus ds ≠ .stk → sem_plus ds = s_plus ds := by
  intro ds hl; clear hl
  unfold s_plus
  split
  · intro h
    split
    · rename_i hb
      unfold sem_plus g_plus
      simp only [semB, List.map_cons, List.map_nil, List.length_cons, List.length_nil, List.replicate, List.cons_append, List.nil_append, Nat.reduceAdd, Nat.reduceSub, Nat.zero_add, gSeq, gNx, bndS, gSet, gDrop, gRet, gRetN, gIf, gBrk, gRaise, gAsg, gPar, Rs.bnd, Rz.to, pVar, pC, pBin, pUn, Pyd.o2, pChain, pA0, pA1, pCall, sP, sVar, sC, sA0, sA1, sTup, sLst, sBin, sFz, sCallB, sCallN, tP, tE, tNt, tAn, tOrr, sAnd, sOr, sNot, sIf, kName, kNil, kCons, Pyd.kTup, oI, oAddS, oAddI, oSub, oXor, oLt, oLe, oGt, oGe, oNeg, oIx, cLen, cAbs, cAll, cAny, bls, cMax2, cMin2, cInt, fz, fzs, fzn, fzns, dEq_int, dEq_str, dEq_bl, dEq_non, dEq_tup, dEq_lst, dEqs_nil, dEqs_cons, dEqs_n1, dEqs_n2, dok, oEq, oNe, oIsN, oNotN, oIsB, tyD, isB, List.getElem?_cons_zero, List.getElem?_cons_succ, List.set_cons_zero, List.set_cons_succ, Option.bind_some, Option.bind_none, Option.map_some, Option.map_none, if_true, if_false, ite_true, ite_false, Bool.not_true, Bool.not_false, Bool.and_true, Bool.true_and, Bool.and_self, Bool.false_and, Bool.and_false, Bool.or_true, Bool.true_or, Bool.or_false, Bool.false_or, decide_true, decide_false, eq_self_iff_true, and_self, true_and, and_true, List.all_cons, List.all_nil, Nat.lt_add_one, Nat.reduceLT, Nat.reduceLeDiff, Nat.zero_lt_succ, gFor, iLst, Pyd.iTup, Pyd.iAny, Option.some_inj, reduceCtorEq, Bool.false_eq_true, beq_self_eq_true, id_eq, Nat.le_refl, Nat.zero_le, Int.reduceBEq, Int.reduceEq, Int.reduceLT, Int.reduceLE, Int.reduceAdd, Int.reduceSub, Int.reduceMul, Int.reduceNeg, ↓reduceIte, Int.reduceToNat, sLc, Int.toNat_zero, Int.toNat_one, List.getElem?_nil, Int.cast_ofNat_Int, Int.natCast_add, wipeE, backE, tYs, sAdd, oAdd, sSl, oSl, pNo, pPart, decide_eq_true_eq, Bool.not_eq_true', decide_not, bne, Int.add_sub_cancel, Int.sub_add_cancel, Int.reducePow, gCnt, Int.reduceGT, Int.reduceGE, Int.reduceNe, ne_eq, not_true_eq_false, not_false_eq_true, String.reduceEq, String.reduceBEq, Bool.or_self, oMul_r, oMul_l, oDivA_pos, oModA_pos, oPow_10_30, oPow_10_60, oPow_10_4, cut_63, cut_40, cut_60, fzns_ints, Int.reduceAbs, Nat.reducePow, List.length_map, List.length_take, atI_0, atI_1, atI_2, atI_3, atI_4, atI_5, Pyd.iRng1, Pyd.iRng2, Int.toNat_natCast, sIsE, oIsE, gTry, oIsT, Bool.false_beq, Bool.true_beq, lk, lkA, List.mem_cons, List.not_mem_nil, or_false, false_or, or_true, true_or, ne_NoFraction__NoStrength, ne_NoStrength__NoFraction, sMake, sMakeB, gFld, putN, putV, oFld, lookD, sMeth, oIsI, oInT, intsD, gClr, sLcB, semI, outI, oMul_b hb.1 hb.2.2.2, oMul_b hb.2.2.1 hb.2.1, oMul_b hb.2.1 hb.2.2.2]
      cases s_fraction _ <;> rfl
    · rename_i hb
      rw [if_neg hb] at h
      exact absurd rfl h
  · exact fun h => absurd rfl h

/-! ### added_up -/
abbrev st_added_up : Stmt := topS 13
theorem sc_added_up : FnScope ["pairs", "kept", "p", "strength"] ["pairs"] (defScope st_added_up) := ⟨rfl, rfl, rfl, by decide +kernel, rfl, by decide +kernel, by decide +kernel⟩
noncomputable def b_added_up_1 : SS := (gIf (tP (pBin (oDIn false) (pVar 2) (pVar 1))) (gDPut 1 (pVar 2) (sCallN 2 s_plus (sA1 (sP (pBin oDGet (pVar 1) (pVar 2))) (sA1 (sVar 3) sA0)))) (gDPut 1 (pVar 2) (sVar 3)))
noncomputable def c_added_up_1 : SE := (sLc [2] (Pyd.iAny (sSortD 3 (pVar 1))) (kName 2) tYs (sTup true (sA1 (sVar 2) (sA1 (sP (pBin oDGet (pVar 1) (pVar 2))) sA0))))
noncomputable def g_added_up : SS := (gSeq (gSet 1 sDctT)
  (gSeq (gFor (Pyd.iAny (sVar 0)) (Pyd.kTup 2 (kCons (kName 2) (kCons (kName 3) kNil)))
  b_added_up_1)
  (gRet c_added_up_1)))
noncomputable def sem_added_up : List Dv → Rz := semB 4 g_added_up
noncomputable def s_added_up : List Dv → Rz := sem_added_up
theorem nice_added_up : ∀ ds : List Dv, ds.length = 1 → s_added_up ds ≠ .stk → sem_added_up ds = s_added_up ds := fun _ _ _ => rfl
/-! ### joined -/
abbrev st_joined : Stmt := topS 16
theorem sc_joined : FnScope ["one", "other"] ["one", "other"] (defScope st_joined) := ⟨rfl, rfl, rfl, by decide +kernel, rfl, by decide +kernel, by decide +kernel⟩
noncomputable def g_joined : SS := (gRet (sCallN 1 s_added_up (sA1 (sAdd (sVar 0) (sVar 1)) sA0)))
noncomputable def sem_joined : List Dv → Rz := semB 2 g_joined
noncomputable def s_joined : List Dv → Rz := sem_joined
theorem nice_joined : ∀ ds : List Dv, ds.length = 2 → s_joined ds ≠ .stk → sem_joined ds = s_joined ds := fun _ _ _ => rfl
/-! ### sum_of -/
abbrev st_sum_of : Stmt := topS 15
theorem sc_sum_of : FnScope ["light", "total", "p", "strength"] ["light"] (defScope st_sum_of) := ⟨rfl, rfl, rfl, by decide +kernel, rfl, by decide +kernel, by decide +kernel⟩
noncomputable def b_sum_of_1 : SS := (gSet 1 (sCallN 2 s_plus (sA1 (sVar 1) (sA1 (sVar 3) sA0))))
noncomputable def g_sum_of : SS := (gSeq (gSet 1 (sP (pC k_NONE)))
  (gSeq (gFor (Pyd.iAny (sVar 0)) (Pyd.kTup 2 (kCons (kName 2) (kCons (kName 3) kNil)))
  b_sum_of_1)
  (gRet (sVar 1))))
noncomputable def sem_sum_of : List Dv → Rz := semB 4 g_sum_of
noncomputable def s_sum_of : List Dv → Rz := sem_sum_of
theorem nice_sum_of : ∀ ds : List Dv, ds.length = 1 → s_sum_of ds ≠ .stk → sem_sum_of ds = s_sum_of ds := fun _ _ _ => rfl
/-! ### law -/
abbrev st_law : Stmt := topS 27
theorem sc_law : FnScope ["_law_script", "_law_first", "_law_cells", "_law_cut", "_law_one", "_law_other", "_law_due", "_law_handed", "_law_found", "_law_by", "_law_strong", "_law_more", "_law_p", "_law_strength_here", "_law_total"] ["_law_script"] (defScope st_law) := ⟨rfl, rfl, rfl, by decide +kernel, rfl, by decide +kernel, by decide +kernel⟩
noncomputable def b_law_1 : SS := (gApp 11 (sTup true (sA1 (sVar 12) (sA1 (sCallN 2 s_law_low (sA1 (sP (pBin oMul (pBin oIx (pVar 13) (pC (.int 0))) (pBin oIx (pVar 9) (pC (.int 0))))) (sA1 (sP (pBin oMul (pBin oIx (pVar 13) (pC (.int 1))) (pBin oIx (pVar 9) (pC (.int 1))))) sA0))) sA0))))
noncomputable def g_law : SS := (gSeq (gSet 1 (sCallN 2 s_law_cell_at (sA1 (sVar 0) (sA1 (sC (.int 0)) sA0))))
  (gSeq (gSet 2 (sFz (sSl (pVar 0) (pPart (pC (.int 1))) (pPart (pC (.int 63))))))
  (gSeq (gSet 3 (sP (pBin oModA (pBin oDivA (pVar 1) (pC (.int 3))) (pBin oAddS (pCall cLen (pA1 (pVar 2) pA0)) (pC (.int 1))))))
  (gSeq (gSet 4 (sCallN 1 s_law_light (sA1 (sSl (pVar 2) pNo (pPart (pVar 3))) sA0)))
  (gSeq (gSet 5 (sCallN 1 s_law_light (sA1 (sAdd (sSl (pVar 2) (pPart (pVar 3)) pNo) (sSl (pVar 2) pNo (pPart (pBin oModA (pVar 1) (pC (.int 3)))))) sA0)))
  (gSeq (gSet 6 (sCallN 2 s_law_both (sA1 (sVar 4) (sA1 (sVar 5) sA0))))
  (gSeq (gSet 7 (sFz (sLst (sA1 (sLstC (pVar 4)) (sA1 (sLstC (pVar 5)) sA0)))))
  (gSeq (gSet 8 (sFz (sCallN 2 s_joined (sA1 (sP (pBin oIx (pVar 7) (pC (.int 0)))) (sA1 (sP (pBin oIx (pVar 7) (pC (.int 1)))) sA0)))))
  (gSeq (gIf (tOrr (tNt (tP (pUn (oIsB "list") (pVar 8)))) (tOrr (tP (pBin oNe (pVar 8) (pVar 6))) (tE (sBin oNe (sCallN 2 s_joined (sA1 (sP (pBin oIx (pVar 7) (pC (.int 1)))) (sA1 (sP (pBin oIx (pVar 7) (pC (.int 0)))) sA0))) (sVar 6))))) (gRet (sC (.bl false))) gNx)
  (gSeq (gIf (tE (sBin oNe (sVar 7) (sLst (sA1 (sVar 4) (sA1 (sVar 5) sA0))))) (gRet (sC (.bl false))) gNx)
  (gSeq (gIf (tOrr (tE (sBin oNe (sCallN 2 s_joined (sA1 (sP (pBin oIx (pVar 7) (pC (.int 0)))) (sA1 (sLst sA0) sA0))) (sVar 4))) (tOrr (tE (sBin oNe (sCallN 2 s_joined (sA1 (sLst sA0) (sA1 (sP (pBin oIx (pVar 7) (pC (.int 1)))) sA0))) (sVar 5))) (tE (sBin oNe (sCallN 2 s_joined (sA1 (sLst sA0) (sA1 (sLst sA0) sA0))) (sLst sA0))))) (gRet (sC (.bl false))) gNx)
  (gSeq (gClrE (sCallN 2 s_joined (sA1 (sP (pBin oIx (pVar 7) (pC (.int 0)))) (sA1 (sLst sA0) sA0))))
  (gSeq (gClrE (sCallN 2 s_joined (sA1 (sLst sA0) (sA1 (sP (pBin oIx (pVar 7) (pC (.int 1)))) sA0))))
  (gSeq (gClrE (sCallN 2 s_scaled (sA1 (sP (pBin oIx (pVar 7) (pC (.int 0)))) (sA1 (sTup true (sA1 (sC (.int 1)) (sA1 (sC (.int 1)) sA0))) sA0))))
  (gSeq (gIf (tE (sBin oNe (sVar 7) (sLst (sA1 (sVar 4) (sA1 (sVar 5) sA0))))) (gRet (sC (.bl false))) gNx)
  (gSeq (gSet 9 (sCallN 1 s_law_strength (sA1 (sVar 1) sA0)))
  (gSeq (gSet 10 (sFz (sCallN 2 s_scaled (sA1 (sVar 8) (sA1 (sVar 9) sA0)))))
  (gSeq (gSet 11 (sLst sA0))
  (gSeq (gFor (Pyd.iAny (sVar 6)) (Pyd.kTup 2 (kCons (kName 12) (kCons (kName 13) kNil)))
  b_law_1)
  (gSeq (gIf (tOrr (tP (pBin oNe (pVar 10) (pVar 11))) (tP (pBin oNe (pVar 8) (pVar 6)))) (gRet (sC (.bl false))) gNx)
  (gSeq (gSet 14 (sCallN 1 s_sum_of (sA1 (sVar 8) sA0)))
  (gSeq (gIf (tOrr (tE (sBin oNe (sCallN 1 s_sum_of (sA1 (sVar 10) sA0)) (sCallN 2 s_law_low (sA1 (sP (pBin oMul (pBin oIx (pVar 14) (pC (.int 0))) (pBin oIx (pVar 9) (pC (.int 0))))) (sA1 (sP (pBin oMul (pBin oIx (pVar 14) (pC (.int 1))) (pBin oIx (pVar 9) (pC (.int 1))))) sA0))))) (tE (sBin oNe (sCallN 2 s_scaled (sA1 (sLst sA0) (sA1 (sVar 9) sA0))) (sLst sA0)))) (gRet (sC (.bl false))) gNx)
  (gRet (sAnd (sCallN 2 s_law_refused (sA1 (sVar 8) (sA1 (sTup true (sA1 (sC (.int 0)) (sA1 (sC (.int 1)) sA0))) sA0))) (sCallN 2 s_law_refused (sA1 (sLst sA0) (sA1 (sTup true (sA1 (sP (pBin oSub (pBin oSub (pC (.int 0)) (pC (.int 1))) (pBin oModA (pBin oDivA (pVar 1) (pC (.int 2))) (pBin oPow (pC (.int 10)) (pC (.int 30)))))) (sA1 (sC (.int 1)) sA0))) sA0)))))))))))))))))))))))))))
noncomputable def sem_law : List Dv → Rz := semB 15 g_law
noncomputable def s_law : List Dv → Rz := sem_law
theorem nice_law : ∀ ds : List Dv, ds.length = 1 → s_law ds ≠ .stk → sem_law ds = s_law ds := fun _ _ _ => rfl
/-! ### the text behind the top -/
structure Txt (P : Program) (w : World) (K : PySem.W.Frag) (mg : Str → Option Value) (base : Heap) : Prop where
  m_ValueError : mg "ValueError" = none
  m_abs : mg "abs" = none
  m_isinstance : mg "isinstance" = none
  m_len : mg "len" = none
  m_list : mg "list" = none
  m_sorted : mg "sorted" = none
  k_NONE : Kon K mg "NONE" k_NONE
  x_NoFraction : Exc K mg "NoFraction"
  x_NoStrength : Exc K mg "NoStrength"
  c_BeamError : mg "BeamError" = some (.ref (rf mg "BeamError"))
  c_NoPass : mg "NoPass" = some (.ref (rf mg "NoPass"))
  c_NoStrength : mg "NoStrength" = some (.ref (rf mg "NoStrength"))
  ti_0 : IsTb K mg [.ref (rf mg "NoStrength")] ti_0
  ti_1 : IsTb K mg [.type "ValueError"] ti_1
  ti_2 : IsTb K mg [.ref (rf mg "NoPass")] ti_2
  tc_0 : CtTb K mg "BeamError" tc_0
  f_law_low : ∃ f fd, Fun K "_law_low" "_law_low" st_law_low f fd ∧ mg "_law_low" = some (.ref f)
  f_law_plus : ∃ f fd, Fun K "_law_plus" "_law_plus" st_law_plus f fd ∧ mg "_law_plus" = some (.ref f)
  f_law_both : ∃ f fd, Fun K "_law_both" "_law_both" st_law_both f fd ∧ mg "_law_both" = some (.ref f)
  f_law_cell_at : ∃ f fd, Fun K "_law_cell_at" "_law_cell_at" st_law_cell_at f fd ∧ mg "_law_cell_at" = some (.ref f)
  f_law_pass : ∃ f fd, Fun K "_law_pass" "_law_pass" st_law_pass f fd ∧ mg "_law_pass" = some (.ref f)
  f_law_strength : ∃ f fd, Fun K "_law_strength" "_law_strength" st_law_strength f fd ∧ mg "_law_strength" = some (.ref f)
  f_law_light : ∃ f fd, Fun K "_law_light" "_law_light" st_law_light f fd ∧ mg "_law_light" = some (.ref f)
  f_under : ∃ f fd, Fun K "under" "under" st_under f fd ∧ mg "under" = some (.ref f)
  f_need_strength : ∃ f fd, Fun K "need_strength" "need_strength" st_need_strength f fd ∧ mg "need_strength" = some (.ref f)
  f_shared_by : ∃ f fd, Fun K "shared_by" "shared_by" st_shared_by f fd ∧ mg "shared_by" = some (.ref f)
  f_fraction : ∃ f fd, Fun K "fraction" "fraction" st_fraction f fd ∧ mg "fraction" = some (.ref f)
  f_times : ∃ f fd, Fun K "times" "times" st_times f fd ∧ mg "times" = some (.ref f)
  f_scaled : ∃ f fd, Fun K "scaled" "scaled" st_scaled f fd ∧ mg "scaled" = some (.ref f)
  f_law_refused : ∃ f fd, Fun K "_law_refused" "_law_refused" st_law_refused f fd ∧ mg "_law_refused" = some (.ref f)
  f_plus : ∃ f fd, Fun K "plus" "plus" st_plus f fd ∧ mg "plus" = some (.ref f)
  f_added_up : ∃ f fd, Fun K "added_up" "added_up" st_added_up f fd ∧ mg "added_up" = some (.ref f)
  f_joined : ∃ f fd, Fun K "joined" "joined" st_joined f fd ∧ mg "joined" = some (.ref f)
  f_sum_of : ∃ f fd, Fun K "sum_of" "sum_of" st_sum_of f fd ∧ mg "sum_of" = some (.ref f)
  f_law : ∃ f fd, Fun K "law" "law" st_law f fd ∧ mg "law" = some (.ref f)
section
variable {P : Program} {w : World} {K : PySem.W.Frag} {mg : Str → Option Value} {base : Heap}
set_option maxHeartbeats 4000000 in
theorem ok_law_low (T : Txt P w K mg base)  {f : Addr} {fd : FuncData} (F : Fun K "_law_low" "_law_low" st_law_low f fd) : FnOk P w K mg base (L2.CX P w) 1 f fd ["_law_top", "_law_bottom"] (spD K mg 2 sem_law_low) := by
  refine Pyd.Fun.okD (k := 0) F sc_law_low rfl rfl (g := g_law_low) fun cdv A outer s H E hr tk po => ?_
  have hu := hr.units
  exact (jss_cons (js_set (i := 2) sc_law_low.nd (je_var (i := 0)))
  (jss_cons (js_set (i := 3) sc_law_low.nd (je_var (i := 1)))
  (jss_cons (js_while po (jt_cmpP (os_ne hu) (jp_var (i := 3)) jp_int)
  (jss_one (js_par (i := 2) (j := 3) sc_law_low.nd (ja_cons (je_var (i := 3)) (ja_cons (je_p (jp_bin os_modA (jp_var (i := 2)) (jp_var (i := 3)))) ja_nil)))))
  (jss_one (js_ret (je_tup (ja_cons (je_p (jp_bin os_divA (jp_var (i := 0)) (jp_var (i := 2)))) (ja_cons (je_p (jp_bin os_divA (jp_var (i := 1)) (jp_var (i := 2)))) ja_nil))))))))
theorem d_law_low (T : Txt P w K mg base)  : Def P w K mg base "_law_low" 1 2 s_law_low := by
  obtain ⟨f, fd, F, hm⟩ := T.f_law_low
  exact Def.mk2 nice_law_low (ok_law_low T  F) hm F.kp (F.binds fun _ _ _ _ _ _ us hl => match us, hl with | [_, _], _ => rfl)
set_option maxHeartbeats 4000000 in
theorem ok_law_plus (T : Txt P w K mg base) (D_law_low : Def P w K mg base "_law_low" 1 2 s_law_low) {f : Addr} {fd : FuncData} (F : Fun K "_law_plus" "_law_plus" st_law_plus f fd) : FnOk P w K mg base (L2.CX P w) 2 f fd ["_law_one", "_law_other"] (spD K mg 2 sem_law_plus) := by
  refine Pyd.Fun.okD (k := 1) F sc_law_plus rfl rfl (g := g_law_plus) fun cdv A outer s H E hr tk po => ?_
  have hu := hr.units
  exact (jss_one (js_ret (je_call D_law_low (hr.mono (by decide)) tk (ja_cons (je_p (jp_bin os_addS (jp_bin os_mul (jp_ix (jp_var (i := 0)) jp_int) (jp_ix (jp_var (i := 1)) jp_int)) (jp_bin os_mul (jp_ix (jp_var (i := 1)) jp_int) (jp_ix (jp_var (i := 0)) jp_int)))) (ja_cons (je_p (jp_bin os_mul (jp_ix (jp_var (i := 0)) jp_int) (jp_ix (jp_var (i := 1)) jp_int))) ja_nil)))))
theorem d_law_plus (T : Txt P w K mg base) (D_law_low : Def P w K mg base "_law_low" 1 2 s_law_low) : Def P w K mg base "_law_plus" 2 2 s_law_plus := by
  obtain ⟨f, fd, F, hm⟩ := T.f_law_plus
  exact Def.mk2 nice_law_plus (ok_law_plus T D_law_low F) hm F.kp (F.binds fun _ _ _ _ _ _ us hl => match us, hl with | [_, _], _ => rfl)
set_option maxHeartbeats 4000000 in
theorem ok_law_both (T : Txt P w K mg base) (D_law_plus : Def P w K mg base "_law_plus" 2 2 s_law_plus) {f : Addr} {fd : FuncData} (F : Fun K "_law_both" "_law_both" st_law_both f fd) : FnOk P w K mg base (L2.CX P w) 3 f fd ["_law_one", "_law_other"] (spD K mg 2 sem_law_both) := by
  refine Pyd.Fun.okD (k := 2) F sc_law_both rfl rfl (g := g_law_both) fun cdv A outer s H E hr tk po => ?_
  have hu := hr.units
  exact (jss_cons (js_set (i := 2) sc_law_both.nd je_dictT)
  (jss_cons (js_for po (ji_any (je_add (je_var (i := 0)) (je_var (i := 1)))) (jg_tup (jgs_cons (jg_name (i := 3) sc_law_both.nd) (jgs_cons (jg_name (i := 4) sc_law_both.nd) jgs_nil)))
  (jss_one (js_dput (i := 2) hu (je_call D_law_plus (hr.mono (by decide)) tk (ja_cons (je_dget2 (i := 2) hu (je_var (i := 3)) (je_tup (ja_cons je_int (ja_cons je_int ja_nil)))) (ja_cons (je_var (i := 4)) ja_nil))) (jp_var (i := 3)))))
  (jss_one (js_ret (je_fz (je_lc (own := [("_law_p", 3)]) sc_law_both.nd (ji_any (je_sortedD (m := 3) rfl (jp_var (i := 2)) T.m_sorted)) (blkOk_by (N := ["_law_one", "_law_other", "_law_kept", "_law_p", "_law_strength_here"]) (sc := defScope st_law_both) (by decide +kernel)) (fun _ _ _ _ _ => (jg_name (i := 3) sc_law_both.nd)) (fun _ _ _ _ _ => ptc_nil) (fun _ _ _ _ _ => (je_tup (ja_cons (je_var (i := 3)) (ja_cons (je_p (jp_dget hu (jp_var (i := 2)) (jp_var (i := 3)))) ja_nil))))))))))
theorem d_law_both (T : Txt P w K mg base) (D_law_plus : Def P w K mg base "_law_plus" 2 2 s_law_plus) : Def P w K mg base "_law_both" 3 2 s_law_both := by
  obtain ⟨f, fd, F, hm⟩ := T.f_law_both
  exact Def.mk2 nice_law_both (ok_law_both T D_law_plus F) hm F.kp (F.binds fun _ _ _ _ _ _ us hl => match us, hl with | [_, _], _ => rfl)
set_option maxHeartbeats 4000000 in
theorem ok_law_cell_at (T : Txt P w K mg base)  {f : Addr} {fd : FuncData} (F : Fun K "_law_cell_at" "_law_cell_at" st_law_cell_at f fd) : FnOk P w K mg base (L2.CX P w) 1 f fd ["_law_script", "_law_k"] (spD K mg 2 sem_law_cell_at) := by
  refine Pyd.Fun.okD (k := 0) F sc_law_cell_at rfl rfl (g := g_law_cell_at) fun cdv A outer s H E hr tk po => ?_
  have hu := hr.units
  exact (jss_cons (js_if (jt_cmpP os_lt (jp_var (i := 1)) (jp_callB cs_len T.m_len PySem.boot_len (jpa_cons (jp_var (i := 0)) jpa_nil))) (jss_one (js_ret (je_p (jp_ix (jp_var (i := 0)) (jp_var (i := 1)))))) jss_nil)
  (jss_one (js_ret je_int)))
theorem d_law_cell_at (T : Txt P w K mg base)  : Def P w K mg base "_law_cell_at" 1 2 s_law_cell_at := by
  obtain ⟨f, fd, F, hm⟩ := T.f_law_cell_at
  exact Def.mk2 nice_law_cell_at (ok_law_cell_at T  F) hm F.kp (F.binds fun _ _ _ _ _ _ us hl => match us, hl with | [_, _], _ => rfl)
set_option maxHeartbeats 4000000 in
theorem ok_law_pass (T : Txt P w K mg base)  {f : Addr} {fd : FuncData} (F : Fun K "_law_pass" "_law_pass" st_law_pass f fd) : FnOk P w K mg base (L2.CX P w) 1 f fd ["_law_cell"] (spD K mg 1 sem_law_pass) := by
  refine Pyd.Fun.okD (k := 0) F sc_law_pass rfl rfl (g := g_law_pass) fun cdv A outer s H E hr tk po => ?_
  have hu := hr.units
  exact (jss_cons (js_if (jt_cmpP (os_eq hu) (jp_bin os_modA (jp_var (i := 0)) jp_int) jp_int) (jss_one (js_ret (je_tup (ja_cons (je_p (jp_bin os_modA (jp_bin os_divA (jp_var (i := 0)) jp_int) jp_int)) (ja_cons (je_p (jp_bin os_modA (jp_bin os_divA (jp_var (i := 0)) jp_int) jp_int)) (ja_cons (je_p (jp_bin os_modA (jp_bin os_divA (jp_var (i := 0)) jp_int) jp_int)) ja_nil)))))) jss_nil)
  (jss_one (js_ret (je_ix (je_lst (ja_cons (je_tup (ja_cons je_int (ja_cons je_int (ja_cons je_int ja_nil)))) (ja_cons (je_tup (ja_cons (je_p (jp_neg jp_int)) (ja_cons je_int (ja_cons je_int ja_nil)))) (ja_cons (je_tup (ja_cons je_int (ja_cons (je_p (jp_neg jp_int)) (ja_cons je_int ja_nil)))) (ja_cons (je_tup (ja_cons je_int (ja_cons je_int (ja_cons je_int ja_nil)))) ja_nil))))) (je_p (jp_bin os_modA (jp_bin os_divA (jp_var (i := 0)) jp_int) jp_int))))))
theorem d_law_pass (T : Txt P w K mg base)  : Def P w K mg base "_law_pass" 1 1 s_law_pass := by
  obtain ⟨f, fd, F, hm⟩ := T.f_law_pass
  exact Def.mk2 nice_law_pass (ok_law_pass T  F) hm F.kp (F.binds fun _ _ _ _ _ _ us hl => match us, hl with | [_], _ => rfl)
set_option maxHeartbeats 4000000 in
theorem ok_law_strength (T : Txt P w K mg base) (D_law_low : Def P w K mg base "_law_low" 1 2 s_law_low) {f : Addr} {fd : FuncData} (F : Fun K "_law_strength" "_law_strength" st_law_strength f fd) : FnOk P w K mg base (L2.CX P w) 2 f fd ["_law_cell"] (spD K mg 1 sem_law_strength) := by
  refine Pyd.Fun.okD (k := 1) F sc_law_strength rfl rfl (g := g_law_strength) fun cdv A outer s H E hr tk po => ?_
  have hu := hr.units
  exact (jss_one (js_ret (je_call D_law_low (hr.mono (by decide)) tk (ja_cons (je_p (jp_bin os_addS jp_int (jp_bin os_modA (jp_bin os_mul (jp_var (i := 0)) jp_int) (jp_bin os_pow jp_int jp_int)))) (ja_cons (je_p (jp_bin os_addS jp_int (jp_bin os_modA (jp_bin os_divA (jp_var (i := 0)) jp_int) jp_int))) ja_nil)))))
theorem d_law_strength (T : Txt P w K mg base) (D_law_low : Def P w K mg base "_law_low" 1 2 s_law_low) : Def P w K mg base "_law_strength" 2 1 s_law_strength := by
  obtain ⟨f, fd, F, hm⟩ := T.f_law_strength
  exact Def.mk2 nice_law_strength (ok_law_strength T D_law_low F) hm F.kp (F.binds fun _ _ _ _ _ _ us hl => match us, hl with | [_], _ => rfl)
set_option maxHeartbeats 4000000 in
theorem ok_law_light (T : Txt P w K mg base) (D_law_pass : Def P w K mg base "_law_pass" 1 1 s_law_pass) (D_law_strength : Def P w K mg base "_law_strength" 2 1 s_law_strength) {f : Addr} {fd : FuncData} (F : Fun K "_law_light" "_law_light" st_law_light f fd) : FnOk P w K mg base (L2.CX P w) 3 f fd ["_law_cells"] (spD K mg 1 sem_law_light) := by
  refine Pyd.Fun.okD (k := 2) F sc_law_light rfl rfl (g := g_law_light) fun cdv A outer s H E hr tk po => ?_
  have hu := hr.units
  exact (jss_cons (js_set (i := 1) sc_law_light.nd je_dictT)
  (jss_cons (js_for po (ji_any (je_var (i := 0))) (jg_name (i := 2) sc_law_light.nd)
  (jss_one (js_dputE (i := 1) hu (je_call D_law_strength (hr.mono (by decide)) tk (ja_cons (je_p (jp_bin os_divA (jp_var (i := 2)) jp_int)) ja_nil)) (je_call D_law_pass (hr.mono (by decide)) tk (ja_cons (je_var (i := 2)) ja_nil)))))
  (jss_one (js_ret (je_fz (je_lc (own := [("_law_p", 3)]) sc_law_light.nd (ji_any (je_sortedD (m := 3) rfl (jp_var (i := 1)) T.m_sorted)) (blkOk_by (N := ["_law_cells", "_law_kept", "_law_cell", "_law_p"]) (sc := defScope st_law_light) (by decide +kernel)) (fun _ _ _ _ _ => (jg_name (i := 3) sc_law_light.nd)) (fun _ _ _ _ _ => ptc_nil) (fun _ _ _ _ _ => (je_tup (ja_cons (je_var (i := 3)) (ja_cons (je_p (jp_dget hu (jp_var (i := 1)) (jp_var (i := 3)))) ja_nil))))))))))
theorem d_law_light (T : Txt P w K mg base) (D_law_pass : Def P w K mg base "_law_pass" 1 1 s_law_pass) (D_law_strength : Def P w K mg base "_law_strength" 2 1 s_law_strength) : Def P w K mg base "_law_light" 3 1 s_law_light := by
  obtain ⟨f, fd, F, hm⟩ := T.f_law_light
  exact Def.mk2 nice_law_light (ok_law_light T D_law_pass D_law_strength F) hm F.kp (F.binds fun _ _ _ _ _ _ us hl => match us, hl with | [_], _ => rfl)
set_option maxHeartbeats 4000000 in
theorem ok_under (T : Txt P w K mg base)  {f : Addr} {fd : FuncData} (F : Fun K "under" "under" st_under f fd) : FnOk P w K mg base (L2.CX P w) 1 f fd ["one", "other"] (spD K mg 2 sem_under) := by
  refine Pyd.Fun.okD (k := 0) F sc_under rfl rfl (g := g_under) fun cdv A outer s H E hr tk po => ?_
  have hu := hr.units
  exact (jss_one (js_ret (je_p (jp_cmp os_lt (jp_bin os_mul (jp_ix (jp_var (i := 0)) jp_int) (jp_ix (jp_var (i := 1)) jp_int)) (jp_bin os_mul (jp_ix (jp_var (i := 1)) jp_int) (jp_ix (jp_var (i := 0)) jp_int))))))
theorem d_under (T : Txt P w K mg base)  : Def P w K mg base "under" 1 2 s_under := by
  obtain ⟨f, fd, F, hm⟩ := T.f_under
  exact Def.mk2 nice_under (ok_under T  F) hm F.kp (F.binds fun _ _ _ _ _ _ us hl => match us, hl with | [_, _], _ => rfl)
set_option maxHeartbeats 4000000 in
theorem ok_need_strength (T : Txt P w K mg base) (D_under : Def P w K mg base "under" 1 2 s_under) {f : Addr} {fd : FuncData} (F : Fun K "need_strength" "need_strength" st_need_strength f fd) : FnOk P w K mg base (L2.CX P w) 2 f fd ["strength"] (spD K mg 1 sem_need_strength) := by
  refine Pyd.Fun.okD (k := 1) F sc_need_strength rfl rfl (g := g_need_strength) fun cdv A outer s H E hr tk po => ?_
  have hu := hr.units
  exact (jss_one (js_if (jt_not (jt_e (je_call D_under (hr.mono (by decide)) tk (ja_cons (je_p (jp_glob T.k_NONE)) (ja_cons (je_var (i := 0)) ja_nil))))) (jss_one (js_raise T.x_NoStrength tk)) jss_nil))
theorem d_need_strength (T : Txt P w K mg base) (D_under : Def P w K mg base "under" 1 2 s_under) : Def P w K mg base "need_strength" 2 1 s_need_strength := by
  obtain ⟨f, fd, F, hm⟩ := T.f_need_strength
  exact Def.mk2 nice_need_strength (ok_need_strength T D_under F) hm F.kp (F.binds fun _ _ _ _ _ _ us hl => match us, hl with | [_], _ => rfl)
set_option maxHeartbeats 4000000 in
theorem ok_shared_by (T : Txt P w K mg base)  {f : Addr} {fd : FuncData} (F : Fun K "shared_by" "shared_by" st_shared_by f fd) : FnOk P w K mg base (L2.CX P w) 1 f fd ["one", "other"] (spD K mg 2 sem_shared_by) := by
  refine Pyd.Fun.okD (k := 0) F sc_shared_by rfl rfl (g := g_shared_by) fun cdv A outer s H E hr tk po => ?_
  have hu := hr.units
  exact (jss_cons (js_set (i := 2) sc_shared_by.nd (je_p (jp_callB cs_abs T.m_abs (by decide +kernel) (jpa_cons (jp_var (i := 0)) jpa_nil))))
  (jss_cons (js_set (i := 3) sc_shared_by.nd (je_p (jp_callB cs_abs T.m_abs (by decide +kernel) (jpa_cons (jp_var (i := 1)) jpa_nil))))
  (jss_cons (js_while po (jt_cmpP os_gt (jp_var (i := 3)) jp_int)
  (jss_cons (js_set (i := 4) sc_shared_by.nd (je_p (jp_bin os_modA (jp_var (i := 2)) (jp_var (i := 3)))))
  (jss_cons (js_set (i := 2) sc_shared_by.nd (je_var (i := 3)))
  (jss_one (js_set (i := 3) sc_shared_by.nd (je_var (i := 4)))))))
  (jss_one (js_ret (je_var (i := 2)))))))
theorem d_shared_by (T : Txt P w K mg base)  : Def P w K mg base "shared_by" 1 2 s_shared_by := by
  obtain ⟨f, fd, F, hm⟩ := T.f_shared_by
  exact Def.mk2 nice_shared_by (ok_shared_by T  F) hm F.kp (F.binds fun _ _ _ _ _ _ us hl => match us, hl with | [_, _], _ => rfl)
set_option maxHeartbeats 4000000 in
theorem ok_fraction (T : Txt P w K mg base) (D_shared_by : Def P w K mg base "shared_by" 1 2 s_shared_by) {f : Addr} {fd : FuncData} (F : Fun K "fraction" "fraction" st_fraction f fd) : FnOk P w K mg base (L2.CX P w) 2 f fd ["top", "bottom"] (spD K mg 2 sem_fraction) := by
  refine Pyd.Fun.okD (k := 1) F sc_fraction rfl rfl (g := g_fraction) fun cdv A outer s H E hr tk po => ?_
  have hu := hr.units
  exact (jss_cons (js_if (jt_cmpP (os_eq hu) (jp_var (i := 1)) jp_int) (jss_one (js_raise T.x_NoFraction tk)) jss_nil)
  (jss_cons (js_set (i := 2) sc_fraction.nd (je_call D_shared_by (hr.mono (by decide)) tk (ja_cons (je_var (i := 0)) (ja_cons (je_var (i := 1)) ja_nil))))
  (jss_cons (js_if (jt_cmpP os_lt (jp_var (i := 1)) jp_int) (jss_one (js_set (i := 2) sc_fraction.nd (je_p (jp_bin os_sub jp_int (jp_var (i := 2)))))) jss_nil)
  (jss_one (js_ret (je_tup (ja_cons (je_p (jp_bin os_divA (jp_var (i := 0)) (jp_var (i := 2)))) (ja_cons (je_p (jp_bin os_divA (jp_var (i := 1)) (jp_var (i := 2)))) ja_nil))))))))
theorem d_fraction (T : Txt P w K mg base) (D_shared_by : Def P w K mg base "shared_by" 1 2 s_shared_by) : Def P w K mg base "fraction" 2 2 s_fraction := by
  obtain ⟨f, fd, F, hm⟩ := T.f_fraction
  exact Def.mk2 nice_fraction (ok_fraction T D_shared_by F) hm F.kp (F.binds fun _ _ _ _ _ _ us hl => match us, hl with | [_, _], _ => rfl)
set_option maxHeartbeats 4000000 in
theorem ok_times (T : Txt P w K mg base) (D_fraction : Def P w K mg base "fraction" 2 2 s_fraction) {f : Addr} {fd : FuncData} (F : Fun K "times" "times" st_times f fd) : FnOk P w K mg base (L2.CX P w) 3 f fd ["one", "other"] (spD K mg 2 sem_times) := by
  refine Pyd.Fun.okD (k := 2) F sc_times rfl rfl (g := g_times) fun cdv A outer s H E hr tk po => ?_
  have hu := hr.units
  exact (jss_one (js_ret (je_call D_fraction (hr.mono (by decide)) tk (ja_cons (je_p (jp_bin os_mul (jp_ix (jp_var (i := 0)) jp_int) (jp_ix (jp_var (i := 1)) jp_int))) (ja_cons (je_p (jp_bin os_mul (jp_ix (jp_var (i := 0)) jp_int) (jp_ix (jp_var (i := 1)) jp_int))) ja_nil)))))
theorem d_times (T : Txt P w K mg base) (D_fraction : Def P w K mg base "fraction" 2 2 s_fraction) : Def P w K mg base "times" 3 2 s_times := by
  obtain ⟨f, fd, F, hm⟩ := T.f_times
  exact Def.mk2 nice_times (ok_times T D_fraction F) hm F.kp (F.binds fun _ _ _ _ _ _ us hl => match us, hl with | [_, _], _ => rfl)
set_option maxHeartbeats 4000000 in
theorem ok_scaled (T : Txt P w K mg base) (D_need_strength : Def P w K mg base "need_strength" 2 1 s_need_strength) (D_times : Def P w K mg base "times" 3 2 s_times) {f : Addr} {fd : FuncData} (F : Fun K "scaled" "scaled" st_scaled f fd) : FnOk P w K mg base (L2.CX P w) 4 f fd ["light", "by"] (spD K mg 2 sem_scaled) := by
  refine Pyd.Fun.okD (k := 3) F sc_scaled rfl rfl (g := g_scaled) fun cdv A outer s H E hr tk po => ?_
  have hu := hr.units
  exact (jss_cons (js_expr (je_call D_need_strength (hr.mono (by decide)) tk (ja_cons (je_var (i := 1)) ja_nil)))
  (jss_one (js_ret (je_lc (own := [("p", 2), ("strength", 3)]) sc_scaled.nd (ji_any (je_var (i := 0))) (blkOk_by (N := ["light", "by", "p", "strength"]) (sc := defScope st_scaled) (by decide +kernel)) (fun _ _ _ _ _ => (jg_tup (jgs_cons (jg_name (i := 2) sc_scaled.nd) (jgs_cons (jg_name (i := 3) sc_scaled.nd) jgs_nil)))) (fun _ _ _ _ _ => ptc_nil) (fun _ _ _ _ _ => (je_tup (ja_cons (je_var (i := 2)) (ja_cons (je_call D_times (hr.mono (by decide)) takes0 (ja_cons (je_var (i := 3)) (ja_cons (je_var (i := 1)) ja_nil))) ja_nil))))))))
theorem d_scaled (T : Txt P w K mg base) (D_need_strength : Def P w K mg base "need_strength" 2 1 s_need_strength) (D_times : Def P w K mg base "times" 3 2 s_times) : Def P w K mg base "scaled" 4 2 s_scaled := by
  obtain ⟨f, fd, F, hm⟩ := T.f_scaled
  exact Def.mk2 nice_scaled (ok_scaled T D_need_strength D_times F) hm F.kp (F.binds fun _ _ _ _ _ _ us hl => match us, hl with | [_, _], _ => rfl)
set_option maxHeartbeats 4000000 in
theorem ok_law_refused (T : Txt P w K mg base) (D_scaled : Def P w K mg base "scaled" 4 2 s_scaled) {f : Addr} {fd : FuncData} (F : Fun K "_law_refused" "_law_refused" st_law_refused f fd) : FnOk P w K mg base (L2.CX P w) 5 f fd ["_law_light_here", "_law_by"] (spD K mg 2 sem_law_refused) := by
  refine Pyd.Fun.okD (k := 4) F sc_law_refused rfl rfl (g := g_law_refused) fun cdv A outer s H E hr tk po => ?_
  have hu := hr.units
  exact (jss_cons (js_set (i := 2) sc_law_refused.nd je_bl)
  (jss_cons (js_try (i := 3) sc_law_refused.nd T.tc_0 T.c_BeamError tk (fun W pn xe tk po => (jss_one (js_expr (je_call D_scaled (hr.mono (by decide)) tk (ja_cons (je_var (i := 0)) (ja_cons (je_var (i := 1)) ja_nil)))))) (fun a pn => (jss_one (js_set (i := 2) sc_law_refused.nd (je_and (je_isE (je_var (i := 3)) (jc_own T.c_NoStrength) T.ti_0 T.m_isinstance) (je_and (je_isE (je_var (i := 3)) (jc_blt T.m_ValueError) T.ti_1 T.m_isinstance) (je_one (je_not (je_isE (je_var (i := 3)) (jc_own T.c_NoPass) T.ti_2 T.m_isinstance)))))))))
  (jss_one (js_ret (je_var (i := 2))))))
theorem d_law_refused (T : Txt P w K mg base) (D_scaled : Def P w K mg base "scaled" 4 2 s_scaled) : Def P w K mg base "_law_refused" 5 2 s_law_refused := by
  obtain ⟨f, fd, F, hm⟩ := T.f_law_refused
  exact Def.mk2 nice_law_refused (ok_law_refused T D_scaled F) hm F.kp (F.binds fun _ _ _ _ _ _ us hl => match us, hl with | [_, _], _ => rfl)
set_option maxHeartbeats 4000000 in
theorem ok_plus (T : Txt P w K mg base) (D_fraction : Def P w K mg base "fraction" 2 2 s_fraction) {f : Addr} {fd : FuncData} (F : Fun K "plus" "plus" st_plus f fd) : FnOk P w K mg base (L2.CX P w) 3 f fd ["one", "other"] (spD K mg 2 sem_plus) := by
  refine Pyd.Fun.okD (k := 2) F sc_plus rfl rfl (g := g_plus) fun cdv A outer s H E hr tk po => ?_
  have hu := hr.units
  exact (jss_one (js_ret (je_call D_fraction (hr.mono (by decide)) tk (ja_cons (je_p (jp_bin os_addS (jp_bin os_mul (jp_ix (jp_var (i := 0)) jp_int) (jp_ix (jp_var (i := 1)) jp_int)) (jp_bin os_mul (jp_ix (jp_var (i := 1)) jp_int) (jp_ix (jp_var (i := 0)) jp_int)))) (ja_cons (je_p (jp_bin os_mul (jp_ix (jp_var (i := 0)) jp_int) (jp_ix (jp_var (i := 1)) jp_int))) ja_nil)))))
theorem d_plus (T : Txt P w K mg base) (D_fraction : Def P w K mg base "fraction" 2 2 s_fraction) : Def P w K mg base "plus" 3 2 s_plus := by
  obtain ⟨f, fd, F, hm⟩ := T.f_plus
  exact Def.mk2 nice_plus (ok_plus T D_fraction F) hm F.kp (F.binds fun _ _ _ _ _ _ us hl => match us, hl with | [_, _], _ => rfl)
set_option maxHeartbeats 4000000 in
theorem ok_added_up (T : Txt P w K mg base) (D_plus : Def P w K mg base "plus" 3 2 s_plus) {f : Addr} {fd : FuncData} (F : Fun K "added_up" "added_up" st_added_up f fd) : FnOk P w K mg base (L2.CX P w) 4 f fd ["pairs"] (spD K mg 1 sem_added_up) := by
  refine Pyd.Fun.okD (k := 3) F sc_added_up rfl rfl (g := g_added_up) fun cdv A outer s H E hr tk po => ?_
  have hu := hr.units
  exact (jss_cons (js_set (i := 1) sc_added_up.nd je_dictT)
  (jss_cons (js_for po (ji_any (je_var (i := 0))) (jg_tup (jgs_cons (jg_name (i := 2) sc_added_up.nd) (jgs_cons (jg_name (i := 3) sc_added_up.nd) jgs_nil)))
  (jss_one (js_if (jt_din hu (jp_var (i := 2)) (jp_var (i := 1))) (jss_one (js_dput (i := 1) hu (je_call D_plus (hr.mono (by decide)) tk (ja_cons (je_p (jp_dget hu (jp_var (i := 1)) (jp_var (i := 2)))) (ja_cons (je_var (i := 3)) ja_nil))) (jp_var (i := 2)))) (jss_one (js_dput (i := 1) hu (je_var (i := 3)) (jp_var (i := 2)))))))
  (jss_one (js_ret (je_lc (own := [("p", 2)]) sc_added_up.nd (ji_any (je_sortedD (m := 3) rfl (jp_var (i := 1)) T.m_sorted)) (blkOk_by (N := ["pairs", "kept", "p", "strength"]) (sc := defScope st_added_up) (by decide +kernel)) (fun _ _ _ _ _ => (jg_name (i := 2) sc_added_up.nd)) (fun _ _ _ _ _ => ptc_nil) (fun _ _ _ _ _ => (je_tup (ja_cons (je_var (i := 2)) (ja_cons (je_p (jp_dget hu (jp_var (i := 1)) (jp_var (i := 2)))) ja_nil)))))))))
theorem d_added_up (T : Txt P w K mg base) (D_plus : Def P w K mg base "plus" 3 2 s_plus) : Def P w K mg base "added_up" 4 1 s_added_up := by
  obtain ⟨f, fd, F, hm⟩ := T.f_added_up
  exact Def.mk2 nice_added_up (ok_added_up T D_plus F) hm F.kp (F.binds fun _ _ _ _ _ _ us hl => match us, hl with | [_], _ => rfl)
set_option maxHeartbeats 4000000 in
theorem ok_joined (T : Txt P w K mg base) (D_added_up : Def P w K mg base "added_up" 4 1 s_added_up) {f : Addr} {fd : FuncData} (F : Fun K "joined" "joined" st_joined f fd) : FnOk P w K mg base (L2.CX P w) 5 f fd ["one", "other"] (spD K mg 2 sem_joined) := by
  refine Pyd.Fun.okD (k := 4) F sc_joined rfl rfl (g := g_joined) fun cdv A outer s H E hr tk po => ?_
  have hu := hr.units
  exact (jss_one (js_ret (je_call D_added_up (hr.mono (by decide)) tk (ja_cons (je_add (je_var (i := 0)) (je_var (i := 1))) ja_nil))))
theorem d_joined (T : Txt P w K mg base) (D_added_up : Def P w K mg base "added_up" 4 1 s_added_up) : Def P w K mg base "joined" 5 2 s_joined := by
  obtain ⟨f, fd, F, hm⟩ := T.f_joined
  exact Def.mk2 nice_joined (ok_joined T D_added_up F) hm F.kp (F.binds fun _ _ _ _ _ _ us hl => match us, hl with | [_, _], _ => rfl)
set_option maxHeartbeats 4000000 in
theorem ok_sum_of (T : Txt P w K mg base) (D_plus : Def P w K mg base "plus" 3 2 s_plus) {f : Addr} {fd : FuncData} (F : Fun K "sum_of" "sum_of" st_sum_of f fd) : FnOk P w K mg base (L2.CX P w) 4 f fd ["light"] (spD K mg 1 sem_sum_of) := by
  refine Pyd.Fun.okD (k := 3) F sc_sum_of rfl rfl (g := g_sum_of) fun cdv A outer s H E hr tk po => ?_
  have hu := hr.units
  exact (jss_cons (js_set (i := 1) sc_sum_of.nd (je_p (jp_glob T.k_NONE)))
  (jss_cons (js_for po (ji_any (je_var (i := 0))) (jg_tup (jgs_cons (jg_name (i := 2) sc_sum_of.nd) (jgs_cons (jg_name (i := 3) sc_sum_of.nd) jgs_nil)))
  (jss_one (js_set (i := 1) sc_sum_of.nd (je_call D_plus (hr.mono (by decide)) tk (ja_cons (je_var (i := 1)) (ja_cons (je_var (i := 3)) ja_nil))))))
  (jss_one (js_ret (je_var (i := 1))))))
theorem d_sum_of (T : Txt P w K mg base) (D_plus : Def P w K mg base "plus" 3 2 s_plus) : Def P w K mg base "sum_of" 4 1 s_sum_of := by
  obtain ⟨f, fd, F, hm⟩ := T.f_sum_of
  exact Def.mk2 nice_sum_of (ok_sum_of T D_plus F) hm F.kp (F.binds fun _ _ _ _ _ _ us hl => match us, hl with | [_], _ => rfl)
set_option maxHeartbeats 4000000 in
theorem ok_law (T : Txt P w K mg base) (D_law_both : Def P w K mg base "_law_both" 3 2 s_law_both) (D_law_cell_at : Def P w K mg base "_law_cell_at" 1 2 s_law_cell_at) (D_law_light : Def P w K mg base "_law_light" 3 1 s_law_light) (D_law_low : Def P w K mg base "_law_low" 1 2 s_law_low) (D_law_refused : Def P w K mg base "_law_refused" 5 2 s_law_refused) (D_law_strength : Def P w K mg base "_law_strength" 2 1 s_law_strength) (D_joined : Def P w K mg base "joined" 5 2 s_joined) (D_scaled : Def P w K mg base "scaled" 4 2 s_scaled) (D_sum_of : Def P w K mg base "sum_of" 4 1 s_sum_of) {f : Addr} {fd : FuncData} (F : Fun K "law" "law" st_law f fd) : FnOk P w K mg base (L2.CX P w) 6 f fd ["_law_script"] (spD K mg 1 sem_law) := by
  refine Pyd.Fun.okD (k := 5) F sc_law rfl rfl (g := g_law) fun cdv A outer s H E hr tk po => ?_
  have hu := hr.units
  exact (jss_cons (js_set (i := 1) sc_law.nd (je_call D_law_cell_at (hr.mono (by decide)) tk (ja_cons (je_var (i := 0)) (ja_cons je_int ja_nil))))
  (jss_cons (js_set (i := 2) sc_law.nd (je_fz (je_sl (jp_var (i := 0)) (jo_some jp_int) (jo_some jp_int))))
  (jss_cons (js_set (i := 3) sc_law.nd (je_p (jp_bin os_modA (jp_bin os_divA (jp_var (i := 1)) jp_int) (jp_bin os_addS (jp_callB cs_len T.m_len PySem.boot_len (jpa_cons (jp_var (i := 2)) jpa_nil)) jp_int))))
  (jss_cons (js_set (i := 4) sc_law.nd (je_call D_law_light (hr.mono (by decide)) tk (ja_cons (je_sl (jp_var (i := 2)) jo_none (jo_some (jp_var (i := 3)))) ja_nil)))
  (jss_cons (js_set (i := 5) sc_law.nd (je_call D_law_light (hr.mono (by decide)) tk (ja_cons (je_add (je_sl (jp_var (i := 2)) (jo_some (jp_var (i := 3))) jo_none) (je_sl (jp_var (i := 2)) jo_none (jo_some (jp_bin os_modA (jp_var (i := 1)) jp_int)))) ja_nil)))
  (jss_cons (js_set (i := 6) sc_law.nd (je_call D_law_both (hr.mono (by decide)) tk (ja_cons (je_var (i := 4)) (ja_cons (je_var (i := 5)) ja_nil))))
  (jss_cons (js_set (i := 7) sc_law.nd (je_fz (je_lst (ja_cons (je_listC (jp_var (i := 4)) T.m_list) (ja_cons (je_listC (jp_var (i := 5)) T.m_list) ja_nil)))))
  (jss_cons (js_set (i := 8) sc_law.nd (je_fz (je_call D_joined (hr.mono (by decide)) tk (ja_cons (je_p (jp_ix (jp_var (i := 7)) jp_int)) (ja_cons (je_p (jp_ix (jp_var (i := 7)) jp_int)) ja_nil)))))
  (jss_cons (js_if (jt_w (jw_or (jt_not (jt_p (jp_isB (b := "list") (jp_var (i := 8)) (hm := T.m_isinstance) (hm2 := T.m_list)))) (jw_or (jt_cmpP (os_ne hu) (jp_var (i := 8)) (jp_var (i := 6))) (jw_or1 (jt_cmp (os_ne hu) (je_call D_joined (hr.mono (by decide)) tk (ja_cons (je_p (jp_ix (jp_var (i := 7)) jp_int)) (ja_cons (je_p (jp_ix (jp_var (i := 7)) jp_int)) ja_nil))) (je_var (i := 6))))))) (jss_one (js_ret je_bl)) jss_nil)
  (jss_cons (js_if (jt_cmp (os_ne hu) (je_var (i := 7)) (je_lst (ja_cons (je_var (i := 4)) (ja_cons (je_var (i := 5)) ja_nil)))) (jss_one (js_ret je_bl)) jss_nil)
  (jss_cons (js_if (jt_w (jw_or (jt_cmp (os_ne hu) (je_call D_joined (hr.mono (by decide)) tk (ja_cons (je_p (jp_ix (jp_var (i := 7)) jp_int)) (ja_cons (je_lst ja_nil) ja_nil))) (je_var (i := 4))) (jw_or (jt_cmp (os_ne hu) (je_call D_joined (hr.mono (by decide)) tk (ja_cons (je_lst ja_nil) (ja_cons (je_p (jp_ix (jp_var (i := 7)) jp_int)) ja_nil))) (je_var (i := 5))) (jw_or1 (jt_cmp (os_ne hu) (je_call D_joined (hr.mono (by decide)) tk (ja_cons (je_lst ja_nil) (ja_cons (je_lst ja_nil) ja_nil))) (je_lst ja_nil)))))) (jss_one (js_ret je_bl)) jss_nil)
  (jss_cons (js_clearE (je_call D_joined (hr.mono (by decide)) tk (ja_cons (je_p (jp_ix (jp_var (i := 7)) jp_int)) (ja_cons (je_lst ja_nil) ja_nil))))
  (jss_cons (js_clearE (je_call D_joined (hr.mono (by decide)) tk (ja_cons (je_lst ja_nil) (ja_cons (je_p (jp_ix (jp_var (i := 7)) jp_int)) ja_nil))))
  (jss_cons (js_clearE (je_call D_scaled (hr.mono (by decide)) tk (ja_cons (je_p (jp_ix (jp_var (i := 7)) jp_int)) (ja_cons (je_tup (ja_cons je_int (ja_cons je_int ja_nil))) ja_nil))))
  (jss_cons (js_if (jt_cmp (os_ne hu) (je_var (i := 7)) (je_lst (ja_cons (je_var (i := 4)) (ja_cons (je_var (i := 5)) ja_nil)))) (jss_one (js_ret je_bl)) jss_nil)
  (jss_cons (js_set (i := 9) sc_law.nd (je_call D_law_strength (hr.mono (by decide)) tk (ja_cons (je_var (i := 1)) ja_nil)))
  (jss_cons (js_set (i := 10) sc_law.nd (je_fz (je_call D_scaled (hr.mono (by decide)) tk (ja_cons (je_var (i := 8)) (ja_cons (je_var (i := 9)) ja_nil)))))
  (jss_cons (js_set (i := 11) sc_law.nd (je_lst ja_nil))
  (jss_cons (js_for po (ji_any (je_var (i := 6))) (jg_tup (jgs_cons (jg_name (i := 12) sc_law.nd) (jgs_cons (jg_name (i := 13) sc_law.nd) jgs_nil)))
  (jss_one (js_append (i := 11) (je_tup (ja_cons (je_var (i := 12)) (ja_cons (je_call D_law_low (hr.mono (by decide)) tk (ja_cons (je_p (jp_bin os_mul (jp_ix (jp_var (i := 13)) jp_int) (jp_ix (jp_var (i := 9)) jp_int))) (ja_cons (je_p (jp_bin os_mul (jp_ix (jp_var (i := 13)) jp_int) (jp_ix (jp_var (i := 9)) jp_int))) ja_nil))) ja_nil))))))
  (jss_cons (js_if (jt_w (jw_or (jt_cmpP (os_ne hu) (jp_var (i := 10)) (jp_var (i := 11))) (jw_or1 (jt_cmpP (os_ne hu) (jp_var (i := 8)) (jp_var (i := 6)))))) (jss_one (js_ret je_bl)) jss_nil)
  (jss_cons (js_set (i := 14) sc_law.nd (je_call D_sum_of (hr.mono (by decide)) tk (ja_cons (je_var (i := 8)) ja_nil)))
  (jss_cons (js_if (jt_w (jw_or (jt_cmp (os_ne hu) (je_call D_sum_of (hr.mono (by decide)) tk (ja_cons (je_var (i := 10)) ja_nil)) (je_call D_law_low (hr.mono (by decide)) tk (ja_cons (je_p (jp_bin os_mul (jp_ix (jp_var (i := 14)) jp_int) (jp_ix (jp_var (i := 9)) jp_int))) (ja_cons (je_p (jp_bin os_mul (jp_ix (jp_var (i := 14)) jp_int) (jp_ix (jp_var (i := 9)) jp_int))) ja_nil)))) (jw_or1 (jt_cmp (os_ne hu) (je_call D_scaled (hr.mono (by decide)) tk (ja_cons (je_lst ja_nil) (ja_cons (je_var (i := 9)) ja_nil))) (je_lst ja_nil))))) (jss_one (js_ret je_bl)) jss_nil)
  (jss_one (js_ret (je_and (je_call D_law_refused (hr.mono (by decide)) tk (ja_cons (je_var (i := 8)) (ja_cons (je_tup (ja_cons je_int (ja_cons je_int ja_nil))) ja_nil))) (je_one (je_call D_law_refused (hr.mono (by decide)) tk (ja_cons (je_lst ja_nil) (ja_cons (je_tup (ja_cons (je_p (jp_bin os_sub (jp_bin os_sub jp_int jp_int) (jp_bin os_modA (jp_bin os_divA (jp_var (i := 1)) jp_int) (jp_bin os_pow jp_int jp_int)))) (ja_cons je_int ja_nil))) ja_nil)))))))))))))))))))))))))))))
theorem d_law (T : Txt P w K mg base) (D_law_both : Def P w K mg base "_law_both" 3 2 s_law_both) (D_law_cell_at : Def P w K mg base "_law_cell_at" 1 2 s_law_cell_at) (D_law_light : Def P w K mg base "_law_light" 3 1 s_law_light) (D_law_low : Def P w K mg base "_law_low" 1 2 s_law_low) (D_law_refused : Def P w K mg base "_law_refused" 5 2 s_law_refused) (D_law_strength : Def P w K mg base "_law_strength" 2 1 s_law_strength) (D_joined : Def P w K mg base "joined" 5 2 s_joined) (D_scaled : Def P w K mg base "scaled" 4 2 s_scaled) (D_sum_of : Def P w K mg base "sum_of" 4 1 s_sum_of) : Def P w K mg base "law" 6 1 s_law := by
  obtain ⟨f, fd, F, hm⟩ := T.f_law
  exact Def.mk2 nice_law (ok_law T D_law_both D_law_cell_at D_law_light D_law_low D_law_refused D_law_strength D_joined D_scaled D_sum_of F) hm F.kp (F.binds fun _ _ _ _ _ _ us hl => match us, hl with | [_], _ => rfl)
end
theorem txt_mk {P : Program} {w : World} {K : PySem.W.Frag} {h : Heap} {mg : Str → Option Value} (X : K.In h) (G : h.Ns mainGlobals mg)
    {kp0 : Addr} {kd0 : Option Addr} {kn0 : Nat} {ks0 : Array (Option Value)} {kt0_0 kt0_1 : Tok}
    {xc0 : Addr}
    {xc1 : Addr}
    {yc0 : Addr}
    {yc1 : Addr}
    {f0 : Addr}
    {od0 an0 : Option Addr} {sl0 : Array (Option Value)} {oc0 kV0 dc0 pm0 cd0 ct0 : Value}
    {f1 : Addr}
    {od1 an1 : Option Addr} {sl1 : Array (Option Value)} {oc1 kV1 dc1 pm1 cd1 ct1 : Value}
    {f2 : Addr}
    {od2 an2 : Option Addr} {sl2 : Array (Option Value)} {oc2 kV2 dc2 pm2 cd2 ct2 : Value}
    {f3 : Addr}
    {od3 an3 : Option Addr} {sl3 : Array (Option Value)} {oc3 kV3 dc3 pm3 cd3 ct3 : Value}
    {f4 : Addr}
    {od4 an4 : Option Addr} {sl4 : Array (Option Value)} {oc4 kV4 dc4 pm4 cd4 ct4 : Value}
    {f5 : Addr}
    {od5 an5 : Option Addr} {sl5 : Array (Option Value)} {oc5 kV5 dc5 pm5 cd5 ct5 : Value}
    {f6 : Addr}
    {od6 an6 : Option Addr} {sl6 : Array (Option Value)} {oc6 kV6 dc6 pm6 cd6 ct6 : Value}
    {f7 : Addr}
    {od7 an7 : Option Addr} {sl7 : Array (Option Value)} {oc7 kV7 dc7 pm7 cd7 ct7 : Value}
    {f8 : Addr}
    {od8 an8 : Option Addr} {sl8 : Array (Option Value)} {oc8 kV8 dc8 pm8 cd8 ct8 : Value}
    {f9 : Addr}
    {od9 an9 : Option Addr} {sl9 : Array (Option Value)} {oc9 kV9 dc9 pm9 cd9 ct9 : Value}
    {f10 : Addr}
    {od10 an10 : Option Addr} {sl10 : Array (Option Value)} {oc10 kV10 dc10 pm10 cd10 ct10 : Value}
    {f11 : Addr}
    {od11 an11 : Option Addr} {sl11 : Array (Option Value)} {oc11 kV11 dc11 pm11 cd11 ct11 : Value}
    {f12 : Addr}
    {od12 an12 : Option Addr} {sl12 : Array (Option Value)} {oc12 kV12 dc12 pm12 cd12 ct12 : Value}
    {f13 : Addr}
    {od13 an13 : Option Addr} {sl13 : Array (Option Value)} {oc13 kV13 dc13 pm13 cd13 ct13 : Value}
    {f14 : Addr}
    {od14 an14 : Option Addr} {sl14 : Array (Option Value)} {oc14 kV14 dc14 pm14 cd14 ct14 : Value}
    {f15 : Addr}
    {od15 an15 : Option Addr} {sl15 : Array (Option Value)} {oc15 kV15 dc15 pm15 cd15 ct15 : Value}
    {f16 : Addr}
    {od16 an16 : Option Addr} {sl16 : Array (Option Value)} {oc16 kV16 dc16 pm16 cd16 ct16 : Value}
    {f17 : Addr}
    {od17 an17 : Option Addr} {sl17 : Array (Option Value)} {oc17 kV17 dc17 pm17 cd17 ct17 : Value}
    {f18 : Addr}
    {od18 an18 : Option Addr} {sl18 : Array (Option Value)} {oc18 kV18 dc18 pm18 cd18 ct18 : Value}
    (z0 : PySem.W.nsIn K mainGlobals "ValueError" = some none)
    (z1 : PySem.W.nsIn K mainGlobals "abs" = some none)
    (z2 : PySem.W.nsIn K mainGlobals "isinstance" = some none)
    (z3 : PySem.W.nsIn K mainGlobals "len" = some none)
    (z4 : PySem.W.nsIn K mainGlobals "list" = some none)
    (z5 : PySem.W.nsIn K mainGlobals "sorted" = some none)
    (ka0 : PySem.W.nsIn K mainGlobals "NONE" = some (some (.ref kp0)))
    (kl0 : K.lookup kp0 = some ⟨.type "tuple", kd0, .seq #[.int 0 kt0_0, .int 1 kt0_1] kn0, ks0⟩)
    (xa0 : PySem.W.nsIn K mainGlobals "NoFraction" = some (some (.ref xc0)))
    (xb0 : PySem.W.excIn K xc0 [.type "ValueError", .type "Exception", .type "BaseException", .type "object"] "ValueError.__new__" = true)
    (xk0 : PySem.W.keepIn K (.ref xc0) = true)
    (xs0 : PySem.W.subIn K (.ref xc0) (.type "BaseException") = some true)
    (xt0 : PySem.W.typeIn K (.ref xc0) = some (.type "type"))
    (xa1 : PySem.W.nsIn K mainGlobals "NoStrength" = some (some (.ref xc1)))
    (xb1 : PySem.W.excIn K xc1 [.type "ValueError", .type "Exception", .type "BaseException", .type "object"] "ValueError.__new__" = true)
    (xk1 : PySem.W.keepIn K (.ref xc1) = true)
    (xs1 : PySem.W.subIn K (.ref xc1) (.type "BaseException") = some true)
    (xt1 : PySem.W.typeIn K (.ref xc1) = some (.type "type"))
    (ya0 : PySem.W.nsIn K mainGlobals "BeamError" = some (some (.ref yc0)))
    (ya1 : PySem.W.nsIn K mainGlobals "NoPass" = some (some (.ref yc1)))
    (eg0 : PySem.W.findIn K (.ref xc0) "__getattribute__" = some (some (.builtin "BaseException.__getattribute__")))
    (ek0 : PySem.W.findIn K (.ref xc0) "__getattr__" = some none)
    (es0 : PySem.W.subIn K (.ref xc0) (.type "BaseException") = some true)
    (ed0 : PySem.W.hasDictIn K xc0 = true)
    (ea0 : PySem.W.findIn K (.ref xc0) "__class__" = some (some (.builtin "object.__class__")))
    (em0 : PySem.W.mroIn K xc0 (.type "object") = some true)
    (eg1 : PySem.W.findIn K (.ref xc1) "__getattribute__" = some (some (.builtin "BaseException.__getattribute__")))
    (ek1 : PySem.W.findIn K (.ref xc1) "__getattr__" = some none)
    (es1 : PySem.W.subIn K (.ref xc1) (.type "BaseException") = some true)
    (ed1 : PySem.W.hasDictIn K xc1 = true)
    (ea1 : PySem.W.findIn K (.ref xc1) "__class__" = some (some (.builtin "object.__class__")))
    (em1 : PySem.W.mroIn K xc1 (.type "object") = some true)
    (en : PySem.W.specialIn K (.builtin "object.__class__") "__get__" = some (some (.builtin "getset_descriptor.__get__")))
    (et : PySem.W.takesIn K (.builtin "object.__class__") = some true)
    (it0_0 : PySem.W.kitAny K (.ref xc0) [.ref xc1] = some false)
    (it0_1 : PySem.W.kitAny K (.ref xc1) [.ref xc1] = some true)
    (it1_0 : PySem.W.kitAny K (.ref xc0) [.type "ValueError"] = some true)
    (it1_1 : PySem.W.kitAny K (.ref xc1) [.type "ValueError"] = some true)
    (it2_0 : PySem.W.kitAny K (.ref xc0) [.ref yc1] = some false)
    (it2_1 : PySem.W.kitAny K (.ref xc1) [.ref yc1] = some false)
    (ctS0 : PySem.W.subIn K (.ref yc0) (.type "BaseException") = some true)
    (ctD0 : PySem.W.hasDictIn K yc0 = true)
    (ctY0 : PySem.W.typeIn K (.ref yc0) = some (.type "type"))
    (ct0_0 : PySem.W.subIn K (.ref xc0) (.ref yc0) = some true)
    (ct0_1 : PySem.W.subIn K (.ref xc1) (.ref yc0) = some true)
    (a0 : PySem.W.nsIn K mainGlobals "_law_low" = some (some (.ref f0)))
    (l0 : K.lookup f0 = some ⟨oc0, od0, .func (PySem.W.fnOf "_law_low" "_law_low" (defArgs st_law_low) (defBody st_law_low) (defScope st_law_low) .none kV0 dc0 pm0 an0 cd0 ct0), sl0⟩)
    (c0 : PySem.W.codeIn K cd0 "_law_low" = true)
    (q0 : PySem.W.keepIn K (.ref f0) = true)
    (a1 : PySem.W.nsIn K mainGlobals "_law_plus" = some (some (.ref f1)))
    (l1 : K.lookup f1 = some ⟨oc1, od1, .func (PySem.W.fnOf "_law_plus" "_law_plus" (defArgs st_law_plus) (defBody st_law_plus) (defScope st_law_plus) .none kV1 dc1 pm1 an1 cd1 ct1), sl1⟩)
    (c1 : PySem.W.codeIn K cd1 "_law_plus" = true)
    (q1 : PySem.W.keepIn K (.ref f1) = true)
    (a2 : PySem.W.nsIn K mainGlobals "_law_both" = some (some (.ref f2)))
    (l2 : K.lookup f2 = some ⟨oc2, od2, .func (PySem.W.fnOf "_law_both" "_law_both" (defArgs st_law_both) (defBody st_law_both) (defScope st_law_both) .none kV2 dc2 pm2 an2 cd2 ct2), sl2⟩)
    (c2 : PySem.W.codeIn K cd2 "_law_both" = true)
    (q2 : PySem.W.keepIn K (.ref f2) = true)
    (a3 : PySem.W.nsIn K mainGlobals "_law_cell_at" = some (some (.ref f3)))
    (l3 : K.lookup f3 = some ⟨oc3, od3, .func (PySem.W.fnOf "_law_cell_at" "_law_cell_at" (defArgs st_law_cell_at) (defBody st_law_cell_at) (defScope st_law_cell_at) .none kV3 dc3 pm3 an3 cd3 ct3), sl3⟩)
    (c3 : PySem.W.codeIn K cd3 "_law_cell_at" = true)
    (q3 : PySem.W.keepIn K (.ref f3) = true)
    (a4 : PySem.W.nsIn K mainGlobals "_law_pass" = some (some (.ref f4)))
    (l4 : K.lookup f4 = some ⟨oc4, od4, .func (PySem.W.fnOf "_law_pass" "_law_pass" (defArgs st_law_pass) (defBody st_law_pass) (defScope st_law_pass) .none kV4 dc4 pm4 an4 cd4 ct4), sl4⟩)
    (c4 : PySem.W.codeIn K cd4 "_law_pass" = true)
    (q4 : PySem.W.keepIn K (.ref f4) = true)
    (a5 : PySem.W.nsIn K mainGlobals "_law_strength" = some (some (.ref f5)))
    (l5 : K.lookup f5 = some ⟨oc5, od5, .func (PySem.W.fnOf "_law_strength" "_law_strength" (defArgs st_law_strength) (defBody st_law_strength) (defScope st_law_strength) .none kV5 dc5 pm5 an5 cd5 ct5), sl5⟩)
    (c5 : PySem.W.codeIn K cd5 "_law_strength" = true)
    (q5 : PySem.W.keepIn K (.ref f5) = true)
    (a6 : PySem.W.nsIn K mainGlobals "_law_light" = some (some (.ref f6)))
    (l6 : K.lookup f6 = some ⟨oc6, od6, .func (PySem.W.fnOf "_law_light" "_law_light" (defArgs st_law_light) (defBody st_law_light) (defScope st_law_light) .none kV6 dc6 pm6 an6 cd6 ct6), sl6⟩)
    (c6 : PySem.W.codeIn K cd6 "_law_light" = true)
    (q6 : PySem.W.keepIn K (.ref f6) = true)
    (a7 : PySem.W.nsIn K mainGlobals "under" = some (some (.ref f7)))
    (l7 : K.lookup f7 = some ⟨oc7, od7, .func (PySem.W.fnOf "under" "under" (defArgs st_under) (defBody st_under) (defScope st_under) .none kV7 dc7 pm7 an7 cd7 ct7), sl7⟩)
    (c7 : PySem.W.codeIn K cd7 "under" = true)
    (q7 : PySem.W.keepIn K (.ref f7) = true)
    (a8 : PySem.W.nsIn K mainGlobals "need_strength" = some (some (.ref f8)))
    (l8 : K.lookup f8 = some ⟨oc8, od8, .func (PySem.W.fnOf "need_strength" "need_strength" (defArgs st_need_strength) (defBody st_need_strength) (defScope st_need_strength) .none kV8 dc8 pm8 an8 cd8 ct8), sl8⟩)
    (c8 : PySem.W.codeIn K cd8 "need_strength" = true)
    (q8 : PySem.W.keepIn K (.ref f8) = true)
    (a9 : PySem.W.nsIn K mainGlobals "shared_by" = some (some (.ref f9)))
    (l9 : K.lookup f9 = some ⟨oc9, od9, .func (PySem.W.fnOf "shared_by" "shared_by" (defArgs st_shared_by) (defBody st_shared_by) (defScope st_shared_by) .none kV9 dc9 pm9 an9 cd9 ct9), sl9⟩)
    (c9 : PySem.W.codeIn K cd9 "shared_by" = true)
    (q9 : PySem.W.keepIn K (.ref f9) = true)
    (a10 : PySem.W.nsIn K mainGlobals "fraction" = some (some (.ref f10)))
    (l10 : K.lookup f10 = some ⟨oc10, od10, .func (PySem.W.fnOf "fraction" "fraction" (defArgs st_fraction) (defBody st_fraction) (defScope st_fraction) .none kV10 dc10 pm10 an10 cd10 ct10), sl10⟩)
    (c10 : PySem.W.codeIn K cd10 "fraction" = true)
    (q10 : PySem.W.keepIn K (.ref f10) = true)
    (a11 : PySem.W.nsIn K mainGlobals "times" = some (some (.ref f11)))
    (l11 : K.lookup f11 = some ⟨oc11, od11, .func (PySem.W.fnOf "times" "times" (defArgs st_times) (defBody st_times) (defScope st_times) .none kV11 dc11 pm11 an11 cd11 ct11), sl11⟩)
    (c11 : PySem.W.codeIn K cd11 "times" = true)
    (q11 : PySem.W.keepIn K (.ref f11) = true)
    (a12 : PySem.W.nsIn K mainGlobals "scaled" = some (some (.ref f12)))
    (l12 : K.lookup f12 = some ⟨oc12, od12, .func (PySem.W.fnOf "scaled" "scaled" (defArgs st_scaled) (defBody st_scaled) (defScope st_scaled) .none kV12 dc12 pm12 an12 cd12 ct12), sl12⟩)
    (c12 : PySem.W.codeIn K cd12 "scaled" = true)
    (q12 : PySem.W.keepIn K (.ref f12) = true)
    (a13 : PySem.W.nsIn K mainGlobals "_law_refused" = some (some (.ref f13)))
    (l13 : K.lookup f13 = some ⟨oc13, od13, .func (PySem.W.fnOf "_law_refused" "_law_refused" (defArgs st_law_refused) (defBody st_law_refused) (defScope st_law_refused) .none kV13 dc13 pm13 an13 cd13 ct13), sl13⟩)
    (c13 : PySem.W.codeIn K cd13 "_law_refused" = true)
    (q13 : PySem.W.keepIn K (.ref f13) = true)
    (a14 : PySem.W.nsIn K mainGlobals "plus" = some (some (.ref f14)))
    (l14 : K.lookup f14 = some ⟨oc14, od14, .func (PySem.W.fnOf "plus" "plus" (defArgs st_plus) (defBody st_plus) (defScope st_plus) .none kV14 dc14 pm14 an14 cd14 ct14), sl14⟩)
    (c14 : PySem.W.codeIn K cd14 "plus" = true)
    (q14 : PySem.W.keepIn K (.ref f14) = true)
    (a15 : PySem.W.nsIn K mainGlobals "added_up" = some (some (.ref f15)))
    (l15 : K.lookup f15 = some ⟨oc15, od15, .func (PySem.W.fnOf "added_up" "added_up" (defArgs st_added_up) (defBody st_added_up) (defScope st_added_up) .none kV15 dc15 pm15 an15 cd15 ct15), sl15⟩)
    (c15 : PySem.W.codeIn K cd15 "added_up" = true)
    (q15 : PySem.W.keepIn K (.ref f15) = true)
    (a16 : PySem.W.nsIn K mainGlobals "joined" = some (some (.ref f16)))
    (l16 : K.lookup f16 = some ⟨oc16, od16, .func (PySem.W.fnOf "joined" "joined" (defArgs st_joined) (defBody st_joined) (defScope st_joined) .none kV16 dc16 pm16 an16 cd16 ct16), sl16⟩)
    (c16 : PySem.W.codeIn K cd16 "joined" = true)
    (q16 : PySem.W.keepIn K (.ref f16) = true)
    (a17 : PySem.W.nsIn K mainGlobals "sum_of" = some (some (.ref f17)))
    (l17 : K.lookup f17 = some ⟨oc17, od17, .func (PySem.W.fnOf "sum_of" "sum_of" (defArgs st_sum_of) (defBody st_sum_of) (defScope st_sum_of) .none kV17 dc17 pm17 an17 cd17 ct17), sl17⟩)
    (c17 : PySem.W.codeIn K cd17 "sum_of" = true)
    (q17 : PySem.W.keepIn K (.ref f17) = true)
    (a18 : PySem.W.nsIn K mainGlobals "law" = some (some (.ref f18)))
    (l18 : K.lookup f18 = some ⟨oc18, od18, .func (PySem.W.fnOf "law" "law" (defArgs st_law) (defBody st_law) (defScope st_law) .none kV18 dc18 pm18 an18 cd18 ct18), sl18⟩)
    (c18 : PySem.W.codeIn K cd18 "law" = true)
    (q18 : PySem.W.keepIn K (.ref f18) = true)
    (base : Heap) : Txt P w K mg base where
  m_ValueError := PySem.W.mg_none_of X G z0
  m_abs := PySem.W.mg_none_of X G z1
  m_isinstance := PySem.W.mg_none_of X G z2
  m_len := PySem.W.mg_none_of X G z3
  m_list := PySem.W.mg_none_of X G z4
  m_sorted := PySem.W.mg_none_of X G z5
  k_NONE := ⟨_, .ref kp0, PySem.W.mg_of X G ka0, rfl, fun F H => ⟨kp0, _, rfl, .inr ⟨_, _, _, kl0, rfl, rfl, (by show 2 ≤ sizeLine; rw [sizeLine_eq]; decide), (.cons (show RelV (V.int 0) (Value.int 0 kt0_0) from ⟨_, rfl⟩) (.cons (show RelV (V.int 1) (Value.int 1 kt0_1) from ⟨_, rfl⟩) .nil))⟩, ⟨_, _, [], [], rfl, rfl, ⟨rfl, rfl⟩, ⟨_, _, [], [], rfl, rfl, ⟨rfl, rfl⟩, ⟨rfl, rfl⟩⟩⟩⟩⟩
  x_NoFraction := ⟨xc0, PySem.W.mg_of X G xa0, xb0, xk0, xs0, xt0⟩
  x_NoStrength := ⟨xc1, PySem.W.mg_of X G xa1, xb1, xk1, xs1, xt1⟩
  c_BeamError := rf_mg (PySem.W.mg_of X G ya0)
  c_NoPass := rf_mg (PySem.W.mg_of X G ya1)
  c_NoStrength := rf_mg (PySem.W.mg_of X G xa1)
  ti_0 := ⟨⟨rf_mg (PySem.W.mg_of X G xa0), by rw [rf_of (PySem.W.mg_of X G xa0)]; exact ⟨eg0, ek0, es0, ed0, ea0, en, et, em0⟩, by rw [rf_of (PySem.W.mg_of X G xa0), rf_of (PySem.W.mg_of X G xa1)]; exact it0_0⟩, ⟨rf_mg (PySem.W.mg_of X G xa1), by rw [rf_of (PySem.W.mg_of X G xa1)]; exact ⟨eg1, ek1, es1, ed1, ea1, en, et, em1⟩, by rw [rf_of (PySem.W.mg_of X G xa1)]; exact it0_1⟩, trivial⟩
  ti_1 := ⟨⟨rf_mg (PySem.W.mg_of X G xa0), by rw [rf_of (PySem.W.mg_of X G xa0)]; exact ⟨eg0, ek0, es0, ed0, ea0, en, et, em0⟩, by rw [rf_of (PySem.W.mg_of X G xa0)]; exact it1_0⟩, ⟨rf_mg (PySem.W.mg_of X G xa1), by rw [rf_of (PySem.W.mg_of X G xa1)]; exact ⟨eg1, ek1, es1, ed1, ea1, en, et, em1⟩, by rw [rf_of (PySem.W.mg_of X G xa1)]; exact it1_1⟩, trivial⟩
  ti_2 := ⟨⟨rf_mg (PySem.W.mg_of X G xa0), by rw [rf_of (PySem.W.mg_of X G xa0)]; exact ⟨eg0, ek0, es0, ed0, ea0, en, et, em0⟩, by rw [rf_of (PySem.W.mg_of X G xa0), rf_of (PySem.W.mg_of X G ya1)]; exact it2_0⟩, ⟨rf_mg (PySem.W.mg_of X G xa1), by rw [rf_of (PySem.W.mg_of X G xa1)]; exact ⟨eg1, ek1, es1, ed1, ea1, en, et, em1⟩, by rw [rf_of (PySem.W.mg_of X G xa1), rf_of (PySem.W.mg_of X G ya1)]; exact it2_1⟩, trivial⟩
  tc_0 := ⟨⟨rf_mg (PySem.W.mg_of X G xa0), by rw [rf_of (PySem.W.mg_of X G xa0), rf_of (PySem.W.mg_of X G ya0)]; exact PySem.W.exm_ref ctS0 ctD0 ctY0 ct0_0⟩, ⟨rf_mg (PySem.W.mg_of X G xa1), by rw [rf_of (PySem.W.mg_of X G xa1), rf_of (PySem.W.mg_of X G ya0)]; exact PySem.W.exm_ref ctS0 ctD0 ctY0 ct0_1⟩, trivial⟩
  f_law_low := ⟨f0, _, fun_mk l0 c0 q0, PySem.W.mg_of X G a0⟩
  f_law_plus := ⟨f1, _, fun_mk l1 c1 q1, PySem.W.mg_of X G a1⟩
  f_law_both := ⟨f2, _, fun_mk l2 c2 q2, PySem.W.mg_of X G a2⟩
  f_law_cell_at := ⟨f3, _, fun_mk l3 c3 q3, PySem.W.mg_of X G a3⟩
  f_law_pass := ⟨f4, _, fun_mk l4 c4 q4, PySem.W.mg_of X G a4⟩
  f_law_strength := ⟨f5, _, fun_mk l5 c5 q5, PySem.W.mg_of X G a5⟩
  f_law_light := ⟨f6, _, fun_mk l6 c6 q6, PySem.W.mg_of X G a6⟩
  f_under := ⟨f7, _, fun_mk l7 c7 q7, PySem.W.mg_of X G a7⟩
  f_need_strength := ⟨f8, _, fun_mk l8 c8 q8, PySem.W.mg_of X G a8⟩
  f_shared_by := ⟨f9, _, fun_mk l9 c9 q9, PySem.W.mg_of X G a9⟩
  f_fraction := ⟨f10, _, fun_mk l10 c10 q10, PySem.W.mg_of X G a10⟩
  f_times := ⟨f11, _, fun_mk l11 c11 q11, PySem.W.mg_of X G a11⟩
  f_scaled := ⟨f12, _, fun_mk l12 c12 q12, PySem.W.mg_of X G a12⟩
  f_law_refused := ⟨f13, _, fun_mk l13 c13 q13, PySem.W.mg_of X G a13⟩
  f_plus := ⟨f14, _, fun_mk l14 c14 q14, PySem.W.mg_of X G a14⟩
  f_added_up := ⟨f15, _, fun_mk l15 c15 q15, PySem.W.mg_of X G a15⟩
  f_joined := ⟨f16, _, fun_mk l16 c16 q16, PySem.W.mg_of X G a16⟩
  f_sum_of := ⟨f17, _, fun_mk l17 c17 q17, PySem.W.mg_of X G a17⟩
  f_law := ⟨f18, _, fun_mk l18 c18 q18, PySem.W.mg_of X G a18⟩
theorem law_ok {P : Program} {w : World} {K : PySem.W.Frag} {mg : Str → Option Value} {base : Heap} (T : Txt P w K mg base) {f : Addr} {fd : FuncData} (F : Fun K "law" "law" st_law f fd) : FnOk P w K mg base (L2.CX P w) 6 f fd ["_law_script"] (spD K mg 1 s_law) := by
  have D_law_low := d_law_low T 
  have D_law_plus := d_law_plus T D_law_low
  have D_law_both := d_law_both T D_law_plus
  have D_law_cell_at := d_law_cell_at T 
  have D_law_pass := d_law_pass T 
  have D_law_strength := d_law_strength T D_law_low
  have D_law_light := d_law_light T D_law_pass D_law_strength
  have D_under := d_under T 
  have D_need_strength := d_need_strength T D_under
  have D_shared_by := d_shared_by T 
  have D_fraction := d_fraction T D_shared_by
  have D_times := d_times T D_fraction
  have D_scaled := d_scaled T D_need_strength D_times
  have D_law_refused := d_law_refused T D_scaled
  have D_plus := d_plus T D_fraction
  have D_added_up := d_added_up T D_plus
  have D_joined := d_joined T D_added_up
  have D_sum_of := d_sum_of T D_plus
  exact (ok_law T D_law_both D_law_cell_at D_law_light D_law_low D_law_refused D_law_strength D_joined D_scaled D_sum_of F).nice nice_law
theorem e_plus {C D : Nat} {x y : Fq} (hx : Fok LL C x) (hy : Fok LL D y) (hC : C ≤ 2 ^ 300) (hD : D ≤ 2 ^ 300) : s_plus [fD x, fD y] = .ok (fD (pl x y)) := by
  obtain ⟨a1, a2⟩ := fok_z hx LL_pos (Nat.lt_of_lt_of_le LL_lt (Nat.pow_le_pow_right (by decide) (by decide))) hC
  obtain ⟨b1, b2⟩ := fok_z hy LL_pos (Nat.lt_of_lt_of_le LL_lt (Nat.pow_le_pow_right (by decide) (by decide))) hD
  have p1 := hx.p
  have p2 := hy.p
  have hb : x.2 * y.2 ≠ 0 := Int.mul_ne_zero (by omega) (by omega)
  have hz : (x.2 * y.2).natAbs < 2 ^ 8000 := Nat.lt_of_lt_of_le (mul_lt a2 b2) (Nat.pow_le_pow_right (by decide) (by decide))
  have e : s_plus [fD x, fD y] = s_fraction [.int (x.1 * y.2 + y.1 * x.2), .int (x.2 * y.2)] := if_pos ⟨up4 a1 (by decide), up4 a2 (by decide), up4 b1 (by decide), up4 b2 (by decide)⟩
  rw [e]
  unfold s_fraction
  simp only []
  rw [if_neg hb, if_pos hz]
  rfl
theorem step_added {acc : AD} {P : Option Dv} {k : List Int} {v : Fq} {C D : Nat} (h : Aok LL C acc) (hv : Fok LL D v) (hC : C ≤ 2 ^ 300) (hD : D ≤ 2 ^ 300) (hz : acc.length < 900000) :
    b_added_up_1 [P, some (dD acc), some (kD k), some (fD v)] = .nx [P, some (dD (Pyd.st acc (k, v))), some (kD k), some (fD v)] := by
  unfold b_added_up_1
  cases q : lookA acc k with
  | none =>
    have g := gDPut_dD (i := 1) (fk := pVar 2) (fv := sVar 3) (ρ := [P, some (dD acc), some (kD k), some (fD v)]) (ρ1 := [P, some (dD acc), some (kD k), some (fD v)]) (l := acc) (k := k) (v := v) rfl rfl rfl h.n hz
    have e : Pyd.st acc (k, v) = upA k v acc := by unfold Pyd.st; rw [q]
    simp only [semB, List.map_cons, List.map_nil, List.length_cons, List.length_nil, List.replicate, List.cons_append, List.nil_append, Nat.reduceAdd, Nat.reduceSub, Nat.zero_add, gSeq, gNx, bndS, gSet, gDrop, gRet, gRetN, gIf, gBrk, gRaise, gAsg, gPar, Rs.bnd, Rz.to, pVar, pC, pBin, pUn, Pyd.o2, pChain, pA0, pA1, pCall, sP, sVar, sC, sA0, sA1, sTup, sLst, sBin, sFz, sCallB, sCallN, tP, tE, tNt, tAn, tOrr, sAnd, sOr, sNot, sIf, kName, kNil, kCons, Pyd.kTup, oI, oAddS, oAddI, oSub, oXor, oLt, oLe, oGt, oGe, oNeg, oIx, cLen, cAbs, cAll, cAny, bls, cMax2, cMin2, cInt, fz, fzs, fzn, fzns, dEq_int, dEq_str, dEq_bl, dEq_non, dEq_tup, dEq_lst, dEqs_nil, dEqs_cons, dEqs_n1, dEqs_n2, dok, oEq, oNe, oIsN, oNotN, oIsB, tyD, isB, List.getElem?_cons_zero, List.getElem?_cons_succ, List.set_cons_zero, List.set_cons_succ, Option.bind_some, Option.bind_none, Option.map_some, Option.map_none, if_true, if_false, ite_true, ite_false, Bool.not_true, Bool.not_false, Bool.and_true, Bool.true_and, Bool.and_self, Bool.false_and, Bool.and_false, Bool.or_true, Bool.true_or, Bool.or_false, Bool.false_or, decide_true, decide_false, eq_self_iff_true, and_self, true_and, and_true, List.all_cons, List.all_nil, Nat.lt_add_one, Nat.reduceLT, Nat.reduceLeDiff, Nat.zero_lt_succ, gFor, iLst, Pyd.iTup, Pyd.iAny, Option.some_inj, reduceCtorEq, Bool.false_eq_true, beq_self_eq_true, id_eq, Nat.le_refl, Nat.zero_le, Int.reduceBEq, Int.reduceEq, Int.reduceLT, Int.reduceLE, Int.reduceAdd, Int.reduceSub, Int.reduceMul, Int.reduceNeg, ↓reduceIte, Int.reduceToNat, sLc, Int.toNat_zero, Int.toNat_one, List.getElem?_nil, Int.cast_ofNat_Int, Int.natCast_add, wipeE, backE, tYs, sAdd, oAdd, sSl, oSl, pNo, pPart, decide_eq_true_eq, Bool.not_eq_true', decide_not, bne, Int.add_sub_cancel, Int.sub_add_cancel, Int.reducePow, gCnt, Int.reduceGT, Int.reduceGE, Int.reduceNe, ne_eq, not_true_eq_false, not_false_eq_true, String.reduceEq, String.reduceBEq, Bool.or_self, oMul_r, oMul_l, oDivA_pos, oModA_pos, oPow_10_30, oPow_10_60, oPow_10_4, cut_63, cut_40, cut_60, fzns_ints, Int.reduceAbs, Nat.reducePow, List.length_map, List.length_take, atI_0, atI_1, atI_2, atI_3, atI_4, atI_5, Pyd.iRng1, Pyd.iRng2, Int.toNat_natCast, sIsE, oIsE, gTry, oIsT, Bool.false_beq, Bool.true_beq, lk, lkA, List.mem_cons, List.not_mem_nil, or_false, false_or, or_true, true_or, ne_NoFraction__NoStrength, ne_NoStrength__NoFraction, sMake, sMakeB, gFld, putN, putV, oFld, lookD, sMeth, oIsI, oInT, intsD, gClr, sLcB, semI, outI, oDIn_dD, q, Option.isSome_none, g, e]
  | some x =>
    have hx := h.f _ (look_in q)
    have pq := e_plus hx hv hC hD
    have g := gDPut_dD (i := 1) (fk := pVar 2) (fv := sCallN 2 s_plus (sA1 (sP (pBin oDGet (pVar 1) (pVar 2))) (sA1 (sVar 3) sA0))) (ρ := [P, some (dD acc), some (kD k), some (fD v)]) (ρ1 := [P, some (dD acc), some (kD k), some (fD v)]) (l := acc) (k := k) (v := pl x v) (by simp only [semB, List.map_cons, List.map_nil, List.length_cons, List.length_nil, List.replicate, List.cons_append, List.nil_append, Nat.reduceAdd, Nat.reduceSub, Nat.zero_add, gSeq, gNx, bndS, gSet, gDrop, gRet, gRetN, gIf, gBrk, gRaise, gAsg, gPar, Rs.bnd, Rz.to, pVar, pC, pBin, pUn, Pyd.o2, pChain, pA0, pA1, pCall, sP, sVar, sC, sA0, sA1, sTup, sLst, sBin, sFz, sCallB, sCallN, tP, tE, tNt, tAn, tOrr, sAnd, sOr, sNot, sIf, kName, kNil, kCons, Pyd.kTup, oI, oAddS, oAddI, oSub, oXor, oLt, oLe, oGt, oGe, oNeg, oIx, cLen, cAbs, cAll, cAny, bls, cMax2, cMin2, cInt, fz, fzs, fzn, fzns, dEq_int, dEq_str, dEq_bl, dEq_non, dEq_tup, dEq_lst, dEqs_nil, dEqs_cons, dEqs_n1, dEqs_n2, dok, oEq, oNe, oIsN, oNotN, oIsB, tyD, isB, List.getElem?_cons_zero, List.getElem?_cons_succ, List.set_cons_zero, List.set_cons_succ, Option.bind_some, Option.bind_none, Option.map_some, Option.map_none, if_true, if_false, ite_true, ite_false, Bool.not_true, Bool.not_false, Bool.and_true, Bool.true_and, Bool.and_self, Bool.false_and, Bool.and_false, Bool.or_true, Bool.true_or, Bool.or_false, Bool.false_or, decide_true, decide_false, eq_self_iff_true, and_self, true_and, and_true, List.all_cons, List.all_nil, Nat.lt_add_one, Nat.reduceLT, Nat.reduceLeDiff, Nat.zero_lt_succ, gFor, iLst, Pyd.iTup, Pyd.iAny, Option.some_inj, reduceCtorEq, Bool.false_eq_true, beq_self_eq_true, id_eq, Nat.le_refl, Nat.zero_le, Int.reduceBEq, Int.reduceEq, Int.reduceLT, Int.reduceLE, Int.reduceAdd, Int.reduceSub, Int.reduceMul, Int.reduceNeg, ↓reduceIte, Int.reduceToNat, sLc, Int.toNat_zero, Int.toNat_one, List.getElem?_nil, Int.cast_ofNat_Int, Int.natCast_add, wipeE, backE, tYs, sAdd, oAdd, sSl, oSl, pNo, pPart, decide_eq_true_eq, Bool.not_eq_true', decide_not, bne, Int.add_sub_cancel, Int.sub_add_cancel, Int.reducePow, gCnt, Int.reduceGT, Int.reduceGE, Int.reduceNe, ne_eq, not_true_eq_false, not_false_eq_true, String.reduceEq, String.reduceBEq, Bool.or_self, oMul_r, oMul_l, oDivA_pos, oModA_pos, oPow_10_30, oPow_10_60, oPow_10_4, cut_63, cut_40, cut_60, fzns_ints, Int.reduceAbs, Nat.reducePow, List.length_map, List.length_take, atI_0, atI_1, atI_2, atI_3, atI_4, atI_5, Pyd.iRng1, Pyd.iRng2, Int.toNat_natCast, sIsE, oIsE, gTry, oIsT, Bool.false_beq, Bool.true_beq, lk, lkA, List.mem_cons, List.not_mem_nil, or_false, false_or, or_true, true_or, ne_NoFraction__NoStrength, ne_NoStrength__NoFraction, sMake, sMakeB, gFld, putN, putV, oFld, lookD, sMeth, oIsI, oInT, intsD, gClr, sLcB, semI, outI, oDGet_dD, q, fz_fD, fD, pq]; exact pq ▸ rfl) rfl rfl h.n hz
    have e : Pyd.st acc (k, v) = upA k (pl x v) acc := by unfold Pyd.st; rw [q]
    simp only [semB, List.map_cons, List.map_nil, List.length_cons, List.length_nil, List.replicate, List.cons_append, List.nil_append, Nat.reduceAdd, Nat.reduceSub, Nat.zero_add, gSeq, gNx, bndS, gSet, gDrop, gRet, gRetN, gIf, gBrk, gRaise, gAsg, gPar, Rs.bnd, Rz.to, pVar, pC, pBin, pUn, Pyd.o2, pChain, pA0, pA1, pCall, sP, sVar, sC, sA0, sA1, sTup, sLst, sBin, sFz, sCallB, sCallN, tP, tE, tNt, tAn, tOrr, sAnd, sOr, sNot, sIf, kName, kNil, kCons, Pyd.kTup, oI, oAddS, oAddI, oSub, oXor, oLt, oLe, oGt, oGe, oNeg, oIx, cLen, cAbs, cAll, cAny, bls, cMax2, cMin2, cInt, fz, fzs, fzn, fzns, dEq_int, dEq_str, dEq_bl, dEq_non, dEq_tup, dEq_lst, dEqs_nil, dEqs_cons, dEqs_n1, dEqs_n2, dok, oEq, oNe, oIsN, oNotN, oIsB, tyD, isB, List.getElem?_cons_zero, List.getElem?_cons_succ, List.set_cons_zero, List.set_cons_succ, Option.bind_some, Option.bind_none, Option.map_some, Option.map_none, if_true, if_false, ite_true, ite_false, Bool.not_true, Bool.not_false, Bool.and_true, Bool.true_and, Bool.and_self, Bool.false_and, Bool.and_false, Bool.or_true, Bool.true_or, Bool.or_false, Bool.false_or, decide_true, decide_false, eq_self_iff_true, and_self, true_and, and_true, List.all_cons, List.all_nil, Nat.lt_add_one, Nat.reduceLT, Nat.reduceLeDiff, Nat.zero_lt_succ, gFor, iLst, Pyd.iTup, Pyd.iAny, Option.some_inj, reduceCtorEq, Bool.false_eq_true, beq_self_eq_true, id_eq, Nat.le_refl, Nat.zero_le, Int.reduceBEq, Int.reduceEq, Int.reduceLT, Int.reduceLE, Int.reduceAdd, Int.reduceSub, Int.reduceMul, Int.reduceNeg, ↓reduceIte, Int.reduceToNat, sLc, Int.toNat_zero, Int.toNat_one, List.getElem?_nil, Int.cast_ofNat_Int, Int.natCast_add, wipeE, backE, tYs, sAdd, oAdd, sSl, oSl, pNo, pPart, decide_eq_true_eq, Bool.not_eq_true', decide_not, bne, Int.add_sub_cancel, Int.sub_add_cancel, Int.reducePow, gCnt, Int.reduceGT, Int.reduceGE, Int.reduceNe, ne_eq, not_true_eq_false, not_false_eq_true, String.reduceEq, String.reduceBEq, Bool.or_self, oMul_r, oMul_l, oDivA_pos, oModA_pos, oPow_10_30, oPow_10_60, oPow_10_4, cut_63, cut_40, cut_60, fzns_ints, Int.reduceAbs, Nat.reducePow, List.length_map, List.length_take, atI_0, atI_1, atI_2, atI_3, atI_4, atI_5, Pyd.iRng1, Pyd.iRng2, Int.toNat_natCast, sIsE, oIsE, gTry, oIsT, Bool.false_beq, Bool.true_beq, lk, lkA, List.mem_cons, List.not_mem_nil, or_false, false_or, or_true, true_or, ne_NoFraction__NoStrength, ne_NoStrength__NoFraction, sMake, sMakeB, gFld, putN, putV, oFld, lookD, sMeth, oIsI, oInT, intsD, gClr, sLcB, semI, outI, oDIn_dD, q, Option.isSome_some, g, e]
theorem dD_nil : Dv.dct true DK.t [] [] = dD [] := rfl
theorem fzn_eD (e : List Int × Fq) : fzn (eD e) = true := by
  show (fzn (kD e.1) && (fzn (fD e.2) && true)) = true
  rw [fzn_kD]
  rfl
theorem fzns_eD : ∀ (l : AD), fzns (l.map eD) = true
  | [] => rfl
  | e :: l => by rw [List.map_cons, fzns, fzn_eD, fzns_eD l]; rfl
theorem fzs_eD (l : AD) : fzs (l.map eD) = l.map eD := fzs_id _ (fzns_eD l)
theorem tg_added (e : List Int × Fq) (P K p2 p3 : Option Dv) : Pyd.kTup 2 (kCons (kName 2) (kCons (kName 3) kNil)) (eD e) [P, K, p2, p3] = some [P, K, some (kD e.1), some (fD e.2)] := by
  unfold eD
  simp only [semB, List.map_cons, List.map_nil, List.length_cons, List.length_nil, List.replicate, List.cons_append, List.nil_append, Nat.reduceAdd, Nat.reduceSub, Nat.zero_add, gSeq, gNx, bndS, gSet, gDrop, gRet, gRetN, gIf, gBrk, gRaise, gAsg, gPar, Rs.bnd, Rz.to, pVar, pC, pBin, pUn, Pyd.o2, pChain, pA0, pA1, pCall, sP, sVar, sC, sA0, sA1, sTup, sLst, sBin, sFz, sCallB, sCallN, tP, tE, tNt, tAn, tOrr, sAnd, sOr, sNot, sIf, kName, kNil, kCons, Pyd.kTup, oI, oAddS, oAddI, oSub, oXor, oLt, oLe, oGt, oGe, oNeg, oIx, cLen, cAbs, cAll, cAny, bls, cMax2, cMin2, cInt, fz, fzs, fzn, fzns, dEq_int, dEq_str, dEq_bl, dEq_non, dEq_tup, dEq_lst, dEqs_nil, dEqs_cons, dEqs_n1, dEqs_n2, dok, oEq, oNe, oIsN, oNotN, oIsB, tyD, isB, List.getElem?_cons_zero, List.getElem?_cons_succ, List.set_cons_zero, List.set_cons_succ, Option.bind_some, Option.bind_none, Option.map_some, Option.map_none, if_true, if_false, ite_true, ite_false, Bool.not_true, Bool.not_false, Bool.and_true, Bool.true_and, Bool.and_self, Bool.false_and, Bool.and_false, Bool.or_true, Bool.true_or, Bool.or_false, Bool.false_or, decide_true, decide_false, eq_self_iff_true, and_self, true_and, and_true, List.all_cons, List.all_nil, Nat.lt_add_one, Nat.reduceLT, Nat.reduceLeDiff, Nat.zero_lt_succ, gFor, iLst, Pyd.iTup, Pyd.iAny, Option.some_inj, reduceCtorEq, Bool.false_eq_true, beq_self_eq_true, id_eq, Nat.le_refl, Nat.zero_le, Int.reduceBEq, Int.reduceEq, Int.reduceLT, Int.reduceLE, Int.reduceAdd, Int.reduceSub, Int.reduceMul, Int.reduceNeg, ↓reduceIte, Int.reduceToNat, sLc, Int.toNat_zero, Int.toNat_one, List.getElem?_nil, Int.cast_ofNat_Int, Int.natCast_add, wipeE, backE, tYs, sAdd, oAdd, sSl, oSl, pNo, pPart, decide_eq_true_eq, Bool.not_eq_true', decide_not, bne, Int.add_sub_cancel, Int.sub_add_cancel, Int.reducePow, gCnt, Int.reduceGT, Int.reduceGE, Int.reduceNe, ne_eq, not_true_eq_false, not_false_eq_true, String.reduceEq, String.reduceBEq, Bool.or_self, oMul_r, oMul_l, oDivA_pos, oModA_pos, oPow_10_30, oPow_10_60, oPow_10_4, cut_63, cut_40, cut_60, fzns_ints, Int.reduceAbs, Nat.reducePow, List.length_map, List.length_take, atI_0, atI_1, atI_2, atI_3, atI_4, atI_5, Pyd.iRng1, Pyd.iRng2, Int.toNat_natCast, sIsE, oIsE, gTry, oIsT, Bool.false_beq, Bool.true_beq, lk, lkA, List.mem_cons, List.not_mem_nil, or_false, false_or, or_true, true_or, ne_NoFraction__NoStrength, ne_NoStrength__NoFraction, sMake, sMakeB, gFld, putN, putV, oFld, lookD, sMeth, oIsI, oInT, intsD, gClr, sLcB, semI, outI, fz_kD, fz_fD]
theorem loop_added {D : Nat} (hD : D ≤ 2 ^ 300) : ∀ (l acc : AD) (C : Nat) (P p2 p3 : Option Dv), Aok LL C acc → (∀ e ∈ l, e.1.length = 3 ∧ Fok LL D e.2) → C + l.length * D ≤ 2 ^ 300 → acc.length + l.length < 900000 →
    ∃ p2' p3', forL (Pyd.kTup 2 (kCons (kName 2) (kCons (kName 3) kNil))) b_added_up_1 (l.map eD) [P, some (dD acc), p2, p3] = .nx [P, some (dD (l.foldl Pyd.st acc)), p2', p3']
  | [], acc, C, P, p2, p3, _, _, _, _ => ⟨p2, p3, rfl⟩
  | e :: l, acc, C, P, p2, p3, h, hl, hC, hz => by
    rw [List.length_cons] at hC hz
    have he := hl e (.head _)
    have hC1 : C ≤ 2 ^ 300 := by omega
    have s1 := step_added (P := P) h he.2 (k := e.1) hC1 hD (by omega)
    have ln : (Pyd.st acc e).length ≤ acc.length + 1 := upA_len
    obtain ⟨p2', p3', r⟩ := loop_added hD l (Pyd.st acc e) (C + D) P (some (kD e.1)) (some (fD e.2)) (st_ok h he.2 he.1) (fun x hx => hl x (.tail _ hx)) (by rw [Nat.add_mul] at hC; omega) (by omega)
    refine ⟨p2', p3', ?_⟩
    rw [List.map_cons, forL, tg_added]
    simp only [s1]
    exact r
theorem e_added_up {D : Nat} {o : Bool} {l : AD} (hD : D ≤ 2 ^ 280) (hl : ∀ e ∈ l, e.1.length = 3 ∧ Fok LL D e.2) (hz : l.length ≤ 1000) : s_added_up [.lst o (l.map eD)] = .ok (.lst true ((srtA (l.foldl Pyd.st [])).map eD)) := by
  have hm : l.length * D ≤ 2 ^ 290 := by
    calc l.length * D ≤ 2 ^ 10 * 2 ^ 280 := Nat.mul_le_mul (by omega) hD
      _ = 2 ^ 290 := by rw [← Nat.pow_add]
  have h300 : (2 : Nat) ^ 290 ≤ 2 ^ 300 := Nat.pow_le_pow_right (by decide) (by decide)
  have h280 : (2 : Nat) ^ 280 ≤ 2 ^ 300 := Nat.pow_le_pow_right (by decide) (by decide)
  obtain ⟨p2, p3, lp⟩ := loop_added (D := D) (by omega) l [] 0 (some (.lst false (l.map eD))) none none nil_ok hl (by omega) (by show 0 + _ < _; omega)
  have ok := fold_ok l [] (nil_ok (L := LL)) hl
  have fl := fold_len l []
  obtain ⟨ρ', cm⟩ := comp_dD (i := 1) (j := 2) (ρ := [some (.lst false (l.map eD)), some (dD (l.foldl Pyd.st [])), p2, p3]) (by decide) (by simp only [List.length_cons, List.length_nil]; decide) rfl ok.k ok.n (by have : ([] : AD).length = 0 := rfl; omega)
  have cm' : c_added_up_1 [some (.lst false (l.map eD)), some (dD (l.foldl Pyd.st [])), p2, p3] = .ok (.lst true ((srtA (l.foldl Pyd.st [])).map eD)) ρ' := cm
  unfold s_added_up sem_added_up g_added_up
  simp only [semB, List.map_cons, List.map_nil, List.length_cons, List.length_nil, List.replicate, List.cons_append, List.nil_append, Nat.reduceAdd, Nat.reduceSub, Nat.zero_add, gSeq, gNx, bndS, gSet, gDrop, gRet, gRetN, gIf, gBrk, gRaise, gAsg, gPar, Rs.bnd, Rz.to, pVar, pC, pBin, pUn, Pyd.o2, pChain, pA0, pA1, pCall, sP, sVar, sC, sA0, sA1, sTup, sLst, sBin, sFz, sCallB, sCallN, tP, tE, tNt, tAn, tOrr, sAnd, sOr, sNot, sIf, kName, kNil, kCons, Pyd.kTup, oI, oAddS, oAddI, oSub, oXor, oLt, oLe, oGt, oGe, oNeg, oIx, cLen, cAbs, cAll, cAny, bls, cMax2, cMin2, cInt, fz, fzs, fzn, fzns, dEq_int, dEq_str, dEq_bl, dEq_non, dEq_tup, dEq_lst, dEqs_nil, dEqs_cons, dEqs_n1, dEqs_n2, dok, oEq, oNe, oIsN, oNotN, oIsB, tyD, isB, List.getElem?_cons_zero, List.getElem?_cons_succ, List.set_cons_zero, List.set_cons_succ, Option.bind_some, Option.bind_none, Option.map_some, Option.map_none, if_true, if_false, ite_true, ite_false, Bool.not_true, Bool.not_false, Bool.and_true, Bool.true_and, Bool.and_self, Bool.false_and, Bool.and_false, Bool.or_true, Bool.true_or, Bool.or_false, Bool.false_or, decide_true, decide_false, eq_self_iff_true, and_self, true_and, and_true, List.all_cons, List.all_nil, Nat.lt_add_one, Nat.reduceLT, Nat.reduceLeDiff, Nat.zero_lt_succ, gFor, iLst, Pyd.iTup, Pyd.iAny, Option.some_inj, reduceCtorEq, Bool.false_eq_true, beq_self_eq_true, id_eq, Nat.le_refl, Nat.zero_le, Int.reduceBEq, Int.reduceEq, Int.reduceLT, Int.reduceLE, Int.reduceAdd, Int.reduceSub, Int.reduceMul, Int.reduceNeg, ↓reduceIte, Int.reduceToNat, sLc, Int.toNat_zero, Int.toNat_one, List.getElem?_nil, Int.cast_ofNat_Int, Int.natCast_add, wipeE, backE, tYs, sAdd, oAdd, sSl, oSl, pNo, pPart, decide_eq_true_eq, Bool.not_eq_true', decide_not, bne, Int.add_sub_cancel, Int.sub_add_cancel, Int.reducePow, gCnt, Int.reduceGT, Int.reduceGE, Int.reduceNe, ne_eq, not_true_eq_false, not_false_eq_true, String.reduceEq, String.reduceBEq, Bool.or_self, oMul_r, oMul_l, oDivA_pos, oModA_pos, oPow_10_30, oPow_10_60, oPow_10_4, cut_63, cut_40, cut_60, fzns_ints, Int.reduceAbs, Nat.reducePow, List.length_map, List.length_take, atI_0, atI_1, atI_2, atI_3, atI_4, atI_5, Pyd.iRng1, Pyd.iRng2, Int.toNat_natCast, sIsE, oIsE, gTry, oIsT, Bool.false_beq, Bool.true_beq, lk, lkA, List.mem_cons, List.not_mem_nil, or_false, false_or, or_true, true_or, ne_NoFraction__NoStrength, ne_NoStrength__NoFraction, sMake, sMakeB, gFld, putN, putV, oFld, lookD, sMeth, oIsI, oInT, intsD, gClr, sLcB, semI, outI, sDctT, dD_nil, fzns_eD, fzs_eD, lp, cm']
theorem e_joined {D : Nat} {o o' : Bool} {a b : AD} (hD : D ≤ 2 ^ 280) (ha : ∀ e ∈ a, e.1.length = 3 ∧ Fok LL D e.2) (hb : ∀ e ∈ b, e.1.length = 3 ∧ Fok LL D e.2) (hz : a.length + b.length ≤ 1000) : s_joined [.lst o (a.map eD), .lst o' (b.map eD)] = .ok (.lst true ((srtA ((a ++ b).foldl Pyd.st [])).map eD)) := by
  have k := e_added_up (o := false) (l := a ++ b) hD (fun e he => by rcases List.mem_append.mp he with z | z; exact ha e z; exact hb e z) (by rw [List.length_append]; exact hz)
  have h6 : a.length + b.length ≤ 1000000 := by omega
  have ap : fzs (a.map eD ++ b.map eD) = (a ++ b).map eD := by rw [← List.map_append, fzs_eD]
  unfold s_joined sem_joined g_joined
  simp only [semB, List.map_cons, List.map_nil, List.length_cons, List.length_nil, List.replicate, List.cons_append, List.nil_append, Nat.reduceAdd, Nat.reduceSub, Nat.zero_add, gSeq, gNx, bndS, gSet, gDrop, gRet, gRetN, gIf, gBrk, gRaise, gAsg, gPar, Rs.bnd, Rz.to, pVar, pC, pBin, pUn, Pyd.o2, pChain, pA0, pA1, pCall, sP, sVar, sC, sA0, sA1, sTup, sLst, sBin, sFz, sCallB, sCallN, tP, tE, tNt, tAn, tOrr, sAnd, sOr, sNot, sIf, kName, kNil, kCons, Pyd.kTup, oI, oAddS, oAddI, oSub, oXor, oLt, oLe, oGt, oGe, oNeg, oIx, cLen, cAbs, cAll, cAny, bls, cMax2, cMin2, cInt, fz, fzs, fzn, fzns, dEq_int, dEq_str, dEq_bl, dEq_non, dEq_tup, dEq_lst, dEqs_nil, dEqs_cons, dEqs_n1, dEqs_n2, dok, oEq, oNe, oIsN, oNotN, oIsB, tyD, isB, List.getElem?_cons_zero, List.getElem?_cons_succ, List.set_cons_zero, List.set_cons_succ, Option.bind_some, Option.bind_none, Option.map_some, Option.map_none, if_true, if_false, ite_true, ite_false, Bool.not_true, Bool.not_false, Bool.and_true, Bool.true_and, Bool.and_self, Bool.false_and, Bool.and_false, Bool.or_true, Bool.true_or, Bool.or_false, Bool.false_or, decide_true, decide_false, eq_self_iff_true, and_self, true_and, and_true, List.all_cons, List.all_nil, Nat.lt_add_one, Nat.reduceLT, Nat.reduceLeDiff, Nat.zero_lt_succ, gFor, iLst, Pyd.iTup, Pyd.iAny, Option.some_inj, reduceCtorEq, Bool.false_eq_true, beq_self_eq_true, id_eq, Nat.le_refl, Nat.zero_le, Int.reduceBEq, Int.reduceEq, Int.reduceLT, Int.reduceLE, Int.reduceAdd, Int.reduceSub, Int.reduceMul, Int.reduceNeg, ↓reduceIte, Int.reduceToNat, sLc, Int.toNat_zero, Int.toNat_one, List.getElem?_nil, Int.cast_ofNat_Int, Int.natCast_add, wipeE, backE, tYs, sAdd, oAdd, sSl, oSl, pNo, pPart, decide_eq_true_eq, Bool.not_eq_true', decide_not, bne, Int.add_sub_cancel, Int.sub_add_cancel, Int.reducePow, gCnt, Int.reduceGT, Int.reduceGE, Int.reduceNe, ne_eq, not_true_eq_false, not_false_eq_true, String.reduceEq, String.reduceBEq, Bool.or_self, oMul_r, oMul_l, oDivA_pos, oModA_pos, oPow_10_30, oPow_10_60, oPow_10_4, cut_63, cut_40, cut_60, fzns_ints, Int.reduceAbs, Nat.reducePow, List.length_map, List.length_take, atI_0, atI_1, atI_2, atI_3, atI_4, atI_5, Pyd.iRng1, Pyd.iRng2, Int.toNat_natCast, sIsE, oIsE, gTry, oIsT, Bool.false_beq, Bool.true_beq, lk, lkA, List.mem_cons, List.not_mem_nil, or_false, false_or, or_true, true_or, ne_NoFraction__NoStrength, ne_NoStrength__NoFraction, sMake, sMakeB, gFld, putN, putV, oFld, lookD, sMeth, oIsI, oInT, intsD, gClr, sLcB, semI, outI, fzns_eD, fzs_eD, h6, ap, k, true_and]
theorem pl_nn {x y : Fq} (px : 1 ≤ x.2) (py : 1 ≤ y.2) (hx : 0 ≤ x.1) (hy : 0 ≤ y.1) : 0 ≤ (pl x y).1 := by
  have hb : 1 ≤ x.2 * y.2 := by have := Int.mul_pos (a := x.2) (b := y.2) (by omega) (by omega); omega
  have hn : 0 ≤ x.1 * y.2 + y.1 * x.2 := Int.add_nonneg (Int.mul_nonneg hx (by omega)) (Int.mul_nonneg hy (by omega))
  show 0 ≤ fn _ _
  unfold fn
  refine Int.ediv_nonneg hn ?_
  unfold fby
  rw [if_neg (by omega)]
  omega
theorem st_z {acc : AD} {e : List Int × Fq} (p : 1 ≤ e.2.2) (g : Int.gcd e.2.1 e.2.2 = 1) : upA e.1 (pl ((lookA acc e.1).getD (0, 1)) e.2) acc = Pyd.st acc e := by
  unfold Pyd.st
  cases lookA acc e.1 with
  | none => show upA e.1 (pl (0, 1) e.2) acc = _; rw [pl_zero p g]
  | some v => rfl
theorem sDGet2_dD {i : Nat} {fk fd : SE} {ρ ρ1 ρ2 : En} {l : AD} {k : List Int} {z : Fq} (hi : ρ[i]? = some (some (dD l))) (hk : fk ρ = .ok (kD k) ρ1) (hd : fd ρ1 = .ok (fD z) ρ2) (h2 : ρ2[i]? = some (some (dD l))) : sDGet2 i fk fd ρ = .ok (fD ((lookA l k).getD z)) ρ2 := by
  unfold sDGet2
  simp only [hi]
  show (Rs.bnd (if (keysT (l.map fun e => kD e.1)).isSome = true then Rs.ok () ρ else .stk) _) = _
  rw [keysT_dD]
  simp only [Option.isSome_some, if_true, Rs.bnd, hk, hd, h2, dGet_dD]
  cases lookA l k <;> rfl
/-- tops from 0 on -/
def Nn (l : AD) : Prop := ∀ e ∈ l, 0 ≤ e.2.1
theorem st_nn {L : Int} {C : Nat} {acc : AD} {e : List Int × Fq} (ha : Nn acc) (hk : Aok L C acc) (p : 1 ≤ e.2.2) (he : 0 ≤ e.2.1) : Nn (Pyd.st acc e) := by
  intro x hx
  rcases upA_mem hx with z | z
  · rw [z]
    cases q : lookA acc e.1 with
    | none => exact he
    | some v => exact pl_nn (hk.f _ (look_in q)).p p (ha _ (look_in q)) he
  · exact ha x z
theorem step_both {acc : AD} {P Q : Option Dv} {k : List Int} {v : Fq} {C D : Nat} (h : Aok LL C acc) (nn : Nn acc) (hv : Fok LL D v) (pv : 0 ≤ v.1) (hC : C ≤ 2 ^ 300) (hD : D ≤ 2 ^ 300) (hz : acc.length < 900000) :
    b_law_both_1 [P, Q, some (dD acc), some (kD k), some (fD v)] = .nx [P, Q, some (dD (Pyd.st acc (k, v))), some (kD k), some (fD v)] := by
  have g2 := sDGet2_dD (i := 2) (fk := sVar 3) (fd := sTup true (sA1 (sC (.int 0)) (sA1 (sC (.int 1)) sA0))) (ρ := [P, Q, some (dD acc), some (kD k), some (fD v)]) (ρ1 := [P, Q, some (dD acc), some (kD k), some (fD v)]) (ρ2 := [P, Q, some (dD acc), some (kD k), some (fD v)]) (l := acc) (k := k) (z := (0, 1)) rfl (by simp only [semB, List.map_cons, List.map_nil, List.length_cons, List.length_nil, List.replicate, List.cons_append, List.nil_append, Nat.reduceAdd, Nat.reduceSub, Nat.zero_add, gSeq, gNx, bndS, gSet, gDrop, gRet, gRetN, gIf, gBrk, gRaise, gAsg, gPar, Rs.bnd, Rz.to, pVar, pC, pBin, pUn, Pyd.o2, pChain, pA0, pA1, pCall, sP, sVar, sC, sA0, sA1, sTup, sLst, sBin, sFz, sCallB, sCallN, tP, tE, tNt, tAn, tOrr, sAnd, sOr, sNot, sIf, kName, kNil, kCons, Pyd.kTup, oI, oAddS, oAddI, oSub, oXor, oLt, oLe, oGt, oGe, oNeg, oIx, cLen, cAbs, cAll, cAny, bls, cMax2, cMin2, cInt, fz, fzs, fzn, fzns, dEq_int, dEq_str, dEq_bl, dEq_non, dEq_tup, dEq_lst, dEqs_nil, dEqs_cons, dEqs_n1, dEqs_n2, dok, oEq, oNe, oIsN, oNotN, oIsB, tyD, isB, List.getElem?_cons_zero, List.getElem?_cons_succ, List.set_cons_zero, List.set_cons_succ, Option.bind_some, Option.bind_none, Option.map_some, Option.map_none, if_true, if_false, ite_true, ite_false, Bool.not_true, Bool.not_false, Bool.and_true, Bool.true_and, Bool.and_self, Bool.false_and, Bool.and_false, Bool.or_true, Bool.true_or, Bool.or_false, Bool.false_or, decide_true, decide_false, eq_self_iff_true, and_self, true_and, and_true, List.all_cons, List.all_nil, Nat.lt_add_one, Nat.reduceLT, Nat.reduceLeDiff, Nat.zero_lt_succ, gFor, iLst, Pyd.iTup, Pyd.iAny, Option.some_inj, reduceCtorEq, Bool.false_eq_true, beq_self_eq_true, id_eq, Nat.le_refl, Nat.zero_le, Int.reduceBEq, Int.reduceEq, Int.reduceLT, Int.reduceLE, Int.reduceAdd, Int.reduceSub, Int.reduceMul, Int.reduceNeg, ↓reduceIte, Int.reduceToNat, sLc, Int.toNat_zero, Int.toNat_one, List.getElem?_nil, Int.cast_ofNat_Int, Int.natCast_add, wipeE, backE, tYs, sAdd, oAdd, sSl, oSl, pNo, pPart, decide_eq_true_eq, Bool.not_eq_true', decide_not, bne, Int.add_sub_cancel, Int.sub_add_cancel, Int.reducePow, gCnt, Int.reduceGT, Int.reduceGE, Int.reduceNe, ne_eq, not_true_eq_false, not_false_eq_true, String.reduceEq, String.reduceBEq, Bool.or_self, oMul_r, oMul_l, oDivA_pos, oModA_pos, oPow_10_30, oPow_10_60, oPow_10_4, cut_63, cut_40, cut_60, fzns_ints, Int.reduceAbs, Nat.reducePow, List.length_map, List.length_take, atI_0, atI_1, atI_2, atI_3, atI_4, atI_5, Pyd.iRng1, Pyd.iRng2, Int.toNat_natCast, sIsE, oIsE, gTry, oIsT, Bool.false_beq, Bool.true_beq, lk, lkA, List.mem_cons, List.not_mem_nil, or_false, false_or, or_true, true_or, ne_NoFraction__NoStrength, ne_NoStrength__NoFraction, sMake, sMakeB, gFld, putN, putV, oFld, lookD, sMeth, oIsI, oInT, intsD, gClr, sLcB, semI, outI, fz_kD]) rfl rfl
  have ok1 : Fok LL C ((lookA acc k).getD (0, 1)) := by
    cases q : lookA acc k with
    | none => exact zero_ok.up (by omega)
    | some x => exact h.f _ (look_in q)
  have nn1 : 0 ≤ ((lookA acc k).getD (0, 1)).1 := by
    cases q : lookA acc k with
    | none => decide
    | some x => exact nn _ (look_in q)
  have pq := e_law_plus ok1 hv hC hD nn1 pv
  have e := st_z (acc := acc) (e := (k, v)) hv.p hv.g
  have g := gDPut_dD (i := 2) (fk := pVar 3) (fv := sCallN 2 s_law_plus (sA1 (sDGet2 2 (sVar 3) (sTup true (sA1 (sC (.int 0)) (sA1 (sC (.int 1)) sA0)))) (sA1 (sVar 4) sA0))) (ρ := [P, Q, some (dD acc), some (kD k), some (fD v)]) (ρ1 := [P, Q, some (dD acc), some (kD k), some (fD v)]) (l := acc) (k := k) (v := pl ((lookA acc k).getD (0, 1)) v) (by simp only [semB, List.map_cons, List.map_nil, List.length_cons, List.length_nil, List.replicate, List.cons_append, List.nil_append, Nat.reduceAdd, Nat.reduceSub, Nat.zero_add, gSeq, gNx, bndS, gSet, gDrop, gRet, gRetN, gIf, gBrk, gRaise, gAsg, gPar, Rs.bnd, Rz.to, pVar, pC, pBin, pUn, Pyd.o2, pChain, pA0, pA1, pCall, sP, sVar, sC, sA0, sA1, sTup, sLst, sBin, sFz, sCallB, sCallN, tP, tE, tNt, tAn, tOrr, sAnd, sOr, sNot, sIf, kName, kNil, kCons, Pyd.kTup, oI, oAddS, oAddI, oSub, oXor, oLt, oLe, oGt, oGe, oNeg, oIx, cLen, cAbs, cAll, cAny, bls, cMax2, cMin2, cInt, fz, fzs, fzn, fzns, dEq_int, dEq_str, dEq_bl, dEq_non, dEq_tup, dEq_lst, dEqs_nil, dEqs_cons, dEqs_n1, dEqs_n2, dok, oEq, oNe, oIsN, oNotN, oIsB, tyD, isB, List.getElem?_cons_zero, List.getElem?_cons_succ, List.set_cons_zero, List.set_cons_succ, Option.bind_some, Option.bind_none, Option.map_some, Option.map_none, if_true, if_false, ite_true, ite_false, Bool.not_true, Bool.not_false, Bool.and_true, Bool.true_and, Bool.and_self, Bool.false_and, Bool.and_false, Bool.or_true, Bool.true_or, Bool.or_false, Bool.false_or, decide_true, decide_false, eq_self_iff_true, and_self, true_and, and_true, List.all_cons, List.all_nil, Nat.lt_add_one, Nat.reduceLT, Nat.reduceLeDiff, Nat.zero_lt_succ, gFor, iLst, Pyd.iTup, Pyd.iAny, Option.some_inj, reduceCtorEq, Bool.false_eq_true, beq_self_eq_true, id_eq, Nat.le_refl, Nat.zero_le, Int.reduceBEq, Int.reduceEq, Int.reduceLT, Int.reduceLE, Int.reduceAdd, Int.reduceSub, Int.reduceMul, Int.reduceNeg, ↓reduceIte, Int.reduceToNat, sLc, Int.toNat_zero, Int.toNat_one, List.getElem?_nil, Int.cast_ofNat_Int, Int.natCast_add, wipeE, backE, tYs, sAdd, oAdd, sSl, oSl, pNo, pPart, decide_eq_true_eq, Bool.not_eq_true', decide_not, bne, Int.add_sub_cancel, Int.sub_add_cancel, Int.reducePow, gCnt, Int.reduceGT, Int.reduceGE, Int.reduceNe, ne_eq, not_true_eq_false, not_false_eq_true, String.reduceEq, String.reduceBEq, Bool.or_self, oMul_r, oMul_l, oDivA_pos, oModA_pos, oPow_10_30, oPow_10_60, oPow_10_4, cut_63, cut_40, cut_60, fzns_ints, Int.reduceAbs, Nat.reducePow, List.length_map, List.length_take, atI_0, atI_1, atI_2, atI_3, atI_4, atI_5, Pyd.iRng1, Pyd.iRng2, Int.toNat_natCast, sIsE, oIsE, gTry, oIsT, Bool.false_beq, Bool.true_beq, lk, lkA, List.mem_cons, List.not_mem_nil, or_false, false_or, or_true, true_or, ne_NoFraction__NoStrength, ne_NoStrength__NoFraction, sMake, sMakeB, gFld, putN, putV, oFld, lookD, sMeth, oIsI, oInT, intsD, gClr, sLcB, semI, outI, g2, fz_fD, pq]) rfl rfl h.n hz
  unfold b_law_both_1
  rw [g, e]
  rfl
theorem tg_both (e : List Int × Fq) (P Q K p2 p3 : Option Dv) : Pyd.kTup 2 (kCons (kName 3) (kCons (kName 4) kNil)) (eD e) [P, Q, K, p2, p3] = some [P, Q, K, some (kD e.1), some (fD e.2)] := by
  unfold eD
  simp only [semB, List.map_cons, List.map_nil, List.length_cons, List.length_nil, List.replicate, List.cons_append, List.nil_append, Nat.reduceAdd, Nat.reduceSub, Nat.zero_add, gSeq, gNx, bndS, gSet, gDrop, gRet, gRetN, gIf, gBrk, gRaise, gAsg, gPar, Rs.bnd, Rz.to, pVar, pC, pBin, pUn, Pyd.o2, pChain, pA0, pA1, pCall, sP, sVar, sC, sA0, sA1, sTup, sLst, sBin, sFz, sCallB, sCallN, tP, tE, tNt, tAn, tOrr, sAnd, sOr, sNot, sIf, kName, kNil, kCons, Pyd.kTup, oI, oAddS, oAddI, oSub, oXor, oLt, oLe, oGt, oGe, oNeg, oIx, cLen, cAbs, cAll, cAny, bls, cMax2, cMin2, cInt, fz, fzs, fzn, fzns, dEq_int, dEq_str, dEq_bl, dEq_non, dEq_tup, dEq_lst, dEqs_nil, dEqs_cons, dEqs_n1, dEqs_n2, dok, oEq, oNe, oIsN, oNotN, oIsB, tyD, isB, List.getElem?_cons_zero, List.getElem?_cons_succ, List.set_cons_zero, List.set_cons_succ, Option.bind_some, Option.bind_none, Option.map_some, Option.map_none, if_true, if_false, ite_true, ite_false, Bool.not_true, Bool.not_false, Bool.and_true, Bool.true_and, Bool.and_self, Bool.false_and, Bool.and_false, Bool.or_true, Bool.true_or, Bool.or_false, Bool.false_or, decide_true, decide_false, eq_self_iff_true, and_self, true_and, and_true, List.all_cons, List.all_nil, Nat.lt_add_one, Nat.reduceLT, Nat.reduceLeDiff, Nat.zero_lt_succ, gFor, iLst, Pyd.iTup, Pyd.iAny, Option.some_inj, reduceCtorEq, Bool.false_eq_true, beq_self_eq_true, id_eq, Nat.le_refl, Nat.zero_le, Int.reduceBEq, Int.reduceEq, Int.reduceLT, Int.reduceLE, Int.reduceAdd, Int.reduceSub, Int.reduceMul, Int.reduceNeg, ↓reduceIte, Int.reduceToNat, sLc, Int.toNat_zero, Int.toNat_one, List.getElem?_nil, Int.cast_ofNat_Int, Int.natCast_add, wipeE, backE, tYs, sAdd, oAdd, sSl, oSl, pNo, pPart, decide_eq_true_eq, Bool.not_eq_true', decide_not, bne, Int.add_sub_cancel, Int.sub_add_cancel, Int.reducePow, gCnt, Int.reduceGT, Int.reduceGE, Int.reduceNe, ne_eq, not_true_eq_false, not_false_eq_true, String.reduceEq, String.reduceBEq, Bool.or_self, oMul_r, oMul_l, oDivA_pos, oModA_pos, oPow_10_30, oPow_10_60, oPow_10_4, cut_63, cut_40, cut_60, fzns_ints, Int.reduceAbs, Nat.reducePow, List.length_map, List.length_take, atI_0, atI_1, atI_2, atI_3, atI_4, atI_5, Pyd.iRng1, Pyd.iRng2, Int.toNat_natCast, sIsE, oIsE, gTry, oIsT, Bool.false_beq, Bool.true_beq, lk, lkA, List.mem_cons, List.not_mem_nil, or_false, false_or, or_true, true_or, ne_NoFraction__NoStrength, ne_NoStrength__NoFraction, sMake, sMakeB, gFld, putN, putV, oFld, lookD, sMeth, oIsI, oInT, intsD, gClr, sLcB, semI, outI, fz_kD, fz_fD]
theorem loop_both {D : Nat} (hD : D ≤ 2 ^ 300) : ∀ (l acc : AD) (C : Nat) (P Q p2 p3 : Option Dv), Aok LL C acc → Nn acc → Nn l → (∀ e ∈ l, e.1.length = 3 ∧ Fok LL D e.2) → C + l.length * D ≤ 2 ^ 300 → acc.length + l.length < 900000 →
    ∃ p2' p3', forL (Pyd.kTup 2 (kCons (kName 3) (kCons (kName 4) kNil))) b_law_both_1 (l.map eD) [P, Q, some (dD acc), p2, p3] = .nx [P, Q, some (dD (l.foldl Pyd.st acc)), p2', p3']
  | [], acc, C, P, Q, p2, p3, _, _, _, _, _, _ => ⟨p2, p3, rfl⟩
  | e :: l, acc, C, P, Q, p2, p3, h, na, nl, hl, hC, hz => by
    rw [List.length_cons] at hC hz
    have he := hl e (.head _)
    have hC1 : C ≤ 2 ^ 300 := by omega
    have s1 := step_both (P := P) (Q := Q) h na he.2 (nl e (.head _)) (k := e.1) hC1 hD (by omega)
    have ln : (Pyd.st acc e).length ≤ acc.length + 1 := upA_len
    obtain ⟨p2', p3', r⟩ := loop_both hD l (Pyd.st acc e) (C + D) P Q (some (kD e.1)) (some (fD e.2)) (st_ok h he.2 he.1) (st_nn na h he.2.p (nl e (.head _))) (fun x hx => nl x (.tail _ hx)) (fun x hx => hl x (.tail _ hx)) (by rw [Nat.add_mul] at hC; omega) (by omega)
    refine ⟨p2', p3', ?_⟩
    rw [List.map_cons, forL, tg_both]
    simp only [s1]
    exact r
theorem e_law_both {D : Nat} {o o' : Bool} {a b : AD} (hD : D ≤ 2 ^ 280) (ha : ∀ e ∈ a, e.1.length = 3 ∧ Fok LL D e.2) (hb : ∀ e ∈ b, e.1.length = 3 ∧ Fok LL D e.2) (na : Nn a) (nb : Nn b) (hz : a.length + b.length ≤ 1000) : s_law_both [.lst o (a.map eD), .lst o' (b.map eD)] = .ok (.lst false ((srtA ((a ++ b).foldl Pyd.st [])).map eD)) := by
  have hl : ∀ e ∈ a ++ b, e.1.length = 3 ∧ Fok LL D e.2 := fun e he => by rcases List.mem_append.mp he with z | z; exact ha e z; exact hb e z
  have nl : Nn (a ++ b) := fun e he => by rcases List.mem_append.mp he with z | z; exact na e z; exact nb e z
  have hz' : (a ++ b).length ≤ 1000 := by rw [List.length_append]; exact hz
  have hm : (a ++ b).length * D ≤ 2 ^ 290 := by
    calc (a ++ b).length * D ≤ 2 ^ 10 * 2 ^ 280 := Nat.mul_le_mul (by omega) hD
      _ = 2 ^ 290 := by rw [← Nat.pow_add]
  have h300 : (2 : Nat) ^ 290 ≤ 2 ^ 300 := Nat.pow_le_pow_right (by decide) (by decide)
  have h280 : (2 : Nat) ^ 280 ≤ 2 ^ 300 := Nat.pow_le_pow_right (by decide) (by decide)
  obtain ⟨p2, p3, lp⟩ := loop_both (D := D) (by omega) (a ++ b) [] 0 (some (.lst false (a.map eD))) (some (.lst false (b.map eD))) none none nil_ok (fun _ z => nomatch z) nl hl (by omega) (by show 0 + _ < _; omega)
  have ok := fold_ok (a ++ b) [] (nil_ok (L := LL)) hl
  have fl := fold_len (a ++ b) []
  obtain ⟨ρ', cm⟩ := comp_dD (i := 2) (j := 3) (ρ := [some (.lst false (a.map eD)), some (.lst false (b.map eD)), some (dD ((a ++ b).foldl Pyd.st [])), p2, p3]) (by decide) (by simp only [List.length_cons, List.length_nil]; decide) rfl ok.k ok.n (by have : ([] : AD).length = 0 := rfl; omega)
  have cm' : c_law_both_1 [some (.lst false (a.map eD)), some (.lst false (b.map eD)), some (dD ((a ++ b).foldl Pyd.st [])), p2, p3] = .ok (.lst true ((srtA ((a ++ b).foldl Pyd.st [])).map eD)) ρ' := cm
  have h6 : a.length + b.length ≤ 1000000 := by omega
  have ap : fzs (a.map eD) ++ fzs (b.map eD) = (a ++ b).map eD := by rw [fzs_eD, fzs_eD, List.map_append]
  have ap1 : a.map eD ++ b.map eD = (a ++ b).map eD := by rw [List.map_append]
  unfold s_law_both sem_law_both g_law_both
  simp only [semB, List.map_cons, List.map_nil, List.length_cons, List.length_nil, List.replicate, List.cons_append, List.nil_append, Nat.reduceAdd, Nat.reduceSub, Nat.zero_add, gSeq, gNx, bndS, gSet, gDrop, gRet, gRetN, gIf, gBrk, gRaise, gAsg, gPar, Rs.bnd, Rz.to, pVar, pC, pBin, pUn, Pyd.o2, pChain, pA0, pA1, pCall, sP, sVar, sC, sA0, sA1, sTup, sLst, sBin, sFz, sCallB, sCallN, tP, tE, tNt, tAn, tOrr, sAnd, sOr, sNot, sIf, kName, kNil, kCons, Pyd.kTup, oI, oAddS, oAddI, oSub, oXor, oLt, oLe, oGt, oGe, oNeg, oIx, cLen, cAbs, cAll, cAny, bls, cMax2, cMin2, cInt, fz, fzs, fzn, fzns, dEq_int, dEq_str, dEq_bl, dEq_non, dEq_tup, dEq_lst, dEqs_nil, dEqs_cons, dEqs_n1, dEqs_n2, dok, oEq, oNe, oIsN, oNotN, oIsB, tyD, isB, List.getElem?_cons_zero, List.getElem?_cons_succ, List.set_cons_zero, List.set_cons_succ, Option.bind_some, Option.bind_none, Option.map_some, Option.map_none, if_true, if_false, ite_true, ite_false, Bool.not_true, Bool.not_false, Bool.and_true, Bool.true_and, Bool.and_self, Bool.false_and, Bool.and_false, Bool.or_true, Bool.true_or, Bool.or_false, Bool.false_or, decide_true, decide_false, eq_self_iff_true, and_self, true_and, and_true, List.all_cons, List.all_nil, Nat.lt_add_one, Nat.reduceLT, Nat.reduceLeDiff, Nat.zero_lt_succ, gFor, iLst, Pyd.iTup, Pyd.iAny, Option.some_inj, reduceCtorEq, Bool.false_eq_true, beq_self_eq_true, id_eq, Nat.le_refl, Nat.zero_le, Int.reduceBEq, Int.reduceEq, Int.reduceLT, Int.reduceLE, Int.reduceAdd, Int.reduceSub, Int.reduceMul, Int.reduceNeg, ↓reduceIte, Int.reduceToNat, sLc, Int.toNat_zero, Int.toNat_one, List.getElem?_nil, Int.cast_ofNat_Int, Int.natCast_add, wipeE, backE, tYs, sAdd, oAdd, sSl, oSl, pNo, pPart, decide_eq_true_eq, Bool.not_eq_true', decide_not, bne, Int.add_sub_cancel, Int.sub_add_cancel, Int.reducePow, gCnt, Int.reduceGT, Int.reduceGE, Int.reduceNe, ne_eq, not_true_eq_false, not_false_eq_true, String.reduceEq, String.reduceBEq, Bool.or_self, oMul_r, oMul_l, oDivA_pos, oModA_pos, oPow_10_30, oPow_10_60, oPow_10_4, cut_63, cut_40, cut_60, fzns_ints, Int.reduceAbs, Nat.reducePow, List.length_map, List.length_take, atI_0, atI_1, atI_2, atI_3, atI_4, atI_5, Pyd.iRng1, Pyd.iRng2, Int.toNat_natCast, sIsE, oIsE, gTry, oIsT, Bool.false_beq, Bool.true_beq, lk, lkA, List.mem_cons, List.not_mem_nil, or_false, false_or, or_true, true_or, ne_NoFraction__NoStrength, ne_NoStrength__NoFraction, sMake, sMakeB, gFld, putN, putV, oFld, lookD, sMeth, oIsI, oInT, intsD, gClr, sLcB, semI, outI, sDctT, dD_nil, fzns_eD, fzs_eD, h6, ap1, lp, cm', true_and]
/-- a light: sorted, each pass once, strengths above 0 -/
structure Lt (l : AD) : Prop where
  n : (l.map (·.1)).Nodup
  s : l.Pairwise fun x y => lexI y.1 x.1 = false
  k : ∀ e ∈ l, e.1.length = 3
  f : ∀ e ∈ l, Str1 e.2
structure La (l : AD) : Prop where
  n : (l.map (·.1)).Nodup
  k : ∀ e ∈ l, e.1.length = 3
  f : ∀ e ∈ l, Str1 e.2
theorem srt_lt {l : AD} (h : La l) : Lt (srtA l) := by
  have p := srtA_perm l
  exact ⟨(p.map (·.1)).nodup_iff.mpr h.n, srtA_srt l, fun e he => h.k e (p.mem_iff.mp he), fun e he => h.f e (p.mem_iff.mp he)⟩
theorem Lt.ok {l : AD} (h : Lt l) : ∀ e ∈ l, e.1.length = 3 ∧ Fok LL (10 ^ 30) e.2 := fun e he => ⟨h.k e he, (h.f e he).f⟩
theorem Lt.nn {l : AD} (h : Lt l) : Nn l := fun e he => by have := (h.f e he).p; omega
theorem upA_la {acc : AD} {k : List Int} {v : Fq} (h : La acc) (hk : k.length = 3) (hv : Str1 v) : La (upA k v acc) := by
  refine ⟨nodup_upA h.n, fun e he => ?_, fun e he => ?_⟩
  · rcases upA_mem he with z | z
    · rw [z]; exact hk
    · exact h.k e z
  · rcases upA_mem he with z | z
    · rw [z]; exact hv
    · exact h.f e z
theorem step_light {acc : AD} {P q : Option Dv} {c : Int} (h : La acc) (hz : acc.length < 900000) : ∃ acc', La acc' ∧ acc'.length ≤ acc.length + 1 ∧ b_law_light_1 [P, some (dD acc), some (.int c), q] = .nx [P, some (dD acc'), some (.int c), q] := by
  obtain ⟨k, hk, ek⟩ := e_pass c
  obtain ⟨v, hv, ev⟩ := e_strength (c / 3)
  refine ⟨upA k v acc, upA_la h hk hv, upA_len, ?_⟩
  have hf : fz (kD k) = kD k := fz_kD k
  have g := gDPutE_dD (i := 1) (fk := sCallN 1 s_law_pass (sA1 (sVar 2) sA0)) (fv := sCallN 1 s_law_strength (sA1 (sP (pBin oDivA (pVar 2) (pC (.int 3)))) sA0)) (ρ := [P, some (dD acc), some (.int c), q]) (ρ1 := [P, some (dD acc), some (.int c), q]) (ρ2 := [P, some (dD acc), some (.int c), q]) (l := acc) (k := k) (v := v) (x := dD acc) (by simp only [semB, List.map_cons, List.map_nil, List.length_cons, List.length_nil, List.replicate, List.cons_append, List.nil_append, Nat.reduceAdd, Nat.reduceSub, Nat.zero_add, gSeq, gNx, bndS, gSet, gDrop, gRet, gRetN, gIf, gBrk, gRaise, gAsg, gPar, Rs.bnd, Rz.to, pVar, pC, pBin, pUn, Pyd.o2, pChain, pA0, pA1, pCall, sP, sVar, sC, sA0, sA1, sTup, sLst, sBin, sFz, sCallB, sCallN, tP, tE, tNt, tAn, tOrr, sAnd, sOr, sNot, sIf, kName, kNil, kCons, Pyd.kTup, oI, oAddS, oAddI, oSub, oXor, oLt, oLe, oGt, oGe, oNeg, oIx, cLen, cAbs, cAll, cAny, bls, cMax2, cMin2, cInt, fz, fzs, fzn, fzns, dEq_int, dEq_str, dEq_bl, dEq_non, dEq_tup, dEq_lst, dEqs_nil, dEqs_cons, dEqs_n1, dEqs_n2, dok, oEq, oNe, oIsN, oNotN, oIsB, tyD, isB, List.getElem?_cons_zero, List.getElem?_cons_succ, List.set_cons_zero, List.set_cons_succ, Option.bind_some, Option.bind_none, Option.map_some, Option.map_none, if_true, if_false, ite_true, ite_false, Bool.not_true, Bool.not_false, Bool.and_true, Bool.true_and, Bool.and_self, Bool.false_and, Bool.and_false, Bool.or_true, Bool.true_or, Bool.or_false, Bool.false_or, decide_true, decide_false, eq_self_iff_true, and_self, true_and, and_true, List.all_cons, List.all_nil, Nat.lt_add_one, Nat.reduceLT, Nat.reduceLeDiff, Nat.zero_lt_succ, gFor, iLst, Pyd.iTup, Pyd.iAny, Option.some_inj, reduceCtorEq, Bool.false_eq_true, beq_self_eq_true, id_eq, Nat.le_refl, Nat.zero_le, Int.reduceBEq, Int.reduceEq, Int.reduceLT, Int.reduceLE, Int.reduceAdd, Int.reduceSub, Int.reduceMul, Int.reduceNeg, ↓reduceIte, Int.reduceToNat, sLc, Int.toNat_zero, Int.toNat_one, List.getElem?_nil, Int.cast_ofNat_Int, Int.natCast_add, wipeE, backE, tYs, sAdd, oAdd, sSl, oSl, pNo, pPart, decide_eq_true_eq, Bool.not_eq_true', decide_not, bne, Int.add_sub_cancel, Int.sub_add_cancel, Int.reducePow, gCnt, Int.reduceGT, Int.reduceGE, Int.reduceNe, ne_eq, not_true_eq_false, not_false_eq_true, String.reduceEq, String.reduceBEq, Bool.or_self, oMul_r, oMul_l, oDivA_pos, oModA_pos, oPow_10_30, oPow_10_60, oPow_10_4, cut_63, cut_40, cut_60, fzns_ints, Int.reduceAbs, Nat.reducePow, List.length_map, List.length_take, atI_0, atI_1, atI_2, atI_3, atI_4, atI_5, Pyd.iRng1, Pyd.iRng2, Int.toNat_natCast, sIsE, oIsE, gTry, oIsT, Bool.false_beq, Bool.true_beq, lk, lkA, List.mem_cons, List.not_mem_nil, or_false, false_or, or_true, true_or, ne_NoFraction__NoStrength, ne_NoStrength__NoFraction, sMake, sMakeB, gFld, putN, putV, oFld, lookD, sMeth, oIsI, oInT, intsD, gClr, sLcB, semI, outI, ev, fz_fD]) rfl (by simp only [semB, List.map_cons, List.map_nil, List.length_cons, List.length_nil, List.replicate, List.cons_append, List.nil_append, Nat.reduceAdd, Nat.reduceSub, Nat.zero_add, gSeq, gNx, bndS, gSet, gDrop, gRet, gRetN, gIf, gBrk, gRaise, gAsg, gPar, Rs.bnd, Rz.to, pVar, pC, pBin, pUn, Pyd.o2, pChain, pA0, pA1, pCall, sP, sVar, sC, sA0, sA1, sTup, sLst, sBin, sFz, sCallB, sCallN, tP, tE, tNt, tAn, tOrr, sAnd, sOr, sNot, sIf, kName, kNil, kCons, Pyd.kTup, oI, oAddS, oAddI, oSub, oXor, oLt, oLe, oGt, oGe, oNeg, oIx, cLen, cAbs, cAll, cAny, bls, cMax2, cMin2, cInt, fz, fzs, fzn, fzns, dEq_int, dEq_str, dEq_bl, dEq_non, dEq_tup, dEq_lst, dEqs_nil, dEqs_cons, dEqs_n1, dEqs_n2, dok, oEq, oNe, oIsN, oNotN, oIsB, tyD, isB, List.getElem?_cons_zero, List.getElem?_cons_succ, List.set_cons_zero, List.set_cons_succ, Option.bind_some, Option.bind_none, Option.map_some, Option.map_none, if_true, if_false, ite_true, ite_false, Bool.not_true, Bool.not_false, Bool.and_true, Bool.true_and, Bool.and_self, Bool.false_and, Bool.and_false, Bool.or_true, Bool.true_or, Bool.or_false, Bool.false_or, decide_true, decide_false, eq_self_iff_true, and_self, true_and, and_true, List.all_cons, List.all_nil, Nat.lt_add_one, Nat.reduceLT, Nat.reduceLeDiff, Nat.zero_lt_succ, gFor, iLst, Pyd.iTup, Pyd.iAny, Option.some_inj, reduceCtorEq, Bool.false_eq_true, beq_self_eq_true, id_eq, Nat.le_refl, Nat.zero_le, Int.reduceBEq, Int.reduceEq, Int.reduceLT, Int.reduceLE, Int.reduceAdd, Int.reduceSub, Int.reduceMul, Int.reduceNeg, ↓reduceIte, Int.reduceToNat, sLc, Int.toNat_zero, Int.toNat_one, List.getElem?_nil, Int.cast_ofNat_Int, Int.natCast_add, wipeE, backE, tYs, sAdd, oAdd, sSl, oSl, pNo, pPart, decide_eq_true_eq, Bool.not_eq_true', decide_not, bne, Int.add_sub_cancel, Int.sub_add_cancel, Int.reducePow, gCnt, Int.reduceGT, Int.reduceGE, Int.reduceNe, ne_eq, not_true_eq_false, not_false_eq_true, String.reduceEq, String.reduceBEq, Bool.or_self, oMul_r, oMul_l, oDivA_pos, oModA_pos, oPow_10_30, oPow_10_60, oPow_10_4, cut_63, cut_40, cut_60, fzns_ints, Int.reduceAbs, Nat.reducePow, List.length_map, List.length_take, atI_0, atI_1, atI_2, atI_3, atI_4, atI_5, Pyd.iRng1, Pyd.iRng2, Int.toNat_natCast, sIsE, oIsE, gTry, oIsT, Bool.false_beq, Bool.true_beq, lk, lkA, List.mem_cons, List.not_mem_nil, or_false, false_or, or_true, true_or, ne_NoFraction__NoStrength, ne_NoStrength__NoFraction, sMake, sMakeB, gFld, putN, putV, oFld, lookD, sMeth, oIsI, oInT, intsD, gClr, sLcB, semI, outI, ek, hf]) rfl h.n hz
  unfold b_law_light_1
  rw [g]
  rfl
theorem loop_light : ∀ (cs : List Int) (acc : AD) (P p2 q : Option Dv), La acc → acc.length + cs.length < 900000 →
    ∃ acc' p2', La acc' ∧ acc'.length ≤ acc.length + cs.length ∧ forL (kName 2) b_law_light_1 (cs.map .int) [P, some (dD acc), p2, q] = .nx [P, some (dD acc'), p2', q]
  | [], acc, P, p2, q, h, _ => ⟨acc, p2, h, Nat.le_refl _, rfl⟩
  | c :: cs, acc, P, p2, q, h, hz => by
    rw [List.length_cons] at hz
    obtain ⟨a1, h1, l1, s1⟩ := step_light (P := P) (q := q) (c := c) h (by omega)
    obtain ⟨a2, p2', h2, l2, s2⟩ := loop_light cs a1 P (some (.int c)) q h1 (by omega)
    refine ⟨a2, p2', h2, by rw [List.length_cons]; omega, ?_⟩
    have t : kName 2 (.int c) [P, some (dD acc), p2, q] = some [P, some (dD acc), some (.int c), q] := by simp only [semB, List.map_cons, List.map_nil, List.length_cons, List.length_nil, List.replicate, List.cons_append, List.nil_append, Nat.reduceAdd, Nat.reduceSub, Nat.zero_add, gSeq, gNx, bndS, gSet, gDrop, gRet, gRetN, gIf, gBrk, gRaise, gAsg, gPar, Rs.bnd, Rz.to, pVar, pC, pBin, pUn, Pyd.o2, pChain, pA0, pA1, pCall, sP, sVar, sC, sA0, sA1, sTup, sLst, sBin, sFz, sCallB, sCallN, tP, tE, tNt, tAn, tOrr, sAnd, sOr, sNot, sIf, kName, kNil, kCons, Pyd.kTup, oI, oAddS, oAddI, oSub, oXor, oLt, oLe, oGt, oGe, oNeg, oIx, cLen, cAbs, cAll, cAny, bls, cMax2, cMin2, cInt, fz, fzs, fzn, fzns, dEq_int, dEq_str, dEq_bl, dEq_non, dEq_tup, dEq_lst, dEqs_nil, dEqs_cons, dEqs_n1, dEqs_n2, dok, oEq, oNe, oIsN, oNotN, oIsB, tyD, isB, List.getElem?_cons_zero, List.getElem?_cons_succ, List.set_cons_zero, List.set_cons_succ, Option.bind_some, Option.bind_none, Option.map_some, Option.map_none, if_true, if_false, ite_true, ite_false, Bool.not_true, Bool.not_false, Bool.and_true, Bool.true_and, Bool.and_self, Bool.false_and, Bool.and_false, Bool.or_true, Bool.true_or, Bool.or_false, Bool.false_or, decide_true, decide_false, eq_self_iff_true, and_self, true_and, and_true, List.all_cons, List.all_nil, Nat.lt_add_one, Nat.reduceLT, Nat.reduceLeDiff, Nat.zero_lt_succ, gFor, iLst, Pyd.iTup, Pyd.iAny, Option.some_inj, reduceCtorEq, Bool.false_eq_true, beq_self_eq_true, id_eq, Nat.le_refl, Nat.zero_le, Int.reduceBEq, Int.reduceEq, Int.reduceLT, Int.reduceLE, Int.reduceAdd, Int.reduceSub, Int.reduceMul, Int.reduceNeg, ↓reduceIte, Int.reduceToNat, sLc, Int.toNat_zero, Int.toNat_one, List.getElem?_nil, Int.cast_ofNat_Int, Int.natCast_add, wipeE, backE, tYs, sAdd, oAdd, sSl, oSl, pNo, pPart, decide_eq_true_eq, Bool.not_eq_true', decide_not, bne, Int.add_sub_cancel, Int.sub_add_cancel, Int.reducePow, gCnt, Int.reduceGT, Int.reduceGE, Int.reduceNe, ne_eq, not_true_eq_false, not_false_eq_true, String.reduceEq, String.reduceBEq, Bool.or_self, oMul_r, oMul_l, oDivA_pos, oModA_pos, oPow_10_30, oPow_10_60, oPow_10_4, cut_63, cut_40, cut_60, fzns_ints, Int.reduceAbs, Nat.reducePow, List.length_map, List.length_take, atI_0, atI_1, atI_2, atI_3, atI_4, atI_5, Pyd.iRng1, Pyd.iRng2, Int.toNat_natCast, sIsE, oIsE, gTry, oIsT, Bool.false_beq, Bool.true_beq, lk, lkA, List.mem_cons, List.not_mem_nil, or_false, false_or, or_true, true_or, ne_NoFraction__NoStrength, ne_NoStrength__NoFraction, sMake, sMakeB, gFld, putN, putV, oFld, lookD, sMeth, oIsI, oInT, intsD, gClr, sLcB, semI, outI]
    rw [List.map_cons, forL, t]
    simp only [s1]
    exact s2
theorem e_law_light {o : Bool} (cs : List Int) (hz : cs.length ≤ 400) : ∃ l, Lt l ∧ l.length ≤ cs.length ∧ s_law_light [.lst o (cs.map .int)] = .ok (.lst false (l.map eD)) := by
  obtain ⟨acc, p2, ha, la, lp⟩ := loop_light cs [] (some (.lst false (cs.map .int))) none none ⟨List.nodup_nil, (fun _ z => nomatch z), fun _ z => nomatch z⟩ (by show 0 + _ < _; omega)
  have la' : acc.length ≤ cs.length := by have : ([] : AD).length = 0 := rfl; omega
  refine ⟨srtA acc, srt_lt ha, by rw [(srtA_perm acc).length_eq]; exact la', ?_⟩
  obtain ⟨ρ', cm⟩ := comp_dD (i := 1) (j := 3) (ρ := [some (.lst false (cs.map .int)), some (dD acc), p2, none]) (by decide) (by simp only [List.length_cons, List.length_nil]; decide) rfl ha.k ha.n (by omega)
  have cm' : c_law_light_1 [some (.lst false (cs.map .int)), some (dD acc), p2, none] = .ok (.lst true ((srtA acc).map eD)) ρ' := cm
  have fi : fzs (cs.map .int) = cs.map .int := fzs_id _ (fzns_ints cs)
  unfold s_law_light sem_law_light g_law_light
  simp only [semB, List.map_cons, List.map_nil, List.length_cons, List.length_nil, List.replicate, List.cons_append, List.nil_append, Nat.reduceAdd, Nat.reduceSub, Nat.zero_add, gSeq, gNx, bndS, gSet, gDrop, gRet, gRetN, gIf, gBrk, gRaise, gAsg, gPar, Rs.bnd, Rz.to, pVar, pC, pBin, pUn, Pyd.o2, pChain, pA0, pA1, pCall, sP, sVar, sC, sA0, sA1, sTup, sLst, sBin, sFz, sCallB, sCallN, tP, tE, tNt, tAn, tOrr, sAnd, sOr, sNot, sIf, kName, kNil, kCons, Pyd.kTup, oI, oAddS, oAddI, oSub, oXor, oLt, oLe, oGt, oGe, oNeg, oIx, cLen, cAbs, cAll, cAny, bls, cMax2, cMin2, cInt, fz, fzs, fzn, fzns, dEq_int, dEq_str, dEq_bl, dEq_non, dEq_tup, dEq_lst, dEqs_nil, dEqs_cons, dEqs_n1, dEqs_n2, dok, oEq, oNe, oIsN, oNotN, oIsB, tyD, isB, List.getElem?_cons_zero, List.getElem?_cons_succ, List.set_cons_zero, List.set_cons_succ, Option.bind_some, Option.bind_none, Option.map_some, Option.map_none, if_true, if_false, ite_true, ite_false, Bool.not_true, Bool.not_false, Bool.and_true, Bool.true_and, Bool.and_self, Bool.false_and, Bool.and_false, Bool.or_true, Bool.true_or, Bool.or_false, Bool.false_or, decide_true, decide_false, eq_self_iff_true, and_self, true_and, and_true, List.all_cons, List.all_nil, Nat.lt_add_one, Nat.reduceLT, Nat.reduceLeDiff, Nat.zero_lt_succ, gFor, iLst, Pyd.iTup, Pyd.iAny, Option.some_inj, reduceCtorEq, Bool.false_eq_true, beq_self_eq_true, id_eq, Nat.le_refl, Nat.zero_le, Int.reduceBEq, Int.reduceEq, Int.reduceLT, Int.reduceLE, Int.reduceAdd, Int.reduceSub, Int.reduceMul, Int.reduceNeg, ↓reduceIte, Int.reduceToNat, sLc, Int.toNat_zero, Int.toNat_one, List.getElem?_nil, Int.cast_ofNat_Int, Int.natCast_add, wipeE, backE, tYs, sAdd, oAdd, sSl, oSl, pNo, pPart, decide_eq_true_eq, Bool.not_eq_true', decide_not, bne, Int.add_sub_cancel, Int.sub_add_cancel, Int.reducePow, gCnt, Int.reduceGT, Int.reduceGE, Int.reduceNe, ne_eq, not_true_eq_false, not_false_eq_true, String.reduceEq, String.reduceBEq, Bool.or_self, oMul_r, oMul_l, oDivA_pos, oModA_pos, oPow_10_30, oPow_10_60, oPow_10_4, cut_63, cut_40, cut_60, fzns_ints, Int.reduceAbs, Nat.reducePow, List.length_map, List.length_take, atI_0, atI_1, atI_2, atI_3, atI_4, atI_5, Pyd.iRng1, Pyd.iRng2, Int.toNat_natCast, sIsE, oIsE, gTry, oIsT, Bool.false_beq, Bool.true_beq, lk, lkA, List.mem_cons, List.not_mem_nil, or_false, false_or, or_true, true_or, ne_NoFraction__NoStrength, ne_NoStrength__NoFraction, sMake, sMakeB, gFld, putN, putV, oFld, lookD, sMeth, oIsI, oInT, intsD, gClr, sLcB, semI, outI, sDctT, dD_nil, fi, fzs_eD, lp, cm']
/-! ### scaled -/
theorem e_times {A B : Int} {C D : Nat} {x y : Fq} (hx : Fok A C x) (hy : Fok B D y) (hA : 0 < A) (hB : 0 < B) (mA : A.natAbs < 2 ^ 300) (mB : B.natAbs < 2 ^ 300) (hC : C ≤ 2 ^ 300) (hD : D ≤ 2 ^ 300) : s_times [fD x, fD y] = .ok (fD (tm x y)) := by
  obtain ⟨a1, a2⟩ := fok_z hx hA mA hC
  obtain ⟨b1, b2⟩ := fok_z hy hB mB hD
  have p1 := hx.p
  have p2 := hy.p
  have hb : x.2 * y.2 ≠ 0 := Int.mul_ne_zero (by omega) (by omega)
  have hz : (x.2 * y.2).natAbs < 2 ^ 8000 := Nat.lt_of_lt_of_le (mul_lt a2 b2) (Nat.pow_le_pow_right (by decide) (by decide))
  have e : s_times [fD x, fD y] = s_fraction [.int (x.1 * y.1), .int (x.2 * y.2)] := if_pos ⟨up4 a1 (by decide), up4 a2 (by decide), up4 b1 (by decide), up4 b2 (by decide)⟩
  rw [e]
  unfold s_fraction
  simp only []
  rw [if_neg hb, if_pos hz]
  rfl
theorem e_low_tm {A B : Int} {C D : Nat} {x y : Fq} (hx : Fok A C x) (hy : Fok B D y) (hA : 0 < A) (hB : 0 < B) (mA : A.natAbs < 2 ^ 300) (mB : B.natAbs < 2 ^ 300) (hC : C ≤ 2 ^ 300) (hD : D ≤ 2 ^ 300) (nx : 0 ≤ x.1) (ny : 0 ≤ y.1) : s_law_low [.int (x.1 * y.1), .int (x.2 * y.2)] = .ok (fD (tm x y)) := by
  obtain ⟨a1, a2⟩ := fok_z hx hA mA hC
  obtain ⟨b1, b2⟩ := fok_z hy hB mB hD
  have p1 := hx.p
  have p2 := hy.p
  have hb : 1 ≤ x.2 * y.2 := by have := Int.mul_pos (a := x.2) (b := y.2) (by omega) (by omega); omega
  have hz : (x.2 * y.2).natAbs < 2 ^ 8000 := Nat.lt_of_lt_of_le (mul_lt a2 b2) (Nat.pow_le_pow_right (by decide) (by decide))
  exact if_pos ⟨Int.mul_nonneg nx ny, hb, hz⟩
theorem e_under0 {t b : Int} (ht : t.natAbs < 2 ^ 4000) (hb : b.natAbs < 2 ^ 4000) : s_under [k_NONE, .tup true [.int t, .int b]] = .ok (.bl (decide (0 < t))) := by
  have e : s_under [k_NONE, .tup true [.int t, .int b]] = .ok (.bl (decide (0 * b < t * 1))) := if_pos ⟨by decide, by decide, ht, hb⟩
  rw [e, Int.zero_mul, Int.mul_one]
theorem e_need {t b : Int} (ht : t.natAbs < 2 ^ 4000) (hb : b.natAbs < 2 ^ 4000) : s_need_strength [.tup true [.int t, .int b]] = if 0 < t then .ok .non else .err ⟨"NoStrength", none⟩ := by
  have e := e_under0 ht hb
  rw [k_NONE] at e
  unfold s_need_strength sem_need_strength g_need_strength
  by_cases h : 0 < t
  · simp only [semB, List.map_cons, List.map_nil, List.length_cons, List.length_nil, List.replicate, List.cons_append, List.nil_append, Nat.reduceAdd, Nat.reduceSub, Nat.zero_add, gSeq, gNx, bndS, gSet, gDrop, gRet, gRetN, gIf, gBrk, gRaise, gAsg, gPar, Rs.bnd, Rz.to, pVar, pC, pBin, pUn, Pyd.o2, pChain, pA0, pA1, pCall, sP, sVar, sC, sA0, sA1, sTup, sLst, sBin, sFz, sCallB, sCallN, tP, tE, tNt, tAn, tOrr, sAnd, sOr, sNot, sIf, kName, kNil, kCons, Pyd.kTup, oI, oAddS, oAddI, oSub, oXor, oLt, oLe, oGt, oGe, oNeg, oIx, cLen, cAbs, cAll, cAny, bls, cMax2, cMin2, cInt, fz, fzs, fzn, fzns, dEq_int, dEq_str, dEq_bl, dEq_non, dEq_tup, dEq_lst, dEqs_nil, dEqs_cons, dEqs_n1, dEqs_n2, dok, oEq, oNe, oIsN, oNotN, oIsB, tyD, isB, List.getElem?_cons_zero, List.getElem?_cons_succ, List.set_cons_zero, List.set_cons_succ, Option.bind_some, Option.bind_none, Option.map_some, Option.map_none, if_true, if_false, ite_true, ite_false, Bool.not_true, Bool.not_false, Bool.and_true, Bool.true_and, Bool.and_self, Bool.false_and, Bool.and_false, Bool.or_true, Bool.true_or, Bool.or_false, Bool.false_or, decide_true, decide_false, eq_self_iff_true, and_self, true_and, and_true, List.all_cons, List.all_nil, Nat.lt_add_one, Nat.reduceLT, Nat.reduceLeDiff, Nat.zero_lt_succ, gFor, iLst, Pyd.iTup, Pyd.iAny, Option.some_inj, reduceCtorEq, Bool.false_eq_true, beq_self_eq_true, id_eq, Nat.le_refl, Nat.zero_le, Int.reduceBEq, Int.reduceEq, Int.reduceLT, Int.reduceLE, Int.reduceAdd, Int.reduceSub, Int.reduceMul, Int.reduceNeg, ↓reduceIte, Int.reduceToNat, sLc, Int.toNat_zero, Int.toNat_one, List.getElem?_nil, Int.cast_ofNat_Int, Int.natCast_add, wipeE, backE, tYs, sAdd, oAdd, sSl, oSl, pNo, pPart, decide_eq_true_eq, Bool.not_eq_true', decide_not, bne, Int.add_sub_cancel, Int.sub_add_cancel, Int.reducePow, gCnt, Int.reduceGT, Int.reduceGE, Int.reduceNe, ne_eq, not_true_eq_false, not_false_eq_true, String.reduceEq, String.reduceBEq, Bool.or_self, oMul_r, oMul_l, oDivA_pos, oModA_pos, oPow_10_30, oPow_10_60, oPow_10_4, cut_63, cut_40, cut_60, fzns_ints, Int.reduceAbs, Nat.reducePow, List.length_map, List.length_take, atI_0, atI_1, atI_2, atI_3, atI_4, atI_5, Pyd.iRng1, Pyd.iRng2, Int.toNat_natCast, sIsE, oIsE, gTry, oIsT, Bool.false_beq, Bool.true_beq, lk, lkA, List.mem_cons, List.not_mem_nil, or_false, false_or, or_true, true_or, ne_NoFraction__NoStrength, ne_NoStrength__NoFraction, sMake, sMakeB, gFld, putN, putV, oFld, lookD, sMeth, oIsI, oInT, intsD, gClr, sLcB, semI, outI, k_NONE, e, h]
  · simp only [semB, List.map_cons, List.map_nil, List.length_cons, List.length_nil, List.replicate, List.cons_append, List.nil_append, Nat.reduceAdd, Nat.reduceSub, Nat.zero_add, gSeq, gNx, bndS, gSet, gDrop, gRet, gRetN, gIf, gBrk, gRaise, gAsg, gPar, Rs.bnd, Rz.to, pVar, pC, pBin, pUn, Pyd.o2, pChain, pA0, pA1, pCall, sP, sVar, sC, sA0, sA1, sTup, sLst, sBin, sFz, sCallB, sCallN, tP, tE, tNt, tAn, tOrr, sAnd, sOr, sNot, sIf, kName, kNil, kCons, Pyd.kTup, oI, oAddS, oAddI, oSub, oXor, oLt, oLe, oGt, oGe, oNeg, oIx, cLen, cAbs, cAll, cAny, bls, cMax2, cMin2, cInt, fz, fzs, fzn, fzns, dEq_int, dEq_str, dEq_bl, dEq_non, dEq_tup, dEq_lst, dEqs_nil, dEqs_cons, dEqs_n1, dEqs_n2, dok, oEq, oNe, oIsN, oNotN, oIsB, tyD, isB, List.getElem?_cons_zero, List.getElem?_cons_succ, List.set_cons_zero, List.set_cons_succ, Option.bind_some, Option.bind_none, Option.map_some, Option.map_none, if_true, if_false, ite_true, ite_false, Bool.not_true, Bool.not_false, Bool.and_true, Bool.true_and, Bool.and_self, Bool.false_and, Bool.and_false, Bool.or_true, Bool.true_or, Bool.or_false, Bool.false_or, decide_true, decide_false, eq_self_iff_true, and_self, true_and, and_true, List.all_cons, List.all_nil, Nat.lt_add_one, Nat.reduceLT, Nat.reduceLeDiff, Nat.zero_lt_succ, gFor, iLst, Pyd.iTup, Pyd.iAny, Option.some_inj, reduceCtorEq, Bool.false_eq_true, beq_self_eq_true, id_eq, Nat.le_refl, Nat.zero_le, Int.reduceBEq, Int.reduceEq, Int.reduceLT, Int.reduceLE, Int.reduceAdd, Int.reduceSub, Int.reduceMul, Int.reduceNeg, ↓reduceIte, Int.reduceToNat, sLc, Int.toNat_zero, Int.toNat_one, List.getElem?_nil, Int.cast_ofNat_Int, Int.natCast_add, wipeE, backE, tYs, sAdd, oAdd, sSl, oSl, pNo, pPart, decide_eq_true_eq, Bool.not_eq_true', decide_not, bne, Int.add_sub_cancel, Int.sub_add_cancel, Int.reducePow, gCnt, Int.reduceGT, Int.reduceGE, Int.reduceNe, ne_eq, not_true_eq_false, not_false_eq_true, String.reduceEq, String.reduceBEq, Bool.or_self, oMul_r, oMul_l, oDivA_pos, oModA_pos, oPow_10_30, oPow_10_60, oPow_10_4, cut_63, cut_40, cut_60, fzns_ints, Int.reduceAbs, Nat.reducePow, List.length_map, List.length_take, atI_0, atI_1, atI_2, atI_3, atI_4, atI_5, Pyd.iRng1, Pyd.iRng2, Int.toNat_natCast, sIsE, oIsE, gTry, oIsT, Bool.false_beq, Bool.true_beq, lk, lkA, List.mem_cons, List.not_mem_nil, or_false, false_or, or_true, true_or, ne_NoFraction__NoStrength, ne_NoStrength__NoFraction, sMake, sMakeB, gFld, putN, putV, oFld, lookD, sMeth, oIsI, oInT, intsD, gClr, sLcB, semI, outI, k_NONE, e, h]
def scA (b : Fq) (l : AD) : AD := l.map fun e => (e.1, tm e.2 b)
theorem e_scaled {D : Nat} {o : Bool} {l : AD} {b : Fq} (hD : D ≤ 2 ^ 280) (hl : ∀ e ∈ l, e.1.length = 3 ∧ Fok LL D e.2) (hb : Str1 b) (hz : l.length ≤ 1000) : s_scaled [.lst o (l.map eD), fD b] = .ok (.lst true ((scA b l).map eD)) := by
  have h30 : (10 : Nat) ^ 30 ≤ 2 ^ 300 := Nat.le_trans (by decide : (10 : Nat) ^ 30 ≤ 2 ^ 100) (Nat.pow_le_pow_right (by decide) (by decide))
  have h280 : (2 : Nat) ^ 280 ≤ 2 ^ 300 := Nat.pow_le_pow_right (by decide) (by decide)
  have ll : LL.natAbs < 2 ^ 300 := Nat.lt_of_lt_of_le LL_lt (Nat.pow_le_pow_right (by decide) (by decide))
  obtain ⟨b1, b2⟩ := fok_z hb.f LL_pos ll h30
  have nd : s_need_strength [fD b] = .ok .non := by
    have := e_need (t := b.1) (b := b.2) (up4 b1 (by decide)) (up4 b2 (by decide))
    rw [if_pos hb.p] at this
    exact this
  have cm : ∃ ρ', c_scaled_1 [some (.lst o (l.map eD)), some (fD b), none, none] = .ok (.lst true ((scA b l).map eD)) ρ' := by
    have k := lcL_map (vs := [2, 3]) (gt := Pyd.kTup 2 (kCons (kName 2) (kCons (kName 3) kNil))) (ft := tYs) (fe := sTup true (sA1 (sVar 2) (sA1 (sCallN 2 s_times (sA1 (sVar 3) (sA1 (sVar 1) sA0))) sA0))) (fun d => match d with | .tup _ [k, .tup _ [.int x, .int y]] => .tup true [k, fD (tm (x, y) b)] | _ => .non) [some (.lst false (l.map eD)), some (fD b), none, none] (l.map eD) [] (fun d hd => by
      obtain ⟨e, he, rfl⟩ := List.mem_map.mp hd
      have h2 := hl e he
      have tq := e_times h2.2 hb.f LL_pos LL_pos ll ll (by omega) h30
      refine ⟨[some (.lst false (l.map eD)), some (fD b), some (kD e.1), some (fD e.2)], [some (.lst false (l.map eD)), some (fD b), some (kD e.1), some (fD e.2)], [some (.lst false (l.map eD)), some (fD b), some (kD e.1), some (fD e.2)], ?_, rfl, ?_, ?_⟩
      · unfold eD
        simp only [semB, List.map_cons, List.map_nil, List.length_cons, List.length_nil, List.replicate, List.cons_append, List.nil_append, Nat.reduceAdd, Nat.reduceSub, Nat.zero_add, gSeq, gNx, bndS, gSet, gDrop, gRet, gRetN, gIf, gBrk, gRaise, gAsg, gPar, Rs.bnd, Rz.to, pVar, pC, pBin, pUn, Pyd.o2, pChain, pA0, pA1, pCall, sP, sVar, sC, sA0, sA1, sTup, sLst, sBin, sFz, sCallB, sCallN, tP, tE, tNt, tAn, tOrr, sAnd, sOr, sNot, sIf, kName, kNil, kCons, Pyd.kTup, oI, oAddS, oAddI, oSub, oXor, oLt, oLe, oGt, oGe, oNeg, oIx, cLen, cAbs, cAll, cAny, bls, cMax2, cMin2, cInt, fz, fzs, fzn, fzns, dEq_int, dEq_str, dEq_bl, dEq_non, dEq_tup, dEq_lst, dEqs_nil, dEqs_cons, dEqs_n1, dEqs_n2, dok, oEq, oNe, oIsN, oNotN, oIsB, tyD, isB, List.getElem?_cons_zero, List.getElem?_cons_succ, List.set_cons_zero, List.set_cons_succ, Option.bind_some, Option.bind_none, Option.map_some, Option.map_none, if_true, if_false, ite_true, ite_false, Bool.not_true, Bool.not_false, Bool.and_true, Bool.true_and, Bool.and_self, Bool.false_and, Bool.and_false, Bool.or_true, Bool.true_or, Bool.or_false, Bool.false_or, decide_true, decide_false, eq_self_iff_true, and_self, true_and, and_true, List.all_cons, List.all_nil, Nat.lt_add_one, Nat.reduceLT, Nat.reduceLeDiff, Nat.zero_lt_succ, gFor, iLst, Pyd.iTup, Pyd.iAny, Option.some_inj, reduceCtorEq, Bool.false_eq_true, beq_self_eq_true, id_eq, Nat.le_refl, Nat.zero_le, Int.reduceBEq, Int.reduceEq, Int.reduceLT, Int.reduceLE, Int.reduceAdd, Int.reduceSub, Int.reduceMul, Int.reduceNeg, ↓reduceIte, Int.reduceToNat, sLc, Int.toNat_zero, Int.toNat_one, List.getElem?_nil, Int.cast_ofNat_Int, Int.natCast_add, wipeE, backE, tYs, sAdd, oAdd, sSl, oSl, pNo, pPart, decide_eq_true_eq, Bool.not_eq_true', decide_not, bne, Int.add_sub_cancel, Int.sub_add_cancel, Int.reducePow, gCnt, Int.reduceGT, Int.reduceGE, Int.reduceNe, ne_eq, not_true_eq_false, not_false_eq_true, String.reduceEq, String.reduceBEq, Bool.or_self, oMul_r, oMul_l, oDivA_pos, oModA_pos, oPow_10_30, oPow_10_60, oPow_10_4, cut_63, cut_40, cut_60, fzns_ints, Int.reduceAbs, Nat.reducePow, List.length_map, List.length_take, atI_0, atI_1, atI_2, atI_3, atI_4, atI_5, Pyd.iRng1, Pyd.iRng2, Int.toNat_natCast, sIsE, oIsE, gTry, oIsT, Bool.false_beq, Bool.true_beq, lk, lkA, List.mem_cons, List.not_mem_nil, or_false, false_or, or_true, true_or, ne_NoFraction__NoStrength, ne_NoStrength__NoFraction, sMake, sMakeB, gFld, putN, putV, oFld, lookD, sMeth, oIsI, oInT, intsD, gClr, sLcB, semI, outI, fz_kD, fz_fD]
      · simp only [semB, List.map_cons, List.map_nil, List.length_cons, List.length_nil, List.replicate, List.cons_append, List.nil_append, Nat.reduceAdd, Nat.reduceSub, Nat.zero_add, gSeq, gNx, bndS, gSet, gDrop, gRet, gRetN, gIf, gBrk, gRaise, gAsg, gPar, Rs.bnd, Rz.to, pVar, pC, pBin, pUn, Pyd.o2, pChain, pA0, pA1, pCall, sP, sVar, sC, sA0, sA1, sTup, sLst, sBin, sFz, sCallB, sCallN, tP, tE, tNt, tAn, tOrr, sAnd, sOr, sNot, sIf, kName, kNil, kCons, Pyd.kTup, oI, oAddS, oAddI, oSub, oXor, oLt, oLe, oGt, oGe, oNeg, oIx, cLen, cAbs, cAll, cAny, bls, cMax2, cMin2, cInt, fz, fzs, fzn, fzns, dEq_int, dEq_str, dEq_bl, dEq_non, dEq_tup, dEq_lst, dEqs_nil, dEqs_cons, dEqs_n1, dEqs_n2, dok, oEq, oNe, oIsN, oNotN, oIsB, tyD, isB, List.getElem?_cons_zero, List.getElem?_cons_succ, List.set_cons_zero, List.set_cons_succ, Option.bind_some, Option.bind_none, Option.map_some, Option.map_none, if_true, if_false, ite_true, ite_false, Bool.not_true, Bool.not_false, Bool.and_true, Bool.true_and, Bool.and_self, Bool.false_and, Bool.and_false, Bool.or_true, Bool.true_or, Bool.or_false, Bool.false_or, decide_true, decide_false, eq_self_iff_true, and_self, true_and, and_true, List.all_cons, List.all_nil, Nat.lt_add_one, Nat.reduceLT, Nat.reduceLeDiff, Nat.zero_lt_succ, gFor, iLst, Pyd.iTup, Pyd.iAny, Option.some_inj, reduceCtorEq, Bool.false_eq_true, beq_self_eq_true, id_eq, Nat.le_refl, Nat.zero_le, Int.reduceBEq, Int.reduceEq, Int.reduceLT, Int.reduceLE, Int.reduceAdd, Int.reduceSub, Int.reduceMul, Int.reduceNeg, ↓reduceIte, Int.reduceToNat, sLc, Int.toNat_zero, Int.toNat_one, List.getElem?_nil, Int.cast_ofNat_Int, Int.natCast_add, wipeE, backE, tYs, sAdd, oAdd, sSl, oSl, pNo, pPart, decide_eq_true_eq, Bool.not_eq_true', decide_not, bne, Int.add_sub_cancel, Int.sub_add_cancel, Int.reducePow, gCnt, Int.reduceGT, Int.reduceGE, Int.reduceNe, ne_eq, not_true_eq_false, not_false_eq_true, String.reduceEq, String.reduceBEq, Bool.or_self, oMul_r, oMul_l, oDivA_pos, oModA_pos, oPow_10_30, oPow_10_60, oPow_10_4, cut_63, cut_40, cut_60, fzns_ints, Int.reduceAbs, Nat.reducePow, List.length_map, List.length_take, atI_0, atI_1, atI_2, atI_3, atI_4, atI_5, Pyd.iRng1, Pyd.iRng2, Int.toNat_natCast, sIsE, oIsE, gTry, oIsT, Bool.false_beq, Bool.true_beq, lk, lkA, List.mem_cons, List.not_mem_nil, or_false, false_or, or_true, true_or, ne_NoFraction__NoStrength, ne_NoStrength__NoFraction, sMake, sMakeB, gFld, putN, putV, oFld, lookD, sMeth, oIsI, oInT, intsD, gClr, sLcB, semI, outI, fz_kD, fz_fD, tq, eD]
        rfl
      · simp only [semB, List.map_cons, List.map_nil, List.length_cons, List.length_nil, List.replicate, List.cons_append, List.nil_append, Nat.reduceAdd, Nat.reduceSub, Nat.zero_add, gSeq, gNx, bndS, gSet, gDrop, gRet, gRetN, gIf, gBrk, gRaise, gAsg, gPar, Rs.bnd, Rz.to, pVar, pC, pBin, pUn, Pyd.o2, pChain, pA0, pA1, pCall, sP, sVar, sC, sA0, sA1, sTup, sLst, sBin, sFz, sCallB, sCallN, tP, tE, tNt, tAn, tOrr, sAnd, sOr, sNot, sIf, kName, kNil, kCons, Pyd.kTup, oI, oAddS, oAddI, oSub, oXor, oLt, oLe, oGt, oGe, oNeg, oIx, cLen, cAbs, cAll, cAny, bls, cMax2, cMin2, cInt, fz, fzs, fzn, fzns, dEq_int, dEq_str, dEq_bl, dEq_non, dEq_tup, dEq_lst, dEqs_nil, dEqs_cons, dEqs_n1, dEqs_n2, dok, oEq, oNe, oIsN, oNotN, oIsB, tyD, isB, List.getElem?_cons_zero, List.getElem?_cons_succ, List.set_cons_zero, List.set_cons_succ, Option.bind_some, Option.bind_none, Option.map_some, Option.map_none, if_true, if_false, ite_true, ite_false, Bool.not_true, Bool.not_false, Bool.and_true, Bool.true_and, Bool.and_self, Bool.false_and, Bool.and_false, Bool.or_true, Bool.true_or, Bool.or_false, Bool.false_or, decide_true, decide_false, eq_self_iff_true, and_self, true_and, and_true, List.all_cons, List.all_nil, Nat.lt_add_one, Nat.reduceLT, Nat.reduceLeDiff, Nat.zero_lt_succ, gFor, iLst, Pyd.iTup, Pyd.iAny, Option.some_inj, reduceCtorEq, Bool.false_eq_true, beq_self_eq_true, id_eq, Nat.le_refl, Nat.zero_le, Int.reduceBEq, Int.reduceEq, Int.reduceLT, Int.reduceLE, Int.reduceAdd, Int.reduceSub, Int.reduceMul, Int.reduceNeg, ↓reduceIte, Int.reduceToNat, sLc, Int.toNat_zero, Int.toNat_one, List.getElem?_nil, Int.cast_ofNat_Int, Int.natCast_add, wipeE, backE, tYs, sAdd, oAdd, sSl, oSl, pNo, pPart, decide_eq_true_eq, Bool.not_eq_true', decide_not, bne, Int.add_sub_cancel, Int.sub_add_cancel, Int.reducePow, gCnt, Int.reduceGT, Int.reduceGE, Int.reduceNe, ne_eq, not_true_eq_false, not_false_eq_true, String.reduceEq, String.reduceBEq, Bool.or_self, oMul_r, oMul_l, oDivA_pos, oModA_pos, oPow_10_30, oPow_10_60, oPow_10_4, cut_63, cut_40, cut_60, fzns_ints, Int.reduceAbs, Nat.reducePow, List.length_map, List.length_take, atI_0, atI_1, atI_2, atI_3, atI_4, atI_5, Pyd.iRng1, Pyd.iRng2, Int.toNat_natCast, sIsE, oIsE, gTry, oIsT, Bool.false_beq, Bool.true_beq, lk, lkA, List.mem_cons, List.not_mem_nil, or_false, false_or, or_true, true_or, ne_NoFraction__NoStrength, ne_NoStrength__NoFraction, sMake, sMakeB, gFld, putN, putV, oFld, lookD, sMeth, oIsI, oInT, intsD, gClr, sLcB, semI, outI]) (by rw [List.length_map]; show 0 + _ ≤ _; omega)
    refine ⟨[some (.lst false (l.map eD)), some (fD b), none, none], ?_⟩
    have em : (l.map eD).map (fun d => match d with | Dv.tup _ [k, .tup _ [.int x, .int y]] => Dv.tup true [k, fD (tm (x, y) b)] | _ => .non) = (scA b l).map eD := by
      unfold scA
      rw [List.map_map, List.map_map]
      rfl
    rw [em, List.nil_append] at k
    unfold c_scaled_1
    simp only [semB, List.map_cons, List.map_nil, List.length_cons, List.length_nil, List.replicate, List.cons_append, List.nil_append, Nat.reduceAdd, Nat.reduceSub, Nat.zero_add, gSeq, gNx, bndS, gSet, gDrop, gRet, gRetN, gIf, gBrk, gRaise, gAsg, gPar, Rs.bnd, Rz.to, pVar, pC, pBin, pUn, Pyd.o2, pChain, pA0, pA1, pCall, sP, sVar, sC, sA0, sA1, sTup, sLst, sBin, sFz, sCallB, sCallN, tP, tE, tNt, tAn, tOrr, sAnd, sOr, sNot, sIf, kName, kNil, kCons, Pyd.kTup, oI, oAddS, oAddI, oSub, oXor, oLt, oLe, oGt, oGe, oNeg, oIx, cLen, cAbs, cAll, cAny, bls, cMax2, cMin2, cInt, fz, fzs, fzn, fzns, dEq_int, dEq_str, dEq_bl, dEq_non, dEq_tup, dEq_lst, dEqs_nil, dEqs_cons, dEqs_n1, dEqs_n2, dok, oEq, oNe, oIsN, oNotN, oIsB, tyD, isB, List.getElem?_cons_zero, List.getElem?_cons_succ, List.set_cons_zero, List.set_cons_succ, Option.bind_some, Option.bind_none, Option.map_some, Option.map_none, if_true, if_false, ite_true, ite_false, Bool.not_true, Bool.not_false, Bool.and_true, Bool.true_and, Bool.and_self, Bool.false_and, Bool.and_false, Bool.or_true, Bool.true_or, Bool.or_false, Bool.false_or, decide_true, decide_false, eq_self_iff_true, and_self, true_and, and_true, List.all_cons, List.all_nil, Nat.lt_add_one, Nat.reduceLT, Nat.reduceLeDiff, Nat.zero_lt_succ, gFor, iLst, Pyd.iTup, Pyd.iAny, Option.some_inj, reduceCtorEq, Bool.false_eq_true, beq_self_eq_true, id_eq, Nat.le_refl, Nat.zero_le, Int.reduceBEq, Int.reduceEq, Int.reduceLT, Int.reduceLE, Int.reduceAdd, Int.reduceSub, Int.reduceMul, Int.reduceNeg, ↓reduceIte, Int.reduceToNat, sLc, Int.toNat_zero, Int.toNat_one, List.getElem?_nil, Int.cast_ofNat_Int, Int.natCast_add, wipeE, backE, tYs, sAdd, oAdd, sSl, oSl, pNo, pPart, decide_eq_true_eq, Bool.not_eq_true', decide_not, bne, Int.add_sub_cancel, Int.sub_add_cancel, Int.reducePow, gCnt, Int.reduceGT, Int.reduceGE, Int.reduceNe, ne_eq, not_true_eq_false, not_false_eq_true, String.reduceEq, String.reduceBEq, Bool.or_self, oMul_r, oMul_l, oDivA_pos, oModA_pos, oPow_10_30, oPow_10_60, oPow_10_4, cut_63, cut_40, cut_60, fzns_ints, Int.reduceAbs, Nat.reducePow, List.length_map, List.length_take, atI_0, atI_1, atI_2, atI_3, atI_4, atI_5, Pyd.iRng1, Pyd.iRng2, Int.toNat_natCast, sIsE, oIsE, gTry, oIsT, Bool.false_beq, Bool.true_beq, lk, lkA, List.mem_cons, List.not_mem_nil, or_false, false_or, or_true, true_or, ne_NoFraction__NoStrength, ne_NoStrength__NoFraction, sMake, sMakeB, gFld, putN, putV, oFld, lookD, sMeth, oIsI, oInT, intsD, gClr, sLcB, semI, outI, fzns_eD, fzs_eD, k]
  obtain ⟨ρ', cm⟩ := cm
  unfold s_scaled sem_scaled g_scaled
  simp only [semB, List.map_cons, List.map_nil, List.length_cons, List.length_nil, List.replicate, List.cons_append, List.nil_append, Nat.reduceAdd, Nat.reduceSub, Nat.zero_add, gSeq, gNx, bndS, gSet, gDrop, gRet, gRetN, gIf, gBrk, gRaise, gAsg, gPar, Rs.bnd, Rz.to, pVar, pC, pBin, pUn, Pyd.o2, pChain, pA0, pA1, pCall, sP, sVar, sC, sA0, sA1, sTup, sLst, sBin, sFz, sCallB, sCallN, tP, tE, tNt, tAn, tOrr, sAnd, sOr, sNot, sIf, kName, kNil, kCons, Pyd.kTup, oI, oAddS, oAddI, oSub, oXor, oLt, oLe, oGt, oGe, oNeg, oIx, cLen, cAbs, cAll, cAny, bls, cMax2, cMin2, cInt, fz, fzs, fzn, fzns, dEq_int, dEq_str, dEq_bl, dEq_non, dEq_tup, dEq_lst, dEqs_nil, dEqs_cons, dEqs_n1, dEqs_n2, dok, oEq, oNe, oIsN, oNotN, oIsB, tyD, isB, List.getElem?_cons_zero, List.getElem?_cons_succ, List.set_cons_zero, List.set_cons_succ, Option.bind_some, Option.bind_none, Option.map_some, Option.map_none, if_true, if_false, ite_true, ite_false, Bool.not_true, Bool.not_false, Bool.and_true, Bool.true_and, Bool.and_self, Bool.false_and, Bool.and_false, Bool.or_true, Bool.true_or, Bool.or_false, Bool.false_or, decide_true, decide_false, eq_self_iff_true, and_self, true_and, and_true, List.all_cons, List.all_nil, Nat.lt_add_one, Nat.reduceLT, Nat.reduceLeDiff, Nat.zero_lt_succ, gFor, iLst, Pyd.iTup, Pyd.iAny, Option.some_inj, reduceCtorEq, Bool.false_eq_true, beq_self_eq_true, id_eq, Nat.le_refl, Nat.zero_le, Int.reduceBEq, Int.reduceEq, Int.reduceLT, Int.reduceLE, Int.reduceAdd, Int.reduceSub, Int.reduceMul, Int.reduceNeg, ↓reduceIte, Int.reduceToNat, sLc, Int.toNat_zero, Int.toNat_one, List.getElem?_nil, Int.cast_ofNat_Int, Int.natCast_add, wipeE, backE, tYs, sAdd, oAdd, sSl, oSl, pNo, pPart, decide_eq_true_eq, Bool.not_eq_true', decide_not, bne, Int.add_sub_cancel, Int.sub_add_cancel, Int.reducePow, gCnt, Int.reduceGT, Int.reduceGE, Int.reduceNe, ne_eq, not_true_eq_false, not_false_eq_true, String.reduceEq, String.reduceBEq, Bool.or_self, oMul_r, oMul_l, oDivA_pos, oModA_pos, oPow_10_30, oPow_10_60, oPow_10_4, cut_63, cut_40, cut_60, fzns_ints, Int.reduceAbs, Nat.reducePow, List.length_map, List.length_take, atI_0, atI_1, atI_2, atI_3, atI_4, atI_5, Pyd.iRng1, Pyd.iRng2, Int.toNat_natCast, sIsE, oIsE, gTry, oIsT, Bool.false_beq, Bool.true_beq, lk, lkA, List.mem_cons, List.not_mem_nil, or_false, false_or, or_true, true_or, ne_NoFraction__NoStrength, ne_NoStrength__NoFraction, sMake, sMakeB, gFld, putN, putV, oFld, lookD, sMeth, oIsI, oInT, intsD, gClr, sLcB, semI, outI, fzs_eD, fz_fD, nd, cm]
theorem e_refused {o : Bool} {l : AD} {t : Int} (ht : t ≤ 0) (ht2 : t.natAbs < 2 ^ 4000) : s_law_refused [.lst o (l.map eD), .tup true [.int t, .int 1]] = .ok (.bl true) := by
  have nd : s_need_strength [.tup true [.int t, .int 1]] = .err ⟨"NoStrength", none⟩ := by
    have := e_need (t := t) (b := 1) ht2 (Nat.lt_of_lt_of_le (by decide : (1 : Int).natAbs < 2 ^ 1) (Nat.pow_le_pow_right (by decide) (by decide)))
    rw [if_neg (by omega)] at this
    exact this
  have sc : s_scaled [.lst false (l.map eD), .tup true [.int t, .int 1]] = .err ⟨"NoStrength", none⟩ := by
    unfold s_scaled sem_scaled g_scaled
    simp only [semB, List.map_cons, List.map_nil, List.length_cons, List.length_nil, List.replicate, List.cons_append, List.nil_append, Nat.reduceAdd, Nat.reduceSub, Nat.zero_add, gSeq, gNx, bndS, gSet, gDrop, gRet, gRetN, gIf, gBrk, gRaise, gAsg, gPar, Rs.bnd, Rz.to, pVar, pC, pBin, pUn, Pyd.o2, pChain, pA0, pA1, pCall, sP, sVar, sC, sA0, sA1, sTup, sLst, sBin, sFz, sCallB, sCallN, tP, tE, tNt, tAn, tOrr, sAnd, sOr, sNot, sIf, kName, kNil, kCons, Pyd.kTup, oI, oAddS, oAddI, oSub, oXor, oLt, oLe, oGt, oGe, oNeg, oIx, cLen, cAbs, cAll, cAny, bls, cMax2, cMin2, cInt, fz, fzs, fzn, fzns, dEq_int, dEq_str, dEq_bl, dEq_non, dEq_tup, dEq_lst, dEqs_nil, dEqs_cons, dEqs_n1, dEqs_n2, dok, oEq, oNe, oIsN, oNotN, oIsB, tyD, isB, List.getElem?_cons_zero, List.getElem?_cons_succ, List.set_cons_zero, List.set_cons_succ, Option.bind_some, Option.bind_none, Option.map_some, Option.map_none, if_true, if_false, ite_true, ite_false, Bool.not_true, Bool.not_false, Bool.and_true, Bool.true_and, Bool.and_self, Bool.false_and, Bool.and_false, Bool.or_true, Bool.true_or, Bool.or_false, Bool.false_or, decide_true, decide_false, eq_self_iff_true, and_self, true_and, and_true, List.all_cons, List.all_nil, Nat.lt_add_one, Nat.reduceLT, Nat.reduceLeDiff, Nat.zero_lt_succ, gFor, iLst, Pyd.iTup, Pyd.iAny, Option.some_inj, reduceCtorEq, Bool.false_eq_true, beq_self_eq_true, id_eq, Nat.le_refl, Nat.zero_le, Int.reduceBEq, Int.reduceEq, Int.reduceLT, Int.reduceLE, Int.reduceAdd, Int.reduceSub, Int.reduceMul, Int.reduceNeg, ↓reduceIte, Int.reduceToNat, sLc, Int.toNat_zero, Int.toNat_one, List.getElem?_nil, Int.cast_ofNat_Int, Int.natCast_add, wipeE, backE, tYs, sAdd, oAdd, sSl, oSl, pNo, pPart, decide_eq_true_eq, Bool.not_eq_true', decide_not, bne, Int.add_sub_cancel, Int.sub_add_cancel, Int.reducePow, gCnt, Int.reduceGT, Int.reduceGE, Int.reduceNe, ne_eq, not_true_eq_false, not_false_eq_true, String.reduceEq, String.reduceBEq, Bool.or_self, oMul_r, oMul_l, oDivA_pos, oModA_pos, oPow_10_30, oPow_10_60, oPow_10_4, cut_63, cut_40, cut_60, fzns_ints, Int.reduceAbs, Nat.reducePow, List.length_map, List.length_take, atI_0, atI_1, atI_2, atI_3, atI_4, atI_5, Pyd.iRng1, Pyd.iRng2, Int.toNat_natCast, sIsE, oIsE, gTry, oIsT, Bool.false_beq, Bool.true_beq, lk, lkA, List.mem_cons, List.not_mem_nil, or_false, false_or, or_true, true_or, ne_NoFraction__NoStrength, ne_NoStrength__NoFraction, sMake, sMakeB, gFld, putN, putV, oFld, lookD, sMeth, oIsI, oInT, intsD, gClr, sLcB, semI, outI, nd]
  unfold s_law_refused sem_law_refused g_law_refused b_law_refused_1 b_law_refused_2
  simp only [semB, List.map_cons, List.map_nil, List.length_cons, List.length_nil, List.replicate, List.cons_append, List.nil_append, Nat.reduceAdd, Nat.reduceSub, Nat.zero_add, gSeq, gNx, bndS, gSet, gDrop, gRet, gRetN, gIf, gBrk, gRaise, gAsg, gPar, Rs.bnd, Rz.to, pVar, pC, pBin, pUn, Pyd.o2, pChain, pA0, pA1, pCall, sP, sVar, sC, sA0, sA1, sTup, sLst, sBin, sFz, sCallB, sCallN, tP, tE, tNt, tAn, tOrr, sAnd, sOr, sNot, sIf, kName, kNil, kCons, Pyd.kTup, oI, oAddS, oAddI, oSub, oXor, oLt, oLe, oGt, oGe, oNeg, oIx, cLen, cAbs, cAll, cAny, bls, cMax2, cMin2, cInt, fz, fzs, fzn, fzns, dEq_int, dEq_str, dEq_bl, dEq_non, dEq_tup, dEq_lst, dEqs_nil, dEqs_cons, dEqs_n1, dEqs_n2, dok, oEq, oNe, oIsN, oNotN, oIsB, tyD, isB, List.getElem?_cons_zero, List.getElem?_cons_succ, List.set_cons_zero, List.set_cons_succ, Option.bind_some, Option.bind_none, Option.map_some, Option.map_none, if_true, if_false, ite_true, ite_false, Bool.not_true, Bool.not_false, Bool.and_true, Bool.true_and, Bool.and_self, Bool.false_and, Bool.and_false, Bool.or_true, Bool.true_or, Bool.or_false, Bool.false_or, decide_true, decide_false, eq_self_iff_true, and_self, true_and, and_true, List.all_cons, List.all_nil, Nat.lt_add_one, Nat.reduceLT, Nat.reduceLeDiff, Nat.zero_lt_succ, gFor, iLst, Pyd.iTup, Pyd.iAny, Option.some_inj, reduceCtorEq, Bool.false_eq_true, beq_self_eq_true, id_eq, Nat.le_refl, Nat.zero_le, Int.reduceBEq, Int.reduceEq, Int.reduceLT, Int.reduceLE, Int.reduceAdd, Int.reduceSub, Int.reduceMul, Int.reduceNeg, ↓reduceIte, Int.reduceToNat, sLc, Int.toNat_zero, Int.toNat_one, List.getElem?_nil, Int.cast_ofNat_Int, Int.natCast_add, wipeE, backE, tYs, sAdd, oAdd, sSl, oSl, pNo, pPart, decide_eq_true_eq, Bool.not_eq_true', decide_not, bne, Int.add_sub_cancel, Int.sub_add_cancel, Int.reducePow, gCnt, Int.reduceGT, Int.reduceGE, Int.reduceNe, ne_eq, not_true_eq_false, not_false_eq_true, String.reduceEq, String.reduceBEq, Bool.or_self, oMul_r, oMul_l, oDivA_pos, oModA_pos, oPow_10_30, oPow_10_60, oPow_10_4, cut_63, cut_40, cut_60, fzns_ints, Int.reduceAbs, Nat.reducePow, List.length_map, List.length_take, atI_0, atI_1, atI_2, atI_3, atI_4, atI_5, Pyd.iRng1, Pyd.iRng2, Int.toNat_natCast, sIsE, oIsE, gTry, oIsT, Bool.false_beq, Bool.true_beq, lk, lkA, List.mem_cons, List.not_mem_nil, or_false, false_or, or_true, true_or, ne_NoFraction__NoStrength, ne_NoStrength__NoFraction, sMake, sMakeB, gFld, putN, putV, oFld, lookD, sMeth, oIsI, oInT, intsD, gClr, sLcB, semI, outI, fzs_eD, sc, ti_0, ti_1, ti_2, tc_0, lk]
/-! ### sums -/
def smA (l : AD) : Fq := (l.map (·.2)).foldl pl (0, 1)
theorem e_plus' {M : Int} {C D : Nat} {x y : Fq} (hM : 0 < M) (mM : M.natAbs < 2 ^ 300) (hx : Fok M C x) (hy : Fok M D y) (hC : C ≤ 2 ^ 300) (hD : D ≤ 2 ^ 300) : s_plus [fD x, fD y] = .ok (fD (pl x y)) := by
  obtain ⟨a1, a2⟩ := fok_z hx hM mM hC
  obtain ⟨b1, b2⟩ := fok_z hy hM mM hD
  have p1 := hx.p
  have p2 := hy.p
  have hb : x.2 * y.2 ≠ 0 := Int.mul_ne_zero (by omega) (by omega)
  have hz : (x.2 * y.2).natAbs < 2 ^ 8000 := Nat.lt_of_lt_of_le (mul_lt a2 b2) (Nat.pow_le_pow_right (by decide) (by decide))
  have e : s_plus [fD x, fD y] = s_fraction [.int (x.1 * y.2 + y.1 * x.2), .int (x.2 * y.2)] := if_pos ⟨up4 a1 (by decide), up4 a2 (by decide), up4 b1 (by decide), up4 b2 (by decide)⟩
  rw [e]
  unfold s_fraction
  simp only []
  rw [if_neg hb, if_pos hz]
  rfl
theorem sum_ok {M : Int} {D : Nat} : ∀ (vs : List Fq) (x : Fq) (C : Nat), Fok M C x → (∀ v ∈ vs, Fok M D v) → Fok M (C + vs.length * D) (vs.foldl pl x)
  | [], x, C, h, _ => by simpa using h
  | v :: vs, x, C, h, hv => by
    have h2 := sum_ok vs (pl x v) (C + D) (pl_ok h (hv v (.head _))) fun w hw => hv w (.tail _ hw)
    rw [List.foldl_cons, List.length_cons, Nat.add_mul, Nat.one_mul, show C + (vs.length * D + D) = C + D + vs.length * D by omega]
    exact h2
theorem sum_nn : ∀ (vs : List Fq) (x : Fq), 1 ≤ x.2 → 0 ≤ x.1 → (∀ v ∈ vs, 1 ≤ v.2 ∧ 0 ≤ v.1) → 0 ≤ (vs.foldl pl x).1
  | [], x, _, h, _ => h
  | v :: vs, x, p, h, hv => by
    have w := hv v (.head _)
    exact sum_nn vs (pl x v) (pl_low p w.1).1 (pl_nn p w.1 h w.2) fun u hu => hv u (.tail _ hu)
theorem loop_sum {M : Int} {D : Nat} (hM : 0 < M) (mM : M.natAbs < 2 ^ 300) (hD : D ≤ 2 ^ 300) : ∀ (l : AD) (x : Fq) (C : Nat) (P p2 p3 : Option Dv), Fok M C x → (∀ e ∈ l, Fok M D e.2) → C + l.length * D ≤ 2 ^ 300 →
    ∃ p2' p3', forL (Pyd.kTup 2 (kCons (kName 2) (kCons (kName 3) kNil))) b_sum_of_1 (l.map eD) [P, some (fD x), p2, p3] = .nx [P, some (fD ((l.map (·.2)).foldl pl x)), p2', p3']
  | [], x, C, P, p2, p3, _, _, _ => ⟨p2, p3, rfl⟩
  | e :: l, x, C, P, p2, p3, h, hl, hC => by
    rw [List.length_cons] at hC
    have he := hl e (.head _)
    have pq := e_plus' hM mM h he (by omega) hD
    have s1 : b_sum_of_1 [P, some (fD x), some (kD e.1), some (fD e.2)] = .nx [P, some (fD (pl x e.2)), some (kD e.1), some (fD e.2)] := by
      unfold b_sum_of_1
      simp only [semB, List.map_cons, List.map_nil, List.length_cons, List.length_nil, List.replicate, List.cons_append, List.nil_append, Nat.reduceAdd, Nat.reduceSub, Nat.zero_add, gSeq, gNx, bndS, gSet, gDrop, gRet, gRetN, gIf, gBrk, gRaise, gAsg, gPar, Rs.bnd, Rz.to, pVar, pC, pBin, pUn, Pyd.o2, pChain, pA0, pA1, pCall, sP, sVar, sC, sA0, sA1, sTup, sLst, sBin, sFz, sCallB, sCallN, tP, tE, tNt, tAn, tOrr, sAnd, sOr, sNot, sIf, kName, kNil, kCons, Pyd.kTup, oI, oAddS, oAddI, oSub, oXor, oLt, oLe, oGt, oGe, oNeg, oIx, cLen, cAbs, cAll, cAny, bls, cMax2, cMin2, cInt, fz, fzs, fzn, fzns, dEq_int, dEq_str, dEq_bl, dEq_non, dEq_tup, dEq_lst, dEqs_nil, dEqs_cons, dEqs_n1, dEqs_n2, dok, oEq, oNe, oIsN, oNotN, oIsB, tyD, isB, List.getElem?_cons_zero, List.getElem?_cons_succ, List.set_cons_zero, List.set_cons_succ, Option.bind_some, Option.bind_none, Option.map_some, Option.map_none, if_true, if_false, ite_true, ite_false, Bool.not_true, Bool.not_false, Bool.and_true, Bool.true_and, Bool.and_self, Bool.false_and, Bool.and_false, Bool.or_true, Bool.true_or, Bool.or_false, Bool.false_or, decide_true, decide_false, eq_self_iff_true, and_self, true_and, and_true, List.all_cons, List.all_nil, Nat.lt_add_one, Nat.reduceLT, Nat.reduceLeDiff, Nat.zero_lt_succ, gFor, iLst, Pyd.iTup, Pyd.iAny, Option.some_inj, reduceCtorEq, Bool.false_eq_true, beq_self_eq_true, id_eq, Nat.le_refl, Nat.zero_le, Int.reduceBEq, Int.reduceEq, Int.reduceLT, Int.reduceLE, Int.reduceAdd, Int.reduceSub, Int.reduceMul, Int.reduceNeg, ↓reduceIte, Int.reduceToNat, sLc, Int.toNat_zero, Int.toNat_one, List.getElem?_nil, Int.cast_ofNat_Int, Int.natCast_add, wipeE, backE, tYs, sAdd, oAdd, sSl, oSl, pNo, pPart, decide_eq_true_eq, Bool.not_eq_true', decide_not, bne, Int.add_sub_cancel, Int.sub_add_cancel, Int.reducePow, gCnt, Int.reduceGT, Int.reduceGE, Int.reduceNe, ne_eq, not_true_eq_false, not_false_eq_true, String.reduceEq, String.reduceBEq, Bool.or_self, oMul_r, oMul_l, oDivA_pos, oModA_pos, oPow_10_30, oPow_10_60, oPow_10_4, cut_63, cut_40, cut_60, fzns_ints, Int.reduceAbs, Nat.reducePow, List.length_map, List.length_take, atI_0, atI_1, atI_2, atI_3, atI_4, atI_5, Pyd.iRng1, Pyd.iRng2, Int.toNat_natCast, sIsE, oIsE, gTry, oIsT, Bool.false_beq, Bool.true_beq, lk, lkA, List.mem_cons, List.not_mem_nil, or_false, false_or, or_true, true_or, ne_NoFraction__NoStrength, ne_NoStrength__NoFraction, sMake, sMakeB, gFld, putN, putV, oFld, lookD, sMeth, oIsI, oInT, intsD, gClr, sLcB, semI, outI, fz_fD, pq]
    obtain ⟨p2', p3', r⟩ := loop_sum hM mM hD l (pl x e.2) (C + D) P (some (kD e.1)) (some (fD e.2)) (pl_ok h he) (fun x hx => hl x (.tail _ hx)) (by rw [Nat.add_mul] at hC; omega)
    refine ⟨p2', p3', ?_⟩
    rw [List.map_cons, forL, tg_added]
    simp only [s1]
    exact r
theorem e_sum_of {M : Int} {D : Nat} {o : Bool} {l : AD} (hM : 0 < M) (mM : M.natAbs < 2 ^ 300) (hD : D ≤ 2 ^ 280) (hl : ∀ e ∈ l, Fok M D e.2) (hz : l.length ≤ 1000) : s_sum_of [.lst o (l.map eD)] = .ok (fD (smA l)) := by
  have hm : l.length * D ≤ 2 ^ 290 := by
    calc l.length * D ≤ 2 ^ 10 * 2 ^ 280 := Nat.mul_le_mul (by omega) hD
      _ = 2 ^ 290 := by rw [← Nat.pow_add]
  have h300 : (2 : Nat) ^ 290 ≤ 2 ^ 300 := Nat.pow_le_pow_right (by decide) (by decide)
  have h280 : (2 : Nat) ^ 280 ≤ 2 ^ 300 := Nat.pow_le_pow_right (by decide) (by decide)
  obtain ⟨p2, p3, lp⟩ := loop_sum hM mM (D := D) (by omega) l (0, 1) 0 (some (.lst false (l.map eD))) none none zero_ok hl (by omega)
  have z : Dv.tup true [.int 0, .int 1] = fD (0, 1) := rfl
  have z2 : fzn (fD (0, 1)) = true := rfl
  unfold s_sum_of sem_sum_of g_sum_of
  simp only [semB, List.map_cons, List.map_nil, List.length_cons, List.length_nil, List.replicate, List.cons_append, List.nil_append, Nat.reduceAdd, Nat.reduceSub, Nat.zero_add, gSeq, gNx, bndS, gSet, gDrop, gRet, gRetN, gIf, gBrk, gRaise, gAsg, gPar, Rs.bnd, Rz.to, pVar, pC, pBin, pUn, Pyd.o2, pChain, pA0, pA1, pCall, sP, sVar, sC, sA0, sA1, sTup, sLst, sBin, sFz, sCallB, sCallN, tP, tE, tNt, tAn, tOrr, sAnd, sOr, sNot, sIf, kName, kNil, kCons, Pyd.kTup, oI, oAddS, oAddI, oSub, oXor, oLt, oLe, oGt, oGe, oNeg, oIx, cLen, cAbs, cAll, cAny, bls, cMax2, cMin2, cInt, fz, fzs, fzn, fzns, dEq_int, dEq_str, dEq_bl, dEq_non, dEq_tup, dEq_lst, dEqs_nil, dEqs_cons, dEqs_n1, dEqs_n2, dok, oEq, oNe, oIsN, oNotN, oIsB, tyD, isB, List.getElem?_cons_zero, List.getElem?_cons_succ, List.set_cons_zero, List.set_cons_succ, Option.bind_some, Option.bind_none, Option.map_some, Option.map_none, if_true, if_false, ite_true, ite_false, Bool.not_true, Bool.not_false, Bool.and_true, Bool.true_and, Bool.and_self, Bool.false_and, Bool.and_false, Bool.or_true, Bool.true_or, Bool.or_false, Bool.false_or, decide_true, decide_false, eq_self_iff_true, and_self, true_and, and_true, List.all_cons, List.all_nil, Nat.lt_add_one, Nat.reduceLT, Nat.reduceLeDiff, Nat.zero_lt_succ, gFor, iLst, Pyd.iTup, Pyd.iAny, Option.some_inj, reduceCtorEq, Bool.false_eq_true, beq_self_eq_true, id_eq, Nat.le_refl, Nat.zero_le, Int.reduceBEq, Int.reduceEq, Int.reduceLT, Int.reduceLE, Int.reduceAdd, Int.reduceSub, Int.reduceMul, Int.reduceNeg, ↓reduceIte, Int.reduceToNat, sLc, Int.toNat_zero, Int.toNat_one, List.getElem?_nil, Int.cast_ofNat_Int, Int.natCast_add, wipeE, backE, tYs, sAdd, oAdd, sSl, oSl, pNo, pPart, decide_eq_true_eq, Bool.not_eq_true', decide_not, bne, Int.add_sub_cancel, Int.sub_add_cancel, Int.reducePow, gCnt, Int.reduceGT, Int.reduceGE, Int.reduceNe, ne_eq, not_true_eq_false, not_false_eq_true, String.reduceEq, String.reduceBEq, Bool.or_self, oMul_r, oMul_l, oDivA_pos, oModA_pos, oPow_10_30, oPow_10_60, oPow_10_4, cut_63, cut_40, cut_60, fzns_ints, Int.reduceAbs, Nat.reducePow, List.length_map, List.length_take, atI_0, atI_1, atI_2, atI_3, atI_4, atI_5, Pyd.iRng1, Pyd.iRng2, Int.toNat_natCast, sIsE, oIsE, gTry, oIsT, Bool.false_beq, Bool.true_beq, lk, lkA, List.mem_cons, List.not_mem_nil, or_false, false_or, or_true, true_or, ne_NoFraction__NoStrength, ne_NoStrength__NoFraction, sMake, sMakeB, gFld, putN, putV, oFld, lookD, sMeth, oIsI, oInT, intsD, gClr, sLcB, semI, outI, k_NONE, z, z2, fzns_eD, fzs_eD, lp, fz_fD]
  rfl
theorem e_law_cell_at (ns : List Int) : ∃ c, s_law_cell_at [.scr ns, .int 0] = .ok (.int c) := by
  unfold s_law_cell_at sem_law_cell_at g_law_cell_at
  cases ns with
  | nil => exact ⟨0, by simp only [semB, List.map_cons, List.map_nil, List.length_cons, List.length_nil, List.replicate, List.cons_append, List.nil_append, Nat.reduceAdd, Nat.reduceSub, Nat.zero_add, gSeq, gNx, bndS, gSet, gDrop, gRet, gRetN, gIf, gBrk, gRaise, gAsg, gPar, Rs.bnd, Rz.to, pVar, pC, pBin, pUn, Pyd.o2, pChain, pA0, pA1, pCall, sP, sVar, sC, sA0, sA1, sTup, sLst, sBin, sFz, sCallB, sCallN, tP, tE, tNt, tAn, tOrr, sAnd, sOr, sNot, sIf, kName, kNil, kCons, Pyd.kTup, oI, oAddS, oAddI, oSub, oXor, oLt, oLe, oGt, oGe, oNeg, oIx, cLen, cAbs, cAll, cAny, bls, cMax2, cMin2, cInt, fz, fzs, fzn, fzns, dEq_int, dEq_str, dEq_bl, dEq_non, dEq_tup, dEq_lst, dEqs_nil, dEqs_cons, dEqs_n1, dEqs_n2, dok, oEq, oNe, oIsN, oNotN, oIsB, tyD, isB, List.getElem?_cons_zero, List.getElem?_cons_succ, List.set_cons_zero, List.set_cons_succ, Option.bind_some, Option.bind_none, Option.map_some, Option.map_none, if_true, if_false, ite_true, ite_false, Bool.not_true, Bool.not_false, Bool.and_true, Bool.true_and, Bool.and_self, Bool.false_and, Bool.and_false, Bool.or_true, Bool.true_or, Bool.or_false, Bool.false_or, decide_true, decide_false, eq_self_iff_true, and_self, true_and, and_true, List.all_cons, List.all_nil, Nat.lt_add_one, Nat.reduceLT, Nat.reduceLeDiff, Nat.zero_lt_succ, gFor, iLst, Pyd.iTup, Pyd.iAny, Option.some_inj, reduceCtorEq, Bool.false_eq_true, beq_self_eq_true, id_eq, Nat.le_refl, Nat.zero_le, Int.reduceBEq, Int.reduceEq, Int.reduceLT, Int.reduceLE, Int.reduceAdd, Int.reduceSub, Int.reduceMul, Int.reduceNeg, ↓reduceIte, Int.reduceToNat, sLc, Int.toNat_zero, Int.toNat_one, List.getElem?_nil, Int.cast_ofNat_Int, Int.natCast_add, wipeE, backE, tYs, sAdd, oAdd, sSl, oSl, pNo, pPart, decide_eq_true_eq, Bool.not_eq_true', decide_not, bne, Int.add_sub_cancel, Int.sub_add_cancel, Int.reducePow, gCnt, Int.reduceGT, Int.reduceGE, Int.reduceNe, ne_eq, not_true_eq_false, not_false_eq_true, String.reduceEq, String.reduceBEq, Bool.or_self, oMul_r, oMul_l, oDivA_pos, oModA_pos, oPow_10_30, oPow_10_60, oPow_10_4, cut_63, cut_40, cut_60, fzns_ints, Int.reduceAbs, Nat.reducePow, List.length_map, List.length_take, atI_0, atI_1, atI_2, atI_3, atI_4, atI_5, Pyd.iRng1, Pyd.iRng2, Int.toNat_natCast, sIsE, oIsE, gTry, oIsT, Bool.false_beq, Bool.true_beq, lk, lkA, List.mem_cons, List.not_mem_nil, or_false, false_or, or_true, true_or, ne_NoFraction__NoStrength, ne_NoStrength__NoFraction, sMake, sMakeB, gFld, putN, putV, oFld, lookD, sMeth, oIsI, oInT, intsD, gClr, sLcB, semI, outI, List.length_nil]⟩
  | cons c r => 
    have h : (0 : Int) < (r.length : Int) + 1 := by omega
    exact ⟨c, by simp only [semB, List.map_cons, List.map_nil, List.length_cons, List.length_nil, List.replicate, List.cons_append, List.nil_append, Nat.reduceAdd, Nat.reduceSub, Nat.zero_add, gSeq, gNx, bndS, gSet, gDrop, gRet, gRetN, gIf, gBrk, gRaise, gAsg, gPar, Rs.bnd, Rz.to, pVar, pC, pBin, pUn, Pyd.o2, pChain, pA0, pA1, pCall, sP, sVar, sC, sA0, sA1, sTup, sLst, sBin, sFz, sCallB, sCallN, tP, tE, tNt, tAn, tOrr, sAnd, sOr, sNot, sIf, kName, kNil, kCons, Pyd.kTup, oI, oAddS, oAddI, oSub, oXor, oLt, oLe, oGt, oGe, oNeg, oIx, cLen, cAbs, cAll, cAny, bls, cMax2, cMin2, cInt, fz, fzs, fzn, fzns, dEq_int, dEq_str, dEq_bl, dEq_non, dEq_tup, dEq_lst, dEqs_nil, dEqs_cons, dEqs_n1, dEqs_n2, dok, oEq, oNe, oIsN, oNotN, oIsB, tyD, isB, List.getElem?_cons_zero, List.getElem?_cons_succ, List.set_cons_zero, List.set_cons_succ, Option.bind_some, Option.bind_none, Option.map_some, Option.map_none, if_true, if_false, ite_true, ite_false, Bool.not_true, Bool.not_false, Bool.and_true, Bool.true_and, Bool.and_self, Bool.false_and, Bool.and_false, Bool.or_true, Bool.true_or, Bool.or_false, Bool.false_or, decide_true, decide_false, eq_self_iff_true, and_self, true_and, and_true, List.all_cons, List.all_nil, Nat.lt_add_one, Nat.reduceLT, Nat.reduceLeDiff, Nat.zero_lt_succ, gFor, iLst, Pyd.iTup, Pyd.iAny, Option.some_inj, reduceCtorEq, Bool.false_eq_true, beq_self_eq_true, id_eq, Nat.le_refl, Nat.zero_le, Int.reduceBEq, Int.reduceEq, Int.reduceLT, Int.reduceLE, Int.reduceAdd, Int.reduceSub, Int.reduceMul, Int.reduceNeg, ↓reduceIte, Int.reduceToNat, sLc, Int.toNat_zero, Int.toNat_one, List.getElem?_nil, Int.cast_ofNat_Int, Int.natCast_add, wipeE, backE, tYs, sAdd, oAdd, sSl, oSl, pNo, pPart, decide_eq_true_eq, Bool.not_eq_true', decide_not, bne, Int.add_sub_cancel, Int.sub_add_cancel, Int.reducePow, gCnt, Int.reduceGT, Int.reduceGE, Int.reduceNe, ne_eq, not_true_eq_false, not_false_eq_true, String.reduceEq, String.reduceBEq, Bool.or_self, oMul_r, oMul_l, oDivA_pos, oModA_pos, oPow_10_30, oPow_10_60, oPow_10_4, cut_63, cut_40, cut_60, fzns_ints, Int.reduceAbs, Nat.reducePow, List.length_map, List.length_take, atI_0, atI_1, atI_2, atI_3, atI_4, atI_5, Pyd.iRng1, Pyd.iRng2, Int.toNat_natCast, sIsE, oIsE, gTry, oIsT, Bool.false_beq, Bool.true_beq, lk, lkA, List.mem_cons, List.not_mem_nil, or_false, false_or, or_true, true_or, ne_NoFraction__NoStrength, ne_NoStrength__NoFraction, sMake, sMakeB, gFld, putN, putV, oFld, lookD, sMeth, oIsI, oInT, intsD, gClr, sLcB, semI, outI, List.length_cons, h]⟩
theorem dEq_kD (k : List Int) : dEqs (k.map .int) (k.map .int) = true := by
  induction k with
  | nil => exact dEqs_nil
  | cons a k ih => rw [List.map_cons, dEqs_cons, ih, dEq_int]; simp
theorem dEq_eD (e : List Int × Fq) : dEq (eD e) (eD e) = true := by
  unfold eD kD fD
  rw [dEq_tup, dEqs_cons, dEqs_cons, dEq_tup, dEq_tup, dEq_kD, dEqs_cons, dEqs_cons, dEqs_nil, dEq_int, dEq_int]
  simp
theorem dEqs_eD : ∀ (l : AD), dEqs (l.map eD) (l.map eD) = true
  | [] => dEqs_nil
  | e :: l => by rw [List.map_cons, dEqs_cons, dEq_eD, dEqs_eD l]; rfl
theorem dok_kD (n : Nat) (k : List Int) : (k.map Dv.int).all (dok n) = true := by
  induction k with
  | nil => rfl
  | cons a k ih =>
    rw [List.map_cons, List.all_cons, ih]
    cases n <;> rfl
theorem dok_eD (n : Nat) (l : AD) : (l.map eD).all (dok (n + 2)) = true := by
  induction l with
  | nil => rfl
  | cons e l ih =>
    rw [List.map_cons, List.all_cons, ih]
    show ((((e.1.map Dv.int).all (dok n)) && (_ && true)) && true) = true
    rw [dok_kD]
    cases n <;> rfl
theorem dok_58 (l : AD) : (l.map eD).all (dok 58) = true := dok_eD 56 l
theorem dok_59 (l : AD) : (l.map eD).all (dok 59) = true := dok_eD 57 l
theorem step_more {A B : Int} {C D : Nat} {e : List Int × Fq} {b : Fq} {acc : AD} {q0 q1 q2 q3 q4 q5 q6 q7 q8 q10 q14 : Option Dv} (hx : Fok A C e.2) (hy : Fok B D b) (hA : 0 < A) (hB : 0 < B) (mA : A.natAbs < 2 ^ 300) (mB : B.natAbs < 2 ^ 300) (hC : C ≤ 2 ^ 300) (hD : D ≤ 2 ^ 300) (nx : 0 ≤ e.2.1) (ny : 0 ≤ b.1) (hz : acc.length < 900000) :
    b_law_1 [q0, q1, q2, q3, q4, q5, q6, q7, q8, some (.tup true [.int b.1, .int b.2]), q10, some (.lst true (acc.map eD)), some (kD e.1), some (fD e.2), q14] = .nx [q0, q1, q2, q3, q4, q5, q6, q7, q8, some (.tup true [.int b.1, .int b.2]), q10, some (.lst true ((acc ++ [(e.1, tm e.2 b)]).map eD)), some (kD e.1), some (fD e.2), q14] := by
  have k := e_low_tm hx hy hA hB mA mB hC hD nx ny
  have u1 : (e.2.1 * b.1).natAbs < 2 ^ 4000 := up4 (mul_lt (fok_z hx hA mA hC).1 (fok_z hy hB mB hD).1) (by decide)
  have u2 : (e.2.2 * b.2).natAbs < 2 ^ 4000 := up4 (mul_lt (fok_z hx hA mA hC).2 (fok_z hy hB mB hD).2) (by decide)
  have m1 := oMul_b (up4 (fok_z hx hA mA hC).1 (by decide)) (up4 (fok_z hy hB mB hD).1 (by decide))
  have m2 := oMul_b (up4 (fok_z hx hA mA hC).2 (by decide)) (up4 (fok_z hy hB mB hD).2 (by decide))
  unfold b_law_1
  simp only [semB, List.map_cons, List.map_nil, List.length_cons, List.length_nil, List.replicate, List.cons_append, List.nil_append, Nat.reduceAdd, Nat.reduceSub, Nat.zero_add, gSeq, gNx, bndS, gSet, gDrop, gRet, gRetN, gIf, gBrk, gRaise, gAsg, gPar, Rs.bnd, Rz.to, pVar, pC, pBin, pUn, Pyd.o2, pChain, pA0, pA1, pCall, sP, sVar, sC, sA0, sA1, sTup, sLst, sBin, sFz, sCallB, sCallN, tP, tE, tNt, tAn, tOrr, sAnd, sOr, sNot, sIf, kName, kNil, kCons, Pyd.kTup, oI, oAddS, oAddI, oSub, oXor, oLt, oLe, oGt, oGe, oNeg, oIx, cLen, cAbs, cAll, cAny, bls, cMax2, cMin2, cInt, fz, fzs, fzn, fzns, dEq_int, dEq_str, dEq_bl, dEq_non, dEq_tup, dEq_lst, dEqs_nil, dEqs_cons, dEqs_n1, dEqs_n2, dok, oEq, oNe, oIsN, oNotN, oIsB, tyD, isB, List.getElem?_cons_zero, List.getElem?_cons_succ, List.set_cons_zero, List.set_cons_succ, Option.bind_some, Option.bind_none, Option.map_some, Option.map_none, if_true, if_false, ite_true, ite_false, Bool.not_true, Bool.not_false, Bool.and_true, Bool.true_and, Bool.and_self, Bool.false_and, Bool.and_false, Bool.or_true, Bool.true_or, Bool.or_false, Bool.false_or, decide_true, decide_false, eq_self_iff_true, and_self, true_and, and_true, List.all_cons, List.all_nil, Nat.lt_add_one, Nat.reduceLT, Nat.reduceLeDiff, Nat.zero_lt_succ, gFor, iLst, Pyd.iTup, Pyd.iAny, Option.some_inj, reduceCtorEq, Bool.false_eq_true, beq_self_eq_true, id_eq, Nat.le_refl, Nat.zero_le, Int.reduceBEq, Int.reduceEq, Int.reduceLT, Int.reduceLE, Int.reduceAdd, Int.reduceSub, Int.reduceMul, Int.reduceNeg, ↓reduceIte, Int.reduceToNat, sLc, Int.toNat_zero, Int.toNat_one, List.getElem?_nil, Int.cast_ofNat_Int, Int.natCast_add, wipeE, backE, tYs, sAdd, oAdd, sSl, oSl, pNo, pPart, decide_eq_true_eq, Bool.not_eq_true', decide_not, bne, Int.add_sub_cancel, Int.sub_add_cancel, Int.reducePow, gCnt, Int.reduceGT, Int.reduceGE, Int.reduceNe, ne_eq, not_true_eq_false, not_false_eq_true, String.reduceEq, String.reduceBEq, Bool.or_self, oMul_r, oMul_l, oDivA_pos, oModA_pos, oPow_10_30, oPow_10_60, oPow_10_4, cut_63, cut_40, cut_60, fzns_ints, Int.reduceAbs, Nat.reducePow, List.length_map, List.length_take, atI_0, atI_1, atI_2, atI_3, atI_4, atI_5, Pyd.iRng1, Pyd.iRng2, Int.toNat_natCast, sIsE, oIsE, gTry, oIsT, Bool.false_beq, Bool.true_beq, lk, lkA, List.mem_cons, List.not_mem_nil, or_false, false_or, or_true, true_or, ne_NoFraction__NoStrength, ne_NoStrength__NoFraction, sMake, sMakeB, gFld, putN, putV, oFld, lookD, sMeth, oIsI, oInT, intsD, gClr, sLcB, semI, outI, gApp, fzns_eD, hz, fz_kD, fD, m1, m2, k, List.map_append]
  rfl
theorem tg_more (e : List Int × Fq) (q0 q1 q2 q3 q4 q5 q6 q7 q8 q9 q10 q11 q12 q13 q14 : Option Dv) : Pyd.kTup 2 (kCons (kName 12) (kCons (kName 13) kNil)) (eD e) [q0, q1, q2, q3, q4, q5, q6, q7, q8, q9, q10, q11, q12, q13, q14] = some [q0, q1, q2, q3, q4, q5, q6, q7, q8, q9, q10, q11, some (kD e.1), some (fD e.2), q14] := by
  unfold eD
  simp only [semB, List.map_cons, List.map_nil, List.length_cons, List.length_nil, List.replicate, List.cons_append, List.nil_append, Nat.reduceAdd, Nat.reduceSub, Nat.zero_add, gSeq, gNx, bndS, gSet, gDrop, gRet, gRetN, gIf, gBrk, gRaise, gAsg, gPar, Rs.bnd, Rz.to, pVar, pC, pBin, pUn, Pyd.o2, pChain, pA0, pA1, pCall, sP, sVar, sC, sA0, sA1, sTup, sLst, sBin, sFz, sCallB, sCallN, tP, tE, tNt, tAn, tOrr, sAnd, sOr, sNot, sIf, kName, kNil, kCons, Pyd.kTup, oI, oAddS, oAddI, oSub, oXor, oLt, oLe, oGt, oGe, oNeg, oIx, cLen, cAbs, cAll, cAny, bls, cMax2, cMin2, cInt, fz, fzs, fzn, fzns, dEq_int, dEq_str, dEq_bl, dEq_non, dEq_tup, dEq_lst, dEqs_nil, dEqs_cons, dEqs_n1, dEqs_n2, dok, oEq, oNe, oIsN, oNotN, oIsB, tyD, isB, List.getElem?_cons_zero, List.getElem?_cons_succ, List.set_cons_zero, List.set_cons_succ, Option.bind_some, Option.bind_none, Option.map_some, Option.map_none, if_true, if_false, ite_true, ite_false, Bool.not_true, Bool.not_false, Bool.and_true, Bool.true_and, Bool.and_self, Bool.false_and, Bool.and_false, Bool.or_true, Bool.true_or, Bool.or_false, Bool.false_or, decide_true, decide_false, eq_self_iff_true, and_self, true_and, and_true, List.all_cons, List.all_nil, Nat.lt_add_one, Nat.reduceLT, Nat.reduceLeDiff, Nat.zero_lt_succ, gFor, iLst, Pyd.iTup, Pyd.iAny, Option.some_inj, reduceCtorEq, Bool.false_eq_true, beq_self_eq_true, id_eq, Nat.le_refl, Nat.zero_le, Int.reduceBEq, Int.reduceEq, Int.reduceLT, Int.reduceLE, Int.reduceAdd, Int.reduceSub, Int.reduceMul, Int.reduceNeg, ↓reduceIte, Int.reduceToNat, sLc, Int.toNat_zero, Int.toNat_one, List.getElem?_nil, Int.cast_ofNat_Int, Int.natCast_add, wipeE, backE, tYs, sAdd, oAdd, sSl, oSl, pNo, pPart, decide_eq_true_eq, Bool.not_eq_true', decide_not, bne, Int.add_sub_cancel, Int.sub_add_cancel, Int.reducePow, gCnt, Int.reduceGT, Int.reduceGE, Int.reduceNe, ne_eq, not_true_eq_false, not_false_eq_true, String.reduceEq, String.reduceBEq, Bool.or_self, oMul_r, oMul_l, oDivA_pos, oModA_pos, oPow_10_30, oPow_10_60, oPow_10_4, cut_63, cut_40, cut_60, fzns_ints, Int.reduceAbs, Nat.reducePow, List.length_map, List.length_take, atI_0, atI_1, atI_2, atI_3, atI_4, atI_5, Pyd.iRng1, Pyd.iRng2, Int.toNat_natCast, sIsE, oIsE, gTry, oIsT, Bool.false_beq, Bool.true_beq, lk, lkA, List.mem_cons, List.not_mem_nil, or_false, false_or, or_true, true_or, ne_NoFraction__NoStrength, ne_NoStrength__NoFraction, sMake, sMakeB, gFld, putN, putV, oFld, lookD, sMeth, oIsI, oInT, intsD, gClr, sLcB, semI, outI, fz_kD, fz_fD]
theorem loop_more {A B : Int} {C D : Nat} {b : Fq} {q0 q1 q2 q3 q4 q5 q6 q7 q8 q10 q14 : Option Dv} (hy : Fok B D b) (hA : 0 < A) (hB : 0 < B) (mA : A.natAbs < 2 ^ 300) (mB : B.natAbs < 2 ^ 300) (hC : C ≤ 2 ^ 300) (hD : D ≤ 2 ^ 300) (ny : 0 ≤ b.1) : ∀ (l acc : AD) (q12 q13 : Option Dv), (∀ e ∈ l, Fok A C e.2 ∧ 0 ≤ e.2.1) → acc.length + l.length < 900000 →
    ∃ p2 p3, forL (Pyd.kTup 2 (kCons (kName 12) (kCons (kName 13) kNil))) b_law_1 (l.map eD) [q0, q1, q2, q3, q4, q5, q6, q7, q8, some (.tup true [.int b.1, .int b.2]), q10, some (.lst true (acc.map eD)), q12, q13, q14] = .nx [q0, q1, q2, q3, q4, q5, q6, q7, q8, some (.tup true [.int b.1, .int b.2]), q10, some (.lst true ((acc ++ scA b l).map eD)), p2, p3, q14]
  | [], acc, q12, q13, _, _ => ⟨q12, q13, by have z : acc ++ scA b [] = acc := List.append_nil acc; rw [z]; rfl⟩
  | e :: l, acc, q12, q13, hl, hz => by
    rw [List.length_cons] at hz
    have he := hl e (.head _)
    have s1 := step_more (q0 := q0) (q1 := q1) (q2 := q2) (q3 := q3) (q4 := q4) (q5 := q5) (q6 := q6) (q7 := q7) (q8 := q8) (q10 := q10) (q14 := q14) he.1 hy hA hB mA mB hC hD he.2 ny (acc := acc) (by omega)
    obtain ⟨p2, p3, r⟩ := loop_more (q0 := q0) (q1 := q1) (q2 := q2) (q3 := q3) (q4 := q4) (q5 := q5) (q6 := q6) (q7 := q7) (q8 := q8) (q10 := q10) (q14 := q14) hy hA hB mA mB hC hD ny l (acc ++ [(e.1, tm e.2 b)]) (some (kD e.1)) (some (fD e.2)) (fun x hx => hl x (.tail _ hx)) (by rw [List.length_append]; show acc.length + 1 + _ < _; omega)
    refine ⟨p2, p3, ?_⟩
    rw [List.map_cons, forL, tg_more]
    simp only [s1]
    rw [r]
    have e1 : acc ++ [(e.1, tm e.2 b)] ++ scA b l = acc ++ scA b (e :: l) := by
      show _ = acc ++ ((e.1, tm e.2 b) :: scA b l)
      rw [List.append_assoc]
      rfl
    rw [e1]
theorem one_str : Str1 (1, 1) := ⟨⟨by decide, by decide, ⟨LL, by simp⟩, by decide⟩, by decide⟩
theorem cut_len {α : Type} (xs : List α) (lo hi : Option Int) : (Pyd.cutD xs lo hi).length ≤ xs.length := by
  unfold Pyd.cutD
  rw [List.length_take, List.length_drop]
  omega
theorem lt_join {a : AD} (h : Lt a) : srtA (a.foldl Pyd.st []) = a := by
  have ok := fold_ok a [] (nil_ok (L := LL)) h.ok
  have e : srtA (a.foldl Pyd.st []) = srtA a := srtA_eq ok.n h.n fun k => by
    rw [look_fold a [] h.n]
    show (match lookA a k with | some s => some s | none => none) = _
    cases lookA a k <;> rfl
  rw [e, srtA_id h.n h.s]
theorem lt_nil : Lt [] := ⟨List.nodup_nil, List.Pairwise.nil, (fun _ z => nomatch z), fun _ z => nomatch z⟩
theorem fold_nn {D : Nat} : ∀ (l acc : AD) (C : Nat), Aok LL C acc → Nn acc → Nn l → (∀ e ∈ l, e.1.length = 3 ∧ Fok LL D e.2) → Nn (l.foldl Pyd.st acc)
  | [], _, _, _, h, _, _ => h
  | e :: l, acc, C, ha, na, nl, hl => fold_nn l (Pyd.st acc e) (C + D) (st_ok ha (hl e (.head _)).2 (hl e (.head _)).1) (st_nn na ha (hl e (.head _)).2.p (nl e (.head _))) (fun x hx => nl x (.tail _ hx)) fun x hx => hl x (.tail _ hx)
theorem law_true (ns : List Int) (h : ns.length ≤ 63) : s_law [.scr ns] = .ok (.bl true) := by
  obtain ⟨c, hc⟩ := e_law_cell_at ns
  have hcl : (Pyd.cutD ns (some 1) (some 63)).length ≤ 63 := Nat.le_trans (cut_len _ _ _) h
  generalize hcells : Pyd.cutD ns (some 1) (some 63) = cells at hcl
  have hcut : (0 : Int) < (cells.length : Int) + 1 := by omega
  have hA : (Pyd.cutD cells none (some (c / 3 % ((cells.length : Int) + 1)))).length ≤ 63 := Nat.le_trans (cut_len _ _ _) hcl
  have hB : (Pyd.cutD cells (some (c / 3 % ((cells.length : Int) + 1))) none).length ≤ 63 := Nat.le_trans (cut_len _ _ _) hcl
  have hE : (Pyd.cutD cells none (some (c % 3))).length ≤ 63 := Nat.le_trans (cut_len _ _ _) hcl
  generalize gA : Pyd.cutD cells none (some (c / 3 % ((cells.length : Int) + 1))) = A at hA
  generalize gB : Pyd.cutD cells (some (c / 3 % ((cells.length : Int) + 1))) none = B at hB
  generalize gE : Pyd.cutD cells none (some (c % 3)) = E at hE
  have hBE : B.length + E.length ≤ 1000000 := by omega
  have mBE : B.map Dv.int ++ E.map Dv.int = (B ++ E).map .int := by rw [List.map_append]
  obtain ⟨a, la, na, ea⟩ := e_law_light (o := false) A (by omega)
  obtain ⟨b, lb, nb, eb⟩ := e_law_light (o := false) (B ++ E) (by rw [List.length_append]; omega)
  rw [List.length_append] at nb
  have hl : ∀ e ∈ a ++ b, e.1.length = 3 ∧ Fok LL (10 ^ 30) e.2 := fun e he => by rcases List.mem_append.mp he with z | z; exact la.ok e z; exact lb.ok e z
  have nl : Nn (a ++ b) := fun e he => by rcases List.mem_append.mp he with z | z; exact la.nn e z; exact lb.nn e z
  have nz : Nn [] := fun _ z => nomatch z
  have oz : ∀ e ∈ ([] : AD), e.1.length = 3 ∧ Fok LL (10 ^ 30) e.2 := fun _ z => nomatch z
  have D30 : (10 : Nat) ^ 30 ≤ 2 ^ 280 := Nat.le_trans (by decide : (10 : Nat) ^ 30 ≤ 2 ^ 100) (Nat.pow_le_pow_right (by decide) (by decide))
  have D300 : (10 : Nat) ^ 30 ≤ 2 ^ 300 := Nat.le_trans (by decide : (10 : Nat) ^ 30 ≤ 2 ^ 100) (Nat.pow_le_pow_right (by decide) (by decide))
  have ll : LL.natAbs < 2 ^ 300 := Nat.lt_of_lt_of_le LL_lt (Nat.pow_le_pow_right (by decide) (by decide))
  have lab := List.length_append (as := a) (bs := b)
  have bo := e_law_both (o := false) (o' := false) D30 la.ok lb.ok la.nn lb.nn (by omega)
  have j12 := e_joined (o := false) (o' := false) D30 la.ok lb.ok (by omega)
  have j21 := e_joined (o := false) (o' := false) D30 lb.ok la.ok (by omega)
  have sw : srtA ((b ++ a).foldl Pyd.st []) = srtA ((a ++ b).foldl Pyd.st []) := srtA_eq (fold_ok (b ++ a) [] (nil_ok (L := LL)) (D := 10 ^ 30) fun e he => hl e (by rcases List.mem_append.mp he with z | z; exact List.mem_append.mpr (.inr z); exact List.mem_append.mpr (.inl z))).n (fold_ok (a ++ b) [] (nil_ok (L := LL)) hl).n fun k => look_swap lb.n la.n
  rw [sw] at j21
  have ja : s_joined [.lst false (a.map eD), .lst false []] = .ok (.lst true (a.map eD)) := by
    have k := e_joined (o := false) (o' := false) D30 la.ok oz (by show _ + 0 ≤ _; omega)
    rw [List.append_nil, lt_join la] at k
    exact k
  have jb : s_joined [.lst false [], .lst false (b.map eD)] = .ok (.lst true (b.map eD)) := by
    have k := e_joined (o := false) (o' := false) D30 oz lb.ok (by show 0 + _ ≤ _; omega)
    rw [List.nil_append, lt_join lb] at k
    exact k
  have j0 : s_joined [.lst false [], .lst false []] = .ok (.lst true []) := e_joined (o := false) (o' := false) D30 oz oz (by decide)
  have dk := fold_ok (a ++ b) [] (nil_ok (L := LL)) hl
  have dn := fold_nn (a ++ b) [] 0 (nil_ok (L := LL)) nz nl hl
  have dl := fold_len (a ++ b) []
  have dl0 : ([] : AD).length = 0 := rfl
  have dp := srtA_perm ((a ++ b).foldl Pyd.st [])
  have dz : (srtA ((a ++ b).foldl Pyd.st [])).length ≤ 200 := by rw [dp.length_eq]; omega
  have dm : (a ++ b).length * 10 ^ 30 ≤ 2 ^ 120 := by
    have : (a ++ b).length * 10 ^ 30 ≤ 1000 * 10 ^ 30 := Nat.mul_le_mul_right _ (by omega)
    exact Nat.le_trans this (by decide)
  have do' : ∀ e ∈ srtA ((a ++ b).foldl Pyd.st []), e.1.length = 3 ∧ Fok LL (2 ^ 120) e.2 := fun e he => ⟨dk.k e (dp.mem_iff.mp he), (dk.f e (dp.mem_iff.mp he)).up (by omega)⟩
  have dn' : Nn (srtA ((a ++ b).foldl Pyd.st [])) := fun e he => dn e (dp.mem_iff.mp he)
  generalize srtA ((a ++ b).foldl Pyd.st []) = due at bo j12 j21 dz do' dn'
  have D200 : (2 : Nat) ^ 120 ≤ 2 ^ 280 := Nat.pow_le_pow_right (by decide) (by decide)
  obtain ⟨by', hby, eby⟩ := e_strength c
  have sc1 := e_scaled (o := false) D30 la.ok one_str (by omega)
  have sc := e_scaled (o := false) D200 do' hby (by omega)
  have sc0 : s_scaled [.lst false [], fD by'] = .ok (.lst true []) := e_scaled (o := false) D30 oz hby (by decide)
  have su := e_sum_of (o := false) LL_pos ll D200 (fun e he => (do' e he).2) (by omega)
  have L2 : LL * LL = LL * LL := rfl
  have LLp : 0 < LL * LL := Int.mul_pos LL_pos LL_pos
  have LLz : (LL * LL).natAbs < 2 ^ 300 := mul_lt LL_lt LL_lt
  have so : ∀ e ∈ scA by' due, Fok (LL * LL) (2 ^ 120 * 10 ^ 30) e.2 := fun e he => by
    obtain ⟨x, hx, rfl⟩ := List.mem_map.mp he
    exact tm_ok (do' x hx).2 hby.f
  have D3 : 2 ^ 120 * 10 ^ 30 ≤ 2 ^ 280 := by decide
  have su2 := e_sum_of (o := false) LLp LLz D3 so (by unfold scA; rw [List.length_map]; omega)
  have T := sum_ok (M := LL) (D := 2 ^ 120) (due.map (·.2)) (0, 1) 0 zero_ok fun v hv => by
    obtain ⟨x, hx, rfl⟩ := List.mem_map.mp hv
    exact (do' x hx).2
  have Tn := sum_nn (due.map (·.2)) (0, 1) (by decide) (by decide) fun v hv => by
    obtain ⟨x, hx, rfl⟩ := List.mem_map.mp hv
    exact ⟨(do' x hx).2.p, dn' x hx⟩
  have Tb : 0 + (due.map (·.2)).length * 2 ^ 120 ≤ 2 ^ 280 := by
    rw [List.length_map, Nat.zero_add]
    have : due.length * 2 ^ 120 ≤ 1000 * 2 ^ 120 := Nat.mul_le_mul_right _ (by omega)
    exact Nat.le_trans this (by decide)
  have Tb2 : 0 + (due.map (·.2)).length * 2 ^ 120 ≤ 2 ^ 300 := Nat.le_trans Tb (Nat.pow_le_pow_right (by decide) (by decide))
  have lo := e_low_tm T hby.f LL_pos LL_pos ll ll Tb2 D300 Tn (by have := hby.p; omega)
  have tb1 := fok_z T LL_pos ll Tb2
  have bb1 := fok_z hby.f LL_pos ll D300
  have m1 := oMul_b (up4 tb1.1 (by decide)) (up4 bb1.1 (by decide))
  have m2 := oMul_b (up4 tb1.2 (by decide)) (up4 bb1.2 (by decide))
  have e2 : smA (scA by' due) = tm (smA due) by' := by
    have k := sum_tm (b := by') hby.f.p (due.map (·.2)) (0, 1) (by decide) fun v hv => by
      obtain ⟨x, hx, rfl⟩ := List.mem_map.mp hv
      exact (do' x hx).2.p
    rw [tm_zero hby.f.p, List.map_map] at k
    unfold smA scA
    rw [List.map_map]
    exact k
  rw [e2] at su2
  have r1 := e_refused (o := false) (l := due) (t := 0) (by decide) (up4 (k := 1) (by decide) (by decide))
  have r2 := e_refused (o := false) (l := []) (t := -1 - c / 2 % 1000000000000000000000000000000) (by omega) (up4 (k := 200) (by omega) (by decide))
  have lm := fun (q0 q1 q2 q3 q4 q5 q6 q7 q8 q10 q14 : Option Dv) => loop_more (q0 := q0) (q1 := q1) (q2 := q2) (q3 := q3) (q4 := q4) (q5 := q5) (q6 := q6) (q7 := q7) (q8 := q8) (q10 := q10) (q14 := q14) hby.f LL_pos LL_pos ll ll (Nat.le_trans D200 (Nat.pow_le_pow_right (by decide) (by decide))) D300 (by have := hby.p; omega) due [] none none (fun e he => ⟨(do' e he).2, dn' e he⟩) (by show 0 + _ < _; omega)
  have smd : smA due = (due.map (·.2)).foldl pl (0, 1) := rfl
  rw [← smd] at m1 m2 lo
  obtain ⟨p2, p3, lm⟩ := lm (some (.scr ns)) (some (.int c)) (some (.lst false (cells.map .int))) (some (.int (c / 3 % ((cells.length : Int) + 1)))) (some (.lst false (a.map eD))) (some (.lst false (b.map eD))) (some (.lst false (due.map eD))) (some (.lst false [.lst false (a.map eD), .lst false (b.map eD)])) (some (.lst false (due.map eD))) (some (.lst false ((scA by' due).map eD))) none
  rw [List.nil_append] at lm
  have fi : ∀ l : List Int, fzs (l.map .int) = l.map .int := fun l => fzs_id _ (fzns_ints l)
  have tm0 : eD = eD := rfl
  simp only [fD, List.map_nil] at sc1 sc sc0 eby su su2 lo r1 r2 lm
  unfold s_law sem_law g_law
  simp only [semB, List.map_cons, List.map_nil, List.length_cons, List.length_nil, List.replicate, List.cons_append, List.nil_append, Nat.reduceAdd, Nat.reduceSub, Nat.zero_add, gSeq, gNx, bndS, gSet, gDrop, gRet, gRetN, gIf, gBrk, gRaise, gAsg, gPar, Rs.bnd, Rz.to, pVar, pC, pBin, pUn, Pyd.o2, pChain, pA0, pA1, pCall, sP, sVar, sC, sA0, sA1, sTup, sLst, sBin, sFz, sCallB, sCallN, tP, tE, tNt, tAn, tOrr, sAnd, sOr, sNot, sIf, kName, kNil, kCons, Pyd.kTup, oI, oAddS, oAddI, oSub, oXor, oLt, oLe, oGt, oGe, oNeg, oIx, cLen, cAbs, cAll, cAny, bls, cMax2, cMin2, cInt, fz, fzs, fzn, fzns, dEq_int, dEq_str, dEq_bl, dEq_non, dEq_tup, dEq_lst, dEqs_nil, dEqs_cons, dEqs_n1, dEqs_n2, dok, oEq, oNe, oIsN, oNotN, oIsB, tyD, isB, List.getElem?_cons_zero, List.getElem?_cons_succ, List.set_cons_zero, List.set_cons_succ, Option.bind_some, Option.bind_none, Option.map_some, Option.map_none, if_true, if_false, ite_true, ite_false, Bool.not_true, Bool.not_false, Bool.and_true, Bool.true_and, Bool.and_self, Bool.false_and, Bool.and_false, Bool.or_true, Bool.true_or, Bool.or_false, Bool.false_or, decide_true, decide_false, eq_self_iff_true, and_self, true_and, and_true, List.all_cons, List.all_nil, Nat.lt_add_one, Nat.reduceLT, Nat.reduceLeDiff, Nat.zero_lt_succ, gFor, iLst, Pyd.iTup, Pyd.iAny, Option.some_inj, reduceCtorEq, Bool.false_eq_true, beq_self_eq_true, id_eq, Nat.le_refl, Nat.zero_le, Int.reduceBEq, Int.reduceEq, Int.reduceLT, Int.reduceLE, Int.reduceAdd, Int.reduceSub, Int.reduceMul, Int.reduceNeg, ↓reduceIte, Int.reduceToNat, sLc, Int.toNat_zero, Int.toNat_one, List.getElem?_nil, Int.cast_ofNat_Int, Int.natCast_add, wipeE, backE, tYs, sAdd, oAdd, sSl, oSl, pNo, pPart, decide_eq_true_eq, Bool.not_eq_true', decide_not, bne, Int.add_sub_cancel, Int.sub_add_cancel, Int.reducePow, gCnt, Int.reduceGT, Int.reduceGE, Int.reduceNe, ne_eq, not_true_eq_false, not_false_eq_true, String.reduceEq, String.reduceBEq, Bool.or_self, oMul_r, oMul_l, oDivA_pos, oModA_pos, oPow_10_30, oPow_10_60, oPow_10_4, cut_63, cut_40, cut_60, fzns_ints, Int.reduceAbs, Nat.reducePow, List.length_map, List.length_take, atI_0, atI_1, atI_2, atI_3, atI_4, atI_5, Pyd.iRng1, Pyd.iRng2, Int.toNat_natCast, sIsE, oIsE, gTry, oIsT, Bool.false_beq, Bool.true_beq, lk, lkA, List.mem_cons, List.not_mem_nil, or_false, false_or, or_true, true_or, ne_NoFraction__NoStrength, ne_NoStrength__NoFraction, sMake, sMakeB, gFld, putN, putV, oFld, lookD, sMeth, oIsI, oInT, intsD, gClr, sLcB, semI, outI, hc, hcells, cutD_map, gA, gB, gE, hBE, mBE, fi, hcut, oModA_pos hcut, ea, eb, bo, sLstC, oLstC, fzns_eD, fzs_eD, j12, j21, ja, jb, j0, dEqs_eD, dok_58, dok_59, gClrE, sc1, eby, sc, lm, su, m1, m2, lo, su2, sc0, r1, r2]

theorem law_fn {l : PySem.W.OpenLaw} {w : World} {K : PySem.W.Frag} {mg : Str → Option Value} {fa : Addr} (T : ∀ base : Heap, Txt l.prog w K mg base) (hfa : mg "law" = some (.ref fa)) :
    ∃ fd : FuncData, (∀ (s : Shared) (v : Value), BindsTo s fd ⟨[v], []⟩ [("_law_script", v)]) ∧ ∀ base : Heap, K.In base → base.Ns mainGlobals mg → FnOk l.prog w K mg base (L2.CX l.prog w) 6 fa fd ["_law_script"] (spS K) := by
  obtain ⟨f, fd, F, hm⟩ := (T default).f_law
  cases hfa.symm.trans hm
  have F0 := F
  obtain ⟨oc, od, kV, doc, pm, an, cdv, ct, osl, rfl, lk, hcd⟩ := F.ex
  refine ⟨_, ?_, fun base _ _ => sp_law law_true (law_ok (T base) F0)⟩
  exact fun s v => .of_eq rfl
end L_beamtable_k26_joined_scaled
open PySem PySem.W PyProof.Rows
set_option maxHeartbeats 0 in
theorem PySem.Challenge.cw_beamtable_k26_joined_scaled_holds : PySem.Challenge.rw_beamtable_k26_joined_scaled.Holds := by
  w_on; o_law; k_head; (case hw => w_witness2)
  k_fill
  refine L2.walk_of (l := PySem.Challenge.rw_beamtable_k26_joined_scaled) (n := 63) (k := 6) (x := "_law_script") (CX := fun w => L2.CX PySem.Challenge.rw_beamtable_k26_joined_scaled.prog w) (sp := fun w => Pyd.spS _) rfl (by decide) rfl ⟨rfl, by decide, by decide⟩ (fun w h Y => PySem.W.kIn_of Y) ?F (fun _ _ a ns hl _ hS => ⟨a, ns, rfl, hS, hl, fun _ => rfl⟩) (fun w H s e s' h => Pyd.cx_none H s e s' h)
  case F =>
    intro w mg fa h KX G hmg
    refine' L_beamtable_k26_joined_scaled.law_fn (fun base => L_beamtable_k26_joined_scaled.txt_mk KX G ?z0 ?z1 ?z2 ?z3 ?z4 ?z5 ?ka0 ?kl0 ?xa0 ?xb0 ?xk0 ?xs0 ?xt0 ?xa1 ?xb1 ?xk1 ?xs1 ?xt1 ?ya0 ?ya1 ?eg0 ?ek0 ?es0 ?ed0 ?ea0 ?em0 ?eg1 ?ek1 ?es1 ?ed1 ?ea1 ?em1 ?en ?et ?it0_0 ?it0_1 ?it1_0 ?it1_1 ?it2_0 ?it2_1 ?ctS0 ?ctD0 ?ctY0 ?ct0_0 ?ct0_1 ?a0 ?l0 ?c0 ?q0 ?a1 ?l1 ?c1 ?q1 ?a2 ?l2 ?c2 ?q2 ?a3 ?l3 ?c3 ?q3 ?a4 ?l4 ?c4 ?q4 ?a5 ?l5 ?c5 ?q5 ?a6 ?l6 ?c6 ?q6 ?a7 ?l7 ?c7 ?q7 ?a8 ?l8 ?c8 ?q8 ?a9 ?l9 ?c9 ?q9 ?a10 ?l10 ?c10 ?q10 ?a11 ?l11 ?c11 ?q11 ?a12 ?l12 ?c12 ?q12 ?a13 ?l13 ?c13 ?q13 ?a14 ?l14 ?c14 ?q14 ?a15 ?l15 ?c15 ?q15 ?a16 ?l16 ?c16 ?q16 ?a17 ?l17 ?c17 ?q17 ?a18 ?l18 ?c18 ?q18 base) hmg
    (case z0 => k_is); (case z1 => k_is); (case z2 => k_is); (case z3 => k_is); (case z4 => k_is); (case z5 => k_is); (case ka0 => k_is); (case kl0 => k_is); (case xa0 => k_is); (case xb0 => k_exc); (case xk0 => k_is); (case xs0 => k_is); (case xt0 => k_is); (case xa1 => k_is); (case xb1 => k_exc); (case xk1 => k_is); (case xs1 => k_is); (case xt1 => k_is); (case ya0 => k_is); (case ya1 => k_is); (case eg0 => k_is); (case ek0 => k_is); (case es0 => k_is); (case ed0 => k_is); (case ea0 => k_is); (case em0 => k_is); (case eg1 => k_is); (case ek1 => k_is); (case es1 => k_is); (case ed1 => k_is); (case ea1 => k_is); (case em1 => k_is); (case en => k_is); (case et => k_is); (case it0_0 => kit_is); (case it0_1 => kit_is); (case it1_0 => kit_is); (case it1_1 => kit_is); (case it2_0 => kit_is); (case it2_1 => kit_is); (case ctS0 => k_is); (case ctD0 => k_is); (case ctY0 => k_is); (case ct0_0 => k_is); (case ct0_1 => k_is); (case a0 => k_is); (case l0 => k_is); (case c0 => k_is); (case q0 => k_is); (case a1 => k_is); (case l1 => k_is); (case c1 => k_is); (case q1 => k_is); (case a2 => k_is); (case l2 => k_is); (case c2 => k_is); (case q2 => k_is); (case a3 => k_is); (case l3 => k_is); (case c3 => k_is); (case q3 => k_is); (case a4 => k_is); (case l4 => k_is); (case c4 => k_is); (case q4 => k_is); (case a5 => k_is); (case l5 => k_is); (case c5 => k_is); (case q5 => k_is); (case a6 => k_is); (case l6 => k_is); (case c6 => k_is); (case q6 => k_is); (case a7 => k_is); (case l7 => k_is); (case c7 => k_is); (case q7 => k_is); (case a8 => k_is); (case l8 => k_is); (case c8 => k_is); (case q8 => k_is); (case a9 => k_is); (case l9 => k_is); (case c9 => k_is); (case q9 => k_is); (case a10 => k_is); (case l10 => k_is); (case c10 => k_is); (case q10 => k_is); (case a11 => k_is); (case l11 => k_is); (case c11 => k_is); (case q11 => k_is); (case a12 => k_is); (case l12 => k_is); (case c12 => k_is); (case q12 => k_is); (case a13 => k_is); (case l13 => k_is); (case c13 => k_is); (case q13 => k_is); (case a14 => k_is); (case l14 => k_is); (case c14 => k_is); (case q14 => k_is); (case a15 => k_is); (case l15 => k_is); (case c15 => k_is); (case q15 => k_is); (case a16 => k_is); (case l16 => k_is); (case c16 => k_is); (case q16 => k_is); (case a17 => k_is); (case l17 => k_is); (case c17 => k_is); (case q17 => k_is); (case a18 => k_is); (case l18 => k_is); (case c18 => k_is); (case q18 => k_is)

