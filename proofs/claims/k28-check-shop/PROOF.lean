import PyProof.Rows.All
import Wide.All
import OpenK.AllK
import Wide.FinOn
import HandS.ForMost
import HandS.Walk
import HandS.TupAny
import HandS.Deep
import HandS.Wide
import HandS.IsInst
import KE.DataCmp
import KE.SortData
import KE.DataMinMax
import HandS.WordsDict
import HandS.Text
import HandS.Conv
import KE.KTupSum
import HandS.Rev
import HandS.Zip
import KE.GoesMore
import KE.GoesEnum
import HandS.SortInts
import HandS.More
import KE.KDictSum
import HandS.ExcOwn
import HandS.ExcIs
import HandS.WordsExc
import PySem.Challenge.RW_changeforall_k28_check_shop
set_option Elab.async false
set_option linter.all false
set_option maxRecDepth 100000
set_option maxHeartbeats 4000000
namespace DL
open PySem PySem.Spec PyProof.Rows L2

/-- pure data -/
inductive D where
  | non | bl (b : Bool) | int (i : Int) | str (x : Str)
  | tup (xs : List D) | lst (xs : List D)
  | dI (kvs : List (Int × D)) | dT (kvs : List (List Int × D))
  | rg (lo hi : Int) | scr (ns : List Int)

def KL (K : PySem.W.Frag) (a : Addr) (xs : List V) : Prop :=
  ∃ (o : Obj) (its : Array Value) (n : Nat), K.lookup a = some o ∧ o.cls = .type "list" ∧ o.dict = none ∧ o.data = .seq its n ∧ its.size ≤ sizeLine ∧ Vals xs its.toList

mutual
def Rep (K : PySem.W.Frag) (F : Hp) : D → V → Prop
  | .non, v => v = .non
  | .bl b, v => v = .bl b
  | .int i, v => v = .int i
  | .str x, v => v = .str x
  | .tup ds, v => ∃ a vs, v = .ref a ∧ F a = some (.tup vs) ∧ Reps K F ds vs
  | .lst ds, v => ∃ a vs, v = .ref a ∧ F a = some (.lst vs) ∧ Reps K F ds vs
  | .dI kvs, v => ∃ a ws, v = .ref a ∧ F a = some (.dK ws) ∧ RepI K F kvs ws
  | .dT kvs, v => ∃ a ws, v = .ref a ∧ F a = some (.dT ws) ∧ RepT K F kvs ws
  | .rg lo hi, v => ∃ a, v = .ref a ∧ F a = some (.rng lo hi)
  | .scr ns, v => ∃ a, v = .ref a ∧ (F a = some (.lst (ns.map V.int)) ∨ KL K a (ns.map V.int))
def Reps (K : PySem.W.Frag) (F : Hp) : List D → List V → Prop
  | [], vs => vs = []
  | d :: ds, vs => ∃ v r, vs = v :: r ∧ Rep K F d v ∧ Reps K F ds r
def RepI (K : PySem.W.Frag) (F : Hp) : List (Int × D) → List (Key × V) → Prop
  | [], ws => ws = []
  | (k, d) :: kvs, ws => ∃ v r, ws = (Sum.inl k, v) :: r ∧ Rep K F d v ∧ RepI K F kvs r
def RepT (K : PySem.W.Frag) (F : Hp) : List (List Int × D) → List (List Key × V) → Prop
  | [], ws => ws = []
  | (k, d) :: kvs, ws => ∃ v r, ws = (k.map Sum.inl, v) :: r ∧ Rep K F d v ∧ RepT K F kvs r
end

section
variable {K : PySem.W.Frag} {F F' : Hp}
mutual
theorem Rep.mono (h : Same F F') : ∀ (d : D) (v : V), Rep K F d v → Rep K F' d v
  | .non, _, r => r
  | .bl _, _, r => r
  | .int _, _, r => r
  | .str _, _, r => r
  | .tup ds, v, r => by
    unfold Rep at r ⊢
    obtain ⟨a, vs, e, f, q⟩ := r
    exact ⟨a, vs, e, h _ _ f, Reps.mono h ds vs q⟩
  | .lst ds, v, r => by
    unfold Rep at r ⊢
    obtain ⟨a, vs, e, f, q⟩ := r
    exact ⟨a, vs, e, h _ _ f, Reps.mono h ds vs q⟩
  | .dI kvs, v, r => by
    unfold Rep at r ⊢
    obtain ⟨a, vs, e, f, q⟩ := r
    exact ⟨a, vs, e, h _ _ f, RepI.mono h kvs vs q⟩
  | .dT kvs, v, r => by
    unfold Rep at r ⊢
    obtain ⟨a, vs, e, f, q⟩ := r
    exact ⟨a, vs, e, h _ _ f, RepT.mono h kvs vs q⟩
  | .rg _ _, v, r => by
    unfold Rep at r ⊢
    obtain ⟨a, e, f⟩ := r
    exact ⟨a, e, h _ _ f⟩
  | .scr _, v, r => by
    unfold Rep at r ⊢
    obtain ⟨a, e, f⟩ := r
    exact ⟨a, e, f.elim (fun f => .inl (h _ _ f)) .inr⟩
theorem Reps.mono (h : Same F F') : ∀ (ds : List D) (vs : List V), Reps K F ds vs → Reps K F' ds vs
  | [], _, r => r
  | d :: ds, vs, r => by
    unfold Reps at r ⊢
    obtain ⟨v, q, e, r1, r2⟩ := r
    exact ⟨v, q, e, Rep.mono h d v r1, Reps.mono h ds q r2⟩
theorem RepI.mono (h : Same F F') : ∀ (kvs : List (Int × D)) (ws : List (Key × V)), RepI K F kvs ws → RepI K F' kvs ws
  | [], _, r => r
  | (k, d) :: kvs, ws, r => by
    unfold RepI at r ⊢
    obtain ⟨v, q, e, r1, r2⟩ := r
    exact ⟨v, q, e, Rep.mono h d v r1, RepI.mono h kvs q r2⟩
theorem RepT.mono (h : Same F F') : ∀ (kvs : List (List Int × D)) (ws : List (List Key × V)), RepT K F kvs ws → RepT K F' kvs ws
  | [], _, r => r
  | (k, d) :: kvs, ws, r => by
    unfold RepT at r ⊢
    obtain ⟨v, q, e, r1, r2⟩ := r
    exact ⟨v, q, e, Rep.mono h d v r1, RepT.mono h kvs q r2⟩
end
end
end DL
set_option autoImplicit false
set_option maxRecDepth 100000
set_option maxHeartbeats 4000000
namespace DL
open PySem PySem.Spec PyProof.Rows L2
section
variable {K : PySem.W.Frag} {F F' H H' H1 H2 F1 F2 B F0 : Hp}

/-! ### lists of data -/
theorem Reps.len : ∀ {ds : List D} {vs : List V}, Reps K F ds vs → ds.length = vs.length
  | [], _, r => by unfold Reps at r; subst r; rfl
  | d :: ds, vs, r => by
    unfold Reps at r
    obtain ⟨v, q, rfl, _, r2⟩ := r
    simp [Reps.len r2]
theorem Reps.nil : Reps K F [] [] := by unfold Reps; rfl
theorem Reps.cons {d v ds vs} (h : Rep K F d v) (t : Reps K F ds vs) : Reps K F (d :: ds) (v :: vs) := by unfold Reps; exact ⟨v, vs, rfl, h, t⟩
theorem Reps.inv {d ds vs} (r : Reps K F (d :: ds) vs) : ∃ v q, vs = v :: q ∧ Rep K F d v ∧ Reps K F ds q := by unfold Reps at r; exact r
theorem Reps.nil_inv {vs} (r : Reps K F [] vs) : vs = [] := by unfold Reps at r; exact r
theorem Reps.get : ∀ {ds : List D} {vs : List V} {i : Nat} {d : D}, Reps K F ds vs → ds[i]? = some d → ∃ v, vs[i]? = some v ∧ Rep K F d v
  | [], _, _, _, _, e => by simp at e
  | d :: ds, vs, 0, x, r, e => by
    obtain ⟨v, q, rfl, r1, _⟩ := r.inv
    simp at e; subst e; exact ⟨v, rfl, r1⟩
  | d :: ds, vs, i + 1, x, r, e => by
    obtain ⟨v, q, rfl, _, r2⟩ := r.inv
    obtain ⟨y, h1, h2⟩ := Reps.get (i := i) r2 (by simpa using e)
    exact ⟨y, by simpa using h1, h2⟩
theorem Reps.append : ∀ {ds es : List D} {vs ws : List V}, Reps K F ds vs → Reps K F es ws → Reps K F (ds ++ es) (vs ++ ws)
  | [], _, _, _, r, s => by rw [r.nil_inv]; exact s
  | d :: ds, es, vs, ws, r, s => by
    obtain ⟨v, q, rfl, r1, r2⟩ := r.inv
    exact .cons r1 (Reps.append r2 s)
theorem Reps.take : ∀ {ds : List D} {vs : List V} (n : Nat), Reps K F ds vs → Reps K F (ds.take n) (vs.take n)
  | _, _, 0, _ => .nil
  | [], _, n + 1, r => by rw [r.nil_inv]; exact .nil
  | d :: ds, vs, n + 1, r => by
    obtain ⟨v, q, rfl, r1, r2⟩ := r.inv
    exact .cons r1 (Reps.take n r2)
theorem Reps.drop : ∀ {ds : List D} {vs : List V} (n : Nat), Reps K F ds vs → Reps K F (ds.drop n) (vs.drop n)
  | _, _, 0, r => r
  | [], _, n + 1, r => by rw [r.nil_inv]; exact .nil
  | d :: ds, vs, n + 1, r => by
    obtain ⟨v, q, rfl, r1, r2⟩ := r.inv
    exact Reps.drop n r2
theorem Reps.set {x : D} {y : V} (h : Rep K F x y) : ∀ {ds : List D} {vs : List V} (i : Nat), Reps K F ds vs → Reps K F (ds.set i x) (vs.set i y)
  | [], _, _, r => by rw [r.nil_inv]; exact .nil
  | d :: ds, vs, 0, r => by
    obtain ⟨v, q, rfl, r1, r2⟩ := r.inv
    exact .cons h r2
  | d :: ds, vs, i + 1, r => by
    obtain ⟨v, q, rfl, r1, r2⟩ := r.inv
    exact .cons r1 (Reps.set h i r2)
theorem Reps.reverse : ∀ {ds : List D} {vs : List V}, Reps K F ds vs → Reps K F ds.reverse vs.reverse
  | [], _, r => by rw [r.nil_inv]; exact .nil
  | d :: ds, vs, r => by
    obtain ⟨v, q, rfl, r1, r2⟩ := r.inv
    rw [List.reverse_cons, List.reverse_cons]
    exact (Reps.reverse r2).append (.cons r1 .nil)
theorem Reps.rep {ds : List D} {vs : List V} (h : Reps K F ds vs) : ∀ k : Nat, Reps K F (List.replicate k ds).flatten (List.replicate k vs).flatten
  | 0 => .nil
  | k + 1 => by
    rw [List.replicate_succ, List.replicate_succ, List.flatten_cons, List.flatten_cons]
    exact h.append (Reps.rep h k)
theorem Reps.ints : ∀ {ns : List Int} {vs : List V}, Reps K F (ns.map D.int) vs → vs = ns.map V.int
  | [], _, r => r.nil_inv
  | n :: ns, vs, r => by
    obtain ⟨v, q, rfl, r1, r2⟩ := r.inv
    unfold Rep at r1
    rw [r1, Reps.ints r2]; rfl
theorem Reps.ofInts : ∀ (ns : List Int), Reps K F (ns.map D.int) (ns.map V.int)
  | [] => .nil
  | n :: ns => .cons (by unfold Rep; rfl) (Reps.ofInts ns)

/-! ### frozen in the heap -/
def Sub (F H : Hp) : Prop := ∀ a o, F a = some o → H a = some o ∨ ((∀ vs, o ≠ .tup vs) ∧ ∃ ob, H a = some (.frz ob o))
theorem Sub.rd (s : Sub F H) {a : Addr} {o : HO} (h : F a = some o) : Rd H a o := (s a o h).elim .inl fun h => .inr h.2
theorem Sub.tup (s : Sub F H) {a : Addr} {vs : List V} (h : F a = some (.tup vs)) : H a = some (.tup vs) := (s a _ h).elim id fun h => absurd rfl (h.1 vs)
theorem lst_sq {a : Addr} {vs : List V} (h : F a = some (.lst vs)) (s : Sub F H) : SqL K H a vs := .inl (s.rd h)
theorem scr_sq {a : Addr} {vs : List V} (h : F a = some (.lst vs) ∨ KL K a vs) (s : Sub F H) : SqL K H a vs := h.elim (fun h => .inl (s.rd h)) .inr
theorem tup_sq {a vs} (h : F a = some (.tup vs)) (s : Sub F H) : SqT K H a vs := .inl (s.rd h)

/-- the frozen part and the heap have grown -/
structure Ext (F H F' H' : Hp) : Prop where
  heap : Same H H'
  froz : Same F F'
  sub : Sub F' H'
  new : ∀ a o, F' a = some o → F a = none → H a = none ∨ ∃ vs, o = .tup vs
theorem Ext.refl (s : Sub F H) : Ext F H F H := ⟨Same.refl _, Same.refl _, s, fun a o h n => by rw [h] at n; cases n⟩
theorem Ext.trans (a : Ext F H F1 H1) (b : Ext F1 H1 F2 H2) : Ext F H F2 H2 :=
  ⟨a.heap.trans b.heap, a.froz.trans b.froz, b.sub, fun x o h n => by
    cases q : F1 x with
    | some u =>
      have e := b.froz x u q
      rw [h] at e
      cases e
      exact a.new x _ q n
    | none => exact (b.new x o h q).imp a.heap.free id⟩
theorem Ext.stay (x : Ext F H F' H') {p : Addr} {o : HO} (n : F p = none) (h : H p = some o) (ho : ∀ vs, o ≠ .tup vs) : F' p = none := by
  cases q : F' p with
  | none => rfl
  | some u =>
    rcases x.new p u q n with h1 | ⟨vs, rfl⟩
    · rw [h] at h1; cases h1
    · have h2 := x.sub.tup q
      rw [x.heap _ _ h] at h2
      exact absurd (Option.some.inj h2) (ho vs)
theorem same_new {p : Addr} {o : HO} (n : H p = none) : Same H (upd H p o) := fun b x e => by rw [upd_ne (ne_of_none e n)]; exact e
theorem Sub.keep (s : Sub F H) (h : Same H H') : Sub F H' := fun a o e => (s a o e).elim (fun e => .inl (h _ _ e)) fun ⟨t, u, e⟩ => .inr ⟨t, u, h _ _ e⟩
theorem Sub.none (s : Sub F H) {p} (n : H p = none) : F p = none := by
  cases q : F p with
  | none => rfl
  | some o => rcases s p o q with e | ⟨_, u, e⟩ <;> rw [n] at e <;> cases e
/-- a new object, frozen at once -/
theorem Ext.frz {p : Addr} {o : HO} (s : Sub F H) (n : H p = none) : Ext F H (upd F p o) (upd H p o) :=
  ⟨same_new n, same_new (s.none n), fun a u e => by
    by_cases h : a = p
    · subst h; rw [upd_same] at e; cases e; exact .inl upd_same
    · rw [upd_ne h] at e; exact s.keep (same_new n) a u e, fun a u e q => by
    by_cases h : a = p
    · subst h; exact .inl n
    · rw [upd_ne h, q] at e; cases e⟩
/-- a new object, not frozen -/
theorem Ext.own {p : Addr} {o : HO} (s : Sub F H) (n : H p = none) : Ext F H F (upd H p o) :=
  ⟨same_new n, Same.refl _, s.keep (same_new n), fun a u e q => by rw [e] at q; cases q⟩
theorem Ext.heapOnly (s : Sub F H) (h : Same H H') : Ext F H F H' := ⟨h, Same.refl _, s.keep h, fun a u e q => by rw [e] at q; cases q⟩

/-! ### slots -/
inductive Sl where
  | no | val (d : D) | own (d : D)
def nthS : List Sl → Nat → Sl
  | [], _ => .no
  | s :: _, 0 => s
  | _ :: r, i + 1 => nthS r i
def setS : List Sl → Nat → Sl → List Sl
  | [], _, _ => []
  | _ :: r, 0, x => x :: r
  | s :: r, i + 1, x => s :: setS r i x
theorem nth_set_self : ∀ {ρ : List Sl} {i : Nat} {x : Sl}, i < ρ.length → nthS (setS ρ i x) i = x
  | [], _, _, h => by simp at h
  | _ :: _, 0, _, _ => rfl
  | _ :: r, i + 1, x, h => nth_set_self (ρ := r) (i := i) (by simpa using h)
theorem nth_set_ne : ∀ {ρ : List Sl} {i j : Nat} {x : Sl}, i ≠ j → nthS (setS ρ i x) j = nthS ρ j
  | [], _, _, _, _ => rfl
  | _ :: _, 0, 0, _, h => absurd rfl h
  | _ :: _, 0, _ + 1, _, _ => rfl
  | _ :: _, _ + 1, 0, _, _ => rfl
  | _ :: r, i + 1, j + 1, x, h => nth_set_ne (ρ := r) (i := i) (j := j) (fun e => h (by rw [e]))
theorem set_length : ∀ {ρ : List Sl} {i : Nat} {x : Sl}, (setS ρ i x).length = ρ.length
  | [], _, _ => rfl
  | _ :: _, 0, _ => rfl
  | _ :: r, i + 1, x => by simp only [setS, List.length_cons]; rw [set_length]
theorem nth_lt : ∀ {ρ : List Sl} {i : Nat}, nthS ρ i ≠ .no → i < ρ.length
  | [], _, h => absurd rfl h
  | _ :: _, 0, _ => by simp
  | _ :: r, i + 1, h => by
    have := nth_lt (ρ := r) (i := i) h
    simp only [List.length_cons]; omega

/-- an object of one's own: what it holds is frozen, it itself is not -/
def OwnO (K : PySem.W.Frag) (F : Hp) : D → HO → Prop
  | .lst ds, o => ∃ vs, o = .lst vs ∧ Reps K F ds vs
  | .dI kvs, o => ∃ ws, o = .dK ws ∧ RepI K F kvs ws
  | .dT kvs, o => ∃ ws, o = .dT ws ∧ RepT K F kvs ws
  | _, _ => False
theorem OwnO.notTup {d : D} {o : HO} {vs : List V} (r : OwnO K F d o) (e : o = .tup vs) : False := by
  subst e
  cases d with
  | lst ds => obtain ⟨vs, e, _⟩ := r; cases e
  | dI kvs => obtain ⟨vs, e, _⟩ := r; cases e
  | dT kvs => obtain ⟨vs, e, _⟩ := r; cases e
  | _ => exact r
theorem OwnO.mono (h : Same F F') {d o} (r : OwnO K F d o) : OwnO K F' d o := by
  cases d with
  | lst ds => obtain ⟨vs, e, r⟩ := r; exact ⟨vs, e, Reps.mono h _ _ r⟩
  | dI kvs => obtain ⟨vs, e, r⟩ := r; exact ⟨vs, e, RepI.mono h _ _ r⟩
  | dT kvs => obtain ⟨vs, e, r⟩ := r; exact ⟨vs, e, RepT.mono h _ _ r⟩
  | _ => exact r
theorem OwnO.rep {d o p} (r : OwnO K F d o) (e : F' p = some o) (h : Same F F') : Rep K F' d (.ref p) := by
  cases d with
  | lst ds => obtain ⟨vs, rfl, r⟩ := r; unfold Rep; exact ⟨p, vs, rfl, e, Reps.mono h _ _ r⟩
  | dI kvs => obtain ⟨vs, rfl, r⟩ := r; unfold Rep; exact ⟨p, vs, rfl, e, RepI.mono h _ _ r⟩
  | dT kvs => obtain ⟨vs, rfl, r⟩ := r; unfold Rep; exact ⟨p, vs, rfl, e, RepT.mono h _ _ r⟩
  | _ => exact False.elim r

/-- what is read of the slots -/
structure VR (K : PySem.W.Frag) (ρ : List Sl) (σ : L2.St) (F H : Hp) : Prop where
  sub : Sub F H
  len : σ.length = ρ.length
  vals : ∀ i d, nthS ρ i = .val d → ∃ v, σ[i]? = some (some v) ∧ Rep K F d v
  owns : ∀ i d, nthS ρ i = .own d → ∃ p o, σ[i]? = some (some (.ref p)) ∧ H p = some o ∧ OwnO K F d o ∧ F p = none
theorem VR.ext {ρ σ} (r : VR K ρ σ F H) (e : Ext F H F' H') : VR K ρ σ F' H' :=
  ⟨e.sub, r.len, fun i d h => let ⟨v, a, b⟩ := r.vals i d h; ⟨v, a, Rep.mono e.froz _ _ b⟩, fun i d h => by
    obtain ⟨p, o, a, b, c, n⟩ := r.owns i d h
    exact ⟨p, o, a, e.heap _ _ b, c.mono e.froz, e.stay n b fun vs z => c.notTup z⟩⟩

/-! ### all that is one's own, taken for frozen -/
def frzS : Sl → Sl
  | .own d => .val d
  | s => s
theorem nth_frz : ∀ (ρ : List Sl) (i : Nat), nthS (ρ.map frzS) i = frzS (nthS ρ i)
  | [], _ => rfl
  | _ :: _, 0 => rfl
  | _ :: r, i + 1 => nth_frz r i
open Classical in
noncomputable def allF (ρ : List Sl) (σ : L2.St) (F H : Hp) : Hp := fun a => if ∃ i d, nthS ρ i = .own d ∧ σ[i]? = some (some (.ref a)) then H a else F a
theorem VR.allF {ρ σ} (r : VR K ρ σ F H) : Same F (allF ρ σ F H) ∧ VR K (ρ.map frzS) σ (allF ρ σ F H) H := by
  have hs : Same F (DL.allF ρ σ F H) := fun a o e => by
    unfold DL.allF
    split
    · rename_i h
      obtain ⟨i, d, h1, h2⟩ := h
      obtain ⟨p, u, a1, b, c, n⟩ := r.owns i d h1
      rw [a1] at h2; cases h2
      rw [n] at e; cases e
    · exact e
  refine ⟨hs, fun a o e => ?_, by rw [List.length_map]; exact r.len, fun i d h => ?_, fun i d h => ?_⟩
  · unfold DL.allF at e
    split at e
    · exact .inl e
    · exact r.sub a o e
  · rw [nth_frz] at h
    cases q : nthS ρ i with
    | no => rw [q] at h; cases h
    | val e =>
      rw [q] at h; cases h
      obtain ⟨v, a, b⟩ := r.vals i d q
      exact ⟨v, a, Rep.mono hs _ _ b⟩
    | own e =>
      rw [q] at h; cases h
      obtain ⟨p, o, a, b, c, n⟩ := r.owns i d q
      refine ⟨_, a, c.rep ?_ hs⟩
      unfold DL.allF
      rw [if_pos ⟨i, d, q, a⟩]; exact b
  · rw [nth_frz] at h
    cases q : nthS ρ i <;> rw [q] at h <;> cases h
end

/-! ### where one stands: the law (G), the def (its names, its level), the scope -/
structure GX where
  P : Program
  w : World
  K : PySem.W.Frag
  mg : Str → Option Value
  base : Heap
structure LX where
  N : List Str
  k : Nat
  sc : Scope
  ow : Str → Bool
structure XOk (G : GX) (L : LX) (X : Cx) : Prop where
  hP : X.prog = G.P
  hw : X.w = G.w
  hK : X.K = G.K
  hm : X.mg = G.mg
  hb : X.base = G.base
  hN : X.N = L.N
  nd : L.N.Nodup
  hsc : X.env.scope = L.sc
  hfn : X.fn = L.ow
  calm : X.calm = true
  room : Room L.k X.A

/-! ### the judgements -/
def tE (K : PySem.W.Frag) (ρ : List Sl) (m : Option D) : TE := fun σ H Q => ∃ F d, m = some d ∧ VR K ρ σ F H ∧ ∀ v F' H', Ext F H F' H' → Rep K F' d v → Q v H'
def tT (K : PySem.W.Frag) (ρ : List Sl) (m : Option Bool) : TT := fun σ H Q => ∃ F b, m = some b ∧ VR K ρ σ F H ∧ ∀ F' H', Ext F H F' H' → Q b H'
def tF (K : PySem.W.Frag) (ρ : List Sl) (m : Option D) : TE := fun σ H Q => ∃ F d, m = some d ∧ VR K ρ σ F H ∧ ∀ p o F' H', Ext F H F' H' → H p = none → H' p = some o → OwnO K F' d o → F' p = none → Q (.ref p) H'
def tA (K : PySem.W.Frag) (ρ : List Sl) (m : Option (List D)) : TA := fun σ H Q => ∃ F ds, m = some ds ∧ VR K ρ σ F H ∧ ∀ vs F' H', Ext F H F' H' → Reps K F' ds vs → Q vs H'
def EOk (G : GX) (L : LX) (ρ : List Sl) (e : Expr) (m : Option D) : Prop := ∀ X, XOk G L X → PE X e (tE G.K ρ m)
def FOk (G : GX) (L : LX) (ρ : List Sl) (e : Expr) (m : Option D) : Prop := ∀ X, XOk G L X → PE X e (tF G.K ρ m)
def TOk (G : GX) (L : LX) (ρ : List Sl) (e : Expr) (m : Option Bool) : Prop := ∀ X, XOk G L X → PT X e (tT G.K ρ m)
def WOk (G : GX) (L : LX) (ρ : List Sl) (e : Expr) (m : Option Bool) : Prop := ∀ X, XOk G L X → PW X e (tT G.K ρ m)
def AOk (G : GX) (L : LX) (ρ : List Sl) (es : List Expr) (m : Option (List D)) : Prop := ∀ X, XOk G L X → PA X es (tA G.K ρ m)
theorem wkE {X : Cx} {e : Expr} {t t' : TE} (h : PE X e t) (w : ∀ σ H Q, t' σ H Q → t σ H Q) : PE X e t' := ⟨fun pins s σ H Q I q => h.run pins s σ H Q I (w σ H Q q)⟩
theorem wkT {X : Cx} {e : Expr} {t t' : TT} (h : PT X e t) (w : ∀ σ H Q, t' σ H Q → t σ H Q) : PT X e t' := ⟨fun pins s σ H Q I q => h.run pins s σ H Q I (w σ H Q q)⟩
theorem wkW {X : Cx} {e : Expr} {t t' : TT} (h : PW X e t) (w : ∀ σ H Q, t' σ H Q → t σ H Q) : PW X e t' := ⟨fun wh pins s σ H Q I q => h.run wh pins s σ H Q I (w σ H Q q)⟩
theorem wkA {X : Cx} {es : List Expr} {t t' : TA} (h : PA X es t) (w : ∀ σ H Q, t' σ H Q → t σ H Q) : PA X es t' := ⟨fun pos pins s σ H Q I q => h.run pos pins s σ H Q I (w σ H Q q)⟩

section
variable {G : GX} {L : LX} {ρ : List Sl} {e a b : Expr} {m ma mb : Option D} {pos : Pos}

/-- a new object of one's own is frozen -/
theorem e_new (h : FOk G L ρ e m) : EOk G L ρ e m := fun X hX => wkE (h X hX) fun σ H Q ⟨F, d, em, r, q⟩ => ⟨F, d, em, r, fun p o F' H' x n ho r' hF => by
  have s2 : Same F' (upd F' p o) := fun b u e => by
    by_cases hb : b = p
    · subst hb; rw [hF] at e; cases e
    · rw [upd_ne hb]; exact e
  have e2 : Ext F H (upd F' p o) H' := ⟨x.heap, x.froz.trans s2, fun b u e => by
    by_cases hb : b = p
    · subst hb; rw [upd_same] at e; cases e; exact .inl ho
    · rw [upd_ne hb] at e; exact x.sub b u e, fun b u e z => by
    by_cases hb : b = p
    · subst hb; exact .inl n
    · rw [upd_ne hb] at e; exact x.new b u e z⟩
  exact q _ _ _ e2 (r'.rep upd_same s2)⟩
def flatD : D → Bool
  | .non => true | .bl _ => true | .int _ => true | .str _ => true | _ => false
def flatG (d : D) : Option D := if flatD d then some d else none
theorem rep_flat {K : PySem.W.Frag} {F F' : Hp} {d : D} {v : V} (f : flatD d = true) (r : Rep K F d v) : Rep K F' d v := by
  cases d with
  | non => unfold Rep at r ⊢; exact r
  | bl => unfold Rep at r ⊢; exact r
  | int => unfold Rep at r ⊢; exact r
  | str => unfold Rep at r ⊢; exact r
  | _ => cases f
/-- what is one's own may be read as if frozen where nothing but a scalar comes out -/
theorem e_flat (h : EOk G L (ρ.map frzS) e m) : EOk G L ρ e (m.bind flatG) := fun X hX => wkE (h X hX) fun σ H Q ⟨F, d, em, r, q⟩ => by
  obtain ⟨x, ex, em⟩ := Option.bind_eq_some_iff.mp em
  unfold flatG at em
  split at em
  · rename_i hf
    cases em
    obtain ⟨hs, r'⟩ := r.allF
    refine ⟨_, d, ex, r', fun v F' H' x rr => q v F H' (.heapOnly r.sub x.heap) (rep_flat hf rr)⟩
  · cases em
theorem t_frz {m : Option Bool} (h : TOk G L (ρ.map frzS) e m) : TOk G L ρ e m := fun X hX => wkT (h X hX) fun σ H Q ⟨F, d, em, r, q⟩ => by
  obtain ⟨hs, r'⟩ := r.allF
  exact ⟨_, d, em, r', fun F' H' x => q F H' (.heapOnly r.sub x.heap)⟩

/-! ### names and constants -/
theorem e_var (i : Nat) {x : Str} {d : D} (h : nthS ρ i = .val d := by rfl) (hN : L.N[i]? = some x := by rfl) (hv : Vis L.sc x := by first | exact Or.inl rfl | exact Or.inr (Or.inl rfl) | exact Or.inr (Or.inr rfl))
    (hd : (x == ("__debug__" : Str)) = false := by decide) (hcd : (x == ("__classdict__" : Str)) = false := by decide) : EOk G L ρ (.Name x pos) (some d) := fun X hX =>
  wkE (pe_var (i := i) (by rw [hX.hN]; exact hN) (by rw [hX.hsc]; exact hv) hd hcd) fun σ H Q ⟨F, d', em, r, q⟩ => by
    cases em
    obtain ⟨v, e1, e2⟩ := r.vals i d h
    exact ⟨v, e1, q v F H (.refl r.sub) e2⟩
theorem e_const {v : V} {d : D} (h : ∀ X, XOk G L X → PE X e (tC v)) (hr : ∀ K F, Rep K F d v) : EOk G L ρ e (some d) := fun X hX =>
  wkE (h X hX) fun σ H Q ⟨F, d', em, r, q⟩ => by cases em; exact q v F H (.refl r.sub) (hr _ _)
theorem e_int {i j} : EOk G L ρ (.Constant (.int i) j pos) (some (.int i)) := e_const (fun _ _ => pe_int) fun _ _ => by unfold Rep; rfl
theorem e_bl {i j} : EOk G L ρ (.Constant (.bool i) j pos) (some (.bl i)) := e_const (fun _ _ => pe_bl) fun _ _ => by unfold Rep; rfl
theorem e_non {j} : EOk G L ρ (.Constant .none j pos) (some .non) := e_const (fun _ _ => pe_non) fun _ _ => by unfold Rep; rfl
theorem e_str {x j} : EOk G L ρ (.Constant (.str x) j pos) (some (.str x)) := e_const (fun _ _ => pe_str) fun _ _ => by unfold Rep; rfl
/-- a module's constant -/
theorem e_glob {x : Str} {v : V} {d : D} {u : Value} (hg : L.sc.names.lookup x = some .globalImplicit) (hm : G.mg x = some u) (r : RelV v u) (hr : ∀ K F, Rep K F d v) (hd : (x == ("__debug__" : Str)) = false := by decide) : EOk G L ρ (.Name x pos) (some d) :=
  e_const (fun X hX => pe_glob (by show X.env.scope.names.lookup x = _; rw [hX.hsc]; exact hg) (by rw [hX.hm]; exact hm) r hd) hr

/-! ### operators -/
def E2 (f : D → D → Option D) (ma mb : Option D) : Option D := ma.bind fun x => mb.bind fun y => f x y
/-- f tells what g does of the values -/
def OpD (G : GX) (L : LX) (f : D → D → Option D) (g : Value → Value → Sem Value) : Prop := ∀ X, XOk G L X → ∃ r : R2, OpR X g r ∧
  ∀ F H d1 d2 d v1 v2 Q, Sub F H → Rep G.K F d1 v1 → Rep G.K F d2 v2 → f d1 d2 = some d → (∀ v F' H', Ext F H F' H' → Rep G.K F' d v → Q v H') → r v1 v2 H Q
theorem E2_some {f : D → D → Option D} {ma mb : Option D} {d : D} (h : E2 f ma mb = some d) : ∃ x y, ma = some x ∧ mb = some y ∧ f x y = some d := by
  unfold E2 at h
  obtain ⟨x, ex, h⟩ := Option.bind_eq_some_iff.mp h
  obtain ⟨y, ey, h⟩ := Option.bind_eq_some_iff.mp h
  exact ⟨x, y, ex, ey, h⟩
theorem two {X : Cx} {K : PySem.W.Frag} {d : D} {f : D → D → Option D} {σ : L2.St} {H : Hp} {F : Hp} {Q : VK} {r : R2} (h : E2 f ma mb = some d) (vr : VR K ρ σ F H) (q : ∀ v F' H', Ext F H F' H' → Rep K F' d v → Q v H')
    (rule : ∀ F H d1 d2 d v1 v2 Q, Sub F H → Rep K F d1 v1 → Rep K F d2 v2 → f d1 d2 = some d → (∀ v F' H', Ext F H F' H' → Rep K F' d v → Q v H') → r v1 v2 H Q) : tOp r (tE K ρ ma) (tE K ρ mb) σ H Q := by
  obtain ⟨x, y, ex, ey, h⟩ := E2_some h
  refine ⟨F, x, ex, vr, fun v1 F1 H1 x1 r1 => ⟨F1, y, ey, vr.ext x1, fun v2 F2 H2 x2 r2 => ?_⟩⟩
  exact rule F2 H2 x y d v1 v2 Q x2.sub (Rep.mono x2.froz _ _ r1) r2 h fun v F3 H3 x3 r3 => q v F3 H3 ((x1.trans x2).trans x3) r3
theorem e_op {op : Operator} {f : D → D → Option D} (ho : OpD G L f (binaryOp op)) (ha : EOk G L ρ a ma) (hb : EOk G L ρ b mb) : EOk G L ρ (.BinOp a op b pos) (E2 f ma mb) := fun X hX => by
  obtain ⟨r, h1, h2⟩ := ho X hX
  exact wkE (pe_op h1 (ha X hX) (hb X hX)) fun σ H Q ⟨F, d, em, vr, q⟩ => two (X := X) em vr q h2
theorem e_cmp {op : CmpOp} {f : D → D → Option D} (ho : OpD G L f (compareOp op)) (ha : EOk G L ρ a ma) (hb : EOk G L ρ b mb) (hm : behindInMarks op b = false := by first | exact nomark _ | with_unfolding_all rfl) : EOk G L ρ (.Compare a [op] [b] pos) (E2 f ma mb) := fun X hX => by
  obtain ⟨r, h1, h2⟩ := ho X hX
  exact wkE (pe_cmpR h1 (ha X hX) (hb X hX) hm) fun σ H Q ⟨F, d, em, vr, q⟩ => two (X := X) em vr q h2
def getB : D → Option Bool
  | .bl b => some b
  | _ => none
theorem rep_bl {K : PySem.W.Frag} {F : Hp} {d : D} {v : V} {b : Bool} (h : getB d = some b) (r : Rep K F d v) : v = .bl b := by
  cases d with
  | bl c => cases h; unfold Rep at r; exact r
  | _ => cases h
theorem t_cmp {op : CmpOp} {f : D → D → Option D} (ho : OpD G L f (compareOp op)) (ha : EOk G L ρ a ma) (hb : EOk G L ρ b mb) (hm : behindInMarks op b = false := by first | exact nomark _ | with_unfolding_all rfl) : TOk G L ρ (.Compare a [op] [b] pos) ((E2 f ma mb).bind getB) := fun X hX => by
  obtain ⟨r, h1, h2⟩ := ho X hX
  refine wkT (pt_cmpR h1 (ha X hX) (hb X hX) hm) fun σ H Q ⟨F, d, em, vr, q⟩ => ?_
  obtain ⟨y, ey, eb⟩ := Option.bind_eq_some_iff.mp em
  exact two (X := X) ey vr (fun v F' H' x rr => ⟨d, rep_bl eb rr, q F' H' x⟩) h2
def unD (f : D → Option D) (m : Option D) : Option D := m.bind f
theorem e_neg (ha : EOk G L ρ a ma) : EOk G L ρ (.UnaryOp .USub a pos) (ma.bind fun d => match d with | .int i => some (.int (-i)) | _ => none) := fun X hX =>
  wkE (pe_un un_neg (ha X hX)) fun σ H Q ⟨F, d, em, vr, q⟩ => by
    obtain ⟨y, ey, eb⟩ := Option.bind_eq_some_iff.mp em
    refine ⟨F, y, ey, vr, fun v F' H' x rr => ?_⟩
    cases y with
    | int i => cases eb; unfold Rep at rr; exact ⟨i, rr, q _ F' H' x (by unfold Rep; rfl)⟩
    | _ => cases eb

/-! ### tests -/
/-- an expression whose value is True or False, as a test -/
theorem t_val (h : EOk G L ρ e m) (he : ∀ env whole, isTrue e env whole = (do let v ← whole; standAt e.pos; holding [v] (truthy v)) := by intro _ _; rfl) : TOk G L ρ e (m.bind getB) := fun X hX =>
  wkT (pt_val (h X hX) (he _)) fun σ H Q ⟨F, d, em, vr, q⟩ => by
    obtain ⟨y, ey, eb⟩ := Option.bind_eq_some_iff.mp em
    exact ⟨F, y, ey, vr, fun v F' H' x rr => ⟨d, rep_bl eb rr, q F' H' x⟩⟩
def truD : D → Option Bool
  | .non => some false
  | .bl b => some b
  | .int i => some (i != 0)
  | .lst ds => some (!ds.isEmpty)
  | .tup ds => some (!ds.isEmpty)
  | _ => none
theorem isEmpty_reps {K : PySem.W.Frag} {F : Hp} {ds : List D} {vs : List V} (r : Reps K F ds vs) : ds.isEmpty = vs.isEmpty := by
  cases ds with
  | nil => rw [r.nil_inv]; rfl
  | cons d ds => obtain ⟨v, q, rfl, _⟩ := r.inv; rfl
/-- an expression's truth, as a test -/
theorem t_tru (h : EOk G L ρ e m) (he : ∀ env whole, isTrue e env whole = (do let v ← whole; standAt e.pos; holding [v] (truthy v)) := by intro _ _; rfl) : TOk G L ρ e (m.bind truD) := fun X hX =>
  wkT (pt_truth (h X hX) (he _)) fun σ H Q ⟨F, d, em, vr, q⟩ => by
    obtain ⟨y, ey, eb⟩ := Option.bind_eq_some_iff.mp em
    refine ⟨F, y, ey, vr, fun v F' H' x rr => ⟨d, ?_, q F' H' x⟩⟩
    rw [hX.hK]
    cases y with
    | non => cases eb; unfold Rep at rr; subst rr; rfl
    | bl b => cases eb; unfold Rep at rr; subst rr; rfl
    | int b => cases eb; unfold Rep at rr; subst rr; rfl
    | lst ds =>
      cases eb
      unfold Rep at rr
      obtain ⟨p, vs, rfl, hl, hr⟩ := rr
      exact .inl ⟨vs, lst_sq hl x.sub, by rw [isEmpty_reps hr]⟩
    | tup ds =>
      cases eb
      unfold Rep at rr
      obtain ⟨p, vs, rfl, hl, hr⟩ := rr
      exact .inr (.inl ⟨vs, tup_sq hl x.sub, by rw [isEmpty_reps hr]⟩)
    | str => cases eb
    | dI => cases eb
    | dT => cases eb
    | rg => cases eb
    | scr => cases eb
end
end DL
set_option autoImplicit false
set_option maxRecDepth 100000
set_option maxHeartbeats 4000000
namespace DL
open PySem PySem.Spec PySem.SeqAt PyProof.Rows L2
open PySem.W (dataLt alike alikeAll lt_data gt_data le_data ge_data)

/-! ### data as the library's data -/
mutual
def toPy : D → PyData
  | .non => .none
  | .bl b => .bool b
  | .int i => .int i
  | .str x => .str x
  | .tup ds => .tuple (toPys ds)
  | .lst ds => .list (toPys ds)
  | _ => .dict []
def toPys : List D → List PyData
  | [] => []
  | d :: ds => toPy d :: toPys ds
end
mutual
/-- no dict, no range, no script in it -/
def plain : D → Bool
  | .non => true | .bl _ => true | .int _ => true
  | .str x => PyData.strOk x
  | .tup ds => plains ds
  | .lst ds => plains ds
  | _ => false
def plains : List D → Bool
  | [] => true
  | d :: ds => plain d && plains ds
end
mutual
def dep : D → Nat
  | .tup ds => deps ds + 1
  | .lst ds => deps ds + 1
  | _ => 0
def deps : List D → Nat
  | [] => 0
  | d :: ds => max (dep d) (deps ds)
end
mutual
theorem plain_py : ∀ d : D, plain d = true → (toPy d).canLay0 = true ∧ (toPy d).depth = dep d
  | .non, _ => by simp [toPy, PyData.canLay0, PyData.depth, dep]
  | .bl _, _ => by simp [toPy, PyData.canLay0, PyData.depth, dep]
  | .int _, _ => by simp [toPy, PyData.canLay0, PyData.depth, dep]
  | .str _, h => by
    unfold plain at h
    simp [toPy, PyData.canLay0, PyData.depth, dep, h]
  | .tup ds, h => by
    unfold plain at h
    obtain ⟨h1, h2⟩ := plains_py ds h
    simp [toPy, PyData.canLay0, PyData.depth, dep, h1, h2]
  | .lst ds, h => by
    unfold plain at h
    obtain ⟨h1, h2⟩ := plains_py ds h
    simp [toPy, PyData.canLay0, PyData.depth, dep, h1, h2]
  | .dI _, h => by simp [plain] at h
  | .dT _, h => by simp [plain] at h
  | .rg _ _, h => by simp [plain] at h
  | .scr _, h => by simp [plain] at h
theorem plains_py : ∀ ds : List D, plains ds = true → PyData.canLayAll0 (toPys ds) = true ∧ PyData.depthAll (toPys ds) = deps ds
  | [], _ => by simp [toPys, PyData.canLayAll0, PyData.depthAll, deps]
  | d :: ds, h => by
    unfold plains at h
    rw [Bool.and_eq_true] at h
    obtain ⟨h1, h2⟩ := plain_py d h.1
    obtain ⟨h3, h4⟩ := plains_py ds h.2
    simp [toPys, PyData.canLayAll0, PyData.depthAll, deps, h1, h2, h3, h4]
end
section
variable {K : PySem.W.Frag} {F H : Hp}
mutual
theorem dp_of (s : Sub F H) : ∀ (d : D) (v : V), plain d = true → Rep K F d v → Dp K H v (toPy d)
  | .non, v, _, r => by unfold Rep at r; subst r; unfold toPy; exact .non
  | .bl b, v, _, r => by unfold Rep at r; subst r; unfold toPy; exact .bl b
  | .int b, v, _, r => by unfold Rep at r; subst r; unfold toPy; exact .int b
  | .str b, v, _, r => by unfold Rep at r; subst r; unfold toPy; exact .str b
  | .tup ds, v, h, r => by
    unfold plain at h
    unfold Rep at r
    obtain ⟨a, vs, rfl, hF, q⟩ := r
    unfold toPy
    exact .tup (tup_sq hF s) (dps_of s ds vs h q)
  | .lst ds, v, h, r => by
    unfold plain at h
    unfold Rep at r
    obtain ⟨a, vs, rfl, hF, q⟩ := r
    unfold toPy
    exact .lst (lst_sq hF s) (dps_of s ds vs h q)
  | .dI _, _, h, _ => by simp [plain] at h
  | .dT _, _, h, _ => by simp [plain] at h
  | .rg _ _, _, h, _ => by simp [plain] at h
  | .scr _, _, h, _ => by simp [plain] at h
theorem dps_of (s : Sub F H) : ∀ (ds : List D) (vs : List V), plains ds = true → Reps K F ds vs → DpAll K H vs (toPys ds)
  | [], vs, _, r => by rw [r.nil_inv]; unfold toPys; exact .nil
  | d :: ds, vs, h, r => by
    unfold plains at h
    rw [Bool.and_eq_true] at h
    obtain ⟨v, q, rfl, r1, r2⟩ := r.inv
    unfold toPys
    exact .cons (dp_of s d v h.1 r1) (dps_of s ds q h.2 r2)
end
end
theorem shaped_of {d : D} (h : plain d = true) (hd : dep d ≤ 60) : SeqAt.shaped (toPy d) = true := by
  obtain ⟨h1, h2⟩ := plain_py d h
  unfold SeqAt.shaped
  rw [h1, h2, Bool.true_and]
  exact decide_eq_true (by omega)

/-! ### comparisons -/
def okD (d : D) : Bool := plain d && decide (dep d ≤ 60)
theorem okD_iff {d : D} (h : okD d = true) : plain d = true ∧ dep d ≤ 60 := by
  unfold okD at h
  rw [Bool.and_eq_true] at h
  exact ⟨h.1, of_decide_eq_true h.2⟩
def deq (x y : D) : Bool := PyData.eqv (toPy x) (toPy y)
def eqD (x y : D) : Option D := if okD x && okD y then some (.bl (deq x y)) else none
def neD (x y : D) : Option D := if okD x && okD y then some (.bl (!deq x y)) else none
def dlt (x y : D) : Bool := dataLt (toPy x) (toPy y)
def cmpOk (x y : D) : Bool := okD x && okD y && alike (toPy x) (toPy y) && (match x with | .non => false | _ => true)
def ltD (x y : D) : Option D := if cmpOk x y then some (.bl (dlt x y)) else none
def gtD (x y : D) : Option D := if cmpOk x y then some (.bl (dlt y x)) else none
def leD (x y : D) : Option D := if cmpOk x y then some (.bl (!dlt y x)) else none
def geD (x y : D) : Option D := if cmpOk x y then some (.bl (!dlt x y)) else none
section
variable {G : GX} {L : LX}
theorem room_u {k : Nat} {A : Around} (h : Room k A) {d : Nat} (hd : d ≤ 60) : A.units + d < cLine := by have := h.units; omega
theorem rep_b {K : PySem.W.Frag} {F : Hp} {b : Bool} : Rep K F (.bl b) (.bl b) := by unfold Rep; rfl
theorem rep_i {K : PySem.W.Frag} {F : Hp} {b : Int} : Rep K F (.int b) (.int b) := by unfold Rep; rfl
theorem rep_s {K : PySem.W.Frag} {F : Hp} {b : Str} : Rep K F (.str b) (.str b) := by unfold Rep; rfl
theorem rep_n {K : PySem.W.Frag} {F : Hp} : Rep K F .non .non := by unfold Rep; rfl
theorem opd_eq : OpD G L eqD (compareOp .Eq) := fun X hX => ⟨_, op_eqD hX.room.units, fun F H d1 d2 d v1 v2 Q s r1 r2 e q => by
  unfold eqD at e
  split at e
  · rename_i h
    cases e
    rw [Bool.and_eq_true] at h
    obtain ⟨p1, q1⟩ := okD_iff h.1
    obtain ⟨p2, q2⟩ := okD_iff h.2
    rw [hX.hK]
    exact ⟨toPy d1, toPy d2, dp_of s _ _ p1 r1, dp_of s _ _ p2 r2, shaped_of p1 q1, shaped_of p2 q2, q _ _ _ (.refl s) rep_b⟩
  · cases e⟩
theorem opd_ne : OpD G L neD (compareOp .NotEq) := fun X hX => ⟨_, op_neD hX.room.units, fun F H d1 d2 d v1 v2 Q s r1 r2 e q => by
  unfold neD at e
  split at e
  · rename_i h
    cases e
    rw [Bool.and_eq_true] at h
    obtain ⟨p1, q1⟩ := okD_iff h.1
    obtain ⟨p2, q2⟩ := okD_iff h.2
    rw [hX.hK]
    exact ⟨toPy d1, toPy d2, dp_of s _ _ p1 r1, dp_of s _ _ p2 r2, shaped_of p1 q1, shaped_of p2 q2, q _ _ _ (.refl s) rep_b⟩
  · cases e⟩
def rCmpD (K : PySem.W.Frag) (u : Nat) (g : PyData → PyData → Bool) : R2 := fun x y H Q => ∃ d e, Dp K H x d ∧ Dp K H y e ∧ alike d e = true ∧ d ≠ .none ∧ u + min d.depth e.depth < cLine ∧ Q (.bl (g d e)) H
theorem op_ltDt {X : Cx} : OpR X (compareOp .Lt) (rCmpD X.K X.A.units fun d e => dataLt d e) := by
  intro pins s σ H x y v u Q I rx ry h
  obtain ⟨d, e, hd, he, al, hn, hu, q⟩ := h
  obtain ⟨as, r1⟩ := Dp.reads I d x v hd rx
  obtain ⟨bs, r2⟩ := Dp.reads I e y u he ry
  exact lt_data r1 r2 al hn hu ⟨.bl _, H, I, rfl, q⟩
theorem op_gtDt {X : Cx} : OpR X (compareOp .Gt) (rCmpD X.K X.A.units fun d e => dataLt e d) := by
  intro pins s σ H x y v u Q I rx ry h
  obtain ⟨d, e, hd, he, al, hn, hu, q⟩ := h
  obtain ⟨as, r1⟩ := Dp.reads I d x v hd rx
  obtain ⟨bs, r2⟩ := Dp.reads I e y u he ry
  exact gt_data r1 r2 al hn hu ⟨.bl _, H, I, rfl, q⟩
theorem op_leDt {X : Cx} : OpR X (compareOp .LtE) (rCmpD X.K X.A.units fun d e => !dataLt e d) := by
  intro pins s σ H x y v u Q I rx ry h
  obtain ⟨d, e, hd, he, al, hn, hu, q⟩ := h
  obtain ⟨as, r1⟩ := Dp.reads I d x v hd rx
  obtain ⟨bs, r2⟩ := Dp.reads I e y u he ry
  exact le_data r1 r2 al hn hu ⟨.bl _, H, I, rfl, q⟩
theorem op_geDt {X : Cx} : OpR X (compareOp .GtE) (rCmpD X.K X.A.units fun d e => !dataLt d e) := by
  intro pins s σ H x y v u Q I rx ry h
  obtain ⟨d, e, hd, he, al, hn, hu, q⟩ := h
  obtain ⟨as, r1⟩ := Dp.reads I d x v hd rx
  obtain ⟨bs, r2⟩ := Dp.reads I e y u he ry
  exact ge_data r1 r2 al hn hu ⟨.bl _, H, I, rfl, q⟩
theorem cmpOk_iff {x y : D} (h : cmpOk x y = true) : plain x = true ∧ dep x ≤ 60 ∧ plain y = true ∧ dep y ≤ 60 ∧ alike (toPy x) (toPy y) = true ∧ toPy x ≠ .none := by
  unfold cmpOk at h
  simp only [Bool.and_eq_true] at h
  obtain ⟨⟨⟨h1, h2⟩, h3⟩, h4⟩ := h
  obtain ⟨a, b⟩ := okD_iff h1
  obtain ⟨c, d⟩ := okD_iff h2
  refine ⟨a, b, c, d, h3, ?_⟩
  cases x <;> simp_all [toPy]
theorem cmp_rule {X : Cx} (hX : XOk G L X) {g : PyData → PyData → Bool} {F H : Hp} {d1 d2 d : D} {v1 v2 : V} {Q : VK} (s : Sub F H) (r1 : Rep G.K F d1 v1) (r2 : Rep G.K F d2 v2)
    (e : (if cmpOk d1 d2 then some (D.bl (g (toPy d1) (toPy d2))) else none) = some d) (q : ∀ v F' H', Ext F H F' H' → Rep G.K F' d v → Q v H') : rCmpD X.K X.A.units g v1 v2 H Q := by
  split at e
  · rename_i h
    cases e
    obtain ⟨a, b, c, d, h3, h4⟩ := cmpOk_iff h
    rw [hX.hK]
    refine ⟨toPy d1, toPy d2, dp_of s _ _ a r1, dp_of s _ _ c r2, h3, h4, ?_, q _ _ _ (.refl s) rep_b⟩
    rw [(plain_py _ a).2, (plain_py _ c).2]
    have := hX.room.units
    omega
  · cases e
theorem opd_lt : OpD G L ltD (compareOp .Lt) := fun X hX => ⟨_, op_ltDt, fun F H d1 d2 d v1 v2 Q s r1 r2 e q => cmp_rule hX s r1 r2 e q⟩
theorem opd_gt : OpD G L gtD (compareOp .Gt) := fun X hX => ⟨_, op_gtDt, fun F H d1 d2 d v1 v2 Q s r1 r2 e q => cmp_rule (g := fun d e => dataLt e d) hX s r1 r2 e q⟩
theorem opd_le : OpD G L leD (compareOp .LtE) := fun X hX => ⟨_, op_leDt, fun F H d1 d2 d v1 v2 Q s r1 r2 e q => cmp_rule (g := fun d e => !dataLt e d) hX s r1 r2 e q⟩
theorem opd_ge : OpD G L geD (compareOp .GtE) := fun X hX => ⟨_, op_geDt, fun F H d1 d2 d v1 v2 Q s r1 r2 e q => cmp_rule (g := fun d e => !dataLt d e) hX s r1 r2 e q⟩
/-- is None, is not None -/
def isNone : D → Bool
  | .non => true
  | _ => false
def isD (x y : D) : Option D := if isNone y then some (.bl (isNone x)) else none
def isNotD (x y : D) : Option D := if isNone y then some (.bl (!isNone x)) else none
theorem rep_none {K : PySem.W.Frag} {F : Hp} {d : D} {v : V} (r : Rep K F d v) : decide (v = .non) = isNone d := by
  cases d <;> unfold Rep at r
  case non => subst r; rfl
  case bl => subst r; rfl
  case int => subst r; rfl
  case str => subst r; rfl
  case tup => obtain ⟨a, vs, rfl, _⟩ := r; rfl
  case lst => obtain ⟨a, vs, rfl, _⟩ := r; rfl
  case dI => obtain ⟨a, vs, rfl, _⟩ := r; rfl
  case dT => obtain ⟨a, vs, rfl, _⟩ := r; rfl
  case rg => obtain ⟨a, rfl, _⟩ := r; rfl
  case scr => obtain ⟨a, rfl, _⟩ := r; rfl
theorem opd_is : OpD G L isD (compareOp .Is) := fun X hX => ⟨_, op_isN, fun F H d1 d2 d v1 v2 Q s r1 r2 e q => by
  unfold isD at e
  split at e
  · rename_i h
    cases e
    have := rep_none r2
    rw [h] at this
    refine ⟨of_decide_eq_true this, ?_⟩
    rw [rep_none r1]
    exact q _ _ _ (.refl s) rep_b
  · cases e⟩
theorem opd_isNot : OpD G L isNotD (compareOp .IsNot) := fun X hX => ⟨_, op_notN, fun F H d1 d2 d v1 v2 Q s r1 r2 e q => by
  unfold isNotD at e
  split at e
  · rename_i h
    cases e
    have := rep_none r2
    rw [h] at this
    refine ⟨of_decide_eq_true this, ?_⟩
    rw [rep_none r1]
    exact q _ _ _ (.refl s) rep_b
  · cases e⟩

/-! ### arithmetic, + -/
def wideN : Nat := 2 ^ 4000
def addD : D → D → Option D
  | .int i, .int j => some (.int (i + j))
  | .str x, .str y => if x.length + y.length ≤ 16777216 then some (.str (x ++ y)) else none
  | .tup xs, .tup ys => if xs.length + ys.length ≤ 16777216 then some (.tup (xs ++ ys)) else none
  | .lst xs, .lst ys => if xs.length + ys.length ≤ 16777216 then some (.lst (xs ++ ys)) else none
  | _, _ => none
def subD : D → D → Option D
  | .int i, .int j => some (.int (i - j))
  | _, _ => none
def mulD : D → D → Option D
  | .int i, .int j => if i.natAbs < 2 ^ 64 ∨ j.natAbs < 2 ^ 64 ∨ (i.natAbs < wideN ∧ j.natAbs < wideN) then some (.int (i * j)) else none
  | _, _ => none
def fdivD : D → D → Option D
  | .int i, .int j => if 0 < j ∧ j.natAbs < wideN then some (.int (i / j)) else none
  | _, _ => none
def modD : D → D → Option D
  | .int i, .int j => if 0 < j then some (.int (i % j)) else none
  | _, _ => none
def powD : D → D → Option D
  | .int i, .int j => if 0 ≤ j ∧ j ≤ 1000000 ∧ i.natAbs < 2 ^ 64 then some (.int (i ^ j.toNat)) else none
  | _, _ => none
def rCatL (K : PySem.W.Frag) : R2 := fun x y H Q => ∃ l b xs zs, x = .ref l ∧ y = .ref b ∧ Rd H l (.lst xs) ∧ Rd H b (.lst zs) ∧ xs.length + zs.length ≤ sizeLine ∧ ∀ p, H p = none → Q (.ref p) (upd H p (.lst (xs ++ zs)))
theorem op_catL {X : Cx} : OpR X (binaryOp .Add) (rCatL X.K) := by
  intro pins s σ H x y v u Q I rx ry h
  obtain ⟨l, b, xs, zs, rfl, rfl, hH, hB, hz, q⟩ := h
  cases rx
  cases ry
  obtain ⟨z, its, n, r, e⟩ := hH.ok I.hok
  obtain ⟨z2, its2, n2, r2, e2⟩ := hB.ok I.hok
  have hl := r.length
  have hl2 := r2.length
  refine PySem.P.add_list e e2 ?_ (by rw [List.size_toArray, List.size_toArray]; omega)
  have ea : its.toArray ++ its2.toArray = (its ++ its2).toArray := by simp
  rw [ea]
  exact ⟨.ref _, _, I.lnew (t' := s.toks) (r.append r2) (by rw [List.length_append]; omega), rfl, q _ I.fresh⟩
theorem sz {n : Nat} (h : n ≤ 16777216) : n ≤ sizeLine := by rw [sizeLine_eq]; exact h
theorem opd_add : OpD G L addD (binaryOp .Add) := fun X hX => ⟨_, op_add.or (op_add_str.or (op_catA.or op_catL)), fun F H d1 d2 d v1 v2 Q s r1 r2 e q => by
  unfold addD at e
  split at e
  · cases e
    unfold Rep at r1 r2
    exact .inl ⟨_, _, r1, r2, q _ _ _ (.refl s) rep_i⟩
  · split at e
    · cases e
      unfold Rep at r1 r2
      exact .inr (.inl ⟨_, _, r1, r2, sz (by assumption), q _ _ _ (.refl s) rep_s⟩)
    · cases e
  · split at e
    · cases e
      rename_i xs ys hl
      unfold Rep at r1 r2
      obtain ⟨a, vs, rfl, h1, q1⟩ := r1
      obtain ⟨b, ws, rfl, h2, q2⟩ := r2
      rw [hX.hK]
      refine .inr (.inr (.inl ⟨a, b, vs, ws, rfl, rfl, tup_sq h1 s, tup_sq h2 s, by rw [← q1.len, ← q2.len]; exact sz hl, fun hv => ?_, fun _ hw => ?_, fun _ _ p hp => ?_⟩))
      · subst hv
        have : xs = [] := List.eq_nil_of_length_eq_zero (by rw [q1.len]; rfl)
        subst this
        exact q _ _ _ (.refl s) (by unfold Rep; exact ⟨b, ws, rfl, h2, q2⟩)
      · subst hw
        have : ys = [] := List.eq_nil_of_length_eq_zero (by rw [q2.len]; rfl)
        subst this
        rw [List.append_nil] at q
        exact q _ _ _ (.refl s) (by unfold Rep; exact ⟨a, vs, rfl, h1, q1⟩)
      · have hf := s.none hp
        exact q _ _ _ (.frz s hp) (by unfold Rep; exact ⟨p, _, rfl, upd_same, (Reps.mono (same_new hf) _ _ q1).append (Reps.mono (same_new hf) _ _ q2)⟩)
    · cases e
  · split at e
    · cases e
      rename_i xs ys hl
      unfold Rep at r1 r2
      obtain ⟨a, vs, rfl, h1, q1⟩ := r1
      obtain ⟨b, ws, rfl, h2, q2⟩ := r2
      refine .inr (.inr (.inr ⟨a, b, vs, ws, rfl, rfl, s.rd h1, s.rd h2, by rw [← q1.len, ← q2.len]; exact sz hl, fun p hp => ?_⟩))
      have hf := s.none hp
      exact q _ _ _ (.frz s hp) (by unfold Rep; exact ⟨p, _, rfl, upd_same, (Reps.mono (same_new hf) _ _ q1).append (Reps.mono (same_new hf) _ _ q2)⟩)
    · cases e
  · cases e⟩
theorem opd_sub : OpD G L subD (binaryOp .Sub) := fun X hX => ⟨_, op_sub, fun F H d1 d2 d v1 v2 Q s r1 r2 e q => by
  unfold subD at e
  split at e
  · cases e
    unfold Rep at r1 r2
    exact ⟨_, _, r1, r2, q _ _ _ (.refl s) rep_i⟩
  · cases e⟩
theorem wide_log {i : Int} (h : i.natAbs < wideN) : i.natAbs.log2 < 4000 := PySem.Flt.log2_lt_of (by decide) h
theorem opd_mul : OpD G L mulD (binaryOp .Mult) := fun X hX => ⟨_, op_mul.or op_mulW, fun F H d1 d2 d v1 v2 Q s r1 r2 e q => by
  unfold mulD at e
  split at e
  · split at e
    · rename_i h
      cases e
      unfold Rep at r1 r2
      rcases h with h | h | h
      · exact .inl ⟨_, _, r1, r2, .inl (by omega), q _ _ _ (.refl s) rep_i⟩
      · exact .inl ⟨_, _, r1, r2, .inr (by omega), q _ _ _ (.refl s) rep_i⟩
      · refine .inr ⟨_, _, r1, r2, ?_, q _ _ _ (.refl s) rep_i⟩
        have h1 := wide_log h.1
        have h2 := wide_log h.2
        unfold CMulW
        omega
    · cases e
  · cases e⟩
theorem opd_fdiv : OpD G L fdivD (binaryOp .FloorDiv) := fun X hX => ⟨_, op_fdivW, fun F H d1 d2 d v1 v2 Q s r1 r2 e q => by
  unfold fdivD at e
  split at e
  · split at e
    · rename_i h
      cases e
      unfold Rep at r1 r2
      exact ⟨_, _, r1, r2, ⟨h.1, Nat.lt_trans (wide_log h.2) (by decide)⟩, q _ _ _ (.refl s) rep_i⟩
    · cases e
  · cases e⟩
theorem opd_mod : OpD G L modD (binaryOp .Mod) := fun X hX => ⟨_, op_mod, fun F H d1 d2 d v1 v2 Q s r1 r2 e q => by
  unfold modD at e
  split at e
  · split at e
    · rename_i h
      cases e
      unfold Rep at r1 r2
      exact ⟨_, _, r1, r2, h, q _ _ _ (.refl s) rep_i⟩
    · cases e
  · cases e⟩
theorem opd_pow : OpD G L powD (binaryOp .Pow) := fun X hX => ⟨_, op_pow, fun F H d1 d2 d v1 v2 Q s r1 r2 e q => by
  unfold powD at e
  split at e
  · split at e
    · rename_i h
      cases e
      unfold Rep at r1 r2
      exact ⟨_, _, r1, r2, h, q _ _ _ (.refl s) rep_i⟩
    · cases e
  · cases e⟩
end
end DL
set_option autoImplicit false
set_option maxRecDepth 100000
set_option maxHeartbeats 4000000
namespace DL
open PySem PySem.Spec PySem.SeqAt PyProof.Rows L2

section
variable {G : GX} {L : LX} {ρ : List Sl} {e a b c : Expr} {rest : List Expr} {m ma mb mc mr : Option D} {na nb nr : Option Bool} {pos : Pos}

/-! ### and, or, not -/
def andT (ma mb : Option Bool) : Option Bool := ma.bind fun c => if c = true then mb else some false
def orT (ma mb : Option Bool) : Option Bool := ma.bind fun c => if c = true then some true else mb
def notT (ma : Option Bool) : Option Bool := ma.bind fun c => some (!c)
theorem w_and1 (ha : TOk G L ρ a na) : WOk G L ρ (.BoolOp .And [a] pos) na := fun X hX => pw_and1 (ha X hX)
theorem w_or1 (ha : TOk G L ρ a na) : WOk G L ρ (.BoolOp .Or [a] pos) na := fun X hX => pw_or1 (ha X hX)
theorem w_and (ha : TOk G L ρ a na) (hb : WOk G L ρ (.BoolOp .And (b :: rest) pos) nb) : WOk G L ρ (.BoolOp .And (a :: b :: rest) pos) (andT na nb) := fun X hX =>
  wkW (pw_and (ha X hX) (hb X hX)) fun σ H Q ⟨F, d, em, vr, q⟩ => by
    obtain ⟨y, ey, eb⟩ := Option.bind_eq_some_iff.mp em
    refine ⟨F, y, ey, vr, fun F' H' x => ?_⟩
    cases y with
    | true => exact ⟨F', d, eb, vr.ext x, fun F2 H2 x2 => q F2 H2 (x.trans x2)⟩
    | false => cases eb; exact q F' H' x
theorem w_or (ha : TOk G L ρ a na) (hb : WOk G L ρ (.BoolOp .Or (b :: rest) pos) nb) : WOk G L ρ (.BoolOp .Or (a :: b :: rest) pos) (orT na nb) := fun X hX =>
  wkW (pw_or (ha X hX) (hb X hX)) fun σ H Q ⟨F, d, em, vr, q⟩ => by
    obtain ⟨y, ey, eb⟩ := Option.bind_eq_some_iff.mp em
    refine ⟨F, y, ey, vr, fun F' H' x => ?_⟩
    cases y with
    | false => exact ⟨F', d, eb, vr.ext x, fun F2 H2 x2 => q F2 H2 (x.trans x2)⟩
    | true => cases eb; exact q F' H' x
theorem t_w (h : WOk G L ρ e na) : TOk G L ρ e na := fun X hX => (h X hX).pt
theorem t_not (ha : TOk G L ρ a na) : TOk G L ρ (.UnaryOp .Not a pos) (notT na) := fun X hX =>
  wkT (pt_not (ha X hX)) fun σ H Q ⟨F, d, em, vr, q⟩ => by
    obtain ⟨y, ey, eb⟩ := Option.bind_eq_some_iff.mp em
    cases eb
    exact ⟨F, y, ey, vr, fun F' H' x => q F' H' x⟩
/-- as values: all True or False -/
def andV (ma mb : Option D) : Option D := (ma.bind getB).bind fun c => if c = true then mb else some (.bl false)
def orV (ma mb : Option D) : Option D := (ma.bind getB).bind fun c => if c = true then some (.bl true) else mb
theorem e_one {op : BoolOp} (ha : EOk G L ρ a ma) : EOk G L ρ (.BoolOp op [a] pos) ma := fun X hX => pe_one (ha X hX)
theorem e_and (ha : EOk G L ρ a ma) (hb : EOk G L ρ (.BoolOp .And (b :: rest) pos) mb) : EOk G L ρ (.BoolOp .And (a :: b :: rest) pos) (andV ma mb) := fun X hX =>
  wkE (pe_and (ha X hX) (hb X hX)) fun σ H Q ⟨F, d, em, vr, q⟩ => by
    obtain ⟨y, ey, eb⟩ := Option.bind_eq_some_iff.mp em
    obtain ⟨z, ez, ey⟩ := Option.bind_eq_some_iff.mp ey
    refine ⟨F, z, ez, vr, fun v F' H' x r => ⟨y, rep_bl ey r, ?_⟩⟩
    cases y with
    | true => exact ⟨F', d, eb, vr.ext x, fun v F2 H2 x2 => q v F2 H2 (x.trans x2)⟩
    | false => cases eb; exact q _ F' H' x rep_b
theorem e_or (ha : EOk G L ρ a ma) (hb : EOk G L ρ (.BoolOp .Or (b :: rest) pos) mb) : EOk G L ρ (.BoolOp .Or (a :: b :: rest) pos) (orV ma mb) := fun X hX =>
  wkE (pe_or (ha X hX) (hb X hX)) fun σ H Q ⟨F, d, em, vr, q⟩ => by
    obtain ⟨y, ey, eb⟩ := Option.bind_eq_some_iff.mp em
    obtain ⟨z, ez, ey⟩ := Option.bind_eq_some_iff.mp ey
    refine ⟨F, z, ez, vr, fun v F' H' x r => ⟨y, rep_bl ey r, ?_⟩⟩
    cases y with
    | false => exact ⟨F', d, eb, vr.ext x, fun v F2 H2 x2 => q v F2 H2 (x.trans x2)⟩
    | true => cases eb; exact q _ F' H' x rep_b
def notV (ma : Option D) : Option D := (ma.bind getB).bind fun c => some (.bl (!c))
theorem e_not (ha : EOk G L ρ a ma) : EOk G L ρ (.UnaryOp .Not a pos) (notV ma) := fun X hX =>
  wkE (pe_not (ha X hX)) fun σ H Q ⟨F, d, em, vr, q⟩ => by
    obtain ⟨y, ey, eb⟩ := Option.bind_eq_some_iff.mp em
    obtain ⟨z, ez, ey⟩ := Option.bind_eq_some_iff.mp ey
    cases eb
    exact ⟨F, z, ez, vr, fun v F' H' x r => ⟨y, rep_bl ey r, q _ F' H' x rep_b⟩⟩
/-- a if c else b -/
def ifD (mc : Option Bool) (ma mb : Option D) : Option D := mc.bind fun c => if c = true then ma else mb
theorem e_ifx {nc : Option Bool} (hc : TOk G L ρ c nc) (ha : EOk G L ρ a ma) (hb : EOk G L ρ b mb) : EOk G L ρ (.IfExp c a b pos) (ifD nc ma mb) := fun X hX =>
  wkE (pe_ifExp (hc X hX) (ha X hX) (hb X hX)) fun σ H Q ⟨F, d, em, vr, q⟩ => by
    obtain ⟨y, ey, eb⟩ := Option.bind_eq_some_iff.mp em
    refine ⟨F, y, ey, vr, fun F' H' x => ?_⟩
    cases y with
    | true => exact ⟨F', d, eb, vr.ext x, fun v F2 H2 x2 => q v F2 H2 (x.trans x2)⟩
    | false => exact ⟨F', d, eb, vr.ext x, fun v F2 H2 x2 => q v F2 H2 (x.trans x2)⟩
/-- a op b op' c -/
def chD (f f' : D → D → Option D) (ma mb mc : Option D) : Option D := ma.bind fun x => mb.bind fun y => ((f x y).bind getB).bind fun k => if k = true then mc.bind fun z => f' y z else some (.bl false)
theorem chain_rule {X : Cx} {K : PySem.W.Frag} {d : D} {f f' : D → D → Option D} {σ : L2.St} {H : Hp} {F : Hp} {Q : VK} {r r' : R2} (h : chD f f' ma mb mc = some d) (vr : VR K ρ σ F H) (q : ∀ v F' H', Ext F H F' H' → Rep K F' d v → Q v H')
    (rule : ∀ F H d1 d2 d v1 v2 Q, Sub F H → Rep K F d1 v1 → Rep K F d2 v2 → f d1 d2 = some d → (∀ v F' H', Ext F H F' H' → Rep K F' d v → Q v H') → r v1 v2 H Q)
    (rule' : ∀ F H d1 d2 d v1 v2 Q, Sub F H → Rep K F d1 v1 → Rep K F d2 v2 → f' d1 d2 = some d → (∀ v F' H', Ext F H F' H' → Rep K F' d v → Q v H') → r' v1 v2 H Q) : tChain r r' (tE K ρ ma) (tE K ρ mb) (tE K ρ mc) σ H Q := by
  unfold chD at h
  obtain ⟨x, ex, h⟩ := Option.bind_eq_some_iff.mp h
  obtain ⟨y, ey, h⟩ := Option.bind_eq_some_iff.mp h
  obtain ⟨k, ek, h⟩ := Option.bind_eq_some_iff.mp h
  obtain ⟨z, ez, ek⟩ := Option.bind_eq_some_iff.mp ek
  refine ⟨F, x, ex, vr, fun v1 F1 H1 x1 r1 => ⟨F1, y, ey, vr.ext x1, fun v2 F2 H2 x2 r2 => ?_⟩⟩
  refine rule F2 H2 x y z v1 v2 _ x2.sub (Rep.mono x2.froz _ _ r1) r2 ez fun v F3 H3 x3 r3 => ⟨k, rep_bl ek r3, ?_⟩
  cases k with
  | false => cases h; exact q _ F3 H3 ((x1.trans x2).trans x3) rep_b
  | true =>
    obtain ⟨u, eu, h⟩ := Option.bind_eq_some_iff.mp h
    refine ⟨F3, u, eu, vr.ext ((x1.trans x2).trans x3), fun v4 F4 H4 x4 r4 => ?_⟩
    exact rule' F4 H4 y u d v2 v4 Q x4.sub (Rep.mono (x3.trans x4).froz _ _ r2) r4 h fun v F5 H5 x5 r5 => q v F5 H5 ((((x1.trans x2).trans x3).trans x4).trans x5) r5
theorem e_chain {op op' : CmpOp} {f f' : D → D → Option D} (ho : OpD G L f (compareOp op)) (ho' : OpD G L f' (compareOp op')) (ha : EOk G L ρ a ma) (hb : EOk G L ρ b mb) (hc : EOk G L ρ c mc)
    (hm : lastMarks [op, op'] [b, c] = false := by with_unfolding_all rfl) : EOk G L ρ (.Compare a [op, op'] [b, c] pos) (chD f f' ma mb mc) := fun X hX => by
  obtain ⟨r, h1, h2⟩ := ho X hX
  obtain ⟨r', h1', h2'⟩ := ho' X hX
  exact wkE (pe_chain h1 h1' (ha X hX) (hb X hX) (hc X hX) hm) fun σ H Q ⟨F, d, em, vr, q⟩ => chain_rule (X := X) em vr q h2 h2'
theorem t_chain {op op' : CmpOp} {f f' : D → D → Option D} (ho : OpD G L f (compareOp op)) (ho' : OpD G L f' (compareOp op')) (ha : EOk G L ρ a ma) (hb : EOk G L ρ b mb) (hc : EOk G L ρ c mc)
    (hm : lastMarks [op, op'] [b, c] = false := by with_unfolding_all rfl) : TOk G L ρ (.Compare a [op, op'] [b, c] pos) ((chD f f' ma mb mc).bind getB) := fun X hX => by
  obtain ⟨r, h1, h2⟩ := ho X hX
  obtain ⟨r', h1', h2'⟩ := ho' X hX
  refine wkT (pt_chain h1 h1' (ha X hX) (hb X hX) (hc X hX) hm) fun σ H Q ⟨F, d, em, vr, q⟩ => ?_
  obtain ⟨y, ey, eb⟩ := Option.bind_eq_some_iff.mp em
  exact chain_rule (X := X) ey vr (fun v F' H' x rr => ⟨d, rep_bl eb rr, q F' H' x⟩) h2 h2'

/-! ### dicts as tables -/
def lookK {κ : Type} [DecidableEq κ] (kvs : List (κ × D)) (k : κ) : Option D := (kvs.find? fun p => decide (p.1 = k)).map (·.2)
def putD {κ : Type} [DecidableEq κ] (kvs : List (κ × D)) (k : κ) (v : D) : List (κ × D) :=
  if (kvs.any fun kv => decide (kv.1 = k)) = true then kvs.map (fun kv => if kv.1 = k then (kv.1, v) else kv) else kvs ++ [(k, v)]
theorem inl_inj {i j : Int} : ((Sum.inl i : Key) = Sum.inl j) ↔ i = j := ⟨fun h => Sum.inl.inj h, fun h => by rw [h]⟩
theorem map_inl_inj {k j : List Int} : (k.map (Sum.inl : Int → Key) = j.map Sum.inl) ↔ k = j := by
  constructor
  · intro h
    induction k generalizing j with
    | nil => cases j with
      | nil => rfl
      | cons _ _ => simp at h
    | cons x xs ih => cases j with
      | nil => simp at h
      | cons y ys =>
        simp only [List.map_cons, List.cons.injEq] at h
        rw [Sum.inl.inj h.1, ih h.2]
  · rintro rfl; rfl
theorem RepI.look {K : PySem.W.Frag} {F : Hp} {k : Int} : ∀ {kvs : List (Int × D)} {ws : List (Key × V)}, RepI K F kvs ws →
    (lookK kvs k = none ∧ valV ws (Sum.inl k) = none) ∨ ∃ d v, lookK kvs k = some d ∧ valV ws (Sum.inl k) = some v ∧ Rep K F d v
  | [], ws, r => by unfold RepI at r; subst r; exact .inl ⟨rfl, rfl⟩
  | (j, d) :: kvs, ws, r => by
    unfold RepI at r
    obtain ⟨v, q, rfl, r1, r2⟩ := r
    by_cases h : j = k
    · subst h
      exact .inr ⟨d, v, by simp [lookK], valV_pos rfl, r1⟩
    · have e1 : lookK ((j, d) :: kvs) k = lookK kvs k := by simp [lookK, List.find?_cons, h]
      have e2 : valV ((Sum.inl j, v) :: q) (Sum.inl k : Key) = valV q (Sum.inl k) := valV_neg (p := ((Sum.inl j : Key), v)) fun e => h (inl_inj.mp e)
      rw [e1, e2]; exact RepI.look r2
theorem RepT.look {K : PySem.W.Frag} {F : Hp} {k : List Int} : ∀ {kvs : List (List Int × D)} {ws : List (List Key × V)}, RepT K F kvs ws →
    (lookK kvs k = none ∧ valV ws (k.map Sum.inl) = none) ∨ ∃ d v, lookK kvs k = some d ∧ valV ws (k.map Sum.inl) = some v ∧ Rep K F d v
  | [], ws, r => by unfold RepT at r; subst r; exact .inl ⟨rfl, rfl⟩
  | (j, d) :: kvs, ws, r => by
    unfold RepT at r
    obtain ⟨v, q, rfl, r1, r2⟩ := r
    by_cases h : j = k
    · subst h
      exact .inr ⟨d, v, by simp [lookK], valV_pos rfl, r1⟩
    · have e1 : lookK ((j, d) :: kvs) k = lookK kvs k := by simp [lookK, List.find?_cons, h]
      have e2 : valV ((j.map Sum.inl, v) :: q) (k.map Sum.inl) = valV q (k.map Sum.inl) := valV_neg (p := (j.map Sum.inl, v)) fun e => h (map_inl_inj.mp e)
      rw [e1, e2]; exact RepT.look r2
theorem RepI.any {K : PySem.W.Frag} {F : Hp} {k : Int} : ∀ {kvs : List (Int × D)} {ws : List (Key × V)}, RepI K F kvs ws → (kvs.any fun p => decide (p.1 = k)) = ws.any fun p => decide (p.1 = Sum.inl k)
  | [], ws, r => by unfold RepI at r; subst r; rfl
  | (j, d) :: kvs, ws, r => by
    unfold RepI at r
    obtain ⟨v, q, rfl, r1, r2⟩ := r
    rw [List.any_cons, List.any_cons, RepI.any r2]
    simp only [inl_inj]
theorem RepT.any {K : PySem.W.Frag} {F : Hp} {k : List Int} : ∀ {kvs : List (List Int × D)} {ws : List (List Key × V)}, RepT K F kvs ws → (kvs.any fun p => decide (p.1 = k)) = ws.any fun p => decide (p.1 = k.map Sum.inl)
  | [], ws, r => by unfold RepT at r; subst r; rfl
  | (j, d) :: kvs, ws, r => by
    unfold RepT at r
    obtain ⟨v, q, rfl, r1, r2⟩ := r
    rw [List.any_cons, List.any_cons, RepT.any r2]
    simp only [map_inl_inj]
theorem RepI.repl {K : PySem.W.Frag} {F : Hp} {k : Int} {x : D} {y : V} (h : Rep K F x y) : ∀ {kvs : List (Int × D)} {ws : List (Key × V)}, RepI K F kvs ws →
    RepI K F (kvs.map fun kv => if kv.1 = k then (kv.1, x) else kv) (ws.map fun kv => if kv.1 = Sum.inl k then (kv.1, y) else kv)
  | [], ws, r => by unfold RepI at r; subst r; unfold RepI; rfl
  | (j, d) :: kvs, ws, r => by
    unfold RepI at r
    obtain ⟨v, q, rfl, r1, r2⟩ := r
    rw [List.map_cons, List.map_cons]
    simp only [inl_inj]
    by_cases e : j = k
    · simp only [e, if_true]; unfold RepI; exact ⟨y, _, rfl, h, by simpa only [inl_inj] using RepI.repl h r2⟩
    · simp only [if_neg e]; unfold RepI; exact ⟨v, _, rfl, r1, by simpa only [inl_inj] using RepI.repl h r2⟩
theorem RepT.repl {K : PySem.W.Frag} {F : Hp} {k : List Int} {x : D} {y : V} (h : Rep K F x y) : ∀ {kvs : List (List Int × D)} {ws : List (List Key × V)}, RepT K F kvs ws →
    RepT K F (kvs.map fun kv => if kv.1 = k then (kv.1, x) else kv) (ws.map fun kv => if kv.1 = k.map Sum.inl then (kv.1, y) else kv)
  | [], ws, r => by unfold RepT at r; subst r; unfold RepT; rfl
  | (j, d) :: kvs, ws, r => by
    unfold RepT at r
    obtain ⟨v, q, rfl, r1, r2⟩ := r
    rw [List.map_cons, List.map_cons]
    simp only [map_inl_inj]
    by_cases e : j = k
    · simp only [e, if_true]; unfold RepT; exact ⟨y, _, rfl, h, by simpa only [map_inl_inj] using RepT.repl h r2⟩
    · simp only [if_neg e]; unfold RepT; exact ⟨v, _, rfl, r1, by simpa only [map_inl_inj] using RepT.repl h r2⟩
theorem RepI.snoc {K : PySem.W.Frag} {F : Hp} {k : Int} {x : D} {y : V} (h : Rep K F x y) : ∀ {kvs : List (Int × D)} {ws : List (Key × V)}, RepI K F kvs ws → RepI K F (kvs ++ [(k, x)]) (ws ++ [(Sum.inl k, y)])
  | [], ws, r => by unfold RepI at r; subst r; unfold RepI; exact ⟨y, [], rfl, h, by unfold RepI; rfl⟩
  | (j, d) :: kvs, ws, r => by
    unfold RepI at r
    obtain ⟨v, q, rfl, r1, r2⟩ := r
    rw [List.cons_append, List.cons_append]; unfold RepI; exact ⟨v, _, rfl, r1, RepI.snoc h r2⟩
theorem RepT.snoc {K : PySem.W.Frag} {F : Hp} {k : List Int} {x : D} {y : V} (h : Rep K F x y) : ∀ {kvs : List (List Int × D)} {ws : List (List Key × V)}, RepT K F kvs ws → RepT K F (kvs ++ [(k, x)]) (ws ++ [(k.map Sum.inl, y)])
  | [], ws, r => by unfold RepT at r; subst r; unfold RepT; exact ⟨y, [], rfl, h, by unfold RepT; rfl⟩
  | (j, d) :: kvs, ws, r => by
    unfold RepT at r
    obtain ⟨v, q, rfl, r1, r2⟩ := r
    rw [List.cons_append, List.cons_append]; unfold RepT; exact ⟨v, _, rfl, r1, RepT.snoc h r2⟩
theorem RepI.put {K : PySem.W.Frag} {F : Hp} {k : Int} {x : D} {y : V} (h : Rep K F x y) {kvs : List (Int × D)} {ws : List (Key × V)} (r : RepI K F kvs ws) : RepI K F (putD kvs k x) (putK ws (Sum.inl k) y) := by
  unfold putD putK
  rw [r.any]
  split
  · exact r.repl h
  · exact r.snoc h
theorem RepT.put {K : PySem.W.Frag} {F : Hp} {k : List Int} {x : D} {y : V} (h : Rep K F x y) {kvs : List (List Int × D)} {ws : List (List Key × V)} (r : RepT K F kvs ws) : RepT K F (putD kvs k x) (putK ws (k.map Sum.inl) y) := by
  unfold putD putK
  rw [r.any]
  split
  · exact r.repl h
  · exact r.snoc h
theorem RepI.len {K : PySem.W.Frag} {F : Hp} : ∀ {kvs : List (Int × D)} {ws : List (Key × V)}, RepI K F kvs ws → kvs.length = ws.length
  | [], ws, r => by unfold RepI at r; subst r; rfl
  | (j, d) :: kvs, ws, r => by
    unfold RepI at r
    obtain ⟨v, q, rfl, r1, r2⟩ := r
    simp [RepI.len r2]
theorem RepT.len {K : PySem.W.Frag} {F : Hp} : ∀ {kvs : List (List Int × D)} {ws : List (List Key × V)}, RepT K F kvs ws → kvs.length = ws.length
  | [], ws, r => by unfold RepT at r; subst r; rfl
  | (j, d) :: kvs, ws, r => by
    unfold RepT at r
    obtain ⟨v, q, rfl, r1, r2⟩ := r
    simp [RepT.len r2]
def intsOf : List D → Option (List Int)
  | [] => some []
  | .int i :: ds => (intsOf ds).map (i :: ·)
  | _ :: _ => none
theorem intsOf_rep {K : PySem.W.Frag} {F : Hp} : ∀ {ds : List D} {ks : List Int} {vs : List V}, intsOf ds = some ks → Reps K F ds vs → vs = (ks.map (Sum.inl : Int → Key)).map kV
  | [], ks, vs, h, r => by cases h; exact r.nil_inv
  | d :: ds, ks, vs, h, r => by
    obtain ⟨v, q, rfl, r1, r2⟩ := r.inv
    cases d with
    | int i =>
      unfold intsOf at h
      obtain ⟨ks', h', rfl⟩ := Option.map_eq_some_iff.mp h
      rw [intsOf_rep h' r2]
      unfold Rep at r1
      rw [r1]; rfl
    | _ => cases h

/-! ### subscripts -/
def ixD : D → D → Option D
  | .lst xs, .int i => atI xs i
  | .tup xs, .int i => atI xs i
  | .scr xs, .int i => (atI xs i).map .int
  | .str z, .int i => if z.length ≤ 16777216 then (atI z.cps.toList i).map fun c => .str ⟨#[c]⟩ else none
  | .dI kvs, .int i => lookK kvs i
  | .dT kvs, .tup ks => (intsOf ks).bind fun ks => lookK kvs ks
  | _, _ => none
theorem ix_dict {X : Cx} (hu : X.A.units + 1 < cLine) : IxR X (fun x y H Q => ∃ a v, x = .ref a ∧ DGet H a y (some v) ∧ Q v H) := by
  intro value slice pins s σ H x y v u Q I rx ry h hs
  obtain ⟨p, z, rfl, g, q⟩ := h
  obtain rfl : v = Value.ref p := rx
  exact tail_any (dict_typeIs I g) PySem.F.slot_dict_getitem.lookup (d_getItem hu I g ry fun w' s3 I3 rw' => ⟨z, H, I3, rw', q⟩) hs
theorem atI_rep {K : PySem.W.Frag} {F : Hp} {ds : List D} {vs : List V} {i : Int} {d : D} (r : Reps K F ds vs) (h : atI ds i = some d) : ∃ v, atI vs i = some v ∧ Rep K F d v := by
  unfold atI at h ⊢
  rw [r.len] at h
  obtain ⟨j, e, h⟩ := Option.bind_eq_some_iff.mp h
  obtain ⟨v, h1, h2⟩ := r.get h
  exact ⟨v, by rw [e]; exact h1, h2⟩
theorem atI_map {α β : Type} (f : α → β) (xs : List α) (i : Int) : atI (xs.map f) i = (atI xs i).map f := by
  unfold atI
  rw [List.length_map]
  cases ixN xs.length i with
  | none => rfl
  | some j => simp
theorem e_ix (ha : EOk G L ρ a ma) (hb : EOk G L ρ b mb) (hs : PlainIx b := by intro _ _; rfl) : EOk G L ρ (.Subscript a b pos) (E2 ixD ma mb) := fun X hX =>
  wkE (pe_ix (ix_seq.or (ix_dict (by have := hX.room.units; omega))) (ha X hX) (hb X hX) hs) fun σ H Q ⟨F, d, em, vr, q⟩ => two (X := X) em vr q fun F H d1 d2 d v1 v2 Q s r1 r2 e q => by
    rw [hX.hK]
    unfold ixD at e
    split at e
    · unfold Rep at r1 r2
      obtain ⟨p, vs, rfl, h1, q1⟩ := r1
      obtain ⟨v, hv, rv⟩ := atI_rep q1 e
      exact .inl (.inl ⟨p, vs, _, v, rfl, r2, lst_sq h1 s, hv, q _ _ _ (.refl s) rv⟩)
    · unfold Rep at r1 r2
      obtain ⟨p, vs, rfl, h1, q1⟩ := r1
      obtain ⟨v, hv, rv⟩ := atI_rep q1 e
      exact .inl (.inr (.inl ⟨p, vs, _, v, rfl, r2, tup_sq h1 s, hv, q _ _ _ (.refl s) rv⟩))
    · unfold Rep at r1 r2
      obtain ⟨p, rfl, h1⟩ := r1
      obtain ⟨n, hn, rfl⟩ := Option.map_eq_some_iff.mp e
      exact .inl (.inl ⟨p, _, _, .int n, rfl, r2, scr_sq h1 s, by rw [atI_map, hn]; rfl, q _ _ _ (.refl s) rep_i⟩)
    · split at e
      · unfold Rep at r1 r2
        obtain ⟨n, hn, rfl⟩ := Option.map_eq_some_iff.mp e
        exact .inl (.inr (.inr ⟨_, _, n, r1, r2, sz (by assumption), hn, q _ _ _ (.refl s) rep_s⟩))
      · cases e
    · unfold Rep at r1 r2
      obtain ⟨p, ws, rfl, h1, q1⟩ := r1
      rcases q1.look with ⟨h2, _⟩ | ⟨d', v, h2, h3, h4⟩
      · rw [h2] at e; cases e
      · rw [h2] at e; cases e
        exact .inr ⟨p, v, rfl, .inl ⟨ws, Sum.inl _, s.rd h1, r2, h3.symm⟩, q _ _ _ (.refl s) h4⟩
    · unfold Rep at r1 r2
      obtain ⟨p, ws, rfl, h1, q1⟩ := r1
      obtain ⟨p2, ws2, rfl, h2, q2⟩ := r2
      obtain ⟨ks, hks, e⟩ := Option.bind_eq_some_iff.mp e
      have hw := intsOf_rep hks q2
      subst hw
      rcases q1.look with ⟨h3, _⟩ | ⟨d', v, h3, h4, h5⟩
      · rw [h3] at e; cases e
      · rw [h3] at e; cases e
        exact .inr ⟨p, v, rfl, .inr ⟨ws, _, p2, s.rd h1, rfl, s.tup h2, h4.symm⟩, q _ _ _ (.refl s) h5⟩
    · cases e
end
end DL
set_option autoImplicit false
set_option maxRecDepth 100000
set_option maxHeartbeats 4000000
namespace DL
open PySem PySem.Spec PySem.SeqAt PyProof.Rows L2

section
variable {G : GX} {L : LX} {ρ : List Sl} {e a b c : Expr} {es : List Expr} {m ma mb mc mr : Option D} {ms : Option (List D)} {pos p2 : Pos}

/-! ### slices -/
def tO (K : PySem.W.Frag) (ρ : List Sl) (m : Option (Option Int)) : TO := fun σ H Q => ∃ F o, m = some o ∧ VR K ρ σ F H ∧ ∀ F' H', Ext F H F' H' → Q o H'
def OOk (G : GX) (L : LX) (ρ : List Sl) (e : Option Expr) (m : Option (Option Int)) : Prop := ∀ X, XOk G L X → PO X e (tO G.K ρ m)
theorem wkO {X : Cx} {e : Option Expr} {t t' : TO} (h : PO X e t) (w : ∀ σ H Q, t' σ H Q → t σ H Q) : PO X e t' := ⟨fun pins s σ H Q I q => h.run pins s σ H Q I (w σ H Q q)⟩
theorem o_none : OOk G L ρ none (some none) := fun X hX => wkO po_none fun σ H Q ⟨F, o, em, vr, q⟩ => by cases em; exact q F H (.refl vr.sub)
def getI : D → Option Int
  | .int i => some i
  | _ => none
theorem rep_int {K : PySem.W.Frag} {F : Hp} {d : D} {v : V} {i : Int} (h : getI d = some i) (r : Rep K F d v) : v = .int i := by
  cases d with
  | int c => cases h; unfold Rep at r; exact r
  | _ => cases h
theorem o_some (h : EOk G L ρ e m) : OOk G L ρ (some e) ((m.bind getI).map some) := fun X hX => wkO (po_some (h X hX)) fun σ H Q ⟨F, o, em, vr, q⟩ => by
  obtain ⟨i, ei, rfl⟩ := Option.map_eq_some_iff.mp em
  obtain ⟨y, ey, eb⟩ := Option.bind_eq_some_iff.mp ei
  exact ⟨F, y, ey, vr, fun v F' H' x r => ⟨i, rep_int eb r, q F' H' x⟩⟩
def cutD {α : Type} (xs : List α) (lo hi : Option Int) : List α := (xs.drop (HT.sIx xs.length 0 lo)).take (HT.sIx xs.length xs.length hi - HT.sIx xs.length 0 lo)
theorem Reps.cut {K : PySem.W.Frag} {F : Hp} {ds : List D} {vs : List V} (r : Reps K F ds vs) (lo hi : Option Int) : Reps K F (cutD ds lo hi) (cutV vs lo hi) := by
  unfold cutD cutV
  rw [r.len]
  exact (r.drop _).take _
theorem cut_whole {ds : List D} {lo hi : Option Int} (h : HT.sIx ds.length 0 lo = 0 ∧ HT.sIx ds.length ds.length hi = ds.length) : cutD ds lo hi = ds := by
  unfold cutD
  rw [h.1, h.2, List.drop_zero, Nat.sub_zero, List.take_length]
def slD (x : D) (lo hi : Option Int) : Option D :=
  match x with
  | .tup xs => some (.tup (cutD xs lo hi))
  | .lst xs => some (.lst (cutD xs lo hi))
  | .str z => if z.length ≤ 16777216 then some (.str (cutS z lo hi)) else none
  | _ => none
def SL (m : Option D) (lo hi : Option (Option Int)) : Option D := m.bind fun x => lo.bind fun l => hi.bind fun h => slD x l h
theorem e_sl {lo hi : Option Expr} {nl nh : Option (Option Int)} (ha : EOk G L ρ a ma) (hl : OOk G L ρ lo nl) (hh : OOk G L ρ hi nh) : EOk G L ρ (.Subscript a (.Slice lo hi none p2) pos) (SL ma nl nh) := fun X hX =>
  wkE (pe_slice (sl_tupA.or (sl_list.or sl_str)) (ha X hX) (hl X hX) (hh X hX)) fun σ H Q ⟨F, d, em, vr, q⟩ => by
    obtain ⟨y, ey, em⟩ := Option.bind_eq_some_iff.mp em
    obtain ⟨l, el, em⟩ := Option.bind_eq_some_iff.mp em
    obtain ⟨h, eh, em⟩ := Option.bind_eq_some_iff.mp em
    refine ⟨F, y, ey, vr, fun v F1 H1 x1 r1 => ⟨F1, l, el, vr.ext x1, fun F2 H2 x2 => ⟨F2, h, eh, vr.ext (x1.trans x2), fun F3 H3 x3 => ?_⟩⟩⟩
    rw [hX.hK]
    have xx := (x1.trans x2).trans x3
    have r3 := Rep.mono (x2.trans x3).froz _ _ r1
    unfold slD at em
    split at em
    · cases em
      rename_i ds
      unfold Rep at r3
      obtain ⟨p, vs, rfl, h1, q1⟩ := r3
      refine .inl ⟨p, vs, rfl, tup_sq h1 xx.sub, fun hw => ?_, fun _ p' hp => ?_⟩
      · rw [← q1.len] at hw
        refine q _ _ _ xx (by unfold Rep; exact ⟨p, vs, rfl, h1, by rw [cut_whole hw]; exact q1⟩)
      · exact q _ _ _ (xx.trans (.frz xx.sub hp)) (by unfold Rep; exact ⟨p', _, rfl, upd_same, Reps.mono (same_new (xx.sub.none hp)) _ _ (q1.cut l h)⟩)
    · cases em
      rename_i ds
      unfold Rep at r3
      obtain ⟨p, vs, rfl, h1, q1⟩ := r3
      refine .inr (.inl ⟨p, vs, rfl, lst_sq h1 xx.sub, fun p' hp => ?_⟩)
      exact q _ _ _ (xx.trans (.frz xx.sub hp)) (by unfold Rep; exact ⟨p', _, rfl, upd_same, Reps.mono (same_new (xx.sub.none hp)) _ _ (q1.cut l h)⟩)
    · split at em
      · cases em
        unfold Rep at r3
        exact .inr (.inr ⟨_, r3, sz (by assumption), q _ _ _ xx rep_s⟩)
      · cases em
    · cases em

/-! ### argument lists, displays -/
def aC (m : Option D) (ms : Option (List D)) : Option (List D) := m.bind fun x => ms.bind fun xs => some (x :: xs)
theorem a_nil : AOk G L ρ [] (some []) := fun X hX => wkA pa_nil fun σ H Q ⟨F, ds, em, vr, q⟩ => by cases em; exact q _ F H (.refl vr.sub) .nil
theorem a_cons (ha : EOk G L ρ a ma) (hr : AOk G L ρ es ms) (hs : ∀ env, starEach (a :: es) env = (false, eval a env) :: starEach es env := by intro _; rfl) : AOk G L ρ (a :: es) (aC ma ms) := fun X hX =>
  wkA (pa_cons (ha X hX) (hr X hX) (hs _)) fun σ H Q ⟨F, ds, em, vr, q⟩ => by
    obtain ⟨y, ey, em⟩ := Option.bind_eq_some_iff.mp em
    obtain ⟨ys, eys, em⟩ := Option.bind_eq_some_iff.mp em
    cases em
    exact ⟨F, y, ey, vr, fun v F1 H1 x1 r1 => ⟨F1, ys, eys, vr.ext x1, fun vs F2 H2 x2 r2 => q _ _ _ (x1.trans x2) (.cons (Rep.mono x2.froz _ _ r1) r2)⟩⟩
def tupD (ds : List D) : Option D := if ds.length ≤ 16777216 then some (.tup ds) else none
def lstD (ds : List D) : Option D := if ds.length ≤ 16777216 then some (.lst ds) else none
theorem e_tup {k : Nat} (h : AOk G L ρ es ms) : EOk G L ρ (.Tuple es k pos) (ms.bind tupD) := fun X hX =>
  wkE (pe_tup (h X hX)) fun σ H Q ⟨F, d, em, vr, q⟩ => by
    obtain ⟨ds, eds, em⟩ := Option.bind_eq_some_iff.mp em
    unfold tupD at em
    split at em
    · cases em
      refine ⟨F, ds, eds, vr, fun vs F1 H1 x1 r1 => ⟨by rw [← r1.len]; exact sz (by assumption), fun p hp => ?_⟩⟩
      exact q _ _ _ (x1.trans (.frz x1.sub hp)) (by unfold Rep; exact ⟨p, _, rfl, upd_same, Reps.mono (same_new (x1.sub.none hp)) _ _ r1⟩)
    · cases em
theorem f_lst (h : AOk G L ρ es ms) : FOk G L ρ (.List es pos) (ms.bind lstD) := fun X hX =>
  wkE (pe_lst (h X hX)) fun σ H Q ⟨F, d, em, vr, q⟩ => by
    obtain ⟨ds, eds, em⟩ := Option.bind_eq_some_iff.mp em
    unfold lstD at em
    split at em
    · cases em
      refine ⟨F, ds, eds, vr, fun vs F1 H1 x1 r1 => ⟨by rw [← r1.len]; exact sz (by assumption), fun p hp => ?_⟩⟩
      exact q p _ _ _ (x1.trans (.own x1.sub hp)) (x1.heap.free hp) upd_same ⟨vs, rfl, r1⟩ (x1.sub.none hp)
    · cases em
theorem f_dI : FOk G L ρ (.Dict [] [] pos) (some (.dI [])) := fun X hX => wkE pe_dnewK fun σ H Q ⟨F, d, em, vr, q⟩ => by
  cases em
  exact fun p hp => q p _ _ _ (.own vr.sub hp) hp upd_same ⟨[], rfl, by unfold RepI; rfl⟩ (vr.sub.none hp)
theorem f_dT : FOk G L ρ (.Dict [] [] pos) (some (.dT [])) := fun X hX => wkE pe_dnewT fun σ H Q ⟨F, d, em, vr, q⟩ => by
  cases em
  exact fun p hp => q p _ _ _ (.own vr.sub hp) hp upd_same ⟨[], rfl, by unfold RepT; rfl⟩ (vr.sub.none hp)
/-- {k: v} with one written entry, the key an int -/
def dI1 (mk mv : Option D) : Option D := mk.bind fun k => (getI k).bind fun i => mv.bind fun v => some (.dI [(i, v)])
theorem f_dI1 {k v : Expr} {mk mv : Option D} (hk : EOk G L ρ k mk) (hv : EOk G L ρ v mv) : FOk G L ρ (.Dict [some k] [v] pos) (dI1 mk mv) := fun X hX =>
  wkE (pe_disp (pps_cons (hk X hX) (hv X hX) pps_nil) rfl rfl (fun z => nomatch z) (by show 1 ≤ 15; decide)) fun σ H Q ⟨F, d, em, vr, q⟩ p hp => by
    obtain ⟨x, ex, em⟩ := Option.bind_eq_some_iff.mp em
    obtain ⟨i, ei, em⟩ := Option.bind_eq_some_iff.mp em
    obtain ⟨y, ey, em⟩ := Option.bind_eq_some_iff.mp em
    cases em
    have x0 : Ext F H F (upd H p (.dK [])) := .own vr.sub hp
    refine ⟨F, x, ex, vr.ext x0, fun v1 F1 H1 x1 r1 => ⟨F1, y, ey, vr.ext (x0.trans x1), fun v2 F2 H2 x2 r2 => ?_⟩⟩
    have hp2 : H2 p = some (.dK []) := x2.heap _ _ (x1.heap _ _ upd_same)
    have hF : F2 p = none := (x1.trans x2).stay (vr.sub.none hp) upd_same fun vs z => nomatch z
    have e1 := rep_int ei r1
    subst e1
    refine ⟨hp2, [(Sum.inl i, v2)], rfl, by show 1 ≤ 15; decide, ?_⟩
    have xx := (x0.trans x1).trans x2
    refine q p (.dK (mergeK [] [(Sum.inl i, v2)])) F2 _ ⟨fun b o e => ?_, xx.froz, fun b o e => ?_, xx.new⟩ hp upd_same ⟨[(Sum.inl i, v2)], rfl, ?_⟩ hF
    · have hb : b ≠ p := fun z => by subst z; rw [hp] at e; cases e
      rw [upd_ne hb]
      exact xx.heap b o e
    · have hb : b ≠ p := fun z => by subst z; rw [hF] at e; cases e
      rw [upd_ne hb]
      exact xx.sub b o e
    · unfold RepI; exact ⟨v2, [], rfl, r2, by unfold RepI; rfl⟩

/-! ### calls of built-ins -/
/-- f tells what the call of v gives -/
def CallD (G : GX) (L : LX) (f : List D → Option D) (v : Value) : Prop := ∀ X, XOk G L X → ∃ r, CallR X v r ∧
  ∀ F H ds vs d Q, Sub F H → Reps G.K F ds vs → f ds = some d → (∀ v F' H', Ext F H F' H' → Rep G.K F' d v → Q v H') → r vs H Q
/-- .. a new object of one's own -/
def CallF (G : GX) (L : LX) (f : List D → Option D) (v : Value) : Prop := ∀ X, XOk G L X → ∃ r, CallR X v r ∧
  ∀ F H ds vs d Q, Sub F H → Reps G.K F ds vs → f ds = some d → (∀ p o F' H', Ext F H F' H' → H p = none → H' p = some o → OwnO G.K F' d o → F' p = none → Q (.ref p) H') → r vs H Q
abbrev GlS (L : LX) (x : Str) : Prop := L.sc.names.lookup x = some .globalImplicit
theorem gl_of {X : Cx} (hX : XOk G L X) {x : Str} (h : GlS L x) : Gl X x := by show X.env.scope.names.lookup x = _; rw [hX.hsc]; exact h
variable {f : List D → Option D} {idn T : String} {x : Str} {p : Pos}
theorem e_cb (hc : CallD G L f (.builtin idn)) (hm : G.mg x = none) (hv : bootBuiltins x = some (.builtin idn)) (ha : AOk G L ρ (a :: es) ms) (hg : GlS L x := by rfl)
    (hn : x ≠ "__name__" := by decide) (hdb : (x == ("__debug__" : Str)) = false := by decide)
    (he : ∀ env, starEach (a :: es) env = (false, eval a env) :: starEach es env := by intro _; rfl) (hpl : ∀ env, (backTo pos (starEach es env)).any (·.1) = false := by intro _; rfl) : EOk G L ρ (.Call (.Name x p) (a :: es) [] pos) (ms.bind f) := fun X hX => by
  obtain ⟨r, h1, h2⟩ := hc X hX
  refine wkE (pe_callB h1 (gl_of hX hg) (by rw [hX.hm]; exact hm) hv (ha X hX) hn hdb (he _) (hpl _)) fun σ H Q ⟨F, d, em, vr, q⟩ => ?_
  obtain ⟨ds, eds, em⟩ := Option.bind_eq_some_iff.mp em
  exact ⟨F, ds, eds, vr, fun vs F1 H1 x1 r1 => h2 F1 H1 ds vs d Q x1.sub r1 em fun v F2 H2 x2 r2 => q v F2 H2 (x1.trans x2) r2⟩
theorem e_ct (hc : CallD G L f (.type T)) (hm : G.mg x = none) (hv : bootBuiltins x = some (.type T)) (ha : AOk G L ρ (a :: es) ms) (hg : GlS L x := by rfl)
    (hn : x ≠ "__name__" := by decide) (hdb : (x == ("__debug__" : Str)) = false := by decide)
    (he : ∀ env, starEach (a :: es) env = (false, eval a env) :: starEach es env := by intro _; rfl) (hpl : ∀ env, (backTo pos (starEach es env)).any (·.1) = false := by intro _; rfl) : EOk G L ρ (.Call (.Name x p) (a :: es) [] pos) (ms.bind f) := fun X hX => by
  obtain ⟨r, h1, h2⟩ := hc X hX
  refine wkE (pe_callTy h1 (gl_of hX hg) (by rw [hX.hm]; exact hm) hv (ha X hX) hn hdb (he _) (hpl _)) fun σ H Q ⟨F, d, em, vr, q⟩ => ?_
  obtain ⟨ds, eds, em⟩ := Option.bind_eq_some_iff.mp em
  exact ⟨F, ds, eds, vr, fun vs F1 H1 x1 r1 => h2 F1 H1 ds vs d Q x1.sub r1 em fun v F2 H2 x2 r2 => q v F2 H2 (x1.trans x2) r2⟩
theorem f_cb (hc : CallF G L f (.builtin idn)) (hm : G.mg x = none) (hv : bootBuiltins x = some (.builtin idn)) (ha : AOk G L ρ (a :: es) ms) (hg : GlS L x := by rfl)
    (hn : x ≠ "__name__" := by decide) (hdb : (x == ("__debug__" : Str)) = false := by decide)
    (he : ∀ env, starEach (a :: es) env = (false, eval a env) :: starEach es env := by intro _; rfl) (hpl : ∀ env, (backTo pos (starEach es env)).any (·.1) = false := by intro _; rfl) : FOk G L ρ (.Call (.Name x p) (a :: es) [] pos) (ms.bind f) := fun X hX => by
  obtain ⟨r, h1, h2⟩ := hc X hX
  refine wkE (pe_callB h1 (gl_of hX hg) (by rw [hX.hm]; exact hm) hv (ha X hX) hn hdb (he _) (hpl _)) fun σ H Q ⟨F, d, em, vr, q⟩ => ?_
  obtain ⟨ds, eds, em⟩ := Option.bind_eq_some_iff.mp em
  exact ⟨F, ds, eds, vr, fun vs F1 H1 x1 r1 => h2 F1 H1 ds vs d Q x1.sub r1 em fun p o F2 H2 x2 n2 o2 r2 f2 => q p o F2 H2 (x1.trans x2) (x1.heap.free n2) o2 r2 f2⟩
theorem f_ct (hc : CallF G L f (.type T)) (hm : G.mg x = none) (hv : bootBuiltins x = some (.type T)) (ha : AOk G L ρ (a :: es) ms) (hg : GlS L x := by rfl)
    (hn : x ≠ "__name__" := by decide) (hdb : (x == ("__debug__" : Str)) = false := by decide)
    (he : ∀ env, starEach (a :: es) env = (false, eval a env) :: starEach es env := by intro _; rfl) (hpl : ∀ env, (backTo pos (starEach es env)).any (·.1) = false := by intro _; rfl) : FOk G L ρ (.Call (.Name x p) (a :: es) [] pos) (ms.bind f) := fun X hX => by
  obtain ⟨r, h1, h2⟩ := hc X hX
  refine wkE (pe_callTy h1 (gl_of hX hg) (by rw [hX.hm]; exact hm) hv (ha X hX) hn hdb (he _) (hpl _)) fun σ H Q ⟨F, d, em, vr, q⟩ => ?_
  obtain ⟨ds, eds, em⟩ := Option.bind_eq_some_iff.mp em
  exact ⟨F, ds, eds, vr, fun vs F1 H1 x1 r1 => h2 F1 H1 ds vs d Q x1.sub r1 em fun p o F2 H2 x2 n2 o2 r2 f2 => q p o F2 H2 (x1.trans x2) (x1.heap.free n2) o2 r2 f2⟩

/-! ### the built-ins -/
theorem Reps.one {K : PySem.W.Frag} {F : Hp} {d : D} {vs : List V} (r : Reps K F [d] vs) : ∃ v, vs = [v] ∧ Rep K F d v := by
  obtain ⟨v, q, rfl, h, t⟩ := r.inv
  rw [t.nil_inv]; exact ⟨v, rfl, h⟩
theorem Reps.two {K : PySem.W.Frag} {F : Hp} {d d' : D} {vs : List V} (r : Reps K F [d, d'] vs) : ∃ v v', vs = [v, v'] ∧ Rep K F d v ∧ Rep K F d' v' := by
  obtain ⟨v, q, rfl, h, t⟩ := r.inv
  obtain ⟨v', rfl, h'⟩ := t.one
  exact ⟨v, v', rfl, h, h'⟩
/-- int(x): of an int, of True, False -/
def intD : List D → Option D
  | [.int i] => some (.int i)
  | [.bl b] => some (.int (if b then 1 else 0))
  | _ => none
theorem cd_int : CallD G L intD (.type "int") := fun X hX => ⟨_, call_int1, fun F H ds vs d Q s r e q => by
  unfold intD at e
  split at e
  · cases e
    obtain ⟨v, rfl, h⟩ := r.one
    unfold Rep at h; subst h
    exact .inl ⟨_, rfl, q _ _ _ (.refl s) rep_i⟩
  · cases e
    obtain ⟨v, rfl, h⟩ := r.one
    unfold Rep at h; subst h
    exact .inr ⟨_, rfl, q _ _ _ (.refl s) rep_i⟩
  · cases e⟩
def absD : List D → Option D
  | [.int i] => some (.int (if i < 0 then -i else i))
  | _ => none
theorem cd_abs : CallD G L absD (.builtin "abs") := fun X hX => ⟨_, call_abs, fun F H ds vs d Q s r e q => by
  unfold absD at e
  split at e
  · cases e
    obtain ⟨v, rfl, h⟩ := r.one
    unfold Rep at h; subst h
    exact ⟨_, rfl, q _ _ _ (.refl s) rep_i⟩
  · cases e⟩
def max2D : List D → Option D
  | [.int i, .int j] => some (.int (if j > i then j else i))
  | _ => none
def min2D : List D → Option D
  | [.int i, .int j] => some (.int (if j < i then j else i))
  | _ => none
theorem cd_max2 : CallD G L max2D (.builtin "max") := fun X hX => ⟨_, call_max2 hX.calm, fun F H ds vs d Q s r e q => by
  unfold max2D at e
  split at e
  · cases e
    obtain ⟨v, v', rfl, h, h'⟩ := r.two
    unfold Rep at h h'; subst h h'
    exact ⟨_, _, rfl, q _ _ _ (.refl s) rep_i⟩
  · cases e⟩
theorem cd_min2 : CallD G L min2D (.builtin "min") := fun X hX => ⟨_, call_min2 hX.calm, fun F H ds vs d Q s r e q => by
  unfold min2D at e
  split at e
  · cases e
    obtain ⟨v, v', rfl, h, h'⟩ := r.two
    unfold Rep at h h'; subst h h'
    exact ⟨_, _, rfl, q _ _ _ (.refl s) rep_i⟩
  · cases e⟩
def lenD : List D → Option D
  | [.tup xs] => some (.int xs.length)
  | [.lst xs] => some (.int xs.length)
  | [.scr xs] => some (.int xs.length)
  | [.dI xs] => some (.int xs.length)
  | [.str x] => if x.length ≤ 16777216 then some (.int x.length) else none
  | _ => none
theorem d_lenR {X : Cx} : CallR X (.builtin "len") (fun xs H Q => ∃ a kvs, xs = [V.ref a] ∧ Rd H a (.dK kvs) ∧ Q (.int kvs.length) H) := by
  intro pins s σ H xs us Q I r h
  obtain ⟨a, kvs, rfl, ha, q⟩ := h
  obtain ⟨u, rfl, ru⟩ := vals1 r
  cases ru
  exact d_len I ha fun t s' I' => ⟨.int kvs.length, H, I', ⟨t, rfl⟩, q⟩
theorem cd_len : CallD G L lenD (.builtin "len") := fun X hX => ⟨_, call_len.or d_lenR, fun F H ds vs d Q s r e q => by
  rw [hX.hK]
  unfold lenD at e
  split at e
  · cases e
    obtain ⟨v, rfl, h⟩ := r.one
    unfold Rep at h
    obtain ⟨p, vs, rfl, h1, q1⟩ := h
    exact .inl ⟨_, _, rfl, .inr ⟨vs, tup_sq h1 s, rfl⟩, by rw [← q1.len]; exact q _ _ _ (.refl s) rep_i⟩
  · cases e
    obtain ⟨v, rfl, h⟩ := r.one
    unfold Rep at h
    obtain ⟨p, vs, rfl, h1, q1⟩ := h
    exact .inl ⟨_, _, rfl, .inl ⟨vs, lst_sq h1 s, rfl⟩, by rw [← q1.len]; exact q _ _ _ (.refl s) rep_i⟩
  · cases e
    obtain ⟨v, rfl, h⟩ := r.one
    unfold Rep at h
    obtain ⟨p, rfl, h1⟩ := h
    exact .inl ⟨_, _, rfl, .inl ⟨_, scr_sq h1 s, rfl⟩, by rw [List.length_map]; exact q _ _ _ (.refl s) rep_i⟩
  · cases e
    obtain ⟨v, rfl, h⟩ := r.one
    unfold Rep at h
    obtain ⟨p, ws, rfl, h1, q1⟩ := h
    exact .inr ⟨_, ws, rfl, s.rd h1, by rw [← q1.len]; exact q _ _ _ (.refl s) rep_i⟩
  · split at e
    · cases e
      obtain ⟨v, rfl, h⟩ := r.one
      unfold Rep at h; subst h
      exact .inl ⟨_, _, rfl, ⟨sz (by assumption), rfl⟩, q _ _ _ (.refl s) rep_i⟩
    · cases e
  · cases e⟩
theorem Reps.bls {K : PySem.W.Frag} {F : Hp} : ∀ {ns : List Bool} {vs : List V}, Reps K F (ns.map D.bl) vs → vs = ns.map V.bl
  | [], _, r => r.nil_inv
  | n :: ns, vs, r => by
    obtain ⟨v, q, rfl, r1, r2⟩ := r.inv
    unfold Rep at r1
    rw [r1, Reps.bls r2]; rfl
def blsOf : List D → Option (List Bool)
  | [] => some []
  | .bl i :: ds => (blsOf ds).map (i :: ·)
  | _ :: _ => none
theorem blsOf_eq : ∀ {ds : List D} {bs : List Bool}, blsOf ds = some bs → ds = bs.map .bl
  | [], bs, h => by cases h; rfl
  | .bl i :: ds, bs, h => by
    unfold blsOf at h
    obtain ⟨ks, h', rfl⟩ := Option.map_eq_some_iff.mp h
    rw [blsOf_eq h']; rfl
  | .non :: _, _, h => by cases h
  | .int _ :: _, _, h => by cases h
  | .str _ :: _, _, h => by cases h
  | .tup _ :: _, _, h => by cases h
  | .lst _ :: _, _, h => by cases h
  | .dI _ :: _, _, h => by cases h
  | .dT _ :: _, _, h => by cases h
  | .rg _ _ :: _, _, h => by cases h
  | .scr _ :: _, _, h => by cases h
theorem intsOf_eq : ∀ {ds : List D} {bs : List Int}, intsOf ds = some bs → ds = bs.map .int
  | [], bs, h => by cases h; rfl
  | .int i :: ds, bs, h => by
    unfold intsOf at h
    obtain ⟨ks, h', rfl⟩ := Option.map_eq_some_iff.mp h
    rw [intsOf_eq h']; rfl
  | .non :: _, _, h => by cases h
  | .bl _ :: _, _, h => by cases h
  | .str _ :: _, _, h => by cases h
  | .tup _ :: _, _, h => by cases h
  | .lst _ :: _, _, h => by cases h
  | .dI _ :: _, _, h => by cases h
  | .dT _ :: _, _, h => by cases h
  | .rg _ _ :: _, _, h => by cases h
  | .scr _ :: _, _, h => by cases h
def allD : List D → Option D
  | [.lst xs] => (blsOf xs).map fun bs => .bl (bs.all fun b => b)
  | _ => none
def anyD : List D → Option D
  | [.lst xs] => (blsOf xs).map fun bs => .bl (bs.any fun b => b)
  | _ => none
def sumD : List D → Option D
  | [.lst xs] => (intsOf xs).map fun ns => .int ns.sum
  | [.tup xs] => (intsOf xs).map fun ns => .int ns.sum
  | _ => none
theorem cd_all : CallD G L allD (.builtin "all") := fun X hX => ⟨_, cr_all hX.calm, fun F H ds vs d Q s r e q => by
  unfold allD at e
  split at e
  · obtain ⟨bs, hb, rfl⟩ := Option.map_eq_some_iff.mp e
    obtain ⟨v, rfl, h⟩ := r.one
    unfold Rep at h
    obtain ⟨p, vs, rfl, h1, q1⟩ := h
    rw [blsOf_eq hb] at q1
    have := q1.bls
    subst this
    exact ⟨p, bs, rfl, lst_sq h1 s, q _ _ _ (.refl s) rep_b⟩
  · cases e⟩
theorem cd_any : CallD G L anyD (.builtin "any") := fun X hX => ⟨_, cr_any hX.calm, fun F H ds vs d Q s r e q => by
  unfold anyD at e
  split at e
  · obtain ⟨bs, hb, rfl⟩ := Option.map_eq_some_iff.mp e
    obtain ⟨v, rfl, h⟩ := r.one
    unfold Rep at h
    obtain ⟨p, vs, rfl, h1, q1⟩ := h
    rw [blsOf_eq hb] at q1
    have := q1.bls
    subst this
    exact ⟨p, bs, rfl, lst_sq h1 s, q _ _ _ (.refl s) rep_b⟩
  · cases e⟩
theorem cr_sumT {X : Cx} (hc : X.calm = true) : CallR X (.builtin "sum") (fun vs H Q => ∃ (a : Addr) (ns : List Int), vs = [V.ref a] ∧ SqT X.K H a (ns.map V.int) ∧ Q (.int ns.sum) H) := by
  intro pins s σ H vs us Q I r h
  obtain ⟨a, ns, rfl, hs, q⟩ := h
  obtain ⟨its, rv, ht, _⟩ := I.tuple hs
  rw [Vals.ref1 r]
  obtain ⟨xs, hx⟩ := rv.ints.allInts.items
  have hn : numsOf its.toArray.toList = ns := rv.ints.numsOf
  rw [hx, nums_intItems] at hn
  have ht' : s.heap.IsTuple a its.toArray := ht
  rw [hx] at ht'
  refine PySem.W.ktm_sumG (I.ok.hd hc) ht' fun h' tk t' hk => ⟨.int _, H, I.kept hk, ⟨_, rfl⟩, ?_⟩
  rw [preSum_eq, List.take_of_length_le (by simp), hn]
  exact q
theorem cd_sum : CallD G L sumD (.builtin "sum") := fun X hX => ⟨_, (cr_sum hX.calm).or (cr_sumT hX.calm), fun F H ds vs d Q s r e q => by
  unfold sumD at e
  split at e
  · obtain ⟨bs, hb, rfl⟩ := Option.map_eq_some_iff.mp e
    obtain ⟨v, rfl, h⟩ := r.one
    unfold Rep at h
    obtain ⟨p, vs, rfl, h1, q1⟩ := h
    rw [intsOf_eq hb] at q1
    have := q1.ints
    subst this
    exact .inl ⟨p, bs, rfl, lst_sq h1 s, q _ _ _ (.refl s) rep_i⟩
  · obtain ⟨bs, hb, rfl⟩ := Option.map_eq_some_iff.mp e
    obtain ⟨v, rfl, h⟩ := r.one
    unfold Rep at h
    obtain ⟨p, vs, rfl, h1, q1⟩ := h
    rw [intsOf_eq hb] at q1
    have := q1.ints
    subst this
    exact .inr ⟨p, bs, rfl, tup_sq h1 s, q _ _ _ (.refl s) rep_i⟩
  · cases e⟩
/-- tuple(xs), xs a list or a tuple -/
def tupleD : List D → Option D
  | [.lst xs] => some (.tup xs)
  | [.tup xs] => some (.tup xs)
  | _ => none
theorem cd_tuple : CallD G L tupleD (.type "tuple") := fun X hX => ⟨_, call_tuple_of, fun F H ds vs d Q s r e q => by
  rw [hX.hK]
  unfold tupleD at e
  split at e
  · cases e
    obtain ⟨v, rfl, h⟩ := r.one
    unfold Rep at h
    obtain ⟨p, vs, rfl, h1, q1⟩ := h
    refine ⟨p, vs, rfl, .inl ⟨lst_sq h1 s, fun l hl => ?_⟩⟩
    exact q _ _ _ (.frz s hl) (by unfold Rep; exact ⟨l, vs, rfl, upd_same, Reps.mono (same_new (s.none hl)) _ _ q1⟩)
  · cases e
    obtain ⟨v, rfl, h⟩ := r.one
    have h' := h
    unfold Rep at h
    obtain ⟨p, vs, rfl, h1, q1⟩ := h
    exact ⟨p, vs, rfl, .inr ⟨tup_sq h1 s, q _ _ _ (.refl s) h'⟩⟩
  · cases e⟩
/-- list(xs), xs a list or a tuple: a new list -/
def listD : List D → Option D
  | [.lst xs] => some (.lst xs)
  | [.tup xs] => some (.lst xs)
  | _ => none
theorem cf_list : CallF G L listD (.type "list") := fun X hX => ⟨_, call_list_of, fun F H ds vs d Q s r e q => by
  rw [hX.hK]
  unfold listD at e
  split at e
  · cases e
    obtain ⟨v, rfl, h⟩ := r.one
    unfold Rep at h
    obtain ⟨p, vs, rfl, h1, q1⟩ := h
    exact ⟨p, vs, rfl, .inl (lst_sq h1 s), fun l hl => q l _ _ _ (.own s hl) hl upd_same ⟨vs, rfl, q1⟩ (s.none hl)⟩
  · cases e
    obtain ⟨v, rfl, h⟩ := r.one
    unfold Rep at h
    obtain ⟨p, vs, rfl, h1, q1⟩ := h
    exact ⟨p, vs, rfl, .inr (tup_sq h1 s), fun l hl => q l _ _ _ (.own s hl) hl upd_same ⟨vs, rfl, q1⟩ (s.none hl)⟩
  · cases e⟩
end
end DL
set_option autoImplicit false
set_option maxRecDepth 100000
set_option maxHeartbeats 4000000
namespace DL
open PySem PySem.Spec PySem.SeqAt PyProof.Rows L2
/-! ### zip of lists and tuples in any mix, two and three; enumerate of either -/
/-- a kind of thing that is walked -/
structure SrcK where
  sq : PySem.W.Frag → Hp → Addr → List V → Prop
  ob : Addr → Obj
  it : Heap → Addr → Addr → Nat → Prop
  is : Heap → Addr → Array Value → Prop
structure SrcOk (k : SrcK) : Prop where
  get : ∀ {X : Cx} {pins : List (Addr × Obj)} {σ : L2.St} {H : Hp} {s : Shared} {a : Addr} {xs : List V}, Inv X pins σ H s → k.sq X.K H a xs → ∃ its : List Value, Vals xs its ∧ k.is s.heap a its.toArray
  inj : ∀ {X : Cx} {pins : List (Addr × Obj)} {σ : L2.St} {H : Hp} {s : Shared} {a : Addr} {xs ys : List V}, Inv X pins σ H s → k.sq X.K H a xs → k.sq X.K H a ys → xs = ys
  beg : ∀ (l : Addr) (items : Array Value), Begins (.ref l) (k.ob l) fun h => k.is h l items
  drw : ∀ (P : Program) (w : World) (A : Around), A.handled = none → ∀ (it l : Addr), l ≠ it → ∀ items : Array Value, Draws P w A it [it, l] items.size (fun i v => items[i]? = some v) (fun i h => k.it h it l i ∧ k.is h l items)
  mov : ∀ {h h' : Heap} {it l : Addr} {i : Nat}, k.it h it l i → (∀ o, h.get? it = some o → h'.get? it = some o) → k.it h' it l i
  cel : ∀ {h : Heap} {it l : Addr} {i : Nat}, k.it h it l i → ∃ o, h.get? it = some o ∧ ∀ v, o.data ≠ .cell v
  ini : ∀ {h : Heap} {it l : Addr}, h.get? it = some (k.ob l) → k.it h it l 0
  lts : ∀ {h : Heap} {l : Addr} {items : Array Value}, k.is h l items → l < h.objs.size
def srcL : SrcK := ⟨fun K H a xs => SqL K H a xs, fun l => { cls := .type "list_iterator", data := .fields #[.ref l, .int 0 0] }, fun h it l i => h.IsListIter it l i, fun h l items => h.IsList l items⟩
def srcT : SrcK := ⟨fun K H a xs => SqT K H a xs, fun l => { cls := .type "tuple_iterator", data := .fields #[.ref l, .int 0 0] }, fun h it l i => h.IsTupleIter it l i, fun h l items => h.IsTuple l items⟩
theorem srcL_ok : SrcOk srcL where
  get := fun I q => by
    obtain ⟨its, rv, p, _⟩ := I.list q
    exact ⟨its, rv, p.isList⟩
  inj := fun I q q' => I.list_inj q q'
  beg := fun l items => begins_list l items
  drw := fun P w A hh it l hne items => Draws.list hh it l hne items
  mov := fun st h => st.at h
  cel := fun st => by
    obtain ⟨o, ho, _, hd⟩ := st
    exact ⟨o, ho, fun v q => by rw [hd] at q; cases q⟩
  ini := fun e => ⟨_, e, rfl, rfl⟩
  lts := fun p => by obtain ⟨o, ho, _⟩ := p; exact Heap.lt_size ho
theorem srcT_ok : SrcOk srcT where
  get := fun I q => by
    obtain ⟨its, rv, p, _⟩ := I.tuple q
    exact ⟨its, rv, p⟩
  inj := fun I q q' => I.tuple_inj q q'
  beg := fun l items => begins_tuple l items
  drw := fun P w A hh it l hne items => Draws.tuple hh it l hne items
  mov := fun st h => st.at h
  cel := fun st => by
    obtain ⟨o, ho, _, hd⟩ := st
    exact ⟨o, ho, fun v q => by rw [hd] at q; cases q⟩
  ini := fun e => ⟨_, e, rfl, rfl⟩
  lts := fun p => by obtain ⟨o, ho, _⟩ := p; exact Heap.lt_size ho
/-- two at once -/
def Jz2 (K : PySem.W.Frag) (k1 k2 : SrcK) (a b : Addr) : It :=
  ⟨fun i H => ∃ (xs ys : List V) (x y : V), k1.sq K H a xs ∧ k2.sq K H b ys ∧ xs[i]? = some x ∧ ys[i]? = some y,
    fun i H v H' => ∃ T x y, v = .ref T ∧ H T = none ∧ H' = upd H T (.tup [x, y]) ∧ (∀ xs, k1.sq K H a xs → xs[i]? = some x) ∧ ∀ ys, k2.sq K H b ys → ys[i]? = some y,
    fun i H => ∃ xs ys : List V, k1.sq K H a xs ∧ k2.sq K H b ys ∧ i = min xs.length ys.length⟩
/-- three at once -/
def Jz3 (K : PySem.W.Frag) (k1 k2 k3 : SrcK) (a b c : Addr) : It :=
  ⟨fun i H => ∃ (xs ys us : List V) (x y u : V), k1.sq K H a xs ∧ k2.sq K H b ys ∧ k3.sq K H c us ∧ xs[i]? = some x ∧ ys[i]? = some y ∧ us[i]? = some u,
    fun i H v H' => ∃ T x y u, v = .ref T ∧ H T = none ∧ H' = upd H T (.tup [x, y, u]) ∧ (∀ xs, k1.sq K H a xs → xs[i]? = some x) ∧ (∀ ys, k2.sq K H b ys → ys[i]? = some y) ∧ ∀ us, k3.sq K H c us → us[i]? = some u,
    fun i H => ∃ xs ys us : List V, k1.sq K H a xs ∧ k2.sq K H b ys ∧ k3.sq K H c us ∧ i = min (min xs.length ys.length) us.length⟩
/-- each with its place -/
def Jen (K : PySem.W.Frag) (k : SrcK) (a : Addr) : It :=
  ⟨fun i H => ∃ (xs : List V) (x : V), k.sq K H a xs ∧ xs[i]? = some x,
    fun i H v H' => ∃ T x, v = .ref T ∧ H T = none ∧ H' = upd H T (.tup [.int (i : Nat), x]) ∧ ∀ xs, k.sq K H a xs → xs[i]? = some x,
    fun i H => ∃ xs : List V, k.sq K H a xs ∧ i = xs.length⟩
section
variable {P : Program} {w : World} {K : PySem.W.Frag} {elts : List Expr} {kk : Nat} {tpos : Pos} {k1 k2 k3 : SrcK} {a b c z TI TO i1 i2 i3 e it : Addr}
theorem turn_z2 (o1 : SrcOk k1) (o2 : SrcOk k2) (S : ZipSep2 z TI TO i1 i2 [i1, a] [i2, b]) (n1 : a ≠ i1) (n2 : b ≠ i2) :
    Turn P w K (.Tuple elts kk tpos) (Jz2 K k1 k2 a b) [z, TI, TO, i1, i2] z (fun i h => IsZip h z TI TO .none ∧ IsTupOf2 h TI (.ref i1) (.ref i2) ∧ (∃ x y, IsTupOf2 h TO x y) ∧ k1.it h i1 a i ∧ k2.it h i2 b i) where
  mem := by simp
  obj := fun i h st m hm => by
    obtain ⟨hz, hTI, ⟨x, y, hTO⟩, h1, h2⟩ := st
    have e' : m = z ∨ m = TI ∨ m = TO ∨ m = i1 ∨ m = i2 := by simpa using hm
    rcases e' with q | q | q | q | q <;> subst q
    · exact ⟨_, hz, fun v q => nomatch q⟩
    · exact ⟨_, hTI, fun v q => nomatch q⟩
    · exact ⟨_, hTO, fun v q => nomatch q⟩
    · exact o1.cel h1
    · exact o2.cel h2
  keep := fun i h h' st k => by
    obtain ⟨hz, hTI, ⟨x, y, hTO⟩, h1, h2⟩ := st
    exact ⟨k z (by simp) _ hz, k TI (by simp) _ hTI, ⟨x, y, k TO (by simp) _ hTO⟩, o1.mov h1 fun o q => k i1 (by simp) o q, o2.mov h2 fun o q => k i2 (by simp) o q⟩
  item := by
    intro X hP hw hK hc i pins s σ H E I hf st hg
    subst hP hw hK
    obtain ⟨hz, hTI, ⟨x0, y0, hTO⟩, h1, h2⟩ := st
    obtain ⟨xs, ys, x, y, q1, q2, e1, e2⟩ := hg
    obtain ⟨s1, r1, p1⟩ := o1.get I q1
    obtain ⟨s2, r2, p2⟩ := o2.get I q2
    obtain ⟨w1, hw1, g1⟩ := r1.get e1
    obtain ⟨w2, hw2, g2⟩ := r2.get e2
    have l1 : i < s1.toArray.size := by simpa using (List.getElem?_eq_some_iff.mp hw1).1
    have l2 : i < s2.toArray.size := by simpa using (List.getElem?_eq_some_iff.mp hw2).1
    have hh : X.A.in1.handled = none := I.ok.hd hc
    have hzl : z < s.heap.objs.size := Heap.lt_size hz
    refine wpAny_pyNext_zipD2_item S (o1.drw _ _ _ hh i1 a n1 s1.toArray) (o2.drw _ _ _ hh i2 b n2 s2.toArray) hz hTI hTO ⟨h1, p1⟩ ⟨h2, p2⟩ l1 l2 fun x1 x2 h' tk y1 y2 b1 b2 d1 d2 b5 b6 hk => ?_
    have y1' : s1[i]? = some x1 := by simpa using y1
    have y2' : s2[i]? = some x2 := by simpa using y2
    rw [hw1] at y1'; cases y1'
    rw [hw2] at y2'; cases y2'
    refine ⟨_, rfl, wpAny_letOwnedTupleGo_zip (s := { s with heap := h', toks := tk }) b1 fun h2' z2' sb => ?_⟩
    have t2 : h2'.get? s.heap.objs.size = some { cls := .type "tuple", data := .seq #[w1, w2] } := (sb.2 _ (Nat.ne_of_gt hzl)).trans b5
    have nw : ObjOk X.prog X.w (upd H s.heap.objs.size (.tup [x, y])) h2' s.heap.objs.size (.tup [x, y]) :=
      ⟨by show 2 ≤ sizeLine; decide, [w1, w2], .cons g1 (.cons g2 .nil), ⟨_, t2, rfl, _, rfl⟩⟩
    have I1 : Inv X pins σ (upd H s.heap.objs.size (.tup [x, y])) { s with heap := h2', toks := tk } :=
      I.turnedNew (t' := tk) (ch := [z, TI, TO, i1, i2]) (fun m o hb q => (sb.2 m (fun q' => hb (by simp [q']))).trans (hk m o (fun q' => hb (by simp [q'])) (fun q' => hb (by simp [q'])) (fun q' => hb (by simp [q'])) (fun q' => hb (by simp [q'])) q)) hf (Nat.le_refl _) nw
    refine ⟨.ref s.heap.objs.size, _, I1, rfl, ⟨_, x, y, rfl, I.hok.fresh (Nat.le_refl _), rfl, fun l hl => by rw [o1.inj I hl q1]; exact e1, fun l hl => by rw [o2.inj I hl q2]; exact e2⟩, ⟨z2', (sb.2 _ S.TIz).trans (hk _ _ S.TIz S.TITO S.TIi1 S.TIi2 hTI), ⟨w1, w2, (sb.2 _ S.TOz).trans b2⟩, o1.mov d1.1 fun o q => (sb.2 _ ?_).trans q, o2.mov d2.1 fun o q => (sb.2 _ ?_).trans q⟩, fun m hm => ?_⟩
    · exact fun q' => S.zf1 (by simp [q'])
    · exact fun q' => S.zf2 (by simp [q'])
    · have hlt : m < s.heap.objs.size := by
        have e' : m = z ∨ m = TI ∨ m = TO ∨ m = i1 ∨ m = i2 := by simpa using hm
        rcases e' with q | q | q | q | q <;> subst q
        · exact hzl
        · exact Heap.lt_size hTI
        · exact Heap.lt_size hTO
        · obtain ⟨_, q, _⟩ := o1.cel h1; exact Heap.lt_size q
        · obtain ⟨_, q, _⟩ := o2.cel h2; exact Heap.lt_size q
      rw [upd_ne (Nat.ne_of_lt hlt)]
      exact (hf m hm).1
  done := by
    intro X hP hw hK hc i pins s σ H E I hf st hg
    subst hP hw hK
    obtain ⟨hz, hTI, ⟨x0, y0, hTO⟩, h1, h2⟩ := st
    obtain ⟨xs, ys, q1, q2, hend⟩ := hg
    obtain ⟨s1, r1, p1⟩ := o1.get I q1
    obtain ⟨s2, r2, p2⟩ := o2.get I q2
    have l1 := r1.length
    have l2 := r2.length
    have m1 : s1.toArray.size = s1.length := by simp
    have m2 : s2.toArray.size = s2.length := by simp
    have hh : X.A.in1.handled = none := I.ok.hd hc
    exact wpAny_pyNext_zipD2_end S (o1.drw _ _ _ hh i1 a n1 s1.toArray) (o2.drw _ _ _ hh i2 b n2 s2.toArray) hz hTI hTO ⟨h1, p1⟩ ⟨h2, p2⟩ (by omega) (by omega) (by omega) fun h' tk hk => ⟨rfl, I.turnedL (t' := tk) (ch := [z, TI, TO, i1, i2]) (fun m o hb q =>
      hk m o (fun q' => hb (by simp [q'])) (fun q' => hb (by simp [q'])) (fun q' => hb (by simp [q'])) (fun q' => hb (by simp [q'])) q) hf⟩
  self := fun A i s Q E st h => wpAny_pyIter_zip st.1 h
theorem turn_z3 (o1 : SrcOk k1) (o2 : SrcOk k2) (o3 : SrcOk k3) (S : ZipSep3 z TI TO i1 i2 i3 [i1, a] [i2, b] [i3, c]) (n1 : a ≠ i1) (n2 : b ≠ i2) (n3 : c ≠ i3) :
    Turn P w K (.Tuple elts kk tpos) (Jz3 K k1 k2 k3 a b c) [z, TI, TO, i1, i2, i3] z (fun i h => IsZip h z TI TO .none ∧ IsTupOf3 h TI (.ref i1) (.ref i2) (.ref i3) ∧ (∃ x y u, IsTupOf3 h TO x y u) ∧ k1.it h i1 a i ∧ k2.it h i2 b i ∧ k3.it h i3 c i) where
  mem := by simp
  obj := fun i h st m hm => by
    obtain ⟨hz, hTI, ⟨x, y, u, hTO⟩, h1, h2, h3⟩ := st
    have e' : m = z ∨ m = TI ∨ m = TO ∨ m = i1 ∨ m = i2 ∨ m = i3 := by simpa using hm
    rcases e' with q | q | q | q | q | q <;> subst q
    · exact ⟨_, hz, fun v q => nomatch q⟩
    · exact ⟨_, hTI, fun v q => nomatch q⟩
    · exact ⟨_, hTO, fun v q => nomatch q⟩
    · exact o1.cel h1
    · exact o2.cel h2
    · exact o3.cel h3
  keep := fun i h h' st k => by
    obtain ⟨hz, hTI, ⟨x, y, u, hTO⟩, h1, h2, h3⟩ := st
    exact ⟨k z (by simp) _ hz, k TI (by simp) _ hTI, ⟨x, y, u, k TO (by simp) _ hTO⟩, o1.mov h1 fun o q => k i1 (by simp) o q, o2.mov h2 fun o q => k i2 (by simp) o q, o3.mov h3 fun o q => k i3 (by simp) o q⟩
  item := by
    intro X hP hw hK hc i pins s σ H E I hf st hg
    subst hP hw hK
    obtain ⟨hz, hTI, ⟨x0, y0, u0, hTO⟩, h1, h2, h3⟩ := st
    obtain ⟨xs, ys, us, x, y, u, q1, q2, q3, e1, e2, e3⟩ := hg
    obtain ⟨s1, r1, p1⟩ := o1.get I q1
    obtain ⟨s2, r2, p2⟩ := o2.get I q2
    obtain ⟨s3, r3, p3⟩ := o3.get I q3
    obtain ⟨w1, hw1, g1⟩ := r1.get e1
    obtain ⟨w2, hw2, g2⟩ := r2.get e2
    obtain ⟨w3, hw3, g3⟩ := r3.get e3
    have l1 : i < s1.toArray.size := by simpa using (List.getElem?_eq_some_iff.mp hw1).1
    have l2 : i < s2.toArray.size := by simpa using (List.getElem?_eq_some_iff.mp hw2).1
    have l3 : i < s3.toArray.size := by simpa using (List.getElem?_eq_some_iff.mp hw3).1
    have hh : X.A.in1.handled = none := I.ok.hd hc
    have hzl : z < s.heap.objs.size := Heap.lt_size hz
    refine wpAny_pyNext_zipD3_item S (o1.drw _ _ _ hh i1 a n1 s1.toArray) (o2.drw _ _ _ hh i2 b n2 s2.toArray) (o3.drw _ _ _ hh i3 c n3 s3.toArray) hz hTI hTO ⟨h1, p1⟩ ⟨h2, p2⟩ ⟨h3, p3⟩ l1 l2 l3 fun x1 x2 x3 h' tk y1 y2 y3 b1 b2 d1 d2 d3 b5 b6 hk => ?_
    have y1' : s1[i]? = some x1 := by simpa using y1
    have y2' : s2[i]? = some x2 := by simpa using y2
    have y3' : s3[i]? = some x3 := by simpa using y3
    rw [hw1] at y1'; cases y1'
    rw [hw2] at y2'; cases y2'
    rw [hw3] at y3'; cases y3'
    refine ⟨_, rfl, wpAny_letOwnedTupleGo_zip (s := { s with heap := h', toks := tk }) b1 fun h2' z2' sb => ?_⟩
    have t2 : h2'.get? s.heap.objs.size = some { cls := .type "tuple", data := .seq #[w1, w2, w3] } := (sb.2 _ (Nat.ne_of_gt hzl)).trans b5
    have nw : ObjOk X.prog X.w (upd H s.heap.objs.size (.tup [x, y, u])) h2' s.heap.objs.size (.tup [x, y, u]) :=
      ⟨by show 3 ≤ sizeLine; decide, [w1, w2, w3], .cons g1 (.cons g2 (.cons g3 .nil)), ⟨_, t2, rfl, _, rfl⟩⟩
    have I1 : Inv X pins σ (upd H s.heap.objs.size (.tup [x, y, u])) { s with heap := h2', toks := tk } :=
      I.turnedNew (t' := tk) (ch := [z, TI, TO, i1, i2, i3]) (fun m o hb q => (sb.2 m (fun q' => hb (by simp [q']))).trans (hk m o (fun q' => hb (by simp [q'])) (fun q' => hb (by simp [q'])) (fun q' => hb (by simp [q'])) (fun q' => hb (by simp [q'])) (fun q' => hb (by simp [q'])) q)) hf (Nat.le_refl _) nw
    refine ⟨.ref s.heap.objs.size, _, I1, rfl, ⟨_, x, y, u, rfl, I.hok.fresh (Nat.le_refl _), rfl, fun l hl => by rw [o1.inj I hl q1]; exact e1, fun l hl => by rw [o2.inj I hl q2]; exact e2, fun l hl => by rw [o3.inj I hl q3]; exact e3⟩, ⟨z2', (sb.2 _ S.TIz).trans (hk _ _ S.TIz S.TITO S.TIi1 S.TIi2 S.TIi3 hTI), ⟨w1, w2, w3, (sb.2 _ S.TOz).trans b2⟩, o1.mov d1.1 fun o q => (sb.2 _ ?_).trans q, o2.mov d2.1 fun o q => (sb.2 _ ?_).trans q, o3.mov d3.1 fun o q => (sb.2 _ ?_).trans q⟩, fun m hm => ?_⟩
    · exact fun q' => S.zf1 (by simp [q'])
    · exact fun q' => S.zf2 (by simp [q'])
    · exact fun q' => S.zf3 (by simp [q'])
    · have hlt : m < s.heap.objs.size := by
        have e' : m = z ∨ m = TI ∨ m = TO ∨ m = i1 ∨ m = i2 ∨ m = i3 := by simpa using hm
        rcases e' with q | q | q | q | q | q <;> subst q
        · exact hzl
        · exact Heap.lt_size hTI
        · exact Heap.lt_size hTO
        · obtain ⟨_, q, _⟩ := o1.cel h1; exact Heap.lt_size q
        · obtain ⟨_, q, _⟩ := o2.cel h2; exact Heap.lt_size q
        · obtain ⟨_, q, _⟩ := o3.cel h3; exact Heap.lt_size q
      rw [upd_ne (Nat.ne_of_lt hlt)]
      exact (hf m hm).1
  done := by
    intro X hP hw hK hc i pins s σ H E I hf st hg
    subst hP hw hK
    obtain ⟨hz, hTI, ⟨x0, y0, u0, hTO⟩, h1, h2, h3⟩ := st
    obtain ⟨xs, ys, us, q1, q2, q3, hend⟩ := hg
    obtain ⟨s1, r1, p1⟩ := o1.get I q1
    obtain ⟨s2, r2, p2⟩ := o2.get I q2
    obtain ⟨s3, r3, p3⟩ := o3.get I q3
    have l1 := r1.length
    have l2 := r2.length
    have l3 := r3.length
    have m1 : s1.toArray.size = s1.length := by simp
    have m2 : s2.toArray.size = s2.length := by simp
    have m3 : s3.toArray.size = s3.length := by simp
    have hh : X.A.in1.handled = none := I.ok.hd hc
    exact wpAny_pyNext_zipD3_end S (o1.drw _ _ _ hh i1 a n1 s1.toArray) (o2.drw _ _ _ hh i2 b n2 s2.toArray) (o3.drw _ _ _ hh i3 c n3 s3.toArray) hz hTI hTO ⟨h1, p1⟩ ⟨h2, p2⟩ ⟨h3, p3⟩ (by omega) (by omega) (by omega) (by omega) fun h' tk hk => ⟨rfl, I.turnedL (t' := tk) (ch := [z, TI, TO, i1, i2, i3]) (fun m o hb q =>
      hk m o (fun q' => hb (by simp [q'])) (fun q' => hb (by simp [q'])) (fun q' => hb (by simp [q'])) (fun q' => hb (by simp [q'])) (fun q' => hb (by simp [q'])) q) hf⟩
  self := fun A i s Q E st h => wpAny_pyIter_zip st.1 h
theorem turn_en (o1 : SrcOk k1) (n1 : a ≠ it) (n2 : e ≠ it) (n3 : e ≠ a) :
    Turn P w K (.Tuple elts kk tpos) (Jen K k1 a) [e, it] e (fun i h => (∃ old, IsEnum h e it ((i : Nat) : Int) old) ∧ k1.it h it a i) where
  mem := by simp
  obj := fun i h st m hm => by
    obtain ⟨⟨old, he⟩, h1⟩ := st
    have e' : m = e ∨ m = it := by simpa using hm
    rcases e' with q | q <;> subst q
    · exact ⟨_, he, fun v q => nomatch q⟩
    · exact o1.cel h1
  keep := fun i h h' st k => by
    obtain ⟨⟨old, he⟩, h1⟩ := st
    exact ⟨⟨old, k e (by simp) _ he⟩, o1.mov h1 fun o q => k it (by simp) o q⟩
  item := by
    intro X hP hw hK hc i pins s σ H E I hf st hg
    subst hP hw hK
    obtain ⟨⟨old, he⟩, h1⟩ := st
    obtain ⟨xs, x, q1, e1⟩ := hg
    obtain ⟨s1, r1, p1⟩ := o1.get I q1
    obtain ⟨w1, hw1, g1⟩ := r1.get e1
    have l1 : i < s1.toArray.size := by simpa using (List.getElem?_eq_some_iff.mp hw1).1
    have hh : X.A.in1.handled = none := I.ok.hd hc
    have hel : e < s.heap.objs.size := Heap.lt_size he
    refine wpAny_pyNext_enum_itemD (o1.drw _ _ _ hh it a n1 s1.toArray) he ⟨h1, p1⟩ l1 n2 (by simp [n2, n3]) fun x1 h' tk y1 b1 d1 b5 b6 hk => ?_
    have y1' : s1[i]? = some x1 := by simpa using y1
    rw [hw1] at y1'; cases y1'
    refine ⟨_, rfl, wpAny_letOwnedTupleGo_enum (s := { s with heap := h', toks := tk + 1 }) b1 fun h2' z2' sb => ?_⟩
    have t2 : h2'.get? s.heap.objs.size = some { cls := .type "tuple", data := .seq #[.int i tk, w1] } := (sb.2 _ (Nat.ne_of_gt hel)).trans b5
    have nw : ObjOk X.prog X.w (upd H s.heap.objs.size (.tup [.int (i : Nat), x])) h2' s.heap.objs.size (.tup [.int (i : Nat), x]) :=
      ⟨by show 2 ≤ sizeLine; decide, [.int i tk, w1], .cons ⟨_, rfl⟩ (.cons g1 .nil), ⟨_, t2, rfl, _, rfl⟩⟩
    have I1 : Inv X pins σ (upd H s.heap.objs.size (.tup [.int (i : Nat), x])) { s with heap := h2', toks := tk + 1 } :=
      I.turnedNew (t' := tk + 1) (ch := [e, it]) (fun m o hb q => (sb.2 m (fun q' => hb (by simp [q']))).trans (hk m o (fun q' => hb (by simp [q'])) (fun q' => hb (by simp [q'])) q)) hf (Nat.le_refl _) nw
    refine ⟨.ref s.heap.objs.size, _, I1, rfl, ⟨_, x, rfl, I.hok.fresh (Nat.le_refl _), rfl, fun l hl => by rw [o1.inj I hl q1]; exact e1⟩, ⟨⟨w1, ?_⟩, o1.mov d1.1 fun o q => (sb.2 _ (Ne.symm n2)).trans q⟩, fun m hm => ?_⟩
    · rw [show ((i + 1 : Nat) : Int) = (i : Int) + 1 by omega]; exact z2'
    · have hlt : m < s.heap.objs.size := by
        have e' : m = e ∨ m = it := by simpa using hm
        rcases e' with q | q <;> subst q
        · exact hel
        · obtain ⟨_, q, _⟩ := o1.cel h1; exact Heap.lt_size q
      rw [upd_ne (Nat.ne_of_lt hlt)]
      exact (hf m hm).1
  done := by
    intro X hP hw hK hc i pins s σ H E I hf st hg
    subst hP hw hK
    obtain ⟨⟨old, he⟩, h1⟩ := st
    obtain ⟨xs, q1, hend⟩ := hg
    obtain ⟨s1, r1, p1⟩ := o1.get I q1
    have l1 := r1.length
    have hh : X.A.in1.handled = none := I.ok.hd hc
    have hi : i = s1.toArray.size := by simp; omega
    subst hi
    exact wpAny_pyNext_enum_endD (o1.drw _ _ _ hh it a n1 s1.toArray) he ⟨h1, p1⟩ fun h' eb => ⟨rfl, I.turnedL (t' := s.toks) (ch := [e, it]) (fun m o hb q => eb m o (fun q' => hb (by simp [q'])) q) hf⟩
  self := fun A i s Q E st h => let ⟨⟨_, he⟩, _⟩ := st; wpAny_pyIter_enum he h
end
/-- enumerate(v) begins -/
theorem meets_en1 {v : Value} {o : Obj} {H : Heap → Prop} (B : Begins v o H) :
    Meets (Builtin.«enumerate.__new__» ⟨[.type "enumerate", v], []⟩) (fun _ R s => H s.heap ∧
      R (.ok (.ret (.ref (s.heap.push o).objs.size))) { s with heap := (s.heap.push o).push { cls := .type "enumerate", data := .fields #[.none, .bool false, .ref s.heap.objs.size, rawInt 0, .none, .none] } }) :=
  .of_wp fun prog w A R s h => by
    obtain ⟨hp, gn, dr, tk, os⟩ := s; obtain ⟨h1, h⟩ := h
    have hsub := sub_enumerate
    have qq : ∀ {A' : Around} {E : Value → Shared → Prop} {Q : Value → Shared → Prop}, Q (.ref hp.objs.size) ⟨hp.push o, gn, dr, tk, os⟩ → wpAny (model prog w) A' (pyIter v) Q E ⟨hp, gn, dr, tk, os⟩ :=
      fun q => B.iter prog w _ _ ⟨hp, gn, dr, tk, os⟩ _ h1 q
    wp_walk using qq
    refine wpAny_stack_any fun st => wpAny_pure ?_
    split
    · rename_i cc _ _ _ _ _
      cases (cc == Value.type "enumerate") <;> (wp_walk using qq; exact ⟨_, rfl, h⟩)
    · wp_walk using qq
      exact ⟨_, rfl, h⟩
theorem en1_begins {prog : Program} {w : World} {A : Around} {E : Value → Shared → Prop} {s : Shared} {v : Value} {o : Obj} {H : Heap → Prop} {Q : Value → Shared → Prop} (B : Begins v o H) (h1 : H s.heap)
    (h : ∀ h', IsEnum h' (s.heap.objs.size + 1) s.heap.objs.size 0 .none → h'.get? s.heap.objs.size = some o → (∀ m u, s.heap.get? m = some u → h'.get? m = some u) → Q (.ref (s.heap.objs.size + 1)) { s with heap := h' }) :
    wpAny (model prog w) A (call (.type "enumerate") [v]) Q E s := by
  refine callType_new F.called_enumerate (by decide) (F.typeCall_enumerate_1 _) (F.newCall_enumerate_1 _) (fun obj => F.args_object_init_2 obj _) F.entry_enumerate_new (meets_en1 B) ⟨h1, ?_⟩
  have z1 : (s.heap.push o).objs.size = s.heap.objs.size + 1 := Heap.size_push ..
  show _ ∧ _
  rw [z1]
  have g := Heap.get?_push_size (s.heap.push o) (o := { cls := .type "enumerate", data := .fields #[.none, .bool false, .ref s.heap.objs.size, rawInt 0, .none, .none] }) rfl
  rw [z1] at g
  exact ⟨⟨_, g, rfl⟩, h _ g (Heap.get?_push_of_some _ (Heap.get?_push_size _ B.free)) fun m u x => Heap.get?_push_of_some _ (Heap.get?_push_of_some _ x)⟩
theorem neNat {x y : Addr} (h : ¬ @Eq Nat x y) : x ≠ y := h
theorem sep2 (n l1 l2 : Nat) (h1 : l1 < n) (h2 : l2 < n) : ZipSep2 (n + 4) (n + 2) (n + 3) n (n + 1) [n, l1] [n + 1, l2] := by
  constructor <;> simp only [List.mem_cons, List.not_mem_nil, or_false, not_or, ne_eq, true_or] <;> (try trivial) <;> (try constructor) <;> (refine neNat ?_; omega)
theorem sep3 (n l1 l2 l3 : Nat) (h1 : l1 < n) (h2 : l2 < n) (h3 : l3 < n) : ZipSep3 (n + 5) (n + 3) (n + 4) n (n + 1) (n + 2) [n, l1] [n + 1, l2] [n + 2, l3] := by
  constructor <;> simp only [List.mem_cons, List.not_mem_nil, or_false, not_or, ne_eq, true_or] <;> (try trivial) <;> (try constructor) <;> (refine neNat ?_; omega)
theorem ltne (l n k : Nat) (h : l < n) : @Ne Addr l (n + k) := neNat (by omega)
theorem memle2 (n m : Nat) (h : m ∈ ([n + 4, n + 2, n + 3, n, n + 1] : List Nat)) : n ≤ m := by
  simp only [List.mem_cons, List.not_mem_nil, or_false] at h; omega
theorem memle3 (n m : Nat) (h : m ∈ ([n + 5, n + 3, n + 4, n, n + 1, n + 2] : List Nat)) : n ≤ m := by
  simp only [List.mem_cons, List.not_mem_nil, or_false] at h; omega
theorem memle1 (n m : Nat) (h : m ∈ ([n + 1, n] : List Nat)) : n ≤ m := by
  simp only [List.mem_cons, List.not_mem_nil, or_false] at h; omega
def iZ2 (K : PySem.W.Frag) (ta : TA) : TI := fun σ H R => ta σ H fun vs H1 => ∃ k1 k2 a b xs ys, SrcOk k1 ∧ SrcOk k2 ∧ vs = [.ref a, .ref b] ∧ k1.sq K H1 a xs ∧ k2.sq K H1 b ys ∧ R (Jz2 K k1 k2 a b) H1
def iZ3 (K : PySem.W.Frag) (ta : TA) : TI := fun σ H R => ta σ H fun vs H1 => ∃ k1 k2 k3 a b c xs ys us, SrcOk k1 ∧ SrcOk k2 ∧ SrcOk k3 ∧ vs = [.ref a, .ref b, .ref c] ∧ k1.sq K H1 a xs ∧ k2.sq K H1 b ys ∧ k3.sq K H1 c us ∧ R (Jz3 K k1 k2 k3 a b c) H1
def iEn (K : PySem.W.Frag) (ta : TA) : TI := fun σ H R => ta σ H fun vs H1 => ∃ k1 a xs, SrcOk k1 ∧ vs = [.ref a] ∧ k1.sq K H1 a xs ∧ R (Jen K k1 a) H1
section
variable {X : Cx} {e e2 e3 : Expr} {ta : TA} {p pos tpos : Pos} {elts : List Expr} {kk : Nat}
theorem pi_z2 (hg : Gl X "zip") (hm : X.mg "zip" = none) (ha : PA X [e, e2] ta)
    (hs : starEach [e, e2] X.env = (false, eval e X.env) :: starEach [e2] X.env := by rfl) (hpl : (backTo pos (starEach [e2] X.env)).any (·.1) = false := by rfl) :
    PI X (.Tuple elts kk tpos) (.Call (.Name "zip" p) [e, e2] [] pos) (iZ2 X.K ta) := by
  refine ⟨fun pins s σ H R I h => ?_⟩
  refine Call_ (ld_blt I hg hm PyProof.Rows.boot_zip (PyProof.Rows.callWith_type1 (thn (ha.run pos pins s σ H _ I h) fun us s1 ⟨vs, H1, I1, r1, q1⟩ => ?_) hs hpl))
  obtain ⟨k1, k2, a, b, xs, ys, o1, o2, rfl, hq1, hq2, q⟩ := q1
  obtain ⟨u1, u2, rfl, r, r'⟩ : ∃ u1 u2, us = [u1, u2] ∧ RelV (.ref a) u1 ∧ RelV (.ref b) u2 := by
    cases r1 with
    | cons r rr => cases rr with
      | cons r' rr => cases rr; exact ⟨_, _, rfl, r, r'⟩
  cases r
  cases r'
  obtain ⟨s1', _, p1⟩ := o1.get I1 hq1
  obtain ⟨s2', _, p2⟩ := o2.get I1 hq2
  have a1 := o1.lts p1
  have a2 := o2.lts p2
  refine zip_begins2 (o1.beg a s1'.toArray) (o2.beg b s2'.toArray) p1 p2 fun h' hz hTI hTO h1 h2 hsz hk => wpAny_pyIter_zip hz ?_
  have I2 : Inv X pins σ H1 { s1 with heap := h' } := I1.kept (t' := s1.toks) hk
  refine ⟨_, _, _, _, H1, rfl, I2, turn_z2 o1 o2 (sep2 s1.heap.objs.size a b a1 a2) (Nat.ne_of_lt a1) (ltne _ _ 1 a2), ⟨hz, hTI, ⟨_, _, hTO⟩, o1.ini h1, o2.ini h2⟩, fun m hm => ?_, q⟩
  have hle : s1.heap.objs.size ≤ m := memle2 _ _ hm
  exact I1.fpOk hle (I1.hok.fresh hle)
theorem pi_z3 (hg : Gl X "zip") (hm : X.mg "zip" = none) (ha : PA X [e, e2, e3] ta)
    (hs : starEach [e, e2, e3] X.env = (false, eval e X.env) :: starEach [e2, e3] X.env := by rfl) (hpl : (backTo pos (starEach [e2, e3] X.env)).any (·.1) = false := by rfl) :
    PI X (.Tuple elts kk tpos) (.Call (.Name "zip" p) [e, e2, e3] [] pos) (iZ3 X.K ta) := by
  refine ⟨fun pins s σ H R I h => ?_⟩
  refine Call_ (ld_blt I hg hm PyProof.Rows.boot_zip (PyProof.Rows.callWith_type1 (thn (ha.run pos pins s σ H _ I h) fun us s1 ⟨vs, H1, I1, r1, q1⟩ => ?_) hs hpl))
  obtain ⟨k1, k2, k3, a, b, c, xs, ys, ts, o1, o2, o3, rfl, hq1, hq2, hq3, q⟩ := q1
  obtain ⟨u1, u2, u3, rfl, r, r', r''⟩ : ∃ u1 u2 u3, us = [u1, u2, u3] ∧ RelV (.ref a) u1 ∧ RelV (.ref b) u2 ∧ RelV (.ref c) u3 := by
    cases r1 with
    | cons r rr => cases rr with
      | cons r' rr => cases rr with
        | cons r'' rr => cases rr; exact ⟨_, _, _, rfl, r, r', r''⟩
  cases r
  cases r'
  cases r''
  obtain ⟨s1', _, p1⟩ := o1.get I1 hq1
  obtain ⟨s2', _, p2⟩ := o2.get I1 hq2
  obtain ⟨s3', _, p3⟩ := o3.get I1 hq3
  have a1 := o1.lts p1
  have a2 := o2.lts p2
  have a3 := o3.lts p3
  refine zip_begins3 (o1.beg a s1'.toArray) (o2.beg b s2'.toArray) (o3.beg c s3'.toArray) p1 p2 p3 fun h' hz hTI hTO h1 h2 h3 hsz hk => wpAny_pyIter_zip hz ?_
  have I2 : Inv X pins σ H1 { s1 with heap := h' } := I1.kept (t' := s1.toks) hk
  refine ⟨_, _, _, _, H1, rfl, I2, turn_z3 o1 o2 o3 (sep3 s1.heap.objs.size a b c a1 a2 a3) (Nat.ne_of_lt a1) (ltne _ _ 1 a2) (ltne _ _ 2 a3), ⟨hz, hTI, ⟨_, _, _, hTO⟩, o1.ini h1, o2.ini h2, o3.ini h3⟩, fun m hm => ?_, q⟩
  have hle : s1.heap.objs.size ≤ m := memle3 _ _ hm
  exact I1.fpOk hle (I1.hok.fresh hle)
theorem pi_en (hg : Gl X "enumerate") (hm : X.mg "enumerate" = none) (ha : PA X [e] ta) (hs : starEach [e] X.env = [(false, eval e X.env)] := by rfl) :
    PI X (.Tuple elts kk tpos) (.Call (.Name "enumerate" p) [e] [] pos) (iEn X.K ta) := by
  refine ⟨fun pins s σ H R I h => ?_⟩
  refine Call_ (ld_blt I hg hm boot_enumerate (PyProof.Rows.callWith_type1 (thn (ha.run pos pins s σ H _ I h) fun us s1 ⟨vs, H1, I1, r1, q1⟩ => ?_) hs rfl))
  obtain ⟨k1, a, xs, o1, rfl, hq1, q⟩ := q1
  obtain ⟨u1, rfl, r⟩ : ∃ u1, us = [u1] ∧ RelV (.ref a) u1 := by
    cases r1 with
    | cons r rr => cases rr; exact ⟨_, rfl, r⟩
  cases r
  obtain ⟨s1', _, p1⟩ := o1.get I1 hq1
  have a1 := o1.lts p1
  refine en1_begins (o1.beg a s1'.toArray) p1 fun h' he h1 hk => wpAny_pyIter_enum he ?_
  have I2 : Inv X pins σ H1 { s1 with heap := h' } := I1.kept (t' := s1.toks) hk
  refine ⟨_, _, _, _, H1, rfl, I2, turn_en (e := s1.heap.objs.size + 1) (it := s1.heap.objs.size) o1 (Nat.ne_of_lt a1) (Nat.succ_ne_self _) (Ne.symm (ltne _ _ 1 a1)), ⟨⟨.none, he⟩, o1.ini h1⟩, fun m hm => ?_, q⟩
  have hle : s1.heap.objs.size ≤ m := memle1 _ _ hm
  exact I1.fpOk hle (I1.hok.fresh hle)
end
end DL
set_option autoImplicit false
set_option maxRecDepth 100000
set_option maxHeartbeats 4000000
namespace DL
open PySem PySem.Spec PySem.SeqAt PyProof.Rows L2

section
variable {G : GX} {L : LX} {ρ : List Sl} {e a b c tg iter elt : Expr} {es : List Expr} {m ma mb mc mr : Option D} {ms : Option (List D)} {pos p p2 : Pos}

/-! ### what is walked -/
/-- J walks the data ds, as long as F stands -/
def On (F H H2 : Hp) : Prop := ∀ a o, F a = some o → H2 a = H a
theorem On.refl {F H : Hp} : On F H H := fun _ _ _ => rfl
theorem On.ext {F H H2 : Hp} (s : Sub F H) (h : Same H H2) : On F H H2 := fun a o e => by
  rcases s a o e with e1 | ⟨_, ob, e1⟩ <;> rw [h _ _ e1, e1]
structure WalkD (K : PySem.W.Frag) (J : It) (F H0 : Hp) (ds : List D) : Prop where
  goes : ∀ i F2 H, i < ds.length → Same F F2 → Sub F2 H → On F H0 H → J.go i H
  stops : ∀ F2 H, Same F F2 → Sub F2 H → On F H0 H → J.stop ds.length H
  yields : ∀ i F2 H x H' d, Same F F2 → Sub F2 H → On F H0 H → ds[i]? = some d → J.yld i H x H' → ∃ F3, Ext F2 H F3 H' ∧ Rep K F3 d x
variable {H0 : Hp}
def tI (K : PySem.W.Frag) (ρ : List Sl) (m : Option (List D)) : TI := fun σ H R => ∃ F ds, m = some ds ∧ VR K ρ σ F H ∧ ∀ J F' H', Ext F H F' H' → WalkD K J F' H' ds → R J H'
def IOk (G : GX) (L : LX) (ρ : List Sl) (tg iter : Expr) (m : Option (List D)) : Prop := ∀ X, XOk G L X → PI X tg iter (tI G.K ρ m)
theorem wkI {X : Cx} {t t' : TI} (h : PI X tg iter t) (w : ∀ σ H R, t' σ H R → t σ H R) : PI X tg iter t' := ⟨fun pins s σ H R I q => h.run pins s σ H R I (w σ H R q)⟩
theorem PI.or {X : Cx} {t t' : TI} (h : PI X tg iter t) (h' : PI X tg iter t') : PI X tg iter (fun σ H R => t σ H R ∨ t' σ H R) := ⟨fun pins s σ H R I q => q.elim (h.run pins s σ H R I) (h'.run pins s σ H R I)⟩

theorem walkD_ofO {K : PySem.W.Frag} {J : It} {F : Hp} {ds : List D} {n : Nat} {Gd : Hp → Prop} {Y : Nat → Hp → V → Hp → Prop} (w : L2.Walk J n Gd Y) (hn : n = ds.length) (hg : ∀ F2 H, Same F F2 → Sub F2 H → On F H0 H → Gd H)
    (hy : ∀ i F2 H x H' d, Same F F2 → Sub F2 H → ds[i]? = some d → Y i H x H' → ∃ F3, Ext F2 H F3 H' ∧ Rep K F3 d x) : WalkD K J F H0 ds := by
  subst hn
  refine ⟨fun i F2 H hi hs s o => w.goes i H hi (hg F2 H hs s o), fun F2 H hs s o => w.stops H (hg F2 H hs s o), fun i F2 H x H' d hs s o hd y => ?_⟩
  have hi : i < ds.length := (List.getElem?_eq_some_iff.mp hd).1
  exact hy i F2 H x H' d hs s hd (w.yields i H x H' hi (hg F2 H hs s o) y)
theorem walkD_of {K : PySem.W.Frag} {J : It} {F : Hp} {ds : List D} {n : Nat} {Gd : Hp → Prop} {Y : Nat → Hp → V → Hp → Prop} (w : L2.Walk J n Gd Y) (hn : n = ds.length) (hg : ∀ F2 H, Same F F2 → Sub F2 H → Gd H)
    (hy : ∀ i F2 H x H' d, Same F F2 → Sub F2 H → ds[i]? = some d → Y i H x H' → ∃ F3, Ext F2 H F3 H' ∧ Rep K F3 d x) : WalkD K J F H0 ds := walkD_ofO w hn (fun F2 H hs s _ => hg F2 H hs s) hy
theorem yat {K : PySem.W.Frag} {F : Hp} {ds : List D} {vs : List V} (r : Reps K F ds vs) : ∀ i F2 H x H' d, Same F F2 → Sub F2 H → ds[i]? = some d → YAt vs i H x H' → ∃ F3, Ext F2 H F3 H' ∧ Rep K F3 d x := fun i F2 H x H' d hs s hd ⟨e, y⟩ => by
  subst e
  obtain ⟨v, h1, h2⟩ := r.get hd
  rw [h1] at y; cases y
  exact ⟨F2, .refl s, Rep.mono hs _ _ h2⟩
theorem walkD_list {K : PySem.W.Frag} {F : Hp} {ds : List D} {vs : List V} {a : Addr} (h : F a = some (.lst vs)) (r : Reps K F ds vs) : WalkD K (Itl K a) F H0 ds :=
  walkD_of walk_list r.len.symm (fun F2 H hs s => lst_sq (hs _ _ h) s) (yat r)
theorem walkD_tup {K : PySem.W.Frag} {F : Hp} {ds : List D} {vs : List V} {a : Addr} (h : F a = some (.tup vs)) (r : Reps K F ds vs) : WalkD K (Itt K a) F H0 ds :=
  walkD_of walk_tup r.len.symm (fun F2 H hs s => tup_sq (hs _ _ h) s) (yat r)
/-- over a list or a tuple -/
def seqD : D → Option (List D)
  | .lst xs => some xs
  | .tup xs => some xs
  | _ => none
theorem i_seq (h : EOk G L ρ e m) : IOk G L ρ tg e (m.bind seqD) := fun X hX => wkI (PI.or (pi_list (h X hX)) (pi_tup (h X hX))) fun σ H R ⟨F, ds, em, vr, q⟩ => by
  obtain ⟨d, ed, es⟩ := Option.bind_eq_some_iff.mp em
  unfold seqD at es
  split at es
  · cases es
    refine .inl ⟨F, _, ed, vr, fun v F' H' x r => ?_⟩
    unfold Rep at r
    obtain ⟨p, vs, rfl, h1, q1⟩ := r
    rw [hX.hK]
    exact ⟨p, rfl, ⟨vs, lst_sq h1 x.sub⟩, q _ F' H' x (walkD_list h1 q1)⟩
  · cases es
    refine .inr ⟨F, _, ed, vr, fun v F' H' x r => ?_⟩
    unfold Rep at r
    obtain ⟨p, vs, rfl, h1, q1⟩ := r
    rw [hX.hK]
    exact ⟨p, rfl, ⟨vs, tup_sq h1 x.sub⟩, q _ F' H' x (walkD_tup h1 q1)⟩
  · cases es
/-- range(..) -/
def rangeI (lo hi : Int) : List Int := (List.range (hi - lo).toNat).map fun (i : Nat) => lo + (i : Int)
theorem walkD_range {K : PySem.W.Frag} {F : Hp} {lo hi : Int} : WalkD K (Itr lo (hi - lo).toNat) F H0 ((rangeI lo hi).map .int) :=
  walkD_of walk_range (by simp [rangeI]) (fun _ _ _ _ => True.intro) fun i F2 H x H' d hs s hd ⟨e, y⟩ => by
    subst e y
    refine ⟨F2, .refl s, ?_⟩
    unfold rangeI at hd
    rw [List.map_map, List.getElem?_map] at hd
    obtain ⟨j, hj, hd2⟩ := Option.map_eq_some_iff.mp hd
    have : j = i := by
      obtain ⟨h1, h2⟩ := List.getElem?_eq_some_iff.mp hj
      simpa using h2.symm
    rw [← hd2, this]
    exact rep_i
def okI (i : Int) : Bool := decide (-(2 ^ 62) ≤ i) && decide (i < 2 ^ 62)
theorem okI_iff {i : Int} (h : okI i = true) : -(2 ^ 62) ≤ i ∧ i < 2 ^ 62 := by
  unfold okI at h
  rw [Bool.and_eq_true] at h
  exact ⟨of_decide_eq_true h.1, of_decide_eq_true h.2⟩
def rg1D : List D → Option (List D)
  | [.int j] => if okI j then some ((rangeI 0 j).map .int) else none
  | _ => none
def rg2D : List D → Option (List D)
  | [.int i, .int j] => if okI i && okI j then some ((rangeI i j).map .int) else none
  | _ => none
theorem i_range1 (hm : G.mg "range" = none) (ha : AOk G L ρ [a] ms) (hg : GlS L "range" := by rfl) (hs : ∀ env, starEach [a] env = [(false, eval a env)] := by intro _; rfl) : IOk G L ρ tg (.Call (.Name "range" p) [a] [] pos) (ms.bind rg1D) := fun X hX =>
  wkI (pi_range1 (gl_of hX hg) (by rw [hX.hm]; exact hm) (ha X hX) (hs _)) fun σ H R ⟨F, ds, em, vr, q⟩ => by
    obtain ⟨xs, exs, es⟩ := Option.bind_eq_some_iff.mp em
    unfold rg1D at es
    split at es
    · split at es
      · rename_i j h
        cases es
        refine ⟨F, _, exs, vr, fun vs F' H' x r => ?_⟩
        obtain ⟨v, rfl, hv⟩ := r.one
        unfold Rep at hv; subst hv
        obtain ⟨h1, h2⟩ := okI_iff h
        refine ⟨j, rfl, h1, h2, ?_⟩
        have := q (Itr 0 (j - 0).toNat) F' H' x walkD_range
        simpa using this
      · cases es
    · cases es
theorem i_range2 (hm : G.mg "range" = none) (ha : AOk G L ρ [a, b] ms) (hg : GlS L "range" := by rfl) (hs : ∀ env, starEach [a, b] env = [(false, eval a env), (false, eval b env)] := by intro _; rfl) (hs2 : ∀ env, starEach [b] env = [(false, eval b env)] := by intro _; rfl) :
    IOk G L ρ tg (.Call (.Name "range" p) [a, b] [] pos) (ms.bind rg2D) := fun X hX =>
  wkI (pi_range2 (gl_of hX hg) (by rw [hX.hm]; exact hm) (ha X hX) (hs _) (hs2 _)) fun σ H R ⟨F, ds, em, vr, q⟩ => by
    obtain ⟨xs, exs, es⟩ := Option.bind_eq_some_iff.mp em
    unfold rg2D at es
    split at es
    · split at es
      · rename_i i j h
        cases es
        rw [Bool.and_eq_true] at h
        refine ⟨F, _, exs, vr, fun vs F' H' x r => ?_⟩
        obtain ⟨v, v', rfl, hv, hv'⟩ := r.two
        unfold Rep at hv hv'; subst hv hv'
        obtain ⟨h1, h2⟩ := okI_iff h.1
        obtain ⟨h3, h4⟩ := okI_iff h.2
        exact ⟨i, j, rfl, ⟨h1, h2, h3, h4⟩, q _ F' H' x walkD_range⟩
      · cases es
    · cases es
/-- range(a, b, c) -/
def stepI (i c : Int) (n : Nat) : List Int := (List.range n).map fun (k : Nat) => i + (k : Int) * c
def rg3N (i j c : Int) : Nat := (Builtin.Range.rangeSize i j c).toNat
def rg3D : List D → Option (List D)
  | [.int i, .int j, .int c] => if c ≠ 0 ∧ c.natAbs < 1073741824 ∧ Builtin.Range.small i j c = true ∧ Builtin.Range.rangeSize i j c = rg3N i j c then some ((stepI i c (rg3N i j c)).map .int) else none
  | _ => none
theorem walkD_step {K : PySem.W.Frag} {F : Hp} {i c : Int} {n : Nat} : WalkD K (Itc i c n) F H0 ((stepI i c n).map .int) :=
  walkD_of walk_rangeC (by simp [stepI]) (fun _ _ _ _ => True.intro) fun k F2 H x H' d hs s hd ⟨e, y⟩ => by
    subst e y
    refine ⟨F2, .refl s, ?_⟩
    unfold stepI at hd
    rw [List.map_map, List.getElem?_map] at hd
    obtain ⟨j, hj, hd2⟩ := Option.map_eq_some_iff.mp hd
    have : j = k := by
      obtain ⟨h1, h2⟩ := List.getElem?_eq_some_iff.mp hj
      simpa using h2.symm
    rw [← hd2, this]
    exact rep_i
theorem i_range3 (hm : G.mg "range" = none) (ha : AOk G L ρ [a, b, c] ms) (hg : GlS L "range" := by rfl) (hs : ∀ env, starEach [a, b, c] env = (false, eval a env) :: starEach [b, c] env := by intro _; rfl) (hpl : ∀ env, (backTo pos (starEach [b, c] env)).any (·.1) = false := by intro _; rfl) :
    IOk G L ρ tg (.Call (.Name "range" p) [a, b, c] [] pos) (ms.bind rg3D) := fun X hX =>
  wkI (pi_range3 (gl_of hX hg) (by rw [hX.hm]; exact hm) (ha X hX) (hs _) (hpl _)) fun σ H R ⟨F, ds, em, vr, q⟩ => by
    obtain ⟨xs, exs, es⟩ := Option.bind_eq_some_iff.mp em
    unfold rg3D at es
    split at es
    · split at es
      · rename_i i j c h
        cases es
        refine ⟨F, _, exs, vr, fun vs F' H' x r => ?_⟩
        obtain ⟨v, rest, rfl, hv, r⟩ := r.inv
        obtain ⟨v', v'', rfl, hv', hv''⟩ := r.two
        unfold Rep at hv hv' hv''; subst hv hv' hv''
        exact ⟨i, j, c, _, rfl, h, q _ F' H' x walkD_step⟩
      · cases es
    · cases es
/-- reversed(list or tuple) -/
theorem rev_get {α : Type} {xs : List α} {i : Nat} {d : α} (h : xs.reverse[i]? = some d) : i < xs.length ∧ xs[xs.length - 1 - i]? = some d := by
  obtain ⟨h1, h2⟩ := List.getElem?_eq_some_iff.mp h
  rw [List.length_reverse] at h1
  refine ⟨h1, ?_⟩
  rw [List.getElem?_reverse h1] at h
  exact h
theorem walkD_rev {K : PySem.W.Frag} {F : Hp} {ds : List D} {vs : List V} {a : Addr} (h : F a = some (.lst vs)) (r : Reps K F ds vs) : WalkD K (Itv K a vs.length) F H0 ds.reverse := by
  refine ⟨fun i F2 H hi hs s _ => ?_, fun F2 H hs s _ => ?_, fun i F2 H x H' d hs s _ hd y => ?_⟩
  · rw [List.length_reverse, r.len] at hi
    exact ⟨hi, vs, vs[vs.length - 1 - i]'(by omega), lst_sq (hs _ _ h) s, by simp [show vs.length - 1 - i < vs.length by omega]⟩
  · show vs.length ≤ _
    rw [List.length_reverse, r.len]; exact Nat.le_refl _
  · obtain ⟨e, y⟩ := y
    subst e
    obtain ⟨h1, h2⟩ := rev_get hd
    obtain ⟨v, h3, h4⟩ := r.get h2
    have := y vs (lst_sq (hs _ _ h) s)
    rw [r.len] at h3
    rw [h3] at this; cases this
    exact ⟨F2, .refl s, Rep.mono hs _ _ h4⟩
theorem walkD_revT {K : PySem.W.Frag} {F : Hp} {ds : List D} {vs : List V} {a : Addr} (h : F a = some (.tup vs)) (r : Reps K F ds vs) : WalkD K (RT.ItvT K a vs.length) F H0 ds.reverse := by
  refine ⟨fun i F2 H hi hs s _ => ?_, fun F2 H hs s _ => ?_, fun i F2 H x H' d hs s _ hd y => ?_⟩
  · rw [List.length_reverse, r.len] at hi
    exact ⟨hi, vs, vs[vs.length - 1 - i]'(by omega), tup_sq (hs _ _ h) s, by simp [show vs.length - 1 - i < vs.length by omega]⟩
  · show vs.length ≤ _
    rw [List.length_reverse, r.len]; exact Nat.le_refl _
  · obtain ⟨e, y⟩ := y
    subst e
    obtain ⟨h1, h2⟩ := rev_get hd
    obtain ⟨v, h3, h4⟩ := r.get h2
    have := y vs (tup_sq (hs _ _ h) s)
    rw [r.len] at h3
    rw [h3] at this; cases this
    exact ⟨F2, .refl s, Rep.mono hs _ _ h4⟩
theorem i_rev (hm : G.mg "reversed" = none) (h : EOk G L ρ e m) (hg : GlS L "reversed" := by rfl) (hs : ∀ env, starEach [e] env = (false, eval e env) :: starEach [] env := by intro _; rfl) : IOk G L ρ tg (.Call (.Name "reversed" p) [e] [] pos) ((m.bind seqD).map List.reverse) := fun X hX =>
  wkI (RT.pi_revA (gl_of hX hg) (by rw [hX.hm]; exact hm) (h X hX) (hs _)) fun σ H R ⟨F, ds, em, vr, q⟩ => by
    obtain ⟨ds', em2, rfl⟩ := Option.map_eq_some_iff.mp em
    obtain ⟨d, ed, es⟩ := Option.bind_eq_some_iff.mp em2
    rw [hX.hK]
    unfold seqD at es
    split at es
    · cases es
      refine ⟨F, _, ed, vr, fun v F' H' x r => ?_⟩
      unfold Rep at r
      obtain ⟨p, vs, rfl, h1, q1⟩ := r
      exact ⟨p, vs, rfl, .inl ⟨lst_sq h1 x.sub, q _ F' H' x (walkD_rev h1 q1)⟩⟩
    · cases es
      refine ⟨F, _, ed, vr, fun v F' H' x r => ?_⟩
      unfold Rep at r
      obtain ⟨p, vs, rfl, h1, q1⟩ := r
      exact ⟨p, vs, rfl, .inr ⟨tup_sq h1 x.sub, q _ F' H' x (walkD_revT h1 q1)⟩⟩
    · cases es
/-- zip of two lists, of two tuples -/
def zip2 : List D → List D → List D
  | x :: xs, y :: ys => .tup [x, y] :: zip2 xs ys
  | _, _ => []
theorem zip2_len : ∀ xs ys : List D, (zip2 xs ys).length = min xs.length ys.length
  | [], _ => by simp [zip2]
  | _ :: _, [] => by simp [zip2]
  | _ :: xs, _ :: ys => by simp [zip2, zip2_len xs ys]
theorem zip2_get : ∀ {xs ys : List D} {i : Nat} {d : D}, (zip2 xs ys)[i]? = some d → ∃ x y, xs[i]? = some x ∧ ys[i]? = some y ∧ d = .tup [x, y]
  | [], _, _, _, h => by simp [zip2] at h
  | _ :: _, [], _, _, h => by simp [zip2] at h
  | x :: xs, y :: ys, 0, d, h => by simp [zip2] at h; exact ⟨x, y, rfl, rfl, h.symm⟩
  | x :: xs, y :: ys, i + 1, d, h => by
    simp [zip2] at h
    obtain ⟨u, v, h1, h2, h3⟩ := zip2_get h
    exact ⟨u, v, by simpa using h1, by simpa using h2, h3⟩
def zipD : List D → Option (List D)
  | [.lst xs, .lst ys] => some (zip2 xs ys)
  | [.tup xs, .tup ys] => some (zip2 xs ys)
  | [.lst xs, .tup ys] => some (zip2 xs ys)
  | [.tup xs, .lst ys] => some (zip2 xs ys)
  | _ => none
theorem zipD_seq {d e : D} {zs : List D} (h : zipD [d, e] = some zs) : ∃ xs ys, seqD d = some xs ∧ seqD e = some ys ∧ zs = zip2 xs ys := by
  unfold zipD at h
  split at h
  · rename_i q; cases q; cases h; exact ⟨_, _, rfl, rfl, rfl⟩
  · rename_i q; cases q; cases h; exact ⟨_, _, rfl, rfl, rfl⟩
  · rename_i q; cases q; cases h; exact ⟨_, _, rfl, rfl, rfl⟩
  · rename_i q; cases q; cases h; exact ⟨_, _, rfl, rfl, rfl⟩
  · cases h
/-- a list's or a tuple's kind -/
theorem seq_src {K : PySem.W.Frag} {F : Hp} {d : D} {xs : List D} {v : V} (h : seqD d = some xs) (r : Rep K F d v) : ∃ k a vs, SrcOk k ∧ v = .ref a ∧ Reps K F xs vs ∧ ∀ F2 H, Same F F2 → Sub F2 H → k.sq K H a vs := by
  unfold seqD at h
  split at h
  · cases h
    unfold Rep at r
    obtain ⟨p, vs, rfl, h1, q1⟩ := r
    exact ⟨srcL, p, vs, srcL_ok, rfl, q1, fun F2 H hs s => lst_sq (hs _ _ h1) s⟩
  · cases h
    unfold Rep at r
    obtain ⟨p, vs, rfl, h1, q1⟩ := r
    exact ⟨srcT, p, vs, srcT_ok, rfl, q1, fun F2 H hs s => tup_sq (hs _ _ h1) s⟩
  · cases h
theorem pair_new {K : PySem.W.Frag} {F H : Hp} {T : Addr} {x y : V} {d e : D} (s : Sub F H) (n : H T = none) (r1 : Rep K F d x) (r2 : Rep K F e y) : ∃ F3, Ext F H F3 (upd H T (.tup [x, y])) ∧ Rep K F3 (.tup [d, e]) (.ref T) :=
  ⟨_, .frz s n, by unfold Rep; exact ⟨T, [x, y], rfl, upd_same, .cons (Rep.mono (same_new (s.none n)) _ _ r1) (.cons (Rep.mono (same_new (s.none n)) _ _ r2) .nil)⟩⟩
theorem tri_new {K : PySem.W.Frag} {F H : Hp} {T : Addr} {x y z : V} {d e f : D} (s : Sub F H) (n : H T = none) (r1 : Rep K F d x) (r2 : Rep K F e y) (r3 : Rep K F f z) : ∃ F3, Ext F H F3 (upd H T (.tup [x, y, z])) ∧ Rep K F3 (.tup [d, e, f]) (.ref T) :=
  ⟨_, .frz s n, by unfold Rep; exact ⟨T, [x, y, z], rfl, upd_same, .cons (Rep.mono (same_new (s.none n)) _ _ r1) (.cons (Rep.mono (same_new (s.none n)) _ _ r2) (.cons (Rep.mono (same_new (s.none n)) _ _ r3) .nil))⟩⟩
theorem walkD_z2 {K : PySem.W.Frag} {F : Hp} {k1 k2 : SrcK} {ds es : List D} {vs ws : List V} {a b : Addr} (h : ∀ F2 H, Same F F2 → Sub F2 H → k1.sq K H a vs) (r : Reps K F ds vs) (h' : ∀ F2 H, Same F F2 → Sub F2 H → k2.sq K H b ws) (r' : Reps K F es ws) : WalkD K (Jz2 K k1 k2 a b) F H0 (zip2 ds es) := by
  refine ⟨fun i F2 H hi hs s _ => ?_, fun F2 H hs s _ => ?_, fun i F2 H x H' d hs s _ hd y => ?_⟩
  · rw [zip2_len, r.len, r'.len] at hi
    exact ⟨vs, ws, vs[i]'(by omega), ws[i]'(by omega), h _ _ hs s, h' _ _ hs s, by simp, by simp⟩
  · exact ⟨vs, ws, h _ _ hs s, h' _ _ hs s, by rw [zip2_len, r.len, r'.len]⟩
  · obtain ⟨T, u, v, rfl, nT, rfl, e1, e2⟩ := y
    obtain ⟨d1, d2, h1, h2, rfl⟩ := zip2_get hd
    obtain ⟨v1, k1, k2⟩ := r.get h1
    obtain ⟨v2, k3, k4⟩ := r'.get h2
    have e1' := e1 vs (h _ _ hs s)
    have e2' := e2 ws (h' _ _ hs s)
    rw [k1] at e1'; cases e1'
    rw [k3] at e2'; cases e2'
    exact pair_new s nT (Rep.mono hs _ _ k2) (Rep.mono hs _ _ k4)
/-- zip of three -/
def zip3 : List D → List D → List D → List D
  | x :: xs, y :: ys, z :: zs => .tup [x, y, z] :: zip3 xs ys zs
  | _, _, _ => []
theorem zip3_len : ∀ xs ys zs : List D, (zip3 xs ys zs).length = min (min xs.length ys.length) zs.length
  | [], _, _ => by simp [zip3]
  | _ :: _, [], _ => by simp [zip3]
  | _ :: _, _ :: _, [] => by simp [zip3]
  | _ :: xs, _ :: ys, _ :: zs => by simp [zip3, zip3_len xs ys zs]
theorem zip3_get : ∀ {xs ys zs : List D} {i : Nat} {d : D}, (zip3 xs ys zs)[i]? = some d → ∃ x y z, xs[i]? = some x ∧ ys[i]? = some y ∧ zs[i]? = some z ∧ d = .tup [x, y, z]
  | [], _, _, _, _, h => by simp [zip3] at h
  | _ :: _, [], _, _, _, h => by simp [zip3] at h
  | _ :: _, _ :: _, [], _, _, h => by simp [zip3] at h
  | x :: xs, y :: ys, z :: zs, 0, d, h => by simp [zip3] at h; exact ⟨x, y, z, rfl, rfl, rfl, h.symm⟩
  | x :: xs, y :: ys, z :: zs, i + 1, d, h => by
    simp [zip3] at h
    obtain ⟨u, v, w, h1, h2, h3, h4⟩ := zip3_get h
    exact ⟨u, v, w, by simpa using h1, by simpa using h2, by simpa using h3, h4⟩
def zip3D : List D → Option (List D)
  | [d, e, f] => (seqD d).bind fun xs => (seqD e).bind fun ys => (seqD f).map fun zs => zip3 xs ys zs
  | _ => none
theorem walkD_z3 {K : PySem.W.Frag} {F : Hp} {k1 k2 k3 : SrcK} {ds es fs : List D} {vs ws us : List V} {a b c : Addr} (h : ∀ F2 H, Same F F2 → Sub F2 H → k1.sq K H a vs) (r : Reps K F ds vs) (h' : ∀ F2 H, Same F F2 → Sub F2 H → k2.sq K H b ws) (r' : Reps K F es ws)
    (h'' : ∀ F2 H, Same F F2 → Sub F2 H → k3.sq K H c us) (r'' : Reps K F fs us) : WalkD K (Jz3 K k1 k2 k3 a b c) F H0 (zip3 ds es fs) := by
  refine ⟨fun i F2 H hi hs s _ => ?_, fun F2 H hs s _ => ?_, fun i F2 H x H' d hs s _ hd y => ?_⟩
  · rw [zip3_len, r.len, r'.len, r''.len] at hi
    exact ⟨vs, ws, us, vs[i]'(by omega), ws[i]'(by omega), us[i]'(by omega), h _ _ hs s, h' _ _ hs s, h'' _ _ hs s, by simp, by simp, by simp⟩
  · exact ⟨vs, ws, us, h _ _ hs s, h' _ _ hs s, h'' _ _ hs s, by rw [zip3_len, r.len, r'.len, r''.len]⟩
  · obtain ⟨T, u, v, w, rfl, nT, rfl, e1, e2, e3⟩ := y
    obtain ⟨d1, d2, d3, h1, h2, h3, rfl⟩ := zip3_get hd
    obtain ⟨v1, k1, k2⟩ := r.get h1
    obtain ⟨v2, k3, k4⟩ := r'.get h2
    obtain ⟨v3, k5, k6⟩ := r''.get h3
    have e1' := e1 vs (h _ _ hs s)
    have e2' := e2 ws (h' _ _ hs s)
    have e3' := e3 us (h'' _ _ hs s)
    rw [k1] at e1'; cases e1'
    rw [k3] at e2'; cases e2'
    rw [k5] at e3'; cases e3'
    exact tri_new s nT (Rep.mono hs _ _ k2) (Rep.mono hs _ _ k4) (Rep.mono hs _ _ k6)
/-- each with its place, from i on -/
def enumL : Nat → List D → List D
  | _, [] => []
  | i, d :: ds => .tup [.int (i : Int), d] :: enumL (i + 1) ds
theorem enumL_len : ∀ (ds : List D) (i : Nat), (enumL i ds).length = ds.length
  | [], _ => rfl
  | _ :: ds, i => by simp [enumL, enumL_len ds]
theorem enumL_get : ∀ {ds : List D} {k i : Nat} {d : D}, (enumL k ds)[i]? = some d → ∃ x, ds[i]? = some x ∧ d = .tup [.int ((k + i : Nat) : Int), x]
  | [], _, _, _, h => by simp [enumL] at h
  | x :: xs, k, 0, d, h => by simp [enumL] at h; exact ⟨x, rfl, h.symm⟩
  | x :: xs, k, i + 1, d, h => by
    simp [enumL] at h
    obtain ⟨u, h1, h2⟩ := enumL_get h
    exact ⟨u, by simpa using h1, by rw [h2, show k + 1 + i = k + (i + 1) by omega]⟩
theorem walkD_en {K : PySem.W.Frag} {F : Hp} {k1 : SrcK} {ds : List D} {vs : List V} {a : Addr} (h : ∀ F2 H, Same F F2 → Sub F2 H → k1.sq K H a vs) (r : Reps K F ds vs) : WalkD K (Jen K k1 a) F H0 (enumL 0 ds) := by
  refine ⟨fun i F2 H hi hs s _ => ?_, fun F2 H hs s _ => ?_, fun i F2 H x H' d hs s _ hd y => ?_⟩
  · rw [enumL_len, r.len] at hi
    exact ⟨vs, vs[i]'(by omega), h _ _ hs s, by simp⟩
  · exact ⟨vs, h _ _ hs s, by rw [enumL_len, r.len]⟩
  · obtain ⟨T, u, rfl, nT, rfl, e1⟩ := y
    obtain ⟨d1, h1, rfl⟩ := enumL_get hd
    obtain ⟨v1, k1, k2⟩ := r.get h1
    have e1' := e1 vs (h _ _ hs s)
    rw [k1] at e1'; cases e1'
    rw [Nat.zero_add]
    exact pair_new s nT rep_i (Rep.mono hs _ _ k2)
theorem i_zip {elts : List Expr} {kk : Nat} {tpos : Pos} (hm : G.mg "zip" = none) (ha : AOk G L ρ [a, b] ms) (hg : GlS L "zip" := by rfl)
    (hs : ∀ env, starEach [a, b] env = (false, eval a env) :: starEach [b] env := by intro _; rfl) (hpl : ∀ env, (backTo pos (starEach [b] env)).any (·.1) = false := by intro _; rfl) :
    IOk G L ρ (.Tuple elts kk tpos) (.Call (.Name "zip" p) [a, b] [] pos) (ms.bind zipD) := fun X hX =>
  wkI (pi_z2 (gl_of hX hg) (by rw [hX.hm]; exact hm) (ha X hX) (hs _) (hpl _)) fun σ H R ⟨F, ds, em, vr, q⟩ => by
    obtain ⟨xs, exs, es⟩ := Option.bind_eq_some_iff.mp em
    rw [hX.hK]
    refine ⟨F, _, exs, vr, fun vs F' H' x r => ?_⟩
    obtain ⟨d, e, rfl⟩ : ∃ d e, xs = [d, e] := by
      unfold zipD at es
      split at es <;> first | (cases es; done) | exact ⟨_, _, rfl⟩
    obtain ⟨us, ys, h1, h2, rfl⟩ := zipD_seq es
    obtain ⟨v, v', rfl, hv, hv'⟩ := r.two
    obtain ⟨k1, a1, vs1, o1, rfl, r1, s1⟩ := seq_src h1 hv
    obtain ⟨k2, a2, vs2, o2, rfl, r2, s2⟩ := seq_src h2 hv'
    exact ⟨k1, k2, a1, a2, vs1, vs2, o1, o2, rfl, s1 _ _ (fun _ _ h => h) x.sub, s2 _ _ (fun _ _ h => h) x.sub, q _ F' H' x (walkD_z2 s1 r1 s2 r2)⟩
theorem i_zip3 {elts : List Expr} {kk : Nat} {tpos : Pos} (hm : G.mg "zip" = none) (ha : AOk G L ρ [a, b, c] ms) (hg : GlS L "zip" := by rfl)
    (hs : ∀ env, starEach [a, b, c] env = (false, eval a env) :: starEach [b, c] env := by intro _; rfl) (hpl : ∀ env, (backTo pos (starEach [b, c] env)).any (·.1) = false := by intro _; rfl) :
    IOk G L ρ (.Tuple elts kk tpos) (.Call (.Name "zip" p) [a, b, c] [] pos) (ms.bind zip3D) := fun X hX =>
  wkI (pi_z3 (gl_of hX hg) (by rw [hX.hm]; exact hm) (ha X hX) (hs _) (hpl _)) fun σ H R ⟨F, ds, em, vr, q⟩ => by
    obtain ⟨xs, exs, es⟩ := Option.bind_eq_some_iff.mp em
    rw [hX.hK]
    refine ⟨F, _, exs, vr, fun vs F' H' x r => ?_⟩
    unfold zip3D at es
    split at es
    · obtain ⟨us, h1, es⟩ := Option.bind_eq_some_iff.mp es
      obtain ⟨ys, h2, es⟩ := Option.bind_eq_some_iff.mp es
      obtain ⟨zs, h3, rfl⟩ := Option.map_eq_some_iff.mp es
      obtain ⟨v, rest, rfl, hv, r⟩ := r.inv
      obtain ⟨v', v'', rfl, hv', hv''⟩ := r.two
      obtain ⟨k1, a1, vs1, o1, rfl, r1, s1⟩ := seq_src h1 hv
      obtain ⟨k2, a2, vs2, o2, rfl, r2, s2⟩ := seq_src h2 hv'
      obtain ⟨k3, a3, vs3, o3, rfl, r3, s3⟩ := seq_src h3 hv''
      exact ⟨k1, k2, k3, a1, a2, a3, vs1, vs2, vs3, o1, o2, o3, rfl, s1 _ _ (fun _ _ h => h) x.sub, s2 _ _ (fun _ _ h => h) x.sub, s3 _ _ (fun _ _ h => h) x.sub, q _ F' H' x (walkD_z3 s1 r1 s2 r2 s3 r3)⟩
    · cases es
theorem i_enum {elts : List Expr} {kk : Nat} {tpos : Pos} (hm : G.mg "enumerate" = none) (h : EOk G L ρ e m) (hg : GlS L "enumerate" := by rfl) (hs : ∀ env, starEach [e] env = (false, eval e env) :: starEach [] env := by intro _; rfl) :
    IOk G L ρ (.Tuple elts kk tpos) (.Call (.Name "enumerate" p) [e] [] pos) ((m.bind seqD).map (enumL 0)) := fun X hX =>
  wkI (pi_en (gl_of hX hg) (by rw [hX.hm]; exact hm) ((a_cons h a_nil hs) X hX) (hs _)) fun σ H R ⟨F, ds, em, vr, q⟩ => by
    obtain ⟨ds', em2, rfl⟩ := Option.map_eq_some_iff.mp em
    obtain ⟨d, ed, es⟩ := Option.bind_eq_some_iff.mp em2
    rw [hX.hK]
    refine ⟨F, [d], by rw [ed]; rfl, vr, fun vs F' H' x r => ?_⟩
    obtain ⟨v, rfl, hv⟩ := r.one
    obtain ⟨k1, a1, vs1, o1, rfl, r1, s1⟩ := seq_src es hv
    exact ⟨k1, a1, vs1, o1, rfl, s1 _ _ (fun _ _ h => h) x.sub, q _ F' H' x (walkD_en s1 r1)⟩
end
end DL
set_option autoImplicit false
set_option maxRecDepth 100000
set_option maxHeartbeats 4000000
namespace DL
open PySem PySem.Spec PySem.SeqAt PyProof.Rows L2

/-! ### targets -/
def setMany (σ : L2.St) : List Nat → List V → L2.St
  | i :: is, v :: vs => setMany (σ.set i (some v)) is vs
  | _, _ => σ
def setAll (ρ : List Sl) : List (Nat × D) → List Sl
  | [] => ρ
  | (i, d) :: r => setAll (setS ρ i (.val d)) r
def wipeS (ρ : List Sl) : List Nat → List Sl
  | [] => ρ
  | v :: vs => setS (wipeS ρ vs) v .no
abbrev TGD := D → Option (List (Nat × D))
def gN (i : Nat) : TGD := fun d => some [(i, d)]
def gAll : List TGD → List D → Option (List (Nat × D))
  | [], [] => some []
  | g :: gs, d :: ds => (g d).bind fun as => (gAll gs ds).bind fun bs => some (as ++ bs)
  | _, _ => none
def gT (gs : List TGD) : TGD := fun d => match d with
  | .tup ds => gAll gs ds
  | _ => none
def tG (K : PySem.W.Frag) (g : TGD) : TG := fun v σ H Q => ∃ F d as, Sub F H ∧ Rep K F d v ∧ g d = some as ∧ ∀ vs, Reps K F (as.map (·.2)) vs → Q (setMany σ (as.map (·.1)) vs) H
def tGs (K : PySem.W.Frag) (gs : List TGD) : TGs := fun vs σ H Q => ∃ F ds as, Sub F H ∧ Reps K F ds vs ∧ gAll gs ds = some as ∧ ∀ ws, Reps K F (as.map (·.2)) ws → Q (setMany σ (as.map (·.1)) ws) H
def GOk (G : GX) (L : LX) (tg : Expr) (g : TGD) : Prop := ∀ X, XOk G L X → PG X tg (tG G.K g)
def GsOk (G : GX) (L : LX) (tgs : List Expr) (gs : List TGD) : Prop := ∀ X, XOk G L X → PGs X tgs (tGs G.K gs)
theorem wkG {X : Cx} {e : Expr} {t t' : TG} (h : PG X e t) (w : ∀ v σ H Q, t' v σ H Q → t v σ H Q) : PG X e t' := ⟨fun pins s σ H v u Q I r q => h.run pins s σ H v u Q I r (w v σ H Q q)⟩
theorem wkGs {X : Cx} {e : List Expr} {t t' : TGs} (h : PGs X e t) (w : ∀ v σ H Q, t' v σ H Q → t v σ H Q) : PGs X e t' := ⟨fun pins s σ H v u Q I r q => h.run pins s σ H v u Q I r (w v σ H Q q)⟩
theorem setMany_length : ∀ (is : List Nat) (vs : List V) (σ : L2.St), (setMany σ is vs).length = σ.length
  | [], _, _ => by unfold setMany; rfl
  | _ :: _, [], _ => by unfold setMany; rfl
  | i :: is, v :: vs, σ => by unfold setMany; rw [setMany_length is vs, List.length_set]
theorem setMany_append : ∀ {is : List Nat} {vs : List V} (σ : L2.St) (js : List Nat) (ws : List V), is.length = vs.length → setMany (setMany σ is vs) js ws = setMany σ (is ++ js) (vs ++ ws)
  | [], [], σ, js, ws, _ => by unfold setMany; rfl
  | i :: is, v :: vs, σ, js, ws, h => by
    show setMany (setMany (σ.set i (some v)) is vs) js ws = setMany (σ.set i (some v)) (is ++ js) (vs ++ ws)
    exact setMany_append _ js ws (by simpa using h)
theorem gAll_len : ∀ (gs : List TGD) (ds : List D) (as : List (Nat × D)), gAll gs ds = some as → gs.length = ds.length
  | [], [], _, _ => rfl
  | [], _ :: _, _, e => by cases e
  | _ :: _, [], _, e => by cases e
  | g :: gs, d :: ds, as, e => by
    unfold gAll at e
    obtain ⟨as1, e1, e⟩ := Option.bind_eq_some_iff.mp e
    obtain ⟨as2, e2, e⟩ := Option.bind_eq_some_iff.mp e
    simp [gAll_len gs ds as2 e2]
section
variable {G : GX} {L : LX} {tg : Expr} {tgs : List Expr} {pos : Pos} {g : TGD} {gs : List TGD}
theorem g_name (i : Nat) {x : Str} (hi : L.N[i]? = some x := by rfl) (hx : Loc L.sc x := by first | exact Or.inl rfl | exact Or.inr rfl) (hf : L.ow x = true ∨ L.sc.names.lookup x = some .local := by first | exact Or.inl rfl | exact Or.inr rfl) : GOk G L (.Name x pos) (gN i) := fun X hX =>
  wkG (pg_name (i := i) (by rw [hX.hN]; exact hX.nd) (by rw [hX.hN]; exact hi) (by rw [hX.hsc]; exact hx) (by rw [hX.hfn, hX.hsc]; exact hf)) fun v σ H Q ⟨F, d, as, s, r, e, q⟩ => by
    cases e
    exact q [v] (.cons r .nil)
theorem gs_nil : GsOk G L [] [] := fun X hX => wkGs pgs_nil fun vs σ H Q ⟨F, ds, as, s, r, e, q⟩ => by
  cases ds with
  | nil => cases e; exact ⟨r.nil_inv, q [] .nil⟩
  | cons _ _ => cases e
theorem gs_cons (h1 : GOk G L tg g) (h2 : GsOk G L tgs gs) (hs : ∀ env, (assignEach (tg :: tgs) env).map (·.2) = assign tg env :: (assignEach tgs env).map (·.2) := by intro _; rfl) : GsOk G L (tg :: tgs) (g :: gs) := fun X hX =>
  wkGs (pgs_cons (h1 X hX) (h2 X hX) (hs _)) fun vs σ H Q ⟨F, ds, as, s, r, e, q⟩ => by
    cases ds with
    | nil => cases e
    | cons d ds =>
      obtain ⟨v, vr, rfl, r1, r2⟩ := r.inv
      obtain ⟨as1, e1, e⟩ := Option.bind_eq_some_iff.mp e
      obtain ⟨as2, e2, e⟩ := Option.bind_eq_some_iff.mp e
      cases e
      refine ⟨v, vr, rfl, F, d, as1, s, r1, e1, fun ws1 hw1 => ⟨F, ds, as2, s, r2, e2, fun ws2 hw2 => ?_⟩⟩
      have hl : (as1.map (·.1)).length = ws1.length := by rw [← hw1.len, List.length_map, List.length_map]
      rw [setMany_append _ _ _ hl, ← List.map_append]
      exact q _ (by rw [List.map_append]; exact hw1.append hw2)
theorem g_tup {k : Nat} (h : GsOk G L tgs gs) (hn : ∀ env, (assignEach tgs env).length = gs.length := by intro _; rfl) (hst : ∀ env, (assignEach tgs env).findIdx? (·.1) = none := by intro _; rfl) : GOk G L (.Tuple tgs k pos) (gT gs) := fun X hX =>
  wkG (pg_tup hX.calm (h X hX) (hn _) (hst _)) fun v σ H Q ⟨F, d, as, s, r, e, q⟩ => by
    unfold gT at e
    split at e
    · rename_i ds
      unfold Rep at r
      obtain ⟨a, vs, rfl, h1, q1⟩ := r
      rw [hX.hK]
      refine ⟨a, vs, rfl, tup_sq h1 s, ?_, F, ds, as, s, q1, e, q⟩
      rw [← q1.len]; exact (gAll_len _ _ _ e).symm
    · cases e
end
section
variable {K : PySem.W.Frag} {F H : Hp}
theorem VR.set {ρ : List Sl} {σ : L2.St} (r : VR K ρ σ F H) {i : Nat} {d : D} {v : V} (h : Rep K F d v) : VR K (setS ρ i (.val d)) (σ.set i (some v)) F H := by
  refine ⟨r.sub, by rw [List.length_set, set_length]; exact r.len, fun j e h' => ?_, fun j e h' => ?_⟩
  · by_cases hj : i = j
    · subst hj
      have hl := nth_lt (ρ := setS ρ i (.val d)) (i := i) (by rw [h']; exact fun z => nomatch z)
      rw [set_length] at hl
      rw [nth_set_self hl] at h'; cases h'
      exact ⟨v, List.getElem?_set_self (by rw [r.len]; exact hl), h⟩
    · rw [nth_set_ne hj] at h'
      rw [List.getElem?_set_ne hj]
      exact r.vals j e h'
  · by_cases hj : i = j
    · subst hj
      have hl := nth_lt (ρ := setS ρ i (.val d)) (i := i) (by rw [h']; exact fun z => nomatch z)
      rw [set_length] at hl
      rw [nth_set_self hl] at h'; cases h'
    · rw [nth_set_ne hj] at h'
      rw [List.getElem?_set_ne hj]
      exact r.owns j e h'
theorem VR.setMany : ∀ (as : List (Nat × D)) (vs : List V) {ρ : List Sl} {σ : L2.St}, VR K ρ σ F H → Reps K F (as.map (·.2)) vs → VR K (setAll ρ as) (setMany σ (as.map (·.1)) vs) F H
  | [], vs, ρ, σ, r, _ => by unfold setAll; exact r
  | (i, d) :: as, vs, ρ, σ, r, q => by
    obtain ⟨v, vr, rfl, r1, r2⟩ := q.inv
    exact VR.setMany as vr (r.set r1) r2
theorem VR.drop {ρ : List Sl} {σ : L2.St} (r : VR K ρ σ F H) (i : Nat) : VR K (setS ρ i .no) (σ.set i none) F H := by
  refine ⟨r.sub, by rw [List.length_set, set_length]; exact r.len, fun j e h' => ?_, fun j e h' => ?_⟩
  all_goals
    have hj : i ≠ j := fun hj => by
      subst hj
      have hl := nth_lt (ρ := setS ρ i .no) (i := i) (by rw [h']; exact fun z => nomatch z)
      rw [set_length] at hl
      rw [nth_set_self hl] at h'; cases h'
    rw [nth_set_ne hj] at h'
    rw [List.getElem?_set_ne hj]
  · exact r.vals j e h'
  · exact r.owns j e h'
theorem VR.wipe {ρ : List Sl} {σ : L2.St} (r : VR K ρ σ F H) : ∀ vs : List Nat, VR K (wipeS ρ vs) (wipe σ vs) F H
  | [] => r
  | v :: vs => (VR.wipe r vs).drop v
theorem wipe_set {σ : L2.St} {i : Nat} {x : Option V} : ∀ {vs : List Nat}, i ∈ vs → wipe (σ.set i x) vs = wipe σ vs
  | [], h => by simp at h
  | v :: vs, h => by
    unfold L2.wipe
    by_cases e : i = v
    · subst e
      by_cases hm : i ∈ vs
      · rw [wipe_set hm]
      · have : ∀ (ws : List Nat), i ∉ ws → wipe (σ.set i x) ws = (wipe σ ws).set i x := by
          intro ws
          induction ws with
          | nil => intro _; rfl
          | cons w ws ih =>
            intro hw
            unfold L2.wipe
            rw [ih (fun z => hw (List.mem_cons_of_mem _ z)), List.set_comm _ _ (fun z => hw (by rw [z]; exact List.mem_cons_self))]
        rw [this vs hm, List.set_set]
    · rw [wipe_set (vs := vs) (by simpa [e] using h)]
theorem wipe_many {vs : List Nat} : ∀ (is : List Nat) (ws : List V) (σ : L2.St), (∀ i ∈ is, i ∈ vs) → wipe (setMany σ is ws) vs = wipe σ vs
  | [], _, _, _ => by unfold DL.setMany; rfl
  | _ :: _, [], _, _ => by unfold DL.setMany; rfl
  | i :: is, w :: ws, σ, h => by
    show wipe (DL.setMany (σ.set i (some w)) is ws) vs = wipe σ vs
    rw [wipe_many is ws _ fun j hj => h j (List.mem_cons_of_mem _ hj), wipe_set (h i List.mem_cons_self)]
theorem wipe_wipe (σ : L2.St) : ∀ vs : List Nat, wipe (wipe σ vs) vs = wipe σ vs := fun vs => by
  have : ∀ ws : List Nat, (∀ w ∈ ws, w ∈ vs) → wipe (wipe σ ws) vs = wipe σ vs := by
    intro ws
    induction ws with
    | nil => intro _; rfl
    | cons w ws ih =>
      intro h
      show wipe ((wipe σ ws).set w none) vs = wipe σ vs
      rw [wipe_set (h w List.mem_cons_self)]
      exact ih fun x hx => h x (List.mem_cons_of_mem _ hx)
  exact this vs fun w hw => hw
end

/-! ### comprehensions -/
def lcD (nt : D → Option Bool) (f : D → Option D) : List D → Option (List D)
  | [] => some []
  | d :: ds => (nt d).bind fun b => if b = true then (f d).bind fun y => (lcD nt f ds).map (y :: ·) else lcD nt f ds
/-- the block of a comprehension -/
def LX.blk (L : LX) (scope : Scope) : LX := { L with sc := relS scope L.sc, ow := fun x => scope.names.lookup x == some .cell }
theorem XOk.blk {G : GX} {L : LX} {X : Cx} (h : XOk G L X) (s : Shared) (H : Hp) (scope : Scope) (C : Addr) (cl : List (Str × Addr)) (fp : List Addr) : XOk G (L.blk scope) (X.blk s H scope (compEnvC scope cl C X.env) fp) :=
  ⟨h.hP, h.hw, h.hK, h.hm, h.hb, h.hN, h.nd, by show relS scope X.env.scope = relS scope L.sc; rw [h.hsc], rfl, h.calm, h.room⟩
section
variable {G : GX} {L : LX} {ρ : List Sl} {tg iter elt : Expr} {ifs : List Expr} {scope : Scope} {own : List (Str × Nat)} {pos : Pos} {g : TGD} {nt : D → Option Bool} {f : D → Option D} {mi : Option (List D)}
def tsD (K : PySem.W.Frag) (ρ : List Sl) (vs : List Nat) (g : TGD) (nt : D → Option Bool) : TT := fun σ H Q => ∃ d as, g d = some as ∧ tT K (setAll (wipeS ρ vs) as) (nt d) σ H Q
def teD (K : PySem.W.Frag) (ρ : List Sl) (vs : List Nat) (g : TGD) (f : D → Option D) : TE := fun σ H Q => ∃ d as, g d = some as ∧ tE K (setAll (wipeS ρ vs) as) (f d) σ H Q
def TsOk (G : GX) (L : LX) (ρ : List Sl) (ifs : List Expr) (m : Option Bool) : Prop := ∀ X, XOk G L X → PTs X ifs (tT G.K ρ m)
theorem ts_nil : TsOk G L ρ [] (some true) := fun X hX => ⟨fun pins s σ H Q I ⟨F, b, e, vr, q⟩ => by cases e; exact pts_nil.run pins s σ H Q I (q F H (.refl vr.sub))⟩
theorem ts_one {c : Expr} {m : Option Bool} (h : TOk G L ρ c m) : TsOk G L ρ [c] m := fun X hX => pts_one (h X hX)
def LC (mi : Option (List D)) (nt : D → Option Bool) (f : D → Option D) : Option D := (mi.bind (lcD nt f)).bind lstD
theorem lcD_cons {d : D} {ds all : List D} (h : lcD nt f (d :: ds) = some all) : ∃ b, nt d = some b ∧ ((b = true ∧ ∃ y ys, f d = some y ∧ lcD nt f ds = some ys ∧ all = y :: ys) ∨ (b = false ∧ lcD nt f ds = some all)) := by
  obtain ⟨b, eb, h⟩ := Option.bind_eq_some_iff.mp h
  refine ⟨b, eb, ?_⟩
  cases b with
  | true =>
    rw [if_pos rfl] at h
    obtain ⟨y, ey, h⟩ := Option.bind_eq_some_iff.mp h
    obtain ⟨ys, eys, rfl⟩ := Option.map_eq_some_iff.mp h
    exact .inl ⟨rfl, y, ys, ey, eys, rfl⟩
  | false =>
    rw [if_neg Bool.false_ne_true] at h
    exact .inr ⟨rfl, h⟩
/-- the reading of a comprehension -/
theorem lc_read {K : PySem.W.Frag} {σ : L2.St} {H : Hp} {Q : VK} {vs : List Nat} (hv : ∀ d as, g d = some as → ∀ i ∈ as.map (·.1), i ∈ vs) (h0 : ∀ d, g d = none → nt d = none) (h : tF K ρ (LC mi nt f) σ H Q) :
    tLc (tI K ρ mi) (tG K g) (tsD K ρ vs g nt) (teD K ρ vs g f) vs σ H Q := by
  obtain ⟨F, d, em, vr, q⟩ := h
  obtain ⟨all, ea, el⟩ := Option.bind_eq_some_iff.mp em
  obtain ⟨ds, emi, ea⟩ := Option.bind_eq_some_iff.mp ea
  unfold lstD at el
  split at el
  · rename_i hlen
    cases el
    refine ⟨F, ds, emi, vr, fun J F1 H1 x1 w D hD => ?_⟩
    have fD : F1 D = none := x1.sub.none hD
    refine ⟨fun i m H2 => m = ds.length - i ∧ i ≤ ds.length ∧ ∃ F2 acc rest vacc, Ext F1 H1 F2 H2 ∧ F2 D = none ∧ H2 D = some (.lst vacc) ∧ Reps K F2 acc vacc ∧ lcD nt f (ds.drop i) = some rest ∧ all = acc ++ rest,
      ⟨_, rfl, Nat.zero_le _, F1, [], all, [], .own x1.sub hD, fD, upd_same, .nil, ea, rfl⟩, ?_⟩
    rintro i m H2 ⟨rfl, hi, F2, acc, rest, vacc, x2, fD2, hD2, rv, er, eall⟩
    by_cases hlt : i < ds.length
    · refine .inr ⟨w.goes i F2 H2 hlt x2.froz x2.sub (.ext x1.sub x2.heap), fun H' => i + 1 ≤ ds.length ∧ ∃ F2 acc rest vacc, Ext F1 H1 F2 H' ∧ F2 D = none ∧ H' D = some (.lst vacc) ∧ Reps K F2 acc vacc ∧ lcD nt f (ds.drop (i + 1)) = some rest ∧ all = acc ++ rest,
        fun H' ⟨h1, h2⟩ => ⟨_, by omega, rfl, h1, h2⟩, fun x H3 y3 => ?_⟩
      have hd : ds[i]? = some ds[i] := List.getElem?_eq_getElem hlt
      rw [List.drop_eq_getElem_cons hlt] at er
      generalize ds[i] = dd at hd er
      obtain ⟨F3, x3, r3⟩ := w.yields i F2 H2 x H3 dd x2.froz x2.sub (.ext x1.sub x2.heap) hd y3
      have hD3 := x3.heap _ _ hD2
      have fD3 : ∀ {F4 H4}, Ext F2 H2 F4 H4 → F4 D = none := fun {F4 H4} x4 => x4.stay fD2 hD2 fun vs z => nomatch z
      obtain ⟨b, eb, cases_⟩ := lcD_cons er
      -- the target
      cases eg : g dd with
      | none => rw [h0 dd eg] at eb; cases eb
      | some as =>
        refine ⟨F3, dd, as, x3.sub, r3, eg, fun ws hw => ⟨?_, ?_⟩⟩
        · rw [wipe_many _ _ _ (hv dd as eg), wipe_wipe]
        · have vr3 : VR K (setAll (wipeS ρ vs) as) (setMany (wipe σ vs) (as.map (·.1)) ws) F3 H3 := VR.setMany as ws ((vr.ext ((x1.trans x2).trans x3)).wipe vs) hw
          refine ⟨dd, as, eg, F3, b, eb, vr3, fun F4 H4 x4 => ?_⟩
          rcases cases_ with ⟨rfl, y, ys, ey, eys, rfl⟩ | ⟨rfl, er⟩
          · rw [if_pos rfl]
            refine ⟨dd, as, eg, F4, y, ey, vr3.ext x4, fun v F5 H5 x5 r5 => ?_⟩
            have xx := (x3.trans x4).trans x5
            have hD5 := xx.heap _ _ hD2
            have fD5 := fD3 xx
            refine ⟨vacc, hD5, ?_, hlt, F5, acc ++ [y], ys, vacc ++ [v], ?_, fD5, upd_same, (Reps.mono xx.froz _ _ rv).append (.cons r5 .nil), eys, by rw [eall, List.append_assoc]; rfl⟩
            · rw [← rv.len, sizeLine_eq]
              rw [eall, List.length_append, List.length_cons] at hlen
              omega
            · have x6 := x2.trans xx
              refine ⟨fun b o e => ?_, x6.froz, fun b o e => ?_, x6.new⟩
              · rw [upd_ne (fun z => by subst z; rw [hD] at e; cases e)]; exact x6.heap b o e
              · rw [upd_ne (fun z => by subst z; rw [fD5] at e; cases e)]; exact x6.sub b o e
          · rw [if_neg Bool.false_ne_true]
            have xx := x3.trans x4
            exact ⟨hlt, F4, acc, rest, vacc, x2.trans xx, fD3 xx, xx.heap _ _ hD2, Reps.mono xx.froz _ _ rv, er, eall⟩
    · have hi' : i = ds.length := by omega
      subst hi'
      rw [List.drop_length] at er
      cases er
      rw [List.append_nil] at eall
      subst eall
      refine .inl ⟨w.stops F2 H2 x2.froz x2.sub (.ext x1.sub x2.heap), ?_⟩
      have x6 := x1.trans x2
      exact q D (.lst vacc) F2 H2 x6 (x1.heap.free hD) hD2 ⟨vacc, rfl, rv⟩ fD2
  · cases el
/-- what the block's premises give, for any target -/
structure LcOk (G : GX) (L : LX) (ρ : List Sl) (tg elt : Expr) (ifs : List Expr) (scope : Scope) (own : List (Str × Nat)) (g : TGD) (nt : D → Option Bool) (f : D → Option D) : Prop where
  blk : blkC L.N L.sc scope own = true
  tgt : GOk G (L.blk scope) tg g
  ins : ∀ d as, g d = some as → ∀ i ∈ as.map (·.1), i ∈ own.map (·.2)
  bad : ∀ d, g d = none → nt d = none
  ifs : ∀ d as, g d = some as → TsOk G (L.blk scope) (setAll (wipeS ρ (own.map (·.2))) as) ifs (nt d)
  elt : ∀ d as, g d = some as → EOk G (L.blk scope) (setAll (wipeS ρ (own.map (·.2))) as) elt (f d)
theorem f_lc (hi : IOk G L ρ tg iter mi) (h : LcOk G L ρ tg elt ifs scope own g nt f) (hs : ∀ env x, foldedSetIterable iter env x = pure x := by intro _ _; rfl) :
    FOk G L ρ (.ListComp elt [⟨tg, iter, ifs, 0⟩] scope pos) (LC mi nt f) := fun X hX =>
  wkE (pe_lc (own := own) (g := tG G.K g) (tt := tsD G.K ρ (own.map (·.2)) g nt) (te := teD G.K ρ (own.map (·.2)) g f) hX.calm (by rw [hX.hN]; exact hX.nd) (hi X hX) (blkOk_by (by rw [hX.hN, hX.hsc]; exact h.blk))
    (fun s H C cl fp => h.tgt _ (hX.blk s H scope C cl fp))
    (fun s H C cl fp => ⟨fun pins s' σ H' Q I ⟨d, as, eg, q⟩ => (h.ifs d as eg _ (hX.blk s H scope C cl fp)).run pins s' σ H' Q I q⟩)
    (fun s H C cl fp => ⟨fun pins s' σ H' Q I ⟨d, as, eg, q⟩ => (h.elt d as eg _ (hX.blk s H scope C cl fp)).run pins s' σ H' Q I q⟩) (hs _)) fun σ H Q q => lc_read h.ins h.bad q
/-- one name -/
theorem lc1 {i : Nat} (blk : blkC L.N L.sc scope own = true) (hg : GOk G (L.blk scope) tg (gN i)) (hi : i ∈ own.map (·.2))
    (ht : ∀ d, TsOk G (L.blk scope) (setS (wipeS ρ (own.map (·.2))) i (.val d)) ifs (nt d)) (he : ∀ d, EOk G (L.blk scope) (setS (wipeS ρ (own.map (·.2))) i (.val d)) elt (f d)) : LcOk G L ρ tg elt ifs scope own (gN i) nt f :=
  ⟨blk, hg, fun d as e j hj => (by cases e; simp at hj; subst hj; exact hi), fun d e => (by cases e), fun d as e => (by cases e; exact ht d), fun d as e => (by cases e; exact he d)⟩
def un2 {α : Type} (f : D → D → Option α) : D → Option α
  | .tup [a, b] => f a b
  | _ => none
def un3 {α : Type} (f : D → D → D → Option α) : D → Option α
  | .tup [a, b, c] => f a b c
  | _ => none
def un4 {α : Type} (f : D → D → D → D → Option α) : D → Option α
  | .tup [a, b, c, d] => f a b c d
  | _ => none
theorem gT2_inv {g1 g2 : TGD} {d : D} {as : List (Nat × D)} (e : gT [g1, g2] d = some as) : ∃ a b as1 as2, d = .tup [a, b] ∧ g1 a = some as1 ∧ g2 b = some as2 ∧ as = as1 ++ as2 := by
  unfold gT at e
  split at e
  · rename_i ds
    match ds, e with
    | [a, b], e =>
      obtain ⟨as1, e1, e⟩ := Option.bind_eq_some_iff.mp e
      obtain ⟨as2, e2, e⟩ := Option.bind_eq_some_iff.mp e
      obtain ⟨as3, e3, e2⟩ := Option.bind_eq_some_iff.mp e2
      obtain ⟨as4, e4, e2⟩ := Option.bind_eq_some_iff.mp e2
      cases e4; cases e2; cases e
      exact ⟨a, b, as1, as3, rfl, e1, e3, by simp⟩
    | [], e => cases e
    | [a], e =>
      obtain ⟨as1, e1, e⟩ := Option.bind_eq_some_iff.mp e
      cases e
    | a :: b :: c :: r, e =>
      obtain ⟨as1, e1, e⟩ := Option.bind_eq_some_iff.mp e
      obtain ⟨as2, e2, e⟩ := Option.bind_eq_some_iff.mp e
      obtain ⟨as3, e3, e2⟩ := Option.bind_eq_some_iff.mp e2
      obtain ⟨as4, e4, e2⟩ := Option.bind_eq_some_iff.mp e2
      cases e4
  · cases e
theorem gT3_inv {g1 g2 g3 : TGD} {d : D} {as : List (Nat × D)} (e : gT [g1, g2, g3] d = some as) : ∃ a b c as1 as2 as3, d = .tup [a, b, c] ∧ g1 a = some as1 ∧ g2 b = some as2 ∧ g3 c = some as3 ∧ as = as1 ++ (as2 ++ as3) := by
  unfold gT at e
  split at e
  · rename_i ds
    have hl := gAll_len _ _ _ e
    match ds, e, hl with
    | [a, b, c], e, _ =>
      obtain ⟨as1, e1, e⟩ := Option.bind_eq_some_iff.mp e
      obtain ⟨as2, e2, e⟩ := Option.bind_eq_some_iff.mp e
      obtain ⟨as3, e3, e2⟩ := Option.bind_eq_some_iff.mp e2
      obtain ⟨as4, e4, e2⟩ := Option.bind_eq_some_iff.mp e2
      obtain ⟨as5, e5, e4⟩ := Option.bind_eq_some_iff.mp e4
      obtain ⟨as6, e6, e4⟩ := Option.bind_eq_some_iff.mp e4
      cases e6; cases e4; cases e2; cases e
      exact ⟨a, b, c, as1, as3, as5, rfl, e1, e3, e5, by simp⟩
  · cases e
theorem gT4_inv {g1 g2 g3 g4 : TGD} {d : D} {as : List (Nat × D)} (e : gT [g1, g2, g3, g4] d = some as) : ∃ a b c u as1 as2 as3 as4, d = .tup [a, b, c, u] ∧ g1 a = some as1 ∧ g2 b = some as2 ∧ g3 c = some as3 ∧ g4 u = some as4 ∧ as = as1 ++ (as2 ++ (as3 ++ as4)) := by
  unfold gT at e
  split at e
  · rename_i ds
    have hl := gAll_len _ _ _ e
    match ds, e, hl with
    | [a, b, c, u], e, _ =>
      obtain ⟨as1, e1, e⟩ := Option.bind_eq_some_iff.mp e
      obtain ⟨as2, e2, e⟩ := Option.bind_eq_some_iff.mp e
      obtain ⟨as3, e3, e2⟩ := Option.bind_eq_some_iff.mp e2
      obtain ⟨as4, e4, e2⟩ := Option.bind_eq_some_iff.mp e2
      obtain ⟨as5, e5, e4⟩ := Option.bind_eq_some_iff.mp e4
      obtain ⟨as6, e6, e4⟩ := Option.bind_eq_some_iff.mp e4
      obtain ⟨as7, e7, e6⟩ := Option.bind_eq_some_iff.mp e6
      obtain ⟨as8, e8, e6⟩ := Option.bind_eq_some_iff.mp e6
      cases e8; cases e6; cases e4; cases e2; cases e
      exact ⟨a, b, c, u, as1, as3, as5, as7, rfl, e1, e3, e5, e7, by simp⟩
  · cases e
theorem lc2 {i j : Nat} {nt : D → D → Option Bool} {f : D → D → Option D} (blk : blkC L.N L.sc scope own = true) (hg : GOk G (L.blk scope) tg (gT [gN i, gN j])) (hi : i ∈ own.map (·.2)) (hj : j ∈ own.map (·.2))
    (ht : ∀ a b, TsOk G (L.blk scope) (setS (setS (wipeS ρ (own.map (·.2))) i (.val a)) j (.val b)) ifs (nt a b)) (he : ∀ a b, EOk G (L.blk scope) (setS (setS (wipeS ρ (own.map (·.2))) i (.val a)) j (.val b)) elt (f a b)) :
    LcOk G L ρ tg elt ifs scope own (gT [gN i, gN j]) (un2 nt) (un2 f) := by
  refine ⟨blk, hg, fun d as e k hk => ?_, fun d e => ?_, fun d as e => ?_, fun d as e => ?_⟩
  · obtain ⟨a, b, as1, as2, rfl, e1, e2, rfl⟩ := gT2_inv e
    cases e1; cases e2
    simp at hk
    rcases hk with rfl | rfl
    · exact hi
    · exact hj
  · unfold un2
    split
    · cases e
    · rfl
  · obtain ⟨a, b, as1, as2, rfl, e1, e2, rfl⟩ := gT2_inv e
    cases e1; cases e2
    exact ht a b
  · obtain ⟨a, b, as1, as2, rfl, e1, e2, rfl⟩ := gT2_inv e
    cases e1; cases e2
    exact he a b
theorem lc3 {i j k : Nat} {nt : D → D → D → Option Bool} {f : D → D → D → Option D} (blk : blkC L.N L.sc scope own = true) (hg : GOk G (L.blk scope) tg (gT [gN i, gN j, gN k])) (hi : i ∈ own.map (·.2)) (hj : j ∈ own.map (·.2)) (hk : k ∈ own.map (·.2))
    (ht : ∀ a b c, TsOk G (L.blk scope) (setS (setS (setS (wipeS ρ (own.map (·.2))) i (.val a)) j (.val b)) k (.val c)) ifs (nt a b c)) (he : ∀ a b c, EOk G (L.blk scope) (setS (setS (setS (wipeS ρ (own.map (·.2))) i (.val a)) j (.val b)) k (.val c)) elt (f a b c)) :
    LcOk G L ρ tg elt ifs scope own (gT [gN i, gN j, gN k]) (un3 nt) (un3 f) := by
  refine ⟨blk, hg, fun d as e k hk => ?_, fun d e => ?_, fun d as e => ?_, fun d as e => ?_⟩
  · obtain ⟨a, b, c, as1, as2, as3, rfl, e1, e2, e3, rfl⟩ := gT3_inv e
    cases e1; cases e2; cases e3
    simp at hk
    rcases hk with rfl | rfl | rfl <;> assumption
  · unfold un3
    split
    · cases e
    · rfl
  · obtain ⟨a, b, c, as1, as2, as3, rfl, e1, e2, e3, rfl⟩ := gT3_inv e
    cases e1; cases e2; cases e3
    exact ht a b c
  · obtain ⟨a, b, c, as1, as2, as3, rfl, e1, e2, e3, rfl⟩ := gT3_inv e
    cases e1; cases e2; cases e3
    exact he a b c
theorem lc4 {i j k l : Nat} {nt : D → D → D → D → Option Bool} {f : D → D → D → D → Option D} (blk : blkC L.N L.sc scope own = true) (hg : GOk G (L.blk scope) tg (gT [gN i, gN j, gN k, gN l])) (hi : i ∈ own.map (·.2)) (hj : j ∈ own.map (·.2)) (hk : k ∈ own.map (·.2)) (hl : l ∈ own.map (·.2))
    (ht : ∀ a b c d, TsOk G (L.blk scope) (setS (setS (setS (setS (wipeS ρ (own.map (·.2))) i (.val a)) j (.val b)) k (.val c)) l (.val d)) ifs (nt a b c d)) (he : ∀ a b c d, EOk G (L.blk scope) (setS (setS (setS (setS (wipeS ρ (own.map (·.2))) i (.val a)) j (.val b)) k (.val c)) l (.val d)) elt (f a b c d)) :
    LcOk G L ρ tg elt ifs scope own (gT [gN i, gN j, gN k, gN l]) (un4 nt) (un4 f) := by
  refine ⟨blk, hg, fun d as e k hk => ?_, fun d e => ?_, fun d as e => ?_, fun d as e => ?_⟩
  · obtain ⟨a, b, c, u, as1, as2, as3, as4, rfl, e1, e2, e3, e4, rfl⟩ := gT4_inv e
    cases e1; cases e2; cases e3; cases e4
    simp at hk
    rcases hk with rfl | rfl | rfl | rfl <;> assumption
  · unfold un4
    split
    · cases e
    · rfl
  · obtain ⟨a, b, c, u, as1, as2, as3, as4, rfl, e1, e2, e3, e4, rfl⟩ := gT4_inv e
    cases e1; cases e2; cases e3; cases e4
    exact ht a b c u
  · obtain ⟨a, b, c, u, as1, as2, as3, as4, rfl, e1, e2, e3, e4, rfl⟩ := gT4_inv e
    cases e1; cases e2; cases e3; cases e4
    exact he a b c u
/-- a list of scalars made by reading what is one's own -/
def flatsG (d : D) : Option D := match d with
  | .lst ds => if ds.all flatD then some d else none
  | _ => none
theorem reps_flat {K : PySem.W.Frag} {F F' : Hp} : ∀ {ds : List D} {vs : List V}, ds.all flatD = true → Reps K F ds vs → Reps K F' ds vs
  | [], _, _, r => by rw [r.nil_inv]; exact .nil
  | d :: ds, vs, h, r => by
    rw [List.all_cons, Bool.and_eq_true] at h
    obtain ⟨v, q, rfl, r1, r2⟩ := r.inv
    exact .cons (rep_flat h.1 r1) (reps_flat h.2 r2)
theorem f_flat {e : Expr} {m : Option D} (h : FOk G L (ρ.map frzS) e m) : FOk G L ρ e (m.bind flatsG) := fun X hX => wkE (h X hX) fun σ H Q ⟨F, d, em, r, q⟩ => by
  obtain ⟨x, ex, em⟩ := Option.bind_eq_some_iff.mp em
  unfold flatsG at em
  split at em
  · split at em
    · rename_i ds hf
      cases em
      obtain ⟨hs, r'⟩ := r.allF
      refine ⟨_, _, ex, r', fun p o F' H' x n ho ow hF => ?_⟩
      obtain ⟨vs, rfl, rv⟩ := ow
      exact q p _ F H' (.heapOnly r.sub x.heap) n ho ⟨vs, rfl, reps_flat hf rv⟩ (r.sub.none n)
    · cases em
  · cases em
end
end DL
set_option autoImplicit false
set_option maxRecDepth 100000
set_option maxHeartbeats 4000000
namespace DL
open PySem PySem.Spec PySem.SeqAt PyProof.Rows L2

/-! ### the state between statements -/
structure RetOk (B F0 F H : Hp) : Prop where
  keep : Same B H
  sub : Sub F H
  ext : Same F0 F
  fresh : ∀ a o, F a = some o → F0 a = none → B a = none ∨ ∃ vs, o = .tup vs
structure ER (K : PySem.W.Frag) (B F0 : Hp) (ρ : List Sl) (σ : L2.St) (F H : Hp) : Prop where
  vr : VR K ρ σ F H
  ret : RetOk B F0 F H
  ownB : ∀ i d p, nthS ρ i = .own d → σ[i]? = some (some (.ref p)) → B p = none
  dist : ∀ i j d e p, nthS ρ i = .own d → nthS ρ j = .own e → σ[i]? = some (some (.ref p)) → σ[j]? = some (some (.ref p)) → i = j
section
variable {K : PySem.W.Frag} {B F0 F H F' H' F1 : Hp} {ρ : List Sl} {σ : L2.St}
theorem RetOk.go (r : RetOk B F0 F H) (e : Ext F H F' H') : RetOk B F0 F' H' :=
  ⟨r.keep.trans e.heap, e.sub, r.ext.trans e.froz, fun a o h n => by
    cases q : F a with
    | some u =>
      have e2 := e.froz a u q
      rw [h] at e2
      cases e2
      exact r.fresh a _ q n
    | none => exact (e.new a o h q).imp r.keep.free id⟩
theorem ER.go (r : ER K B F0 ρ σ F H) (e : Ext F H F' H') : ER K B F0 ρ σ F' H' := ⟨r.vr.ext e, r.ret.go e, r.ownB, r.dist⟩
theorem RetOk.rebase (a : RetOk B F0 F1 H) (b : RetOk B F1 F' H') : RetOk B F0 F' H' :=
  ⟨b.keep, b.sub, a.ext.trans b.ext, fun x o h n => by
    cases q : F1 x with
    | some u =>
      have e2 := b.ext x u q
      rw [h] at e2
      cases e2
      exact a.fresh x _ q n
    | none => exact b.fresh x o h q⟩
theorem ER.rebase (a : RetOk B F0 F1 H) {ρ' : List Sl} {σ' : L2.St} (b : ER K B F1 ρ' σ' F' H') : ER K B F0 ρ' σ' F' H' := ⟨b.vr, a.rebase b.ret, b.ownB, b.dist⟩
theorem nth_set_cases {i j : Nat} {x y : Sl} (h : nthS (setS ρ i x) j = y) (hy : y ≠ .no) : (i = j ∧ x = y ∧ i < ρ.length) ∨ (i ≠ j ∧ nthS ρ j = y) := by
  by_cases e : i = j
  · subst e
    have hl := nth_lt (ρ := setS ρ i x) (i := i) (by rw [h]; exact hy)
    rw [set_length] at hl
    rw [nth_set_self hl] at h
    exact .inl ⟨rfl, h, hl⟩
  · rw [nth_set_ne e] at h
    exact .inr ⟨e, h⟩
theorem ER.set (r : ER K B F0 ρ σ F H) {i : Nat} {d : D} {v : V} (h : Rep K F d v) : ER K B F0 (setS ρ i (.val d)) (σ.set i (some v)) F H := by
  refine ⟨r.vr.set h, r.ret, fun j e p h1 h2 => ?_, fun j k e f p h1 h2 h3 h4 => ?_⟩
  · rcases nth_set_cases h1 (fun z => nomatch z) with ⟨_, z, _⟩ | ⟨ne, h1⟩
    · cases z
    · rw [List.getElem?_set_ne ne] at h2; exact r.ownB j e p h1 h2
  · rcases nth_set_cases h1 (fun z => nomatch z) with ⟨_, z, _⟩ | ⟨ne, h1⟩
    · cases z
    · rcases nth_set_cases h2 (fun z => nomatch z) with ⟨_, z, _⟩ | ⟨ne2, h2⟩
      · cases z
      · rw [List.getElem?_set_ne ne] at h3
        rw [List.getElem?_set_ne ne2] at h4
        exact r.dist j k e f p h1 h2 h3 h4
theorem ER.setMany : ∀ (as : List (Nat × D)) (vs : List V) {ρ : List Sl} {σ : L2.St}, ER K B F0 ρ σ F H → Reps K F (as.map (·.2)) vs → ER K B F0 (setAll ρ as) (DL.setMany σ (as.map (·.1)) vs) F H
  | [], vs, ρ, σ, r, _ => by unfold setAll; exact r
  | (i, d) :: as, vs, ρ, σ, r, q => by
    obtain ⟨v, vr, rfl, r1, r2⟩ := q.inv
    exact ER.setMany as vr (r.set r1) r2
/-- a new object of one's own comes to slot i -/
theorem ER.setOwn (r : ER K B F0 ρ σ F H) {i : Nat} {d : D} {p : Addr} {o : HO} (n : ∀ q u, H q = some u → q ≠ p ∨ True) (ho : H p = some o) (ow : OwnO K F d o) (hF : F p = none) (hB : B p = none)
    (hn : ∀ j e, nthS ρ j = .own e → σ[j]? ≠ some (some (.ref p))) : ER K B F0 (setS ρ i (.own d)) (σ.set i (some (.ref p))) F H := by
  refine ⟨⟨r.vr.sub, by rw [List.length_set, set_length]; exact r.vr.len, fun j e h1 => ?_, fun j e h1 => ?_⟩, r.ret, fun j e q h1 h2 => ?_, fun j k e f q h1 h2 h3 h4 => ?_⟩
  · rcases nth_set_cases h1 (fun z => nomatch z) with ⟨_, z, _⟩ | ⟨ne, h1⟩
    · cases z
    · rw [List.getElem?_set_ne ne]; exact r.vr.vals j e h1
  · rcases nth_set_cases h1 (fun z => nomatch z) with ⟨rfl, z, hl⟩ | ⟨ne, h1⟩
    · cases z
      exact ⟨p, o, List.getElem?_set_self (by rw [r.vr.len]; exact hl), ho, ow, hF⟩
    · rw [List.getElem?_set_ne ne]; exact r.vr.owns j e h1
  · rcases nth_set_cases h1 (fun z => nomatch z) with ⟨rfl, z, hl⟩ | ⟨ne, h1⟩
    · rw [List.getElem?_set_self (by rw [r.vr.len]; exact hl)] at h2; cases h2; exact hB
    · rw [List.getElem?_set_ne ne] at h2; exact r.ownB j e q h1 h2
  · rcases nth_set_cases h1 (fun z => nomatch z) with ⟨rfl, z, hl⟩ | ⟨ne, h1⟩
    · rcases nth_set_cases h2 (fun z => nomatch z) with ⟨e2, z, hl⟩ | ⟨ne2, h2⟩
      · exact e2
      · rw [List.getElem?_set_self (by rw [r.vr.len]; exact hl)] at h3; cases h3
        rw [List.getElem?_set_ne ne2] at h4
        exact absurd h4 (hn k f h2)
    · rcases nth_set_cases h2 (fun z => nomatch z) with ⟨rfl, z, hl⟩ | ⟨ne2, h2⟩
      · rw [List.getElem?_set_self (by rw [r.vr.len]; exact hl)] at h4; cases h4
        rw [List.getElem?_set_ne ne] at h3
        exact absurd h3 (hn j e h1)
      · rw [List.getElem?_set_ne ne] at h3
        rw [List.getElem?_set_ne ne2] at h4
        exact r.dist j k e f q h1 h2 h3 h4
/-- what is one's own at slot i is changed in place -/
theorem ER.upd (r : ER K B F0 ρ σ F H) {i : Nat} {x d : D} {p : Addr} {o : HO} (hi : nthS ρ i = .own x) (hp : σ[i]? = some (some (.ref p))) (ow : OwnO K F d o) : ER K B F0 (setS ρ i (.own d)) σ F (L2.upd H p o) := by
  obtain ⟨p', o', e1, e2, e3, hF⟩ := r.vr.owns i x hi
  rw [hp] at e1; cases e1
  have hB := r.ownB i x p hi hp
  have hi' : i < ρ.length := nth_lt (by rw [hi]; exact fun z => nomatch z)
  have hsub : Sub F (L2.upd H p o) := fun a u h => by
    rw [upd_ne (fun z => by subst z; rw [hF] at h; cases h)]; exact r.vr.sub a u h
  refine ⟨⟨hsub, by rw [set_length]; exact r.vr.len, fun j e h1 => ?_, fun j e h1 => ?_⟩, ⟨fun a u h => ?_, hsub, r.ret.ext, r.ret.fresh⟩, fun j e q h1 h2 => ?_, fun j k e f q h1 h2 h3 h4 => ?_⟩
  · rcases nth_set_cases h1 (fun z => nomatch z) with ⟨_, z, _⟩ | ⟨ne, h1⟩
    · cases z
    · exact r.vr.vals j e h1
  · rcases nth_set_cases h1 (fun z => nomatch z) with ⟨rfl, z, hl⟩ | ⟨ne, h1⟩
    · cases z
      exact ⟨p, o, hp, upd_same, ow, hF⟩
    · obtain ⟨q, u, a1, a2, a3, a4⟩ := r.vr.owns j e h1
      refine ⟨q, u, a1, ?_, a3, a4⟩
      rw [upd_ne (fun z => by subst z; exact ne (r.dist i j x e q hi h1 hp a1))]; exact a2
  · rw [upd_ne (fun z => by subst z; rw [hB] at h; cases h)]; exact r.ret.keep a u h
  · rcases nth_set_cases h1 (fun z => nomatch z) with ⟨rfl, z, hl⟩ | ⟨ne, h1⟩
    · rw [hp] at h2; cases h2; exact hB
    · exact r.ownB j e q h1 h2
  · rcases nth_set_cases h1 (fun z => nomatch z) with ⟨rfl, z, hl⟩ | ⟨ne, h1⟩
    · rcases nth_set_cases h2 (fun z => nomatch z) with ⟨e2, z, hl⟩ | ⟨ne2, h2⟩
      · exact e2
      · exact r.dist i k x f q hi h2 h3 h4
    · rcases nth_set_cases h2 (fun z => nomatch z) with ⟨rfl, z, hl⟩ | ⟨ne2, h2⟩
      · exact r.dist j i e x q h1 hi h3 h4
      · exact r.dist j k e f q h1 h2 h3 h4
/-- what is one's own at slot i is frozen -/
theorem ER.frz (r : ER K B F0 ρ σ F H) {i : Nat} {x : D} (hi : nthS ρ i = .own x) : ∃ F', ER K B F0 (setS ρ i (.val x)) σ F' H ∧ Same F F' := by
  obtain ⟨p, o, e1, e2, e3, hF⟩ := r.vr.owns i x hi
  have hB := r.ownB i x p hi e1
  have hi' : i < ρ.length := nth_lt (by rw [hi]; exact fun z => nomatch z)
  have hs : Same F (L2.upd F p o) := same_new hF
  have hsub : Sub (L2.upd F p o) H := fun a u h => by
    by_cases ha : a = p
    · subst ha; rw [upd_same] at h; cases h; exact .inl e2
    · rw [upd_ne ha] at h; exact r.vr.sub a u h
  refine ⟨L2.upd F p o, ⟨⟨hsub, by rw [set_length]; exact r.vr.len, fun j e h1 => ?_, fun j e h1 => ?_⟩, ⟨r.ret.keep, hsub, r.ret.ext.trans hs, fun a u h n => ?_⟩, fun j e q h1 h2 => ?_, fun j k e f q h1 h2 h3 h4 => ?_⟩, hs⟩
  · rcases nth_set_cases h1 (fun z => nomatch z) with ⟨rfl, z, _⟩ | ⟨ne, h1⟩
    · cases z; exact ⟨_, e1, e3.rep upd_same hs⟩
    · obtain ⟨v, a, b⟩ := r.vr.vals j e h1; exact ⟨v, a, Rep.mono hs _ _ b⟩
  · rcases nth_set_cases h1 (fun z => nomatch z) with ⟨_, z, _⟩ | ⟨ne, h1⟩
    · cases z
    · obtain ⟨q, u, a1, a2, a3, a4⟩ := r.vr.owns j e h1
      refine ⟨q, u, a1, a2, a3.mono hs, ?_⟩
      rw [upd_ne (fun z => by subst z; exact ne (r.dist i j x e q hi h1 e1 a1))]; exact a4
  · by_cases ha : a = p
    · subst ha; exact .inl hB
    · rw [upd_ne ha] at h; exact r.ret.fresh a u h n
  · rcases nth_set_cases h1 (fun z => nomatch z) with ⟨_, z, _⟩ | ⟨ne, h1⟩
    · cases z
    · exact r.ownB j e q h1 h2
  · rcases nth_set_cases h1 (fun z => nomatch z) with ⟨_, z, _⟩ | ⟨ne, h1⟩
    · cases z
    · rcases nth_set_cases h2 (fun z => nomatch z) with ⟨_, z, _⟩ | ⟨ne2, h2⟩
      · cases z
      · exact r.dist j k e f q h1 h2 h3 h4
/-- slots forgotten -/
def leS : List Sl → List Sl → Prop
  | [], [] => True
  | s :: r, t :: q => (s = .no ∨ s = t) ∧ leS r q
  | _, _ => False
theorem leS_len : ∀ {r q : List Sl}, leS r q → r.length = q.length
  | [], [], _ => rfl
  | _ :: r, _ :: q, h => by simp [leS_len h.2]
theorem leS_nth : ∀ {r q : List Sl} {i : Nat} {x : Sl}, leS r q → nthS r i = x → x ≠ .no → nthS q i = x
  | [], [], _, _, _, h, n => by exact absurd h.symm n
  | s :: r, t :: q, 0, x, h, e, n => by
    rcases h.1 with z | z
    · exact absurd (e.symm.trans z) n
    · exact (z.symm.trans e)
  | s :: r, t :: q, i + 1, x, h, e, n => leS_nth (i := i) h.2 e n
theorem ER.le {ρ' : List Sl} (h : leS ρ' ρ) (r : ER K B F0 ρ σ F H) : ER K B F0 ρ' σ F H :=
  ⟨⟨r.vr.sub, by rw [leS_len h]; exact r.vr.len, fun i d e => r.vr.vals i d (leS_nth h e fun z => nomatch z), fun i d e => r.vr.owns i d (leS_nth h e fun z => nomatch z)⟩, r.ret,
    fun i d p e => r.ownB i d p (leS_nth h e fun z => nomatch z), fun i j d e p h1 h2 => r.dist i j d e p (leS_nth h h1 fun z => nomatch z) (leS_nth h h2 fun z => nomatch z)⟩
end

/-! ### blocks -/
abbrev KS (R : Type) := R → Hp → Hp → Ends → Prop
def tS {R : Type} (K : PySem.W.Frag) (ρ : List Sl) (k : KS R) (M : Option R) : TS := fun D σ H => ∃ B F0 F r, M = some r ∧ ER K B F0 ρ σ F H ∧ k r B F0 D
def BOk {R : Type} (G : GX) (L : LX) (ρ : List Sl) (sts : List Stmt) (k : KS R) (M : Option R) : Prop := ∀ X, XOk G L X → PSs X sts (tS G.K ρ k M)
/-- a value is returned -/
def kD (K : PySem.W.Frag) : KS D := fun d B F0 E => ∀ v F H, RetOk B F0 F H → Rep K F d v → E.rt v H
/-- .. or the end is reached (None) -/
def kF (K : PySem.W.Frag) : KS D := fun d B F0 E => kD K d B F0 E ∧ (d = .non → ∀ σ F H, RetOk B F0 F H → E.nx σ H)
/-- a block that goes on -/
def kP {α : Type} (K : PySem.W.Frag) (u : α → List Sl) : KS α := fun a B F0 E => ∀ σ F H, ER K B F0 (u a) σ F H → E.nx σ H
/-- a loop's body: the next turn, a break, a return -/
inductive Lp (S : Type) where
  | go (s : S) | br (s : S) | rt (d : D)
def kC {S : Type} (K : PySem.W.Frag) (v : S → List Sl) : KS (Lp S) := fun r B F0 E => match r with
  | .go s => ∀ σ F H, ER K B F0 (v s) σ F H → E.ct σ H
  | .br s => ∀ σ F H, ER K B F0 (v s) σ F H → E.bk σ H
  | .rt d => kD K d B F0 E
def kL {S : Type} (K : PySem.W.Frag) (v : S → List Sl) : KS (Lp S) := fun r B F0 E => kC K v r B F0 E ∧ match r with
  | .go s => ∀ σ F H, ER K B F0 (v s) σ F H → E.nx σ H
  | _ => True
/-- a block that goes on, or leaves as the one around it does -/
inductive Rs (α R : Type) where
  | nx (a : α) | ex (r : R)
def kJ {α R : Type} (K : PySem.W.Frag) (u : α → List Sl) (k : KS R) : KS (Rs α R) := fun r B F0 E => match r with
  | .nx a => kP K u a B F0 E
  | .ex r => k r B F0 E
theorem wkS {X : Cx} {st : Stmt} {t t' : TS} (h : PS X st t) (w : ∀ D σ H, t' D σ H → t D σ H) : PS X st t' := ⟨fun pins s σ H D I q => h.run pins s σ H D I (w D σ H q)⟩
theorem wkSs {X : Cx} {st : List Stmt} {t t' : TS} (h : PSs X st t) (w : ∀ D σ H, t' D σ H → t D σ H) : PSs X st t' := ⟨fun pins s σ H D I q => h.run pins s σ H D I (w D σ H q)⟩
theorem seqU {ι : Type} {X : Cx} {st : Stmt} {rest : List Stmt} {t : TS} {ur : ι → TS} (h1 : PS X st t) (h2 : ∀ d, PSs X rest (ur d)) : PSs X (st :: rest) (tSeq t fun D σ H => ∃ d, ur d D σ H) :=
  pss_cons h1 ⟨fun pins s σ H D I ⟨d, q⟩ => (h2 d).run pins s σ H D I q⟩

section
variable {R : Type} {G : GX} {L : LX} {ρ : List Sl} {sts rest A Bs : List Stmt} {st : Stmt} {k kA : KS R} {e a c i : Expr} {m : Option D} {nc : Option Bool} {M : D → Option R} {pos pos' : Pos} {x : Str}

/-- the end of a block that goes on -/
theorem b_nil {α : Type} {u : α → List Sl} {a : α} (h : leS (u a) ρ) : BOk G L ρ [] (kP G.K u) (some a) := fun X hX => wkSs pss_nil fun D σ H ⟨B, F0, F, r, e, er, q⟩ => by cases e; exact q σ F H (er.le h)
theorem b_nilJ {α : Type} {u : α → List Sl} {a : α} (h : leS (u a) ρ) : BOk G L ρ [] (kJ G.K u k) (some (.nx a)) := fun X hX => wkSs pss_nil fun D σ H ⟨B, F0, F, r, e, er, q⟩ => by cases e; exact q σ F H (er.le h)
theorem b_nilL {S : Type} {v : S → List Sl} {s : S} (h : leS (v s) ρ) : BOk G L ρ [] (kL G.K v) (some (.go s)) := fun X hX => wkSs pss_nil fun D σ H ⟨B, F0, F, r, e, er, q⟩ => by cases e; exact q.2 σ F H (er.le h)
theorem b_nilF : BOk G L ρ [] (kF G.K) (some .non) := fun X hX => wkSs pss_nil fun D σ H ⟨B, F0, F, r, e, er, q⟩ => by cases e; exact q.2 rfl σ F H er.ret
/-- what a block's end has of a return -/
structure IsRt (K : PySem.W.Frag) (k : KS R) (f : D → R) : Prop where
  rt : ∀ d B F0 E, k (f d) B F0 E → kD K d B F0 E
theorem rtD {K : PySem.W.Frag} : IsRt K (kD K) id := ⟨fun _ _ _ _ h => h⟩
theorem rtF {K : PySem.W.Frag} : IsRt K (kF K) id := ⟨fun _ _ _ _ h => h.1⟩
theorem rtC {S : Type} {K : PySem.W.Frag} {v : S → List Sl} : IsRt K (kC K v) .rt := ⟨fun _ _ _ _ h => h⟩
theorem rtL {S : Type} {K : PySem.W.Frag} {v : S → List Sl} : IsRt K (kL K v) .rt := ⟨fun _ _ _ _ h => h.1⟩
theorem rtJ {α : Type} {K : PySem.W.Frag} {u : α → List Sl} {f : D → R} (h : IsRt K k f) : IsRt K (kJ K u k) (fun d => .ex (f d)) := ⟨fun _ _ _ _ q => h.rt _ _ _ _ q⟩
theorem b_ret {f : D → R} (hk : IsRt G.K k f) (h : EOk G L ρ e m) : BOk G L ρ [.Return (some e) pos] k (m.map f) := fun X hX =>
  wkSs (pss_one (ps_ret (h X hX))) fun D σ H ⟨B, F0, F, r, em, er, q⟩ => by
    obtain ⟨d, ed, rfl⟩ := Option.map_eq_some_iff.mp em
    exact ⟨F, d, ed, er.vr, fun v F' H' x rv => hk.rt d B F0 D q v F' H' (er.ret.go x) rv⟩
/-- at the def's own level -/
theorem b_retD (h : EOk G L ρ e m) : BOk G L ρ [.Return (some e) pos] (kD G.K) m := fun X hX => by have := b_ret (rtD (K := G.K)) h (pos := pos) X hX; rwa [Option.map_id] at this
theorem b_retF (h : EOk G L ρ e m) : BOk G L ρ [.Return (some e) pos] (kF G.K) m := fun X hX => by have := b_ret (rtF (K := G.K)) h (pos := pos) X hX; rwa [Option.map_id] at this
theorem b_cont {S : Type} {v : S → List Sl} {s : S} (h : leS (v s) ρ) : BOk G L ρ [.Continue pos] (kC G.K v) (some (.go s)) := fun X hX => wkSs (pss_one ps_continue) fun D σ H ⟨B, F0, F, r, e, er, q⟩ => by cases e; exact q σ F H (er.le h)
theorem b_break {S : Type} {v : S → List Sl} {s : S} (h : leS (v s) ρ) : BOk G L ρ [.Break pos] (kC G.K v) (some (.br s)) := fun X hX => wkSs (pss_one ps_break) fun D σ H ⟨B, F0, F, r, e, er, q⟩ => by cases e; exact q σ F H (er.le h)

/-- x = e, the value frozen -/
theorem b_set (j : Nat) (h : EOk G L ρ e m) (hr : ∀ d, BOk G L (setS ρ j (.val d)) rest k (M d)) (hj : L.N[j]? = some x := by rfl) (hx : Loc L.sc x := by first | exact Or.inl rfl | exact Or.inr rfl)
    (hf : L.ow x = true ∨ L.sc.names.lookup x = some .local := by first | exact Or.inl rfl | exact Or.inr rfl) (hs : ∀ env, swapsWith e (some (.Name x pos')) pos.line env = pure false := by intro _; rfl) : BOk G L ρ (.Assign [.Name x pos'] e pos :: rest) k (m.bind M) := fun X hX =>
  wkSs (seqU (ps_set (i := j) (by rw [hX.hN]; exact hX.nd) (by rw [hX.hN]; exact hj) (by rw [hX.hsc]; exact hx) (h X hX) (hs _) (by rw [hX.hfn, hX.hsc]; exact hf)) fun d => hr d X hX) fun D σ H ⟨B, F0, F, r, em, er, q⟩ => by
    obtain ⟨d, ed, em⟩ := Option.bind_eq_some_iff.mp em
    exact ⟨F, d, ed, er.vr, fun v F' H' x rv => ⟨d, B, F0, F', r, em, (er.go x).set rv, q⟩⟩
/-- the same where the text asks of the scope whether a comprehension's value is stored ahead -/
theorem b_setS (j : Nat) (h : EOk G L ρ e m) (hr : ∀ d, BOk G L (setS ρ j (.val d)) rest k (M d)) (hs : ∀ env : Env, env.scope = L.sc → swapsWith e (some (.Name x pos')) pos.line env = pure false) (hj : L.N[j]? = some x := by rfl) (hx : Loc L.sc x := by first | exact Or.inl rfl | exact Or.inr rfl)
    (hf : L.ow x = true ∨ L.sc.names.lookup x = some .local := by first | exact Or.inl rfl | exact Or.inr rfl) : BOk G L ρ (.Assign [.Name x pos'] e pos :: rest) k (m.bind M) := fun X hX =>
  wkSs (seqU (ps_set (i := j) (by rw [hX.hN]; exact hX.nd) (by rw [hX.hN]; exact hj) (by rw [hX.hsc]; exact hx) (h X hX) (hs _ hX.hsc) (by rw [hX.hfn, hX.hsc]; exact hf)) fun d => hr d X hX) fun D σ H ⟨B, F0, F, r, em, er, q⟩ => by
    obtain ⟨d, ed, em⟩ := Option.bind_eq_some_iff.mp em
    exact ⟨F, d, ed, er.vr, fun v F' H' x rv => ⟨d, B, F0, F', r, em, (er.go x).set rv, q⟩⟩
theorem own_new {K : PySem.W.Frag} {B F0 F H F' H' : Hp} {σ : L2.St} (er : ER K B F0 ρ σ F H) (x : Ext F H F' H') {p : Addr} {o : HO} {d : D} (n : H p = none) (ho : H' p = some o) (ow : OwnO K F' d o) (hF : F' p = none) (j : Nat) :
    ER K B F0 (setS ρ j (.own d)) (σ.set j (some (.ref p))) F' H' :=
  (er.go x).setOwn (fun _ _ _ => .inr trivial) ho ow hF (er.ret.keep.free n) fun l e h1 h2 => by
    obtain ⟨q, u, a1, a2, _⟩ := er.vr.owns l e h1
    rw [a1] at h2; cases h2
    rw [n] at a2; cases a2
/-- x = e, e makes a new object: it stays one's own -/
theorem b_own (j : Nat) (h : FOk G L ρ e m) (hr : ∀ d, BOk G L (setS ρ j (.own d)) rest k (M d)) (hj : L.N[j]? = some x := by rfl) (hx : Loc L.sc x := by first | exact Or.inl rfl | exact Or.inr rfl)
    (hf : L.ow x = true ∨ L.sc.names.lookup x = some .local := by first | exact Or.inl rfl | exact Or.inr rfl) (hs : ∀ env, swapsWith e (some (.Name x pos')) pos.line env = pure false := by intro _; rfl) : BOk G L ρ (.Assign [.Name x pos'] e pos :: rest) k (m.bind M) := fun X hX =>
  wkSs (seqU (ps_set (i := j) (by rw [hX.hN]; exact hX.nd) (by rw [hX.hN]; exact hj) (by rw [hX.hsc]; exact hx) (h X hX) (hs _) (by rw [hX.hfn, hX.hsc]; exact hf)) fun d => hr d X hX) fun D σ H ⟨B, F0, F, r, em, er, q⟩ => by
    obtain ⟨d, ed, em⟩ := Option.bind_eq_some_iff.mp em
    exact ⟨F, d, ed, er.vr, fun p o F' H' x n ho ow hF => ⟨d, B, F0, F', r, em, own_new er x n ho ow hF j, q⟩⟩
theorem b_ownS (j : Nat) (h : FOk G L ρ e m) (hr : ∀ d, BOk G L (setS ρ j (.own d)) rest k (M d)) (hs : ∀ env : Env, env.scope = L.sc → swapsWith e (some (.Name x pos')) pos.line env = pure false) (hj : L.N[j]? = some x := by rfl) (hx : Loc L.sc x := by first | exact Or.inl rfl | exact Or.inr rfl)
    (hf : L.ow x = true ∨ L.sc.names.lookup x = some .local := by first | exact Or.inl rfl | exact Or.inr rfl) : BOk G L ρ (.Assign [.Name x pos'] e pos :: rest) k (m.bind M) := fun X hX =>
  wkSs (seqU (ps_set (i := j) (by rw [hX.hN]; exact hX.nd) (by rw [hX.hN]; exact hj) (by rw [hX.hsc]; exact hx) (h X hX) (hs _ hX.hsc) (by rw [hX.hfn, hX.hsc]; exact hf)) fun d => hr d X hX) fun D σ H ⟨B, F0, F, r, em, er, q⟩ => by
    obtain ⟨d, ed, em⟩ := Option.bind_eq_some_iff.mp em
    exact ⟨F, d, ed, er.vr, fun p o F' H' x n ho ow hF => ⟨d, B, F0, F', r, em, own_new er x n ho ow hF j, q⟩⟩
/-- x = [..], x a local name: one's own -/
theorem b_lc {tg iter elt : Expr} {ifs : List Expr} {scope : Scope} {own : List (Str × Nat)} {p2 : Pos} {g : TGD} {nt : D → Option Bool} {f : D → Option D} {mi : Option (List D)} (j : Nat) (hi : IOk G L ρ tg iter mi) (h : LcOk G L ρ tg elt ifs scope own g nt f)
    (hr : ∀ d, BOk G L (setS ρ j (.own d)) rest k (M d)) (hj : L.N[j]? = some x := by rfl) (hx : L.sc.names.lookup x = some .local := by rfl) (hk : L.sc.kind = .function := by rfl) (hl : (pos'.line == p2.line) = true := by rfl)
    (ho : (scope.names.any fun (n, k) => n == x && (k == .local || k == .cell)) = false := by decide +kernel) (hs : ∀ env x, foldedSetIterable iter env x = pure x := by intro _ _; rfl) :
    BOk G L ρ (.Assign [.Name x pos'] (.ListComp elt [⟨tg, iter, ifs, 0⟩] scope p2) pos :: rest) k ((LC mi nt f).bind M) := fun X hX =>
  wkSs (seqU (ps_setLc (i := j) (own := own) (g := tG G.K g) (tt := tsD G.K ρ (own.map (·.2)) g nt) (te := teD G.K ρ (own.map (·.2)) g f) hX.calm (by rw [hX.hN]; exact hX.nd) (by rw [hX.hN]; exact hj) (by rw [hX.hsc]; exact hx)
      (sw_true (by rw [hX.hsc]; exact hk) (by rw [hX.hsc]; exact hx) hl ho) (hi X hX) (blkOk_by (by rw [hX.hN, hX.hsc]; exact h.blk))
    (fun s H C cl fp => h.tgt _ (hX.blk s H scope C cl fp))
    (fun s H C cl fp => ⟨fun pins s' σ H' Q I ⟨d, as, eg, q⟩ => (h.ifs d as eg _ (hX.blk s H scope C cl fp)).run pins s' σ H' Q I q⟩)
    (fun s H C cl fp => ⟨fun pins s' σ H' Q I ⟨d, as, eg, q⟩ => (h.elt d as eg _ (hX.blk s H scope C cl fp)).run pins s' σ H' Q I q⟩) (hs _)) fun d => hr d X hX) fun D σ H ⟨B, F0, F, r, em, er, q⟩ => by
    obtain ⟨d, ed, em⟩ := Option.bind_eq_some_iff.mp em
    exact lc_read (Q := fun x H1 => gName j x σ H1 fun σ H => ∃ d, tS G.K (setS ρ j (.own d)) k (M d) D σ H) h.ins h.bad ⟨F, d, ed, er.vr, fun p o F' H' x n ho ow hF => ⟨d, B, F0, F', r, em, own_new er x n ho ow hF j, q⟩⟩
/-- what is one's own is frozen from here on -/
theorem b_frz {M : Option R} (j : Nat) {d : D} (h : nthS ρ j = .own d) (hr : BOk G L (setS ρ j (.val d)) sts k M) : BOk G L ρ sts k M := fun X hX =>
  wkSs (hr X hX) fun D σ H ⟨B, F0, F, r, em, er, q⟩ => by
    obtain ⟨F', er', _⟩ := er.frz h
    exact ⟨B, F0, F', r, em, er', q⟩
theorem b_if (hc : TOk G L ρ c nc) {MA MB : Option R} (hA : BOk G L ρ A kA MA) (hB : BOk G L ρ rest k MB) (hk : ∀ r B F0 D nx, k r B F0 D → kA r B F0 { D with nx := nx }) : BOk G L ρ (.If c A [] pos :: rest) k (nc.bind fun b => if b = true then MA else MB) := fun X hX =>
  wkSs (pss_cons (ps_if (hc X hX) (hA X hX) pss_nil) (hB X hX)) fun D σ H ⟨B, F0, F, r, em, er, q⟩ => by
    obtain ⟨b, eb, em⟩ := Option.bind_eq_some_iff.mp em
    refine ⟨F, b, eb, er.vr, fun F' H' x => ?_⟩
    cases b with
    | true => exact ⟨B, F0, F', r, em, er.go x, hk r B F0 D _ q⟩
    | false => exact ⟨B, F0, F', r, em, er.go x, q⟩
theorem kDD {K : PySem.W.Frag} : ∀ r B F0 D nx, kD K r B F0 D → kD K r B F0 { D with nx := nx } := fun _ _ _ _ _ h => h
theorem kFD {K : PySem.W.Frag} : ∀ r B F0 D nx, kF K r B F0 D → kD K r B F0 { D with nx := nx } := fun _ _ _ _ _ h => h.1
theorem kCC {S : Type} {K : PySem.W.Frag} {v : S → List Sl} : ∀ r B F0 D nx, kC K v r B F0 D → kC K v r B F0 { D with nx := nx } := fun r _ _ _ _ h => by cases r <;> exact h
theorem kLC {S : Type} {K : PySem.W.Frag} {v : S → List Sl} : ∀ r B F0 D nx, kL K v r B F0 D → kC K v r B F0 { D with nx := nx } := fun r _ _ _ _ h => by cases r <;> exact h.1
/-- if c: A else: B, the last of its block, both of the same end -/
theorem b_ife (hc : TOk G L ρ c nc) {MA MB : Option R} (hA : BOk G L ρ A k MA) (hB : BOk G L ρ Bs k MB) : BOk G L ρ [.If c A Bs pos] k (nc.bind fun b => if b = true then MA else MB) := fun X hX =>
  wkSs (pss_one (ps_if (hc X hX) (hA X hX) (hB X hX))) fun D σ H ⟨B, F0, F, r, em, er, q⟩ => by
    obtain ⟨b, eb, em⟩ := Option.bind_eq_some_iff.mp em
    refine ⟨F, b, eb, er.vr, fun F' H' x => ?_⟩
    cases b with
    | true => exact ⟨B, F0, F', r, em, er.go x, q⟩
    | false => exact ⟨B, F0, F', r, em, er.go x, q⟩
/-- if c: A else: B, both go on -/
theorem b_ifp {α : Type} {u : α → List Sl} {M : α → Option R} (hc : TOk G L ρ c nc) {MA MB : Option α} (hA : BOk G L ρ A (kP G.K u) MA) (hB : BOk G L ρ Bs (kP G.K u) MB) (hr : ∀ a, BOk G L (u a) rest k (M a)) :
    BOk G L ρ (.If c A Bs pos :: rest) k ((nc.bind fun b => if b = true then MA else MB).bind M) := fun X hX =>
  wkSs (seqU (ps_if (hc X hX) (hA X hX) (hB X hX)) fun a => hr a X hX) fun D σ H ⟨B, F0, F, r, em, er, q⟩ => by
    obtain ⟨a, ea, em⟩ := Option.bind_eq_some_iff.mp em
    obtain ⟨b, eb, ea⟩ := Option.bind_eq_some_iff.mp ea
    refine ⟨F, b, eb, er.vr, fun F' H' x => ?_⟩
    cases b with
    | true => exact ⟨B, F0, F', a, ea, er.go x, fun σ2 F2 H2 er2 => ⟨a, B, F0, F2, r, em, er2, q⟩⟩
    | false => exact ⟨B, F0, F', a, ea, er.go x, fun σ2 F2 H2 er2 => ⟨a, B, F0, F2, r, em, er2, q⟩⟩
def bindJ {α R : Type} (x : Option (Rs α R)) (M : α → Option R) : Option R := x.bind fun y => match y with
  | .nx a => M a
  | .ex r => some r
/-- if c: A else: B, each goes on or leaves -/
theorem b_ifj {α : Type} {u : α → List Sl} {M : α → Option R} (hc : TOk G L ρ c nc) {MA MB : Option (Rs α R)} (hA : BOk G L ρ A (kJ G.K u kA) MA) (hB : BOk G L ρ Bs (kJ G.K u kA) MB) (hr : ∀ a, BOk G L (u a) rest k (M a))
    (hk : ∀ r B F0 D nx, k r B F0 D → kA r B F0 { D with nx := nx }) : BOk G L ρ (.If c A Bs pos :: rest) k (bindJ (nc.bind fun b => if b = true then MA else MB) M) := fun X hX =>
  wkSs (seqU (ps_if (hc X hX) (hA X hX) (hB X hX)) fun a => hr a X hX) fun D σ H ⟨B, F0, F, r, em, er, q⟩ => by
    obtain ⟨y, ey, em⟩ := Option.bind_eq_some_iff.mp em
    obtain ⟨b, eb, ey⟩ := Option.bind_eq_some_iff.mp ey
    refine ⟨F, b, eb, er.vr, fun F' H' x => ?_⟩
    have key : kJ G.K u kA y B F0 { D with nx := fun σ H => ∃ a, tS G.K (u a) k (M a) D σ H } := by
      cases y with
      | nx a => exact fun σ2 F2 H2 er2 => ⟨a, B, F0, F2, r, em, er2, q⟩
      | ex r' => cases em; exact hk r B F0 D _ q
    cases b with
    | true => exact ⟨B, F0, F', y, ey, er.go x, key⟩
    | false => exact ⟨B, F0, F', y, ey, er.go x, key⟩
end
end DL
set_option autoImplicit false
set_option maxRecDepth 100000
set_option maxHeartbeats 4000000
namespace DL
open PySem PySem.Spec PySem.SeqAt PyProof.Rows L2

section
variable {K : PySem.W.Frag} {B F0 F H F' H' F1 : Hp} {ρ : List Sl} {σ : L2.St}
theorem RetOk.reset (r : RetOk B F0 F H) : RetOk B F F H := ⟨r.keep, r.sub, Same.refl _, fun a o h n => by rw [h] at n; cases n⟩
theorem ER.reset (r : ER K B F0 ρ σ F H) : ER K B F ρ σ F H := ⟨r.vr, r.ret.reset, r.ownB, r.dist⟩
theorem kD_rebase {d : D} {E E' : Ends} (a : RetOk B F0 F1 H) (h : kD K d B F0 E) (e : E'.rt = E.rt) : kD K d B F1 E' := fun v F2 H2 r rv => by
  rw [e]
  exact h v F2 H2 (a.rebase r) rv
end

open Classical in
/-- a base that holds all that is frozen -/
theorem ER.hold {K : PySem.W.Frag} {B F0 F H : Hp} {ρ : List Sl} {σ : L2.St} (er : ER K B F0 ρ σ F H) : ∃ B', ER K B' F ρ σ F H ∧ On F H B' ∧ (∀ p, B' p = none → B p = none) ∧ ∀ F' H', RetOk B' F F' H' → RetOk B F0 F' H' := by
  have hB : ∀ a o, B a = some o → H a = some o := er.ret.keep
  have h1 : ∀ p : Addr, (if F p ≠ none then H p else B p) = none → B p = none := fun p h => by
    cases e : B p with
    | none => rfl
    | some o =>
      split at h
      · rw [hB p o e] at h; cases h
      · rw [e] at h; cases h
  refine ⟨fun a => if F a ≠ none then H a else B a, ⟨er.vr, ⟨fun a o e => ?_, er.ret.sub, Same.refl _, fun a o e n => by rw [e] at n; cases n⟩, fun i d p h1 h2 => ?_, er.dist⟩, fun a o e => ?_, h1, fun F' H' r => ⟨fun a o e => ?_, r.sub, er.ret.ext.trans r.ext, fun a o e n => ?_⟩⟩
  · split at e
    · exact e
    · exact hB a o e
  · obtain ⟨q, u, a1, a2, a3, a4⟩ := er.vr.owns i d h1
    rw [a1] at h2; cases h2
    show (if F _ ≠ none then H _ else B _) = none
    rw [if_neg (by simp [a4])]
    exact er.ownB i d _ h1 a1
  · show (if F a ≠ none then H a else B a) = H a
    rw [if_pos (by rw [e]; simp)]
  · apply r.keep
    show (if F a ≠ none then H a else B a) = some o
    split
    · exact hB a o e
    · exact e
  · cases e2 : F a with
    | none => exact (r.fresh a o e e2).imp (h1 a) id
    | some u =>
      have e3 := r.ext a u e2
      rw [e] at e3
      cases e3
      exact er.ret.fresh a _ e2 n
theorem ER.back {K : PySem.W.Frag} {B B' F0 F : Hp} {ρ : List Sl} {σ : L2.St} {F' H' : Hp} (h1 : ∀ p, B' p = none → B p = none) (h2 : ∀ F' H', RetOk B' F F' H' → RetOk B F0 F' H') (er : ER K B' F ρ σ F' H') : ER K B F0 ρ σ F' H' :=
  ⟨er.vr, h2 _ _ er.ret, fun i d p a b => h1 p (er.ownB i d p a b), er.dist⟩
/-! ### for -/
def forP {S : Type} (f : S → D → Option S) : S → List D → Option S
  | s, [] => some s
  | s, d :: ds => (f s d).bind fun s' => forP f s' ds
def forB {S : Type} (f : S → D → Option (Lp S)) : S → List D → Option S
  | s, [] => some s
  | s, d :: ds => (f s d).bind fun r => match r with
    | .go s' => forB f s' ds
    | .br s' => some s'
    | .rt _ => none
def forR {S : Type} (f : S → D → Option (Lp S)) : S → List D → Option (Rs S D)
  | s, [] => some (.nx s)
  | s, d :: ds => (f s d).bind fun r => match r with
    | .go s' => forR f s' ds
    | .br s' => some (.nx s')
    | .rt d => some (.ex d)
def bindR {α R : Type} (x : Option (Rs α D)) (f : D → R) (M : α → Option R) : Option R := x.bind fun y => match y with
  | .nx a => M a
  | .ex d => some (f d)
section
variable {R S : Type} {G : GX} {L : LX} {ρ : List Sl} {v : S → List Sl} {body rest : List Stmt} {k : KS R} {tg iter c : Expr} {pos : Pos} {g : TGD} {mi : Option (List D)} {s0 : S} {M : S → Option R}
def tbD {R : Type} (K : PySem.W.Frag) (v : S → List Sl) (g : TGD) (kb : KS R) (Bd : S → D → Option R) : TS := fun E σ H => ∃ s d as, g d = some as ∧ tS K (setAll (v s) as) kb (Bd s d) E σ H
theorem XOk.nox {X : Cx} (h : XOk G L X) : XOk G L X.nox := ⟨h.hP, h.hw, h.hK, h.hm, h.hb, h.hN, h.nd, h.hsc, h.hfn, h.calm, h.room⟩
theorem b_for {Bd : S → D → Option S} (hi : IOk G L ρ tg iter mi) (hg : GOk G L tg g) (h0 : leS (v s0) ρ) (bad : ∀ s d, g d = none → Bd s d = none) (hb : ∀ s d as, g d = some as → BOk G L (setAll (v s) as) body (kP G.K v) (Bd s d))
    (hr : ∀ s, BOk G L (v s) rest k (M s)) (hs : ∀ env x, foldedSetIterable iter env x = pure x := by intro _ _; rfl) : BOk G L ρ (.For tg iter body [] pos :: rest) k ((mi.bind fun ds => forP Bd s0 ds).bind M) := fun X hX => PSs.nox <| by
  have hX' := hX.nox
  refine wkSs (seqU (ps_for (tb := tbD G.K v g (kP G.K v) Bd) PassesOwn.never hX'.calm (hi _ hX') (hg _ hX') ⟨fun pins s σ H D I ⟨s1, d, as, eg, q⟩ => (hb s1 d as eg _ hX').run pins s σ H D I q⟩ (hs _)) fun s => hr s _ hX') fun D σ H ⟨B, F0, F, r, em, er, q⟩ => ?_
  obtain ⟨sf, ef, em⟩ := Option.bind_eq_some_iff.mp em
  obtain ⟨ds, ed, ef⟩ := Option.bind_eq_some_iff.mp ef
  refine ⟨F, ds, ed, er.vr, fun J F1 H1 x1 w => ?_⟩
  obtain ⟨B', er1, hon, bk1, bk2⟩ := (er.go x1).hold
  have on : ∀ {F2 H2 : Hp} {s : S} {σ2 : L2.St}, ER G.K B' F1 (v s) σ2 F2 H2 → On F1 H1 H2 := fun {F2 H2 s σ2} e a o h => by
    have h0 := hon a o h
    rcases x1.sub a o h with z | ⟨_, ob, z⟩ <;> rw [z] at h0 <;> rw [e.ret.keep _ _ h0, z]
  refine ⟨fun i m σ H => m = ds.length - i ∧ i ≤ ds.length ∧ ∃ s F2, ER G.K B' F1 (v s) σ F2 H ∧ forP Bd s (ds.drop i) = some sf, ⟨_, rfl, Nat.zero_le _, s0, F1, er1.le h0, ef⟩, ?_⟩
  rintro i m σ2 H2 ⟨rfl, hi, s, F2, er2, ef2⟩
  by_cases hlt : i < ds.length
  · refine .inr ⟨w.goes i F2 H2 hlt er2.ret.ext er2.vr.sub (on er2), fun σ H => i + 1 ≤ ds.length ∧ ∃ s F2, ER G.K B' F1 (v s) σ F2 H ∧ forP Bd s (ds.drop (i + 1)) = some sf, fun σ' H' ⟨a, b⟩ => ⟨_, by omega, rfl, a, b⟩, fun x H3 y => ?_⟩
    have hd : ds[i]? = some ds[i] := List.getElem?_eq_getElem hlt
    rw [List.drop_eq_getElem_cons hlt] at ef2
    generalize ds[i] = dd at hd ef2
    obtain ⟨s', es', ef2⟩ := Option.bind_eq_some_iff.mp ef2
    obtain ⟨F3, x3, r3⟩ := w.yields i F2 H2 x H3 dd er2.ret.ext er2.vr.sub (on er2) hd y
    cases eg : g dd with
    | none => rw [bad s dd eg] at es'; cases es'
    | some as =>
      exact ⟨F3, dd, as, x3.sub, r3, eg, fun ws hw => ⟨s, dd, as, eg, B', F1, F3, s', es', (er2.go x3).setMany as ws hw, fun σ4 F4 H4 er4 => ⟨hlt, s', F4, er4, ef2⟩⟩⟩
  · have : i = ds.length := by omega
    subst this
    rw [List.drop_length] at ef2
    cases ef2
    exact .inl ⟨w.stops F2 H2 er2.ret.ext er2.vr.sub (on er2), _, B, F0, F2, r, em, ER.back bk1 bk2 er2, q⟩
theorem b_forR {Bd : S → D → Option (Lp S)} {f : D → R} (hk : IsRt G.K k f) (hi : IOk G L ρ tg iter mi) (hg : GOk G L tg g) (h0 : leS (v s0) ρ) (bad : ∀ s d, g d = none → Bd s d = none) (hb : ∀ s d as, g d = some as → BOk G L (setAll (v s) as) body (kL G.K v) (Bd s d))
    (hr : ∀ s, BOk G L (v s) rest k (M s)) (hs : ∀ env x, foldedSetIterable iter env x = pure x := by intro _ _; rfl) : BOk G L ρ (.For tg iter body [] pos :: rest) k (bindR (mi.bind fun ds => forR Bd s0 ds) f M) := fun X hX => PSs.nox <| by
  have hX' := hX.nox
  refine wkSs (seqU (ps_for (tb := tbD G.K v g (kL G.K v) Bd) PassesOwn.never hX'.calm (hi _ hX') (hg _ hX') ⟨fun pins s σ H D I ⟨s1, d, as, eg, q⟩ => (hb s1 d as eg _ hX').run pins s σ H D I q⟩ (hs _)) fun s => hr s _ hX') fun D σ H ⟨B, F0, F, r, em, er, q⟩ => ?_
  obtain ⟨sf, ef, em⟩ := Option.bind_eq_some_iff.mp em
  obtain ⟨ds, ed, ef⟩ := Option.bind_eq_some_iff.mp ef
  refine ⟨F, ds, ed, er.vr, fun J F1 H1 x1 w => ?_⟩
  obtain ⟨B', er1, hon, bk1, bk2⟩ := (er.go x1).hold
  have on : ∀ {F2 H2 : Hp} {s : S} {σ2 : L2.St}, ER G.K B' F1 (v s) σ2 F2 H2 → On F1 H1 H2 := fun {F2 H2 s σ2} e a o h => by
    have h0 := hon a o h
    rcases x1.sub a o h with z | ⟨_, ob, z⟩ <;> rw [z] at h0 <;> rw [e.ret.keep _ _ h0, z]
  have nxt : ∀ (s : S) (σ2 : L2.St) (F2 H2 : Hp), sf = .nx s → ER G.K B' F1 (v s) σ2 F2 H2 → ∃ s, tS G.K (v s) k (M s) D σ2 H2 := fun s σ2 F2 H2 e er2 => ⟨s, B, F0, F2, r, by rw [e] at em; exact em, ER.back bk1 bk2 er2, q⟩
  refine ⟨fun i m σ H => m = ds.length - i ∧ i ≤ ds.length ∧ ∃ s F2, ER G.K B' F1 (v s) σ F2 H ∧ forR Bd s (ds.drop i) = some sf, ⟨_, rfl, Nat.zero_le _, s0, F1, er1.le h0, ef⟩, ?_⟩
  rintro i m σ2 H2 ⟨rfl, hi, s, F2, er2, ef2⟩
  by_cases hlt : i < ds.length
  · refine .inr ⟨w.goes i F2 H2 hlt er2.ret.ext er2.vr.sub (on er2), fun σ H => i + 1 ≤ ds.length ∧ ∃ s F2, ER G.K B' F1 (v s) σ F2 H ∧ forR Bd s (ds.drop (i + 1)) = some sf, fun σ' H' ⟨a, b⟩ => ⟨_, by omega, rfl, a, b⟩, fun x H3 y => ?_⟩
    have hd : ds[i]? = some ds[i] := List.getElem?_eq_getElem hlt
    rw [List.drop_eq_getElem_cons hlt] at ef2
    generalize ds[i] = dd at hd ef2
    obtain ⟨s', es', ef2⟩ := Option.bind_eq_some_iff.mp ef2
    obtain ⟨F3, x3, r3⟩ := w.yields i F2 H2 x H3 dd er2.ret.ext er2.vr.sub (on er2) hd y
    cases eg : g dd with
    | none => rw [bad s dd eg] at es'; cases es'
    | some as =>
      refine ⟨F3, dd, as, x3.sub, r3, eg, fun ws hw => ⟨s, dd, as, eg, B', F1, F3, s', es', (er2.go x3).setMany as ws hw, ?_⟩⟩
      cases s' with
      | go s' => exact ⟨fun σ4 F4 H4 er4 => ⟨hlt, s', F4, er4, ef2⟩, fun σ4 F4 H4 er4 => ⟨hlt, s', F4, er4, ef2⟩⟩
      | br s' => cases ef2; exact ⟨fun σ4 F4 H4 er4 => nxt _ _ _ _ rfl er4, trivial⟩
      | rt d => cases ef2; cases em; exact ⟨fun vv F5 H5 r5 rv => (hk.rt _ _ _ _ q) vv F5 H5 (bk2 _ _ r5) rv, trivial⟩
  · have : i = ds.length := by omega
    subst this
    rw [List.drop_length] at ef2
    cases ef2
    exact .inl ⟨w.stops F2 H2 er2.ret.ext er2.vr.sub (on er2), nxt _ _ _ _ rfl er2⟩
theorem forB_R {S : Type} {f : S → D → Option (Lp S)} : ∀ {ds : List D} {s sf : S}, forB f s ds = some sf → forR f s ds = some (.nx sf)
  | [], s, sf, h => by cases h; rfl
  | d :: ds, s, sf, h => by
    obtain ⟨r, er, h⟩ := Option.bind_eq_some_iff.mp h
    unfold forR
    rw [er]
    cases r with
    | go s' => exact forB_R h
    | br s' => cases h; rfl
    | rt d => cases h
theorem b_forB {Bd : S → D → Option (Lp S)} {f : D → R} (hk : IsRt G.K k f) (hi : IOk G L ρ tg iter mi) (hg : GOk G L tg g) (h0 : leS (v s0) ρ) (bad : ∀ s d, g d = none → Bd s d = none) (hb : ∀ s d as, g d = some as → BOk G L (setAll (v s) as) body (kL G.K v) (Bd s d))
    (hr : ∀ s, BOk G L (v s) rest k (M s)) (hs : ∀ env x, foldedSetIterable iter env x = pure x := by intro _ _; rfl) : BOk G L ρ (.For tg iter body [] pos :: rest) k ((mi.bind fun ds => forB Bd s0 ds).bind M) := fun X hX =>
  wkSs (b_forR hk hi hg h0 bad hb hr hs X hX) fun D σ H ⟨B, F0, F, r, em, er, q⟩ => by
    obtain ⟨sf, ef, em⟩ := Option.bind_eq_some_iff.mp em
    obtain ⟨ds, ed, ef⟩ := Option.bind_eq_some_iff.mp ef
    refine ⟨B, F0, F, r, ?_, er, q⟩
    rw [ed]
    show bindR (forR Bd s0 ds) f M = some r
    rw [forB_R ef]
    exact em

/-! ### while -/
def whileF {S : Type} (c : S → Option Bool) (f : S → Option S) : Nat → S → Option S
  | 0, _ => none
  | n + 1, s => (c s).bind fun b => if b = true then (f s).bind (whileF c f n) else some s
theorem whileF_mono {S : Type} {c : S → Option Bool} {f : S → Option S} : ∀ {n m : Nat} {s r : S}, whileF c f n s = some r → n ≤ m → whileF c f m s = some r
  | 0, _, _, _, h, _ => by cases h
  | n + 1, 0, _, _, _, h => by omega
  | n + 1, m + 1, s, r, h, hm => by
    unfold whileF at h ⊢
    obtain ⟨b, eb, h⟩ := Option.bind_eq_some_iff.mp h
    rw [eb]
    show (if b = true then (f s).bind (whileF c f m) else some s) = some r
    cases b with
    | false => exact h
    | true =>
      rw [if_pos rfl] at h ⊢
      obtain ⟨s', e', h⟩ := Option.bind_eq_some_iff.mp h
      rw [e']
      exact whileF_mono h (by omega)
open Classical in
noncomputable def whileD {S : Type} (c : S → Option Bool) (f : S → Option S) (s : S) : Option S := if h : ∃ n, (whileF c f n s).isSome = true then whileF c f (Classical.choose h) s else none
theorem whileD_of {S : Type} {c : S → Option Bool} {f : S → Option S} {n : Nat} {s r : S} (h : whileF c f n s = some r) : whileD c f s = some r := by
  have hx : ∃ n, (whileF c f n s).isSome = true := ⟨n, by rw [h]; rfl⟩
  unfold whileD
  rw [dif_pos hx]
  obtain ⟨r', e'⟩ := Option.isSome_iff_exists.mp (Classical.choose_spec hx)
  rw [e']
  rcases Nat.le_total n (Classical.choose hx) with l | l
  · rw [← e', whileF_mono h l]
  · rw [← h, whileF_mono e' l]
theorem whileD_to {S : Type} {c : S → Option Bool} {f : S → Option S} {s r : S} (h : whileD c f s = some r) : ∃ n, whileF c f n s = some r := by
  unfold whileD at h
  split at h
  · exact ⟨_, h⟩
  · cases h
theorem whileD_eq {S : Type} (c : S → Option Bool) (f : S → Option S) (s : S) : whileD c f s = (c s).bind fun b => if b = true then (f s).bind (whileD c f) else some s := by
  cases h : whileD c f s with
  | some r =>
    obtain ⟨n, hn⟩ := whileD_to h
    cases n with
    | zero => cases hn
    | succ n =>
      unfold whileF at hn
      obtain ⟨b, eb, hn⟩ := Option.bind_eq_some_iff.mp hn
      rw [eb]
      show _ = if b = true then (f s).bind (whileD c f) else some s
      cases b with
      | false => exact hn.symm
      | true =>
        rw [if_pos rfl] at hn ⊢
        obtain ⟨s', e', hn⟩ := Option.bind_eq_some_iff.mp hn
        rw [e']
        exact (whileD_of hn).symm
  | none =>
    cases eb : c s with
    | none => rfl
    | some b =>
      show _ = if b = true then (f s).bind (whileD c f) else some s
      cases b with
      | false =>
        have : whileF c f 1 s = some s := by unfold whileF; rw [eb]; rfl
        rw [whileD_of this] at h; cases h
      | true =>
        rw [if_pos rfl]
        cases es : f s with
        | none => rfl
        | some s' =>
          show none = whileD c f s'
          cases e' : whileD c f s' with
          | none => rfl
          | some r =>
            obtain ⟨n, hn⟩ := whileD_to e'
            have : whileF c f (n + 1) s = some r := by unfold whileF; rw [eb]; show (f s).bind _ = _; rw [es]; exact hn
            rw [whileD_of this] at h; cases h
theorem b_while {ct : S → Option Bool} {Bd : S → Option S} (h0 : leS (v s0) ρ) (hc : ∀ s, TOk G L (v s) c (ct s)) (hb : ∀ s, BOk G L (v s) body (kP G.K v) (Bd s)) (hr : ∀ s, BOk G L (v s) rest k (M s)) :
    BOk G L ρ (.While c body [] pos :: rest) k ((whileD ct Bd s0).bind M) := fun X hX => PSs.nox <| by
  have hX' := hX.nox
  refine wkSs (seqU (ps_while (tc := fun σ H Q => ∃ s, tT G.K (v s) (ct s) σ H Q) (tb := fun E σ H => ∃ s, tS G.K (v s) (kP G.K v) (Bd s) E σ H) PassesOwn.never ⟨fun pins s σ H Q I ⟨s1, q⟩ => (hc s1 _ hX').run pins s σ H Q I q⟩
    ⟨fun pins s σ H D I ⟨s1, q⟩ => (hb s1 _ hX').run pins s σ H D I q⟩) fun s => hr s _ hX') fun D σ H ⟨B, F0, F, r, em, er, q⟩ => ?_
  obtain ⟨sf, ef, em⟩ := Option.bind_eq_some_iff.mp em
  obtain ⟨n, ef⟩ := whileD_to ef
  refine ⟨fun m σ H => ∃ s F2, ER G.K B F (v s) σ F2 H ∧ whileF ct Bd m s = some sf, ⟨n, s0, F, er.reset.le h0, ef⟩, ?_⟩
  rintro m σ2 H2 ⟨s, F2, er2, ef2⟩
  cases m with
  | zero => cases ef2
  | succ m =>
    unfold whileF at ef2
    obtain ⟨b, eb, ef2⟩ := Option.bind_eq_some_iff.mp ef2
    refine ⟨s, F2, b, eb, er2.vr, fun F3 H3 x3 => ?_⟩
    have er3 := er2.go x3
    cases b with
    | true =>
      rw [if_pos rfl] at ef2
      obtain ⟨s', es', ef2⟩ := Option.bind_eq_some_iff.mp ef2
      exact iteT ⟨fun σ H => ∃ s F2, ER G.K B F (v s) σ F2 H ∧ whileF ct Bd m s = some sf, fun σ' H' h => ⟨m, Nat.lt_succ_self m, h⟩, s, B, F, F3, s', es', er3, fun σ4 F4 H4 er4 => ⟨s', F4, er4, ef2⟩⟩
    | false =>
      rw [if_neg Bool.false_ne_true] at ef2
      cases ef2
      exact iteF ⟨_, B, F0, F3, r, em, ER.rebase er.ret er3, q⟩
/-- a while that may break or return -/
def whileRF {S : Type} (c : S → Option Bool) (f : S → Option (Lp S)) : Nat → S → Option (Rs S D)
  | 0, _ => none
  | n + 1, s => (c s).bind fun b => if b = true then (f s).bind fun r => match r with
    | .go s' => whileRF c f n s'
    | .br s' => some (.nx s')
    | .rt d => some (.ex d) else some (.nx s)
theorem whileRF_mono {S : Type} {c : S → Option Bool} {f : S → Option (Lp S)} : ∀ {n m : Nat} {s : S} {r : Rs S D}, whileRF c f n s = some r → n ≤ m → whileRF c f m s = some r
  | 0, _, _, _, h, _ => by cases h
  | n + 1, 0, _, _, _, h => by omega
  | n + 1, m + 1, s, r, h, hm => by
    unfold whileRF at h ⊢
    obtain ⟨b, eb, h⟩ := Option.bind_eq_some_iff.mp h
    rw [eb]
    cases b with
    | false => exact h
    | true =>
      simp only [Option.bind_some, if_true] at h ⊢
      obtain ⟨s', e', h⟩ := Option.bind_eq_some_iff.mp h
      rw [e']
      cases s' with
      | go s' => exact whileRF_mono h (by omega)
      | br s' => exact h
      | rt d => exact h
open Classical in
noncomputable def whileR {S : Type} (c : S → Option Bool) (f : S → Option (Lp S)) (s : S) : Option (Rs S D) := if h : ∃ n, (whileRF c f n s).isSome = true then whileRF c f (Classical.choose h) s else none
theorem whileR_of {S : Type} {c : S → Option Bool} {f : S → Option (Lp S)} {n : Nat} {s : S} {r : Rs S D} (h : whileRF c f n s = some r) : whileR c f s = some r := by
  have hx : ∃ n, (whileRF c f n s).isSome = true := ⟨n, by rw [h]; rfl⟩
  unfold whileR
  rw [dif_pos hx]
  obtain ⟨r', e'⟩ := Option.isSome_iff_exists.mp (Classical.choose_spec hx)
  rw [e']
  rcases Nat.le_total n (Classical.choose hx) with l | l
  · rw [← e', whileRF_mono h l]
  · rw [← h, whileRF_mono e' l]
theorem whileR_to {S : Type} {c : S → Option Bool} {f : S → Option (Lp S)} {s : S} {r : Rs S D} (h : whileR c f s = some r) : ∃ n, whileRF c f n s = some r := by
  unfold whileR at h
  split at h
  · exact ⟨_, h⟩
  · cases h
theorem b_whileR {ct : S → Option Bool} {Bd : S → Option (Lp S)} {f : D → R} (hk : IsRt G.K k f) (h0 : leS (v s0) ρ) (hc : ∀ s, TOk G L (v s) c (ct s)) (hb : ∀ s, BOk G L (v s) body (kL G.K v) (Bd s)) (hr : ∀ s, BOk G L (v s) rest k (M s)) :
    BOk G L ρ (.While c body [] pos :: rest) k (bindR (whileR ct Bd s0) f M) := fun X hX => PSs.nox <| by
  have hX' := hX.nox
  refine wkSs (seqU (ps_while (tc := fun σ H Q => ∃ s, tT G.K (v s) (ct s) σ H Q) (tb := fun E σ H => ∃ s, tS G.K (v s) (kL G.K v) (Bd s) E σ H) PassesOwn.never ⟨fun pins s σ H Q I ⟨s1, q⟩ => (hc s1 _ hX').run pins s σ H Q I q⟩
    ⟨fun pins s σ H D I ⟨s1, q⟩ => (hb s1 _ hX').run pins s σ H D I q⟩) fun s => hr s _ hX') fun D σ H ⟨B, F0, F, r, em, er, q⟩ => ?_
  obtain ⟨sf, ef, em⟩ := Option.bind_eq_some_iff.mp em
  obtain ⟨n, ef⟩ := whileR_to ef
  have nxt : ∀ (s : S) (σ2 : L2.St) (F2 H2 : Hp), sf = .nx s → ER G.K B F (v s) σ2 F2 H2 → ∃ s, tS G.K (v s) k (M s) D σ2 H2 := fun s σ2 F2 H2 e er2 => ⟨s, B, F0, F2, r, by rw [e] at em; exact em, ER.rebase er.ret er2, q⟩
  refine ⟨fun m σ H => ∃ s F2, ER G.K B F (v s) σ F2 H ∧ whileRF ct Bd m s = some sf, ⟨n, s0, F, er.reset.le h0, ef⟩, ?_⟩
  rintro m σ2 H2 ⟨s, F2, er2, ef2⟩
  cases m with
  | zero => cases ef2
  | succ m =>
    unfold whileRF at ef2
    obtain ⟨b, eb, ef2⟩ := Option.bind_eq_some_iff.mp ef2
    refine ⟨s, F2, b, eb, er2.vr, fun F3 H3 x3 => ?_⟩
    have er3 := er2.go x3
    cases b with
    | true =>
      rw [if_pos rfl] at ef2
      obtain ⟨s', es', ef2⟩ := Option.bind_eq_some_iff.mp ef2
      refine iteT ⟨fun σ H => ∃ s F2, ER G.K B F (v s) σ F2 H ∧ whileRF ct Bd m s = some sf, fun σ' H' h => ⟨m, Nat.lt_succ_self m, h⟩, s, B, F, F3, s', es', er3, ?_⟩
      cases s' with
      | go s' => exact ⟨fun σ4 F4 H4 er4 => ⟨s', F4, er4, ef2⟩, fun σ4 F4 H4 er4 => ⟨s', F4, er4, ef2⟩⟩
      | br s' => cases ef2; exact ⟨fun σ4 F4 H4 er4 => nxt _ _ _ _ rfl er4, trivial⟩
      | rt d => cases ef2; cases em; exact ⟨kD_rebase er.ret (hk.rt _ _ _ _ q) rfl, trivial⟩
    | false =>
      rw [if_neg Bool.false_ne_true] at ef2
      cases ef2
      exact iteF (nxt _ _ _ _ rfl er3)
end
end DL
set_option autoImplicit false
set_option maxRecDepth 100000
set_option maxHeartbeats 4000000
namespace DL
open PySem PySem.Spec PySem.SeqAt PyProof.Rows L2

section
variable {R : Type} {G : GX} {L : LX} {ρ : List Sl} {rest : List Stmt} {k : KS R} {e i : Expr} {m mi : Option D} {M : D → Option R} {pos p1 p2 p3 p4 : Pos} {x : Str}

/-! ### what is one's own, changed in place -/
abbrev VisS (L : LX) (x : Str) : Prop := Vis L.sc x
theorem p_own {X : Cx} (hX : XOk G L X) (j : Nat) (hj : L.N[j]? = some x) (hv : Vis L.sc x) (hd : (x == ("__debug__" : Str)) = false) (hcd : (x == ("__classdict__" : Str)) = false) : PE X (.Name x pos) (tVar j) :=
  pe_var (i := j) (by rw [hX.hN]; exact hj) (by rw [hX.hsc]; exact hv) hd hcd
def appD (x d : D) : Option D := match x with
  | .lst xs => if xs.length < 16777216 then some (.lst (xs ++ [d])) else none
  | _ => none
theorem szl {n : Nat} (h : n < 16777216) : n < sizeLine := by rw [sizeLine_eq]; exact h
theorem ER.ext2 {K : PySem.W.Frag} {B F0 F H F' H' : Hp} {σ : L2.St} (r : ER K B F0 ρ σ F H) (e : Ext F H F' H') : ER K B F0 ρ σ F' H' := r.go e
/-- x.append(e) -/
theorem b_app (j : Nat) {y : D} (hy : nthS ρ j = .own y) (he : EOk G L ρ e m) (hr : ∀ d, BOk G L (setS ρ j (.own d)) rest k (M d)) (hj : L.N[j]? = some x := by rfl) (hv : Vis L.sc x := by first | exact Or.inl rfl | exact Or.inr (Or.inl rfl) | exact Or.inr (Or.inr rfl))
    (hd : (x == ("__debug__" : Str)) = false := by decide) (hcd : (x == ("__classdict__" : Str)) = false := by decide)
    (hbase : ∀ env, attributeBase (.Name x p1) "append" env (eval (.Name x p1) env) = eval (.Name x p1) env := by intro _; rfl)
    (hfew : ∀ env, ((backTo p3 (starEach [e] env)).all (fun x => !x.1) && (backToKw p3 (keywordEach [] env)).all (fun x => x.1.isSome) && decide (([e] : List Expr).length + ([] : List Keyword).length + (if ([] : List Keyword).isEmpty then 0 else 1) < 30)) = true := by intro _; rfl)
    (hline : (p2.endLine == p3.line) = true := by rfl) (hs : ∀ env, starEach [e] env = (false, eval e env) :: starEach [] env := by intro _; rfl)
    (hsw : ∀ env, swapsWith (.Call (.Attribute (.Name x p1) "append" p2) [e] [] p3) none p4.line env = pure false := by intro _; rfl) :
    BOk G L ρ (.Expr (.Call (.Attribute (.Name x p1) "append" p2) [e] [] p3) p4 :: rest) k ((m.bind (appD y)).bind M) := fun X hX =>
  wkSs (seqU (ps_expr (pe_bm PySem.F.plainAttrs_list PySem.F.slot_list_append PySem.F.type_list_append mt_append (p_own hX j hj hv hd hcd) (pa_cons (he X hX) pa_nil (hs _)) (hbase _) (hfew _) hline (hs _) rfl) (hsw _)) fun d => hr d X hX) fun D σ H ⟨B, F0, F, r, em, er, q⟩ => by
    obtain ⟨y', ey, em⟩ := Option.bind_eq_some_iff.mp em
    obtain ⟨d, ed, ey⟩ := Option.bind_eq_some_iff.mp ey
    unfold appD at ey
    split at ey
    · split at ey
      · rename_i xs hl
        cases ey
        obtain ⟨p, o, e1, e2, ⟨vs, rfl, rv⟩, hF⟩ := er.vr.owns j _ hy
        refine ⟨.ref p, e1, .inl ⟨rfl, vs, .inl (.inl e2)⟩, F, d, ed, er.vr, fun v F' H' x rd => ?_⟩
        have er' := er.go x
        have e2' := x.heap _ _ e2
        refine ⟨p, vs, v, rfl, rfl, e2', by rw [← rv.len]; exact szl hl, ?_⟩
        exact ⟨_, B, F0, F', r, em, er'.upd hy e1 ⟨_, rfl, (Reps.mono x.froz _ _ rv).append (.cons rd .nil)⟩, q⟩
      · cases ey
    · cases ey
def rExtendR : V → List V → Hp → VK → Prop := fun x vs H Q => ∃ l b xs zs, x = .ref l ∧ vs = [.ref b] ∧ H l = some (.lst xs) ∧ Rd H b (.lst zs) ∧ xs.length + zs.length ≤ sizeLine ∧ Q .non (upd H l (.lst (xs ++ zs)))
theorem mt_extendR {X : Cx} : MtM X "list.extend" rExtendR := by
  intro pins s σ H x vs v us Q I rx rv h
  obtain ⟨l, b, xs, zs, rfl, rfl, hH, hB, hz, q⟩ := h
  cases rx
  obtain ⟨u, rfl, ru⟩ := rv.one
  cases ru
  obtain ⟨z, its, n, r, hl, e⟩ := I.lstM hH
  obtain ⟨z2, its2, n2, r2, e2⟩ := hB.ok I.hok
  have hl2 := r2.length
  have hsz : its.toArray.size + its2.toArray.size ≤ sizeLine := by rw [List.size_toArray, List.size_toArray]; omega
  have hlong : ¬ (!its.toArray.isEmpty && Builtin.List.listTooLong (its.toArray.size + its2.toArray.size)) = true := by
    rw [notLongL hsz, Bool.and_false]
    exact Bool.false_ne_true
  refine call_meets F.slot_list_extend ⟨_, e, rfl⟩ F.entry_list_extend (F.args_list_extend_2 _ _)
    (AutoSeq1.list_extend_list_list_0 l its.toArray n b its2.toArray n2 hlong (by rw [List.size_toArray]; omega) (by omega)) ⟨e, e2, ?_⟩
  refine ⟨.non, _, I.lset (its' := its ++ its2) hH e (by simp) (r.append r2) ?_, rfl, q⟩
  rw [List.length_append]
  omega
def extD (x d : D) : Option D := match x, d with
  | .lst xs, .lst ys => if xs.length + ys.length ≤ 16777216 then some (.lst (xs ++ ys)) else none
  | _, _ => none
/-- x.extend(e), e a list -/
theorem b_ext (j : Nat) {y : D} (hy : nthS ρ j = .own y) (he : EOk G L ρ e m) (hr : ∀ d, BOk G L (setS ρ j (.own d)) rest k (M d)) (hj : L.N[j]? = some x := by rfl) (hv : Vis L.sc x := by first | exact Or.inl rfl | exact Or.inr (Or.inl rfl) | exact Or.inr (Or.inr rfl))
    (hd : (x == ("__debug__" : Str)) = false := by decide) (hcd : (x == ("__classdict__" : Str)) = false := by decide)
    (hbase : ∀ env, attributeBase (.Name x p1) "extend" env (eval (.Name x p1) env) = eval (.Name x p1) env := by intro _; rfl)
    (hfew : ∀ env, ((backTo p3 (starEach [e] env)).all (fun x => !x.1) && (backToKw p3 (keywordEach [] env)).all (fun x => x.1.isSome) && decide (([e] : List Expr).length + ([] : List Keyword).length + (if ([] : List Keyword).isEmpty then 0 else 1) < 30)) = true := by intro _; rfl)
    (hline : (p2.endLine == p3.line) = true := by rfl) (hs : ∀ env, starEach [e] env = (false, eval e env) :: starEach [] env := by intro _; rfl)
    (hsw : ∀ env, swapsWith (.Call (.Attribute (.Name x p1) "extend" p2) [e] [] p3) none p4.line env = pure false := by intro _; rfl) :
    BOk G L ρ (.Expr (.Call (.Attribute (.Name x p1) "extend" p2) [e] [] p3) p4 :: rest) k ((m.bind (extD y)).bind M) := fun X hX =>
  wkSs (seqU (ps_expr (pe_bm PySem.F.plainAttrs_list PySem.F.slot_list_extend PySem.F.type_list_extend mt_extendR (p_own hX j hj hv hd hcd) (pa_cons (he X hX) pa_nil (hs _)) (hbase _) (hfew _) hline (hs _) rfl) (hsw _)) fun d => hr d X hX) fun D σ H ⟨B, F0, F, r, em, er, q⟩ => by
    obtain ⟨y', ey, em⟩ := Option.bind_eq_some_iff.mp em
    obtain ⟨d, ed, ey⟩ := Option.bind_eq_some_iff.mp ey
    unfold extD at ey
    split at ey
    · split at ey
      · rename_i xs ys hl
        cases ey
        obtain ⟨p, o, e1, e2, ⟨vs, rfl, rv⟩, hF⟩ := er.vr.owns j _ hy
        refine ⟨.ref p, e1, .inl ⟨rfl, vs, .inl (.inl e2)⟩, F, _, ed, er.vr, fun v F' H' x rd => ?_⟩
        unfold Rep at rd
        obtain ⟨b, ws, rfl, h1, q1⟩ := rd
        have er' := er.go x
        have e2' := x.heap _ _ e2
        refine ⟨p, b, vs, ws, rfl, rfl, e2', x.sub.rd h1, by rw [← rv.len, ← q1.len]; exact sz hl, ?_⟩
        exact ⟨_, B, F0, F', r, em, er'.upd hy e1 ⟨_, rfl, (Reps.mono x.froz _ _ rv).append q1⟩, q⟩
      · cases ey
    · cases ey
/-- x[i] = e, a list or a dict -/
def setD (x i v : D) : Option D := match x, i with
  | .lst xs, .int i => (ixN xs.length i).map fun j => .lst (xs.set j v)
  | .dI kvs, .int i => if kvs.length < 16777216 then some (.dI (putD kvs i v)) else none
  | .dT kvs, .tup ks => (intsOf ks).bind fun ks => if kvs.length < 16777216 then some (.dT (putD kvs ks v)) else none
  | _, _ => none
theorem set_dict {X : Cx} (hu : X.A.units + 1 < cLine) : PSet X (fun o i v H Q => ∃ a H', o = .ref a ∧ DPut H a i v H' ∧ Q H') := by
  intro pins s σ H o i v ov iv u Q I ro ri rv h
  obtain ⟨a, H', rfl, g, q⟩ := h
  obtain rfl : ov = Value.ref a := ro
  exact d_setItem hu I g ri rv fun s' I' => ⟨H', I', q⟩
theorem PSet.or {X : Cx} {t t' : TSet} (h : PSet X t) (h' : PSet X t') : PSet X (fun o i v H Q => t o i v H Q ∨ t' o i v H Q) := by
  intro pins s σ H o i v ov iv u Q I ro ri rv q
  exact q.elim (h pins s σ H o i v ov iv u Q I ro ri rv) (h' pins s σ H o i v ov iv u Q I ro ri rv)
theorem setD_rule {K : PySem.W.Frag} {B F0 F H : Hp} {σ : L2.St} {j : Nat} {y ik d y' : D} {vi vd : V} {p : Addr} {o : HO} (hy : nthS ρ j = .own y) (er : ER K B F0 ρ σ F H) (ri : Rep K F ik vi) (rd : Rep K F d vd) (h : setD y ik d = some y')
    (e1 : σ[j]? = some (some (.ref p))) {Q : Hp → Prop} (q : ∀ H', ER K B F0 (setS ρ j (.own y')) σ F H' → Q H') :
    rSetL (.ref p) vi vd H Q ∨ ∃ a H', V.ref p = .ref a ∧ DPut H a vi vd H' ∧ Q H' := by
  obtain ⟨p', o, a1, a2, a3, hF⟩ := er.vr.owns j _ hy
  rw [e1] at a1; cases a1
  unfold setD at h
  split at h
  · obtain ⟨l, hl, rfl⟩ := Option.map_eq_some_iff.mp h
    obtain ⟨vs, rfl, rv⟩ := a3
    unfold Rep at ri
    exact .inl ⟨p, vs, _, l, rfl, ri, a2, by rw [← rv.len]; exact hl, q _ (er.upd hy e1 ⟨_, rfl, rv.set rd l⟩)⟩
  · split at h
    · cases h
      obtain ⟨ws, rfl, rv⟩ := a3
      unfold Rep at ri
      exact .inr ⟨p, _, rfl, .inl ⟨ws, Sum.inl _, a2, ri, by rw [← rv.len]; exact szl (by assumption), rfl⟩, q _ (er.upd hy e1 ⟨_, rfl, rv.put rd⟩)⟩
    · cases h
  · obtain ⟨ks, hks, h⟩ := Option.bind_eq_some_iff.mp h
    split at h
    · cases h
      obtain ⟨ws, rfl, rv⟩ := a3
      unfold Rep at ri
      obtain ⟨b, vs, rfl, h1, q1⟩ := ri
      have := intsOf_rep hks q1
      subst this
      exact .inr ⟨p, _, rfl, .inr ⟨ws, _, b, a2, rfl, er.vr.sub.tup h1, by rw [← rv.len]; exact szl (by assumption), rfl⟩, q _ (er.upd hy e1 ⟨_, rfl, rv.put rd⟩)⟩
    · cases h
  · cases h
def setM (m mi : Option D) (y : D) : Option D := m.bind fun d => mi.bind fun i => setD y i d
theorem b_seti (j : Nat) {y : D} (hy : nthS ρ j = .own y) (he : EOk G L ρ e m) (hi : EOk G L ρ i mi) (hr : ∀ d, BOk G L (setS ρ j (.own d)) rest k (M d)) (hj : L.N[j]? = some x := by rfl) (hv : Vis L.sc x := by first | exact Or.inl rfl | exact Or.inr (Or.inl rfl) | exact Or.inr (Or.inr rfl))
    (hd : (x == ("__debug__" : Str)) = false := by decide) (hcd : (x == ("__classdict__" : Str)) = false := by decide)
    (ha : ∀ env v, assign (.Subscript (.Name x p1) i p2) env v = (do
      let ov ← holding [v] (eval (.Name x p1) env)
      let iv ← holding [v, ov] (eval i env)
      standAt p2
      holding [v, ov, iv] (setItem ov iv v)
      release [v, ov, iv] []) := by intro _ _; rfl)
    (hs : ∀ env, swapsWithSole [.Subscript (.Name x p1) i p2] e pos.line env = pure false := by intro _; rfl) (hw : ∀ env, swappedStores [.Subscript (.Name x p1) i p2] e env = pure none := by intro _; rfl) :
    BOk G L ρ (.Assign [.Subscript (.Name x p1) i p2] e pos :: rest) k ((setM m mi y).bind M) := fun X hX =>
  wkSs (seqU (ps_asg (he X hX) (pg_sub (p_own hX j hj hv hd hcd) (hi X hX) (DL.PSet.or set_list (set_dict (by have := hX.room.units; omega))) (ha _)) (hs _) (hw _)) fun d => hr d X hX) fun D σ H ⟨B, F0, F, r, em, er, q⟩ => by
    obtain ⟨y', ey, em⟩ := Option.bind_eq_some_iff.mp em
    obtain ⟨d, ed, ey⟩ := Option.bind_eq_some_iff.mp ey
    obtain ⟨ik, ei, ey⟩ := Option.bind_eq_some_iff.mp ey
    obtain ⟨p, o, e1, e2, _⟩ := er.vr.owns j _ hy
    refine ⟨F, d, ed, er.vr, fun v F1 H1 x1 rd => ⟨.ref p, e1, F1, ik, ei, er.vr.ext x1, fun vi F2 H2 x2 ri => ?_⟩⟩
    exact setD_rule (o := o) hy (er.go (x1.trans x2)) ri (Rep.mono x2.froz _ _ rd) ey e1 fun H' er' => ⟨y', B, F0, F2, r, em, er', q⟩
/-- x[i] op= e -/
theorem get_list {X : Cx} : PGet X (fun o i H Q => ∃ p xs k v, o = .ref p ∧ i = .int k ∧ SqL X.K H p xs ∧ atI xs k = some v ∧ Q v H) := by
  intro pins s σ H o i ov iv Q I ro ri h
  obtain ⟨p, xs, k, z, rfl, rfl, hq, he, q⟩ := h
  cases ro
  obtain ⟨t, rfl⟩ := ri
  obtain ⟨its, r, pl, hz⟩ := I.list hq
  obtain ⟨j, h1, h2, h3, h4, h5⟩ := atI_get he
  obtain ⟨w, ew, rw'⟩ := r.get h2
  have hl := r.length
  have hn := line63
  have fin : EP X pins σ Q w s := ⟨z, H, I, rw', q⟩
  by_cases h0 : 0 ≤ k
  · have hj : k.toNat = j := by
      rw [seqIndex_of h0 h5] at h1
      exact Option.some.inj h1
    exact wpAny_getItem_list pl.isList h0 (by omega) (by rw [hj]; simpa using ew) fin
  · have hj : (k + (its.toArray.size : Int)).toNat = j := by
      rw [seqIndex_neg (by omega) h4] at h1
      rw [List.size_toArray, ← hl]
      exact Option.some.inj h1
    exact wpAny_getItem_list_neg pl.isList (by omega) (by rw [List.size_toArray]; omega) (by omega) (by rw [hj]; simpa using ew) fin
theorem get_dict {X : Cx} (hu : X.A.units + 1 < cLine) : PGet X (fun o i H Q => ∃ a v, o = .ref a ∧ DGet H a i (some v) ∧ Q v H) := by
  intro pins s σ H o i ov iv Q I ro ri h
  obtain ⟨a, v, rfl, g, q⟩ := h
  obtain rfl : ov = Value.ref a := ro
  exact d_getItem hu I g ri fun w' s' I' rw' => ⟨v, H, I', rw', q⟩
theorem PGet.or {X : Cx} {t t' : V → V → Hp → VK → Prop} (h : PGet X t) (h' : PGet X t') : PGet X (fun o i H Q => t o i H Q ∨ t' o i H Q) := by
  intro pins s σ H o i ov iv Q I ro ri q
  exact q.elim (h pins s σ H o i ov iv Q I ro ri) (h' pins s σ H o i ov iv Q I ro ri)
theorem getD_rule {X : Cx} (hX : XOk G L X) {F H : Hp} {y ik d : D} {vi : V} {p : Addr} {o : HO} (ow : OwnO G.K F y o) (ho : H p = some o) (s : Sub F H) (ri : Rep G.K F ik vi) (h : ixD y ik = some d) {Q : VK} (q : ∀ v, Rep G.K F d v → Q v H) :
    (∃ p' xs k v, V.ref p = .ref p' ∧ vi = .int k ∧ SqL X.K H p' xs ∧ atI xs k = some v ∧ Q v H) ∨ ∃ a v, V.ref p = .ref a ∧ DGet H a vi (some v) ∧ Q v H := by
  unfold ixD at h
  split at h
  · obtain ⟨vs, rfl, rv⟩ := ow
    unfold Rep at ri
    obtain ⟨v, hv, r2⟩ := atI_rep rv h
    exact .inl ⟨p, vs, _, v, rfl, ri, .inl (.inl ho), hv, q v r2⟩
  · exact ow.elim
  · exact ow.elim
  · exact ow.elim
  · obtain ⟨ws, rfl, rv⟩ := ow
    unfold Rep at ri
    rcases rv.look with ⟨h2, _⟩ | ⟨d', v, h2, h3, h4⟩
    · rw [h2] at h; cases h
    · rw [h2] at h; cases h
      exact .inr ⟨p, v, rfl, .inl ⟨ws, Sum.inl _, .inl ho, ri, h3.symm⟩, q v h4⟩
  · obtain ⟨ws, rfl, rv⟩ := ow
    unfold Rep at ri
    obtain ⟨p2, ws2, rfl, h2, q2⟩ := ri
    obtain ⟨ks, hks, h⟩ := Option.bind_eq_some_iff.mp h
    have hw := intsOf_rep hks q2
    subst hw
    rcases rv.look with ⟨h3, _⟩ | ⟨d', v, h3, h4, h5⟩
    · rw [h3] at h; cases h
    · rw [h3] at h; cases h
      exact .inr ⟨p, v, rfl, .inr ⟨ws, _, p2, .inl ho, rfl, s.tup h2, h4.symm⟩, q v h5⟩
  · cases h
def augM (f : D → D → Option D) (mi m : Option D) (y : D) : Option D := mi.bind fun i => (ixD y i).bind fun u => m.bind fun d => (f u d).bind fun z => setD y i z
theorem b_augi {op : Operator} {f : D → D → Option D} (ho : OpD G L f (inplaceOp op)) (j : Nat) {y : D} (hy : nthS ρ j = .own y) (hi : EOk G L ρ i mi) (he : EOk G L ρ e m) (hr : ∀ d, BOk G L (setS ρ j (.own d)) rest k (M d)) (hj : L.N[j]? = some x := by rfl) (hv : Vis L.sc x := by first | exact Or.inl rfl | exact Or.inr (Or.inl rfl) | exact Or.inr (Or.inr rfl))
    (hd : (x == ("__debug__" : Str)) = false := by decide) (hcd : (x == ("__classdict__" : Str)) = false := by decide)
    (ha : ∀ ov iv new, augStore i ov iv new = (do holding [new, ov, iv] (setItem ov iv new); release [new, ov, iv] []; pure .next) := by intros; rfl) :
    BOk G L ρ (.AugAssign (.Subscript (.Name x p1) i p2) op e pos :: rest) k ((augM f mi m y).bind M) := fun X hX => by
  obtain ⟨rr, h1, h2⟩ := ho X hX
  refine wkSs (seqU (ps_augS (p_own hX j hj hv hd hcd) (hi X hX) (DL.PGet.or get_list (get_dict (by have := hX.room.units; omega))) (he X hX) h1 (DL.PSet.or set_list (set_dict (by have := hX.room.units; omega))) ha) fun d => hr d X hX) fun D σ H ⟨B, F0, F, r, em, er, q⟩ => ?_
  obtain ⟨y', ey, em⟩ := Option.bind_eq_some_iff.mp em
  obtain ⟨ik, ei, ey⟩ := Option.bind_eq_some_iff.mp ey
  obtain ⟨u, eu, ey⟩ := Option.bind_eq_some_iff.mp ey
  obtain ⟨d, ed, ey⟩ := Option.bind_eq_some_iff.mp ey
  obtain ⟨z, ez, ey⟩ := Option.bind_eq_some_iff.mp ey
  obtain ⟨p, o, e1, e2, ow, _⟩ := er.vr.owns j _ hy
  refine ⟨.ref p, e1, F, ik, ei, er.vr, fun vi F1 H1 x1 ri => ?_⟩
  refine getD_rule (Q := fun x H3 => tE G.K ρ m σ H3 fun y H4 => rr x y H4 fun z H5 => rSetL (.ref p) vi z H5 (fun H6 => ∃ d, tS G.K (setS ρ j (Sl.own d)) k (M d) D σ H6) ∨ ∃ a H', V.ref p = .ref a ∧ DPut H5 a vi z H' ∧ ∃ d, tS G.K (setS ρ j (Sl.own d)) k (M d) D σ H') hX (ow.mono x1.froz) (x1.heap _ _ e2) x1.sub ri eu fun v ru => ⟨F1, d, ed, er.vr.ext x1, fun vd F2 H2 x2 rd => ?_⟩
  refine h2 F2 H2 u d z v vd _ x2.sub (Rep.mono x2.froz _ _ ru) rd ez fun vz F3 H3 x3 rz => ?_
  exact setD_rule (o := o) hy (er.go ((x1.trans x2).trans x3)) (Rep.mono (x2.trans x3).froz _ _ ri) rz ey e1 fun H' er' => ⟨y', B, F0, F3, r, em, er', q⟩
def addI (a b : D) : Option D := match a, b with
  | .int i, .int j => some (.int (i + j))
  | _, _ => none
theorem ipd_addI : OpD G L addI (inplaceOp .Add) := fun X hX => ⟨_, iop_add, fun F H d1 d2 d v1 v2 Q s r1 r2 e q => by
  unfold addI at e
  split at e
  · cases e
    unfold Rep at r1 r2
    exact ⟨_, _, r1, r2, q _ _ _ (.refl s) rep_i⟩
  · cases e⟩
theorem ipd_sub : OpD G L subD (inplaceOp .Sub) := fun X hX => ⟨_, iop_sub, fun F H d1 d2 d v1 v2 Q s r1 r2 e q => by
  unfold subD at e
  split at e
  · cases e
    unfold Rep at r1 r2
    exact ⟨_, _, r1, r2, q _ _ _ (.refl s) rep_i⟩
  · cases e⟩
theorem ipd_mod : OpD G L modD (inplaceOp .Mod) := fun X hX => ⟨_, iop_mod, fun F H d1 d2 d v1 v2 Q s r1 r2 e q => by
  unfold modD at e
  split at e
  · split at e
    · rename_i h
      cases e
      unfold Rep at r1 r2
      exact ⟨_, _, r1, r2, h, q _ _ _ (.refl s) rep_i⟩
    · cases e
  · cases e⟩
/-- x op= e, x a name -/
theorem b_aug {op : Operator} {f : D → D → Option D} (ho : OpD G L f (inplaceOp op)) (j : Nat) {y : D} (hy : nthS ρ j = .val y) (he : EOk G L ρ e m) (hr : ∀ d, BOk G L (setS ρ j (.val d)) rest k (M d)) (hj : L.N[j]? = some x := by rfl) (hx : Loc L.sc x := by first | exact Or.inl rfl | exact Or.inr rfl)
    (hf : L.ow x = true ∨ L.sc.names.lookup x = some .local := by first | exact Or.inl rfl | exact Or.inr rfl) : BOk G L ρ (.AugAssign (.Name x p1) op e pos :: rest) k ((m.bind (f y)).bind M) := fun X hX => by
  obtain ⟨rr, h1, h2⟩ := ho X hX
  refine wkSs (seqU (ps_aug (i := j) (by rw [hX.hN]; exact hX.nd) (by rw [hX.hN]; exact hj) (by rw [hX.hsc]; exact hx) (he X hX) h1 (by rw [hX.hfn, hX.hsc]; exact hf)) fun d => hr d X hX) fun D σ H ⟨B, F0, F, r, em, er, q⟩ => ?_
  obtain ⟨z, ez, em⟩ := Option.bind_eq_some_iff.mp em
  obtain ⟨d, ed, ez⟩ := Option.bind_eq_some_iff.mp ez
  obtain ⟨v, hv, ry⟩ := er.vr.vals j y hy
  refine ⟨v, hv, F, d, ed, er.vr, fun vd F1 H1 x1 rd => ?_⟩
  exact h2 F1 H1 y d z v vd _ x1.sub (Rep.mono x1.froz _ _ ry) rd ez fun vz F2 H2 x2 rz => ⟨z, B, F0, F2, r, em, (er.go (x1.trans x2)).set rz, q⟩
/-- a target of any form takes a value that is frozen -/
theorem b_asg {tg : Expr} {g : TGD} (he : EOk G L ρ e m) (hg : GOk G L tg g) {M : D → Option R} (bad : ∀ d, g d = none → M d = none) (hr : ∀ d as, g d = some as → BOk G L (setAll ρ as) rest k (M d))
    (hs : ∀ env : Env, env.scope = L.sc → swapsWithSole [tg] e pos.line env = pure false := by intro _ _; rfl) (hw : ∀ env : Env, env.scope = L.sc → swappedStores [tg] e env = pure none := by intro _ _; rfl) (h1 : ∀ env, (assignEach [tg] env).map (·.2) = [assign tg env] := by intro _; rfl) :
    BOk G L ρ (.Assign [tg] e pos :: rest) k (m.bind M) := fun X hX =>
  wkSs (seqU (ι := { p : D × List (Nat × D) // g p.1 = some p.2 }) (ps_asg (he X hX) (hg X hX) (hs _ hX.hsc) (hw _ hX.hsc) (h1 _)) fun p => hr p.1.1 p.1.2 p.2 X hX) fun D σ H ⟨B, F0, F, r, em, er, q⟩ => by
    obtain ⟨d, ed, em⟩ := Option.bind_eq_some_iff.mp em
    refine ⟨F, d, ed, er.vr, fun v F1 H1 x1 rv => ?_⟩
    cases eg : g d with
    | none => rw [bad d eg] at em; cases em
    | some as => exact ⟨F1, d, as, x1.sub, rv, eg, fun ws hw => ⟨⟨(d, as), eg⟩, B, F0, F1, r, em, (er.go x1).setMany as ws hw, q⟩⟩
/-- a, b = x, y, two local names -/
theorem b_par {y : Str} {ea eb : Expr} {ma mb : Option D} {M : D → D → Option R} {kt k2 : Nat} {px py pt pt2 : Pos} (ja jb : Nat) (ha : EOk G L ρ ea ma) (hb : EOk G L ρ eb mb) (hr : ∀ u v, BOk G L (setS (setS ρ ja (.val u)) jb (.val v)) rest k (M u v))
    (hw : ∀ env : Env, env.scope = L.sc → swappedStores [.Tuple [.Name x px, .Name y py] kt pt] (.Tuple [ea, eb] k2 pt2) env = pure (some [x, y])) (hij : ja ≠ jb := by decide) (hja : L.N[ja]? = some x := by rfl) (hjb : L.N[jb]? = some y := by rfl)
    (hx : L.sc.names.lookup x = some .local := by rfl) (hy : L.sc.names.lookup y = some .local := by rfl)
    (hs : ∀ env, swapsWithSole [.Tuple [.Name x px, .Name y py] kt pt] (.Tuple [ea, eb] k2 pt2) pos.line env = pure false := by intro _; rfl)
    (hsa : ∀ env, starEach [ea, eb] env = (false, eval ea env) :: starEach [eb] env := by intro _; rfl) (hsb : ∀ env, starEach [eb] env = (false, eval eb env) :: starEach [] env := by intro _; rfl) :
    BOk G L ρ (.Assign [.Tuple [.Name x px, .Name y py] kt pt] (.Tuple [ea, eb] k2 pt2) pos :: rest) k (ma.bind fun u => mb.bind fun v => M u v) := fun X hX =>
  wkSs (seqU (ι := D × D) (ps_par (i := ja) (j := jb) hX.calm (by rw [hX.hN]; exact hX.nd) (by rw [hX.hN]; exact hja) (by rw [hX.hN]; exact hjb) hij (by rw [hX.hsc]; exact hx) (by rw [hX.hsc]; exact hy) (pa_cons (ha X hX) (pa_cons (hb X hX) pa_nil (hsb _)) (hsa _)) (hw _ hX.hsc) (hs _)) fun p => hr p.1 p.2 X hX) fun D σ H ⟨B, F0, F, r, em, er, q⟩ => by
    obtain ⟨u, eu, em⟩ := Option.bind_eq_some_iff.mp em
    obtain ⟨v, ev, em⟩ := Option.bind_eq_some_iff.mp em
    refine ⟨F, u, eu, er.vr, fun vu F1 H1 x1 ru => ⟨F1, v, ev, er.vr.ext x1, fun vv F2 H2 x2 rv => ⟨vu, vv, rfl, (u, v), B, F0, F2, r, em, ?_, q⟩⟩⟩
    exact ((er.go (x1.trans x2)).set (Rep.mono x2.froz _ _ ru)).set rv
/-- the same, both sides new objects that stay one's own -/
theorem b_parOO {y : Str} {ea eb : Expr} {ma mb : Option D} {M : D → D → Option R} {kt k2 : Nat} {px py pt pt2 : Pos} (ja jb : Nat) (ha : FOk G L ρ ea ma) (hb : FOk G L ρ eb mb) (hr : ∀ u v, BOk G L (setS (setS ρ ja (.own u)) jb (.own v)) rest k (M u v))
    (hw : ∀ env : Env, env.scope = L.sc → swappedStores [.Tuple [.Name x px, .Name y py] kt pt] (.Tuple [ea, eb] k2 pt2) env = pure (some [x, y])) (hij : ja ≠ jb := by decide) (hja : L.N[ja]? = some x := by rfl) (hjb : L.N[jb]? = some y := by rfl)
    (hx : L.sc.names.lookup x = some .local := by rfl) (hy : L.sc.names.lookup y = some .local := by rfl)
    (hs : ∀ env, swapsWithSole [.Tuple [.Name x px, .Name y py] kt pt] (.Tuple [ea, eb] k2 pt2) pos.line env = pure false := by intro _; rfl)
    (hsa : ∀ env, starEach [ea, eb] env = (false, eval ea env) :: starEach [eb] env := by intro _; rfl) (hsb : ∀ env, starEach [eb] env = (false, eval eb env) :: starEach [] env := by intro _; rfl) :
    BOk G L ρ (.Assign [.Tuple [.Name x px, .Name y py] kt pt] (.Tuple [ea, eb] k2 pt2) pos :: rest) k (ma.bind fun u => mb.bind fun v => M u v) := fun X hX =>
  wkSs (seqU (ι := D × D) (ps_par (i := ja) (j := jb) hX.calm (by rw [hX.hN]; exact hX.nd) (by rw [hX.hN]; exact hja) (by rw [hX.hN]; exact hjb) hij (by rw [hX.hsc]; exact hx) (by rw [hX.hsc]; exact hy) (pa_cons (ha X hX) (pa_cons (hb X hX) pa_nil (hsb _)) (hsa _)) (hw _ hX.hsc) (hs _)) fun p => hr p.1 p.2 X hX) fun D σ H ⟨B, F0, F, r, em, er, q⟩ => by
    obtain ⟨u, eu, em⟩ := Option.bind_eq_some_iff.mp em
    obtain ⟨v, ev, em⟩ := Option.bind_eq_some_iff.mp em
    refine ⟨F, u, eu, er.vr, fun pu ou F1 H1 x1 n1 ho1 ow1 f1 => ⟨F1, v, ev, er.vr.ext x1, fun pv ov F2 H2 x2 n2 ho2 ow2 f2 => ⟨.ref pu, .ref pv, rfl, (u, v), B, F0, F2, r, em, ?_, q⟩⟩⟩
    have er1 : ER G.K B F0 (setS ρ ja (.own u)) (σ.set ja (some (.ref pu))) F1 H1 := own_new er x1 n1 ho1 ow1 f1 ja
    exact own_new er1 x2 n2 ho2 ow2 f2 jb
/-- pass -/
theorem b_pass {M : Option R} (hr : BOk G L ρ rest k M) : BOk G L ρ (.Pass pos :: rest) k M := fun X hX => wkSs (pss_cons ps_pass (hr X hX)) fun D σ H q => q
end
end DL
set_option autoImplicit false
set_option maxRecDepth 100000
set_option maxHeartbeats 4000000
namespace DL
open PySem PySem.Spec PySem.SeqAt PyProof.Rows L2

/-! ### defs -/
def spD (K : PySem.W.Frag) (n : Nat) (g : List D → Option D) : Sp := fun vs H Q _ => ∃ F ds d, ds.length = n ∧ Sub F H ∧ Reps K F ds vs ∧ g ds = some d ∧ ∀ v F' H', Ext F H F' H' → Rep K F' d v → Q v H'
/-- the def x keeps g, from level k on -/
def FnD (G : GX) (k : Nat) (x : Str) (n : Nat) (g : List D → Option D) : Prop := ∃ (f : Addr) (fd : FuncData) (ps : List Str), ps.length = n ∧ FnOk G.P G.w G.K G.mg G.base CX0 k f fd ps (spD G.K n g) ∧ G.mg x = some (.ref f) ∧ PySem.W.keepIn G.K (.ref f) = true ∧ Binds G.K fd ps []
/-- a def of the text, as it stands behind the top -/
def DefAt (G : GX) (x : Str) (st : Stmt) (ps : List Str) : Prop := ∃ (f : Addr) (fd : FuncData), Fun G.K x x st f fd ∧ G.mg x = some (.ref f) ∧ Binds G.K fd ps []
def rho (N : List Str) (ds : List D) : List Sl := ds.map .val ++ List.replicate (N.length - ds.length) .no
theorem rho_nth {N : List Str} : ∀ {ds : List D} {n i : Nat} {d : D}, nthS (ds.map Sl.val ++ List.replicate n .no) i = .val d → ds[i]? = some d
  | [], n, i, d, h => by
    exfalso
    have : ∀ n i, nthS (List.replicate n Sl.no) i = .no := by
      intro n
      induction n with
      | zero => intro i; rfl
      | succ n ih => intro i; cases i with
        | zero => rfl
        | succ i => exact ih i
    rw [List.map_nil, List.nil_append, this] at h
    cases h
  | e :: ds, n, 0, d, h => by cases h; rfl
  | e :: ds, n, i + 1, d, h => by
    have := rho_nth (N := N) (ds := ds) (n := n) (i := i) h
    simpa using this
theorem rho_own : ∀ {ds : List D} {n i : Nat} {d : D}, nthS (ds.map Sl.val ++ List.replicate n .no) i ≠ .own d
  | [], n, i, d => by
    have : ∀ n i, nthS (List.replicate n Sl.no) i = .no := by
      intro n
      induction n with
      | zero => intro i; rfl
      | succ n ih => intro i; cases i with
        | zero => rfl
        | succ i => exact ih i
    rw [List.map_nil, List.nil_append, this]
    exact fun z => nomatch z
  | e :: ds, n, 0, d => fun z => nomatch z
  | e :: ds, n, i + 1, d => rho_own (ds := ds) (n := n) (i := i)
theorem fn_ok {G : GX} {x : Str} {st : Stmt} {N ps : List Str} {k n : Nat} {g : List D → Option D} (Fd : DefAt G x st ps) (S : FnScope N ps (defScope st)) (hn : ps.length = n)
    (h : ∀ ds, ds.length = n → BOk G ⟨N, k, defScope st, fun _ => true⟩ (rho N ds) (defBody st) (kF G.K) (g ds)) : FnD G (k + 1) x n g := by
  obtain ⟨f, fd, F, hm, hb⟩ := Fd
  have hpl : ps.length ≤ N.length := by have := congrArg List.length S.pre; rw [List.length_take] at this; omega
  refine ⟨f, fd, ps, hn, F.ok S (fun vs H Q E ⟨F, ds, d, hl, s, r, e, q⟩ => by rw [hn, ← hl, r.len]) (fun cdv A outer s H vs Q E hr ⟨F0, ds, d, hl, s0, r, e, q⟩ => ?_), hm, F.kp, hb⟩
  refine ⟨_, h ds hl _ ⟨rfl, rfl, rfl, rfl, rfl, rfl, S.nd, rfl, rfl, rfl, hr⟩, H, F0, F0, d, e, ⟨⟨s0, ?_, fun i d h => ?_, fun i d h => absurd h rho_own⟩, ⟨Same.refl _, s0, Same.refl _, fun a o h n => by rw [h] at n; cases n⟩, fun i d p h => absurd h rho_own, fun i j d e p h => absurd h rho_own⟩, ?_, ?_⟩
  · have := r.len
    simp only [L2.start, rho, List.length_append, List.length_map, List.length_replicate]
    omega
  · have hd : ds[i]? = some d := rho_nth (N := N) h
    obtain ⟨v, hv, rv⟩ := r.get hd
    refine ⟨v, ?_, rv⟩
    have hi : i < vs.length := (List.getElem?_eq_some_iff.mp hv).1
    unfold L2.start
    rw [List.getElem?_append_left (by simpa using hi), List.getElem?_map, hv]; rfl
  · intro v F H' ro rv
    exact q v F H' ⟨ro.keep, ro.ext, ro.sub, ro.fresh⟩ rv
  · intro hd σ F H' ro
    subst hd
    exact q .non F H' ⟨ro.keep, ro.ext, ro.sub, ro.fresh⟩ rep_n
section
variable {G : GX} {L : LX} {ρ : List Sl} {e a b c : Expr} {es : List Expr} {m ma mb mc : Option D} {ms : Option (List D)} {pos p p2 : Pos} {x : Str} {k n : Nat} {g : List D → Option D}
theorem e_call (F : FnD G k x n g) (ha : AOk G L ρ (a :: es) ms) (hn : n = (a :: es).length := by rfl) (hk : k ≤ L.k := by decide) (hg : GlS L x := by rfl) (hdb : (x == ("__debug__" : Str)) = false := by decide)
    (hlen : ∀ ds, ms = some ds → ds.length = (a :: es).length) (he : ∀ env, starEach (a :: es) env = (false, eval a env) :: starEach es env := by intro _; rfl) (hpl : ∀ env, (backTo pos (starEach es env)).any (·.1) = false := by intro _; rfl) : EOk G L ρ (.Call (.Name x p) (a :: es) [] pos) (ms.bind g) := fun X hX => by
  obtain ⟨f, fd, ps, hps, hF, hm, hkp, hb⟩ := F
  have hF' : FnOk X.prog X.w X.K X.mg X.base CX0 k f fd ps (spD G.K n g) := by rw [hX.hP, hX.hw, hX.hK, hX.hm, hX.hb]; exact hF
  refine wkE (pe_call hF' (hX.room.mono hk) (gl_of hX hg) (by rw [hX.hm]; exact hm) (by rw [hX.hK]; exact hkp) (by rw [hX.hK]; exact hb) .nil (pass0 (X := X)) (ha X hX) hdb (he _) (hpl _)) fun σ H Q ⟨F, d, em, vr, q⟩ => ?_
  obtain ⟨ds, ed, em⟩ := Option.bind_eq_some_iff.mp em
  refine ⟨F, ds, ed, vr, fun vs F1 H1 x1 r1 => ?_⟩
  show spD G.K n g (vs ++ []) H1 Q E0
  rw [List.append_nil]
  exact ⟨F1, ds, d, by rw [hn]; exact hlen ds ed, x1.sub, r1, em, fun v F2 H2 x2 r2 => q v F2 H2 (x1.trans x2) r2⟩
theorem EOk.to {e : Expr} {m m' : Option D} (h : EOk G L ρ e m) (q : m = m') : EOk G L ρ e m' := q ▸ h
def ap1 (f : D → Option D) : List D → Option D
  | [a] => f a
  | _ => none
def ap2 (f : D → D → Option D) : List D → Option D
  | [a, b] => f a b
  | _ => none
def ap3 (f : D → D → D → Option D) : List D → Option D
  | [a, b, c] => f a b c
  | _ => none
def ap4 (f : D → D → D → D → Option D) : List D → Option D
  | [a, b, c, d] => f a b c d
  | _ => none
def ap5 (f : D → D → D → D → D → Option D) : List D → Option D
  | [a, b, c, d, e] => f a b c d e
  | _ => none
def ap6 (f : D → D → D → D → D → D → Option D) : List D → Option D
  | [a, b, c, d, e, u] => f a b c d e u
  | _ => none
def ap7 (f : D → D → D → D → D → D → D → Option D) : List D → Option D
  | [a, b, c, d, e, u, v] => f a b c d e u v
  | _ => none
def E1 (f : D → Option D) (ma : Option D) : Option D := ma.bind f
def E3 (f : D → D → D → Option D) (ma mb mc : Option D) : Option D := ma.bind fun x => mb.bind fun y => mc.bind fun z => f x y z
def E4 (f : D → D → D → D → Option D) (m1 m2 m3 m4 : Option D) : Option D := m1.bind fun x => m2.bind fun y => m3.bind fun z => m4.bind fun u => f x y z u
def E5 (f : D → D → D → D → D → Option D) (m1 m2 m3 m4 m5 : Option D) : Option D := m1.bind fun x => m2.bind fun y => m3.bind fun z => m4.bind fun u => m5.bind fun v => f x y z u v
def E6 (f : D → D → D → D → D → D → Option D) (m1 m2 m3 m4 m5 m6 : Option D) : Option D := m1.bind fun x => m2.bind fun y => m3.bind fun z => m4.bind fun u => m5.bind fun v => m6.bind fun w => f x y z u v w
def E7 (f : D → D → D → D → D → D → D → Option D) (m1 m2 m3 m4 m5 m6 m7 : Option D) : Option D := m1.bind fun x => m2.bind fun y => m3.bind fun z => m4.bind fun u => m5.bind fun v => m6.bind fun w => m7.bind fun t => f x y z u v w t
theorem aC_len {m : Option D} {ms : Option (List D)} {n : Nat} (h : ∀ ds, ms = some ds → ds.length = n) : ∀ ds, aC m ms = some ds → ds.length = n + 1 := fun ds e => by
  obtain ⟨x, ex, e⟩ := Option.bind_eq_some_iff.mp e
  obtain ⟨xs, exs, e⟩ := Option.bind_eq_some_iff.mp e
  cases e
  simp [h xs exs]
theorem nil_len : ∀ ds : List D, (some [] : Option (List D)) = some ds → ds.length = 0 := fun ds e => by cases e; rfl
section
variable {e1 e2 e3 e4 e5 e6 e7 : Expr} {m1 m2 m3 m4 m5 m6 m7 : Option D}
theorem e_call1 {f : D → Option D} (F : FnD G k x 1 (ap1 f)) (h1 : EOk G L ρ e1 m1) (hk : k ≤ L.k := by decide) (hg : GlS L x := by rfl) (hdb : (x == ("__debug__" : Str)) = false := by decide)
    (s1 : ∀ env, starEach [e1] env = (false, eval e1 env) :: starEach [] env := by intro _; rfl) : EOk G L ρ (.Call (.Name x p) [e1] [] pos) (E1 f m1) := by
  have := e_call F (p := p) (pos := pos) (a_cons h1 a_nil s1) rfl hk hg hdb (aC_len nil_len) s1 (fun _ => rfl)
  refine this.to ?_
  unfold aC E1
  cases m1 <;> rfl
theorem e_call2 {f : D → D → Option D} (F : FnD G k x 2 (ap2 f)) (h1 : EOk G L ρ e1 m1) (h2 : EOk G L ρ e2 m2) (hk : k ≤ L.k := by decide) (hg : GlS L x := by rfl) (hdb : (x == ("__debug__" : Str)) = false := by decide)
    (s1 : ∀ env, starEach [e1, e2] env = (false, eval e1 env) :: starEach [e2] env := by intro _; rfl) (s2 : ∀ env, starEach [e2] env = (false, eval e2 env) :: starEach [] env := by intro _; rfl)
    (hpl : ∀ env, (backTo pos (starEach [e2] env)).any (·.1) = false := by intro _; rfl) : EOk G L ρ (.Call (.Name x p) [e1, e2] [] pos) (E2 f m1 m2) := by
  have := e_call F (p := p) (pos := pos) (a_cons h1 (a_cons h2 a_nil s2) s1) rfl hk hg hdb (aC_len (aC_len nil_len)) s1 hpl
  refine this.to ?_
  unfold aC E2
  cases m1 <;> cases m2 <;> rfl
theorem e_call3 {f : D → D → D → Option D} (F : FnD G k x 3 (ap3 f)) (h1 : EOk G L ρ e1 m1) (h2 : EOk G L ρ e2 m2) (h3 : EOk G L ρ e3 m3) (hk : k ≤ L.k := by decide) (hg : GlS L x := by rfl) (hdb : (x == ("__debug__" : Str)) = false := by decide)
    (s1 : ∀ env, starEach [e1, e2, e3] env = (false, eval e1 env) :: starEach [e2, e3] env := by intro _; rfl) (s2 : ∀ env, starEach [e2, e3] env = (false, eval e2 env) :: starEach [e3] env := by intro _; rfl) (s3 : ∀ env, starEach [e3] env = (false, eval e3 env) :: starEach [] env := by intro _; rfl)
    (hpl : ∀ env, (backTo pos (starEach [e2, e3] env)).any (·.1) = false := by intro _; rfl) : EOk G L ρ (.Call (.Name x p) [e1, e2, e3] [] pos) (E3 f m1 m2 m3) := by
  have := e_call F (p := p) (pos := pos) (a_cons h1 (a_cons h2 (a_cons h3 a_nil s3) s2) s1) rfl hk hg hdb (aC_len (aC_len (aC_len nil_len))) s1 hpl
  refine this.to ?_
  unfold aC E3
  cases m1 <;> cases m2 <;> cases m3 <;> rfl
theorem e_call4 {f : D → D → D → D → Option D} (F : FnD G k x 4 (ap4 f)) (h1 : EOk G L ρ e1 m1) (h2 : EOk G L ρ e2 m2) (h3 : EOk G L ρ e3 m3) (h4 : EOk G L ρ e4 m4) (hk : k ≤ L.k := by decide) (hg : GlS L x := by rfl) (hdb : (x == ("__debug__" : Str)) = false := by decide)
    (s1 : ∀ env, starEach [e1, e2, e3, e4] env = (false, eval e1 env) :: starEach [e2, e3, e4] env := by intro _; rfl) (s2 : ∀ env, starEach [e2, e3, e4] env = (false, eval e2 env) :: starEach [e3, e4] env := by intro _; rfl) (s3 : ∀ env, starEach [e3, e4] env = (false, eval e3 env) :: starEach [e4] env := by intro _; rfl) (s4 : ∀ env, starEach [e4] env = (false, eval e4 env) :: starEach [] env := by intro _; rfl)
    (hpl : ∀ env, (backTo pos (starEach [e2, e3, e4] env)).any (·.1) = false := by intro _; rfl) : EOk G L ρ (.Call (.Name x p) [e1, e2, e3, e4] [] pos) (E4 f m1 m2 m3 m4) := by
  have := e_call F (p := p) (pos := pos) (a_cons h1 (a_cons h2 (a_cons h3 (a_cons h4 a_nil s4) s3) s2) s1) rfl hk hg hdb (aC_len (aC_len (aC_len (aC_len nil_len)))) s1 hpl
  refine this.to ?_
  unfold aC E4
  cases m1 <;> cases m2 <;> cases m3 <;> cases m4 <;> rfl
theorem e_call5 {f : D → D → D → D → D → Option D} (F : FnD G k x 5 (ap5 f)) (h1 : EOk G L ρ e1 m1) (h2 : EOk G L ρ e2 m2) (h3 : EOk G L ρ e3 m3) (h4 : EOk G L ρ e4 m4) (h5 : EOk G L ρ e5 m5) (hk : k ≤ L.k := by decide) (hg : GlS L x := by rfl) (hdb : (x == ("__debug__" : Str)) = false := by decide)
    (s1 : ∀ env, starEach [e1, e2, e3, e4, e5] env = (false, eval e1 env) :: starEach [e2, e3, e4, e5] env := by intro _; rfl) (s2 : ∀ env, starEach [e2, e3, e4, e5] env = (false, eval e2 env) :: starEach [e3, e4, e5] env := by intro _; rfl) (s3 : ∀ env, starEach [e3, e4, e5] env = (false, eval e3 env) :: starEach [e4, e5] env := by intro _; rfl) (s4 : ∀ env, starEach [e4, e5] env = (false, eval e4 env) :: starEach [e5] env := by intro _; rfl) (s5 : ∀ env, starEach [e5] env = (false, eval e5 env) :: starEach [] env := by intro _; rfl)
    (hpl : ∀ env, (backTo pos (starEach [e2, e3, e4, e5] env)).any (·.1) = false := by intro _; rfl) : EOk G L ρ (.Call (.Name x p) [e1, e2, e3, e4, e5] [] pos) (E5 f m1 m2 m3 m4 m5) := by
  have := e_call F (p := p) (pos := pos) (a_cons h1 (a_cons h2 (a_cons h3 (a_cons h4 (a_cons h5 a_nil s5) s4) s3) s2) s1) rfl hk hg hdb (aC_len (aC_len (aC_len (aC_len (aC_len nil_len))))) s1 hpl
  refine this.to ?_
  unfold aC E5
  cases m1 <;> cases m2 <;> cases m3 <;> cases m4 <;> cases m5 <;> rfl
theorem e_call6 {f : D → D → D → D → D → D → Option D} (F : FnD G k x 6 (ap6 f)) (h1 : EOk G L ρ e1 m1) (h2 : EOk G L ρ e2 m2) (h3 : EOk G L ρ e3 m3) (h4 : EOk G L ρ e4 m4) (h5 : EOk G L ρ e5 m5) (h6 : EOk G L ρ e6 m6) (hk : k ≤ L.k := by decide) (hg : GlS L x := by rfl) (hdb : (x == ("__debug__" : Str)) = false := by decide)
    (s1 : ∀ env, starEach [e1, e2, e3, e4, e5, e6] env = (false, eval e1 env) :: starEach [e2, e3, e4, e5, e6] env := by intro _; rfl) (s2 : ∀ env, starEach [e2, e3, e4, e5, e6] env = (false, eval e2 env) :: starEach [e3, e4, e5, e6] env := by intro _; rfl) (s3 : ∀ env, starEach [e3, e4, e5, e6] env = (false, eval e3 env) :: starEach [e4, e5, e6] env := by intro _; rfl) (s4 : ∀ env, starEach [e4, e5, e6] env = (false, eval e4 env) :: starEach [e5, e6] env := by intro _; rfl) (s5 : ∀ env, starEach [e5, e6] env = (false, eval e5 env) :: starEach [e6] env := by intro _; rfl) (s6 : ∀ env, starEach [e6] env = (false, eval e6 env) :: starEach [] env := by intro _; rfl)
    (hpl : ∀ env, (backTo pos (starEach [e2, e3, e4, e5, e6] env)).any (·.1) = false := by intro _; rfl) : EOk G L ρ (.Call (.Name x p) [e1, e2, e3, e4, e5, e6] [] pos) (E6 f m1 m2 m3 m4 m5 m6) := by
  have := e_call F (p := p) (pos := pos) (a_cons h1 (a_cons h2 (a_cons h3 (a_cons h4 (a_cons h5 (a_cons h6 a_nil s6) s5) s4) s3) s2) s1) rfl hk hg hdb (aC_len (aC_len (aC_len (aC_len (aC_len (aC_len nil_len)))))) s1 hpl
  refine this.to ?_
  unfold aC E6
  cases m1 <;> cases m2 <;> cases m3 <;> cases m4 <;> cases m5 <;> cases m6 <;> rfl
theorem e_call7 {f : D → D → D → D → D → D → D → Option D} (F : FnD G k x 7 (ap7 f)) (h1 : EOk G L ρ e1 m1) (h2 : EOk G L ρ e2 m2) (h3 : EOk G L ρ e3 m3) (h4 : EOk G L ρ e4 m4) (h5 : EOk G L ρ e5 m5) (h6 : EOk G L ρ e6 m6) (h7 : EOk G L ρ e7 m7) (hk : k ≤ L.k := by decide) (hg : GlS L x := by rfl) (hdb : (x == ("__debug__" : Str)) = false := by decide)
    (s1 : ∀ env, starEach [e1, e2, e3, e4, e5, e6, e7] env = (false, eval e1 env) :: starEach [e2, e3, e4, e5, e6, e7] env := by intro _; rfl) (s2 : ∀ env, starEach [e2, e3, e4, e5, e6, e7] env = (false, eval e2 env) :: starEach [e3, e4, e5, e6, e7] env := by intro _; rfl) (s3 : ∀ env, starEach [e3, e4, e5, e6, e7] env = (false, eval e3 env) :: starEach [e4, e5, e6, e7] env := by intro _; rfl) (s4 : ∀ env, starEach [e4, e5, e6, e7] env = (false, eval e4 env) :: starEach [e5, e6, e7] env := by intro _; rfl) (s5 : ∀ env, starEach [e5, e6, e7] env = (false, eval e5 env) :: starEach [e6, e7] env := by intro _; rfl) (s6 : ∀ env, starEach [e6, e7] env = (false, eval e6 env) :: starEach [e7] env := by intro _; rfl) (s7 : ∀ env, starEach [e7] env = (false, eval e7 env) :: starEach [] env := by intro _; rfl)
    (hpl : ∀ env, (backTo pos (starEach [e2, e3, e4, e5, e6, e7] env)).any (·.1) = false := by intro _; rfl) : EOk G L ρ (.Call (.Name x p) [e1, e2, e3, e4, e5, e6, e7] [] pos) (E7 f m1 m2 m3 m4 m5 m6 m7) := by
  have := e_call F (p := p) (pos := pos) (a_cons h1 (a_cons h2 (a_cons h3 (a_cons h4 (a_cons h5 (a_cons h6 (a_cons h7 a_nil s7) s6) s5) s4) s3) s2) s1) rfl hk hg hdb (aC_len (aC_len (aC_len (aC_len (aC_len (aC_len (aC_len nil_len))))))) s1 hpl
  refine this.to ?_
  unfold aC E7
  cases m1 <;> cases m2 <;> cases m3 <;> cases m4 <;> cases m5 <;> cases m6 <;> cases m7 <;> rfl
end

/-! ### in, not in -/
def isTup : D → Bool
  | .tup _ => true
  | _ => false
def memD (x y : D) : Option Bool := match y with
  | .dI kvs => (getI x).map fun i => (lookK kvs i).isSome
  | .dT kvs => (match x with | .tup ks => intsOf ks | _ => none).map fun ks => (lookK kvs ks).isSome
  | .lst ds => if okD x && okD (.lst ds) then some (ds.any fun z => deq z x) else none
  | .tup ds => if okD x && okD (.tup ds) then some (ds.any fun z => deq z x) else none
  | .str z => match x with
    | .str c => some (!(Builtin.Str.occurrences z c 0 z.length 1).isEmpty)
    | _ => none
  | _ => none
def inD (x y : D) : Option D := (memD x y).map .bl
def notInD (x y : D) : Option D := (memD x y).map fun b => .bl (!b)
def rInT (K : PySem.W.Frag) : R2 := fun x y H Q => ∃ d ds, Dp K H x d ∧ Dp K H y (.tuple ds) ∧ SeqAt.shaped d = true ∧ SeqAt.shaped (.tuple ds) = true ∧ Q (.bl (ds.any fun z => PyData.eqv z d)) H
def rNotInT (K : PySem.W.Frag) : R2 := fun x y H Q => ∃ d ds, Dp K H x d ∧ Dp K H y (.tuple ds) ∧ SeqAt.shaped d = true ∧ SeqAt.shaped (.tuple ds) = true ∧ Q (.bl (!ds.any fun z => PyData.eqv z d)) H
theorem op_inT {X : Cx} (hu : X.A.units + 65 < cLine) : OpR X (compareOp .In) (rInT X.K) := by
  intro pins s σ H x y v u Q I rx ry h
  obtain ⟨d, ds, hd, he, sd, se, q⟩ := h
  obtain ⟨as, r1⟩ := Dp.reads I d x v hd rx
  obtain ⟨bs, r2⟩ := Dp.reads I (.tuple ds) y u he ry
  exact SeqAt.in_tuple_reads r2 r1 (SeqAt.canLay_of_shaped se) (SeqAt.canLay_of_shaped sd) (room_in_shaped sd hu) ⟨.bl _, H, I, rfl, q⟩
theorem op_notInT {X : Cx} (hu : X.A.units + 65 < cLine) : OpR X (compareOp .NotIn) (rNotInT X.K) := by
  intro pins s σ H x y v u Q I rx ry h
  obtain ⟨d, ds, hd, he, sd, se, q⟩ := h
  obtain ⟨as, r1⟩ := Dp.reads I d x v hd rx
  obtain ⟨bs, r2⟩ := Dp.reads I (.tuple ds) y u he ry
  exact SeqAt.notIn_tuple_reads r2 r1 (SeqAt.canLay_of_shaped se) (SeqAt.canLay_of_shaped sd) (room_in_shaped sd hu) ⟨.bl _, H, I, rfl, q⟩
def rInDict (neg : Bool) : R2 := fun x y H Q => ∃ a o, y = .ref a ∧ DGet H a x o ∧ Q (.bl (if neg then !o.isSome else o.isSome)) H
theorem op_inDict {X : Cx} (hu : X.A.units + 1 < cLine) : OpR X (compareOp .In) (rInDict false) := by
  intro pins s σ H x y v u Q I rx ry h
  obtain ⟨a, o, rfl, g, q⟩ := h
  obtain rfl : u = Value.ref a := ry
  exact d_in hu I g rx fun s' I' => ⟨.bl o.isSome, H, I', rfl, q⟩
theorem op_notInDict {X : Cx} (hu : X.A.units + 1 < cLine) : OpR X (compareOp .NotIn) (rInDict true) := by
  intro pins s σ H x y v u Q I rx ry h
  obtain ⟨a, o, rfl, g, q⟩ := h
  obtain rfl : u = Value.ref a := ry
  exact d_notIn hu I g rx fun s' I' => ⟨.bl (!o.isSome), H, I', rfl, q⟩
theorem any_py {x : D} : ∀ ds : List D, ((toPys ds).any fun z => PyData.eqv z (toPy x)) = ds.any fun z => deq z x
  | [] => by unfold toPys; rfl
  | d :: ds => by unfold toPys; rw [List.any_cons, List.any_cons, any_py ds]; rfl
theorem dget_of {K : PySem.W.Frag} {F H : Hp} (s : Sub F H) {kvs : List (Int × D)} {vx vy : V} {i : Int} {x : D} (hi : getI x = some i) (rx : Rep K F x vx) (ry : Rep K F (.dI kvs) vy) : ∃ a o, vy = .ref a ∧ DGet H a vx o ∧ o.isSome = (lookK kvs i).isSome := by
  unfold Rep at ry
  obtain ⟨a, ws, rfl, h1, q1⟩ := ry
  have e := rep_int hi rx
  refine ⟨a, valV ws (Sum.inl i), rfl, .inl ⟨ws, Sum.inl i, s.rd h1, e, rfl⟩, ?_⟩
  rcases q1.look (k := i) with ⟨h2, h3⟩ | ⟨d, v, h2, h3, _⟩ <;> rw [h2, h3] <;> rfl
theorem dgetT_of {K : PySem.W.Frag} {F H : Hp} (s : Sub F H) {kvs : List (List Int × D)} {vx vy : V} {ks : List Int} {ds : List D} (hi : intsOf ds = some ks) (rx : Rep K F (.tup ds) vx) (ry : Rep K F (.dT kvs) vy) : ∃ a o, vy = .ref a ∧ DGet H a vx o ∧ o.isSome = (lookK kvs ks).isSome := by
  unfold Rep at ry rx
  obtain ⟨a, ws, rfl, h1, q1⟩ := ry
  obtain ⟨b, vs, rfl, h2, q2⟩ := rx
  have e := intsOf_rep hi q2
  subst e
  refine ⟨a, valV ws (ks.map Sum.inl), rfl, .inr ⟨ws, _, b, s.rd h1, rfl, s.tup h2, rfl⟩, ?_⟩
  rcases q1.look (k := ks) with ⟨h2, h3⟩ | ⟨d, v, h2, h3, _⟩ <;> rw [h2, h3] <;> rfl
theorem u65 {X : Cx} (hX : XOk G L X) : X.A.units + 65 < cLine := by have := hX.room.un; omega
theorem opd_in : OpD G L inD (compareOp .In) := fun X hX => ⟨_, (op_inD (u65 hX)).or ((op_inT (u65 hX)).or ((op_inDict (by have := u65 hX; omega)).or op_in_str)), fun F H d1 d2 d v1 v2 Q s r1 r2 e q => by
  obtain ⟨b, eb, rfl⟩ := Option.map_eq_some_iff.mp e
  have q := q _ _ _ (.refl s) rep_b
  rw [hX.hK]
  unfold memD at eb
  split at eb
  · obtain ⟨i, ei, rfl⟩ := Option.map_eq_some_iff.mp eb
    obtain ⟨a, o, rfl, g, ho⟩ := dget_of s ei r1 r2
    exact .inr (.inr (.inl ⟨a, o, rfl, g, by rw [← ho] at q; exact q⟩))
  · obtain ⟨ks, ei, rfl⟩ := Option.map_eq_some_iff.mp eb
    split at ei
    · obtain ⟨a, o, rfl, g, ho⟩ := dgetT_of s ei r1 r2
      exact .inr (.inr (.inl ⟨a, o, rfl, g, by rw [← ho] at q; exact q⟩))
    · cases ei
  · split at eb
    · rename_i ds h
      cases eb
      rw [Bool.and_eq_true] at h
      obtain ⟨p1, q1⟩ := okD_iff h.1
      obtain ⟨p2, q2⟩ := okD_iff h.2
      have e2 : toPy (.lst ds) = .list (toPys ds) := by rw [toPy]
      exact .inl ⟨toPy d1, toPys ds, dp_of s _ _ p1 r1, e2 ▸ dp_of s _ _ p2 r2, shaped_of p1 q1, e2 ▸ shaped_of p2 q2, by rw [any_py]; exact q⟩
    · cases eb
  · split at eb
    · rename_i ds h
      cases eb
      rw [Bool.and_eq_true] at h
      obtain ⟨p1, q1⟩ := okD_iff h.1
      obtain ⟨p2, q2⟩ := okD_iff h.2
      have e2 : toPy (.tup ds) = .tuple (toPys ds) := by rw [toPy]
      exact .inr (.inl ⟨toPy d1, toPys ds, dp_of s _ _ p1 r1, e2 ▸ dp_of s _ _ p2 r2, shaped_of p1 q1, e2 ▸ shaped_of p2 q2, by rw [any_py]; exact q⟩)
    · cases eb
  · split at eb
    · cases eb
      unfold Rep at r1 r2
      exact .inr (.inr (.inr ⟨_, _, r1, r2, q⟩))
    · cases eb
  · cases eb⟩
theorem opd_notIn : OpD G L notInD (compareOp .NotIn) := fun X hX => ⟨_, (op_notInD (u65 hX)).or ((op_notInT (u65 hX)).or ((op_notInDict (by have := u65 hX; omega)).or op_notin_str)), fun F H d1 d2 d v1 v2 Q s r1 r2 e q => by
  obtain ⟨b, eb, rfl⟩ := Option.map_eq_some_iff.mp e
  have q := q _ _ _ (.refl s) rep_b
  rw [hX.hK]
  unfold memD at eb
  split at eb
  · obtain ⟨i, ei, rfl⟩ := Option.map_eq_some_iff.mp eb
    obtain ⟨a, o, rfl, g, ho⟩ := dget_of s ei r1 r2
    exact .inr (.inr (.inl ⟨a, o, rfl, g, by rw [← ho] at q; exact q⟩))
  · obtain ⟨ks, ei, rfl⟩ := Option.map_eq_some_iff.mp eb
    split at ei
    · obtain ⟨a, o, rfl, g, ho⟩ := dgetT_of s ei r1 r2
      exact .inr (.inr (.inl ⟨a, o, rfl, g, by rw [← ho] at q; exact q⟩))
    · cases ei
  · split at eb
    · rename_i ds h
      cases eb
      rw [Bool.and_eq_true] at h
      obtain ⟨p1, q1⟩ := okD_iff h.1
      obtain ⟨p2, q2⟩ := okD_iff h.2
      have e2 : toPy (.lst ds) = .list (toPys ds) := by rw [toPy]
      exact .inl ⟨toPy d1, toPys ds, dp_of s _ _ p1 r1, e2 ▸ dp_of s _ _ p2 r2, shaped_of p1 q1, e2 ▸ shaped_of p2 q2, by rw [any_py]; exact q⟩
    · cases eb
  · split at eb
    · rename_i ds h
      cases eb
      rw [Bool.and_eq_true] at h
      obtain ⟨p1, q1⟩ := okD_iff h.1
      obtain ⟨p2, q2⟩ := okD_iff h.2
      have e2 : toPy (.tup ds) = .tuple (toPys ds) := by rw [toPy]
      exact .inr (.inl ⟨toPy d1, toPys ds, dp_of s _ _ p1 r1, e2 ▸ dp_of s _ _ p2 r2, shaped_of p1 q1, e2 ▸ shaped_of p2 q2, by rw [any_py]; exact q⟩)
    · cases eb
  · split at eb
    · cases eb
      unfold Rep at r1 r2
      exact .inr (.inr (.inr ⟨_, _, r1, r2, q⟩))
    · cases eb
  · cases eb⟩
end
end DL
set_option autoImplicit false
set_option maxRecDepth 100000
set_option maxHeartbeats 4000000
namespace DL
open PySem PySem.Spec PySem.SeqAt PyProof.Rows L2

/-! ### isinstance(x, T), T a built-in type -/
def isIntD : D → Bool
  | .int _ => true | .bl _ => true | _ => false
def isBlD : D → Bool
  | .bl _ => true | _ => false
def isStrD : D → Bool
  | .str _ => true | _ => false
def isTupD : D → Bool
  | .tup _ => true | _ => false
def isLstD : D → Bool
  | .lst _ => true | .scr _ => true | _ => false
def isiG (f : D → Bool) (d : D) : Option D := match d with
  | .rg _ _ => none
  | .dT _ => none
  | d => some (.bl (f d))
def tyN : D → String
  | .non => "NoneType" | .bl _ => "bool" | .int _ => "int" | .str _ => "str" | .tup _ => "tuple" | .lst _ => "list" | .scr _ => "list" | .dI _ => "dict" | .dT _ => "dict" | .rg _ _ => "range"
def isRg : D → Bool
  | .rg _ _ => true | _ => false
def IsiOk (T : String) (f : D → Bool) : Prop := ∀ d : D, isRg d = false → kitB (tyN d) T = some (f d)
theorem isi_int : IsiOk "int" isIntD := fun d h => by cases d <;> first | (simp only [tyN, isIntD]; decide +kernel) | cases h
theorem isi_bool : IsiOk "bool" isBlD := fun d h => by cases d <;> first | (simp only [tyN, isBlD]; decide +kernel) | cases h
theorem isi_str : IsiOk "str" isStrD := fun d h => by cases d <;> first | (simp only [tyN, isStrD]; decide +kernel) | cases h
theorem isi_tuple : IsiOk "tuple" isTupD := fun d h => by cases d <;> first | (simp only [tyN, isTupD]; decide +kernel) | cases h
theorem isi_list : IsiOk "list" isLstD := fun d h => by cases d <;> first | (simp only [tyN, isLstD]; decide +kernel) | cases h
theorem tyX_of {K : PySem.W.Frag} {F H : Hp} (s : Sub F H) {d : D} {v : V} {f : D → Bool} {r : D} (h : isiG f d = some r) (rv : Rep K F d v) : TyX K H v (.type (tyN d)) := by
  cases d <;> unfold Rep at rv
  case non => subst rv; exact .base .non
  case bl => subst rv; exact .base (.bl _)
  case int => subst rv; exact .base (.int _)
  case str => subst rv; exact .base (.str _)
  case tup => obtain ⟨a, vs, rfl, h1, _⟩ := rv; exact .base (.tup (s.tup h1))
  case lst =>
    obtain ⟨a, vs, rfl, h1, _⟩ := rv
    rcases s.rd h1 with e | ⟨o, e⟩
    · exact .base (.lst e)
    · exact .base (.frz e)
  case dI =>
    obtain ⟨a, vs, rfl, h1, _⟩ := rv
    rcases s.rd h1 with e | ⟨o, e⟩
    · exact .base (.dK e)
    · exact .fDict e
  case dT => cases h
  case rg => cases h
  case scr =>
    obtain ⟨a, rfl, h1⟩ := rv
    rcases h1 with h1 | ⟨o, its, n, e, c, _⟩
    · rcases s.rd h1 with e | ⟨o, e⟩
      · exact .base (.lst e)
      · exact .base (.frz e)
    · exact .kList e c
section
variable {G : GX} {L : LX} {ρ : List Sl} {e a b c : Expr} {es : List Expr} {m ma mb mc : Option D} {ms : Option (List D)} {pos p p1 p2 : Pos} {x : Str}
theorem e_isi {f : D → Bool} {T : Str} {tn : String} (hT : IsiOk tn f) (hv : bootBuiltins T = some (.type tn)) (hm : G.mg "isinstance" = none) (hmT : G.mg T = none) (h : EOk G L ρ e m) (hg : GlS L "isinstance" := by rfl) (hgT : GlS L T := by rfl)
    (hn : T ≠ "__name__" := by decide) (hdb : (T == ("__debug__" : Str)) = false := by decide)
    (he : ∀ env, starEach [e, .Name T p1] env = (false, eval e env) :: starEach [.Name T p1] env := by intro _; rfl) : EOk G L ρ (.Call (.Name "isinstance" p) [e, .Name T p1] [] pos) (m.bind (isiG f)) := fun X hX =>
  wkE (pe_callB (call_isi (X := X)) (gl_of hX hg) (by rw [hX.hm]; exact hm) PyProof.Rows.boot_isinstance (pa_cons (h X hX) (pa_cons (pe_bltn (v := .ty tn) (u := .type tn) (gl_of hX hgT) (by rw [hX.hm]; exact hmT) hv rfl hn hdb) pa_nil) (he _))
    (by decide) (by decide) (he _) rfl) fun σ H Q ⟨F, d, em, vr, q⟩ => by
    obtain ⟨y, ey, em⟩ := Option.bind_eq_some_iff.mp em
    refine ⟨F, y, ey, vr, fun v F' H' x r => ?_⟩
    rw [hX.hK]
    have hq : ∀ r', isiG f y = some r' → r' = .bl (f y) ∧ kitB (tyN y) tn = some (f y) := fun r' h' => by
      have hh := hT y
      cases y <;> first | (cases h'; exact ⟨rfl, hh rfl⟩) | cases h'
    obtain ⟨rfl, hk⟩ := hq _ em
    exact ⟨v, .ty tn, .type (tyN y), .type tn, f y, rfl, .ty tn, tyX_of x.sub em r, kit_ty hk, q _ F' H' x rep_b⟩

/-! ### lists: times an int, one behind the other -/
def rRepR (K : PySem.W.Frag) : R2 := fun x y H Q => ∃ l k xs, x = .ref l ∧ y = .int k ∧ H l = some (.lst xs) ∧ -(2 ^ 63) ≤ k ∧ k < 2 ^ 63 ∧ xs.length * k.toNat ≤ sizeLine ∧ ∀ p, H p = none → Q (.ref p) (upd H p (.lst (List.replicate k.toNat xs).flatten))
def repD (x y : D) : Option D := match x, y with
  | .lst xs, .int k => if -(2 ^ 63) ≤ k ∧ k < 2 ^ 63 ∧ xs.length * k.toNat ≤ 16777216 then some (.lst (List.replicate k.toNat xs).flatten) else none
  | _, _ => none
/-- [a, ..] * n -/
theorem f_rep (ha : AOk G L ρ es ms) (hb : EOk G L ρ b mb) : FOk G L ρ (.BinOp (.List es p1) .Mult b pos) (E2 repD (ms.bind lstD) mb) := fun X hX =>
  wkE (pe_op op_rep (f_lst (pos := p1) ha X hX) (hb X hX)) fun σ H Q ⟨F, d, em, vr, q⟩ => by
    obtain ⟨x, y, ex, ey, em⟩ := E2_some em
    refine ⟨F, x, ex, vr, fun p1 o F1 H1 x1 n1 ho ow hF => ⟨F1, y, ey, vr.ext x1, fun v2 F2 H2 x2 r2 => ?_⟩⟩
    unfold repD at em
    split at em
    · split at em
      · rename_i xs k h
        cases em
        obtain ⟨vs, rfl, rv⟩ := ow
        unfold Rep at r2
        refine ⟨p1, k, vs, rfl, r2, x2.heap _ _ ho, h.1, h.2.1, by rw [← rv.len]; exact sz h.2.2, fun p' hp => ?_⟩
        have xx := x1.trans x2
        exact q p' _ F2 _ (xx.trans (.own xx.sub hp)) (xx.heap.free hp) upd_same ⟨_, rfl, (Reps.mono x2.froz _ _ rv).rep _⟩ (xx.sub.none hp)
      · cases em
    · cases em
def catD (x y : D) : Option D := match x, y with
  | .lst xs, .lst ys => if xs.length + ys.length ≤ 16777216 then some (.lst (xs ++ ys)) else none
  | _, _ => none
/-- xs + ys, a new list -/
theorem f_cat (ha : EOk G L ρ a ma) (hb : EOk G L ρ b mb) : FOk G L ρ (.BinOp a .Add b pos) (E2 catD ma mb) := fun X hX =>
  wkE (pe_op op_catL (ha X hX) (hb X hX)) fun σ H Q ⟨F, d, em, vr, q⟩ => by
    obtain ⟨x, y, ex, ey, em⟩ := E2_some em
    refine ⟨F, x, ex, vr, fun v1 F1 H1 x1 r1 => ⟨F1, y, ey, vr.ext x1, fun v2 F2 H2 x2 r2 => ?_⟩⟩
    unfold catD at em
    split at em
    · split at em
      · rename_i xs ys h
        cases em
        have r1' := Rep.mono x2.froz _ _ r1
        unfold Rep at r1' r2
        obtain ⟨a, vs, rfl, h1, q1⟩ := r1'
        obtain ⟨b, ws, rfl, h2, q2⟩ := r2
        refine ⟨a, b, vs, ws, rfl, rfl, x2.sub.rd h1, x2.sub.rd h2, by rw [← q1.len, ← q2.len]; exact sz h, fun p' hp => ?_⟩
        have xx := x1.trans x2
        exact q p' _ F2 _ (xx.trans (.own xx.sub hp)) (xx.heap.free hp) upd_same ⟨_, rfl, q1.append q2⟩ (xx.sub.none hp)
      · cases em
    · cases em
/-- xs[lo:hi], a new list -/
theorem f_sl {lo hi : Option Expr} {nl nh : Option (Option Int)} (ha : EOk G L ρ a ma) (hl : OOk G L ρ lo nl) (hh : OOk G L ρ hi nh) :
    FOk G L ρ (.Subscript a (.Slice lo hi none p2) pos) (SL (ma.bind fun d => match d with | .lst xs => some (.lst xs) | _ => none) nl nh) := fun X hX =>
  wkE (pe_slice sl_list (ha X hX) (hl X hX) (hh X hX)) fun σ H Q ⟨F, d, em, vr, q⟩ => by
    obtain ⟨y, ey, em⟩ := Option.bind_eq_some_iff.mp em
    obtain ⟨l, el, em⟩ := Option.bind_eq_some_iff.mp em
    obtain ⟨h, eh, em⟩ := Option.bind_eq_some_iff.mp em
    obtain ⟨y', ey', ey⟩ := Option.bind_eq_some_iff.mp ey
    refine ⟨F, y', ey', vr, fun v F1 H1 x1 r1 => ⟨F1, l, el, vr.ext x1, fun F2 H2 x2 => ⟨F2, h, eh, vr.ext (x1.trans x2), fun F3 H3 x3 => ?_⟩⟩⟩
    rw [hX.hK]
    have xx := (x1.trans x2).trans x3
    have r3 := Rep.mono (x2.trans x3).froz _ _ r1
    split at ey
    · cases ey
      cases em
      unfold Rep at r3
      obtain ⟨p, vs, rfl, h1, q1⟩ := r3
      exact ⟨p, vs, rfl, lst_sq h1 xx.sub, fun p' hp => q p' _ F3 _ (xx.trans (.own xx.sub hp)) (xx.heap.free hp) upd_same ⟨_, rfl, q1.cut l h⟩ (xx.sub.none hp)⟩
    · cases ey

/-! ### sorted, min, max of lists of ints -/
def isort (ns : List Int) : List Int := ns.mergeSort fun a b => decide (a ≤ b)
theorem isort_perm (ns : List Int) : (isort ns).Perm ns := List.mergeSort_perm _ _
theorem isort_sorted (ns : List Int) : (isort ns).Pairwise (· ≤ ·) := by
  have := List.pairwise_mergeSort (le := fun a b : Int => decide (a ≤ b)) (fun a b c h1 h2 => by simp at *; omega) (fun a b => by simp; omega) ns
  exact this.imp fun h => by simpa using h
theorem sorted_unique : ∀ {l m : List Int}, l.Perm m → l.Pairwise (· ≤ ·) → m.Pairwise (· ≤ ·) → l = m := fun {l m} p hl hm => List.Perm.eq_of_pairwise (le := (· ≤ ·)) (fun a b _ _ h1 h2 => by omega) hl hm p
end
end DL
namespace DL
open PySem PySem.Spec PySem.SeqAt PyProof.Rows L2
open PySem.W (dataLt alike EachIs AllAlike Sortable dataLe)
/-! ### sorted, of data that are alike -/
theorem each_zip {R : Value → V × D → Prop} : ∀ {xs : List V} {us : List Value} {ds : List D}, Vals xs us → xs.length = ds.length → (∀ x u d, RelV x u → (x, d) ∈ xs.zip ds → R u (x, d)) → EachIs R us (xs.zip ds)
  | [], us, ds, r, _, _ => by
    cases r
    cases ds <;> exact .nil
  | x :: xs, us, ds, r, hl, h => by
    cases r with
    | cons r1 r2 =>
      cases ds with
      | nil => simp at hl
      | cons d ds => exact .cons (h _ _ _ r1 (by simp)) (each_zip r2 (by simpa using hl) fun x u d rx hm => h x u d rx (by simp [hm]))
theorem vals_of_each {R : Value → V × D → Prop} (hR : ∀ u p, R u p → RelV p.1 u) : ∀ {us : List Value} {ps : List (V × D)}, EachIs R us ps → Vals (ps.map (·.1)) us
  | _, _, .nil => .nil
  | _, _, .cons h t => .cons (hR _ _ h) (vals_of_each hR t)
def rSortedDt (K : PySem.W.Frag) (u : Nat) : List V → Hp → VK → Prop := fun vs H Q => ∃ (a : Addr) (xs : List V) (ds : List D), vs = [V.ref a] ∧ SqL K H a xs ∧ xs.length = ds.length ∧ (∀ p ∈ xs.zip ds, Dp K H p.1 (toPy p.2)) ∧ AllAlike (ds.map toPy) ∧ Sortable (ds.map toPy) ∧ (∀ d ∈ ds, u + 2 + (toPy d).depth < cLine) ∧
  ∀ p, H p = none → Q (.ref p) (upd H p (.lst (((xs.zip ds).mergeSort (dataLe false fun p => toPy p.2)).map (·.1))))
theorem zip_snd {xs : List V} {ds : List D} (hl : xs.length = ds.length) : (xs.zip ds).map (fun p => toPy p.2) = ds.map toPy := by
  have : (xs.zip ds).map Prod.snd = ds := List.map_snd_zip (by omega)
  have h2 := congrArg (List.map toPy) this
  rw [List.map_map] at h2
  exact h2
theorem cr_sortedDt {X : Cx} : CallR X (.builtin "sorted") (rSortedDt X.K X.A.units) := by
  intro pins s σ H vs us Q I r h
  obtain ⟨a, xs, ds, rfl, hs, hlen, hd, hal, hso, hu, q⟩ := h
  obtain ⟨its, rv, hl, hz⟩ := I.list hs
  rw [Vals.ref1 r]
  have hzl : (xs.zip ds).length = xs.length := by rw [List.length_zip, hlen, Nat.min_self]
  refine PySem.W.sorted_data (β := V × D) (enc := fun p => toPy p.2) (R := fun u p => RelV p.1 u) hl.isList (each_zip rv hlen fun x u d rx _ => rx) (each_zip rv hlen fun x u d rx hm => Dp.reads I _ _ _ (hd (x, d) hm) rx)
    (by rw [zip_snd hlen]; exact hal) (by rw [zip_snd hlen]; exact hso) (by rw [hzl]; exact hz) (fun p hp => hu _ (List.of_mem_zip hp).2) fun out hol he => ?_
  obtain ⟨ep, he'⟩ := PyProof.Rows.sortedAll_at s.heap its out.toArray
  have hv := vals_of_each (fun _ _ h => h) he
  have hlen2 : (((xs.zip ds).mergeSort (dataLe false fun p => toPy p.2)).map (·.1)).length ≤ sizeLine := by
    rw [List.length_map, List.length_mergeSort, hzl]; exact hz
  exact ⟨.ref _, upd H (s.heap.objs.size + 1) (.lst (((xs.zip ds).mergeSort (dataLe false fun p => toPy p.2)).map (·.1))), I.laid (t' := s.toks) (fun _ _ => PyProof.Rows.sortedAll_old) (Nat.le_succ _) ⟨hlen2, out, ep, hv, he'⟩, rfl, q _ (I.hok.fresh (Nat.le_succ _))⟩
/-- by the order of data -/
def sortT (ds : List D) : List D := ds.mergeSort fun a b => !dlt b a
def allAlike (ds : List D) : Bool := ds.all fun a => ds.all fun b => alike (toPy a) (toPy b)
def sortable (ds : List D) : Bool := (ds.all fun d => match d with | .tup (_ :: _) => true | _ => false) || ds.all fun d => match d with | .tup _ => false | .non => false | .int _ => true | .bl _ => true | .str _ => true | .lst _ => true | _ => false
def sortTD (ds : List D) : Option D := if ds.all okD && allAlike ds && sortable ds then some (.lst (sortT ds)) else none
theorem alike_of {ds : List D} (h : allAlike ds = true) : AllAlike (ds.map toPy) := by
  intro x hx y hy
  obtain ⟨a, ha, rfl⟩ := List.mem_map.mp hx
  obtain ⟨b, hb, rfl⟩ := List.mem_map.mp hy
  exact List.all_eq_true.mp (List.all_eq_true.mp h a ha) b hb
theorem sortable_of {ds : List D} (h : sortable ds = true) : Sortable (ds.map toPy) := by
  unfold sortable at h
  rw [Bool.or_eq_true] at h
  rcases h with h | h
  · refine .inl fun x hx => ?_
    obtain ⟨d, hd, rfl⟩ := List.mem_map.mp hx
    have := List.all_eq_true.mp h d hd
    split at this
    · rename_i e es
      exact ⟨toPy e, toPys es, by simp [toPy, toPys]⟩
    · cases this
  · refine .inr fun x hx => ?_
    obtain ⟨d, hd, rfl⟩ := List.mem_map.mp hx
    have := List.all_eq_true.mp h d hd
    cases d <;> simp at this <;> exact ⟨by simp [toPy], by simp [toPy]⟩
theorem reps_zip {K : PySem.W.Frag} {F : Hp} : ∀ {ps : List (V × D)}, (∀ p ∈ ps, Rep K F p.2 p.1) → Reps K F (ps.map (·.2)) (ps.map (·.1))
  | [], _ => .nil
  | p :: ps, h => .cons (h p List.mem_cons_self) (reps_zip fun q hq => h q (List.mem_cons_of_mem _ hq))
theorem zip_reps {K : PySem.W.Frag} {F : Hp} : ∀ {ds : List D} {vs : List V}, Reps K F ds vs → ∀ p ∈ vs.zip ds, Rep K F p.2 p.1
  | [], vs, r, p, h => by simp at h
  | d :: ds, vs, r, p, h => by
    obtain ⟨v, q, rfl, r1, r2⟩ := r.inv
    simp at h
    rcases h with rfl | h
    · exact r1
    · exact zip_reps r2 p h
def sortLD : List D → Option D
  | [.lst ds] => sortTD ds
  | _ => none
theorem cf_sortedT {G : GX} {L : LX} : CallF G L sortLD (.builtin "sorted") := fun X hX => ⟨_, cr_sortedDt, fun F H ds vs d Q s r e q => by
  rw [hX.hK]
  unfold sortLD at e
  split at e
  · rename_i xs
    unfold sortTD at e
    split at e
    · rename_i hc
      cases e
      rw [Bool.and_eq_true, Bool.and_eq_true] at hc
      obtain ⟨⟨hok, hal⟩, hso⟩ := hc
      obtain ⟨v, rfl, h⟩ := r.one
      unfold Rep at h
      obtain ⟨p, us, rfl, h1, q1⟩ := h
      have hlen : us.length = xs.length := q1.len.symm
      have hz := zip_reps q1
      have hsnd : (us.zip xs).map Prod.snd = xs := List.map_snd_zip (by omega)
      refine ⟨p, us, xs, rfl, lst_sq h1 s, hlen, fun y hy => ?_, alike_of hal, sortable_of hso, fun d hd => ?_, fun p' hp => ?_⟩
      · have := okD_iff (List.all_eq_true.mp hok y.2 (List.of_mem_zip hy).2)
        exact dp_of s _ _ this.1 (hz y hy)
      · have h2 := okD_iff (List.all_eq_true.mp hok d hd)
        have := (plain_py d h2.1).2
        have := hX.room.units
        omega
      · have e1 : ((us.zip xs).mergeSort (dataLe false fun p => toPy p.2)).map (·.2) = sortT xs := by
          refine (List.map_mergeSort (r := dataLe false fun p : V × D => toPy p.2) (s := fun a b => !dlt b a) (f := Prod.snd) (l := us.zip xs) (fun a _ b _ => rfl)).trans ?_
          rw [hsnd]; rfl
        refine q p' _ F _ (.own s hp) hp upd_same ⟨_, rfl, ?_⟩ (s.none hp)
        rw [← e1]
        exact reps_zip fun y hy => hz y (List.mem_mergeSort.mp hy)
    · cases e
  · cases e⟩
end DL
namespace DL
open PySem PySem.Spec PySem.SeqAt PyProof.Rows L2
section
variable {G : GX} {L : LX} {ρ : List Sl} {e a b c : Expr} {es : List Expr} {m ma mb mc : Option D} {ms : Option (List D)} {pos p p1 p2 : Pos} {x : Str}
/-- sorted(d), d a dict with ints as its keys -/
theorem cr_sortedK {X : Cx} (hcalm : X.calm = true) : CallR X (.builtin "sorted") (fun xs H Q => ∃ (a : Addr) (kvs : List (Key × V)) (ks : List Int), xs = [.ref a] ∧ Rd H a (.dK kvs) ∧ kvs.map (·.1) = ks.map Sum.inl ∧
    ∀ (ys : List Int) (p : Addr), ys.Perm ks → ys.Pairwise (· ≤ ·) → H p = none → Q (.ref p) (upd H p (.lst (ys.map V.int)))) := by
  intro pins s σ H xs us Q I r q
  obtain ⟨a, kvs, ks, rfl, hd, hks, q⟩ := q
  rw [Vals.ref1 r]
  obtain ⟨z, lo, vs, rel, dd⟩ := dk_rd I.hok hd
  obtain ⟨ep, hat⟩ := dd.dictAt
  have hkeys : vs.map (·.1) = ks.map Sum.inl := rel.keys.symm.trans hks
  have hl : vs.length = ks.length := by simpa using congrArg List.length hkeys
  have h16 : vs.length ≤ sizeLine := by rw [← rel.length]; exact z
  refine Calls.call_function_entry PyProof.Rows.kind_sorted PyProof.Rows.plain_sorted PyProof.Rows.entry_sorted (PyProof.Rows.args_sorted1 _) ?_
  unfold Builtin.«sorted»
  refine wpAny_bind (m := checkCount "sorted" 1 1 _) (wpAny_pure ?_)
  refine wpAny_bind (PySem.W.kdu_collect (A := X.A.in1) (PySem.W.kdl_dict (knd := mixKind X.prog X.w) (kvs := vs) (ep := ep) lo) (I.ok.hd hcalm) hat h16 fun h' tk acc hk hacc => ?_)
  have hal : acc.toList.length = vs.length := by rw [Array.length_toList, hacc.1]
  have rv : Vals (vs.map fun p => kV p.1) acc.toList := L2.keys_at hal fun j v e => by
    obtain ⟨k, x, e1, e2⟩ := hacc.2 j v (by rw [← Array.getElem?_toList]; exact e)
    exact ⟨k, x, e1, e2⟩
  have ev : (vs.map fun p => kV p.1) = ks.map V.int := by
    have e1 : (vs.map fun p => kV p.1) = (vs.map (·.1)).map kV := by rw [List.map_map]; rfl
    rw [e1, hkeys, List.map_map]; rfl
  rw [ev] at rv
  have hi := rv.ints
  have I1 : Inv X pins σ H { s with heap := h', toks := tk } := I.kept hk
  refine wpAny_bind (wpAny_newList ?_ (by rw [hal]; exact h16))
  have hoL : (h'.push (seqObj "list" acc.toList.toArray 0)).get? h'.objs.size = some (seqObj "list" acc.toList.toArray 0) := Heap.get?_push_size _ rfl
  show wpAny _ _ _ _ _ { s with heap := h'.push (seqObj "list" acc.toList.toArray 0), toks := tk }
  refine wpAny_bind (wpAny_holding (wpAny_call_entry PyProof.Rows.slot_list_sort ⟨_, hoL, rfl⟩ PyProof.Rows.entry_list_sort
    (SrtO.list_sort_ord SrtO.swo_int (s := { s with heap := h'.push (seqObj "list" acc.toList.toArray 0), toks := tk }) hoL (by rw [hal]; exact h16) (fun h2 => SrtO.ints_sortable hi h2) fun out h1 h2 => ⟨_, rfl, ?_⟩) (PyProof.Rows.args_list_sort _)))
  obtain ⟨k1, k2, k3⟩ := SrtO.ints_out hi h1 h2
  obtain ⟨e', he'⟩ := PyProof.Rows.sortedHeap_at (vs := acc.toList) (out := out.toArray) hoL
  have hlen : ((out.map SrtO.iv).map V.int).length ≤ sizeLine := by
    rw [List.length_map, k2.length_eq, ← hl]; exact h16
  refine wpAny_pure ⟨_, rfl, .ref h'.objs.size, upd H h'.objs.size (.lst ((out.map SrtO.iv).map V.int)), I1.laid (t' := tk) (fun b u e => ?_) (Nat.le_refl _)
    (show ObjOk X.prog X.w _ _ _ (.lst ((out.map SrtO.iv).map V.int)) from ⟨hlen, out, e', vals_of_ints k1, he'⟩), rfl, q _ _ k2 k3 (I1.hok.fresh (Nat.le_refl _))⟩
  have hb : b < h'.objs.size := Heap.lt_size e
  rw [PyProof.Rows.sortedHeap_old (Nat.ne_of_lt hb) (by rw [size_push']; exact Nat.lt_succ_of_lt hb)]
  exact Heap.get?_push_of_some _ e
theorem repI_keys {K : PySem.W.Frag} {F : Hp} : ∀ {kvs : List (Int × D)} {ws : List (Key × V)}, RepI K F kvs ws → ws.map (·.1) = (kvs.map (·.1)).map Sum.inl
  | [], ws, r => by unfold RepI at r; subst r; rfl
  | (j, d) :: kvs, ws, r => by
    unfold RepI at r
    obtain ⟨v, q, rfl, r1, r2⟩ := r
    simp only [List.map_cons, repI_keys r2]
def sortedD : List D → Option D
  | [.lst xs] => match intsOf xs with
    | some ns => some (.lst ((isort ns).map .int))
    | none => sortTD xs
  | [.dI kvs] => some (.lst ((isort (kvs.map (·.1))).map .int))
  | _ => none
theorem cf_sorted : CallF G L sortedD (.builtin "sorted") := fun X hX => by
  obtain ⟨r2, c2, h2⟩ := cf_sortedT (G := G) (L := L) X hX
  refine ⟨_, cr_sortedI.or (c2.or (cr_sortedK hX.calm)), fun F H ds vs d Q s r e q => ?_⟩
  unfold sortedD at e
  split at e
  · rename_i xs
    cases hn : intsOf xs with
    | none =>
      rw [hn] at e
      exact .inr (.inl (h2 F H _ vs d Q s r e q))
    | some ns =>
      rw [hn] at e
      cases e
      left
      rw [hX.hK]
      obtain ⟨v, rfl, h⟩ := r.one
      unfold Rep at h
      obtain ⟨p, vs, rfl, h1, q1⟩ := h
      rw [intsOf_eq hn] at q1
      have := q1.ints
      subst this
      refine ⟨p, ns, rfl, lst_sq h1 s, fun ns' p' hp hs hn' => ?_⟩
      have : ns' = isort ns := sorted_unique (hp.trans (isort_perm ns).symm) hs (isort_sorted ns)
      subst this
      exact q p' _ _ _ (.own s hn') hn' upd_same ⟨_, rfl, Reps.ofInts _⟩ (s.none hn')
  · rename_i kvs
    cases e
    refine .inr (.inr ?_)
    obtain ⟨v, rfl, h⟩ := r.one
    unfold Rep at h
    obtain ⟨p, ws, rfl, h1, q1⟩ := h
    refine ⟨p, ws, kvs.map (·.1), rfl, s.rd h1, repI_keys q1, fun ys p' hp hs hn' => ?_⟩
    have : ys = isort (kvs.map (·.1)) := sorted_unique (hp.trans (isort_perm _).symm) hs (isort_sorted _)
    subst this
    exact q p' _ _ _ (.own s hn') hn' upd_same ⟨_, rfl, Reps.ofInts _⟩ (s.none hn')
  · cases e
def lmax : Int → List Int → Int
  | m, [] => m
  | m, n :: ns => lmax (if n > m then n else m) ns
def lmin : Int → List Int → Int
  | m, [] => m
  | m, n :: ns => lmin (if n < m then n else m) ns
theorem lmax_spec : ∀ (ns : List Int) (m : Int), lmax m ns ∈ m :: ns ∧ ∀ y ∈ m :: ns, y ≤ lmax m ns
  | [], m => by simp [lmax]
  | n :: ns, m => by
    obtain ⟨h1, h2⟩ := lmax_spec ns (if n > m then n else m)
    unfold lmax
    constructor
    · rcases List.mem_cons.mp h1 with e | e
      · rw [e]; split <;> simp
      · simp [e]
    · intro y hy
      have h3 := h2 _ List.mem_cons_self
      simp only [List.mem_cons] at hy
      rcases hy with rfl | rfl | hy
      · split at h3 <;> split <;> omega
      · split at h3 <;> split <;> omega
      · exact h2 y (List.mem_cons_of_mem _ hy)
theorem lmin_spec : ∀ (ns : List Int) (m : Int), lmin m ns ∈ m :: ns ∧ ∀ y ∈ m :: ns, lmin m ns ≤ y
  | [], m => by simp [lmin]
  | n :: ns, m => by
    obtain ⟨h1, h2⟩ := lmin_spec ns (if n < m then n else m)
    unfold lmin
    constructor
    · rcases List.mem_cons.mp h1 with e | e
      · rw [e]; split <;> simp
      · simp [e]
    · intro y hy
      have h3 := h2 _ List.mem_cons_self
      simp only [List.mem_cons] at hy
      rcases hy with rfl | rfl | hy
      · split at h3 <;> split <;> omega
      · split at h3 <;> split <;> omega
      · exact h2 y (List.mem_cons_of_mem _ hy)
def maxLD : List D → Option D
  | [.lst xs] => (intsOf xs).bind fun ns => match ns with
    | [] => none
    | n :: ns => some (.int (lmax n ns))
  | _ => none
def minLD : List D → Option D
  | [.lst xs] => (intsOf xs).bind fun ns => match ns with
    | [] => none
    | n :: ns => some (.int (lmin n ns))
  | _ => none
theorem cd_maxL : CallD G L maxLD (.builtin "max") := fun X hX => ⟨_, cr_max hX.calm, fun F H ds vs d Q s r e q => by
  rw [hX.hK]
  unfold maxLD at e
  split at e
  · obtain ⟨ns, hn, e⟩ := Option.bind_eq_some_iff.mp e
    cases ns with
    | nil => cases e
    | cons n ns =>
      cases e
      obtain ⟨v, rfl, h⟩ := r.one
      unfold Rep at h
      obtain ⟨p, vs, rfl, h1, q1⟩ := h
      rw [intsOf_eq hn] at q1
      have := q1.ints
      subst this
      refine ⟨p, _, rfl, lst_sq h1 s, by simp, fun m hm hle => ?_⟩
      obtain ⟨k1, k2⟩ := lmax_spec ns n
      have : m = lmax n ns := by have := k2 m hm; have := hle _ k1; omega
      subst this
      exact q _ _ _ (.refl s) rep_i
  · cases e⟩
theorem cd_minL : CallD G L minLD (.builtin "min") := fun X hX => ⟨_, cr_min hX.calm, fun F H ds vs d Q s r e q => by
  rw [hX.hK]
  unfold minLD at e
  split at e
  · obtain ⟨ns, hn, e⟩ := Option.bind_eq_some_iff.mp e
    cases ns with
    | nil => cases e
    | cons n ns =>
      cases e
      obtain ⟨v, rfl, h⟩ := r.one
      unfold Rep at h
      obtain ⟨p, vs, rfl, h1, q1⟩ := h
      rw [intsOf_eq hn] at q1
      have := q1.ints
      subst this
      refine ⟨p, _, rfl, lst_sq h1 s, by simp, fun m hm hle => ?_⟩
      obtain ⟨k1, k2⟩ := lmin_spec ns n
      have : m = lmin n ns := by have := k2 m hm; have := hle _ k1; omega
      subst this
      exact q _ _ _ (.refl s) rep_i
  · cases e⟩
end
end DL
set_option autoImplicit false
set_option maxRecDepth 100000
set_option maxHeartbeats 4000000
namespace DL
open PySem PySem.Spec PySem.SeqAt PyProof.Rows L2
def iteO {R : Type} (nc : Option Bool) (A B : Option R) : Option R := nc.bind fun b => if b = true then A else B
section
variable {R S : Type} {G : GX} {L : LX} {ρ : List Sl} {v : S → List Sl} {body rest A Bs : List Stmt} {k kA : KS R} {tg iter c : Expr} {pos : Pos} {g : TGD} {mi : Option (List D)} {s0 : S} {M : S → Option R} {nc : Option Bool}
theorem c_if (hc : TOk G L ρ c nc) {MA MB : Option R} (hA : BOk G L ρ A kA MA) (hB : BOk G L ρ rest k MB) (hk : ∀ r B F0 D nx, k r B F0 D → kA r B F0 { D with nx := nx }) : BOk G L ρ (.If c A [] pos :: rest) k (iteO nc MA MB) := b_if hc hA hB hk
theorem c_ife (hc : TOk G L ρ c nc) {MA MB : Option R} (hA : BOk G L ρ A k MA) (hB : BOk G L ρ Bs k MB) : BOk G L ρ [.If c A Bs pos] k (iteO nc MA MB) := b_ife hc hA hB
theorem c_ifp {α : Type} {u : α → List Sl} {M : α → Option R} (hc : TOk G L ρ c nc) {MA MB : Option α} (hA : BOk G L ρ A (kP G.K u) MA) (hB : BOk G L ρ Bs (kP G.K u) MB) (hr : ∀ a, BOk G L (u a) rest k (M a)) :
    BOk G L ρ (.If c A Bs pos :: rest) k ((iteO nc MA MB).bind M) := b_ifp hc hA hB hr
theorem c_ifj {α : Type} {u : α → List Sl} {M : α → Option R} (hc : TOk G L ρ c nc) {MA MB : Option (Rs α R)} (hA : BOk G L ρ A (kJ G.K u kA) MA) (hB : BOk G L ρ Bs (kJ G.K u kA) MB) (hr : ∀ a, BOk G L (u a) rest k (M a))
    (hk : ∀ r B F0 D nx, k r B F0 D → kA r B F0 { D with nx := nx }) : BOk G L ρ (.If c A Bs pos :: rest) k (bindJ (iteO nc MA MB) M) := b_ifj hc hA hB hr hk
theorem c_forP1 {i : Nat} {Bd : S → D → Option (S)} (hi : IOk G L ρ tg iter mi) (hg : GOk G L tg (gN i)) (h0 : leS (v s0) ρ) (hb : ∀ s a, BOk G L (setS (v s) i (.val a)) body (kP G.K v) (Bd s a)) (hr : ∀ s, BOk G L (v s) rest k (M s)) (hs : ∀ env x, foldedSetIterable iter env x = pure x := by intro _ _; rfl) : BOk G L ρ (.For tg iter body [] pos :: rest) k ((mi.bind fun ds => forP Bd s0 ds).bind M) :=
  b_for hi hg h0 (fun s d h => nomatch h) (fun s d as e => by cases e; exact hb s d) hr hs
theorem c_forB1 {i : Nat} {Bd : S → D → Option (Lp S)} {f : D → R} (hk : IsRt G.K k f) (hi : IOk G L ρ tg iter mi) (hg : GOk G L tg (gN i)) (h0 : leS (v s0) ρ) (hb : ∀ s a, BOk G L (setS (v s) i (.val a)) body (kL G.K v) (Bd s a)) (hr : ∀ s, BOk G L (v s) rest k (M s)) (hs : ∀ env x, foldedSetIterable iter env x = pure x := by intro _ _; rfl) : BOk G L ρ (.For tg iter body [] pos :: rest) k ((mi.bind fun ds => forB Bd s0 ds).bind M) :=
  b_forB hk hi hg h0 (fun s d h => nomatch h) (fun s d as e => by cases e; exact hb s d) hr hs
theorem c_forR1 {i : Nat} {Bd : S → D → Option (Lp S)} {f : D → R} (hk : IsRt G.K k f) (hi : IOk G L ρ tg iter mi) (hg : GOk G L tg (gN i)) (h0 : leS (v s0) ρ) (hb : ∀ s a, BOk G L (setS (v s) i (.val a)) body (kL G.K v) (Bd s a)) (hr : ∀ s, BOk G L (v s) rest k (M s)) (hs : ∀ env x, foldedSetIterable iter env x = pure x := by intro _ _; rfl) : BOk G L ρ (.For tg iter body [] pos :: rest) k (bindR (mi.bind fun ds => forR Bd s0 ds) f M) :=
  b_forR hk hi hg h0 (fun s d h => nomatch h) (fun s d as e => by cases e; exact hb s d) hr hs
theorem c_forP2 {i j : Nat} {Bd : S → D → D → Option (S)} (hi : IOk G L ρ tg iter mi) (hg : GOk G L tg (gT [gN i, gN j])) (h0 : leS (v s0) ρ) (hb : ∀ s a b, BOk G L (setS (setS (v s) i (.val a)) j (.val b)) body (kP G.K v) (Bd s a b)) (hr : ∀ s, BOk G L (v s) rest k (M s)) (hs : ∀ env x, foldedSetIterable iter env x = pure x := by intro _ _; rfl) : BOk G L ρ (.For tg iter body [] pos :: rest) k ((mi.bind fun ds => forP (fun s => un2 (Bd s)) s0 ds).bind M) :=
  b_for hi hg h0 (fun s d h => by unfold un2; split <;> first | cases h | rfl) (fun s d as e => by obtain ⟨a, b, as1, as2, rfl, e1, e2, rfl⟩ := gT2_inv e; cases e1; cases e2; exact hb s a b) hr hs
theorem c_forB2 {i j : Nat} {Bd : S → D → D → Option (Lp S)} {f : D → R} (hk : IsRt G.K k f) (hi : IOk G L ρ tg iter mi) (hg : GOk G L tg (gT [gN i, gN j])) (h0 : leS (v s0) ρ) (hb : ∀ s a b, BOk G L (setS (setS (v s) i (.val a)) j (.val b)) body (kL G.K v) (Bd s a b)) (hr : ∀ s, BOk G L (v s) rest k (M s)) (hs : ∀ env x, foldedSetIterable iter env x = pure x := by intro _ _; rfl) : BOk G L ρ (.For tg iter body [] pos :: rest) k ((mi.bind fun ds => forB (fun s => un2 (Bd s)) s0 ds).bind M) :=
  b_forB hk hi hg h0 (fun s d h => by unfold un2; split <;> first | cases h | rfl) (fun s d as e => by obtain ⟨a, b, as1, as2, rfl, e1, e2, rfl⟩ := gT2_inv e; cases e1; cases e2; exact hb s a b) hr hs
theorem c_forR2 {i j : Nat} {Bd : S → D → D → Option (Lp S)} {f : D → R} (hk : IsRt G.K k f) (hi : IOk G L ρ tg iter mi) (hg : GOk G L tg (gT [gN i, gN j])) (h0 : leS (v s0) ρ) (hb : ∀ s a b, BOk G L (setS (setS (v s) i (.val a)) j (.val b)) body (kL G.K v) (Bd s a b)) (hr : ∀ s, BOk G L (v s) rest k (M s)) (hs : ∀ env x, foldedSetIterable iter env x = pure x := by intro _ _; rfl) : BOk G L ρ (.For tg iter body [] pos :: rest) k (bindR (mi.bind fun ds => forR (fun s => un2 (Bd s)) s0 ds) f M) :=
  b_forR hk hi hg h0 (fun s d h => by unfold un2; split <;> first | cases h | rfl) (fun s d as e => by obtain ⟨a, b, as1, as2, rfl, e1, e2, rfl⟩ := gT2_inv e; cases e1; cases e2; exact hb s a b) hr hs
theorem c_forP3 {i j l : Nat} {Bd : S → D → D → D → Option (S)} (hi : IOk G L ρ tg iter mi) (hg : GOk G L tg (gT [gN i, gN j, gN l])) (h0 : leS (v s0) ρ) (hb : ∀ s a b c, BOk G L (setS (setS (setS (v s) i (.val a)) j (.val b)) l (.val c)) body (kP G.K v) (Bd s a b c)) (hr : ∀ s, BOk G L (v s) rest k (M s)) (hs : ∀ env x, foldedSetIterable iter env x = pure x := by intro _ _; rfl) : BOk G L ρ (.For tg iter body [] pos :: rest) k ((mi.bind fun ds => forP (fun s => un3 (Bd s)) s0 ds).bind M) :=
  b_for hi hg h0 (fun s d h => by unfold un3; split <;> first | cases h | rfl) (fun s d as e => by obtain ⟨a, b, c, as1, as2, as3, rfl, e1, e2, e3, rfl⟩ := gT3_inv e; cases e1; cases e2; cases e3; exact hb s a b c) hr hs
theorem c_forB3 {i j l : Nat} {Bd : S → D → D → D → Option (Lp S)} {f : D → R} (hk : IsRt G.K k f) (hi : IOk G L ρ tg iter mi) (hg : GOk G L tg (gT [gN i, gN j, gN l])) (h0 : leS (v s0) ρ) (hb : ∀ s a b c, BOk G L (setS (setS (setS (v s) i (.val a)) j (.val b)) l (.val c)) body (kL G.K v) (Bd s a b c)) (hr : ∀ s, BOk G L (v s) rest k (M s)) (hs : ∀ env x, foldedSetIterable iter env x = pure x := by intro _ _; rfl) : BOk G L ρ (.For tg iter body [] pos :: rest) k ((mi.bind fun ds => forB (fun s => un3 (Bd s)) s0 ds).bind M) :=
  b_forB hk hi hg h0 (fun s d h => by unfold un3; split <;> first | cases h | rfl) (fun s d as e => by obtain ⟨a, b, c, as1, as2, as3, rfl, e1, e2, e3, rfl⟩ := gT3_inv e; cases e1; cases e2; cases e3; exact hb s a b c) hr hs
theorem c_forR3 {i j l : Nat} {Bd : S → D → D → D → Option (Lp S)} {f : D → R} (hk : IsRt G.K k f) (hi : IOk G L ρ tg iter mi) (hg : GOk G L tg (gT [gN i, gN j, gN l])) (h0 : leS (v s0) ρ) (hb : ∀ s a b c, BOk G L (setS (setS (setS (v s) i (.val a)) j (.val b)) l (.val c)) body (kL G.K v) (Bd s a b c)) (hr : ∀ s, BOk G L (v s) rest k (M s)) (hs : ∀ env x, foldedSetIterable iter env x = pure x := by intro _ _; rfl) : BOk G L ρ (.For tg iter body [] pos :: rest) k (bindR (mi.bind fun ds => forR (fun s => un3 (Bd s)) s0 ds) f M) :=
  b_forR hk hi hg h0 (fun s d h => by unfold un3; split <;> first | cases h | rfl) (fun s d as e => by obtain ⟨a, b, c, as1, as2, as3, rfl, e1, e2, e3, rfl⟩ := gT3_inv e; cases e1; cases e2; cases e3; exact hb s a b c) hr hs
theorem c_forP4 {i j l q : Nat} {Bd : S → D → D → D → D → Option (S)} (hi : IOk G L ρ tg iter mi) (hg : GOk G L tg (gT [gN i, gN j, gN l, gN q])) (h0 : leS (v s0) ρ) (hb : ∀ s a b c d, BOk G L (setS (setS (setS (setS (v s) i (.val a)) j (.val b)) l (.val c)) q (.val d)) body (kP G.K v) (Bd s a b c d)) (hr : ∀ s, BOk G L (v s) rest k (M s)) (hs : ∀ env x, foldedSetIterable iter env x = pure x := by intro _ _; rfl) : BOk G L ρ (.For tg iter body [] pos :: rest) k ((mi.bind fun ds => forP (fun s => un4 (Bd s)) s0 ds).bind M) :=
  b_for hi hg h0 (fun s d h => by unfold un4; split <;> first | cases h | rfl) (fun s d as e => by obtain ⟨a, b, c, d, as1, as2, as3, as4, rfl, e1, e2, e3, e4, rfl⟩ := gT4_inv e; cases e1; cases e2; cases e3; cases e4; exact hb s a b c d) hr hs
theorem c_forB4 {i j l q : Nat} {Bd : S → D → D → D → D → Option (Lp S)} {f : D → R} (hk : IsRt G.K k f) (hi : IOk G L ρ tg iter mi) (hg : GOk G L tg (gT [gN i, gN j, gN l, gN q])) (h0 : leS (v s0) ρ) (hb : ∀ s a b c d, BOk G L (setS (setS (setS (setS (v s) i (.val a)) j (.val b)) l (.val c)) q (.val d)) body (kL G.K v) (Bd s a b c d)) (hr : ∀ s, BOk G L (v s) rest k (M s)) (hs : ∀ env x, foldedSetIterable iter env x = pure x := by intro _ _; rfl) : BOk G L ρ (.For tg iter body [] pos :: rest) k ((mi.bind fun ds => forB (fun s => un4 (Bd s)) s0 ds).bind M) :=
  b_forB hk hi hg h0 (fun s d h => by unfold un4; split <;> first | cases h | rfl) (fun s d as e => by obtain ⟨a, b, c, d, as1, as2, as3, as4, rfl, e1, e2, e3, e4, rfl⟩ := gT4_inv e; cases e1; cases e2; cases e3; cases e4; exact hb s a b c d) hr hs
theorem c_forR4 {i j l q : Nat} {Bd : S → D → D → D → D → Option (Lp S)} {f : D → R} (hk : IsRt G.K k f) (hi : IOk G L ρ tg iter mi) (hg : GOk G L tg (gT [gN i, gN j, gN l, gN q])) (h0 : leS (v s0) ρ) (hb : ∀ s a b c d, BOk G L (setS (setS (setS (setS (v s) i (.val a)) j (.val b)) l (.val c)) q (.val d)) body (kL G.K v) (Bd s a b c d)) (hr : ∀ s, BOk G L (v s) rest k (M s)) (hs : ∀ env x, foldedSetIterable iter env x = pure x := by intro _ _; rfl) : BOk G L ρ (.For tg iter body [] pos :: rest) k (bindR (mi.bind fun ds => forR (fun s => un4 (Bd s)) s0 ds) f M) :=
  b_forR hk hi hg h0 (fun s d h => by unfold un4; split <;> first | cases h | rfl) (fun s d as e => by obtain ⟨a, b, c, d, as1, as2, as3, as4, rfl, e1, e2, e3, e4, rfl⟩ := gT4_inv e; cases e1; cases e2; cases e3; cases e4; exact hb s a b c d) hr hs
theorem c_asg2 {i j : Nat} {e : Expr} {m : Option D} {M : D → D → Option R} (he : EOk G L ρ e m) (hg : GOk G L tg (gT [gN i, gN j])) (hr : ∀ a b, BOk G L (setS (setS ρ i (.val a)) j (.val b)) rest k (M a b))
    (hs : ∀ env : Env, env.scope = L.sc → swapsWithSole [tg] e pos.line env = pure false := by intro _ _; rfl) (hw : ∀ env : Env, env.scope = L.sc → swappedStores [tg] e env = pure none := by intro _ _; rfl) (h1 : ∀ env, (assignEach [tg] env).map (·.2) = [assign tg env] := by intro _; rfl) :
    BOk G L ρ (.Assign [tg] e pos :: rest) k (m.bind (un2 M)) := b_asg he hg (fun d h => by unfold un2; split <;> first | cases h | rfl) (fun d as e => by obtain ⟨a, b, as1, as2, rfl, e1, e2, rfl⟩ := gT2_inv e; cases e1; cases e2; exact hr a b) hs hw h1
theorem c_asg3 {i j l : Nat} {e : Expr} {m : Option D} {M : D → D → D → Option R} (he : EOk G L ρ e m) (hg : GOk G L tg (gT [gN i, gN j, gN l])) (hr : ∀ a b c, BOk G L (setS (setS (setS ρ i (.val a)) j (.val b)) l (.val c)) rest k (M a b c))
    (hs : ∀ env : Env, env.scope = L.sc → swapsWithSole [tg] e pos.line env = pure false := by intro _ _; rfl) (hw : ∀ env : Env, env.scope = L.sc → swappedStores [tg] e env = pure none := by intro _ _; rfl) (h1 : ∀ env, (assignEach [tg] env).map (·.2) = [assign tg env] := by intro _; rfl) :
    BOk G L ρ (.Assign [tg] e pos :: rest) k (m.bind (un3 M)) := b_asg he hg (fun d h => by unfold un3; split <;> first | cases h | rfl) (fun d as e => by obtain ⟨a, b, c, as1, as2, as3, rfl, e1, e2, e3, rfl⟩ := gT3_inv e; cases e1; cases e2; cases e3; exact hr a b c) hs hw h1
theorem c_asg4 {i j l q : Nat} {e : Expr} {m : Option D} {M : D → D → D → D → Option R} (he : EOk G L ρ e m) (hg : GOk G L tg (gT [gN i, gN j, gN l, gN q])) (hr : ∀ a b c d, BOk G L (setS (setS (setS (setS ρ i (.val a)) j (.val b)) l (.val c)) q (.val d)) rest k (M a b c d))
    (hs : ∀ env : Env, env.scope = L.sc → swapsWithSole [tg] e pos.line env = pure false := by intro _ _; rfl) (hw : ∀ env : Env, env.scope = L.sc → swappedStores [tg] e env = pure none := by intro _ _; rfl) (h1 : ∀ env, (assignEach [tg] env).map (·.2) = [assign tg env] := by intro _; rfl) :
    BOk G L ρ (.Assign [tg] e pos :: rest) k (m.bind (un4 M)) := b_asg he hg (fun d h => by unfold un4; split <;> first | cases h | rfl) (fun d as e => by obtain ⟨a, b, c, d, as1, as2, as3, as4, rfl, e1, e2, e3, e4, rfl⟩ := gT4_inv e; cases e1; cases e2; cases e3; cases e4; exact hr a b c d) hs hw h1
end
end DL
set_option autoImplicit false
set_option maxRecDepth 100000
set_option maxHeartbeats 4000000
namespace DL
open PySem PySem.Spec PySem.SeqAt PyProof.Rows L2
theorem le_nil : leS [] [] := trivial
theorem le_no {r q : List Sl} {t : Sl} (h : leS r q) : leS (.no :: r) (t :: q) := ⟨.inl rfl, h⟩
theorem le_eq {r q : List Sl} {s : Sl} (h : leS r q) : leS (s :: r) (s :: q) := ⟨.inr rfl, h⟩
section
variable {R : Type} {G : GX} {L : LX} {ρ : List Sl} {sts : List Stmt} {k k0 : KS R} {e a b : Expr} {ma mb m : Option D} {pos p p1 : Pos} {x : Str}
theorem b_weak {k' : KS R} {M : Option R} (h : BOk G L ρ sts k M) (w : ∀ r B F0 E, k' r B F0 E → k r B F0 E) : BOk G L ρ sts k' M := fun X hX =>
  wkSs (h X hX) fun D σ H ⟨B, F0, F, r, em, er, q⟩ => ⟨B, F0, F, r, em, er, w _ _ _ _ q⟩
theorem b_CL {S : Type} {v : S → List Sl} {M : Option (Lp S)} (h : BOk G L ρ sts (kC G.K v) M) : BOk G L ρ sts (kL G.K v) M := b_weak h fun _ _ _ _ q => q.1
theorem b_DF {M : Option D} (h : BOk G L ρ sts (kD G.K) M) : BOk G L ρ sts (kF G.K) M := b_weak h fun _ _ _ _ q => q.1
/-- a block that leaves, where a block may go on or leave -/
theorem b_J {α : Type} {u : α → List Sl} {M : Option R} (h : BOk G L ρ sts k M) : BOk G L ρ sts (kJ G.K u k) (M.map Rs.ex) := fun X hX =>
  wkSs (h X hX) fun D σ H ⟨B, F0, F, r, em, er, q⟩ => by
    obtain ⟨r', e1, e2⟩ := Option.map_eq_some_iff.mp em
    subst e2
    exact ⟨B, F0, F, r', e1, er, q⟩
def kX {α R : Type} (k : KS R) : KS (Rs α R) := fun r B F0 E => match r with
  | .nx _ => True
  | .ex r => k r B F0 E
theorem b_X {α : Type} {M : Option R} (h : BOk G L ρ sts k M) : BOk G L ρ sts (kX (α := α) k) (M.map Rs.ex) := fun X hX =>
  wkSs (h X hX) fun D σ H ⟨B, F0, F, r, em, er, q⟩ => by
    obtain ⟨r', e1, e2⟩ := Option.map_eq_some_iff.mp em
    subst e2
    exact ⟨B, F0, F, r', e1, er, q⟩
theorem kJX {α : Type} {K : PySem.W.Frag} {u : α → List Sl} (h : ∀ r B F0 D nx, k r B F0 D → k r B F0 { D with nx := nx }) : ∀ r B F0 D nx, kJ K u k r B F0 D → kX (α := α) k r B F0 { D with nx := nx } := fun r B F0 D nx q => by
  cases r with
  | nx a => trivial
  | ex r => exact h _ _ _ _ _ q
theorem kXX {α : Type} (h : ∀ r B F0 D nx, k r B F0 D → k r B F0 { D with nx := nx }) : ∀ r B F0 D nx, kX (α := α) k r B F0 D → kX (α := α) k r B F0 { D with nx := nx } := fun r B F0 D nx q => by
  cases r with
  | nx a => trivial
  | ex r => exact h _ _ _ _ _ q
theorem rtX {α : Type} {K : PySem.W.Frag} {f : D → R} (h : IsRt K k f) : IsRt K (kX (α := α) k) (fun d => .ex (f d)) := ⟨fun _ _ _ _ q => h.rt _ _ _ _ q⟩
def negD : D → Option D
  | .int i => some (.int (-i))
  | _ => none
theorem e_ng (ha : EOk G L ρ a ma) : EOk G L ρ (.UnaryOp .USub a pos) (E1 negD ma) := (e_neg ha).to (by
  unfold E1
  congr 1)
/-- an element of an object of one's own -/
theorem e_ixo (j : Nat) {y : D} (h : nthS ρ j = .own y := by rfl) (hb : EOk G L ρ b mb) (hN : L.N[j]? = some x := by rfl) (hv : Vis L.sc x := by first | exact Or.inl rfl | exact Or.inr (Or.inl rfl) | exact Or.inr (Or.inr rfl))
    (hd : (x == ("__debug__" : Str)) = false := by decide) (hcd : (x == ("__classdict__" : Str)) = false := by decide) (hs : PlainIx b := by intro _ _; rfl) : EOk G L ρ (.Subscript (.Name x p) b pos) (E1 (ixD y) mb) := fun X hX =>
  wkE (pe_ix (ix_seq.or (ix_dict (by have := hX.room.units; omega))) (p_own hX j hN hv hd hcd) (hb X hX) hs) fun σ H Q ⟨F, d, em, vr, q⟩ => by
    obtain ⟨ik, ei, em⟩ := Option.bind_eq_some_iff.mp em
    obtain ⟨p', o, e1, e2, ow, hF⟩ := vr.owns j y h
    refine ⟨.ref p', e1, F, ik, ei, vr, fun vi F1 H1 x1 ri => ?_⟩
    rcases getD_rule hX (Q := fun v H => Q v H) (ow.mono x1.froz) (x1.heap _ _ e2) x1.sub ri em (fun v ru => q v F1 H1 x1 ru) with ⟨p2, xs, k, v, h1, h2, h3, h4, h5⟩ | ⟨a2, v, h1, h2, h3⟩
    · exact .inl (.inl ⟨p2, xs, k, v, h1, h2, h3, h4, h5⟩)
    · exact .inr ⟨a2, v, h1, h2, h3⟩
end
section
variable {G : GX} {L : LX} {ρ : List Sl} {e a b c : Expr} {ma mb : Option D} {pos p p2 : Pos}
theorem e_none {ρ : List Sl} {e : Expr} {m : Option D} (h : m = none) : EOk G L ρ e m := fun X hX => ⟨fun pins s σ H Q I ⟨F, d, em, r, q⟩ => by rw [h] at em; cases em⟩
theorem t_none {ρ : List Sl} {e : Expr} {m : Option Bool} (h : m = none) : TOk G L ρ e m := fun X hX => ⟨fun pins s σ H Q I ⟨F, d, em, r, q⟩ => by rw [h] at em; cases em⟩
theorem b_none {R : Type} {ρ : List Sl} {sts : List Stmt} {k : KS R} {m : Option R} (h : m = none) : BOk G L ρ sts k m := fun X hX => ⟨fun pins s σ H D I ⟨B, F0, F, r, em, q⟩ => by rw [h] at em; cases em⟩
theorem e_rec2 {x : Str} {k : Nat} {f : D → D → Option D} (F : FnD G k x 2 (ap2 f) ∨ ∀ a b, f a b = none) (ha : EOk G L ρ a ma) (hb : EOk G L ρ b mb) (hk : k ≤ L.k) (hg : GlS L x := by rfl) (hdb : (x == ("__debug__" : Str)) = false := by decide)
    (s1 : ∀ env, starEach [a, b] env = (false, eval a env) :: starEach [b] env := by intro _; rfl) (s2 : ∀ env, starEach [b] env = (false, eval b env) :: starEach [] env := by intro _; rfl)
    (hpl : ∀ env, (backTo pos (starEach [b] env)).any (·.1) = false := by intro _; rfl) : EOk G L ρ (.Call (.Name x p) [a, b] [] pos) (E2 f ma mb) := by
  rcases F with F | F
  · exact e_call2 F ha hb hk hg hdb s1 s2 hpl
  · refine e_none ?_
    cases h : E2 f ma mb with
    | none => rfl
    | some d => obtain ⟨u, v, _, _, e⟩ := E2_some h; rw [F] at e; cases e
def o1 (f : List D → Option D) (a : D) : Option D := f [a]
def o2 (f : List D → Option D) (a b : D) : Option D := f [a, b]
theorem aC1 {m : Option D} {f : List D → Option D} : (aC m (some [])).bind f = E1 (o1 f) m := by cases m <;> rfl
theorem aC2 {m n : Option D} {f : List D → Option D} : (aC m (aC n (some []))).bind f = E2 (o2 f) m n := by cases m <;> cases n <;> rfl
theorem e_len1 (hm : G.mg "len" = none) (ha : EOk G L ρ a ma) (hg : GlS L "len" := by rfl) (s1 : ∀ env, starEach [a] env = (false, eval a env) :: starEach [] env := by intro _; rfl) :
    EOk G L ρ (.Call (.Name "len" p) [a] [] pos) (E1 (o1 lenD) ma) := aC1 ▸ (e_cb cd_len hm PySem.boot_len (a_cons ha a_nil s1) hg (by decide) (by decide) s1)
theorem e_abs1 (hm : G.mg "abs" = none) (ha : EOk G L ρ a ma) (hg : GlS L "abs" := by rfl) (s1 : ∀ env, starEach [a] env = (false, eval a env) :: starEach [] env := by intro _; rfl) :
    EOk G L ρ (.Call (.Name "abs" p) [a] [] pos) (E1 (o1 absD) ma) := aC1 ▸ (e_cb cd_abs hm PyProof.Rows.boot_abs (a_cons ha a_nil s1) hg (by decide) (by decide) s1)
theorem e_sum1 (hm : G.mg "sum" = none) (ha : EOk G L ρ a ma) (hg : GlS L "sum" := by rfl) (s1 : ∀ env, starEach [a] env = (false, eval a env) :: starEach [] env := by intro _; rfl) :
    EOk G L ρ (.Call (.Name "sum" p) [a] [] pos) (E1 (o1 sumD) ma) := aC1 ▸ (e_cb cd_sum hm PyProof.Rows.boot_sum (a_cons ha a_nil s1) hg (by decide) (by decide) s1)
theorem e_all1 (hm : G.mg "all" = none) (ha : EOk G L ρ a ma) (hg : GlS L "all" := by rfl) (s1 : ∀ env, starEach [a] env = (false, eval a env) :: starEach [] env := by intro _; rfl) :
    EOk G L ρ (.Call (.Name "all" p) [a] [] pos) (E1 (o1 allD) ma) := aC1 ▸ (e_cb cd_all hm PyProof.Rows.boot_all (a_cons ha a_nil s1) hg (by decide) (by decide) s1)
theorem e_any1 (hm : G.mg "any" = none) (ha : EOk G L ρ a ma) (hg : GlS L "any" := by rfl) (s1 : ∀ env, starEach [a] env = (false, eval a env) :: starEach [] env := by intro _; rfl) :
    EOk G L ρ (.Call (.Name "any" p) [a] [] pos) (E1 (o1 anyD) ma) := aC1 ▸ (e_cb cd_any hm PyProof.Rows.boot_any (a_cons ha a_nil s1) hg (by decide) (by decide) s1)
theorem e_int1 (hm : G.mg "int" = none) (ha : EOk G L ρ a ma) (hg : GlS L "int" := by rfl) (s1 : ∀ env, starEach [a] env = (false, eval a env) :: starEach [] env := by intro _; rfl) :
    EOk G L ρ (.Call (.Name "int" p) [a] [] pos) (E1 (o1 intD) ma) := aC1 ▸ (e_ct cd_int hm PyProof.Rows.boot_int (a_cons ha a_nil s1) hg (by decide) (by decide) s1)
theorem e_tuple1 (hm : G.mg "tuple" = none) (ha : EOk G L ρ a ma) (hg : GlS L "tuple" := by rfl) (s1 : ∀ env, starEach [a] env = (false, eval a env) :: starEach [] env := by intro _; rfl) :
    EOk G L ρ (.Call (.Name "tuple" p) [a] [] pos) (E1 (o1 tupleD) ma) := aC1 ▸ (e_ct cd_tuple hm PyProof.Rows.boot_tuple (a_cons ha a_nil s1) hg (by decide) (by decide) s1)
theorem boot_max : bootBuiltins "max" = some (.builtin "max") := by decide +kernel
theorem boot_min : bootBuiltins "min" = some (.builtin "min") := by decide +kernel
theorem e_maxL (hm : G.mg "max" = none) (ha : EOk G L ρ a ma) (hg : GlS L "max" := by rfl) (s1 : ∀ env, starEach [a] env = (false, eval a env) :: starEach [] env := by intro _; rfl) :
    EOk G L ρ (.Call (.Name "max" p) [a] [] pos) (E1 (o1 maxLD) ma) := aC1 ▸ (e_cb cd_maxL hm boot_max (a_cons ha a_nil s1) hg (by decide) (by decide) s1)
theorem e_minL (hm : G.mg "min" = none) (ha : EOk G L ρ a ma) (hg : GlS L "min" := by rfl) (s1 : ∀ env, starEach [a] env = (false, eval a env) :: starEach [] env := by intro _; rfl) :
    EOk G L ρ (.Call (.Name "min" p) [a] [] pos) (E1 (o1 minLD) ma) := aC1 ▸ (e_cb cd_minL hm boot_min (a_cons ha a_nil s1) hg (by decide) (by decide) s1)
theorem e_max2 (hm : G.mg "max" = none) (ha : EOk G L ρ a ma) (hb : EOk G L ρ b mb) (hg : GlS L "max" := by rfl) (s1 : ∀ env, starEach [a, b] env = (false, eval a env) :: starEach [b] env := by intro _; rfl) (s2 : ∀ env, starEach [b] env = (false, eval b env) :: starEach [] env := by intro _; rfl) (hpl : ∀ env, (backTo pos (starEach [b] env)).any (·.1) = false := by intro _; rfl) :
    EOk G L ρ (.Call (.Name "max" p) [a, b] [] pos) (E2 (o2 max2D) ma mb) := aC2 ▸ (e_cb cd_max2 hm boot_max (a_cons ha (a_cons hb a_nil s2) s1) hg (by decide) (by decide) s1 hpl)
theorem e_min2 (hm : G.mg "min" = none) (ha : EOk G L ρ a ma) (hb : EOk G L ρ b mb) (hg : GlS L "min" := by rfl) (s1 : ∀ env, starEach [a, b] env = (false, eval a env) :: starEach [b] env := by intro _; rfl) (s2 : ∀ env, starEach [b] env = (false, eval b env) :: starEach [] env := by intro _; rfl) (hpl : ∀ env, (backTo pos (starEach [b] env)).any (·.1) = false := by intro _; rfl) :
    EOk G L ρ (.Call (.Name "min" p) [a, b] [] pos) (E2 (o2 min2D) ma mb) := aC2 ▸ (e_cb cd_min2 hm boot_min (a_cons ha (a_cons hb a_nil s2) s1) hg (by decide) (by decide) s1 hpl)
theorem f_list1 (hm : G.mg "list" = none) (ha : EOk G L ρ a ma) (hg : GlS L "list" := by rfl) (s1 : ∀ env, starEach [a] env = (false, eval a env) :: starEach [] env := by intro _; rfl) :
    FOk G L ρ (.Call (.Name "list" p) [a] [] pos) (E1 (o1 listD) ma) := aC1 ▸ (f_ct cf_list hm PyProof.Rows.boot_list (a_cons ha a_nil s1) hg (by decide) (by decide) s1)
theorem f_sorted1 (hm : G.mg "sorted" = none) (ha : EOk G L ρ a ma) (hg : GlS L "sorted" := by rfl) (s1 : ∀ env, starEach [a] env = (false, eval a env) :: starEach [] env := by intro _; rfl) :
    FOk G L ρ (.Call (.Name "sorted" p) [a] [] pos) (E1 (o1 sortedD) ma) := aC1 ▸ (f_cb cf_sorted hm PyProof.Rows.boot_sorted (a_cons ha a_nil s1) hg (by decide) (by decide) s1)
theorem e_is_int (hm : G.mg "isinstance" = none) (hmT : G.mg "int" = none) (h : EOk G L ρ e ma) (hg : GlS L "isinstance" := by rfl) (hgT : GlS L "int" := by rfl) (he : ∀ env, starEach [e, .Name "int" p2] env = (false, eval e env) :: starEach [.Name "int" p2] env := by intro _; rfl) :
    EOk G L ρ (.Call (.Name "isinstance" p) [e, .Name "int" p2] [] pos) (E1 (isiG isIntD) ma) := e_isi isi_int PyProof.Rows.boot_int hm hmT h hg hgT (by decide) (by decide) he
theorem e_is_bool (hm : G.mg "isinstance" = none) (hmT : G.mg "bool" = none) (h : EOk G L ρ e ma) (hg : GlS L "isinstance" := by rfl) (hgT : GlS L "bool" := by rfl) (he : ∀ env, starEach [e, .Name "bool" p2] env = (false, eval e env) :: starEach [.Name "bool" p2] env := by intro _; rfl) :
    EOk G L ρ (.Call (.Name "isinstance" p) [e, .Name "bool" p2] [] pos) (E1 (isiG isBlD) ma) := e_isi isi_bool PyProof.Rows.boot_bool hm hmT h hg hgT (by decide) (by decide) he
theorem e_is_str (hm : G.mg "isinstance" = none) (hmT : G.mg "str" = none) (h : EOk G L ρ e ma) (hg : GlS L "isinstance" := by rfl) (hgT : GlS L "str" := by rfl) (he : ∀ env, starEach [e, .Name "str" p2] env = (false, eval e env) :: starEach [.Name "str" p2] env := by intro _; rfl) :
    EOk G L ρ (.Call (.Name "isinstance" p) [e, .Name "str" p2] [] pos) (E1 (isiG isStrD) ma) := e_isi isi_str PyProof.Rows.boot_str hm hmT h hg hgT (by decide) (by decide) he
theorem e_is_tuple (hm : G.mg "isinstance" = none) (hmT : G.mg "tuple" = none) (h : EOk G L ρ e ma) (hg : GlS L "isinstance" := by rfl) (hgT : GlS L "tuple" := by rfl) (he : ∀ env, starEach [e, .Name "tuple" p2] env = (false, eval e env) :: starEach [.Name "tuple" p2] env := by intro _; rfl) :
    EOk G L ρ (.Call (.Name "isinstance" p) [e, .Name "tuple" p2] [] pos) (E1 (isiG isTupD) ma) := e_isi isi_tuple PyProof.Rows.boot_tuple hm hmT h hg hgT (by decide) (by decide) he
theorem e_is_list (hm : G.mg "isinstance" = none) (hmT : G.mg "list" = none) (h : EOk G L ρ e ma) (hg : GlS L "isinstance" := by rfl) (hgT : GlS L "list" := by rfl) (he : ∀ env, starEach [e, .Name "list" p2] env = (false, eval e env) :: starEach [.Name "list" p2] env := by intro _; rfl) :
    EOk G L ρ (.Call (.Name "isinstance" p) [e, .Name "list" p2] [] pos) (E1 (isiG isLstD) ma) := e_isi isi_list PyProof.Rows.boot_list hm hmT h hg hgT (by decide) (by decide) he
end
theorem fn_ok1 {G : GX} {x : Str} {st : Stmt} {N ps : List Str} {k : Nat} {g : D → Option D} (Fd : DefAt G x st ps) (S : FnScope N ps (defScope st)) (hn : ps.length = 1)
    (h : ∀ a0, BOk G ⟨N, k, defScope st, fun _ => true⟩ (rho N [a0]) (defBody st) (kF G.K) (g a0)) : FnD G (k + 1) x 1 (ap1 g) := fn_ok Fd S hn fun ds hds => by
  match ds, hds with
  | [a0], _ => exact h a0
theorem fn_ok2 {G : GX} {x : Str} {st : Stmt} {N ps : List Str} {k : Nat} {g : D → D → Option D} (Fd : DefAt G x st ps) (S : FnScope N ps (defScope st)) (hn : ps.length = 2)
    (h : ∀ a0 a1, BOk G ⟨N, k, defScope st, fun _ => true⟩ (rho N [a0, a1]) (defBody st) (kF G.K) (g a0 a1)) : FnD G (k + 1) x 2 (ap2 g) := fn_ok Fd S hn fun ds hds => by
  match ds, hds with
  | [a0, a1], _ => exact h a0 a1
theorem fn_ok3 {G : GX} {x : Str} {st : Stmt} {N ps : List Str} {k : Nat} {g : D → D → D → Option D} (Fd : DefAt G x st ps) (S : FnScope N ps (defScope st)) (hn : ps.length = 3)
    (h : ∀ a0 a1 a2, BOk G ⟨N, k, defScope st, fun _ => true⟩ (rho N [a0, a1, a2]) (defBody st) (kF G.K) (g a0 a1 a2)) : FnD G (k + 1) x 3 (ap3 g) := fn_ok Fd S hn fun ds hds => by
  match ds, hds with
  | [a0, a1, a2], _ => exact h a0 a1 a2
theorem fn_ok4 {G : GX} {x : Str} {st : Stmt} {N ps : List Str} {k : Nat} {g : D → D → D → D → Option D} (Fd : DefAt G x st ps) (S : FnScope N ps (defScope st)) (hn : ps.length = 4)
    (h : ∀ a0 a1 a2 a3, BOk G ⟨N, k, defScope st, fun _ => true⟩ (rho N [a0, a1, a2, a3]) (defBody st) (kF G.K) (g a0 a1 a2 a3)) : FnD G (k + 1) x 4 (ap4 g) := fn_ok Fd S hn fun ds hds => by
  match ds, hds with
  | [a0, a1, a2, a3], _ => exact h a0 a1 a2 a3
theorem fn_ok5 {G : GX} {x : Str} {st : Stmt} {N ps : List Str} {k : Nat} {g : D → D → D → D → D → Option D} (Fd : DefAt G x st ps) (S : FnScope N ps (defScope st)) (hn : ps.length = 5)
    (h : ∀ a0 a1 a2 a3 a4, BOk G ⟨N, k, defScope st, fun _ => true⟩ (rho N [a0, a1, a2, a3, a4]) (defBody st) (kF G.K) (g a0 a1 a2 a3 a4)) : FnD G (k + 1) x 5 (ap5 g) := fn_ok Fd S hn fun ds hds => by
  match ds, hds with
  | [a0, a1, a2, a3, a4], _ => exact h a0 a1 a2 a3 a4
theorem fn_ok6 {G : GX} {x : Str} {st : Stmt} {N ps : List Str} {k : Nat} {g : D → D → D → D → D → D → Option D} (Fd : DefAt G x st ps) (S : FnScope N ps (defScope st)) (hn : ps.length = 6)
    (h : ∀ a0 a1 a2 a3 a4 a5, BOk G ⟨N, k, defScope st, fun _ => true⟩ (rho N [a0, a1, a2, a3, a4, a5]) (defBody st) (kF G.K) (g a0 a1 a2 a3 a4 a5)) : FnD G (k + 1) x 6 (ap6 g) := fn_ok Fd S hn fun ds hds => by
  match ds, hds with
  | [a0, a1, a2, a3, a4, a5], _ => exact h a0 a1 a2 a3 a4 a5
theorem fn_ok7 {G : GX} {x : Str} {st : Stmt} {N ps : List Str} {k : Nat} {g : D → D → D → D → D → D → D → Option D} (Fd : DefAt G x st ps) (S : FnScope N ps (defScope st)) (hn : ps.length = 7)
    (h : ∀ a0 a1 a2 a3 a4 a5 a6, BOk G ⟨N, k, defScope st, fun _ => true⟩ (rho N [a0, a1, a2, a3, a4, a5, a6]) (defBody st) (kF G.K) (g a0 a1 a2 a3 a4 a5 a6)) : FnD G (k + 1) x 7 (ap7 g) := fn_ok Fd S hn fun ds hds => by
  match ds, hds with
  | [a0, a1, a2, a3, a4, a5, a6], _ => exact h a0 a1 a2 a3 a4 a5 a6
end DL
set_option autoImplicit false
set_option maxRecDepth 100000
set_option maxHeartbeats 4000000
namespace DL
open PySem PySem.Spec PySem.SeqAt PyProof.Rows L2
theorem fn_okF {G : GX} {x : Str} {f : Addr} {fd : FuncData} {st : Stmt} {N ps : List Str} {k n : Nat} {g : List D → Option D} (F : Fun G.K x x st f fd) (S : FnScope N ps (defScope st)) (hn : ps.length = n)
    (h : ∀ ds, ds.length = n → BOk G ⟨N, k, defScope st, fun _ => true⟩ (rho N ds) (defBody st) (kF G.K) (g ds)) : FnOk G.P G.w G.K G.mg G.base CX0 (k + 1) f fd ps (spD G.K n g) := by
  have hpl : ps.length ≤ N.length := by have := congrArg List.length S.pre; rw [List.length_take] at this; omega
  refine F.ok S (fun vs H Q E ⟨F, ds, d, hl, s, r, e, q⟩ => by rw [hn, ← hl, r.len]) (fun cdv A outer s H vs Q E hr ⟨F0, ds, d, hl, s0, r, e, q⟩ => ?_)
  refine ⟨_, h ds hl _ ⟨rfl, rfl, rfl, rfl, rfl, rfl, S.nd, rfl, rfl, rfl, hr⟩, H, F0, F0, d, e, ⟨⟨s0, ?_, fun i d h => ?_, fun i d h => absurd h rho_own⟩, ⟨Same.refl _, s0, Same.refl _, fun a o h n => by rw [h] at n; cases n⟩, fun i d p h => absurd h rho_own, fun i j d e p h => absurd h rho_own⟩, ?_, ?_⟩
  · have := r.len
    simp only [L2.start, rho, List.length_append, List.length_map, List.length_replicate]
    omega
  · have hd : ds[i]? = some d := rho_nth (N := N) h
    obtain ⟨v, hv, rv⟩ := r.get hd
    refine ⟨v, ?_, rv⟩
    have hi : i < vs.length := (List.getElem?_eq_some_iff.mp hv).1
    unfold L2.start
    rw [List.getElem?_append_left (by simpa using hi), List.getElem?_map, hv]; rfl
  · intro v F H' ro rv
    exact q v F H' ⟨ro.keep, ro.ext, ro.sub, ro.fresh⟩ rv
  · intro hd σ F H' ro
    subst hd
    exact q .non F H' ⟨ro.keep, ro.ext, ro.sub, ro.fresh⟩ rep_n
theorem fn_okF1 {G : GX} {x : Str} {f : Addr} {fd : FuncData} {st : Stmt} {N ps : List Str} {k : Nat} {g : D → Option D} (F : Fun G.K x x st f fd) (S : FnScope N ps (defScope st)) (hn : ps.length = 1)
    (h : ∀ a, BOk G ⟨N, k, defScope st, fun _ => true⟩ (rho N [a]) (defBody st) (kF G.K) (g a)) : FnOk G.P G.w G.K G.mg G.base CX0 (k + 1) f fd ps (spD G.K 1 (ap1 g)) := fn_okF F S hn fun ds hds => by
  match ds, hds with
  | [a], _ => exact h a
/-- the law's own promise -/
theorem sp_law {K : PySem.W.Frag} {H : Hp} {a : Addr} {ns : List Int} {f : D → Option D} (h : f (.scr ns) = some (.bl true)) (hS : SqL K H a (ns.map V.int)) {E : XK} : spD K 1 (ap1 f) [.ref a] H (fun v _ => v = .bl true) E := by
  rcases hS with hS | hS
  · refine ⟨upd (fun _ => none) a (.lst (ns.map V.int)), [.scr ns], .bl true, rfl, fun b o e => ?_, .cons ?_ .nil, h, fun v F' H' x r => ?_⟩
    · by_cases hb : b = a
      · subst hb
        rw [upd_same] at e; cases e
        rcases hS with hS | ⟨ob, hS⟩
        · exact .inl hS
        · exact .inr ⟨(fun vs => by intro z; cases z), ob, hS⟩
      · rw [upd_ne hb] at e; cases e
    · unfold Rep; exact ⟨a, rfl, .inl upd_same⟩
    · unfold Rep at r; exact r
  · refine ⟨fun _ => none, [.scr ns], .bl true, rfl, (fun b o e => by cases e), .cons ?_ .nil, h, fun v F' H' x r => ?_⟩
    · unfold Rep; exact ⟨a, rfl, .inr hS⟩
    · unfold Rep at r; exact r
end DL
set_option autoImplicit false
set_option maxRecDepth 100000
set_option maxHeartbeats 4000000
namespace DL
open PySem PySem.Spec PySem.SeqAt PyProof.Rows L2
/-! ### a loop that may stop early, in any block -/
section
variable {R S : Type} {G : GX} {L : LX} {ρ : List Sl} {v : S → List Sl} {body rest : List Stmt} {k : KS R} {tg iter c : Expr} {pos : Pos} {g : TGD} {mi : Option (List D)} {s0 : S} {M : S → Option R}
def kB (K : PySem.W.Frag) (k : KS R) : KS (Rs R D) := fun r B F0 E => match r with
  | .nx r => k r B F0 E
  | .ex d => kD K d B F0 E
theorem rtB {K : PySem.W.Frag} : IsRt K (kB K k) Rs.ex := ⟨fun _ _ _ _ q => q⟩
theorem to_kB {sts : List Stmt} {m : Option R} (h : BOk G L ρ sts k m) : BOk G L ρ sts (kB G.K k) (m.map Rs.nx) := fun X hX =>
  wkSs (h X hX) fun D σ H ⟨B, F0, F, r, em, er, q⟩ => by
    obtain ⟨r', e1, e2⟩ := Option.map_eq_some_iff.mp em
    subst e2
    exact ⟨B, F0, F, r', e1, er, q⟩
theorem of_kB {sts : List Stmt} {m : Option R} (h : BOk G L ρ sts (kB G.K k) (m.map Rs.nx)) : BOk G L ρ sts k m := fun X hX =>
  wkSs (h X hX) fun D σ H ⟨B, F0, F, r, em, er, q⟩ => ⟨B, F0, F, .nx r, by rw [em]; rfl, er, q⟩
theorem BOk.to {sts : List Stmt} {m m' : Option R} (h : BOk G L ρ sts k m) (q : m = m') : BOk G L ρ sts k m' := q ▸ h
theorem b_forN {Bd : S → D → Option (Lp S)} (hi : IOk G L ρ tg iter mi) (hg : GOk G L tg g) (h0 : leS (v s0) ρ) (bad : ∀ s d, g d = none → Bd s d = none) (hb : ∀ s d as, g d = some as → BOk G L (setAll (v s) as) body (kL G.K v) (Bd s d))
    (hr : ∀ s, BOk G L (v s) rest k (M s)) (hs : ∀ env x, foldedSetIterable iter env x = pure x := by intro _ _; rfl) : BOk G L ρ (.For tg iter body [] pos :: rest) k ((mi.bind fun ds => forB Bd s0 ds).bind M) :=
  of_kB ((b_forB (k := kB G.K k) rtB hi hg h0 bad hb (M := fun s => (M s).map Rs.nx) (fun s => to_kB (hr s)) hs).to (by
    cases (mi.bind fun ds => forB Bd s0 ds) <;> rfl))
/-- a while with breaks alone -/
noncomputable def whileB {S : Type} (c : S → Option Bool) (f : S → Option (Lp S)) (s : S) : Option S := (whileR c f s).bind fun r => match r with
  | .nx s => some s
  | .ex _ => none
theorem b_whileN {ct : S → Option Bool} {Bd : S → Option (Lp S)} (h0 : leS (v s0) ρ) (hc : ∀ s, TOk G L (v s) c (ct s)) (hb : ∀ s, BOk G L (v s) body (kL G.K v) (Bd s)) (hr : ∀ s, BOk G L (v s) rest k (M s)) :
    BOk G L ρ (.While c body [] pos :: rest) k ((whileB ct Bd s0).bind M) := by
  have h := b_whileR (k := kB G.K k) (f := Rs.ex) (pos := pos) rtB h0 hc hb (M := fun s => (M s).map Rs.nx) (fun s => to_kB (hr s))
  refine of_kB (fun X hX => wkSs (h X hX) fun D σ H ⟨B, F0, F, r, em, er, q⟩ => ⟨B, F0, F, r, ?_, er, q⟩)
  obtain ⟨r', e1, e2⟩ := Option.map_eq_some_iff.mp em
  subst e2
  obtain ⟨s, e3, e4⟩ := Option.bind_eq_some_iff.mp e1
  unfold whileB at e3
  obtain ⟨u, e5, e6⟩ := Option.bind_eq_some_iff.mp e3
  rw [e5]
  cases u with
  | nx z => cases e6; show (M s).map Rs.nx = _; rw [e4]; rfl
  | ex d => cases e6
end
/-! ### tuple(reversed(..)), tuple(range(..)), list(range(..)) -/
section
variable {G : GX} {L : LX} {ρ : List Sl} {e a b : Expr} {m ma mb : Option D} {pos p p2 pos2 : Pos}
def tupRevD : D → Option D
  | .lst xs => some (.tup xs.reverse)
  | _ => none
theorem e_tupRev (hm : G.mg "tuple" = none) (hm2 : G.mg "reversed" = none) (he : EOk G L ρ e m) (hg : GlS L "tuple" := by rfl) (hg2 : GlS L "reversed" := by rfl) (hs : ∀ env, starEach [e] env = (false, eval e env) :: starEach [] env := by intro _; rfl)
    (hs2 : ∀ env, starEach [.Call (.Name "reversed" p2) [e] [] pos2] env = (false, eval (.Call (.Name "reversed" p2) [e] [] pos2) env) :: starEach [] env := by intro _; rfl) :
    EOk G L ρ (.Call (.Name "tuple" p) [.Call (.Name "reversed" p2) [e] [] pos2] [] pos) (E1 tupRevD m) := fun X hX =>
  wkE (RT.pe_tupRev hX.calm (gl_of hX hg) (by rw [hX.hm]; exact hm) (gl_of hX hg2) (by rw [hX.hm]; exact hm2) (he X hX) (hs _) (hs2 _)) fun σ H Q ⟨F, d, em, vr, q⟩ => by
    obtain ⟨y, ey, em⟩ := Option.bind_eq_some_iff.mp em
    refine ⟨F, y, ey, vr, fun v F1 H1 x1 r1 => ?_⟩
    unfold tupRevD at em
    split at em
    · cases em
      unfold Rep at r1
      obtain ⟨p', vs, rfl, h1, q1⟩ := r1
      rw [hX.hK]
      refine ⟨p', vs, rfl, lst_sq h1 x1.sub, fun q' hq => ?_⟩
      have x2 := Ext.frz (o := .tup vs.reverse) x1.sub hq
      exact q _ _ _ (x1.trans x2) (by unfold Rep; exact ⟨q', _, rfl, upd_same, (Reps.mono x2.froz _ _ q1).reverse⟩)
    · cases em
def okR (i j : Int) : Bool := decide (-(2 ^ 62) ≤ i) && decide (i < 2 ^ 62) && decide (-(2 ^ 62) ≤ j) && decide (j < 2 ^ 62) && decide ((j - i).toNat ≤ 16777216)
theorem okR_iff {i j : Int} (h : okR i j = true) : RgOk i j := by
  unfold okR at h
  simp only [Bool.and_eq_true, decide_eq_true_eq] at h
  exact ⟨h.1.1.1.1, h.1.1.1.2, h.1.1.2, h.1.2, h.2⟩
theorem rgV_eq {i j : Int} : rgV i j = (rangeI i j).map V.int := by unfold rgV rangeI; rw [List.map_map]; rfl
def tupR1 : D → Option D
  | .int j => if okR 0 j then some (.tup ((rangeI 0 j).map .int)) else none
  | _ => none
def lstR1 : D → Option D
  | .int j => if okR 0 j then some (.lst ((rangeI 0 j).map .int)) else none
  | _ => none
def lstR2 : D → D → Option D
  | .int i, .int j => if okR i j then some (.lst ((rangeI i j).map .int)) else none
  | _, _ => none
theorem e_tupR1 (hm : G.mg "tuple" = none) (hm2 : G.mg "range" = none) (he : EOk G L ρ e m) (hg : GlS L "tuple" := by rfl) (hg2 : GlS L "range" := by rfl) (hs : ∀ env, starEach [e] env = (false, eval e env) :: starEach [] env := by intro _; rfl)
    (hs2 : ∀ env, starEach [.Call (.Name "range" p2) [e] [] pos2] env = (false, eval (.Call (.Name "range" p2) [e] [] pos2) env) :: starEach [] env := by intro _; rfl) :
    EOk G L ρ (.Call (.Name "tuple" p) [.Call (.Name "range" p2) [e] [] pos2] [] pos) (E1 tupR1 m) := fun X hX =>
  wkE (pe_tupRg hX.calm (gl_of hX hg) (by rw [hX.hm]; exact hm) (prg_1 (gl_of hX hg2) (by rw [hX.hm]; exact hm2) (he X hX) (hs _)) (hs2 _)) fun σ H Q ⟨F, d, em, vr, q⟩ => by
    obtain ⟨y, ey, em⟩ := Option.bind_eq_some_iff.mp em
    refine ⟨F, y, ey, vr, fun v F1 H1 x1 r1 => ?_⟩
    unfold tupR1 at em
    split at em
    · split at em
      · cases em
        unfold Rep at r1
        refine ⟨_, r1, okR_iff (by assumption), fun q' hq => ?_⟩
        rw [rgV_eq]
        exact q _ _ _ (x1.trans (Ext.frz x1.sub hq)) (by unfold Rep; exact ⟨q', _, rfl, upd_same, Reps.ofInts _⟩)
      · cases em
    · cases em
theorem f_lstR1 (hm : G.mg "list" = none) (hm2 : G.mg "range" = none) (he : EOk G L ρ e m) (hg : GlS L "list" := by rfl) (hg2 : GlS L "range" := by rfl) (hs : ∀ env, starEach [e] env = (false, eval e env) :: starEach [] env := by intro _; rfl)
    (hs2 : ∀ env, starEach [.Call (.Name "range" p2) [e] [] pos2] env = (false, eval (.Call (.Name "range" p2) [e] [] pos2) env) :: starEach [] env := by intro _; rfl) :
    FOk G L ρ (.Call (.Name "list" p) [.Call (.Name "range" p2) [e] [] pos2] [] pos) (E1 lstR1 m) := fun X hX =>
  wkE (pe_listRg hX.calm (gl_of hX hg) (by rw [hX.hm]; exact hm) (prg_1 (gl_of hX hg2) (by rw [hX.hm]; exact hm2) (he X hX) (hs _)) (hs2 _)) fun σ H Q ⟨F, d, em, vr, q⟩ => by
    obtain ⟨y, ey, em⟩ := Option.bind_eq_some_iff.mp em
    refine ⟨F, y, ey, vr, fun v F1 H1 x1 r1 => ?_⟩
    unfold lstR1 at em
    split at em
    · split at em
      · cases em
        unfold Rep at r1
        refine ⟨_, r1, okR_iff (by assumption), fun q' hq => ?_⟩
        rw [rgV_eq]
        exact q q' _ _ _ (x1.trans (.own x1.sub hq)) (x1.heap.free hq) upd_same ⟨_, rfl, Reps.ofInts _⟩ (x1.sub.none hq)
      · cases em
    · cases em
theorem f_lstR2 (hm : G.mg "list" = none) (hm2 : G.mg "range" = none) (ha : EOk G L ρ a ma) (hb : EOk G L ρ b mb) (hg : GlS L "list" := by rfl) (hg2 : GlS L "range" := by rfl) (hs : ∀ env, starEach [a, b] env = (false, eval a env) :: starEach [b] env := by intro _; rfl)
    (hsb : ∀ env, starEach [b] env = (false, eval b env) :: starEach [] env := by intro _; rfl) (hpl : ∀ env, (backTo pos2 (starEach [b] env)).any (·.1) = false := by intro _; rfl)
    (hs2 : ∀ env, starEach [.Call (.Name "range" p2) [a, b] [] pos2] env = (false, eval (.Call (.Name "range" p2) [a, b] [] pos2) env) :: starEach [] env := by intro _; rfl) :
    FOk G L ρ (.Call (.Name "list" p) [.Call (.Name "range" p2) [a, b] [] pos2] [] pos) (E2 lstR2 ma mb) := fun X hX =>
  wkE (pe_listRg hX.calm (gl_of hX hg) (by rw [hX.hm]; exact hm) (prg_2 (gl_of hX hg2) (by rw [hX.hm]; exact hm2) (ha X hX) (hb X hX) (hs _) (hsb _) (hpl _)) (hs2 _)) fun σ H Q ⟨F, d, em, vr, q⟩ => by
    obtain ⟨x, y, ex, ey, em⟩ := E2_some em
    refine ⟨F, x, ex, vr, fun v F1 H1 x1 r1 => ⟨F1, y, ey, vr.ext x1, fun v2 F2 H2 x2 r2 => ?_⟩⟩
    unfold lstR2 at em
    split at em
    · split at em
      · cases em
        unfold Rep at r1 r2
        refine ⟨_, _, r1, r2, okR_iff (by assumption), fun q' hq => ?_⟩
        rw [rgV_eq]
        have xx := x1.trans x2
        exact q q' _ _ _ (xx.trans (.own xx.sub hq)) (xx.heap.free hq) upd_same ⟨_, rfl, Reps.ofInts _⟩ (xx.sub.none hq)
      · cases em
    · cases em
end
/-! ### comprehensions of two clauses -/
def lc2D (nt : D → Option Bool) (mi : D → Option (List D)) (nt1 : D → D → Option Bool) (f : D → D → Option D) : List D → Option (List D)
  | [] => some []
  | d :: ds => (nt d).bind fun b => if b = true then (mi d).bind fun es => (lcD (nt1 d) (f d) es).bind fun ys => (lc2D nt mi nt1 f ds).map (ys ++ ·) else lc2D nt mi nt1 f ds
def LC2 (mi0 : Option (List D)) (nt : D → Option Bool) (mi : D → Option (List D)) (nt1 : D → D → Option Bool) (f : D → D → Option D) : Option D := (mi0.bind (lc2D nt mi nt1 f)).bind lstD
section
variable {G : GX} {L : LX} {ρ : List Sl} {tg iter elt tg1 iter1 : Expr} {ifs ifs1 : List Expr} {scope : Scope} {own : List (Str × Nat)} {pos : Pos} {g g1 : TGD} {nt : D → Option Bool} {mi : D → Option (List D)} {nt1 : D → D → Option Bool} {f : D → D → Option D} {mi0 : Option (List D)} {vs1 : List Nat}
def rho2 (ρ : List Sl) (vs vs1 : List Nat) (as as1 : List (Nat × D)) : List Sl := setAll (wipeS (setAll (wipeS ρ vs) as) vs1) as1
def tiD (K : PySem.W.Frag) (ρ : List Sl) (vs : List Nat) (g : TGD) (mi : D → Option (List D)) : TI := fun σ H R => ∃ d as, g d = some as ∧ tI K (setAll (wipeS ρ vs) as) (mi d) σ H R
def ts2D (K : PySem.W.Frag) (ρ : List Sl) (vs vs1 : List Nat) (g g1 : TGD) (nt1 : D → D → Option Bool) : TT := fun σ H Q => ∃ d as e as1, g d = some as ∧ g1 e = some as1 ∧ tT K (rho2 ρ vs vs1 as as1) (nt1 d e) σ H Q
def te2D (K : PySem.W.Frag) (ρ : List Sl) (vs vs1 : List Nat) (g g1 : TGD) (f : D → D → Option D) : TE := fun σ H Q => ∃ d as e as1, g d = some as ∧ g1 e = some as1 ∧ tE K (rho2 ρ vs vs1 as as1) (f d e) σ H Q
theorem lc2_read {K : PySem.W.Frag} {σ : L2.St} {H : Hp} {Q : VK} {vs : List Nat} (hv : ∀ d as, g d = some as → ∀ i ∈ as.map (·.1), i ∈ vs) (h0 : ∀ d, g d = none → nt d = none)
    (hv1 : ∀ d as, g1 d = some as → ∀ i ∈ as.map (·.1), i ∈ vs1) (h01 : ∀ d e, g1 e = none → nt1 d e = none) (h : tF K ρ (LC2 mi0 nt mi nt1 f) σ H Q) :
    tLc2 (tI K ρ mi0) (tG K g) (tsD K ρ vs g nt) (tiD K ρ vs g mi) (tG K g1) (ts2D K ρ vs vs1 g g1 nt1) (te2D K ρ vs vs1 g g1 f) vs vs1 σ H Q := by
  obtain ⟨F, d, em, vr, q⟩ := h
  obtain ⟨all, ea, el⟩ := Option.bind_eq_some_iff.mp em
  obtain ⟨ds, emi, ea⟩ := Option.bind_eq_some_iff.mp ea
  unfold lstD at el
  split at el
  · rename_i hlen
    cases el
    refine ⟨F, ds, emi, vr, fun J F1 H1 x1 w D hD => ?_⟩
    have fD : F1 D = none := x1.sub.none hD
    refine ⟨fun i m H2 => m = ds.length - i ∧ i ≤ ds.length ∧ ∃ F2 acc rest vacc, Ext F1 H1 F2 H2 ∧ F2 D = none ∧ H2 D = some (.lst vacc) ∧ Reps K F2 acc vacc ∧ lc2D nt mi nt1 f (ds.drop i) = some rest ∧ all = acc ++ rest,
      ⟨_, rfl, Nat.zero_le _, F1, [], all, [], .own x1.sub hD, fD, upd_same, .nil, ea, rfl⟩, ?_⟩
    rintro i m H2 ⟨rfl, hi, F2, acc, rest, vacc, x2, fD2, hD2, rv, er, eall⟩
    by_cases hlt : i < ds.length
    · refine .inr ⟨w.goes i F2 H2 hlt x2.froz x2.sub (.ext x1.sub x2.heap), fun H' => i + 1 ≤ ds.length ∧ ∃ F2 acc rest vacc, Ext F1 H1 F2 H' ∧ F2 D = none ∧ H' D = some (.lst vacc) ∧ Reps K F2 acc vacc ∧ lc2D nt mi nt1 f (ds.drop (i + 1)) = some rest ∧ all = acc ++ rest,
        fun H' ⟨h1, h2⟩ => ⟨_, by omega, rfl, h1, h2⟩, fun x H3 y3 => ?_⟩
      have hd : ds[i]? = some ds[i] := List.getElem?_eq_getElem hlt
      rw [List.drop_eq_getElem_cons hlt] at er
      generalize ds[i] = dd at hd er
      obtain ⟨F3, x3, r3⟩ := w.yields i F2 H2 x H3 dd x2.froz x2.sub (.ext x1.sub x2.heap) hd y3
      have fDx : ∀ {Fa Ha Fb Hb : Hp} {va : List V}, Fa D = none → Ha D = some (.lst va) → Ext Fa Ha Fb Hb → Fb D = none := fun {Fa Ha Fb Hb va} h1 h2 xx => xx.stay h1 h2 fun vs z => nomatch z
      have hD3 := x3.heap _ _ hD2
      have fD3 := fDx fD2 hD2 x3
      obtain ⟨b, eb, er⟩ := Option.bind_eq_some_iff.mp er
      cases eg : g dd with
      | none => rw [h0 dd eg] at eb; cases eb
      | some as =>
        refine ⟨F3, dd, as, x3.sub, r3, eg, fun ws hw => ⟨?_, ?_⟩⟩
        · rw [wipe_many _ _ _ (hv dd as eg), wipe_wipe]
        · have vr2 : ∀ {Fb Hb : Hp}, Ext F1 H1 Fb Hb → Same F3 Fb → VR K (setAll (wipeS ρ vs) as) (setMany (wipe σ vs) (as.map (·.1)) ws) Fb Hb := fun {Fb Hb} xx sm => VR.setMany as ws ((vr.ext (x1.trans xx)).wipe vs) (Reps.mono sm _ _ hw)
          have x23 := x2.trans x3
          refine ⟨dd, as, eg, F3, b, eb, vr2 x23 (Same.refl _), fun F4 H4 x4 => ?_⟩
          have hD4 := x4.heap _ _ hD3
          have fD4 := fDx fD3 hD3 x4
          have x24 := x23.trans x4
          cases b with
          | false =>
            rw [if_neg Bool.false_ne_true] at er
            refine Eq.mpr (if_neg Bool.false_ne_true) ?_
            exact ⟨hlt, F4, acc, rest, vacc, x24, fD4, hD4, Reps.mono (x3.trans x4).froz _ _ rv, er, eall⟩
          | true =>
            rw [if_pos rfl] at er
            refine Eq.mpr (if_pos rfl) ?_
            obtain ⟨es, ees, er⟩ := Option.bind_eq_some_iff.mp er
            obtain ⟨ys, eys, er⟩ := Option.bind_eq_some_iff.mp er
            obtain ⟨rest2, er2, rfl⟩ := Option.map_eq_some_iff.mp er
            refine ⟨dd, as, eg, F4, es, ees, vr2 x24 x4.froz, fun J1 F5 H5 x5 w1 => ?_⟩
            have x25 := x24.trans x5
            refine ⟨fun j k H6 => k = es.length - j ∧ j ≤ es.length ∧ ∃ F6 acc2 ys2 vacc2, Ext F1 H1 F6 H6 ∧ (Same F5 F6 ∧ On F5 H5 H6) ∧ F6 D = none ∧ H6 D = some (.lst vacc2) ∧ Reps K F6 acc2 vacc2 ∧ lcD (nt1 dd) (f dd) (es.drop j) = some ys2 ∧ all = acc2 ++ (ys2 ++ rest2),
              ⟨_, rfl, Nat.zero_le _, F5, acc, ys, vacc, x25, ⟨Same.refl _, .refl⟩, fDx fD4 hD4 x5, x5.heap _ _ hD4, Reps.mono ((x3.trans x4).trans x5).froz _ _ rv, eys, eall⟩, ?_⟩
            rintro j k H6 ⟨rfl, hj, F6, acc2, ys2, vacc2, x6, ⟨s6, o6⟩, fD6, hD6, rv6, ey6, eall6⟩
            by_cases hjl : j < es.length
            · refine .inr ⟨w1.goes j F6 H6 hjl s6 x6.sub o6, fun H' => j + 1 ≤ es.length ∧ ∃ F6 acc2 ys2 vacc2, Ext F1 H1 F6 H' ∧ (Same F5 F6 ∧ On F5 H5 H') ∧ F6 D = none ∧ H' D = some (.lst vacc2) ∧ Reps K F6 acc2 vacc2 ∧ lcD (nt1 dd) (f dd) (es.drop (j + 1)) = some ys2 ∧ all = acc2 ++ (ys2 ++ rest2),
                fun H' ⟨h1, h2⟩ => ⟨_, by omega, rfl, h1, h2⟩, fun x' H7 y7 => ?_⟩
              have he : es[j]? = some es[j] := List.getElem?_eq_getElem hjl
              rw [List.drop_eq_getElem_cons hjl] at ey6
              generalize es[j] = ee at he ey6
              obtain ⟨F7, x7, r7⟩ := w1.yields j F6 H6 x' H7 ee s6 x6.sub o6 he y7
              obtain ⟨b1, eb1, cases_⟩ := lcD_cons ey6
              have hD7 := x7.heap _ _ hD6
              have fD7 := fDx fD6 hD6 x7
              cases eg1 : g1 ee with
              | none => rw [h01 dd ee eg1] at eb1; cases eb1
              | some as1 =>
                refine ⟨F7, ee, as1, x7.sub, r7, eg1, fun ws1 hw1 => ⟨?_, ?_⟩⟩
                · rw [wipe_many _ _ _ (hv1 ee as1 eg1), wipe_wipe]
                · have s37 : Same F3 F6 := (x4.froz.trans x5.froz).trans s6
                  have vr3 : VR K (rho2 ρ vs vs1 as as1) (setMany (wipe (setMany (wipe σ vs) (as.map (·.1)) ws) vs1) (as1.map (·.1)) ws1) F7 H7 := VR.setMany as1 ws1 ((vr2 (x6.trans x7) (s37.trans x7.froz)).wipe vs1) hw1
                  refine ⟨dd, as, ee, as1, eg, eg1, F7, b1, eb1, vr3, fun F8 H8 x8 => ?_⟩
                  have hD8 := x8.heap _ _ hD7
                  have fD8 := fDx fD7 hD7 x8
                  rcases cases_ with ⟨rfl, y, ys3, ey, eys3, rfl⟩ | ⟨rfl, er3⟩
                  · refine Eq.mpr (if_pos rfl) ?_
                    refine ⟨dd, as, ee, as1, eg, eg1, F8, y, ey, vr3.ext x8, fun v F9 H9 x9 r9 => ?_⟩
                    have xx := (x7.trans x8).trans x9
                    have hD9 := x9.heap _ _ hD8
                    have fD9 := fDx fD8 hD8 x9
                    refine ⟨vacc2, hD9, ?_, hjl, F9, acc2 ++ [y], ys3, vacc2 ++ [v], ?_, ⟨s6.trans xx.froz, ?_⟩, fD9, upd_same, (Reps.mono xx.froz _ _ rv6).append (.cons r9 .nil), eys3, by rw [eall6]; simp⟩
                    · rw [← rv6.len, sizeLine_eq]
                      rw [eall6, List.length_append, List.length_append, List.length_cons] at hlen
                      omega
                    · have xa := x6.trans xx
                      refine ⟨fun b o e => ?_, xa.froz, fun b o e => ?_, xa.new⟩
                      · rw [upd_ne (fun z => by subst z; rw [hD] at e; cases e)]; exact xa.heap b o e
                      · rw [upd_ne (fun z => by subst z; rw [fD9] at e; cases e)]; exact xa.sub b o e
                    · intro a o e
                      have hne : a ≠ D := fun z => by
                        subst z
                        have := s6 _ _ e
                        rw [fD6] at this; cases this
                      rw [upd_ne hne]
                      exact (On.ext x6.sub xx.heap a o (s6 _ _ e)).trans (o6 a o e)
                  · refine Eq.mpr (if_neg Bool.false_ne_true) ?_
                    have xx := x7.trans x8
                    exact ⟨hjl, F8, acc2, ys2, vacc2, x6.trans xx, ⟨s6.trans xx.froz, fun a o e => (On.ext x6.sub xx.heap a o (s6 _ _ e)).trans (o6 a o e)⟩, fD8, hD8, Reps.mono xx.froz _ _ rv6, er3, eall6⟩
            · have hj' : j = es.length := by omega
              subst hj'
              rw [List.drop_length] at ey6
              cases ey6
              exact .inl ⟨w1.stops F6 H6 s6 x6.sub o6, hlt, F6, acc2, rest2, vacc2, x6, fD6, hD6, rv6, er2, by rw [eall6]; rfl⟩
    · have hi' : i = ds.length := by omega
      subst hi'
      rw [List.drop_length] at er
      cases er
      rw [List.append_nil] at eall
      subst eall
      refine .inl ⟨w.stops F2 H2 x2.froz x2.sub (.ext x1.sub x2.heap), ?_⟩
      have x6 := x1.trans x2
      exact q D (.lst vacc) F2 H2 x6 (x1.heap.free hD) hD2 ⟨vacc, rfl, rv⟩ fD2
  · cases el
structure Lc2Ok (G : GX) (L : LX) (ρ : List Sl) (tg tg1 iter1 elt : Expr) (ifs ifs1 : List Expr) (scope : Scope) (own : List (Str × Nat)) (vs1 : List Nat) (g g1 : TGD) (nt : D → Option Bool) (mi : D → Option (List D)) (nt1 : D → D → Option Bool) (f : D → D → Option D) : Prop where
  blk : blkC L.N L.sc scope own = true
  tgt : GOk G (L.blk scope) tg g
  tgt1 : GOk G (L.blk scope) tg1 g1
  ins : ∀ d as, g d = some as → ∀ i ∈ as.map (·.1), i ∈ own.map (·.2)
  ins1 : ∀ d as, g1 d = some as → ∀ i ∈ as.map (·.1), i ∈ vs1
  sub : ∀ i ∈ vs1, i ∈ own.map (·.2)
  bad : ∀ d, g d = none → nt d = none
  bad1 : ∀ d e, g1 e = none → nt1 d e = none
  ifs : ∀ d as, g d = some as → TsOk G (L.blk scope) (setAll (wipeS ρ (own.map (·.2))) as) ifs (nt d)
  it1 : ∀ d as, g d = some as → IOk G (L.blk scope) (setAll (wipeS ρ (own.map (·.2))) as) tg1 iter1 (mi d)
  ifs1 : ∀ d as e as1, g d = some as → g1 e = some as1 → TsOk G (L.blk scope) (rho2 ρ (own.map (·.2)) vs1 as as1) ifs1 (nt1 d e)
  elt : ∀ d as e as1, g d = some as → g1 e = some as1 → EOk G (L.blk scope) (rho2 ρ (own.map (·.2)) vs1 as as1) elt (f d e)
theorem f_lc2 (hi : IOk G L ρ tg iter mi0) (h : Lc2Ok G L ρ tg tg1 iter1 elt ifs ifs1 scope own vs1 g g1 nt mi nt1 f) (hs : ∀ env x, foldedSetIterable iter env x = pure x := by intro _ _; rfl) (hs1 : ∀ env x, foldedSetIterable iter1 env x = pure x := by intro _ _; rfl) :
    FOk G L ρ (.ListComp elt [⟨tg, iter, ifs, 0⟩, ⟨tg1, iter1, ifs1, 0⟩] scope pos) (LC2 mi0 nt mi nt1 f) := fun X hX =>
  wkE (pe_lc2 (own := own) (g := tG G.K g) (g1 := tG G.K g1) (tt := tsD G.K ρ (own.map (·.2)) g nt) (wi1 := tiD G.K ρ (own.map (·.2)) g mi) (tt1 := ts2D G.K ρ (own.map (·.2)) vs1 g g1 nt1) (te := te2D G.K ρ (own.map (·.2)) vs1 g g1 f) hX.calm (by rw [hX.hN]; exact hX.nd) (hi X hX) (blkOk_by (by rw [hX.hN, hX.hsc]; exact h.blk)) h.sub
    (fun s H C cl fp => h.tgt _ (hX.blk s H scope C cl fp))
    (fun s H C cl fp => ⟨fun pins s' σ H' Q I ⟨d, as, eg, q⟩ => (h.ifs d as eg _ (hX.blk s H scope C cl fp)).run pins s' σ H' Q I q⟩)
    (fun s H C cl fp => ⟨fun pins s' σ H' R I ⟨d, as, eg, q⟩ => (h.it1 d as eg _ (hX.blk s H scope C cl fp)).run pins s' σ H' R I q⟩)
    (fun s H C cl fp => h.tgt1 _ (hX.blk s H scope C cl fp))
    (fun s H C cl fp => ⟨fun pins s' σ H' Q I ⟨d, as, e, as1, eg, eg1, q⟩ => (h.ifs1 d as e as1 eg eg1 _ (hX.blk s H scope C cl fp)).run pins s' σ H' Q I q⟩)
    (fun s H C cl fp => ⟨fun pins s' σ H' Q I ⟨d, as, e, as1, eg, eg1, q⟩ => (h.elt d as e as1 eg eg1 _ (hX.blk s H scope C cl fp)).run pins s' σ H' Q I q⟩) (hs _) hs1) fun σ H Q q => lc2_read h.ins h.bad h.ins1 h.bad1 q
theorem l2_11 {i j : Nat} (blk : blkC L.N L.sc scope own = true) (hg : GOk G (L.blk scope) tg (gN i)) (hg1 : GOk G (L.blk scope) tg1 (gN j)) (hi : i ∈ own.map (·.2)) (hj : j ∈ vs1) (hs : ∀ x ∈ vs1, x ∈ own.map (·.2))
    (ht : ∀ d, TsOk G (L.blk scope) (setS (wipeS ρ (own.map (·.2))) i (.val d)) ifs (nt d)) (hit : ∀ d, IOk G (L.blk scope) (setS (wipeS ρ (own.map (·.2))) i (.val d)) tg1 iter1 (mi d))
    (ht1 : ∀ d e, TsOk G (L.blk scope) (setS (wipeS (setS (wipeS ρ (own.map (·.2))) i (.val d)) vs1) j (.val e)) ifs1 (nt1 d e)) (he : ∀ d e, EOk G (L.blk scope) (setS (wipeS (setS (wipeS ρ (own.map (·.2))) i (.val d)) vs1) j (.val e)) elt (f d e)) :
    Lc2Ok G L ρ tg tg1 iter1 elt ifs ifs1 scope own vs1 (gN i) (gN j) nt mi nt1 f :=
  ⟨blk, hg, hg1, fun d as e k hk => (by cases e; simp at hk; subst hk; exact hi), fun d as e k hk => (by cases e; simp at hk; subst hk; exact hj), hs, fun d e => (by cases e), fun d e h => (by cases h), fun d as e => (by cases e; exact ht d), fun d as e => (by cases e; exact hit d),
    fun d as e as1 h h1 => (by cases h; cases h1; exact ht1 d e), fun d as e as1 h h1 => (by cases h; cases h1; exact he d e)⟩
def un21 {α : Type} (f : D → D → D → Option α) (d e : D) : Option α := un2 (fun a b => f a b e) d
theorem l2_21 {i i2 j : Nat} {nt : D → D → Option Bool} {mi : D → D → Option (List D)} {nt1 : D → D → D → Option Bool} {f : D → D → D → Option D} (blk : blkC L.N L.sc scope own = true) (hg : GOk G (L.blk scope) tg (gT [gN i, gN i2])) (hg1 : GOk G (L.blk scope) tg1 (gN j)) (hi : i ∈ own.map (·.2)) (hi2 : i2 ∈ own.map (·.2)) (hj : j ∈ vs1) (hs : ∀ x ∈ vs1, x ∈ own.map (·.2))
    (ht : ∀ a b, TsOk G (L.blk scope) (setS (setS (wipeS ρ (own.map (·.2))) i (.val a)) i2 (.val b)) ifs (nt a b)) (hit : ∀ a b, IOk G (L.blk scope) (setS (setS (wipeS ρ (own.map (·.2))) i (.val a)) i2 (.val b)) tg1 iter1 (mi a b))
    (ht1 : ∀ a b e, TsOk G (L.blk scope) (setS (wipeS (setS (setS (wipeS ρ (own.map (·.2))) i (.val a)) i2 (.val b)) vs1) j (.val e)) ifs1 (nt1 a b e)) (he : ∀ a b e, EOk G (L.blk scope) (setS (wipeS (setS (setS (wipeS ρ (own.map (·.2))) i (.val a)) i2 (.val b)) vs1) j (.val e)) elt (f a b e)) :
    Lc2Ok G L ρ tg tg1 iter1 elt ifs ifs1 scope own vs1 (gT [gN i, gN i2]) (gN j) (un2 nt) (un2 mi) (un21 nt1) (un21 f) := by
  refine ⟨blk, hg, hg1, fun d as e k hk => ?_, fun d as e k hk => (by cases e; simp at hk; subst hk; exact hj), hs, fun d e => ?_, fun d e h => (by cases h), fun d as e => ?_, fun d as e => ?_, fun d as e as1 h h1 => ?_, fun d as e as1 h h1 => ?_⟩
  · obtain ⟨a, b, as1, as2, rfl, e1, e2, rfl⟩ := gT2_inv e
    cases e1; cases e2
    simp at hk
    rcases hk with rfl | rfl
    · exact hi
    · exact hi2
  · unfold un2
    split
    · cases e
    · rfl
  · obtain ⟨a, b, as1, as2, rfl, e1, e2, rfl⟩ := gT2_inv e
    cases e1; cases e2
    exact ht a b
  · obtain ⟨a, b, as1, as2, rfl, e1, e2, rfl⟩ := gT2_inv e
    cases e1; cases e2
    exact hit a b
  · obtain ⟨a, b, as2, as3, rfl, e1, e2, rfl⟩ := gT2_inv h
    cases e1; cases e2; cases h1
    exact ht1 a b e
  · obtain ⟨a, b, as2, as3, rfl, e1, e2, rfl⟩ := gT2_inv h
    cases e1; cases e2; cases h1
    exact he a b e
/-- x = [.. for .. for ..] on the comprehension's own line -/
theorem b_lc2 {R : Type} {rest : List Stmt} {k : KS R} {M : D → Option R} {x : Str} {pos' p2 : Pos} (j : Nat) (hi : IOk G L ρ tg iter mi0) (h : Lc2Ok G L ρ tg tg1 iter1 elt ifs ifs1 scope own vs1 g g1 nt mi nt1 f)
    (hr : ∀ d, BOk G L (setS ρ j (.own d)) rest k (M d)) (hj : L.N[j]? = some x := by rfl) (hx : L.sc.names.lookup x = some .local := by rfl) (hk : L.sc.kind = .function := by rfl) (hl : (pos'.line == p2.line) = true := by rfl)
    (ho : (scope.names.any fun (n, k) => n == x && (k == .local || k == .cell)) = false := by decide +kernel) (hs : ∀ env x, foldedSetIterable iter env x = pure x := by intro _ _; rfl) (hs1 : ∀ env x, foldedSetIterable iter1 env x = pure x := by intro _ _; rfl) :
    BOk G L ρ (.Assign [.Name x pos'] (.ListComp elt [⟨tg, iter, ifs, 0⟩, ⟨tg1, iter1, ifs1, 0⟩] scope p2) pos :: rest) k ((LC2 mi0 nt mi nt1 f).bind M) := fun X hX =>
  wkSs (seqU (ps_setLc2 (i := j) (own := own) (g := tG G.K g) (g1 := tG G.K g1) (tt := tsD G.K ρ (own.map (·.2)) g nt) (wi1 := tiD G.K ρ (own.map (·.2)) g mi) (tt1 := ts2D G.K ρ (own.map (·.2)) vs1 g g1 nt1) (te := te2D G.K ρ (own.map (·.2)) vs1 g g1 f) hX.calm (by rw [hX.hN]; exact hX.nd) (by rw [hX.hN]; exact hj) (by rw [hX.hsc]; exact hx)
      (sw_true (by rw [hX.hsc]; exact hk) (by rw [hX.hsc]; exact hx) hl ho) (hi X hX) (blkOk_by (by rw [hX.hN, hX.hsc]; exact h.blk)) h.sub
    (fun s H C cl fp => h.tgt _ (hX.blk s H scope C cl fp))
    (fun s H C cl fp => ⟨fun pins s' σ H' Q I ⟨d, as, eg, q⟩ => (h.ifs d as eg _ (hX.blk s H scope C cl fp)).run pins s' σ H' Q I q⟩)
    (fun s H C cl fp => ⟨fun pins s' σ H' R I ⟨d, as, eg, q⟩ => (h.it1 d as eg _ (hX.blk s H scope C cl fp)).run pins s' σ H' R I q⟩)
    (fun s H C cl fp => h.tgt1 _ (hX.blk s H scope C cl fp))
    (fun s H C cl fp => ⟨fun pins s' σ H' Q I ⟨d, as, e, as1, eg, eg1, q⟩ => (h.ifs1 d as e as1 eg eg1 _ (hX.blk s H scope C cl fp)).run pins s' σ H' Q I q⟩)
    (fun s H C cl fp => ⟨fun pins s' σ H' Q I ⟨d, as, e, as1, eg, eg1, q⟩ => (h.elt d as e as1 eg eg1 _ (hX.blk s H scope C cl fp)).run pins s' σ H' Q I q⟩) (hs _) hs1) fun d => hr d X hX) fun D σ H ⟨B, F0, F, r, em, er, q⟩ => by
    obtain ⟨d, ed, em⟩ := Option.bind_eq_some_iff.mp em
    exact lc2_read (Q := fun x H1 => gName j x σ H1 fun σ H => ∃ d, tS G.K (setS ρ j (.own d)) k (M d) D σ H) h.ins h.bad h.ins1 h.bad1 ⟨F, d, ed, er.vr, fun p o F' H' x n ho ow hF => ⟨d, B, F0, F', r, em, own_new er x n ho ow hF j, q⟩⟩
end
section
variable {R S : Type} {G : GX} {L : LX} {ρ : List Sl} {v : S → List Sl} {body rest : List Stmt} {k : KS R} {tg iter : Expr} {pos : Pos} {mi : Option (List D)} {s0 : S} {M : S → Option R}
theorem c_forN1 {i : Nat} {Bd : S → D → Option (Lp S)} (hi : IOk G L ρ tg iter mi) (hg : GOk G L tg (gN i)) (h0 : leS (v s0) ρ) (hb : ∀ s a, BOk G L (setS (v s) i (.val a)) body (kL G.K v) (Bd s a)) (hr : ∀ s, BOk G L (v s) rest k (M s)) (hs : ∀ env x, foldedSetIterable iter env x = pure x := by intro _ _; rfl) : BOk G L ρ (.For tg iter body [] pos :: rest) k ((mi.bind fun ds => forB Bd s0 ds).bind M) :=
  b_forN hi hg h0 (fun s d h => nomatch h) (fun s d as e => by cases e; exact hb s d) hr hs
theorem c_forN2 {i j : Nat} {Bd : S → D → D → Option (Lp S)} (hi : IOk G L ρ tg iter mi) (hg : GOk G L tg (gT [gN i, gN j])) (h0 : leS (v s0) ρ) (hb : ∀ s a b, BOk G L (setS (setS (v s) i (.val a)) j (.val b)) body (kL G.K v) (Bd s a b)) (hr : ∀ s, BOk G L (v s) rest k (M s)) (hs : ∀ env x, foldedSetIterable iter env x = pure x := by intro _ _; rfl) : BOk G L ρ (.For tg iter body [] pos :: rest) k ((mi.bind fun ds => forB (fun s => un2 (Bd s)) s0 ds).bind M) :=
  b_forN hi hg h0 (fun s d h => by unfold un2; split <;> first | cases h | rfl) (fun s d as e => by obtain ⟨a, b, as1, as2, rfl, e1, e2, rfl⟩ := gT2_inv e; cases e1; cases e2; exact hb s a b) hr hs
theorem c_forN3 {i j l : Nat} {Bd : S → D → D → D → Option (Lp S)} (hi : IOk G L ρ tg iter mi) (hg : GOk G L tg (gT [gN i, gN j, gN l])) (h0 : leS (v s0) ρ) (hb : ∀ s a b c, BOk G L (setS (setS (setS (v s) i (.val a)) j (.val b)) l (.val c)) body (kL G.K v) (Bd s a b c)) (hr : ∀ s, BOk G L (v s) rest k (M s)) (hs : ∀ env x, foldedSetIterable iter env x = pure x := by intro _ _; rfl) : BOk G L ρ (.For tg iter body [] pos :: rest) k ((mi.bind fun ds => forB (fun s => un3 (Bd s)) s0 ds).bind M) :=
  b_forN hi hg h0 (fun s d h => by unfold un3; split <;> first | cases h | rfl) (fun s d as e => by obtain ⟨a, b, c, as1, as2, as3, rfl, e1, e2, e3, rfl⟩ := gT3_inv e; cases e1; cases e2; cases e3; exact hb s a b c) hr hs
theorem c_forN4 {i j l q : Nat} {Bd : S → D → D → D → D → Option (Lp S)} (hi : IOk G L ρ tg iter mi) (hg : GOk G L tg (gT [gN i, gN j, gN l, gN q])) (h0 : leS (v s0) ρ) (hb : ∀ s a b c d, BOk G L (setS (setS (setS (setS (v s) i (.val a)) j (.val b)) l (.val c)) q (.val d)) body (kL G.K v) (Bd s a b c d)) (hr : ∀ s, BOk G L (v s) rest k (M s)) (hs : ∀ env x, foldedSetIterable iter env x = pure x := by intro _ _; rfl) : BOk G L ρ (.For tg iter body [] pos :: rest) k ((mi.bind fun ds => forB (fun s => un4 (Bd s)) s0 ds).bind M) :=
  b_forN hi hg h0 (fun s d h => by unfold un4; split <;> first | cases h | rfl) (fun s d as e => by obtain ⟨a, b, c, d, as1, as2, as3, as4, rfl, e1, e2, e3, e4, rfl⟩ := gT4_inv e; cases e1; cases e2; cases e3; cases e4; exact hb s a b c d) hr hs
end
/-! ### a module's constants -/
theorem e_gI {G : GX} {L : LX} {ρ : List Sl} {x : Str} {i : Int} {pos : Pos} (h : ∃ u, G.mg x = some u ∧ RelV (.int i) u) (hg : L.sc.names.lookup x = some .globalImplicit := by rfl) (hd : (x == ("__debug__" : Str)) = false := by decide) : EOk G L ρ (.Name x pos) (some (.int i)) := by
  obtain ⟨u, h1, h2⟩ := h
  exact e_glob hg h1 h2 (fun _ _ => rep_i) hd
theorem e_gS {G : GX} {L : LX} {ρ : List Sl} {x s : Str} {pos : Pos} (h : ∃ u, G.mg x = some u ∧ RelV (.str s) u) (hg : L.sc.names.lookup x = some .globalImplicit := by rfl) (hd : (x == ("__debug__" : Str)) = false := by decide) : EOk G L ρ (.Name x pos) (some (.str s)) := by
  obtain ⟨u, h1, h2⟩ := h
  exact e_glob hg h1 h2 (fun _ _ => rep_s) hd
end DL
set_option autoImplicit false
set_option maxRecDepth 100000
set_option maxHeartbeats 4000000
namespace DL
open PySem PySem.Spec PySem.SeqAt PyProof.Rows L2
/-! ### a loop, over any walk -/
section
variable {R S : Type} {G : GX} {L : LX} {ρ : List Sl} {v : S → List Sl} {body rest : List Stmt} {k : KS R} {tg iter c : Expr} {pos p1 : Pos} {g : TGD} {mi : Option (List D)} {s0 : S} {M : S → Option R} {x : Str}
theorem forR_core {K : PySem.W.Frag} {wi : TI} {B F0 F H : Hp} {σ : L2.St} {E : Ends} {ds : List D} {Bd : S → D → Option (Lp S)} {sf : Rs S D} (hw : ∀ R', (∀ J F1 H1, Ext F H F1 H1 → WalkD K J F1 H1 ds → R' J H1) → wi σ H R')
    (er : ER K B F0 ρ σ F H) (h0 : leS (v s0) ρ) (bad : ∀ s d, g d = none → Bd s d = none) (ef : forR Bd s0 ds = some sf) (nx : ∀ s σ2 F2 H2, sf = .nx s → ER K B F0 (v s) σ2 F2 H2 → E.nx σ2 H2) (rt : ∀ d, sf = .ex d → kD K d B F0 E) :
    tFor wi (tG K g) (tbD K v g (kL K v) Bd) E σ H := by
  refine hw _ fun J F1 H1 x1 w => ?_
  obtain ⟨B', er1, hon, bk1, bk2⟩ := (er.go x1).hold
  have on : ∀ {F2 H2 : Hp} {s : S} {σ2 : L2.St}, ER K B' F1 (v s) σ2 F2 H2 → On F1 H1 H2 := fun {F2 H2 s σ2} e a o h => by
    have h0 := hon a o h
    rcases x1.sub a o h with z | ⟨_, ob, z⟩ <;> rw [z] at h0 <;> rw [e.ret.keep _ _ h0, z]
  have nxt : ∀ (s : S) (σ2 : L2.St) (F2 H2 : Hp), sf = .nx s → ER K B' F1 (v s) σ2 F2 H2 → E.nx σ2 H2 := fun s σ2 F2 H2 e er2 => nx s σ2 F2 H2 e (ER.back bk1 bk2 er2)
  refine ⟨fun i m σ H => m = ds.length - i ∧ i ≤ ds.length ∧ ∃ s F2, ER K B' F1 (v s) σ F2 H ∧ forR Bd s (ds.drop i) = some sf, ⟨_, rfl, Nat.zero_le _, s0, F1, er1.le h0, ef⟩, ?_⟩
  rintro i m σ2 H2 ⟨rfl, hi, s, F2, er2, ef2⟩
  by_cases hlt : i < ds.length
  · refine .inr ⟨w.goes i F2 H2 hlt er2.ret.ext er2.vr.sub (on er2), fun σ H => i + 1 ≤ ds.length ∧ ∃ s F2, ER K B' F1 (v s) σ F2 H ∧ forR Bd s (ds.drop (i + 1)) = some sf, fun σ' H' ⟨a, b⟩ => ⟨_, by omega, rfl, a, b⟩, fun x H3 y => ?_⟩
    have hd : ds[i]? = some ds[i] := List.getElem?_eq_getElem hlt
    rw [List.drop_eq_getElem_cons hlt] at ef2
    generalize ds[i] = dd at hd ef2
    obtain ⟨s', es', ef2⟩ := Option.bind_eq_some_iff.mp ef2
    obtain ⟨F3, x3, r3⟩ := w.yields i F2 H2 x H3 dd er2.ret.ext er2.vr.sub (on er2) hd y
    cases eg : g dd with
    | none => rw [bad s dd eg] at es'; cases es'
    | some as =>
      refine ⟨F3, dd, as, x3.sub, r3, eg, fun ws hw => ⟨s, dd, as, eg, B', F1, F3, s', es', (er2.go x3).setMany as ws hw, ?_⟩⟩
      cases s' with
      | go s' => exact ⟨fun σ4 F4 H4 er4 => ⟨hlt, s', F4, er4, ef2⟩, fun σ4 F4 H4 er4 => ⟨hlt, s', F4, er4, ef2⟩⟩
      | br s' => cases ef2; exact ⟨fun σ4 F4 H4 er4 => nxt _ _ _ _ rfl er4, trivial⟩
      | rt d => cases ef2; exact ⟨fun vv F5 H5 r5 rv => rt _ rfl vv F5 H5 (bk2 _ _ r5) rv, trivial⟩
  · have : i = ds.length := by omega
    subst this
    rw [List.drop_length] at ef2
    cases ef2
    exact .inl ⟨w.stops F2 H2 er2.ret.ext er2.vr.sub (on er2), nxt _ _ _ _ rfl er2⟩
/-! ### the keys of a dict -/
def keysD : D → Option (List D)
  | .dI kvs => some (kvs.map fun kv => .int kv.1)
  | .dT kvs => some (kvs.map fun kv => .tup (kv.1.map .int))
  | _ => none
theorem keysT_at {K : PySem.W.Frag} {F : Hp} : ∀ {kvs : List (List Int × D)} {ws : List (List Key × V)} {i : Nat} {kx : List Key} {vx : V}, RepT K F kvs ws → ws[i]? = some (kx, vx) → ∃ kv, kvs[i]? = some kv ∧ kx = kv.1.map Sum.inl
  | [], ws, i, kx, vx, r, h => by unfold RepT at r; subst r; simp at h
  | (j, d) :: kvs, ws, i, kx, vx, r, h => by
    unfold RepT at r
    obtain ⟨w, q, rfl, r1, r2⟩ := r
    cases i with
    | zero => simp at h; exact ⟨(j, d), rfl, h.1.symm⟩
    | succ i =>
      obtain ⟨kv, h1, h2⟩ := keysT_at (i := i) r2 (by simpa using h)
      exact ⟨kv, by simpa using h1, h2⟩
theorem repT_len {K : PySem.W.Frag} {F : Hp} : ∀ {kvs : List (List Int × D)} {ws : List (List Key × V)}, RepT K F kvs ws → ws.length = kvs.length
  | [], ws, r => by unfold RepT at r; subst r; rfl
  | (j, d) :: kvs, ws, r => by
    unfold RepT at r
    obtain ⟨w, q, rfl, r1, r2⟩ := r
    simp [repT_len r2]
/-- a tuple that stands is tracked from here on -/
theorem track {K : PySem.W.Frag} {F H : Hp} {q : Addr} {ks : List Int} (s : Sub F H) (h : H q = some (.tup ((ks.map Sum.inl : List Key).map kV))) : ∃ F3, Ext F H F3 H ∧ Rep K F3 (.tup (ks.map .int)) (.ref q) := by
  have hm : ((ks.map Sum.inl : List Key).map kV) = ks.map V.int := by rw [List.map_map]; rfl
  rw [hm] at h
  cases e : F q with
  | some o =>
    have e2 : o = .tup (ks.map V.int) := by
      rcases s q o e with h1 | ⟨_, ob, h1⟩
      · rw [h] at h1; exact (Option.some.inj h1).symm
      · rw [h] at h1; cases h1
    subst e2
    exact ⟨F, .refl s, by unfold Rep; exact ⟨q, _, rfl, e, Reps.ofInts _⟩⟩
  | none =>
    refine ⟨L2.upd F q (.tup (ks.map V.int)), ⟨Same.refl _, same_new e, fun a o ea => ?_, fun a o ea en => ?_⟩, ?_⟩
    · by_cases ha : a = q
      · subst ha
        rw [upd_same] at ea
        cases ea
        exact .inl h
      · rw [upd_ne ha] at ea
        exact s a o ea
    · by_cases ha : a = q
      · subst ha
        rw [upd_same] at ea
        cases ea
        exact .inr ⟨_, rfl⟩
      · rw [upd_ne ha, en] at ea
        cases ea
    · unfold Rep
      exact ⟨q, _, rfl, upd_same, Reps.ofInts _⟩
theorem keys_at {K : PySem.W.Frag} {F : Hp} : ∀ {kvs : List (Int × D)} {ws : List (Key × V)} {i : Nat} {kx : Key} {vx : V}, RepI K F kvs ws → ws[i]? = some (kx, vx) → ∃ kv, kvs[i]? = some kv ∧ kx = Sum.inl kv.1
  | [], ws, i, kx, vx, r, h => by unfold RepI at r; subst r; simp at h
  | (j, d) :: kvs, ws, i, kx, vx, r, h => by
    unfold RepI at r
    obtain ⟨w, q, rfl, r1, r2⟩ := r
    cases i with
    | zero => simp at h; exact ⟨(j, d), rfl, h.1.symm⟩
    | succ i =>
      obtain ⟨kv, h1, h2⟩ := keys_at (i := i) r2 (by simpa using h)
      exact ⟨kv, by simpa using h1, h2⟩
theorem repI_len {K : PySem.W.Frag} {F : Hp} : ∀ {kvs : List (Int × D)} {ws : List (Key × V)}, RepI K F kvs ws → ws.length = kvs.length
  | [], ws, r => by unfold RepI at r; subst r; rfl
  | (j, d) :: kvs, ws, r => by
    unfold RepI at r
    obtain ⟨w, q, rfl, r1, r2⟩ := r
    simp [repI_len r2]
theorem walkD_keys {K : PySem.W.Frag} {F H0 : Hp} {kvs : List (Int × D)} {ws : List (Key × V)} {a : Addr} {od : Obj} (h : F a = some (.dK ws)) (r : RepI K F kvs ws) (hH : H0 a = some (.frz od (.dK ws))) : WalkD K (Itk a od ws) F H0 (kvs.map fun kv => .int kv.1) :=
  walkD_ofO walk_keys (by rw [repI_len r, List.length_map]) (fun F2 H hs s o => by rw [o a _ h, hH]) fun i F2 H x H' d hs s hd ⟨e, kx, vx, h1, h2⟩ => by
    subst e
    obtain ⟨kv, h3, h4⟩ := keys_at r h1
    rw [List.getElem?_map, h3] at hd
    cases hd
    rw [h2, h4]
    exact ⟨F2, .refl s, rep_i⟩
theorem walkD_keysT {K : PySem.W.Frag} {F H0 : Hp} {kvs : List (List Int × D)} {ws : List (List Key × V)} {a : Addr} {od : Obj} (h : F a = some (.dT ws)) (r : RepT K F kvs ws) (hH : H0 a = some (.frz od (.dT ws))) : WalkD K (Itkt a od ws) F H0 (kvs.map fun kv => .tup (kv.1.map .int)) :=
  walkD_ofO walk_keysT (by rw [repT_len r, List.length_map]) (fun F2 H hs s o => by rw [o a _ h, hH]) fun i F2 H x H' d hs s hd ⟨e, kx, vx, q, h1, h2, h5⟩ => by
    subst e
    obtain ⟨kv, h3, h4⟩ := keysT_at r h1
    rw [List.getElem?_map, h3] at hd
    cases hd
    rw [h2]
    rw [h4] at h5
    exact track s h5
open Classical in
/-- an ER over a heap in which a frozen dict is locked -/
theorem ER.lock {K : PySem.W.Frag} {B F0 F H : Hp} {σ : L2.St} {a : Addr} {u : HO} {od : Obj} (er : ER K B F0 ρ σ F H) (hF : F a = some u) (hH : H a = some u) (hu : ∀ vs, u ≠ .tup vs) :
    ∃ B', ER K B' F ρ σ F (L2.upd H a (.frz od u)) ∧ (∀ p, B' p = none → B p = none) ∧ ∀ F' H', RetOk B' F F' H' → H' a = some (.frz od u) ∧ RetOk B F0 F' (L2.upd H' a u) := by
  have hB : ∀ b o, B b = some o → H b = some o := er.ret.keep
  have h1 : ∀ p : Addr, (if F p ≠ none then L2.upd H a (.frz od u) p else B p) = none → B p = none := fun p h => by
    cases e : B p with
    | none => rfl
    | some o =>
      split at h
      · by_cases hp : p = a
        · subst hp; rw [upd_same] at h; cases h
        · rw [upd_ne hp, hB p o e] at h; cases h
      · rw [e] at h; cases h
  have hs : Sub F (L2.upd H a (.frz od u)) := fun b o e => by
    by_cases hb : b = a
    · subst hb
      rw [hF] at e; cases e
      exact .inr ⟨hu, od, upd_same⟩
    · rw [upd_ne hb]; exact er.ret.sub b o e
  refine ⟨fun p => if F p ≠ none then L2.upd H a (.frz od u) p else B p, ⟨⟨hs, er.vr.len, er.vr.vals, fun i d h => ?_⟩, ⟨fun b o e => ?_, hs, Same.refl _, fun b o e n => by rw [e] at n; cases n⟩, fun i d p h2 h3 => ?_, er.dist⟩, h1, fun F' H' r => ?_⟩
  · obtain ⟨p, o, a1, a2, a3, a4⟩ := er.vr.owns i d h
    have : p ≠ a := fun z => by subst z; rw [hF] at a4; cases a4
    exact ⟨p, o, a1, by rw [upd_ne this]; exact a2, a3, a4⟩
  · split at e
    · exact e
    · have : b ≠ a := fun z => by subst z; rename_i hn; exact hn (by rw [hF]; simp)
      rw [upd_ne this]; exact hB b o e
  · obtain ⟨p', o, a1, a2, a3, a4⟩ := er.vr.owns i d h2
    rw [a1] at h3; cases h3
    show (if F _ ≠ none then L2.upd H a (.frz od u) _ else B _) = none
    rw [if_neg (by simp [a4])]
    exact er.ownB i d _ h2 a1
  · have ha : H' a = some (.frz od u) := by
      apply r.keep
      show (if F a ≠ none then L2.upd H a (.frz od u) a else B a) = _
      rw [if_pos (by rw [hF]; simp), upd_same]
    refine ⟨ha, ⟨fun b o e => ?_, fun b o e => ?_, er.ret.ext.trans r.ext, fun b o e n => ?_⟩⟩
    · by_cases hb : b = a
      · subst hb
        rw [upd_same]
        have := hB b o e
        rw [hH] at this; exact this
      · rw [upd_ne hb]
        apply r.keep
        show (if F b ≠ none then L2.upd H a (.frz od u) b else B b) = some o
        split
        · rw [upd_ne hb]; exact hB b o e
        · exact e
    · by_cases hb : b = a
      · subst hb
        rw [r.ext _ _ hF] at e; cases e
        exact .inl upd_same
      · rw [upd_ne hb]; exact r.sub b o e
    · cases e2 : F b with
      | none => exact (r.fresh b o e e2).imp (h1 b) id
      | some w =>
        have e3 := r.ext b w e2
        rw [e] at e3
        cases e3
        exact er.ret.fresh b _ e2 n
theorem ER.unlock {K : PySem.W.Frag} {B B' F0 F : Hp} {ρ' : List Sl} {σ : L2.St} {a : Addr} {u : HO} {F' H' : Hp} (hF : F a = some u) (h1 : ∀ p, B' p = none → B p = none) (h2 : RetOk B F0 F' (L2.upd H' a u)) (er : ER K B' F ρ' σ F' H') : ER K B F0 ρ' σ F' (L2.upd H' a u) :=
  ⟨⟨h2.sub, er.vr.len, er.vr.vals, fun i d h => by
    obtain ⟨p, o, a1, a2, a3, a4⟩ := er.vr.owns i d h
    have : p ≠ a := fun z => by subst z; rw [er.ret.ext _ _ hF] at a4; cases a4
    exact ⟨p, o, a1, by rw [upd_ne this]; exact a2, a3, a4⟩⟩, h2, fun i d p a b => h1 p (er.ownB i d p a b), er.dist⟩
theorem ps_or {X : Cx} {st : Stmt} {t t' : TS} (h : PS X st t) (h' : PS X st t') : PS X st (fun D σ H => t D σ H ∨ t' D σ H) := ⟨fun pins s σ H D I q => q.elim (h.run pins s σ H D I) (h'.run pins s σ H D I)⟩
theorem b_forRK (i : Nat) {y : D} (hy : nthS ρ i = .val y) {Bd : S → D → Option (Lp S)} {f : D → R} (hk : IsRt G.K k f) (hg : GOk G L tg g) (h0 : leS (v s0) ρ) (bad : ∀ s d, g d = none → Bd s d = none) (hb : ∀ s d as, g d = some as → BOk G L (setAll (v s) as) body (kL G.K v) (Bd s d))
    (hr : ∀ s, BOk G L (v s) rest k (M s)) (hj : L.N[i]? = some x := by rfl) (hv : Vis L.sc x := by first | exact Or.inl rfl | exact Or.inr (Or.inl rfl) | exact Or.inr (Or.inr rfl)) (hd : (x == ("__debug__" : Str)) = false := by decide) (hcd : (x == ("__classdict__" : Str)) = false := by decide)
    (hs : ∀ env z, foldedSetIterable (.Name x p1) env z = pure z := by intro _ _; rfl) : BOk G L ρ (.For tg (.Name x p1) body [] pos :: rest) k (bindR ((keysD y).bind fun ds => forR Bd s0 ds) f M) := fun X hX => PSs.nox <| by
  have hX' := hX.nox
  have hf := ps_for (pos := pos) (tb := tbD G.K v g (kL G.K v) Bd) PassesOwn.never hX'.calm (pi_keys (tg := tg) (p_own hX' (pos := p1) i hj hv hd hcd)) (hg _ hX') ⟨fun pins s σ H D I ⟨s1, d, as, eg, q⟩ => (hb s1 d as eg _ hX').run pins s σ H D I q⟩ (hs _)
  refine wkSs (seqU (ps_or hf (ps_lock hf)) fun s => hr s _ hX') fun D σ H ⟨B, F0, F, r, em, er, q⟩ => ?_
  obtain ⟨sf, ef, em⟩ := Option.bind_eq_some_iff.mp em
  obtain ⟨ds, ed, ef⟩ := Option.bind_eq_some_iff.mp ef
  have nxt : ∀ (s : S) (σ2 : L2.St) (F2 H2 : Hp), sf = .nx s → ER G.K B F0 (v s) σ2 F2 H2 → ∃ s, tS G.K (v s) k (M s) D σ2 H2 := fun s σ2 F2 H2 e er2 => ⟨s, B, F0, F2, r, by rw [e] at em; exact em, er2, q⟩
  have rtt : ∀ d, sf = .ex d → kD G.K d B F0 D := fun d e => by
    rw [e] at em
    cases em
    exact hk.rt _ _ _ _ q
  cases y with
  | dI kvs =>
    cases ed
    obtain ⟨vv, hσ, rv⟩ := er.vr.vals i _ hy
    unfold Rep at rv
    obtain ⟨a, ws, rfl, hF, rI⟩ := rv
    rcases er.vr.sub a _ hF with hH | ⟨_, od, hH⟩
    · refine .inr ⟨a, .dK ws, hH, trivial, fun od => ?_⟩
      obtain ⟨B', er2, bk1, bk2⟩ := er.lock (od := od) hF hH (fun vs z => by cases z)
      refine forR_core (ds := kvs.map fun kv => .int kv.1) (sf := sf) (fun R' hR => ?_) er2 h0 bad ef (fun s σ2 F2 H2 e er3 => ?_) (fun d e vv F5 H5 r5 rv5 => ?_)
      · exact ⟨.ref a, hσ, a, od, rfl, .inl ⟨ws, upd_same, hR _ F _ (.refl er2.ret.sub) (walkD_keys hF rI upd_same)⟩⟩
      · obtain ⟨e1, e2⟩ := bk2 F2 H2 er3.ret
        exact ⟨e1, nxt s σ2 F2 _ e (ER.unlock hF bk1 e2 er3)⟩
      · obtain ⟨e1, e2⟩ := bk2 F5 H5 r5
        exact ⟨e1, rtt d e vv F5 _ e2 rv5⟩
    · refine .inl (forR_core (ds := kvs.map fun kv => .int kv.1) (sf := sf) (fun R' hR => ?_) er h0 bad ef (fun s σ2 F2 H2 e er3 => nxt s σ2 F2 H2 e er3) (fun d e => rtt d e))
      exact ⟨.ref a, hσ, a, od, rfl, .inl ⟨ws, hH, hR _ F _ (.refl er.ret.sub) (walkD_keys hF rI hH)⟩⟩
  | dT kvs =>
    cases ed
    obtain ⟨vv, hσ, rv⟩ := er.vr.vals i _ hy
    unfold Rep at rv
    obtain ⟨a, ws, rfl, hF, rI⟩ := rv
    rcases er.vr.sub a _ hF with hH | ⟨_, od, hH⟩
    · refine .inr ⟨a, .dT ws, hH, trivial, fun od => ?_⟩
      obtain ⟨B', er2, bk1, bk2⟩ := er.lock (od := od) hF hH (fun vs z => by cases z)
      refine forR_core (ds := kvs.map fun kv => .tup (kv.1.map .int)) (sf := sf) (fun R' hR => ?_) er2 h0 bad ef (fun s σ2 F2 H2 e er3 => ?_) (fun d e vv F5 H5 r5 rv5 => ?_)
      · exact ⟨.ref a, hσ, a, od, rfl, .inr ⟨ws, upd_same, hR _ F _ (.refl er2.ret.sub) (walkD_keysT hF rI upd_same)⟩⟩
      · obtain ⟨e1, e2⟩ := bk2 F2 H2 er3.ret
        exact ⟨e1, nxt s σ2 F2 _ e (ER.unlock hF bk1 e2 er3)⟩
      · obtain ⟨e1, e2⟩ := bk2 F5 H5 r5
        exact ⟨e1, rtt d e vv F5 _ e2 rv5⟩
    · refine .inl (forR_core (ds := kvs.map fun kv => .tup (kv.1.map .int)) (sf := sf) (fun R' hR => ?_) er h0 bad ef (fun s σ2 F2 H2 e er3 => nxt s σ2 F2 H2 e er3) (fun d e => rtt d e))
      exact ⟨.ref a, hσ, a, od, rfl, .inr ⟨ws, hH, hR _ F _ (.refl er.ret.sub) (walkD_keysT hF rI hH)⟩⟩
  | _ => cases ed
end
end DL
set_option autoImplicit false
set_option maxRecDepth 100000
set_option maxHeartbeats 4000000
namespace DL
open PySem PySem.Spec PySem.SeqAt PyProof.Rows L2
/-! ### d.get(k) -/
def getKD (x y : D) : Option D := match x, y with
  | .dI kvs, .int i => some ((lookK kvs i).getD .non)
  | .dT kvs, .tup ks => (intsOf ks).map fun ks => (lookK kvs ks).getD .non
  | _, _ => none
section
variable {G : GX} {L : LX} {ρ : List Sl} {o e : Expr} {mo m : Option D} {apos cpos p1 : Pos} {x : Str}
theorem getK_rule {X : Cx} {F2 H2 : Hp} {d0 y d : D} {a : Addr} {ob : HO} {vi : V} (ow : OwnO G.K F2 d0 ob) (hr : Rd H2 a ob) (s : Sub F2 H2) (ri : Rep G.K F2 y vi) (h : getKD d0 y = some d) {Q : VK} (q : ∀ v, Rep G.K F2 d v → Q v H2) :
    ∃ ov, DGet H2 a vi ov ∧ Q (ov.getD .non) H2 := by
  unfold getKD at h
  split at h
  · cases h
    obtain ⟨ws, rfl, rv⟩ := ow
    unfold Rep at ri
    rename_i kvs i
    refine ⟨valV ws (Sum.inl i), .inl ⟨ws, Sum.inl i, hr, ri, rfl⟩, ?_⟩
    rcases rv.look (k := i) with ⟨h2, h3⟩ | ⟨d', v, h2, h3, h4⟩
    · rw [h2] at q; rw [h3]
      exact q .non (by unfold Rep; rfl)
    · rw [h2] at q; rw [h3]
      exact q v h4
  · obtain ⟨ws, rfl, rv⟩ := ow
    unfold Rep at ri
    obtain ⟨p2, ws2, rfl, h2, q2⟩ := ri
    obtain ⟨ks, hks, rfl⟩ := Option.map_eq_some_iff.mp h
    have hw := intsOf_rep hks q2
    subst hw
    refine ⟨valV ws (ks.map Sum.inl), .inr ⟨ws, _, p2, hr, rfl, s.tup h2, rfl⟩, ?_⟩
    rcases rv.look (k := ks) with ⟨h3, h4⟩ | ⟨d', v, h3, h4, h5⟩
    · rw [h3] at q; rw [h4]
      exact q .non (by unfold Rep; rfl)
    · rw [h3] at q; rw [h4]
      exact q v h5
  · cases h
theorem isD_of {F H : Hp} {d0 y d : D} {a : Addr} {ob : HO} (ow : OwnO G.K F d0 ob) (hr : Rd H a ob) (h : getKD d0 y = some d) : IsD H a := by
  unfold getKD at h
  split at h
  · obtain ⟨ws, rfl, _⟩ := ow; exact .inl ⟨ws, hr⟩
  · obtain ⟨ws, rfl, _⟩ := ow; exact .inr ⟨ws, hr⟩
  · cases h
theorem e_get (ho : EOk G L ρ o mo) (he : EOk G L ρ e m)
    (hb : ∀ env, attributeBase o "get" env (eval o env) = eval o env := by intro _; rfl)
    (hf : ∀ env, ((backTo cpos (starEach [e] env)).all (fun x => !x.1) && (backToKw cpos (keywordEach [] env)).all (fun x => x.1.isSome)
      && decide (([e] : List Expr).length + ([] : List Keyword).length + (if ([] : List Keyword).isEmpty then 0 else 1) < 30)) = true := by intro _; rfl)
    (hl : (apos.endLine == cpos.line) = true := by rfl) (ht : ∀ env, backTo cpos (starEach [e] env) = [(false, eval e env)] := by intro _; rfl) :
    EOk G L ρ (.Call (.Attribute o "get" apos) [e] [] cpos) (E2 getKD mo m) := fun X hX =>
  wkE (pe_dget1 (by have := hX.room.units; omega) (ho X hX) (he X hX) ⟨hb _, hf _, hl, ht _⟩) fun σ H Q ⟨F, d, em, vr, q⟩ => by
    obtain ⟨d0, y, ex, ey, h⟩ := E2_some em
    refine ⟨F, d0, ex, vr, fun v1 F1 H1 x1 r1 => ?_⟩
    obtain ⟨a, ob, rfl, h1, ow⟩ : ∃ a ob, v1 = .ref a ∧ F1 a = some ob ∧ OwnO G.K F1 d0 ob := by
      unfold getKD at h
      split at h
      · unfold Rep at r1
        obtain ⟨a, ws, rfl, h1, q1⟩ := r1
        exact ⟨a, _, rfl, h1, ws, rfl, q1⟩
      · unfold Rep at r1
        obtain ⟨a, ws, rfl, h1, q1⟩ := r1
        exact ⟨a, _, rfl, h1, ws, rfl, q1⟩
      · cases h
    refine ⟨a, rfl, isD_of ow (x1.sub.rd h1) h, F1, y, ey, vr.ext x1, fun v2 F2 H2 x2 r2 => ?_⟩
    exact getK_rule (X := X) (ow.mono x2.froz) (x2.sub.rd (x2.froz _ _ h1)) x2.sub r2 h fun v rv => q v F2 H2 (x1.trans x2) rv
theorem e_geto (j : Nat) {y : D} (hy : nthS ρ j = .own y := by rfl) (he : EOk G L ρ e m) (hN : L.N[j]? = some x := by rfl) (hv : Vis L.sc x := by first | exact Or.inl rfl | exact Or.inr (Or.inl rfl) | exact Or.inr (Or.inr rfl))
    (hd : (x == ("__debug__" : Str)) = false := by decide) (hcd : (x == ("__classdict__" : Str)) = false := by decide)
    (hb : ∀ env, attributeBase (.Name x p1) "get" env (eval (.Name x p1) env) = eval (.Name x p1) env := by intro _; rfl)
    (hf : ∀ env, ((backTo cpos (starEach [e] env)).all (fun x => !x.1) && (backToKw cpos (keywordEach [] env)).all (fun x => x.1.isSome)
      && decide (([e] : List Expr).length + ([] : List Keyword).length + (if ([] : List Keyword).isEmpty then 0 else 1) < 30)) = true := by intro _; rfl)
    (hl : (apos.endLine == cpos.line) = true := by rfl) (ht : ∀ env, backTo cpos (starEach [e] env) = [(false, eval e env)] := by intro _; rfl) :
    EOk G L ρ (.Call (.Attribute (.Name x p1) "get" apos) [e] [] cpos) (E1 (getKD y) m) := fun X hX =>
  wkE (pe_dget1 (by have := hX.room.units; omega) (p_own hX j hN hv hd hcd) (he X hX) ⟨hb _, hf _, hl, ht _⟩) fun σ H Q ⟨F, d, em, vr, q⟩ => by
    obtain ⟨ik, ei, em⟩ := Option.bind_eq_some_iff.mp em
    obtain ⟨p', ob, e1, e2, ow, hF⟩ := vr.owns j y hy
    refine ⟨.ref p', e1, p', rfl, isD_of ow (.inl e2) em, F, ik, ei, vr, fun vi F1 H1 x1 ri => ?_⟩
    exact getK_rule (X := X) (ow.mono x1.froz) (.inl (x1.heap _ _ e2)) x1.sub ri em fun v rv => q v F1 H1 x1 rv
end
/-! ### loops over a dict's keys: plain ones, those that may stop early -/
section
variable {R S : Type} {G : GX} {L : LX} {ρ : List Sl} {v : S → List Sl} {body rest : List Stmt} {k : KS R} {tg iter c : Expr} {pos p1 : Pos} {s0 : S} {M : S → Option R} {x : Str}
theorem to_kL {sts : List Stmt} {m : Option S} (h : BOk G L ρ sts (kP G.K v) m) : BOk G L ρ sts (kL G.K v) (m.map Lp.go) := fun X hX =>
  wkSs (h X hX) fun D σ H ⟨B, F0, F, r, em, er, q⟩ => by
    obtain ⟨s, e1, e2⟩ := Option.map_eq_some_iff.mp em
    subst e2
    exact ⟨B, F0, F, s, e1, er, q.2⟩
theorem forR_go {Bd : S → D → Option S} : ∀ (ds : List D) (s : S), forR (fun s d => (Bd s d).map Lp.go) s ds = (forP Bd s ds).map Rs.nx
  | [], s => rfl
  | d :: ds, s => by
    unfold forR forP
    cases Bd s d with
    | none => rfl
    | some s' => exact forR_go ds s'
theorem c_forRK1 (i : Nat) {j : Nat} {y : D} (hy : nthS ρ i = .val y) {Bd : S → D → Option (Lp S)} {f : D → R} (hk : IsRt G.K k f) (hg : GOk G L tg (gN j)) (h0 : leS (v s0) ρ) (hb : ∀ s a, BOk G L (setS (v s) j (.val a)) body (kL G.K v) (Bd s a))
    (hr : ∀ s, BOk G L (v s) rest k (M s)) (hj : L.N[i]? = some x := by rfl) (hv : Vis L.sc x := by first | exact Or.inl rfl | exact Or.inr (Or.inl rfl) | exact Or.inr (Or.inr rfl)) (hd : (x == ("__debug__" : Str)) = false := by decide) (hcd : (x == ("__classdict__" : Str)) = false := by decide)
    (hs : ∀ env z, foldedSetIterable (.Name x p1) env z = pure z := by intro _ _; rfl) : BOk G L ρ (.For tg (.Name x p1) body [] pos :: rest) k (bindR ((keysD y).bind fun ds => forR Bd s0 ds) f M) :=
  b_forRK i hy hk hg h0 (fun s d h => nomatch h) (fun s d as e => by cases e; exact hb s d) hr hj hv hd hcd hs
theorem c_forNK1 (i : Nat) {j : Nat} {y : D} (hy : nthS ρ i = .val y) {Bd : S → D → Option (Lp S)} (hg : GOk G L tg (gN j)) (h0 : leS (v s0) ρ) (hb : ∀ s a, BOk G L (setS (v s) j (.val a)) body (kL G.K v) (Bd s a))
    (hr : ∀ s, BOk G L (v s) rest k (M s)) (hj : L.N[i]? = some x := by rfl) (hv : Vis L.sc x := by first | exact Or.inl rfl | exact Or.inr (Or.inl rfl) | exact Or.inr (Or.inr rfl)) (hd : (x == ("__debug__" : Str)) = false := by decide) (hcd : (x == ("__classdict__" : Str)) = false := by decide)
    (hs : ∀ env z, foldedSetIterable (.Name x p1) env z = pure z := by intro _ _; rfl) : BOk G L ρ (.For tg (.Name x p1) body [] pos :: rest) k (((keysD y).bind fun ds => forB Bd s0 ds).bind M) := by
  have h := c_forRK1 (k := kB G.K k) (f := Rs.ex) (M := fun s => (M s).map Rs.nx) (pos := pos) (p1 := p1) i hy rtB hg h0 hb (fun s => to_kB (hr s)) hj hv hd hcd hs
  refine of_kB (fun X hX => wkSs (h X hX) fun D σ H ⟨B, F0, F, r, em, er, q⟩ => ⟨B, F0, F, r, ?_, er, q⟩)
  obtain ⟨r', e1, e2⟩ := Option.map_eq_some_iff.mp em
  subst e2
  obtain ⟨s, e3, e4⟩ := Option.bind_eq_some_iff.mp e1
  obtain ⟨ds, e5, e6⟩ := Option.bind_eq_some_iff.mp e3
  rw [e5]
  show bindR (forR Bd s0 ds) Rs.ex (fun s => (M s).map Rs.nx) = _
  rw [forB_R e6]
  show (M s).map Rs.nx = _
  rw [e4]; rfl
theorem c_forPK1 (i : Nat) {j : Nat} {y : D} (hy : nthS ρ i = .val y) {Bd : S → D → Option S} (hg : GOk G L tg (gN j)) (h0 : leS (v s0) ρ) (hb : ∀ s a, BOk G L (setS (v s) j (.val a)) body (kP G.K v) (Bd s a))
    (hr : ∀ s, BOk G L (v s) rest k (M s)) (hj : L.N[i]? = some x := by rfl) (hv : Vis L.sc x := by first | exact Or.inl rfl | exact Or.inr (Or.inl rfl) | exact Or.inr (Or.inr rfl)) (hd : (x == ("__debug__" : Str)) = false := by decide) (hcd : (x == ("__classdict__" : Str)) = false := by decide)
    (hs : ∀ env z, foldedSetIterable (.Name x p1) env z = pure z := by intro _ _; rfl) : BOk G L ρ (.For tg (.Name x p1) body [] pos :: rest) k (((keysD y).bind fun ds => forP Bd s0 ds).bind M) := by
  have h := c_forRK1 (k := kB G.K k) (f := Rs.ex) (Bd := fun s d => (Bd s d).map Lp.go) (M := fun s => (M s).map Rs.nx) (pos := pos) (p1 := p1) i hy rtB hg h0 (fun s a => to_kL (hb s a)) (fun s => to_kB (hr s)) hj hv hd hcd hs
  refine of_kB (fun X hX => wkSs (h X hX) fun D σ H ⟨B, F0, F, r, em, er, q⟩ => ⟨B, F0, F, r, ?_, er, q⟩)
  obtain ⟨r', e1, e2⟩ := Option.map_eq_some_iff.mp em
  subst e2
  obtain ⟨s, e3, e4⟩ := Option.bind_eq_some_iff.mp e1
  obtain ⟨ds, e5, e6⟩ := Option.bind_eq_some_iff.mp e3
  rw [e5]
  show bindR (forR (fun s d => (Bd s d).map Lp.go) s0 ds) Rs.ex (fun s => (M s).map Rs.nx) = _
  rw [forR_go, e6]
  show (M s).map Rs.nx = _
  rw [e4]; rfl
end
end DL
set_option autoImplicit false
set_option maxRecDepth 100000
set_option maxHeartbeats 4000000
namespace DL
open PySem PySem.Spec PySem.SeqAt PyProof.Rows L2
open PySem.W (dataLt alike)
section
variable {α β R S : Type} {f1 : D → Option D} {f2 : D → D → Option D} {a b c d : D} {m n : Option D} {i j : Int} {p q : Bool} {x y : Str}
@[simp] theorem E1_s : E1 f1 (some a) = f1 a := id rfl
@[simp] theorem E1_n : E1 f1 none = none := id rfl
@[simp] theorem E2_s : E2 f2 (some a) (some b) = f2 a b := id rfl
@[simp] theorem E2_n : E2 f2 none m = none := id rfl
@[simp] theorem E3_s {f : D → D → D → Option D} : E3 f (some a) (some b) (some c) = f a b c := id rfl
@[simp] theorem E4_s {f : D → D → D → D → Option D} : E4 f (some a) (some b) (some c) (some d) = f a b c d := id rfl
@[simp] theorem E5_s {f : D → D → D → D → D → Option D} {e : D} : E5 f (some a) (some b) (some c) (some d) (some e) = f a b c d e := id rfl
@[simp] theorem E6_s {f : D → D → D → D → D → D → Option D} {e g : D} : E6 f (some a) (some b) (some c) (some d) (some e) (some g) = f a b c d e g := id rfl
@[simp] theorem E7_s {f : D → D → D → D → D → D → D → Option D} {e g h : D} : E7 f (some a) (some b) (some c) (some d) (some e) (some g) (some h) = f a b c d e g h := id rfl
@[simp] theorem aC_s {l : List D} : aC (some a) (some l) = some (a :: l) := id rfl
@[simp] theorem o1_s {f : List D → Option D} : o1 f a = f [a] := id rfl
@[simp] theorem o2_s {f : List D → Option D} : o2 f a b = f [a, b] := id rfl
@[simp] theorem iteO_s {A B : Option R} : iteO (some p) A B = if p = true then A else B := id rfl
@[simp] theorem iteO_n {A B : Option R} : iteO none A B = none := id rfl
@[simp] theorem ifD_s : ifD (some p) m n = if p = true then m else n := id rfl
@[simp] theorem andT_s {n : Option Bool} : andT (some p) n = if p = true then n else some false := id rfl
@[simp] theorem orT_s {n : Option Bool} : orT (some p) n = if p = true then some true else n := id rfl
@[simp] theorem notT_s : notT (some p) = some (!p) := id rfl
@[simp] theorem andV_s : andV (some (.bl p)) n = if p = true then n else some (.bl false) := id rfl
@[simp] theorem orV_s : orV (some (.bl p)) n = if p = true then some (.bl true) else n := id rfl
@[simp] theorem notV_s : notV (some (.bl p)) = some (.bl (!p)) := id rfl
@[simp] theorem ifB {A B : Prop} [Decidable A] : (if A then some true else some false) = some (decide A) := by split <;> simp [*]
@[simp] theorem getB_b : getB (.bl p) = some p := id rfl
@[simp] theorem truD_b : truD (.bl p) = some p := id rfl
@[simp] theorem truD_i : truD (.int i) = some (i != 0) := id rfl
@[simp] theorem truD_n : truD .non = some false := id rfl
@[simp] theorem truD_l {ds : List D} : truD (.lst ds) = some (!ds.isEmpty) := id rfl
@[simp] theorem truD_t {ds : List D} : truD (.tup ds) = some (!ds.isEmpty) := id rfl
@[simp] theorem getI_i : getI (.int i) = some i := id rfl
@[simp] theorem negD_i : negD (.int i) = some (.int (-i)) := id rfl
@[simp] theorem addD_i : addD (.int i) (.int j) = some (.int (i + j)) := id rfl
@[simp] theorem addI_i : addI (.int i) (.int j) = some (.int (i + j)) := id rfl
@[simp] theorem subD_i : subD (.int i) (.int j) = some (.int (i - j)) := id rfl
theorem mulD_i (h : i.natAbs < 2 ^ 64 ∨ j.natAbs < 2 ^ 64 ∨ (i.natAbs < wideN ∧ j.natAbs < wideN)) : mulD (.int i) (.int j) = some (.int (i * j)) := by simp only [mulD]; rw [if_pos h]
theorem mulD_l (h : -9223372036854775808 ≤ i ∧ i ≤ 9223372036854775807) : mulD (.int i) (.int j) = some (.int (i * j)) := mulD_i (.inl (by omega))
theorem mulD_r (h : -9223372036854775808 ≤ j ∧ j ≤ 9223372036854775807) : mulD (.int i) (.int j) = some (.int (i * j)) := mulD_i (.inr (.inl (by omega)))
theorem le_wide {n : Nat} (h : n < 2 ^ 64) : n < wideN := Nat.lt_of_lt_of_le h (by unfold wideN; exact Nat.pow_le_pow_right (by omega) (by omega))
theorem fdivD_i (h : 0 < j) (h2 : j ≤ 9223372036854775807) : fdivD (.int i) (.int j) = some (.int (i / j)) := by
  simp only [fdivD]
  rw [if_pos ⟨h, le_wide (by omega)⟩]
theorem modD_i (h : 0 < j) : modD (.int i) (.int j) = some (.int (i % j)) := by simp only [modD]; rw [if_pos h]
theorem powD_i (h : 0 ≤ j ∧ j ≤ 1000000) (h2 : -9223372036854775808 ≤ i ∧ i ≤ 9223372036854775807) : powD (.int i) (.int j) = some (.int (i ^ j.toNat))   := by simp only [powD]; rw [if_pos ⟨h.1, h.2, by omega⟩]
/-! ### equality, order -/
@[simp] theorem ok_i : okD (.int i) = true := by simp [okD, plain, dep]
@[simp] theorem ok_b : okD (.bl p) = true := by simp [okD, plain, dep]
@[simp] theorem ok_n : okD .non = true := by simp [okD, plain, dep]
theorem ok_s : okD (.str x) = PyData.strOk x := by simp [okD, plain, dep]
theorem ok_t {ds : List D} : okD (.tup ds) = (plains ds && decide (deps ds + 1 ≤ 60)) := by simp [okD, plain, dep]
theorem ok_l {ds : List D} : okD (.lst ds) = (plains ds && decide (deps ds + 1 ≤ 60)) := by simp [okD, plain, dep]
@[simp] theorem deq_ii : deq (.int i) (.int j) = decide (i = j) := by simp only [deq, toPy, PyData.eqv]; by_cases h : i = j <;> simp [h]
@[simp] theorem deq_in : deq (.int i) .non = false := by simp [deq, toPy, PyData.eqv]
@[simp] theorem deq_ni : deq .non (.int i) = false := by simp [deq, toPy, PyData.eqv]
@[simp] theorem deq_nn : deq .non .non = true := by simp [deq, toPy, PyData.eqv]
@[simp] theorem deq_bb : deq (.bl p) (.bl q) = (p == q) := by simp [deq, toPy, PyData.eqv]
@[simp] theorem deq_ss : deq (.str x) (.str y) = (x == y) := by simp [deq, toPy, PyData.eqv]
@[simp] theorem deq_t {xs ys : List D} : deq (.tup xs) (.tup ys) = PyData.eqvAll (toPys xs) (toPys ys) := by simp [deq, toPy, PyData.eqv]
@[simp] theorem deq_l {xs ys : List D} : deq (.lst xs) (.lst ys) = PyData.eqvAll (toPys xs) (toPys ys) := by simp [deq, toPy, PyData.eqv]
@[simp] theorem eqvs_nil : PyData.eqvAll (toPys []) (toPys []) = true := by simp [toPys, PyData.eqvAll]
@[simp] theorem eqvs_cons {xs ys : List D} : PyData.eqvAll (toPys (a :: xs)) (toPys (b :: ys)) = (deq a b && PyData.eqvAll (toPys xs) (toPys ys)) := by simp [toPys, PyData.eqvAll, deq]
@[simp] theorem eqvs_n1 {xs : List D} : PyData.eqvAll (toPys (a :: xs)) (toPys []) = false := by simp [toPys, PyData.eqvAll]
@[simp] theorem eqvs_n2 {xs : List D} : PyData.eqvAll (toPys []) (toPys (a :: xs)) = false := by simp [toPys, PyData.eqvAll]
@[simp] theorem plains_nil : plains [] = true := by simp [plains]
@[simp] theorem plains_cons {ds : List D} : plains (d :: ds) = (plain d && plains ds) := by simp [plains]
@[simp] theorem deps_nil : deps [] = 0 := by simp [deps]
@[simp] theorem deps_cons {ds : List D} : deps (d :: ds) = max (dep d) (deps ds) := by simp [deps]
@[simp] theorem plain_i : plain (.int i) = true := by simp [plain]
@[simp] theorem dep_i : dep (.int i) = 0 := by simp [dep]
@[simp] theorem plain_n : plain .non = true := by simp [plain]
@[simp] theorem dep_n : dep .non = 0 := by simp [dep]
@[simp] theorem plain_b : plain (.bl p) = true := by simp [plain]
@[simp] theorem dep_b : dep (.bl p) = 0 := by simp [dep]
@[simp] theorem dep_s : dep (.str x) = 0 := by simp [dep]
@[simp] theorem plain_t {ds : List D} : plain (.tup ds) = plains ds := by simp [plain]
@[simp] theorem dep_t {ds : List D} : dep (.tup ds) = deps ds + 1 := by simp [dep]
@[simp] theorem plain_l {ds : List D} : plain (.lst ds) = plains ds := by simp [plain]
@[simp] theorem dep_l {ds : List D} : dep (.lst ds) = deps ds + 1 := by simp [dep]
@[simp] theorem plains_ints {ns : List Int} : plains (ns.map D.int) = true := by induction ns <;> simp [*]
@[simp] theorem deps_ints {ns : List Int} : deps (ns.map D.int) = 0 := by induction ns <;> simp [*]
@[simp] theorem eqvs_ints {ns ms : List Int} : PyData.eqvAll (toPys (ns.map D.int)) (toPys (ms.map D.int)) = decide (ns = ms) := by
  induction ns generalizing ms with
  | nil => cases ms <;> simp
  | cons n ns ih => cases ms with
    | nil => simp
    | cons m ms => simp [ih, Bool.decide_and]
@[simp] theorem eqD_i : eqD (.int i) (.int j) = some (.bl (decide (i = j))) := by simp [eqD]
@[simp] theorem neD_i : neD (.int i) (.int j) = some (.bl (decide (i ≠ j))) := by simp [neD]
@[simp] theorem eqD_b : eqD (.bl p) (.bl q) = some (.bl (p == q)) := by simp [eqD]
@[simp] theorem neD_b : neD (.bl p) (.bl q) = some (.bl (!(p == q))) := by simp [neD]
theorem eqD_s (h : PyData.strOk x = true) (h2 : PyData.strOk y = true) : eqD (.str x) (.str y) = some (.bl (x == y)) := by simp [eqD, ok_s, h, h2]
theorem dlt_i : dlt (.int i) (.int j) = decide (i < j) := by simp only [dlt, toPy]; exact PySem.W.dataLt_int i j
theorem cmp_i : cmpOk (.int i) (.int j) = true := by simp [cmpOk, toPy, alike]
@[simp] theorem ltD_i : ltD (.int i) (.int j) = some (.bl (decide (i < j))) := by simp [ltD, cmp_i, dlt_i]
@[simp] theorem gtD_i : gtD (.int i) (.int j) = some (.bl (decide (j < i))) := by simp [gtD, cmp_i, dlt_i]
@[simp] theorem leD_i : leD (.int i) (.int j) = some (.bl (decide (i ≤ j))) := by simp [leD, cmp_i, dlt_i, ← Int.not_lt]
@[simp] theorem geD_i : geD (.int i) (.int j) = some (.bl (decide (j ≤ i))) := by simp [geD, cmp_i, dlt_i, ← Int.not_lt]
@[simp] theorem isD_n : isD .non .non = some (.bl true) := id rfl
@[simp] theorem isD_i : isD (.int i) .non = some (.bl false) := id rfl
@[simp] theorem isD_t {ds : List D} : isD (.tup ds) .non = some (.bl false) := id rfl
@[simp] theorem isD_l {ds : List D} : isD (.lst ds) .non = some (.bl false) := id rfl
@[simp] theorem isD_b : isD (.bl p) .non = some (.bl false) := id rfl
@[simp] theorem isD_s : isD (.str x) .non = some (.bl false) := id rfl
@[simp] theorem isNotD_n : isNotD .non .non = some (.bl false) := id rfl
@[simp] theorem isNotD_i : isNotD (.int i) .non = some (.bl true) := id rfl
@[simp] theorem isNotD_t {ds : List D} : isNotD (.tup ds) .non = some (.bl true) := id rfl
@[simp] theorem isNotD_l {ds : List D} : isNotD (.lst ds) .non = some (.bl true) := id rfl
/-! ### builtins -/
@[simp] theorem intD_i : intD [.int i] = some (.int i) := id rfl
@[simp] theorem intD_b : intD [.bl p] = some (.int (if p = true then 1 else 0)) := id rfl
@[simp] theorem absD_i : absD [.int i] = some (.int (if i < 0 then -i else i)) := id rfl
@[simp] theorem max2D_i : max2D [.int i, .int j] = some (.int (max i j)) := by
  show some (D.int (if j > i then j else i)) = _
  congr 2; split <;> omega
@[simp] theorem min2D_i : min2D [.int i, .int j] = some (.int (min i j)) := by
  show some (D.int (if j < i then j else i)) = _
  congr 2; split <;> omega
@[simp] theorem lenD_t {ds : List D} : lenD [.tup ds] = some (.int ds.length) := id rfl
@[simp] theorem lenD_l {ds : List D} : lenD [.lst ds] = some (.int ds.length) := id rfl
@[simp] theorem lenD_c {ns : List Int} : lenD [.scr ns] = some (.int ns.length) := id rfl
@[simp] theorem lenD_d {ns : List (Int × D)} : lenD [.dI ns] = some (.int ns.length) := id rfl
@[simp] theorem blsOf_map {bs : List Bool} : blsOf (bs.map .bl) = some bs := by induction bs <;> simp [blsOf, *]
@[simp] theorem intsOf_map {ns : List Int} : intsOf (ns.map .int) = some ns := by induction ns <;> simp [intsOf, *]
@[simp] theorem intsOf_nil : intsOf [] = some [] := id rfl
@[simp] theorem intsOf_cons {ds : List D} : intsOf (.int i :: ds) = (intsOf ds).map (i :: ·) := id rfl
@[simp] theorem allD_bs {bs : List Bool} : allD [.lst (bs.map .bl)] = some (.bl (bs.all fun b => b)) := by simp [allD]
@[simp] theorem anyD_bs {bs : List Bool} : anyD [.lst (bs.map .bl)] = some (.bl (bs.any fun b => b)) := by simp [anyD]
@[simp] theorem sumD_ns {ns : List Int} : sumD [.lst (ns.map .int)] = some (.int ns.sum) := by simp [sumD]
@[simp] theorem sumD_nt {ns : List Int} : sumD [.tup (ns.map .int)] = some (.int ns.sum) := by simp [sumD]
@[simp] theorem tupleD_l {ds : List D} : tupleD [.lst ds] = some (.tup ds) := id rfl
@[simp] theorem tupleD_t {ds : List D} : tupleD [.tup ds] = some (.tup ds) := id rfl
@[simp] theorem listD_l {ds : List D} : listD [.lst ds] = some (.lst ds) := id rfl
@[simp] theorem listD_t {ds : List D} : listD [.tup ds] = some (.lst ds) := id rfl
@[simp] theorem sortedD_ns {ns : List Int} : sortedD [.lst (ns.map .int)] = some (.lst ((isort ns).map .int)) := by simp only [sortedD, intsOf_map]
@[simp] theorem seqD_l {ds : List D} : seqD (.lst ds) = some ds := id rfl
@[simp] theorem seqD_t {ds : List D} : seqD (.tup ds) = some ds := id rfl
theorem rg1_i (h : -4611686018427387904 ≤ i ∧ i < 4611686018427387904) : rg1D [.int i] = some ((rangeI 0 i).map .int) := by
  simp only [rg1D]; rw [if_pos]
  simp [okI]; omega
theorem rg2_i (h : -4611686018427387904 ≤ i ∧ i < 4611686018427387904) (h2 : -4611686018427387904 ≤ j ∧ j < 4611686018427387904) : rg2D [.int i, .int j] = some ((rangeI i j).map .int) := by
  simp only [rg2D]; rw [if_pos]
  simp [okI]; omega
theorem tupD_i {ds : List D} (h : ds.length ≤ 16777216) : tupD ds = some (.tup ds) := by unfold tupD; rw [if_pos h]
theorem lstD_i {ds : List D} (h : ds.length ≤ 16777216) : lstD ds = some (.lst ds) := by unfold lstD; rw [if_pos h]
theorem appD_i {ds : List D} (h : ds.length < 16777216) : appD (.lst ds) d = some (.lst (ds ++ [d])) := by simp only [appD]; rw [if_pos h]
@[simp] theorem un2_s {f : D → D → Option α} : un2 f (.tup [a, b]) = f a b := id rfl
@[simp] theorem un3_s {f : D → D → D → Option α} : un3 f (.tup [a, b, c]) = f a b c := id rfl
@[simp] theorem un4_s {f : D → D → D → D → Option α} : un4 f (.tup [a, b, c, d]) = f a b c d := id rfl
@[simp] theorem bindJ_n {f : α → Option R} {x : α} : bindJ (some (.nx x)) f = f x := id rfl
@[simp] theorem bindJ_e {f : α → Option R} {x : R} : bindJ (some (.ex x)) f = some x := id rfl
@[simp] theorem bindR_n {f : D → R} {M : α → Option R} {x : α} : bindR (some (.nx x)) f M = M x := id rfl
@[simp] theorem bindR_e {f : D → R} {M : α → Option R} : bindR (some (.ex d)) f M = some (f d) := id rfl
@[simp] theorem tupRev_l {ds : List D} : tupRevD (.lst ds) = some (.tup ds.reverse) := id rfl
theorem tupR1_i (h : i ≤ 16777216 ∧ -4611686018427387904 ≤ i) : tupR1 (.int i) = some (.tup ((rangeI 0 i).map .int)) := by
  simp only [tupR1]; rw [if_pos]; simp [okR]; omega
theorem lstR1_i (h : i ≤ 16777216 ∧ -4611686018427387904 ≤ i) : lstR1 (.int i) = some (.lst ((rangeI 0 i).map .int)) := by
  simp only [lstR1]; rw [if_pos]; simp [okR]; omega
theorem lstR2_i (h : -16777216 ≤ i ∧ i ≤ 16777216) (h2 : -16777216 ≤ j ∧ j ≤ 16777216) (h3 : j - i ≤ 16777216) : lstR2 (.int i) (.int j) = some (.lst ((rangeI i j).map .int)) := by
  simp only [lstR2]; rw [if_pos]; simp [okR]; omega
@[simp] theorem un21_s {f : D → D → D → Option α} : un21 f (.tup [a, b]) c = f a b c := id rfl
/-! ### subscripts -/
theorem atI_pos {xs : List α} {i : Int} (h : 0 ≤ i) : atI xs i = xs[i.toNat]? := by
  unfold atI ixN
  rw [if_pos h]
  by_cases h2 : i < xs.length
  · rw [if_pos h2]; rfl
  · rw [if_neg h2, List.getElem?_eq_none (by omega)]; rfl
theorem atI_neg {xs : List α} {i : Int} (h : i < 0) (h2 : -(xs.length : Int) ≤ i) : atI xs i = xs[(i + xs.length).toNat]? := by
  unfold atI ixN
  rw [if_neg (by omega), if_pos h2]; rfl
/-- the number at a place of a row -/
def at0 (ns : List Int) (i : Int) : Int := ns.getD i.toNat 0
theorem at0_get {ns : List Int} {i : Int} (h : 0 ≤ i ∧ i < ns.length) : ns[i.toNat]? = some (at0 ns i) := by
  have : i.toNat < ns.length := by omega
  simp [at0, List.getD, this]
theorem ixD_row {ns : List Int} {i : Int} (h : 0 ≤ i ∧ i < ns.length) : ixD (.lst (ns.map .int)) (.int i) = some (.int (at0 ns i)) := by
  simp only [ixD]; rw [atI_pos h.1, List.getElem?_map, at0_get h]; rfl
theorem ixD_rowT {ns : List Int} {i : Int} (h : 0 ≤ i ∧ i < ns.length) : ixD (.tup (ns.map .int)) (.int i) = some (.int (at0 ns i)) := by
  simp only [ixD]; rw [atI_pos h.1, List.getElem?_map, at0_get h]; rfl
theorem ixD_scr {ns : List Int} {i : Int} (h : 0 ≤ i ∧ i < ns.length) : ixD (.scr ns) (.int i) = some (.int (at0 ns i)) := by
  simp only [ixD]; rw [atI_pos h.1, at0_get h]; rfl
theorem ixD_l {ds : List D} (h : 0 ≤ i) : ixD (.lst ds) (.int i) = ds[i.toNat]? := by simp only [ixD]; exact atI_pos h
theorem ixD_t {ds : List D} (h : 0 ≤ i) : ixD (.tup ds) (.int i) = ds[i.toNat]? := by simp only [ixD]; exact atI_pos h
theorem at0_mem {ns : List Int} {i : Int} (h : 0 ≤ i ∧ i < ns.length) : at0 ns i ∈ ns := List.mem_of_getElem? (at0_get h)
end
/-! ### ranges -/
theorem rangeI_len (i j : Int) : (rangeI i j).length = (j - i).toNat := by simp [rangeI]
theorem rangeI_mem {i j x : Int} : x ∈ rangeI i j ↔ i ≤ x ∧ x < j := by
  simp only [rangeI, List.mem_map, List.mem_range]
  constructor
  · rintro ⟨k, h, rfl⟩; omega
  · intro h; exact ⟨(x - i).toNat, by omega, by omega⟩
theorem rangeI_nil {i j : Int} (h : j ≤ i) : rangeI i j = [] := by
  have : (j - i).toNat = 0 := by omega
  simp [rangeI, this]
theorem rangeI_succ {i j : Int} (h : i ≤ j) : rangeI i (j + 1) = rangeI i j ++ [j] := by
  have : (j + 1 - i).toNat = (j - i).toNat + 1 := by omega
  simp only [rangeI, this, List.range_succ, List.map_append, List.map_cons, List.map_nil]
  congr 2; omega
theorem rangeI_cons {i j : Int} (h : i < j) : rangeI i j = i :: rangeI (i + 1) j := by
  have : (j - i).toNat = (j - (i + 1)).toNat + 1 := by omega
  simp only [rangeI, this, List.range_succ_eq_map, List.map_cons, List.map_map]
  congr 1
  · omega
  · apply List.map_congr_left; intro k _; simp; omega
/-! ### steps -/
section
variable {α β : Type} {m : Option α} {M : α → Option β} {x : α} {r : β}
theorem bstep (h : m = some x) (h2 : M x = some r) : m.bind M = some r := by rw [h]; exact h2
theorem bstepE {P : α → Prop} (h : ∃ x, m = some x ∧ P x) (h2 : ∀ x, P x → M x = some r) : m.bind M = some r := by
  obtain ⟨x, e, p⟩ := h
  rw [e]; exact h2 x p
theorem bstepX {P : α → Prop} {Q : β → Prop} (h : ∃ x, m = some x ∧ P x) (h2 : ∀ x, P x → ∃ y, M x = some y ∧ Q y) : ∃ y, m.bind M = some y ∧ Q y := by
  obtain ⟨x, e, p⟩ := h
  rw [e]; exact h2 x p
theorem bstepY {Q : β → Prop} (h : m = some x) (h2 : ∃ y, M x = some y ∧ Q y) : ∃ y, m.bind M = some y ∧ Q y := by rw [h]; exact h2
end
section
variable {β : Type} {M : D → Option β} {x a1 a2 a3 a4 a5 a6 a7 : D} {r : β} {P : D → Prop} {Q : β → Prop}
theorem bs1 {f : D → Option D} (h : f a1 = some x) (h2 : M x = some r) : (E1 f (some a1)).bind M = some r := by
  have : E1 f (some a1) = f a1 := rfl
  rw [this, h]; exact h2
theorem bx1 {f : D → Option D} (h : f a1 = some x) (h2 : ∃ y, M x = some y ∧ Q y) : ∃ y, (E1 f (some a1)).bind M = some y ∧ Q y := by
  have : E1 f (some a1) = f a1 := rfl
  rw [this, h]; exact h2
theorem bs2 {f : D → D → Option D} (h : f a1 a2 = some x) (h2 : M x = some r) : (E2 f (some a1) (some a2)).bind M = some r := by
  have : E2 f (some a1) (some a2) = f a1 a2 := rfl
  rw [this, h]; exact h2
theorem bx2 {f : D → D → Option D} (h : f a1 a2 = some x) (h2 : ∃ y, M x = some y ∧ Q y) : ∃ y, (E2 f (some a1) (some a2)).bind M = some y ∧ Q y := by
  have : E2 f (some a1) (some a2) = f a1 a2 := rfl
  rw [this, h]; exact h2
theorem bs3 {f : D → D → D → Option D} (h : f a1 a2 a3 = some x) (h2 : M x = some r) : (E3 f (some a1) (some a2) (some a3)).bind M = some r := by
  have : E3 f (some a1) (some a2) (some a3) = f a1 a2 a3 := rfl
  rw [this, h]; exact h2
theorem bx3 {f : D → D → D → Option D} (h : f a1 a2 a3 = some x) (h2 : ∃ y, M x = some y ∧ Q y) : ∃ y, (E3 f (some a1) (some a2) (some a3)).bind M = some y ∧ Q y := by
  have : E3 f (some a1) (some a2) (some a3) = f a1 a2 a3 := rfl
  rw [this, h]; exact h2
theorem bs4 {f : D → D → D → D → Option D} (h : f a1 a2 a3 a4 = some x) (h2 : M x = some r) : (E4 f (some a1) (some a2) (some a3) (some a4)).bind M = some r := by
  have : E4 f (some a1) (some a2) (some a3) (some a4) = f a1 a2 a3 a4 := rfl
  rw [this, h]; exact h2
theorem bx4 {f : D → D → D → D → Option D} (h : f a1 a2 a3 a4 = some x) (h2 : ∃ y, M x = some y ∧ Q y) : ∃ y, (E4 f (some a1) (some a2) (some a3) (some a4)).bind M = some y ∧ Q y := by
  have : E4 f (some a1) (some a2) (some a3) (some a4) = f a1 a2 a3 a4 := rfl
  rw [this, h]; exact h2
theorem bs5 {f : D → D → D → D → D → Option D} (h : f a1 a2 a3 a4 a5 = some x) (h2 : M x = some r) : (E5 f (some a1) (some a2) (some a3) (some a4) (some a5)).bind M = some r := by
  have : E5 f (some a1) (some a2) (some a3) (some a4) (some a5) = f a1 a2 a3 a4 a5 := rfl
  rw [this, h]; exact h2
theorem bx5 {f : D → D → D → D → D → Option D} (h : f a1 a2 a3 a4 a5 = some x) (h2 : ∃ y, M x = some y ∧ Q y) : ∃ y, (E5 f (some a1) (some a2) (some a3) (some a4) (some a5)).bind M = some y ∧ Q y := by
  have : E5 f (some a1) (some a2) (some a3) (some a4) (some a5) = f a1 a2 a3 a4 a5 := rfl
  rw [this, h]; exact h2
theorem bs6 {f : D → D → D → D → D → D → Option D} (h : f a1 a2 a3 a4 a5 a6 = some x) (h2 : M x = some r) : (E6 f (some a1) (some a2) (some a3) (some a4) (some a5) (some a6)).bind M = some r := by
  have : E6 f (some a1) (some a2) (some a3) (some a4) (some a5) (some a6) = f a1 a2 a3 a4 a5 a6 := rfl
  rw [this, h]; exact h2
theorem bx6 {f : D → D → D → D → D → D → Option D} (h : f a1 a2 a3 a4 a5 a6 = some x) (h2 : ∃ y, M x = some y ∧ Q y) : ∃ y, (E6 f (some a1) (some a2) (some a3) (some a4) (some a5) (some a6)).bind M = some y ∧ Q y := by
  have : E6 f (some a1) (some a2) (some a3) (some a4) (some a5) (some a6) = f a1 a2 a3 a4 a5 a6 := rfl
  rw [this, h]; exact h2
theorem bs7 {f : D → D → D → D → D → D → D → Option D} (h : f a1 a2 a3 a4 a5 a6 a7 = some x) (h2 : M x = some r) : (E7 f (some a1) (some a2) (some a3) (some a4) (some a5) (some a6) (some a7)).bind M = some r := by
  have : E7 f (some a1) (some a2) (some a3) (some a4) (some a5) (some a6) (some a7) = f a1 a2 a3 a4 a5 a6 a7 := rfl
  rw [this, h]; exact h2
theorem bx7 {f : D → D → D → D → D → D → D → Option D} (h : f a1 a2 a3 a4 a5 a6 a7 = some x) (h2 : ∃ y, M x = some y ∧ Q y) : ∃ y, (E7 f (some a1) (some a2) (some a3) (some a4) (some a5) (some a6) (some a7)).bind M = some y ∧ Q y := by
  have : E7 f (some a1) (some a2) (some a3) (some a4) (some a5) (some a6) (some a7) = f a1 a2 a3 a4 a5 a6 a7 := rfl
  rw [this, h]; exact h2
end
theorem emod_bd (x y : Int) (h : 0 < y) : 0 ≤ x % y ∧ x % y < y := ⟨Int.emod_nonneg _ (by omega), Int.emod_lt_of_pos _ h⟩
/-! ### loops and comprehensions -/
section
variable {α S : Type}
theorem lcD_map {f : D → Option D} {g h : α → D} : ∀ {xs : List α}, (∀ x ∈ xs, f (g x) = some (h x)) → lcD (fun _ => some true) f (xs.map g) = some (xs.map h)
  | [], _ => rfl
  | x :: xs, H => by
    simp only [List.map_cons, lcD]
    rw [H x List.mem_cons_self, lcD_map fun y hy => H y (List.mem_cons_of_mem _ hy)]
    rfl
theorem LC_map {f : D → Option D} {g h : α → D} {xs : List α} (H : ∀ x ∈ xs, f (g x) = some (h x)) (hl : xs.length ≤ 16777216) : LC (some (xs.map g)) (fun _ => some true) f = some (.lst (xs.map h)) := by
  unfold LC
  simp only [Option.bind_some, lcD_map H]
  exact lstD_i (by simpa using hl)
theorem lcD_filter {nt : D → Option Bool} {f : D → Option D} {g h : α → D} {p : α → Bool} : ∀ {xs : List α}, (∀ x ∈ xs, nt (g x) = some (p x)) → (∀ x ∈ xs, p x = true → f (g x) = some (h x)) → lcD nt f (xs.map g) = some ((xs.filter p).map h)
  | [], _, _ => rfl
  | x :: xs, H, H2 => by
    simp only [List.map_cons, lcD]
    rw [H x List.mem_cons_self, lcD_filter (fun y hy => H y (List.mem_cons_of_mem _ hy)) fun y hy => H2 y (List.mem_cons_of_mem _ hy)]
    simp only [Option.bind_some]
    by_cases hp : p x = true
    · rw [if_pos hp, H2 x List.mem_cons_self hp, List.filter_cons_of_pos hp]; rfl
    · rw [if_neg hp, List.filter_cons_of_neg hp]
theorem LC_filter {nt : D → Option Bool} {f : D → Option D} {g h : α → D} {p : α → Bool} {xs : List α} (H : ∀ x ∈ xs, nt (g x) = some (p x)) (H2 : ∀ x ∈ xs, p x = true → f (g x) = some (h x)) (hl : xs.length ≤ 16777216) : LC (some (xs.map g)) nt f = some (.lst ((xs.filter p).map h)) := by
  unfold LC
  simp only [Option.bind_some, lcD_filter H H2]
  exact lstD_i (by rw [List.length_map]; exact Nat.le_trans (List.length_filter_le _ _) hl)
/-- a loop by its invariant over what is done -/
theorem forP_inv {f : S → D → Option S} {g : α → D} (I : List α → S → Prop) : ∀ {xs : List α} {s : S} {ys : List α}, I ys s → (∀ zs x ws s, ys ++ xs = zs ++ x :: ws → I zs s → ∃ s', f s (g x) = some s' ∧ I (zs ++ [x]) s') → ∃ s', forP f s (xs.map g) = some s' ∧ I (ys ++ xs) s'
  | [], s, ys, h, _ => ⟨s, rfl, by simpa using h⟩
  | x :: xs, s, ys, h, H => by
    obtain ⟨s1, e1, h1⟩ := H ys x xs s rfl h
    obtain ⟨s2, e2, h2⟩ := forP_inv I (xs := xs) (s := s1) (ys := ys ++ [x]) h1 (fun zs y ws s e i => H zs y ws s (by simpa using e) i)
    refine ⟨s2, ?_, by simpa using h2⟩
    simp only [List.map_cons, forP, e1, Option.bind_some, e2]
/-- a loop that computes a fold -/
theorem forP_fold {f : S → D → Option S} {g : α → D} {T : Type} {emb : T → S} {st : T → α → T} (P : T → Prop) : ∀ {xs : List α} {t : T}, P t → (∀ x ∈ xs, ∀ t, P t → f (emb t) (g x) = some (emb (st t x)) ∧ P (st t x)) → forP f (emb t) (xs.map g) = some (emb (xs.foldl st t)) ∧ P (xs.foldl st t)
  | [], t, h, _ => ⟨rfl, h⟩
  | x :: xs, t, h, H => by
    obtain ⟨e, h'⟩ := H x List.mem_cons_self t h
    have := forP_fold P (xs := xs) h' (fun y hy => H y (List.mem_cons_of_mem _ hy))
    simp only [List.map_cons, forP, e, Option.bind_some, List.foldl_cons]
    exact this
/-- a loop of tests: all go on -/
theorem forR_all {f : S → D → Option (Lp S)} {g : α → D} {s : S} : ∀ {xs : List α}, (∀ x ∈ xs, f s (g x) = some (.go s)) → forR f s (xs.map g) = some (.nx s)
  | [], _ => rfl
  | x :: xs, H => by
    simp only [List.map_cons, forR, H x List.mem_cons_self, Option.bind_some]
    exact forR_all fun y hy => H y (List.mem_cons_of_mem _ hy)
end
end DL
set_option autoImplicit false
set_option maxRecDepth 100000
set_option maxHeartbeats 4000000
namespace DL
noncomputable section
def f__law_mixed_D (x_script : D) (x_k : D) : Option D :=
  ((some (D.int 0)).bind fun x_cell => ((iteO ((E2 gtD (E1 (o1 lenD) (some x_script)) (some (D.int 0))).bind getB)
  ((E2 ixD (some x_script) (E2 modD (some x_k) (E1 (o1 lenD) (some x_script)))).bind fun x_cell => (some x_cell))
  (some x_cell)).bind fun (a1 : D) => ((E2 modD (E1 (o1 intD) (E2 addD (E2 addD (E2 mulD (some a1) (some (D.int 48271))) (E2 mulD (some x_k) (some (D.int 69621)))) (some (D.int 8191)))) (some (D.int 2147483647))).bind fun x_first => ((E2 modD (E1 (o1 intD) (E2 addD (E2 addD (E2 mulD (some x_first) (some x_first)) (E2 fdivD (some x_first) (some (D.int 7)))) (E2 mulD (some x_k) (some (D.int 16807))))) (some (D.int 2147483629))).bind fun x_second => ((E2 modD (E1 (o1 intD) (E2 addD (E2 addD (E2 mulD (some x_second) (some x_second)) (E2 fdivD (some x_second) (some (D.int 11)))) (some (D.int 40692)))) (some (D.int 2147483563))).bind fun x_third => (E2 modD (E2 fdivD (some x_third) (some (D.int 5))) (some (D.int 1000003))))))))
def f__law_row_L1 (x_script : D) (s2 : D × D) (x_k : D) : Option (D × D) :=
  (iteO ((E2 gtD (some s2.1) (some (D.int 0))).bind getB)
    (((E2 modD (E1 (o1 intD) (some s2.1)) (some (D.int 1000))).bind (appD s2.2)).bind fun x_row => ((E2 fdivD (some s2.1) (some (D.int 1000))).bind fun x_big => (some (x_big, x_row))))
    (((E2 f__law_mixed_D (some x_script) (some x_k)).bind (appD s2.2)).bind fun x_row => (some (s2.1, x_row))))
def f__law_row_D (x_script : D) (x_many : D) : Option D :=
  ((some (D.int 0)).bind fun x_big => ((iteO (andT ((E2 gtD (E1 (o1 lenD) (some x_script)) (some (D.int 0))).bind getB) ((E2 geD (E2 ixD (some x_script) (some (D.int 0))) (E2 powD (some (D.int 10)) (some (D.int 18)))).bind getB))
  ((E2 ixD (some x_script) (some (D.int 0))).bind fun x_big => (some x_big))
  (some x_big)).bind fun (a1 : D) => (((some []).bind lstD).bind fun x_row => ((((aC (some x_many) (some [])).bind rg1D).bind fun ds => forP (f__law_row_L1 x_script) (a1, x_row) ds).bind fun (s3 : D × D) => (some s3.2)))))
def f__law_is_int_D (x_value : D) : Option D :=
  (andV (E1 (isiG isIntD) (some x_value)) (notV (E1 (isiG isBlD) (some x_value))))
def f__law_like_D_B (rec : D → D → Option D) (x_value : D) (x_due : D) : Option D :=
  (iteO ((E2 isD (some x_due) (some D.non)).bind getB)
  (E2 isD (some x_value) (some D.non))
  (iteO ((E1 (isiG isBlD) (some x_due)).bind truD)
  (andV (E1 (isiG isBlD) (some x_value)) (E2 eqD (some x_value) (some x_due)))
  (iteO ((E1 (isiG isTupD) (some x_due)).bind truD)
  (iteO (orT (notT ((E1 (isiG isTupD) (some x_value)).bind truD)) ((E2 neD (E1 (o1 lenD) (some x_value)) (E1 (o1 lenD) (some x_due))).bind getB))
    (some (D.bl false))
    (E1 (o1 allD) (LC ((aC (E1 (o1 lenD) (some x_due)) (some [])).bind rg1D) (fun x_k => (some true)) (fun x_k => (E2 rec (E2 ixD (some x_value) (some x_k)) (E2 ixD (some x_due) (some x_k)))))))
  (iteO ((E1 (isiG isStrD) (some x_due)).bind truD)
  (andV (E1 (isiG isStrD) (some x_value)) (E2 eqD (some x_value) (some x_due)))
  (andV (E1 f__law_is_int_D (some x_value)) (E2 eqD (some x_value) (some x_due)))))))
def f__law_like_D_R : Nat → D → D → Option D
  | 0 => f__law_like_D_B fun _ _ => none
  | n + 1 => f__law_like_D_B (f__law_like_D_R n)
abbrev f__law_like_D : D → D → Option D := f__law_like_D_R 4
end
end DL
set_option autoImplicit false
set_option maxRecDepth 100000
set_option maxHeartbeats 4000000
namespace DL
noncomputable section
def f_is_number_D (x_value : D) (x_least : D) (x_most : D) : Option D :=
  (iteO (orT (notT ((E1 (isiG isIntD) (some x_value)).bind truD)) (orT ((E1 (isiG isBlD) (some x_value)).bind truD) ((E2 ltD (some x_value) (some x_least)).bind getB)))
  (some (D.bl false))
  (orV (E2 isD (some x_most) (some D.non)) (E2 leD (some x_value) (some x_most))))
def f_is_row_D (x_value : D) (x_length : D) : Option D :=
  (andV (E1 (isiG isTupD) (some x_value)) (E2 eqD (E1 (o1 lenD) (some x_value)) (some x_length)))
def f_judge_prices_D (x_n : D) (x_offers : D) (x_value : D) : Option D :=
  (iteO (orT (notT ((E2 f_is_row_D (some x_value) (some x_n)).bind truD)) (notT ((E1 (o1 allD) (LC ((some x_value).bind seqD) (fun x_price => (some true)) (fun x_price => (E3 f_is_number_D (some x_price) (some (D.int 1)) (some D.non))))).bind truD)))
  (some (D.bl false))
  (E1 (o1 allD) (LC ((some x_offers).bind seqD) (un4 (fun x_x x_y x_a x_b => (some true))) (un4 (fun x_x x_y x_a x_b => (E2 leD (E2 mulD (some x_b) (E2 ixD (some x_value) (some x_y))) (E2 mulD (some x_a) (E2 ixD (some x_value) (some x_x)))))))))
def f__law_are_prices_D (x_n : D) (x_offers : D) (x_value : D) : Option D :=
  (iteO (orT (notT ((E1 (isiG isTupD) (some x_value)).bind truD)) ((E2 neD (E1 (o1 lenD) (some x_value)) (some x_n)).bind getB))
  (some (D.bl false))
  (iteO (notT ((E1 (o1 allD) (LC ((some x_value).bind seqD) (fun x_price => (some true)) (fun x_price => (andV (E1 f__law_is_int_D (some x_price)) (E2 geD (some x_price) (some (D.int 1))))))).bind truD))
  (some (D.bl false))
  (E1 (o1 allD) (LC ((some x_offers).bind seqD) (fun x_offer => (some true)) (fun x_offer => (E2 leD (E2 mulD (E2 ixD (some x_offer) (some (D.int 3))) (E2 ixD (some x_value) (E2 ixD (some x_offer) (some (D.int 1))))) (E2 mulD (E2 ixD (some x_offer) (some (D.int 2))) (E2 ixD (some x_value) (E2 ixD (some x_offer) (some (D.int 0)))))))))))
end
end DL
set_option autoImplicit false
set_option maxRecDepth 100000
set_option maxHeartbeats 4000000
namespace DL
noncomputable section
def f__law_coinage_L1 (x_row : D) (x_at : D) (x_top : D) (s1 : D) (x_k : D) : Option (D) :=
  ((E2 addD (some (D.int 1)) (E2 modD (E1 (o1 intD) (E2 ixD (some x_row) (E2 addD (E2 addD (some x_at) (some (D.int 1))) (some x_k)))) (some x_top))).bind fun x_value => (iteO ((E2 notInD (some x_value) (some s1)).bind getB)
    (((some x_value).bind (appD s1)).bind fun x_found => (some x_found))
    (some s1)))
def f__law_coinage_D (x_row : D) (x_at : D) (x_most : D) (x_top : D) : Option D :=
  (((some []).bind lstD).bind fun x_found => ((((aC (E2 addD (some (D.int 1)) (E2 modD (E1 (o1 intD) (E2 ixD (some x_row) (some x_at))) (some x_most))) (some [])).bind rg1D).bind fun ds => forP (f__law_coinage_L1 x_row x_at x_top) x_found ds).bind fun (s2 : D) => (E1 (o1 tupleD) (E1 (o1 sortedD) (some s2)))))
def f__law_coins_D (x_row : D) (x_at : D) : Option D :=
  ((E2 modD (E1 (o1 intD) (E2 ixD (some x_row) (some x_at))) (some (D.int 8))).bind fun x_kind => (iteO ((E2 ltD (some x_kind) (some (D.int 2))).bind getB)
  (E4 f__law_coinage_D (some x_row) (E2 addD (some x_at) (some (D.int 1))) (some (D.int 8)) (some (D.int 60)))
  (iteO ((E2 eqD (some x_kind) (some (D.int 2))).bind getB)
  ((E2 addD (some (D.int 2)) (E2 modD (E1 (o1 intD) (E2 ixD (some x_row) (E2 addD (some x_at) (some (D.int 10))))) (some (D.int 5)))).bind fun x_by => (E1 (o1 tupleD) (LC ((E4 f__law_coinage_D (some x_row) (E2 addD (some x_at) (some (D.int 1))) (some (D.int 5)) (E2 fdivD (some (D.int 60)) (some x_by))).bind seqD) (fun x_value => (some true)) (fun x_value => (E2 mulD (some x_by) (some x_value))))))
  (iteO ((E2 eqD (some x_kind) (some (D.int 3))).bind getB)
  (E1 (o1 tupleD) (LC ((E4 f__law_coinage_D (some x_row) (E2 addD (some x_at) (some (D.int 1))) (some (D.int 4)) (some (D.int 30))).bind seqD) (fun x_value => (some true)) (fun x_value => (E2 addD (some (D.int 30)) (some x_value)))))
  (iteO ((E2 eqD (some x_kind) (some (D.int 4))).bind getB)
  (E2 addD ((aC (some (D.int 1)) (some [])).bind tupD) (E1 (o1 tupleD) (LC ((E4 f__law_coinage_D (some x_row) (E2 addD (some x_at) (some (D.int 1))) (some (D.int 5)) (some (D.int 30))).bind seqD) (fun x_value => (some true)) (fun x_value => (E2 addD (some (D.int 1)) (some x_value))))))
  (E4 f__law_coinage_D (some x_row) (E2 addD (some x_at) (some (D.int 1))) (some (D.int 4)) (some (D.int 14))))))))
def f__law_amount_D (x_row : D) (x_at : D) : Option D :=
  ((E2 modD (E1 (o1 intD) (E2 ixD (some x_row) (some x_at))) (some (D.int 250))).bind fun x_amount => ((iteO ((E2 eqD (E2 modD (E1 (o1 intD) (E2 ixD (some x_row) (E2 addD (some x_at) (some (D.int 1))))) (some (D.int 6))) (some (D.int 2))).bind getB)
  ((E2 modD (E2 addD (E2 mulD (E2 modD (E1 (o1 intD) (E2 ixD (some x_row) (some x_at))) (some (D.int 1000))) (some (D.int 5))) (E2 modD (E1 (o1 intD) (E2 ixD (some x_row) (E2 addD (some x_at) (some (D.int 2))))) (some (D.int 5)))) (some (D.int 4001))).bind fun x_amount => (some x_amount))
  (some x_amount)).bind fun (a1 : D) => ((iteO ((E2 eqD (E2 modD (E1 (o1 intD) (E2 ixD (some x_row) (E2 addD (some x_at) (some (D.int 1))))) (some (D.int 36))) (some (D.int 8))).bind getB)
  ((some (D.int 4000)).bind fun x_amount => (some x_amount))
  (some a1)).bind fun (a2 : D) => (some a2))))
end
end DL
set_option autoImplicit false
set_option maxRecDepth 100000
set_option maxHeartbeats 4000000
namespace DL
noncomputable section
def f_least_numbers_L1 (x_coinage : D) (s1 : D) (x_amount : D) : Option (D) :=
  ((LC ((some x_coinage).bind seqD) (fun x_value => ((E2 leD (some x_value) (some x_amount)).bind getB)) (fun x_value => (E1 (ixD s1) (E2 subD (some x_amount) (some x_value))))).bind fun x_before => ((LC ((some x_before).bind seqD) (fun x_number => ((E2 isNotD (some x_number) (some D.non)).bind getB)) (fun x_number => (some x_number))).bind fun x_before => (iteO ((some x_before).bind truD)
    ((setM (E2 addD (some (D.int 1)) (E1 (o1 minLD) (some x_before))) (some x_amount) s1).bind fun x_found => (some x_found))
    (some s1))))
def f_least_numbers_D (x_coinage : D) (x_most : D) : Option D :=
  ((E2 catD ((aC (some (D.int 0)) (some [])).bind lstD) (E2 repD ((aC (some D.non) (some [])).bind lstD) (some x_most))).bind fun x_found => ((((aC (some (D.int 1)) (aC (E2 addD (some x_most) (some (D.int 1))) (some []))).bind rg2D).bind fun ds => forP (f_least_numbers_L1 x_coinage) x_found ds).bind fun (s2 : D) => (some s2)))
def f_least_number_D (x_coinage : D) (x_amount : D) : Option D :=
  (E2 ixD (E2 f_least_numbers_D (some x_coinage) (some x_amount)) (some x_amount))
def f__law_numbers_L1 (x_amount : D) (s1 : D) (s2 : D) (x_value : D) : Option (D) :=
  (iteO (andT ((E2 leD (some x_value) (some x_amount)).bind getB) ((E2 isNotD (E1 (ixD s1) (E2 subD (some x_amount) (some x_value))) (some D.non)).bind getB))
      (iteO (orT ((E2 isD (some s2) (some D.non)).bind getB) ((E2 ltD (E1 (ixD s1) (E2 subD (some x_amount) (some x_value))) (some s2)).bind getB))
        ((E1 (ixD s1) (E2 subD (some x_amount) (some x_value))).bind fun x_best => (some x_best))
        (some s2))
      (some s2))
def f__law_numbers_L2 (x_coinage : D) (s1 : D) (x_amount : D) : Option (D) :=
  ((some D.non).bind fun x_best => ((((some x_coinage).bind seqD).bind fun ds => forP (f__law_numbers_L1 x_amount s1) x_best ds).bind fun (s3 : D) => (iteO ((E2 isNotD (some s3) (some D.non)).bind getB)
    ((setM (E2 addD (some s3) (some (D.int 1))) (some x_amount) s1).bind fun x_found => (some x_found))
    (some s1))))
def f__law_numbers_D (x_coinage : D) (x_top : D) : Option D :=
  ((E2 catD ((aC (some (D.int 0)) (some [])).bind lstD) (E2 repD ((aC (some D.non) (some [])).bind lstD) (some x_top))).bind fun x_found => ((((aC (some (D.int 1)) (aC (E2 addD (some x_top) (some (D.int 1))) (some []))).bind rg2D).bind fun ds => forP (f__law_numbers_L2 x_coinage) x_found ds).bind fun (s4 : D) => (some s4)))
end
end DL
set_option autoImplicit false
set_option maxRecDepth 100000
set_option maxHeartbeats 4000000
namespace DL
noncomputable section
def f_sum_of_D (x_coinage : D) (x_purse : D) : Option D :=
  (E1 (o1 sumD) (LC ((aC (some x_coinage) (aC (some x_purse) (some []))).bind zipD) (un2 (fun x_value x_count => (some true))) (un2 (fun x_value x_count => (E2 mulD (some x_value) (some x_count))))))
def f__law_worth_D (x_coinage : D) (x_payment : D) : Option D :=
  (E1 (o1 sumD) (LC ((aC (E1 (o1 lenD) (some x_coinage)) (some [])).bind rg1D) (fun x_k => (some true)) (fun x_k => (E2 mulD (E2 ixD (some x_coinage) (some x_k)) (E2 ixD (some x_payment) (some x_k))))))
end
end DL
set_option autoImplicit false
set_option maxRecDepth 100000
set_option maxHeartbeats 4000000
namespace DL
noncomputable section
def f_due_of_D (x_shop : D) (x_kind : D) : Option D :=
  ((some x_shop).bind (un3 fun x_coinage x_caps x_kinds => ((E2 ixD (some x_kinds) (some x_kind)).bind (un2 fun x_given x_price => (E2 subD (E2 f_sum_of_D (some x_coinage) (some x_given)) (some x_price))))))
def f_with_given_D (x_shop : D) (x_content : D) (x_kind : D) : Option D :=
  (E1 (o1 tupleD) (LC ((aC (some x_content) (aC (E2 ixD (E2 ixD (E2 ixD (some x_shop) (some (D.int 2))) (some x_kind)) (some (D.int 0))) (some []))).bind zipD) (un2 (fun x_have x_more => (some true))) (un2 (fun x_have x_more => (E2 addD (some x_have) (some x_more))))))
def f__law_purse_D (x_row : D) (x_at : D) (x_places : D) (x_most : D) : Option D :=
  (E1 (o1 tupleD) (LC ((aC (some x_places) (some [])).bind rg1D) (fun x_k => (some true)) (fun x_k => (E2 modD (E1 (o1 intD) (E2 ixD (some x_row) (E2 addD (some x_at) (some x_k)))) (E2 addD (some x_most) (some (D.int 1)))))))
def f__law_worth_k29_D (x_coinage : D) (x_purse : D) : Option D :=
  (E1 (o1 sumD) (LC ((aC (E1 (o1 lenD) (some x_coinage)) (some [])).bind rg1D) (fun x_k => (some true)) (fun x_k => (E2 mulD (E2 ixD (some x_coinage) (some x_k)) (E2 ixD (some x_purse) (some x_k))))))
def f__law_full_shop_L1 (x_row : D) (x_at : D) (x_top : D) (s1 : D) (x_k : D) : Option (D) :=
  ((E2 addD (some (D.int 1)) (E2 modD (E1 (o1 intD) (E2 ixD (some x_row) (E2 addD (E2 addD (some x_at) (some (D.int 1))) (some x_k)))) (some x_top))).bind fun x_value => (iteO ((E2 notInD (some x_value) (some s1)).bind getB)
    (((some x_value).bind (appD s1)).bind fun x_found => (some x_found))
    (some s1)))
def f__law_full_shop_L2 (x_row : D) (x_at : D) (x_coinage : D) (s3 : D) (x_k : D) : Option (D) :=
  ((E4 f__law_purse_D (some x_row) (E2 addD (E2 addD (some x_at) (some (D.int 11))) (E2 mulD (some (D.int 10)) (some x_k))) (E1 (o1 lenD) (some x_coinage)) (some (D.int 3))).bind fun x_given => ((E1 (o1 tupleD) (LC ((aC (E1 (o1 lenD) (some x_coinage)) (some [])).bind rg1D) (fun x_j => (some true)) (fun x_j => (E2 modD (E1 (o1 intD) (E2 ixD (some x_row) (E2 addD (E2 addD (E2 addD (some x_at) (some (D.int 16))) (E2 mulD (some (D.int 10)) (some x_k))) (some x_j)))) (E2 addD (E2 ixD (some x_given) (some x_j)) (some (D.int 1))))))).bind fun x_back => ((E2 subD (E2 f__law_worth_k29_D (some x_coinage) (some x_given)) (E2 f__law_worth_k29_D (some x_coinage) (some x_back))).bind fun x_price => ((iteO (andT ((E2 gtD (some x_k) (some (D.int 0))).bind getB) ((E2 eqD (E2 modD (E1 (o1 intD) (E2 ixD (some x_row) (E2 addD (E2 addD (some x_at) (some (D.int 15))) (E2 mulD (some (D.int 10)) (some x_k))))) (some (D.int 3))) (some (D.int 1))).bind getB))
    ((E2 modD (E1 (o1 intD) (E2 ixD (some x_row) (E2 addD (E2 addD (some x_at) (some (D.int 20))) (E2 mulD (some (D.int 10)) (some x_k))))) (E2 addD (E2 f__law_worth_k29_D (some x_coinage) (some x_given)) (some (D.int 1)))).bind fun x_price => (some x_price))
    (some x_price)).bind fun (a4 : D) => ((((aC (some x_given) (aC (some a4) (some []))).bind tupD).bind (appD s3)).bind fun x_kinds => (some x_kinds))))))
def f__law_full_shop_D (x_row : D) (x_at : D) : Option D :=
  ((E2 ixD ((aC (some (D.int 8)) (aC (some (D.int 60)) (some []))).bind lstD) (E2 modD (E1 (o1 intD) (E2 ixD (some x_row) (E2 addD (some x_at) (some (D.int 5))))) (some (D.int 2)))).bind fun x_top => (((some []).bind lstD).bind fun x_found => ((((aC (E2 addD (some (D.int 1)) (E2 modD (E1 (o1 intD) (E2 ixD (some x_row) (some x_at))) (some (D.int 4)))) (some [])).bind rg1D).bind fun ds => forP (f__law_full_shop_L1 x_row x_at x_top) x_found ds).bind fun (s2 : D) => ((E1 (o1 tupleD) (E1 (o1 sortedD) (some s2))).bind fun x_coinage => ((E4 f__law_purse_D (some x_row) (E2 addD (some x_at) (some (D.int 6))) (E1 (o1 lenD) (some x_coinage)) (some (D.int 3))).bind fun x_caps => (((some []).bind lstD).bind fun x_kinds => ((((aC (E2 addD (some (D.int 1)) (E2 modD (E1 (o1 intD) (E2 ixD (some x_row) (E2 addD (some x_at) (some (D.int 10))))) (some (D.int 5)))) (some [])).bind rg1D).bind fun ds => forP (f__law_full_shop_L2 x_row x_at x_coinage) x_kinds ds).bind fun (s5 : D) => ((aC (some x_coinage) (aC (some x_caps) (aC (E1 (o1 tupleD) (some s5)) (some [])))).bind tupD))))))))
def f__law_content_D (x_row : D) (x_at : D) (x_caps : D) : Option D :=
  (E1 (o1 tupleD) (LC ((aC (E1 (o1 lenD) (some x_caps)) (some [])).bind rg1D) (fun x_k => (some true)) (fun x_k => (E2 modD (E1 (o1 intD) (E2 ixD (some x_row) (E2 addD (some x_at) (some x_k)))) (E2 addD (E2 ixD (some x_caps) (some x_k)) (some (D.int 1)))))))
def f__law_payments_L1 (x_coinage : D) (x_k : D) (x_left : D) (x_taken : D) (s3 : D) (x_count : D) : Option (Lp (D)) :=
  (iteO ((E2 gtD (E2 mulD (some x_count) (E2 ixD (some x_coinage) (some x_k))) (some x_left)).bind getB)
        (some (Lp.br s3))
        ((((aC (E2 addD (some x_taken) ((aC (some x_count) (some [])).bind tupD)) (aC (E2 subD (some x_left) (E2 mulD (some x_count) (E2 ixD (some x_coinage) (some x_k)))) (some []))).bind tupD).bind (appD s3)).bind fun x_longer => (some (Lp.go x_longer))))
def f__law_payments_L2 (x_there : D) (x_k : D) (x_coinage : D) (s2 : D) (x_taken : D) (x_left : D) : Option (D) :=
  ((((aC (E2 addD (E2 ixD (some x_there) (some x_k)) (some (D.int 1))) (some [])).bind rg1D).bind fun ds => forB (f__law_payments_L1 x_coinage x_k x_left x_taken) s2 ds).bind fun (s4 : D) => (some s4))
def f__law_payments_L3 (x_there : D) (x_coinage : D) (s1 : D) (x_k : D) : Option (D) :=
  (((some []).bind lstD).bind fun x_longer => ((((some s1).bind seqD).bind fun ds => forP (fun s2 => un2 ((f__law_payments_L2 x_there x_k x_coinage) s2)) x_longer ds).bind fun (s5 : D) => ((some s5).bind fun x_found => (some x_found))))
def f__law_payments_D (x_coinage : D) (x_there : D) (x_due : D) : Option D :=
  (((aC ((aC ((some []).bind tupD) (aC (some x_due) (some []))).bind tupD) (some [])).bind lstD).bind fun x_found => ((((aC (E1 (o1 lenD) (some x_coinage)) (some [])).bind rg1D).bind fun ds => forP (f__law_payments_L3 x_there x_coinage) x_found ds).bind fun (s6 : D) => (LC ((some s6).bind seqD) (fun x_pair => ((E2 eqD (E2 ixD (some x_pair) (some (D.int 1))) (some (D.int 0))).bind getB)) (fun x_pair => (E2 ixD (some x_pair) (some (D.int 0)))))))
def f__law_there_D (x_shop : D) (x_content : D) (x_kind : D) : Option D :=
  (E1 (o1 tupleD) (LC ((aC (E1 (o1 lenD) (some x_content)) (some [])).bind rg1D) (fun x_k => (some true)) (fun x_k => (E2 addD (E2 ixD (some x_content) (some x_k)) (E2 ixD (E2 ixD (E2 ixD (E2 ixD (some x_shop) (some (D.int 2))) (some x_kind)) (some (D.int 0))) (some x_k))))))
def f__law_due_D (x_shop : D) (x_kind : D) : Option D :=
  (E2 subD (E2 f__law_worth_k29_D (E2 ixD (some x_shop) (some (D.int 0))) (E2 ixD (E2 ixD (E2 ixD (some x_shop) (some (D.int 2))) (some x_kind)) (some (D.int 0)))) (E2 ixD (E2 ixD (E2 ixD (some x_shop) (some (D.int 2))) (some x_kind)) (some (D.int 1))))
end
end DL
set_option autoImplicit false
set_option maxRecDepth 100000
set_option maxHeartbeats 4000000
namespace DL
noncomputable section
def f_is_coinage_D (x_value : D) (x_most : D) : Option D :=
  (iteO (orT (notT ((E1 (isiG isTupD) (some x_value)).bind truD)) (notT ((chD leD leD (some (D.int 1)) (E1 (o1 lenD) (some x_value)) (some x_most)).bind getB)))
  (some (D.bl false))
  (iteO (notT ((E1 (o1 allD) (LC ((some x_value).bind seqD) (fun x_part => (some true)) (fun x_part => (E3 f_is_number_D (some x_part) (some (D.int 1)) (some (D.int 60)))))).bind truD))
  (some (D.bl false))
  (E1 (o1 allD) (LC ((aC (some x_value) (aC (SL (some x_value) (((some (D.int 1)).bind getI).map some) (some none)) (some []))).bind zipD) (un2 (fun x_less x_more => (some true))) (un2 (fun x_less x_more => (E2 ltD (some x_less) (some x_more))))))))
def f_are_caps_D (x_coinage : D) (x_value : D) : Option D :=
  (andV (E2 f_is_row_D (some x_value) (E1 (o1 lenD) (some x_coinage))) (E1 (o1 allD) (LC ((some x_value).bind seqD) (fun x_cap => (some true)) (fun x_cap => (E3 f_is_number_D (some x_cap) (some (D.int 0)) (some (D.int 3)))))))
def f_is_kind_D (x_coinage : D) (x_value : D) : Option D :=
  (iteO (orT (notT ((E2 f_is_row_D (some x_value) (some (D.int 2))).bind truD)) (notT ((E2 f_is_row_D (E2 ixD (some x_value) (some (D.int 0))) (E1 (o1 lenD) (some x_coinage))).bind truD)))
  (some (D.bl false))
  (iteO (notT ((E1 (o1 allD) (LC ((E2 ixD (some x_value) (some (D.int 0))).bind seqD) (fun x_count => (some true)) (fun x_count => (E3 f_is_number_D (some x_count) (some (D.int 0)) (some (D.int 3)))))).bind truD))
  (some (D.bl false))
  (E3 f_is_number_D (E2 ixD (some x_value) (some (D.int 1))) (some (D.int 0)) (E2 f_sum_of_D (some x_coinage) (E2 ixD (some x_value) (some (D.int 0)))))))
def f_is_shop_D (x_value : D) : Option D :=
  (iteO (notT ((E2 f_is_row_D (some x_value) (some (D.int 3))).bind truD))
  (some (D.bl false))
  ((some x_value).bind (un3 fun x_coinage x_caps x_kinds => (iteO (orT (notT ((E2 f_is_coinage_D (some x_coinage) (some (D.int 4))).bind truD)) (notT ((E2 f_are_caps_D (some x_coinage) (some x_caps)).bind truD)))
  (some (D.bl false))
  (iteO (orT (notT ((E1 (isiG isTupD) (some x_kinds)).bind truD)) (notT ((chD leD leD (some (D.int 1)) (E1 (o1 lenD) (some x_kinds)) (some (D.int 5))).bind getB)))
  (some (D.bl false))
  (E1 (o1 allD) (LC ((some x_kinds).bind seqD) (fun x_kind => (some true)) (fun x_kind => (E2 f_is_kind_D (some x_coinage) (some x_kind))))))))))
def f_check_shop_T (x_value : D) : Option Bool := notT ((E1 f_is_shop_D (some x_value)).bind truD)
def f__law_bad_coins_L1 (a1 : D) (s2 : D) (x_given : D) (x_price : D) : Option (D) :=
  ((((aC (some x_given) (aC (E2 (o2 min2D) (some x_price) (E1 (o1 sumD) (LC ((aC (E1 (o1 lenD) (some x_given)) (some [])).bind rg1D) (fun x_k => (some true)) (fun x_k => (E2 mulD (E1 (o1 intD) (E2 ixD (some a1) (some x_k))) (E2 ixD (some x_given) (some x_k))))))) (some []))).bind tupD).bind (appD s2)).bind fun x_fitting => (some x_fitting))
def f__law_bad_coins_D (x_shop : D) (x_kind : D) (x_place : D) : Option D :=
  ((some x_shop).bind (un3 fun x_coinage x_caps x_kinds => (iteO ((E2 eqD (some x_kind) (some (D.int 5))).bind getB)
  ((aC (E1 (o1 tupleD) (LC ((aC (some (D.int 5)) (some [])).bind rg1D) (fun x_k => (some true)) (fun x_k => (E2 addD (E2 addD (some (D.int 1)) (some x_place)) (E2 mulD (some (D.int 14)) (some x_k)))))) (aC ((aC (some (D.int 1)) (aC (some (D.int 1)) (aC (some (D.int 1)) (aC (some (D.int 1)) (aC (some (D.int 1)) (some [])))))).bind tupD) (aC ((aC ((aC ((aC (some (D.int 1)) (aC (some (D.int 0)) (aC (some (D.int 1)) (aC (some (D.int 0)) (aC (some (D.int 1)) (some [])))))).bind tupD) (aC (some (D.int 2)) (some []))).bind tupD) (some [])).bind tupD) (some [])))).bind tupD)
  (iteO ((E2 eqD (some x_kind) (some (D.int 6))).bind getB)
  ((aC ((some []).bind tupD) (aC ((some []).bind tupD) (aC ((aC ((aC ((some []).bind tupD) (aC (some (D.int 0)) (some []))).bind tupD) (some [])).bind tupD) (some [])))).bind tupD)
  (iteO (andT ((E2 eqD (some x_kind) (some (D.int 2))).bind getB) ((E2 eqD (E1 (o1 lenD) (some x_coinage)) (some (D.int 1))).bind getB))
  ((aC ((aC (some (D.int 5)) (aC (some (D.int 5)) (some []))).bind tupD) (aC ((aC (some (D.int 1)) (aC (some (D.int 1)) (some []))).bind tupD) (aC ((aC ((aC ((aC (some (D.int 1)) (aC (some (D.int 1)) (some []))).bind tupD) (aC (some (D.int 3)) (some []))).bind tupD) (some [])).bind tupD) (some [])))).bind tupD)
  ((iteO ((E2 eqD (some x_kind) (some (D.int 2))).bind getB)
  ((E2 addD (E2 addD (SL (some x_coinage) (some none) (((some (D.int 1)).bind getI).map some)) (SL (some x_coinage) (some none) (((some (D.int 1)).bind getI).map some))) (SL (some x_coinage) (((some (D.int 2)).bind getI).map some) (some none))).bind fun x_coins => (some x_coins))
  ((E2 ixD ((aC (E1 (o1 listD) (some x_coinage)) (aC (E2 addD ((aC (some (D.int 0)) (some [])).bind tupD) (SL (some x_coinage) (((some (D.int 1)).bind getI).map some) (some none))) (aC ((some []).bind tupD) (aC (E2 addD (SL (some x_coinage) (some none) (((E1 negD (some (D.int 1))).bind getI).map some)) ((aC (some (D.int 61)) (some [])).bind tupD)) (aC (E2 addD ((aC (some (D.bl true)) (some [])).bind tupD) (SL (some x_coinage) (((some (D.int 1)).bind getI).map some) (some none))) (some [])))))).bind lstD) (some x_kind)).bind fun x_coins => (some x_coins))).bind fun (a1 : D) => (((some []).bind lstD).bind fun x_fitting => ((((some x_kinds).bind seqD).bind fun ds => forP (fun s2 => un2 ((f__law_bad_coins_L1 a1) s2)) x_fitting ds).bind fun (s3 : D) => ((aC (some a1) (aC (some x_caps) (aC (E1 (o1 tupleD) (some s3)) (some [])))).bind tupD)))))))))
def f__law_put_D (x_items : D) (x_place : D) (x_thing : D) : Option D :=
  (E2 addD (E2 addD (SL (some x_items) (some none) (((some x_place).bind getI).map some)) ((aC (some x_thing) (some [])).bind tupD)) (SL (some x_items) (((E2 addD (some x_place) (some (D.int 1))).bind getI).map some) (some none)))
def f__law_bad_counts_D (x_counts : D) (x_kind : D) (x_place : D) : Option D :=
  (iteO ((E2 ltD (some x_kind) (some (D.int 3))).bind getB)
  (E3 f__law_put_D (some x_counts) (some x_place) (E2 ixD ((aC (some (D.int 4)) (aC (E1 negD (some (D.int 1))) (aC (some (D.bl true)) (some [])))).bind lstD) (some x_kind)))
  (E2 ixD ((aC (E2 addD (some x_counts) ((aC (some (D.int 0)) (some [])).bind tupD)) (aC (SL (some x_counts) (((some (D.int 1)).bind getI).map some) (some none)) (aC (E1 (o1 listD) (some x_counts)) (some [])))).bind lstD) (E2 subD (some x_kind) (some (D.int 3)))))
def f__law_bad_kind_D (x_given : D) (x_price : D) (x_whole : D) (x_kind : D) (x_place : D) : Option D :=
  (iteO ((E2 ltD (some x_kind) (some (D.int 6))).bind getB)
  ((aC (E3 f__law_bad_counts_D (some x_given) (some x_kind) (some x_place)) (aC (E2 (o2 min2D) (some x_price) (some (D.int 0))) (some []))).bind tupD)
  (iteO ((E2 ltD (some x_kind) (some (D.int 10))).bind getB)
  ((aC (some x_given) (aC (E2 ixD ((aC (E2 addD (some x_whole) (some (D.int 1))) (aC (E1 negD (some (D.int 1))) (aC (some (D.bl true)) (aC (some D.non) (some []))))).bind lstD) (E2 subD (some x_kind) (some (D.int 6)))) (some []))).bind tupD)
  (E2 ixD ((aC ((aC (some x_given) (aC (some x_price) (some []))).bind lstD) (aC ((aC (some x_given) (aC (some x_price) (aC (some (D.int 0)) (some [])))).bind tupD) (aC (some D.non) (some [])))).bind lstD) (E2 subD (some x_kind) (some (D.int 10))))))
def f__law_spoilt_D (x_shop : D) (x_row : D) (x_at : D) : Option D :=
  ((some x_shop).bind (un3 fun x_coinage x_caps x_kinds => ((E2 modD (E1 (o1 intD) (E2 ixD (some x_row) (some x_at))) (some (D.int 35))).bind fun x_kind => ((E2 modD (E1 (o1 intD) (E2 ixD (some x_row) (E2 addD (some x_at) (some (D.int 1))))) (E1 (o1 lenD) (some x_coinage))).bind fun x_place => ((E2 modD (E1 (o1 intD) (E2 ixD (some x_row) (E2 addD (some x_at) (some (D.int 2))))) (E1 (o1 lenD) (some x_kinds))).bind fun x_which => ((E2 ixD (some x_kinds) (some x_which)).bind (un2 fun x_given x_price => (iteO ((E2 ltD (some x_kind) (some (D.int 6))).bind getB)
  (E2 ixD ((aC (some D.non) (aC (some (D.int 7)) (aC (some (D.str "shop")) (aC ((aC (some x_coinage) (aC (some x_caps) (aC (some x_kinds) (some [])))).bind lstD) (aC ((aC (some x_coinage) (aC (some x_caps) (some []))).bind tupD) (aC ((aC (some x_coinage) (aC (some x_caps) (aC (some x_kinds) (aC ((some []).bind tupD) (some []))))).bind tupD) (some []))))))).bind lstD) (some x_kind))
  (iteO ((E2 ltD (some x_kind) (some (D.int 13))).bind getB)
  (E3 f__law_bad_coins_D (some x_shop) (E2 subD (some x_kind) (some (D.int 6))) (some x_place))
  (iteO ((E2 ltD (some x_kind) (some (D.int 19))).bind getB)
  ((aC (some x_coinage) (aC (E3 f__law_bad_counts_D (some x_caps) (E2 subD (some x_kind) (some (D.int 13))) (some x_place)) (aC (some x_kinds) (some [])))).bind tupD)
  (iteO ((E2 ltD (some x_kind) (some (D.int 21))).bind getB)
  ((aC (some x_coinage) (aC (some x_caps) (aC (E2 ixD ((aC ((some []).bind tupD) (aC (E1 (o1 listD) (some x_kinds)) (some []))).bind lstD) (E2 subD (some x_kind) (some (D.int 19)))) (some [])))).bind tupD)
  (iteO ((E2 eqD (some x_kind) (some (D.int 21))).bind getB)
  ((E2 addD (E2 addD (E2 addD (E2 addD (E2 addD (some x_kinds) (some x_kinds)) (some x_kinds)) (some x_kinds)) (some x_kinds)) (some x_kinds)).bind fun x_six => ((aC (some x_coinage) (aC (some x_caps) (aC (SL (some x_six) (some none) (((some (D.int 6)).bind getI).map some)) (some [])))).bind tupD))
  ((E5 f__law_bad_kind_D (some x_given) (some x_price) (E2 f__law_worth_k29_D (some x_coinage) (some x_given)) (E2 subD (some x_kind) (some (D.int 22))) (some x_place)).bind fun x_bad => ((aC (some x_coinage) (aC (some x_caps) (aC (E3 f__law_put_D (some x_kinds) (some x_which) (some x_bad)) (some [])))).bind tupD))))))))))))))
def f__law_greatest_L1 (x_coinage : D) (s1 : D) (x_given : D) (x_price : D) : Option (D) :=
  ((((aC (some x_given) (aC (E2 f__law_worth_k29_D (some x_coinage) (some x_given)) (some []))).bind tupD).bind (appD s1)).bind fun x_kinds => (some x_kinds))
def f__law_greatest_D (x_shop : D) : Option D :=
  ((E2 ixD (some x_shop) (some (D.int 0))).bind fun x_coinage => (((some []).bind lstD).bind fun x_kinds => ((((E2 ixD (some x_shop) (some (D.int 2))).bind seqD).bind fun ds => forP (fun s1 => un2 ((f__law_greatest_L1 x_coinage) s1)) x_kinds ds).bind fun (s2 : D) => ((E1 (o1 tupleD) (LC ((some x_coinage).bind seqD) (fun x_value => (some true)) (fun x_value => (some (D.int 3))))).bind fun x_full => (((aC (some x_full) (aC (E2 mulD (some (D.int 3)) (E1 (o1 sumD) (some x_coinage))) (some []))).bind tupD).bind fun x_most => ((SL (E2 catD (some s2) ((aC (some x_most) (aC (some x_most) (aC (some x_most) (aC (some x_most) (some []))))).bind lstD)) (some none) (((some (D.int 5)).bind getI).map some)).bind fun x_kinds => ((aC (some x_coinage) (aC (some x_full) (aC (E1 (o1 tupleD) (some x_kinds)) (some [])))).bind tupD)))))))
def f__law_told_D (x_value : D) : Option D := (f_check_shop_T x_value).bind fun b => if b = true then some (D.int 1) else (iteO ((E2 isD (some D.non) (some D.non)).bind getB) (some (D.int 0)) (some (D.int 2)))
def f_law_L1 (s1 : Unit) (x_value : D) (x_due : D) : Option (Lp (Unit)) :=
  (iteO ((E2 neD (E1 f__law_told_D (some x_value)) (some x_due)).bind getB)
    ((some (D.bl false)).map Lp.rt)
    (some (Lp.go ())))
def f_law_D (x_script : D) : Option D :=
  ((E2 f__law_row_D (some x_script) (some (D.int 65))).bind fun x_row => ((E2 f__law_full_shop_D (some x_row) (some (D.int 0))).bind fun x_good => ((E3 f__law_spoilt_D (some x_good) (some x_row) (some (D.int 61))).bind fun x_bad => (bindR ((((aC ((aC (some x_bad) (aC (some (D.int 1)) (some []))).bind tupD) (aC ((aC (some x_good) (aC (some (D.int 0)) (some []))).bind tupD) (aC ((aC (some x_bad) (aC (some (D.int 1)) (some []))).bind tupD) (aC ((aC (E1 f__law_greatest_D (some x_good)) (aC (some (D.int 0)) (some []))).bind tupD) (some []))))).bind tupD).bind seqD).bind fun ds => forR (fun s1 => un2 (f_law_L1 s1)) () ds) id fun (s2 : Unit) => (some (D.bl true))))))
end
end DL
set_option autoImplicit false
set_option maxRecDepth 100000
set_option maxHeartbeats 4000000
namespace DL
open PySem PySem.Spec PySem.SeqAt PyProof.Rows L2
theorem mixed_spec (ns : List Int) (k : Int) (hk : 0 ≤ k) : ∃ n : Int, f__law_mixed_D (.scr ns) (.int k) = some (.int n) ∧ 0 ≤ n ∧ n < 1000003 := by
  have h1 : ∃ cell : Int, (iteO ((E2 gtD (E1 (o1 lenD) (some (.scr ns))) (some (D.int 0))).bind getB)
    ((E2 ixD (some (.scr ns)) (E2 modD (some (.int k)) (E1 (o1 lenD) (some (.scr ns))))).bind fun x_cell => (some x_cell)) (some (.int 0))) = some (.int cell) := by
    by_cases h : ns = []
    · subst h; exact ⟨0, by simp⟩
    · have hl : 0 < (ns.length : Int) := by have := List.length_pos_iff.mpr h; omega
      have h2 : 0 ≤ k % ns.length := Int.emod_nonneg _ (by omega)
      have h3 : k % ns.length < ns.length := Int.emod_lt_of_pos _ hl
      refine ⟨at0 ns (k % ns.length), ?_⟩
      simp [modD_i hl, ixD_scr ⟨h2, h3⟩, h]
  obtain ⟨cell, hc⟩ := h1
  unfold f__law_mixed_D
  simp only [Option.bind_some]
  rw [hc]
  have e1 : ∀ x y : Int, 0 < y → 0 ≤ x % y ∧ x % y < y := fun x y h => ⟨Int.emod_nonneg _ (by omega), Int.emod_lt_of_pos _ h⟩
  have a1 := e1 (cell * 48271 + k * 69621 + 8191) 2147483647 (by omega)
  generalize hf : (cell * 48271 + k * 69621 + 8191) % 2147483647 = first at a1
  have a2 := e1 (first * first + first / 7 + k * 16807) 2147483629 (by omega)
  generalize hs : (first * first + first / 7 + k * 16807) % 2147483629 = second at a2
  have a3 := e1 (second * second + second / 11 + 40692) 2147483563 (by omega)
  refine ⟨(second * second + second / 11 + 40692) % 2147483563 / 5 % 1000003, ?_, (e1 _ _ (by omega)).1, (e1 _ _ (by omega)).2⟩
  simp [mulD_r, modD_i, fdivD_i, hf, hs, mulD_l (i := first) (by omega), mulD_l (i := second) (by omega)]
theorem row_spec (ns : List Int) (m : Int) (hm : 0 ≤ m ∧ m ≤ 1000) : ∃ row : List Int, f__law_row_D (.scr ns) (.int m) = some (.lst (row.map .int)) ∧ row.length = m.toNat ∧ ∀ x ∈ row, 0 ≤ x ∧ x < 1000003 := by
  have h1 : ∃ big : Int, (iteO (andT ((E2 gtD (E1 (o1 lenD) (some (.scr ns))) (some (D.int 0))).bind getB) ((E2 geD (E2 ixD (some (.scr ns)) (some (D.int 0))) (E2 powD (some (D.int 10)) (some (D.int 18)))).bind getB))
    ((E2 ixD (some (.scr ns)) (some (D.int 0))).bind fun x_big => (some x_big)) (some (D.int 0))) = some (.int big) := by
    by_cases h : ns = []
    · subst h; exact ⟨0, by simp⟩
    · have hl : 0 < (ns.length : Int) := by have := List.length_pos_iff.mpr h; omega
      have hl' := List.length_pos_iff.mpr h
      simp [ixD_scr (ns := ns) (i := 0) ⟨by omega, hl⟩, powD_i, h, hl']
      split <;> simp
  obtain ⟨big, hb⟩ := h1
  unfold f__law_row_D
  simp only [Option.bind_some]
  rw [hb]
  simp only [Option.bind_some, aC_s, rg1_i (show -4611686018427387904 ≤ m ∧ m < 4611686018427387904 by omega)]
  rw [lstD_i (by simp)]
  simp only [Option.bind_some]
  obtain ⟨s', e, row, b, h1, h2, h3⟩ := forP_inv (f := f__law_row_L1 (.scr ns)) (g := D.int) (fun ys s => ∃ (row : List Int) (b : Int), s = (.int b, .lst (row.map .int)) ∧ row.length = ys.length ∧ ∀ x ∈ row, 0 ≤ x ∧ x < 1000003)
    (xs := rangeI 0 m) (s := (.int big, .lst [])) (ys := []) ⟨[], big, rfl, rfl, by simp⟩ (by
      rintro zs x ws s e ⟨row, b, rfl, hl, hr⟩
      have hx : x ∈ rangeI 0 m := by rw [show rangeI 0 m = zs ++ x :: ws from e]; simp
      rw [rangeI_mem] at hx
      have hz : zs.length + (ws.length + 1) = m.toNat := by
        have := congrArg List.length (show rangeI 0 m = zs ++ x :: ws from e)
        rw [rangeI_len] at this
        simpa using this.symm
      unfold f__law_row_L1
      by_cases hb : 0 < b
      · refine ⟨_, by simp [hb, modD_i, fdivD_i]; rw [appD_i (by simp; omega)]; simp; rfl, row ++ [b % 1000], b / 1000, by simp, by simp [hl], fun y hy => ?_⟩
        simp at hy
        rcases hy with hy | rfl
        · exact hr y hy
        · omega
      · obtain ⟨n, hn, h0, h1⟩ := mixed_spec ns x hx.1
        refine ⟨_, by simp [hb, hn]; rw [appD_i (by simp; omega)]; simp; rfl, row ++ [n], b, by simp, by simp [hl], fun y hy => ?_⟩
        simp at hy
        rcases hy with hy | rfl
        · exact hr y hy
        · exact ⟨h0, h1⟩)
  refine ⟨row, ?_, ?_, h3⟩
  · rw [e, h1]; rfl
  · rw [h2, List.nil_append, rangeI_len]; congr 1; omega
section
variable {f : D → Bool} {i : Int} {p : Bool} {x : Str} {ds : List D}
@[simp] theorem isi_i : isiG f (.int i) = some (.bl (f (.int i))) := id rfl
@[simp] theorem isi_b : isiG f (.bl p) = some (.bl (f (.bl p))) := id rfl
@[simp] theorem isi_s : isiG f (.str x) = some (.bl (f (.str x))) := id rfl
@[simp] theorem isi_n : isiG f .non = some (.bl (f .non)) := id rfl
@[simp] theorem isi_t : isiG f (.tup ds) = some (.bl (f (.tup ds))) := id rfl
@[simp] theorem isi_l : isiG f (.lst ds) = some (.bl (f (.lst ds))) := id rfl
end
def likeOk : Nat → D → Prop
  | _, .non => True
  | _, .bl _ => True
  | _, .int _ => True
  | _, .str x => PyData.strOk x = true
  | n + 1, .tup ds => ds.length ≤ 16777216 ∧ ∀ d ∈ ds, likeOk n d
  | _, _ => False
theorem likeOk_t {n : Nat} {ds : List D} : likeOk (n + 1) (.tup ds) = (ds.length ≤ 16777216 ∧ ∀ d ∈ ds, likeOk n d) := by rw [likeOk]
theorem all_true {xs : List Int} : allD [.lst (xs.map fun _ => .bl true)] = some (.bl true) := by
  have := allD_bs (bs := xs.map fun _ => true)
  rw [List.map_map] at this
  refine Eq.trans this ?_
  congr 2
  simp
theorem like_tup {n : Nat} {ds : List D} (ih : ∀ d ∈ ds, f__law_like_D_R n d d = some (.bl true)) (h1 : ds.length ≤ 16777216) : f__law_like_D_R (n + 1) (.tup ds) (.tup ds) = some (.bl true) := by
  have hr : rg1D [D.int ds.length] = some ((rangeI 0 ds.length).map .int) := rg1_i (by omega)
  have hl : LC (some ((rangeI 0 ds.length).map D.int)) (fun _ => some true) (fun k => E2 (f__law_like_D_R n) (ixD (.tup ds) k) (ixD (.tup ds) k)) = some (.lst ((rangeI 0 ds.length).map fun _ => .bl true)) := by
    refine LC_map (fun k hk => ?_) (by rw [rangeI_len]; omega)
    rw [rangeI_mem] at hk
    have h3 : k.toNat < ds.length := by omega
    rw [ixD_t hk.1, List.getElem?_eq_getElem h3]
    exact ih _ (List.getElem_mem h3)
  simp -implicitDefEqProofs [f__law_like_D_R, f__law_like_D_B, isBlD, isTupD, hr, hl, all_true]
theorem like_refl : ∀ (n : Nat) (v : D), likeOk n v → f__law_like_D_R n v v = some (.bl true) := by
  intro n
  induction n with
  | zero =>
    intro v h
    cases v <;> simp [likeOk] at h <;> simp [f__law_like_D_R, f__law_like_D_B, isBlD, isTupD, isStrD, isIntD, f__law_is_int_D]
    simp [eqD_s h h]
  | succ n ih =>
    intro v h
    cases v with
    | tup ds =>
      rw [likeOk_t] at h
      exact like_tup (fun d hd => ih d (h.2 d hd)) h.1
    | str x => simp [likeOk] at h; simp [f__law_like_D_R, f__law_like_D_B, isBlD, isTupD, isStrD, isIntD, f__law_is_int_D, eqD_s h h]
    | non => simp [f__law_like_D_R, f__law_like_D_B]
    | bl => simp [f__law_like_D_R, f__law_like_D_B, isBlD]
    | int => simp [f__law_like_D_R, f__law_like_D_B, isBlD, isTupD, isStrD, isIntD, f__law_is_int_D]
    | _ => simp [likeOk] at h
theorem like_i {i : Int} : f__law_like_D (.int i) (.int i) = some (.bl true) := like_refl 4 _ trivial
theorem like_n : f__law_like_D .non .non = some (.bl true) := like_refl 4 _ trivial
theorem like_b {p : Bool} : f__law_like_D (.bl p) (.bl p) = some (.bl true) := like_refl 4 _ trivial
theorem likeOk_ints {n : Nat} {ns : List Int} (h : ns.length ≤ 16777216) : likeOk (n + 1) (.tup (ns.map .int)) := likeOk_t ▸ ⟨by simpa using h, fun d hd => by
  obtain ⟨i, _, rfl⟩ := List.mem_map.mp hd
  cases n <;> simp [likeOk]⟩
theorem like_t {ns : List Int} (h : ns.length ≤ 16777216) : f__law_like_D (.tup (ns.map .int)) (.tup (ns.map .int)) = some (.bl true) := like_refl 4 _ (likeOk_ints h)
end DL
set_option autoImplicit false
set_option maxRecDepth 100000
set_option maxHeartbeats 4000000
namespace DL
open PySem PySem.Spec PySem.SeqAt PyProof.Rows L2
theorem ints_any {v : Int} {fs : List Int} : ((fs.map D.int).any fun z => deq z (.int v)) = decide (v ∈ fs) := by
  induction fs with
  | nil => simp
  | cons f fs ih =>
    rw [List.map_cons, List.any_cons, ih, deq_ii, ← Bool.decide_or]
    refine decide_eq_decide.mpr ?_
    rw [List.mem_cons]
    exact ⟨fun h => h.imp Eq.symm id, fun h => h.imp Eq.symm id⟩
theorem notIn_l {v : Int} {fs : List Int} : notInD (.int v) (.lst (fs.map .int)) = some (.bl (!decide (v ∈ fs))) := by
  simp only [notInD, memD, ok_i, ok_l, plains_ints, deps_ints, ints_any]
  rfl
theorem in_l {v : Int} {fs : List Int} : inD (.int v) (.lst (fs.map .int)) = some (.bl (decide (v ∈ fs))) := by
  simp only [inD, memD, ok_i, ok_l, plains_ints, deps_ints, ints_any]
  rfl
theorem notIn_t {v : Int} {fs : List Int} : notInD (.int v) (.tup (fs.map .int)) = some (.bl (!decide (v ∈ fs))) := by
  simp only [notInD, memD, ok_i, ok_t, plains_ints, deps_ints, ints_any]
  rfl
theorem in_t {v : Int} {fs : List Int} : inD (.int v) (.tup (fs.map .int)) = some (.bl (decide (v ∈ fs))) := by
  simp only [inD, memD, ok_i, ok_t, plains_ints, deps_ints, ints_any]
  rfl
theorem isort_lt {fs : List Int} (h : fs.Nodup) : (isort fs).Pairwise (· < ·) := by
  have h1 := isort_sorted fs
  have h2 : (isort fs).Nodup := (isort_perm fs).nodup_iff.mpr h
  exact (h1.and h2).imp fun h => by omega
/-- a coinage: ascending values of a bound -/
structure Coins (vs : List Int) (n : Nat) (top : Int) : Prop where
  asc : vs.Pairwise (· < ·)
  ne : vs ≠ []
  len : vs.length ≤ n
  bd : ∀ v ∈ vs, 1 ≤ v ∧ v ≤ top
theorem coinage_spec {row : List Int} {i most top : Int} (hi : 0 ≤ i ∧ i + most < row.length) (hm : 1 ≤ most ∧ most ≤ 100) (ht : 1 ≤ top ∧ top ≤ 100000) :
    ∃ vs, f__law_coinage_D (.lst (row.map .int)) (.int i) (.int most) (.int top) = some (.tup (vs.map .int)) ∧ Coins vs most.toNat top := by
  have hb := emod_bd (at0 row i) most (by omega)
  generalize hn : 1 + at0 row i % most = n at hb
  obtain ⟨s', e, fs, rfl, h1, h2, h3, h4⟩ := forP_inv (f := f__law_coinage_L1 (.lst (row.map .int)) (.int i) (.int top)) (g := D.int)
    (fun ys s => ∃ fs : List Int, s = .lst (fs.map .int) ∧ fs.length ≤ ys.length ∧ (ys ≠ [] → fs ≠ []) ∧ fs.Nodup ∧ ∀ v ∈ fs, 1 ≤ v ∧ v ≤ top)
    (xs := rangeI 0 n) (s := .lst []) (ys := []) ⟨[], rfl, by simp, by simp, by simp, by simp⟩ (by
      rintro zs x ws s e ⟨fs, rfl, hl, hne, hnd, hbd⟩
      have hx : x ∈ rangeI 0 n := by rw [show rangeI 0 n = zs ++ x :: ws from e]; simp
      rw [rangeI_mem] at hx
      have hz : zs.length + (ws.length + 1) = n.toNat := by
        have := congrArg List.length (show rangeI 0 n = zs ++ x :: ws from e)
        rw [rangeI_len] at this
        simpa using this.symm
      have hv := emod_bd (at0 row (i + 1 + x)) top (by omega)
      unfold f__law_coinage_L1
      by_cases hmem : 1 + at0 row (i + 1 + x) % top ∈ fs
      · refine ⟨_, ?_, fs, rfl, by simp; omega, fun _ => by rintro rfl; simp at hmem, hnd, hbd⟩
        simp -implicitDefEqProofs [ixD_row (ns := row) (i := i + 1 + x) (by omega), modD_i (show 0 < top by omega), notIn_l, hmem]
      · refine ⟨.lst ((fs ++ [1 + at0 row (i + 1 + x) % top]).map .int), ?_, fs ++ [1 + at0 row (i + 1 + x) % top], rfl, by simp; omega, by simp, ?_, ?_⟩
        · simp -implicitDefEqProofs [ixD_row (ns := row) (i := i + 1 + x) (by omega), modD_i (show 0 < top by omega), notIn_l, hmem]
          exact appD_i (by simp; omega)
        · rw [List.nodup_append]
          exact ⟨hnd, by simp, fun a ha b hb => by simp at hb; subst hb; rintro rfl; exact hmem ha⟩
        · intro v hvm
          simp at hvm
          rcases hvm with hvm | rfl
          · exact hbd v hvm
          · omega)
  refine ⟨isort fs, ?_, isort_lt h3, ?_, ?_, ?_⟩
  · unfold f__law_coinage_D
    simp -implicitDefEqProofs [ixD_row (ns := row) (i := i) (by omega), modD_i (show 0 < most by omega), hn, lstD_i, rg1_i (show -4611686018427387904 ≤ n ∧ n < 4611686018427387904 by omega), e]
  · intro h0
    have hp := (isort_perm fs).length_eq
    rw [h0] at hp
    have : fs ≠ [] := h2 (by
      intro h0'
      have := congrArg List.length h0'
      rw [List.nil_append, rangeI_len] at this
      simp at this; omega)
    exact this (List.length_eq_zero_iff.mp hp.symm)
  · rw [(isort_perm fs).length_eq]
    have := h1
    rw [List.nil_append, rangeI_len] at this
    omega
  · intro v hv
    exact h4 v ((isort_perm fs).mem_iff.mp hv)
theorem Coins.map {vs : List Int} {n m : Nat} {top t : Int} {f : Int → Int} (h : Coins vs n top) (hf : ∀ x y, x < y → f x < f y) (hb : ∀ x, 1 ≤ x → x ≤ top → 1 ≤ f x ∧ f x ≤ t) (hn : n ≤ m) : Coins (vs.map f) m t where
  asc := by rw [List.pairwise_map]; exact h.asc.imp fun h => hf _ _ h
  ne := by simpa using h.ne
  len := by simpa using Nat.le_trans h.len hn
  bd v hv := by
    obtain ⟨x, hx, rfl⟩ := List.mem_map.mp hv
    exact hb x (h.bd x hx).1 (h.bd x hx).2
theorem Coins.mono {vs : List Int} {n m : Nat} {top t : Int} (h : Coins vs n top) (hn : n ≤ m) (ht : top ≤ t) : Coins vs m t := ⟨h.asc, h.ne, Nat.le_trans h.len hn, fun v hv => ⟨(h.bd v hv).1, Int.le_trans (h.bd v hv).2 ht⟩⟩
theorem LC_ints {f : D → Option D} {h : Int → Int} {xs : List Int} (H : ∀ x ∈ xs, f (.int x) = some (.int (h x))) (hl : xs.length ≤ 16777216) : LC (some (xs.map .int)) (fun _ => some true) f = some (.lst ((xs.map h).map .int)) := by
  rw [LC_map (g := D.int) (h := fun x => D.int (h x)) H hl, List.map_map]; rfl
theorem coins_spec {row : List Int} {i : Int} (hi : 0 ≤ i ∧ i + 10 < row.length) : ∃ vs, f__law_coins_D (.lst (row.map .int)) (.int i) = some (.tup (vs.map .int)) ∧ Coins vs 8 60 := by
  have hb := emod_bd (at0 row i) 8 (by omega)
  unfold f__law_coins_D
  simp -implicitDefEqProofs only [E1_s, E2_s, o1_s, ixD_row (ns := row) (i := i) (by omega), intD_i, modD_i (i := at0 row i) (j := 8) (by omega), Option.bind_some, ltD_i, getB_b, iteO_s, eqD_i, addD_i, E4_s]
  generalize at0 row i % 8 = kind at hb
  by_cases h1 : kind < 2
  · simp only [h1, decide_true, if_true]
    obtain ⟨vs, e, h⟩ := coinage_spec (row := row) (i := i + 1) (most := 8) (top := 60) (by omega) (by omega) (by omega)
    exact ⟨vs, e, h⟩
  by_cases h2 : kind = 2
  · subst h2
    have hby := emod_bd (at0 row (i + 10)) 5 (by omega)
    simp -implicitDefEqProofs only [ixD_row (ns := row) (i := i + 10) (by omega), E1_s, o1_s, intD_i, E2_s, modD_i (i := at0 row (i + 10)) (j := 5) (by omega), addD_i, Option.bind_some]
    generalize hg : 2 + at0 row (i + 10) % 5 = by' at *
    rw [fdivD_i (by omega) (by omega)]
    have hq : 10 ≤ 60 / by' ∧ 60 / by' ≤ 30 ∧ by' * (60 / by') ≤ 60 := by
      rcases (by omega : by' = 2 ∨ by' = 3 ∨ by' = 4 ∨ by' = 5 ∨ by' = 6) with rfl | rfl | rfl | rfl | rfl <;> decide
    obtain ⟨vs, e, h⟩ := coinage_spec (row := row) (i := i + 1) (most := 5) (top := 60 / by') (by omega) (by omega) (by omega)
    simp -implicitDefEqProofs only [E4_s, e, Option.bind_some, seqD_t]
    rw [LC_ints (h := fun v => by' * v) (fun v hv => mulD_l (by omega)) (by have := h.len; omega)]
    refine ⟨vs.map fun v => by' * v, by simp, h.map (fun x y hxy => Int.mul_lt_mul_of_pos_left hxy (by omega)) (fun x h1 h2 => ⟨?_, ?_⟩) (by decide)⟩
    · have := Int.mul_le_mul_of_nonneg_left h1 (show 0 ≤ by' by omega); omega
    · have := Int.mul_le_mul_of_nonneg_left h2 (show 0 ≤ by' by omega); omega
  by_cases h3 : kind = 3
  · subst h3
    obtain ⟨vs, e, h⟩ := coinage_spec (row := row) (i := i + 1) (most := 4) (top := 30) (by omega) (by omega) (by omega)
    simp -implicitDefEqProofs [e]
    rw [LC_ints (h := fun v => 30 + v) (fun v hv => by simp) (by have := h.len; omega)]
    refine ⟨vs.map fun v => 30 + v, by simp, h.map (fun x y hxy => by omega) (fun x h1 h2 => by omega) (by decide)⟩
  by_cases h4 : kind = 4
  · subst h4
    obtain ⟨vs, e, h⟩ := coinage_spec (row := row) (i := i + 1) (most := 5) (top := 30) (by omega) (by omega) (by omega)
    simp -implicitDefEqProofs [e]
    rw [LC_ints (h := fun v => 1 + v) (fun v hv => by simp) (by have := h.len; omega)]
    have h' : Coins (vs.map fun v => 1 + v) 5 31 := h.map (fun x y hxy => by omega) (fun x h1 h2 => by omega) (by decide)
    refine ⟨1 :: vs.map fun v => 1 + v, ?_, ⟨?_, by simp, by have := h'.len; simp at this ⊢; omega, ?_⟩⟩
    · have := h.len
      simp -implicitDefEqProofs [tupD_i, addD]
      omega
    · rw [List.pairwise_cons]
      refine ⟨fun a ha => ?_, h'.asc⟩
      obtain ⟨x, hx, rfl⟩ := List.mem_map.mp ha
      have := (h.bd x hx).1
      omega
    · intro v hv
      rcases List.mem_cons.mp hv with rfl | hv
      · omega
      · have := h'.bd v hv; omega
  · obtain ⟨vs, e, h⟩ := coinage_spec (row := row) (i := i + 1) (most := 4) (top := 14) (by omega) (by omega) (by omega)
    simp -implicitDefEqProofs [h1, h2, h3, h4, e]
    exact ⟨vs, rfl, h.mono (by decide) (by omega)⟩
theorem amount_spec {row : List Int} {i : Int} (hi : 0 ≤ i ∧ i + 2 < row.length) : ∃ a, f__law_amount_D (.lst (row.map .int)) (.int i) = some (.int a) ∧ 0 ≤ a ∧ a ≤ 4000 := by
  have h1 := emod_bd (at0 row i) 250 (by omega)
  have h2 := emod_bd (at0 row i % 1000 * 5 + at0 row (i + 2) % 5) 4001 (by omega)
  unfold f__law_amount_D
  simp -implicitDefEqProofs [ixD_row (ns := row) (i := i) (by omega), ixD_row (ns := row) (i := i + 1) (by omega), ixD_row (ns := row) (i := i + 2) (by omega), modD_i, mulD_r]
  split <;> split <;> exact ⟨_, by simp; rfl, by omega, by omega⟩
end DL
set_option autoImplicit false
set_option maxRecDepth 100000
set_option maxHeartbeats 4000000
namespace DL
open PySem PySem.Spec PySem.SeqAt PyProof.Rows L2
/-- None or a number -/
def oD : Option Int → D
  | none => .non
  | some i => .int i
@[simp] theorem oD_n : oD none = .non := rfl
@[simp] theorem oD_s {i : Int} : oD (some i) = .int i := rfl
/-- what stands at a place (None beyond) -/
def atO (fs : List (Option Int)) (i : Int) : Option Int := (fs[i.toNat]?).join
theorem ixD_o {fs : List (Option Int)} {i : Int} (h : 0 ≤ i ∧ i < fs.length) : ixD (.lst (fs.map oD)) (.int i) = some (oD (atO fs i)) := by
  simp only [ixD]
  rw [atI_pos h.1, List.getElem?_map, atO, List.getElem?_eq_getElem (show i.toNat < fs.length by omega)]
  rfl
theorem setM_o {fs : List (Option Int)} {i : Int} {d : Option Int} (h : 0 ≤ i ∧ i < fs.length) : setM (some (oD d)) (some (.int i)) (.lst (fs.map oD)) = some (.lst ((fs.set i.toNat d).map oD)) := by
  simp only [setM, Option.bind_some, setD]
  rw [List.length_map]
  unfold ixN
  rw [if_pos h.1, if_pos h.2, List.map_set]
  rfl
theorem setM_l {ds : List D} {i : Int} {d : D} (h : 0 ≤ i ∧ i < ds.length) : setM (some d) (some (.int i)) (.lst ds) = some (.lst (ds.set i.toNat d)) := by
  simp only [setM, Option.bind_some, setD]
  unfold ixN
  rw [if_pos h.1, if_pos h.2]
  rfl
/-- the numbers before a sum -/
def before (vs : List Int) (fs : List (Option Int)) (a : Int) : List Int := (vs.filter fun v => decide (v ≤ a)).filterMap fun v => atO fs (a - v)
def leastO : List Int → Option Int
  | [] => none
  | n :: ns => some (lmin n ns)
def stepN (vs : List Int) (fs : List (Option Int)) (a : Int) : List (Option Int) := match leastO (before vs fs a) with
  | none => fs
  | some b => fs.set a.toNat (some (1 + b))
def numF (vs : List Int) (top : Int) : List (Option Int) := (rangeI 1 (top + 1)).foldl (stepN vs) (some 0 :: List.replicate top.toNat none)
theorem stepN_len {vs : List Int} {fs : List (Option Int)} {a : Int} : (stepN vs fs a).length = fs.length := by
  unfold stepN; split <;> simp
theorem numF_len {vs : List Int} {top : Int} : (numF vs top).length = top.toNat + 1 := by
  unfold numF
  have : ∀ (xs : List Int) (fs : List (Option Int)), (xs.foldl (stepN vs) fs).length = fs.length := by
    intro xs
    induction xs with
    | nil => intro fs; rfl
    | cons x xs ih => intro fs; rw [List.foldl_cons, ih, stepN_len]
  rw [this]; simp
theorem start_eq {top : Int} (h : 0 ≤ top ∧ top ≤ 1000000) : (E2 catD ((aC (some (D.int 0)) (some [])).bind lstD) (E2 repD ((aC (some D.non) (some [])).bind lstD) (some (.int top)))) = some (.lst ((some 0 :: List.replicate top.toNat none).map oD)) := by
  have h1 : repD (.lst [D.non]) (.int top) = some (.lst (List.replicate top.toNat D.non)) := by
    simp only [repD]
    rw [if_pos ⟨by omega, by omega, by simp; omega⟩]
    congr 2
    generalize top.toNat = n
    induction n with
    | zero => rfl
    | succ n ih => rw [List.replicate_succ, List.flatten_cons, ih]; rfl
  simp -implicitDefEqProofs [lstD_i, h1, catD]
  omega
theorem filter_nn {fs : List (Option Int)} : ((fs.map oD).filter fun d => match d with | .non => false | _ => true) = (fs.filterMap id).map D.int := by
  induction fs with
  | nil => rfl
  | cons f fs ih => cases f <;> simp [ih]
theorem minL_eq {n : Int} {ns : List Int} : minLD [.lst ((n :: ns).map .int)] = some (.int (lmin n ns)) := by
  simp only [minLD, intsOf_map, Option.bind_some]
theorem least_step {vs : List Int} {fs : List (Option Int)} {a : Int} (hv : ∀ v ∈ vs, 1 ≤ v) (hl : vs.length ≤ 1000) (ha : 0 ≤ a ∧ a < fs.length) :
    f_least_numbers_L1 (.tup (vs.map .int)) (.lst (fs.map oD)) (.int a) = some (.lst ((stepN vs fs a).map oD)) := by
  unfold f_least_numbers_L1
  have e1 : LC ((some (D.tup (vs.map .int))).bind seqD) (fun x_value => ((E2 leD (some x_value) (some (.int a))).bind getB)) (fun x_value => (E1 (ixD (.lst (fs.map oD))) (E2 subD (some (.int a)) (some x_value)))) = some (.lst ((vs.filter fun v => decide (v ≤ a)).map fun v => oD (atO fs (a - v)))) := by
    simp only [Option.bind_some, seqD_t]
    refine LC_filter (p := fun v => decide (v ≤ a)) (fun v _ => by simp) (fun v hm h => ?_) (by omega)
    have := hv v hm
    have h' : v ≤ a := of_decide_eq_true h
    simp only [E2_s, subD_i, E1_s]
    exact ixD_o (by omega)
  refine bstep e1 ?_
  have e2 : LC ((some (D.lst ((vs.filter fun v => decide (v ≤ a)).map fun v => oD (atO fs (a - v))))).bind seqD) (fun x_number => ((E2 isNotD (some x_number) (some D.non)).bind getB)) (fun x_number => (some x_number)) = some (.lst ((before vs fs a).map .int)) := by
    simp only [Option.bind_some, seqD_l]
    have h := LC_filter (f := fun x => some x) (nt := fun x_number => ((E2 isNotD (some x_number) (some D.non)).bind getB)) (g := fun v => oD (atO fs (a - v))) (h := fun v => oD (atO fs (a - v))) (p := fun v => (atO fs (a - v)).isSome) (xs := vs.filter fun v => decide (v ≤ a)) (fun v _ => by cases atO fs (a - v) <;> simp) (fun v _ _ => rfl) (Nat.le_trans (List.length_filter_le _ _) (by omega))
    rw [h]
    congr 2
    unfold before
    generalize vs.filter (fun v => decide (v ≤ a)) = us
    induction us with
    | nil => rfl
    | cons u us ih =>
      cases hu : atO fs (a - u) with
      | none => rw [List.filter_cons_of_neg (by simp [hu]), List.filterMap_cons]; simp only [hu]; exact ih
      | some i => rw [List.filter_cons_of_pos (by simp [hu]), List.filterMap_cons]; simp only [hu]; rw [List.map_cons, List.map_cons, ih, hu]; rfl
  refine bstep e2 ?_
  unfold stepN
  cases hb : before vs fs a with
  | nil => simp [leastO]
  | cons n ns =>
    simp only [leastO]
    have := setM_o (fs := fs) (i := a) (d := some (1 + lmin n ns)) ha
    simp -implicitDefEqProofs only [Option.bind_some, truD_l, List.map_cons, List.isEmpty_cons, Bool.not_false, iteO_s, if_true, E1_s, o1_s]
    rw [show minLD [D.lst (D.int n :: List.map D.int ns)] = some (.int (lmin n ns)) from minL_eq]
    simp -implicitDefEqProofs only [E2_s, addD_i]
    rw [show some (D.int (1 + lmin n ns)) = some (oD (some (1 + lmin n ns))) from rfl, this]
    rfl
theorem least_eq {vs : List Int} {top : Int} (hv : ∀ v ∈ vs, 1 ≤ v) (hl : vs.length ≤ 1000) (ht : 0 ≤ top ∧ top ≤ 1000000) : f_least_numbers_D (.tup (vs.map .int)) (.int top) = some (.lst ((numF vs top).map oD)) := by
  unfold f_least_numbers_D
  refine bstep (start_eq ht) ?_
  have hr : rg2D [D.int 1, D.int (top + 1)] = some ((rangeI 1 (top + 1)).map .int) := rg2_i (by omega) (by omega)
  simp -implicitDefEqProofs only [E2_s, addD_i, aC_s, Option.bind_some, hr]
  have := (forP_fold (f := f_least_numbers_L1 (.tup (vs.map .int))) (g := D.int) (emb := fun fs : List (Option Int) => D.lst (fs.map oD)) (st := stepN vs) (fun fs => fs.length = top.toNat + 1) (xs := rangeI 1 (top + 1)) (t := some 0 :: List.replicate top.toNat none) (by simp) (fun x hx fs hfs => by
    rw [rangeI_mem] at hx
    exact ⟨least_step hv hl (by omega), by rw [stepN_len]; exact hfs⟩)).1
  rw [this]
  rfl
/-! ### the law's own table -/
def bst (b : Option Int) (n : Int) : Option Int := match b with
  | none => some n
  | some m => some (if n < m then n else m)
theorem bst_least : ∀ (ns : List Int) (m : Int), ns.foldl bst (some m) = some (lmin m ns)
  | [], m => rfl
  | n :: ns, m => by rw [List.foldl_cons]; exact bst_least ns _
theorem bst_leastO (ns : List Int) : ns.foldl bst none = leastO ns := by
  cases ns with
  | nil => rfl
  | cons n ns => exact bst_least ns n
def vst (fs : List (Option Int)) (a : Int) (b : Option Int) (v : Int) : Option Int := if v ≤ a then (match atO fs (a - v) with | none => b | some n => bst b n) else b
theorem vst_fold (fs : List (Option Int)) (a : Int) : ∀ (vs : List Int) (b : Option Int), vs.foldl (vst fs a) b = (before vs fs a).foldl bst b
  | [], b => rfl
  | v :: vs, b => by
    rw [List.foldl_cons, vst_fold fs a vs]
    unfold vst before
    by_cases h : v ≤ a
    · rw [if_pos h, List.filter_cons_of_pos (by simpa using h), List.filterMap_cons]
      cases atO fs (a - v) with
      | none => rfl
      | some n => rfl
    · rw [if_neg h, List.filter_cons_of_neg (by simpa using h)]
theorem lawn_step {vs : List Int} {fs : List (Option Int)} {a : Int} (hv : ∀ v ∈ vs, 1 ≤ v) (ha : 0 ≤ a ∧ a < fs.length) :
    f__law_numbers_L2 (.tup (vs.map .int)) (.lst (fs.map oD)) (.int a) = some (.lst ((stepN vs fs a).map oD)) := by
  unfold f__law_numbers_L2
  have h := (forP_fold (f := f__law_numbers_L1 (.int a) (.lst (fs.map oD))) (g := D.int) (emb := oD) (st := vst fs a) (fun _ => True) (xs := vs) (t := none) trivial (fun v hm b _ => by
    refine ⟨?_, trivial⟩
    have h1 := hv v hm
    unfold f__law_numbers_L1 vst
    by_cases hle : v ≤ a
    · have hx : ixD (.lst (fs.map oD)) (.int (a - v)) = some (oD (atO fs (a - v))) := ixD_o (by omega)
      cases hu : atO fs (a - v) with
      | none => simp -implicitDefEqProofs [hle, hx, hu]
      | some n =>
        cases b with
        | none => simp -implicitDefEqProofs [hle, hx, hu, bst]
        | some m => by_cases hnm : n < m <;> simp -implicitDefEqProofs [hle, hx, hu, bst, hnm]
    · simp -implicitDefEqProofs [hle])).1
  rw [vst_fold, bst_leastO] at h
  simp only [Option.bind_some, seqD_t]
  rw [show D.non = oD none from rfl, h]
  unfold stepN
  cases hb : leastO (before vs fs a) with
  | none => simp
  | some b =>
    have := setM_o (fs := fs) (i := a) (d := some (1 + b)) ha
    simp -implicitDefEqProofs only [Option.bind_some, oD_s, oD_n, E2_s, isNotD_i, getB_b, iteO_s, if_true, addD_i]
    rw [Int.add_comm b 1, show some (D.int (1 + b)) = some (oD (some (1 + b))) from rfl, this]
    rfl
theorem lawn_eq {vs : List Int} {top : Int} (hv : ∀ v ∈ vs, 1 ≤ v) (ht : 0 ≤ top ∧ top ≤ 1000000) : f__law_numbers_D (.tup (vs.map .int)) (.int top) = some (.lst ((numF vs top).map oD)) := by
  unfold f__law_numbers_D
  refine bstep (start_eq ht) ?_
  have hr : rg2D [D.int 1, D.int (top + 1)] = some ((rangeI 1 (top + 1)).map .int) := rg2_i (by omega) (by omega)
  simp -implicitDefEqProofs only [E2_s, addD_i, aC_s, Option.bind_some, hr]
  have := (forP_fold (f := f__law_numbers_L2 (.tup (vs.map .int))) (g := D.int) (emb := fun fs : List (Option Int) => D.lst (fs.map oD)) (st := stepN vs) (fun fs => fs.length = top.toNat + 1) (xs := rangeI 1 (top + 1)) (t := some 0 :: List.replicate top.toNat none) (by simp) (fun x hx fs hfs => by
    rw [rangeI_mem] at hx
    exact ⟨lawn_step hv (by omega), by rw [stepN_len]; exact hfs⟩)).1
  rw [this]
  rfl
theorem least1_eq {vs : List Int} {a : Int} (hv : ∀ v ∈ vs, 1 ≤ v) (hl : vs.length ≤ 1000) (ht : 0 ≤ a ∧ a ≤ 1000000) : f_least_number_D (.tup (vs.map .int)) (.int a) = some (oD (atO (numF vs a) a)) := by
  unfold f_least_number_D
  rw [E2_s, least_eq hv hl ht, E2_s]
  exact ixD_o (by rw [numF_len]; omega)
theorem likeOk_o {n : Nat} {o : Option Int} : likeOk n (oD o) := by cases o <;> cases n <;> trivial
theorem like_o {o : Option Int} : f__law_like_D (oD o) (oD o) = some (.bl true) := like_refl 4 _ likeOk_o
end DL
set_option autoImplicit false
set_option maxRecDepth 100000
set_option maxHeartbeats 4000000
namespace DL
noncomputable section
def f_balances_L1 (s1 : D) (x_who : D) (x_whom : D) (x_amount : D) : Option (D) :=
  ((augM subD (some x_who) (some x_amount) s1).bind fun x_found => ((augM addI (some x_whom) (some x_amount) x_found).bind fun x_found => (some x_found)))
def f_balances_D (x_n : D) (x_debts : D) : Option D :=
  ((E2 repD ((aC (some (D.int 0)) (some [])).bind lstD) (some x_n)).bind fun x_found => ((((some x_debts).bind seqD).bind fun ds => forP (fun s1 => un3 (f_balances_L1 s1)) x_found ds).bind fun (s2 : D) => (E1 (o1 tupleD) (some s2))))
def f__law_debts_L1 (x_row : D) (x_at : D) (x_people : D) (x_top : D) (s1 : D) (x_k : D) : Option (D) :=
  ((E2 modD (E1 (o1 intD) (E2 ixD (some x_row) (E2 addD (E2 addD (some x_at) (some (D.int 1))) (E2 mulD (some (D.int 3)) (some x_k))))) (some x_people)).bind fun x_who => ((E2 modD (E1 (o1 intD) (E2 addD (E2 addD (some x_who) (some (D.int 1))) (E2 modD (E1 (o1 intD) (E2 ixD (some x_row) (E2 addD (E2 addD (some x_at) (some (D.int 2))) (E2 mulD (some (D.int 3)) (some x_k))))) (E2 (o2 max2D) (some (D.int 1)) (E2 subD (some x_people) (some (D.int 1))))))) (some x_people)).bind fun x_whom => ((((aC (some x_who) (aC (some x_whom) (aC (E2 addD (some (D.int 1)) (E2 modD (E1 (o1 intD) (E2 ixD (some x_row) (E2 addD (E2 addD (some x_at) (some (D.int 3))) (E2 mulD (some (D.int 3)) (some x_k))))) (some x_top))) (some [])))).bind tupD).bind (appD s1)).bind fun x_found => (some x_found))))
def f__law_debts_D (x_row : D) (x_at : D) (x_people : D) (x_many : D) (x_top : D) : Option D :=
  (((some []).bind lstD).bind fun x_found => ((((aC (E2 mulD (E2 modD (E1 (o1 intD) (E2 ixD (some x_row) (some x_at))) (E2 addD (some x_many) (some (D.int 1)))) (E1 (o1 intD) (E2 gtD (some x_people) (some (D.int 1))))) (some [])).bind rg1D).bind fun ds => forP (f__law_debts_L1 x_row x_at x_people x_top) x_found ds).bind fun (s2 : D) => (E1 (o1 tupleD) (some s2))))
def f__law_net_L1 (x_debts : D) (s1 : D) (x_person : D) : Option (D) :=
  ((E1 (o1 sumD) (LC ((some x_debts).bind seqD) (fun x_debt => ((E2 eqD (E2 ixD (some x_debt) (some (D.int 1))) (some x_person)).bind getB)) (fun x_debt => (E2 ixD (some x_debt) (some (D.int 2)))))).bind fun x_owed => ((E1 (o1 sumD) (LC ((some x_debts).bind seqD) (fun x_debt => ((E2 eqD (E2 ixD (some x_debt) (some (D.int 0))) (some x_person)).bind getB)) (fun x_debt => (E2 ixD (some x_debt) (some (D.int 2)))))).bind fun x_owes => (((E2 subD (some x_owed) (some x_owes)).bind (appD s1)).bind fun x_found => (some x_found))))
def f__law_net_D (x_n : D) (x_debts : D) : Option D :=
  (((some []).bind lstD).bind fun x_found => ((((aC (some x_n) (some [])).bind rg1D).bind fun ds => forP (f__law_net_L1 x_debts) x_found ds).bind fun (s2 : D) => (E1 (o1 tupleD) (some s2))))
end
end DL
set_option autoImplicit false
set_option maxRecDepth 100000
set_option maxHeartbeats 4000000
namespace DL
open PySem PySem.Spec PySem.SeqAt PyProof.Rows L2
section
variable {α S : Type}
/-- a loop that leaves at the first of a kind -/
theorem forR_find {f : S → D → Option (Lp S)} {g : α → D} {s : S} {p : α → Bool} {h : α → D} : ∀ {xs : List α}, (∀ x ∈ xs, f s (g x) = some (if p x = true then .rt (h x) else .go s)) →
    forR f s (xs.map g) = some (match xs.find? p with | none => .nx s | some x => .ex (h x))
  | [], _ => rfl
  | x :: xs, H => by
    have e := H x List.mem_cons_self
    simp only [List.map_cons, forR, e, Option.bind_some, List.find?_cons]
    cases hp : p x with
    | true => simp
    | false =>
      simp only [Bool.false_eq_true, if_false]
      exact forR_find fun y hy => H y (List.mem_cons_of_mem _ hy)
/-- a loop that stops at the first of a kind -/
theorem forB_find {f : S → D → Option (Lp S)} {g : α → D} {s : S} {p : α → Bool} {h : α → S} : ∀ {xs : List α}, (∀ x ∈ xs, f s (g x) = some (if p x = true then .br (h x) else .go s)) →
    forB f s (xs.map g) = some (match xs.find? p with | none => s | some x => h x)
  | [], _ => rfl
  | x :: xs, H => by
    have e := H x List.mem_cons_self
    simp only [List.map_cons, forB, e, Option.bind_some, List.find?_cons]
    cases hp : p x with
    | true => simp
    | false =>
      simp only [Bool.false_eq_true, if_false]
      exact forB_find fun y hy => H y (List.mem_cons_of_mem _ hy)
end
theorem rg3_down {top : Int} (h : 0 ≤ top ∧ top ≤ 1000000000) : rg3D [.int top, .int (-1), .int (-1)] = some (((rangeI 0 (top + 1)).map fun k => top - k).map .int) := by
  have h1 : Builtin.Range.rangeSize top (-1) (-1) = top + 1 := by
    unfold Builtin.Range.rangeSize
    rw [if_neg (by omega), if_pos (by omega)]
    simp
  have h2 : rg3N top (-1) (-1) = (top + 1).toNat := by unfold rg3N; rw [h1]
  have h3 : Builtin.Range.small top (-1) (-1) = true := by
    unfold Builtin.Range.small
    rw [h1]
    simp [Builtin.Range.rangeFitsLong]
    omega
  simp only [rg3D]
  rw [if_pos ⟨by decide, by decide, h3, by rw [h1, h2]; omega⟩]
  congr 2
  unfold stepI rangeI
  rw [h2, List.map_map]
  simp only [Int.sub_zero]
  apply List.map_congr_left
  intro k _
  show top + (k : Int) * -1 = top - (0 + (k : Int))
  omega
theorem ixD_neg {ns : List Int} {i : Int} (h : i < 0 ∧ -(ns.length : Int) ≤ i) : ixD (.lst (ns.map .int)) (.int i) = some (.int (at0 ns (i + ns.length))) := by
  simp only [ixD]
  rw [atI_neg h.1 (by rw [List.length_map]; exact h.2), List.getElem?_map, List.length_map, at0_get (by omega)]; rfl
theorem ixD_negT {ns : List Int} {i : Int} (h : i < 0 ∧ -(ns.length : Int) ≤ i) : ixD (.tup (ns.map .int)) (.int i) = some (.int (at0 ns (i + ns.length))) := by
  simp only [ixD]
  rw [atI_neg h.1 (by rw [List.length_map]; exact h.2), List.getElem?_map, List.length_map, at0_get (by omega)]; rfl
end DL
set_option autoImplicit false
set_option maxRecDepth 100000
set_option maxHeartbeats 4000000
namespace DL
open PySem PySem.Spec PySem.SeqAt PyProof.Rows L2
/-! ### rows by their places -/
theorem at0_ext {xs ys : List Int} (hl : xs.length = ys.length) (h : ∀ i : Int, 0 ≤ i ∧ i < xs.length → at0 xs i = at0 ys i) : xs = ys := by
  apply List.ext_getElem hl
  intro i h1 h2
  have := h (i : Int) (by omega)
  have a1 := at0_get (ns := xs) (i := (i : Int)) (by omega)
  have a2 := at0_get (ns := ys) (i := (i : Int)) (by omega)
  rw [this] at a1
  rw [← a2] at a1
  simp only [Int.toNat_natCast, List.getElem?_eq_getElem h1, List.getElem?_eq_getElem h2] at a1
  exact Option.some.inj a1
theorem at0_map {n i : Int} {f : Int → Int} (h : 0 ≤ i ∧ i < n) : at0 ((rangeI 0 n).map f) i = f i := by
  have := at0_get (ns := (rangeI 0 n).map f) (i := i) (by rw [List.length_map, rangeI_len]; omega)
  rw [List.getElem?_map] at this
  simp only [rangeI, List.getElem?_map, List.getElem?_range (show i.toNat < (n - 0).toNat by omega), Option.map_some] at this
  have h2 := Option.some.inj this
  rw [show rangeI 0 n = (List.range (n - 0).toNat).map fun (i : Nat) => 0 + (i : Int) from rfl, ← h2]
  congr 1; omega
theorem setD_i {ws : List Int} {i d : Int} (h : 0 ≤ i ∧ i < ws.length) : setD (.lst (ws.map .int)) (.int i) (.int d) = some (.lst ((ws.set i.toNat d).map .int)) := by
  simp only [setD]
  rw [List.length_map]
  unfold ixN
  rw [if_pos h.1, if_pos h.2, List.map_set]
  rfl
theorem at0_set {ws : List Int} {i j d : Int} (h : 0 ≤ i ∧ i < ws.length) (hj : 0 ≤ j) : at0 (ws.set i.toNat d) j = if i = j then d else at0 ws j := by
  unfold at0
  by_cases e : i = j
  · subst e
    rw [if_pos rfl, List.getD_eq_getElem?_getD, List.getElem?_set_self (by omega)]; rfl
  · rw [if_neg e, List.getD_eq_getElem?_getD, List.getElem?_set_ne (by omega), List.getD_eq_getElem?_getD]
theorem repD_i {x n : Int} (h : 0 ≤ n ∧ n ≤ 1000000) : repD (.lst [.int x]) (.int n) = some (.lst ((List.replicate n.toNat x).map .int)) := by
  simp only [repD]
  rw [if_pos ⟨by omega, by omega, by simp; omega⟩]
  congr 2
  generalize n.toNat = n
  induction n with
  | zero => rfl
  | succ n ih => rw [List.replicate_succ, List.flatten_cons, ih]; rfl
theorem cut_take {α : Type} {xs : List α} {p : Int} (h : 0 ≤ p) : cutD xs none (some p) = xs.take p.toNat := by
  unfold cutD
  obtain ⟨k, rfl⟩ : ∃ k : Nat, p = k := ⟨p.toNat, by omega⟩
  rw [HT.sIx_none, HT.sIx_nat]
  simp
theorem cut_drop {α : Type} {xs : List α} {p : Int} (h : 0 ≤ p) : cutD xs (some p) none = xs.drop p.toNat := by
  unfold cutD
  obtain ⟨k, rfl⟩ : ∃ k : Nat, p = k := ⟨p.toNat, by omega⟩
  rw [HT.sIx_none, HT.sIx_nat]
  by_cases hk : k ≤ xs.length
  · rw [Nat.min_eq_left hk, List.take_of_length_le (by rw [List.length_drop]; omega)]; simp
  · rw [Nat.min_eq_right (by omega), List.drop_of_length_le (Nat.le_refl _), List.drop_of_length_le (by simp; omega)]; simp
theorem sum_append {xs ys : List Int} : (xs ++ ys).sum = xs.sum + ys.sum := List.sum_append
/-! ### debts -/
abbrev Debt := Int × Int × Int
def dD (d : Debt) : D := .tup [.int d.1, .int d.2.1, .int d.2.2]
def got (p : Int) (d : Debt) : Int := (if d.2.1 = p then d.2.2 else 0) - (if d.1 = p then d.2.2 else 0)
def net (ds : List Debt) (p : Int) : Int := (ds.map (got p)).sum
theorem net_append {xs ys : List Debt} {p : Int} : net (xs ++ ys) p = net xs p + net ys p := by unfold net; rw [List.map_append, List.sum_append]
def okDebts (n : Int) (ds : List Debt) : Prop := ∀ d ∈ ds, (0 ≤ d.1 ∧ d.1 < n) ∧ (0 ≤ d.2.1 ∧ d.2.1 < n)
theorem balances_eq {n : Int} {ds : List Debt} (hn : 0 ≤ n ∧ n ≤ 1000) (h : okDebts n ds) : f_balances_D (.int n) (.tup (ds.map dD)) = some (.tup (((rangeI 0 n).map (net ds)).map .int)) := by
  unfold f_balances_D
  have h0 : E2 repD ((aC (some (D.int 0)) (some [])).bind lstD) (some (.int n)) = some (.lst (((rangeI 0 n).map (net [])).map .int)) := by
    simp -implicitDefEqProofs only [aC_s, Option.bind_some]
    rw [lstD_i (by simp), E2_s, repD_i (by omega)]
    congr 3
    apply at0_ext
    · simp [rangeI_len]
    · intro i hi
      rw [List.length_replicate] at hi
      rw [at0_map (by omega)]
      unfold at0
      have : i.toNat < n.toNat := by omega
      simp [List.getD, this, net]
  refine bstep h0 ?_
  simp -implicitDefEqProofs only [Option.bind_some, seqD_t]
  obtain ⟨s', e, hs⟩ := forP_inv (f := fun s1 => un3 (f_balances_L1 s1)) (g := dD) (fun ys s => s = .lst (((rangeI 0 n).map (net ys)).map .int)) (xs := ds) (ys := []) (s := .lst (((rangeI 0 n).map (net [])).map .int)) rfl (by
    rintro zs d ws s e rfl
    have hd := h d (by rw [show ds = zs ++ d :: ws from e]; simp)
    refine ⟨_, ?_, rfl⟩
    unfold dD
    rw [un3_s]
    unfold f_balances_L1
    have hl : ((rangeI 0 n).map (net zs)).length = n.toNat := by rw [List.length_map, rangeI_len]; omega
    generalize hfs : (rangeI 0 n).map (net zs) = fs at *
    have s1 := setD_i (ws := fs) (i := d.1) (d := at0 fs d.1 - d.2.2) (by omega)
    have x1 := ixD_row (ns := fs) (i := d.1) (by omega)
    have x2 := ixD_row (ns := fs.set d.1.toNat (at0 fs d.1 - d.2.2)) (i := d.2.1) (by simp; omega)
    have s2 := setD_i (ws := fs.set d.1.toNat (at0 fs d.1 - d.2.2)) (i := d.2.1) (d := at0 (fs.set d.1.toNat (at0 fs d.1 - d.2.2)) d.2.1 + d.2.2) (by simp; omega)
    simp -implicitDefEqProofs only [augM, Option.bind_some, x1, subD_i, s1, x2, addI_i, s2]
    congr 2
    congr 1
    apply at0_ext
    · simp [hl, rangeI_len]
    · intro i hi
      simp at hi
      rw [at0_set (by simp; omega) (by omega), at0_map (by omega), net_append]
      rw [at0_set (by omega) (by omega), at0_set (by omega) (by omega)]
      have hz : ∀ j, 0 ≤ j ∧ j < n → at0 fs j = net zs j := fun j hj => by rw [← hfs]; exact at0_map hj
      rw [hz d.1 (by omega), hz d.2.1 (by omega), hz i (by omega)]
      show _ = net zs i + (([d] : List Debt).map (got i)).sum
      simp only [List.map_cons, List.map_nil, List.sum_cons, List.sum_nil, got]
      by_cases e1 : d.2.1 = i
      · subst e1
        by_cases e2 : d.1 = d.2.1
        · rw [if_pos rfl, if_pos e2, if_pos rfl, if_pos e2]
          rw [e2]; omega
        · rw [if_pos rfl, if_neg e2, if_pos rfl, if_neg e2]; omega
      · by_cases e2 : d.1 = i
        · rw [if_neg e1, if_pos e2, if_neg e1, if_pos e2, e2]; omega
        · rw [if_neg e1, if_neg e2, if_neg e1, if_neg e2]; omega)
  rw [e, hs]
  rfl
theorem dD_0 {d : Debt} : ixD (dD d) (.int 0) = some (.int d.1) := by unfold dD; rw [ixD_t (by omega)]; rfl
theorem dD_1 {d : Debt} : ixD (dD d) (.int 1) = some (.int d.2.1) := by unfold dD; rw [ixD_t (by omega)]; rfl
theorem dD_2 {d : Debt} : ixD (dD d) (.int 2) = some (.int d.2.2) := by unfold dD; rw [ixD_t (by omega)]; rfl
theorem net_filter (p : Int) : ∀ ds : List Debt, net ds p = ((ds.filter fun d => decide (d.2.1 = p)).map fun d => d.2.2).sum - ((ds.filter fun d => decide (d.1 = p)).map fun d => d.2.2).sum
  | [] => rfl
  | d :: ds => by
    have ih := net_filter p ds
    unfold net at ih ⊢
    rw [List.map_cons, List.sum_cons, ih]
    unfold got
    by_cases e1 : d.2.1 = p <;> by_cases e2 : d.1 = p <;> simp [e1, e2] <;> omega
theorem sum_map {α : Type} {xs : List α} {f : α → Int} : sumD [.lst (xs.map fun x => .int (f x))] = some (.int (xs.map f).sum) := by
  have := sumD_ns (ns := xs.map f)
  rw [List.map_map] at this
  exact this
theorem lnet_eq {n : Int} {ds : List Debt} (hn : 0 ≤ n ∧ n ≤ 1000) (hd : ds.length ≤ 1000000) : f__law_net_D (.int n) (.tup (ds.map dD)) = some (.tup (((rangeI 0 n).map (net ds)).map .int)) := by
  unfold f__law_net_D
  have hr : rg1D [D.int n] = some ((rangeI 0 n).map .int) := rg1_i (by omega)
  refine bstep (lstD_i (by simp)) ?_
  simp -implicitDefEqProofs only [aC_s, Option.bind_some, hr]
  obtain ⟨s', e, hs, hl⟩ := forP_inv (f := f__law_net_L1 (.tup (ds.map dD))) (g := D.int) (fun ys s => s = .lst ((ys.map (net ds)).map .int)) (xs := rangeI 0 n) (ys := []) (s := .lst []) rfl (by
    rintro zs p ws s e rfl
    have hz : zs.length + (ws.length + 1) = n.toNat := by
      have := congrArg List.length (show rangeI 0 n = zs ++ p :: ws from e)
      rw [rangeI_len] at this
      simpa using this.symm
    refine ⟨_, ?_, rfl⟩
    unfold f__law_net_L1
    have l1 : LC (some (ds.map dD)) (fun x_debt => ((E2 eqD (E2 ixD (some x_debt) (some (D.int 1))) (some (D.int p))).bind getB)) (fun x_debt => (E2 ixD (some x_debt) (some (D.int 2)))) = some (.lst ((ds.filter fun d => decide (d.2.1 = p)).map fun d => .int d.2.2)) :=
      LC_filter (p := fun d : Debt => decide (d.2.1 = p)) (fun d _ => by simp -implicitDefEqProofs [dD_1]) (fun d _ _ => by simp -implicitDefEqProofs [dD_2]) (by omega)
    have l2 : LC (some (ds.map dD)) (fun x_debt => ((E2 eqD (E2 ixD (some x_debt) (some (D.int 0))) (some (D.int p))).bind getB)) (fun x_debt => (E2 ixD (some x_debt) (some (D.int 2)))) = some (.lst ((ds.filter fun d => decide (d.1 = p)).map fun d => .int d.2.2)) :=
      LC_filter (p := fun d : Debt => decide (d.1 = p)) (fun d _ => by simp -implicitDefEqProofs [dD_0]) (fun d _ _ => by simp -implicitDefEqProofs [dD_2]) (by omega)
    simp -implicitDefEqProofs only [Option.bind_some, seqD_t, l1, l2]
    simp -implicitDefEqProofs only [Option.bind_some, E1_s, o1_s, sum_map, E2_s, subD_i]
    rw [appD_i (by simp; omega)]
    simp -implicitDefEqProofs [net_filter])
  rw [e]
  simp
theorem debts_spec {row : List Int} {i n m t : Int} (hi : 0 ≤ i ∧ i + 3 * m < row.length) (hn : 1 ≤ n ∧ n ≤ 1000) (hm : 0 ≤ m ∧ m ≤ 1000) (ht : 1 ≤ t ∧ t ≤ 1000000000) :
    ∃ ds : List Debt, f__law_debts_D (.lst (row.map .int)) (.int i) (.int n) (.int m) (.int t) = some (.tup (ds.map dD)) ∧ okDebts n ds ∧ (ds.length : Int) ≤ m ∧ ∀ d ∈ ds, d.1 ≠ d.2.1 ∧ 1 ≤ d.2.2 ∧ d.2.2 ≤ t := by
  have hb := emod_bd (at0 row i) (m + 1) (by omega)
  have hK : ∃ K : Int, E2 mulD (E2 modD (E1 (o1 intD) (E2 ixD (some (.lst (row.map .int))) (some (.int i)))) (E2 addD (some (.int m)) (some (D.int 1)))) (E1 (o1 intD) (E2 gtD (some (.int n)) (some (D.int 1)))) = some (.int K) ∧ 0 ≤ K ∧ K ≤ m ∧ (1 ≤ K → 1 < n) := by
    by_cases h : 1 < n
    · refine ⟨at0 row i % (m + 1), ?_, by omega, by omega, fun _ => h⟩
      simp -implicitDefEqProofs [ixD_row (ns := row) (i := i) (by omega), modD_i (show 0 < m + 1 by omega), h, mulD_r]
    · refine ⟨0, ?_, by omega, by omega, by omega⟩
      simp -implicitDefEqProofs [ixD_row (ns := row) (i := i) (by omega), modD_i (show 0 < m + 1 by omega), h, mulD_r]
  obtain ⟨K, hK1, hK2, hK3, hK4⟩ := hK
  have hr : rg1D [D.int K] = some ((rangeI 0 K).map .int) := rg1_i (by omega)
  obtain ⟨s', e, ds, hs, hl, h1, h2⟩ := forP_inv (f := f__law_debts_L1 (.lst (row.map .int)) (.int i) (.int n) (.int t)) (g := D.int)
    (fun ys s => ∃ ds : List Debt, s = .lst (ds.map dD) ∧ ds.length = ys.length ∧ okDebts n ds ∧ ∀ d ∈ ds, d.1 ≠ d.2.1 ∧ 1 ≤ d.2.2 ∧ d.2.2 ≤ t) (xs := rangeI 0 K) (ys := []) (s := .lst []) ⟨[], rfl, rfl, (fun d h => by cases h), fun d h => by cases h⟩ (by
    rintro zs k ws s e ⟨ds, rfl, hl, h1, h2⟩
    have hk : k ∈ rangeI 0 K := by rw [show rangeI 0 K = zs ++ k :: ws from e]; simp
    rw [rangeI_mem] at hk
    have hz : zs.length + (ws.length + 1) = K.toNat := by
      have := congrArg List.length (show rangeI 0 K = zs ++ k :: ws from e)
      rw [rangeI_len] at this
      simpa using this.symm
    have hn2 : 1 < n := hK4 (by omega)
    have c1 := emod_bd (at0 row (i + 1 + 3 * k)) n (by omega)
    have c2 := emod_bd (at0 row (i + 2 + 3 * k)) (n - 1) (by omega)
    have c3 := emod_bd (at0 row (i + 3 + 3 * k)) t (by omega)
    have hmx : max 1 (n - 1) = n - 1 := by omega
    have x1 := ixD_row (ns := row) (i := i + 1 + 3 * k) (by omega)
    have x2 := ixD_row (ns := row) (i := i + 2 + 3 * k) (by omega)
    have x3 := ixD_row (ns := row) (i := i + 3 + 3 * k) (by omega)
    refine ⟨.lst ((ds ++ [(at0 row (i + 1 + 3 * k) % n, (at0 row (i + 1 + 3 * k) % n + 1 + at0 row (i + 2 + 3 * k) % (n - 1)) % n, 1 + at0 row (i + 3 + 3 * k) % t)]).map dD), ?_, _, rfl, by simp [hl], ?_, ?_⟩
    · unfold f__law_debts_L1
      simp -implicitDefEqProofs only [E1_s, E2_s, o1_s, o2_s, addD_i, mulD_l (i := 3) (j := k) (by omega), x1, x2, x3, intD_i, modD_i (i := at0 row (i + 1 + 3 * k)) (show 0 < n by omega), Option.bind_some, subD_i, max2D_i, hmx,
        modD_i (i := at0 row (i + 2 + 3 * k)) (show 0 < n - 1 by omega), modD_i (i := at0 row (i + 1 + 3 * k) % n + 1 + at0 row (i + 2 + 3 * k) % (n - 1)) (show 0 < n by omega), modD_i (i := at0 row (i + 3 + 3 * k)) (show 0 < t by omega), aC_s]
      rw [tupD_i (by simp)]
      simp -implicitDefEqProofs only [Option.bind_some]
      rw [appD_i (by simp; omega)]
      simp [dD]
    · intro d hd
      rcases List.mem_append.mp hd with hd | hd
      · exact h1 d hd
      · simp at hd; subst hd
        exact ⟨c1, emod_bd _ n (by omega)⟩
    · intro d hd
      rcases List.mem_append.mp hd with hd | hd
      · exact h2 d hd
      · simp at hd; subst hd
        refine ⟨?_, by simp only; omega, by simp only; omega⟩
        simp only
        generalize at0 row (i + 1 + 3 * k) % n = w at *
        generalize at0 row (i + 2 + 3 * k) % (n - 1) = u at *
        intro he
        by_cases hlt : w + 1 + u < n
        · rw [Int.emod_eq_of_lt (by omega) hlt] at he; omega
        · have : (w + 1 + u) % n = w + 1 + u - n := by
            rw [← Int.sub_emod_right, Int.emod_eq_of_lt (by omega) (by omega)]
          omega)
  refine ⟨ds, ?_, h1, ?_, h2⟩
  · unfold f__law_debts_D
    rw [hK1]
    refine bstep (lstD_i (by simp)) ?_
    simp -implicitDefEqProofs only [aC_s, Option.bind_some, hr, e, hs, E1_s, o1_s, tupleD_l]
  · rw [hl, List.nil_append, rangeI_len]; omega
end DL
set_option autoImplicit false
set_option maxRecDepth 100000
set_option maxHeartbeats 4000000
namespace DL
open PySem PySem.Spec PySem.SeqAt PyProof.Rows L2
/-! ### worth -/
def worth (vs cs : List Int) : Int := ((vs.zip cs).map fun p => p.1 * p.2).sum
theorem zip_snoc {a b : Int} : ∀ (xs ys : List Int), xs.length = ys.length → (xs ++ [a]).zip (ys ++ [b]) = xs.zip ys ++ [(a, b)]
  | [], [], _ => rfl
  | [], _ :: _, h => by cases h
  | _ :: _, [], h => by cases h
  | x :: xs, y :: ys, h => by simp only [List.cons_append, List.zip_cons_cons]; rw [zip_snoc xs ys (by simpa using h)]
theorem worth_rev : ∀ (vs cs : List Int), vs.length = cs.length → worth vs.reverse cs.reverse = worth vs cs
  | [], [], _ => rfl
  | [], _ :: _, h => by cases h
  | _ :: _, [], h => by cases h
  | v :: vs, c :: cs, h => by
    have ih := worth_rev vs cs (by simpa using h)
    unfold worth at ih ⊢
    rw [List.reverse_cons, List.reverse_cons, zip_snoc _ _ (by simpa using h), List.map_append, List.sum_append, ih]
    simp [Int.add_comm]
def pD (p : Int × Int) : D := .tup [.int p.1, .int p.2]
theorem zip2_eq : ∀ (vs cs : List Int), zip2 (vs.map .int) (cs.map .int) = (vs.zip cs).map pD
  | [], _ => by simp [zip2]
  | _ :: _, [] => by simp [zip2]
  | v :: vs, c :: cs => by simp [zip2, zip2_eq vs cs, pD]
theorem sum_of_eq {vs cs : List Int} (hv : ∀ v ∈ vs, 1 ≤ v ∧ v ≤ 1000000) (hl : vs.length ≤ 1000) : f_sum_of_D (.tup (vs.map .int)) (.tup (cs.map .int)) = some (.int (worth vs cs)) := by
  unfold f_sum_of_D
  have hz : zipD [.tup (vs.map .int), .tup (cs.map .int)] = some ((vs.zip cs).map pD) := by simp only [zipD]; rw [zip2_eq]
  have hlc := LC_filter (nt := un2 (fun x_value x_count => (some true))) (f := un2 (fun x_value x_count => (E2 mulD (some x_value) (some x_count)))) (g := pD) (h := fun p => .int (p.1 * p.2)) (p := fun _ => true) (xs := vs.zip cs) (fun p _ => rfl) (fun p hp _ => by
    have := hv p.1 (List.of_mem_zip hp).1
    show mulD (.int p.1) (.int p.2) = _
    exact mulD_l (by omega)) (by rw [List.length_zip]; omega)
  rw [List.filter_eq_self.mpr (fun _ _ => rfl)] at hlc
  simp -implicitDefEqProofs only [aC_s, Option.bind_some, hz, hlc, E1_s, o1_s, sum_map]
  rfl
theorem lworth_eq {vs cs : List Int} (hv : ∀ v ∈ vs, 1 ≤ v ∧ v ≤ 1000000) (hvl : vs.length ≤ 900) (hl : cs.length = vs.length) : f__law_worth_D (.tup (vs.map .int)) (.tup (cs.map .int)) = some (.int (worth vs cs)) := by
  have hr : rg1D [D.int vs.length] = some ((rangeI 0 vs.length).map .int) := rg1_i (by omega)
  have hlc := LC_map (f := fun x_k => (E2 mulD (E2 ixD (some (.tup (vs.map .int))) (some x_k)) (E2 ixD (some (.tup (cs.map .int))) (some x_k)))) (g := D.int) (h := fun k => .int (at0 vs k * at0 cs k)) (xs := rangeI 0 vs.length) (fun k hk => by
    rw [rangeI_mem] at hk
    have h1 := ixD_rowT (ns := vs) (i := k) hk
    have h2 := ixD_rowT (ns := cs) (i := k) (by omega)
    have h3 := hv _ (at0_mem (ns := vs) (i := k) hk)
    simp -implicitDefEqProofs only [E2_s, h1, h2]
    exact mulD_l (by omega)) (by rw [rangeI_len]; omega)
  unfold f__law_worth_D
  simp -implicitDefEqProofs only [E1_s, o1_s, lenD_t, List.length_map, aC_s, Option.bind_some, hr, hlc, sum_map]
  refine congrArg (fun z => some (D.int z)) ?_
  unfold worth
  refine congrArg List.sum ?_
  apply List.ext_getElem?
  intro k
  rw [List.getElem?_map, List.getElem?_map]
  unfold rangeI
  rw [List.getElem?_map]
  by_cases hk : k < vs.length
  · rw [List.getElem?_range (by omega), List.getElem?_eq_getElem (by rw [List.length_zip]; omega)]
    have h1 := at0_get (ns := vs) (i := (k : Int)) (by omega)
    have h2 := at0_get (ns := cs) (i := (k : Int)) (by omega)
    rw [Int.toNat_natCast, List.getElem?_eq_getElem (by omega)] at h1 h2
    simp [← Option.some.inj h1, ← Option.some.inj h2]
  · rw [List.getElem?_eq_none (by simp; omega), List.getElem?_eq_none (by rw [List.length_zip]; omega)]
    rfl
end DL
set_option autoImplicit false
set_option maxRecDepth 100000
set_option maxHeartbeats 4000000
namespace DL
open PySem PySem.Spec PySem.SeqAt PyProof.Rows L2
theorem lc2D_map {α β : Type} {nt : D → Option Bool} {mi : D → Option (List D)} {nt1 : D → D → Option Bool} {f : D → D → Option D} {g : α → D} {g2 : β → D} {ys : α → List β} {p : α → β → Bool} {h : α → β → D} : ∀ {xs : List α},
    (∀ x ∈ xs, nt (g x) = some true ∧ mi (g x) = some ((ys x).map g2) ∧ ∀ y ∈ ys x, nt1 (g x) (g2 y) = some (p x y) ∧ (p x y = true → f (g x) (g2 y) = some (h x y))) →
    lc2D nt mi nt1 f (xs.map g) = some (xs.flatMap fun x => ((ys x).filter (p x)).map (h x))
  | [], _ => rfl
  | x :: xs, H => by
    obtain ⟨h1, h2, h3⟩ := H x List.mem_cons_self
    simp only [List.map_cons, lc2D, h1, Option.bind_some, if_true, h2]
    rw [lcD_filter (p := p x) (h := h x) (fun y hy => (h3 y hy).1) (fun y hy => (h3 y hy).2), lc2D_map fun z hz => H z (List.mem_cons_of_mem _ hz)]
    rfl
theorem LC2_map {α β : Type} {nt : D → Option Bool} {mi : D → Option (List D)} {nt1 : D → D → Option Bool} {f : D → D → Option D} {g : α → D} {g2 : β → D} {ys : α → List β} {p : α → β → Bool} {h : α → β → D} {xs : List α}
    (H : ∀ x ∈ xs, nt (g x) = some true ∧ mi (g x) = some ((ys x).map g2) ∧ ∀ y ∈ ys x, nt1 (g x) (g2 y) = some (p x y) ∧ (p x y = true → f (g x) (g2 y) = some (h x y))) (hl : (xs.flatMap fun x => ((ys x).filter (p x)).map (h x)).length ≤ 16777216) :
    LC2 (some (xs.map g)) nt mi nt1 f = some (.lst (xs.flatMap fun x => ((ys x).filter (p x)).map (h x))) := by
  unfold LC2
  simp only [Option.bind_some, lc2D_map H]
  exact lstD_i hl
end DL
set_option autoImplicit false
set_option maxRecDepth 100000
set_option maxHeartbeats 4000000
namespace DL
open PySem PySem.Spec PySem.SeqAt PyProof.Rows L2
/-! ### shops -/
/-- a list by its places -/
def tab (n : Int) (f : Int → Int) : List Int := (rangeI 0 n).map f
theorem tab_len {n : Int} {f : Int → Int} : (tab n f).length = n.toNat := by simp [tab, rangeI_len]
theorem at0_tab {n k : Int} {f : Int → Int} (h : 0 ≤ k ∧ k < n) : at0 (tab n f) k = f k := by
  have h1 := at0_get (ns := tab n f) (i := k) (by rw [tab_len]; omega)
  unfold tab rangeI at h1
  rw [List.map_map, List.getElem?_map, List.getElem?_range (by omega)] at h1
  have h2 := Option.some.inj h1
  unfold tab rangeI
  rw [List.map_map, ← h2]
  show f (0 + (k.toNat : Int)) = f k
  congr 1; omega
theorem tab_mem {n x : Int} {f : Int → Int} : x ∈ tab n f ↔ ∃ k, (0 ≤ k ∧ k < n) ∧ f k = x := by
  unfold tab
  simp only [List.mem_map, rangeI_mem]
theorem tab_self {xs : List Int} {n : Int} (h : (xs.length : Int) = n) : xs = tab n (at0 xs) := by
  apply at0_ext (by rw [tab_len]; omega)
  intro i hi
  rw [at0_tab (by omega)]
theorem tab_congr {n : Int} {f g : Int → Int} (h : ∀ k, 0 ≤ k ∧ k < n → f k = g k) : tab n f = tab n g := by
  unfold tab
  exact List.map_congr_left fun k hk => h k (rangeI_mem.mp hk)
theorem rangeI_sorted2 (i j : Int) : (rangeI i j).Pairwise (· < ·) := by
  unfold rangeI
  rw [List.pairwise_map]
  exact List.pairwise_lt_range.imp (fun h => by omega)
/-- zips by places -/
theorem zip2_tab {n : Int} {xs ys : List Int} (hx : (xs.length : Int) = n) (hy : (ys.length : Int) = n) : zip2 (xs.map .int) (ys.map .int) = (rangeI 0 n).map fun k => .tup [.int (at0 xs k), .int (at0 ys k)] := by
  apply List.ext_getElem?
  intro i
  by_cases hi : (i : Int) < n
  · obtain ⟨d, h1⟩ : ∃ d, (zip2 (xs.map .int) (ys.map .int))[i]? = some d := ⟨_, List.getElem?_eq_getElem (by rw [zip2_len]; simp; omega)⟩
    obtain ⟨x, y, e1, e2, e3⟩ := zip2_get h1
    rw [h1, e3]
    have g1 := at0_get (ns := xs) (i := (i : Int)) (by omega)
    have g2 := at0_get (ns := ys) (i := (i : Int)) (by omega)
    rw [Int.toNat_natCast] at g1 g2
    rw [List.getElem?_map, g1] at e1
    rw [List.getElem?_map, g2] at e2
    cases e1
    cases e2
    unfold rangeI
    rw [List.getElem?_map, List.getElem?_map, List.getElem?_range (by omega)]
    simp
  · rw [List.getElem?_eq_none (by rw [zip2_len]; simp; omega), List.getElem?_eq_none (by rw [List.length_map, rangeI_len]; omega)]
theorem zip3_tab {n : Int} {xs ys zs : List Int} (hx : (xs.length : Int) = n) (hy : (ys.length : Int) = n) (hz : (zs.length : Int) = n) : zip3 (xs.map .int) (ys.map .int) (zs.map .int) = (rangeI 0 n).map fun k => .tup [.int (at0 xs k), .int (at0 ys k), .int (at0 zs k)] := by
  apply List.ext_getElem?
  intro i
  by_cases hi : (i : Int) < n
  · obtain ⟨d, h1⟩ : ∃ d, (zip3 (xs.map .int) (ys.map .int) (zs.map .int))[i]? = some d := ⟨_, List.getElem?_eq_getElem (by rw [zip3_len]; simp; omega)⟩
    obtain ⟨x, y, z, e1, e2, e3, e4⟩ := zip3_get h1
    rw [h1, e4]
    have g1 := at0_get (ns := xs) (i := (i : Int)) (by omega)
    have g2 := at0_get (ns := ys) (i := (i : Int)) (by omega)
    have g3 := at0_get (ns := zs) (i := (i : Int)) (by omega)
    rw [Int.toNat_natCast] at g1 g2 g3
    rw [List.getElem?_map, g1] at e1
    rw [List.getElem?_map, g2] at e2
    rw [List.getElem?_map, g3] at e3
    cases e1
    cases e2
    cases e3
    unfold rangeI
    rw [List.getElem?_map, List.getElem?_map, List.getElem?_range (by omega)]
    simp
  · rw [List.getElem?_eq_none (by rw [zip3_len]; simp; omega), List.getElem?_eq_none (by rw [List.length_map, rangeI_len]; omega)]
/-- a comprehension over range(n) that makes ints -/
theorem LC_tab {f : D → Option D} {n : Int} {h : Int → Int} (hn : n ≤ 16777216) (H : ∀ k, 0 ≤ k ∧ k < n → f (.int k) = some (.int (h k))) : LC (some ((rangeI 0 n).map .int)) (fun _ => some true) f = some (.lst ((tab n h).map .int)) :=
  LC_ints (fun k hk => H k (rangeI_mem.mp hk)) (by rw [rangeI_len]; omega)
def knD (k : List Int × Int) : D := .tup [.tup (k.1.map .int), .int k.2]
def shD (vs caps : List Int) (ks : List (List Int × Int)) : D := .tup [.tup (vs.map .int), .tup (caps.map .int), .tup (ks.map knD)]
structure ShopOk (vs caps : List Int) (ks : List (List Int × Int)) : Prop where
  coins : Coins vs 4 60
  clen : caps.length = vs.length
  cbd : ∀ c ∈ caps, 0 ≤ c ∧ c ≤ 3
  kne : ks ≠ []
  klen : ks.length ≤ 5
  kok : ∀ k ∈ ks, k.1.length = vs.length ∧ (∀ g ∈ k.1, 0 ≤ g ∧ g ≤ 3) ∧ 0 ≤ k.2 ∧ k.2 ≤ worth vs k.1
theorem bs_tuple {m : Option D} {ds es : List D} (h : m = some (.lst ds)) (e : ds = es) : E1 (o1 tupleD) m = some (.tup es) := by rw [h, e]; rfl
theorem rg1_s {n : Int} (h : 0 ≤ n ∧ n ≤ 1000000) : rg1D [D.int n] = some ((rangeI 0 n).map .int) := rg1_i (by omega)
theorem purse_eq {row : List Int} {i n m : Int} (hi : 0 ≤ i ∧ i + n ≤ row.length) (hn : 0 ≤ n ∧ n ≤ 1000) (hm : 0 ≤ m) :
    f__law_purse_D (.lst (row.map .int)) (.int i) (.int n) (.int m) = some (.tup ((tab n fun k => at0 row (i + k) % (m + 1)).map .int)) := by
  have hr := rg1_s (n := n) (by omega)
  have hlc := LC_tab (f := fun x_k => (E2 modD (E1 (o1 intD) (E2 ixD (some (.lst (row.map .int))) (E2 addD (some (D.int i)) (some x_k)))) (E2 addD (some (D.int m)) (some (D.int 1))))) (n := n) (h := fun k => at0 row (i + k) % (m + 1)) (by omega) (fun k hk => by
    have h1 := ixD_row (ns := row) (i := i + k) (by omega)
    simp -implicitDefEqProofs only [E2_s, addD_i, h1, E1_s, o1_s, intD_i, modD_i (show 0 < m + 1 by omega)])
  unfold f__law_purse_D
  simp -implicitDefEqProofs only [aC_s, Option.bind_some, hr, hlc, E1_s, o1_s, tupleD_l]
theorem content_eq {row caps : List Int} {i : Int} (hi : 0 ≤ i ∧ i + caps.length ≤ row.length) (hc : ∀ c ∈ caps, 0 ≤ c) (hl : caps.length ≤ 1000) :
    f__law_content_D (.lst (row.map .int)) (.int i) (.tup (caps.map .int)) = some (.tup ((tab caps.length fun k => at0 row (i + k) % (at0 caps k + 1)).map .int)) := by
  have hr := rg1_s (n := caps.length) (by omega)
  have hlc := LC_tab (f := fun x_k => (E2 modD (E1 (o1 intD) (E2 ixD (some (.lst (row.map .int))) (E2 addD (some (D.int i)) (some x_k)))) (E2 addD (E2 ixD (some (.tup (caps.map .int))) (some x_k)) (some (D.int 1))))) (n := caps.length) (h := fun k => at0 row (i + k) % (at0 caps k + 1)) (by omega) (fun k hk => by
    have h1 := ixD_row (ns := row) (i := i + k) (by omega)
    have h2 := ixD_rowT (ns := caps) (i := k) (by omega)
    have h3 := hc _ (at0_mem (ns := caps) (i := k) (by omega))
    simp -implicitDefEqProofs only [E2_s, addD_i, h1, h2, E1_s, o1_s, intD_i, modD_i (show 0 < at0 caps k + 1 by omega)])
  unfold f__law_content_D
  simp -implicitDefEqProofs only [E1_s, o1_s, lenD_t, List.length_map, aC_s, Option.bind_some, hr, hlc, tupleD_l]
theorem worth29 : f__law_worth_k29_D = f__law_worth_D := rfl
theorem kx {ks : List (List Int × Int)} {k : Int} (hk : 0 ≤ k ∧ k < ks.length) : ∃ kd, kd ∈ ks ∧ ks[k.toNat]? = some kd ∧ ixD (.tup (ks.map knD)) (.int k) = some (knD kd) := by
  have h : ks[k.toNat]? = some ks[k.toNat] := List.getElem?_eq_getElem (by omega)
  refine ⟨_, List.mem_of_getElem? h, h, ?_⟩
  rw [ixD_t hk.1, List.getElem?_map, h]; rfl
theorem ix0 {a b c : D} : ixD (.tup [a, b, c]) (.int 0) = some a := rfl
theorem ix1 {a b c : D} : ixD (.tup [a, b, c]) (.int 1) = some b := rfl
theorem ix2 {a b c : D} : ixD (.tup [a, b, c]) (.int 2) = some c := rfl
theorem ixk0 {kd : List Int × Int} : ixD (knD kd) (.int 0) = some (.tup (kd.1.map .int)) := rfl
theorem ixk1 {kd : List Int × Int} : ixD (knD kd) (.int 1) = some (.int kd.2) := rfl
section
variable {vs caps cs : List Int} {ks : List (List Int × Int)} {k : Int} {kd : List Int × Int}
theorem due_eq (hv : ∀ v ∈ vs, 1 ≤ v ∧ v ≤ 1000000) (hl : vs.length ≤ 900) (hk : ixD (.tup (ks.map knD)) (.int k) = some (knD kd)) : f_due_of_D (shD vs caps ks) (.int k) = some (.int (worth vs kd.1 - kd.2)) := by
  have hs := sum_of_eq (cs := kd.1) hv (by omega)
  unfold f_due_of_D shD
  simp -implicitDefEqProofs only [Option.bind_some, un3_s, E2_s, hk]
  unfold knD
  simp -implicitDefEqProofs only [un2_s, E2_s, hs, subD_i]
theorem ldue_eq (hv : ∀ v ∈ vs, 1 ≤ v ∧ v ≤ 1000000) (hl : vs.length ≤ 900) (hk : ixD (.tup (ks.map knD)) (.int k) = some (knD kd)) (hg : kd.1.length = vs.length) : f__law_due_D (shD vs caps ks) (.int k) = some (.int (worth vs kd.1 - kd.2)) := by
  have hs := lworth_eq (cs := kd.1) hv hl hg
  unfold f__law_due_D shD
  simp -implicitDefEqProofs only [worth29, E2_s, ix0, ix2, hk, ixk0, ixk1, hs, subD_i]
theorem given_eq (hl : cs.length ≤ 900) (hk : ixD (.tup (ks.map knD)) (.int k) = some (knD kd)) (hg : kd.1.length = cs.length) : f_with_given_D (shD vs caps ks) (.tup (cs.map .int)) (.int k) = some (.tup ((tab cs.length fun j => at0 cs j + at0 kd.1 j).map .int)) := by
  have hz : zipD [.tup (cs.map .int), .tup (kd.1.map .int)] = some ((rangeI 0 (cs.length : Int)).map fun j => .tup [.int (at0 cs j), .int (at0 kd.1 j)]) := by
    simp only [zipD]; rw [zip2_tab rfl (by omega)]
  have hlc := LC_filter (nt := un2 (fun x_have x_more => (some true))) (f := un2 (fun x_have x_more => (E2 addD (some x_have) (some x_more)))) (g := fun j => .tup [.int (at0 cs j), .int (at0 kd.1 j)]) (h := fun j => .int (at0 cs j + at0 kd.1 j)) (p := fun _ => true) (xs := rangeI 0 (cs.length : Int)) (fun j _ => rfl) (fun j hj _ => rfl) (by rw [rangeI_len]; omega)
  rw [List.filter_eq_self.mpr (fun _ _ => rfl)] at hlc
  unfold f_with_given_D shD
  simp -implicitDefEqProofs only [E2_s, ix2, hk, ixk0, aC_s, Option.bind_some, hz]
  refine bs_tuple hlc ?_
  unfold tab
  rw [List.map_map]; rfl
theorem there_eq (hl : cs.length ≤ 900) (hk : ixD (.tup (ks.map knD)) (.int k) = some (knD kd)) (hg : kd.1.length = cs.length) : f__law_there_D (shD vs caps ks) (.tup (cs.map .int)) (.int k) = some (.tup ((tab cs.length fun j => at0 cs j + at0 kd.1 j).map .int)) := by
  have hr := rg1_s (n := cs.length) (by omega)
  have hlc := LC_tab (f := fun x_k => (E2 addD (E2 ixD (some (.tup (cs.map .int))) (some x_k)) (E2 ixD (E2 ixD (E2 ixD (E2 ixD (some (shD vs caps ks)) (some (D.int 2))) (some (D.int k))) (some (D.int 0))) (some x_k)))) (n := cs.length) (h := fun j => at0 cs j + at0 kd.1 j) (by omega) (fun j hj => by
    have h1 := ixD_rowT (ns := cs) (i := j) (by omega)
    have h2 := ixD_rowT (ns := kd.1) (i := j) (by omega)
    unfold shD
    simp -implicitDefEqProofs only [E2_s, ix2, hk, ixk0, h1, h2, addD_i])
  unfold f__law_there_D
  simp -implicitDefEqProofs only [E1_s, o1_s, lenD_t, List.length_map, aC_s, Option.bind_some, hr, hlc, tupleD_l]
end
theorem worth_tab {vs cs : List Int} (h : cs.length = vs.length) : worth vs cs = (tab vs.length fun k => at0 vs k * at0 cs k).sum := by
  unfold worth tab
  refine congrArg List.sum ?_
  apply List.ext_getElem?
  intro k
  rw [List.getElem?_map, List.getElem?_map]
  unfold rangeI
  rw [List.getElem?_map]
  by_cases hk : k < vs.length
  · rw [List.getElem?_range (by omega), List.getElem?_eq_getElem (by rw [List.length_zip]; omega)]
    have h1 := at0_get (ns := vs) (i := (k : Int)) (by omega)
    have h2 := at0_get (ns := cs) (i := (k : Int)) (by omega)
    rw [Int.toNat_natCast, List.getElem?_eq_getElem (by omega)] at h1 h2
    simp [← Option.some.inj h1, ← Option.some.inj h2]
  · rw [List.getElem?_eq_none (by rw [List.length_zip]; omega), List.getElem?_eq_none (by simp; omega)]
    rfl
theorem sum_le {f g : Int → Int} : ∀ {xs : List Int}, (∀ x ∈ xs, f x ≤ g x) → (xs.map f).sum ≤ (xs.map g).sum
  | [], _ => by simp
  | x :: xs, h => by
    have h1 := h x (by simp)
    have h2 := sum_le (xs := xs) fun y hy => h y (by simp [hy])
    simp only [List.map_cons, List.sum_cons]; omega
theorem worth_le {vs xs ys : List Int} (hv : ∀ v ∈ vs, 1 ≤ v) (h1 : xs.length = vs.length) (h2 : ys.length = vs.length) (h : ∀ k, 0 ≤ k ∧ k < (vs.length : Int) → at0 xs k ≤ at0 ys k) : worth vs xs ≤ worth vs ys := by
  rw [worth_tab h1, worth_tab h2]
  unfold tab
  refine sum_le fun k hk => ?_
  rw [rangeI_mem] at hk
  have := hv _ (at0_mem (ns := vs) hk)
  exact Int.mul_le_mul_of_nonneg_left (h k hk) (by omega)
theorem worth_nn {vs xs : List Int} (hv : ∀ v ∈ vs, 1 ≤ v) (h1 : xs.length = vs.length) (h : ∀ x ∈ xs, 0 ≤ x) : 0 ≤ worth vs xs := by
  have := worth_le (xs := tab vs.length fun _ => 0) (ys := xs) hv (by rw [tab_len]; omega) h1 (fun k hk => by rw [at0_tab hk]; exact h _ (at0_mem (by omega)))
  have e : worth vs (tab vs.length fun _ => 0) = 0 := by
    rw [worth_tab (by rw [tab_len]; omega)]
    have : (tab vs.length fun k => at0 vs k * at0 (tab vs.length fun _ => 0) k) = tab vs.length fun _ => 0 := tab_congr fun k hk => by rw [at0_tab hk, Int.mul_zero]
    rw [this]
    unfold tab
    generalize rangeI 0 (vs.length : Int) = l
    induction l with
    | nil => rfl
    | cons x xs ih => simpa using ih
  omega
theorem worth_bd {vs xs : List Int} (hv : ∀ v ∈ vs, 1 ≤ v ∧ v ≤ 60) (hl : vs.length ≤ 4) (h1 : xs.length = vs.length) (h : ∀ x ∈ xs, x ≤ 1000) : worth vs xs ≤ 240000 := by
  rw [worth_tab h1]
  have : ∀ l : List Int, (∀ k ∈ l, 0 ≤ k ∧ k < (vs.length : Int)) → (l.map fun k => at0 vs k * at0 xs k).sum ≤ l.length * 60000 := by
    intro l
    induction l with
    | nil => simp
    | cons k l ih =>
      intro hk
      have h2 := ih fun j hj => hk j (by simp [hj])
      have h3 := hk k (by simp)
      have h4 := hv _ (at0_mem (ns := vs) h3)
      have h5 := h _ (at0_mem (ns := xs) (i := k) (by omega))
      have h6 : at0 vs k * at0 xs k ≤ at0 vs k * 1000 := Int.mul_le_mul_of_nonneg_left h5 (by omega)
      simp only [List.map_cons, List.sum_cons, List.length_cons]
      omega
  have h7 := this (rangeI 0 vs.length) (fun k hk => rangeI_mem.mp hk)
  rw [rangeI_len] at h7
  unfold tab
  omega
/-! ### the drawn shop -/
theorem kind_spec {row vs : List Int} {ks : List (List Int × Int)} {x : Int} (hi : 61 ≤ row.length) (hx : 0 ≤ x ∧ x ≤ 4) (hv : ∀ v ∈ vs, 1 ≤ v ∧ v ≤ 60) (hl : 1 ≤ vs.length ∧ vs.length ≤ 4) (hk : ks.length ≤ 100) :
    ∃ (k : List Int × Int), f__law_full_shop_L2 (.lst (row.map .int)) (.int 0) (.tup (vs.map .int)) (.lst (ks.map knD)) (.int x) = some (.lst ((ks ++ [k]).map knD)) ∧ k.1.length = vs.length ∧ (∀ g ∈ k.1, 0 ≤ g ∧ g ≤ 3) ∧ 0 ≤ k.2 ∧ k.2 ≤ worth vs k.1 := by
  have hv1 : ∀ v ∈ vs, 1 ≤ v := fun v h => (hv v h).1
  have hv2 : ∀ v ∈ vs, 1 ≤ v ∧ v ≤ 1000000 := fun v h => by have := hv v h; omega
  have hcp := purse_eq (row := row) (i := 0 + 11 + 10 * x) (n := vs.length) (m := 3) (by omega) (by omega) (by omega)
  have hgb : ∀ g ∈ (tab vs.length fun k => at0 row (0 + 11 + 10 * x + k) % (3 + 1)), 0 ≤ g ∧ g ≤ 3 := fun c hc => by
    obtain ⟨k, hk, rfl⟩ := tab_mem.mp hc
    have := emod_bd (at0 row (0 + 11 + 10 * x + k)) (3 + 1) (by omega)
    omega
  have hgl : (tab vs.length fun k => at0 row (0 + 11 + 10 * x + k) % (3 + 1)).length = vs.length := by rw [tab_len]; omega
  unfold f__law_full_shop_L2
  have hm := mulD_l (i := 10) (j := x) (by omega)
  simp -implicitDefEqProofs only [E2_s, addD_i, hm, E1_s, o1_s, lenD_t, List.length_map, E4_s, hcp, Option.bind_some]
  generalize (tab vs.length fun k => at0 row (0 + 11 + 10 * x + k) % (3 + 1)) = gs at *
  have hr := rg1_s (n := vs.length) (by omega)
  have hlc := LC_tab (f := fun x_j => E2 modD (E1 (o1 intD) (E2 ixD (some (.lst (row.map .int))) (addD (.int (0 + 16 + 10 * x)) x_j))) (E2 addD (ixD (.tup (gs.map .int)) x_j) (some (.int 1)))) (n := vs.length) (h := fun j => at0 row (0 + 16 + 10 * x + j) % (at0 gs j + 1)) (by omega) (fun j hj => by
    have h1 := ixD_row (ns := row) (i := 0 + 16 + 10 * x + j) (by omega)
    have h2 := ixD_rowT (ns := gs) (i := j) (by omega)
    have h3 := hgb _ (at0_mem (ns := gs) (i := j) (by omega))
    simp -implicitDefEqProofs only [E2_s, addD_i, h1, h2, E1_s, o1_s, intD_i, modD_i (show 0 < at0 gs j + 1 by omega)])
  have hbl : (tab vs.length fun j => at0 row (0 + 16 + 10 * x + j) % (at0 gs j + 1)).length = vs.length := by rw [tab_len]; omega
  have hbk : ∀ j, 0 ≤ j ∧ j < (vs.length : Int) → 0 ≤ at0 (tab vs.length fun j => at0 row (0 + 16 + 10 * x + j) % (at0 gs j + 1)) j ∧ at0 (tab vs.length fun j => at0 row (0 + 16 + 10 * x + j) % (at0 gs j + 1)) j ≤ at0 gs j := fun j hj => by
    rw [at0_tab hj]
    have h3 := hgb _ (at0_mem (ns := gs) (i := j) (by omega))
    have := emod_bd (at0 row (0 + 16 + 10 * x + j)) (at0 gs j + 1) (by omega)
    omega
  simp -implicitDefEqProofs only [aC_s, Option.bind_some, hr, hlc, tupleD_l, E1_s, o1_s]
  generalize (tab vs.length fun j => at0 row (0 + 16 + 10 * x + j) % (at0 gs j + 1)) = bs at *
  have w1 := lworth_eq (cs := gs) hv2 (by omega) hgl
  have w2 := lworth_eq (cs := bs) hv2 (by omega) hbl
  have q1 := worth_nn hv1 hgl fun g hg => (hgb g hg).1
  have q2 := worth_le hv1 hbl hgl fun k hk => (hbk k hk).2
  have q3 : 0 ≤ worth vs bs := worth_nn hv1 hbl fun b hb => by
    obtain ⟨i, hi, e⟩ := List.getElem_of_mem hb
    have h1 := at0_get (ns := bs) (i := (i : Int)) (by omega)
    rw [Int.toNat_natCast, List.getElem?_eq_getElem hi] at h1
    rw [← e, Option.some.inj h1]
    exact (hbk i (by omega)).1
  have i15 := ixD_row (ns := row) (i := 0 + 15 + 10 * x) (by omega)
  have i20 := ixD_row (ns := row) (i := 0 + 20 + 10 * x) (by omega)
  have b20 := emod_bd (at0 row (0 + 20 + 10 * x)) (worth vs gs + 1) (by omega)
  have ha : ∀ p : Int, appD (.lst (ks.map knD)) (.tup [.tup (gs.map .int), .int p]) = some (.lst ((ks ++ [(gs, p)]).map knD)) := fun p => by
    rw [appD_i (by simp; omega), List.map_append]; rfl
  have ht : ∀ p : Int, tupD [D.tup (gs.map .int), D.int p] = some (.tup [.tup (gs.map .int), .int p]) := fun p => tupD_i (by simp)
  simp -implicitDefEqProofs only [E1_s, o1_s, worth29, w1, w2, E2_s, subD_i, Option.bind_some, gtD_i, getB_b, i15, intD_i, modD_i (show (0 : Int) < 3 by omega), eqD_i, andT_s, i20, addD_i, modD_i (show 0 < worth vs gs + 1 by omega)]
  generalize at0 row (0 + 15 + 10 * x) % 3 = m3
  generalize at0 row (0 + 20 + 10 * x) % (worth vs gs + 1) = m20 at b20 ⊢
  refine ⟨(gs, if (if decide (0 < x) = true then some (decide (m3 = 1)) else some false) = some true then m20 else worth vs gs - worth vs bs), ?_, hgl, hgb, ?_⟩
  · by_cases h1 : 0 < x
    · by_cases h2 : m3 = 1
      · simp -implicitDefEqProofs [h1, h2, ht, ha]
      · simp -implicitDefEqProofs [h1, h2, ht, ha]
    · simp -implicitDefEqProofs [h1, ht, ha]
  · simp only
    split <;> omega
theorem full_spec {row : List Int} (hi : 61 ≤ row.length) : ∃ vs caps ks, f__law_full_shop_D (.lst (row.map .int)) (.int 0) = some (shD vs caps ks) ∧ ShopOk vs caps ks := by
  have i5 := ixD_row (ns := row) (i := 0 + 5) (by omega)
  have i0 := ixD_row (ns := row) (i := 0) (by omega)
  have i10 := ixD_row (ns := row) (i := 0 + 10) (by omega)
  have b5 := emod_bd (at0 row (0 + 5)) 2 (by omega)
  have b0 := emod_bd (at0 row 0) 4 (by omega)
  have b10 := emod_bd (at0 row (0 + 10)) 5 (by omega)
  obtain ⟨top, htop, et⟩ : ∃ top : Int, (1 ≤ top ∧ top ≤ 60) ∧ (E2 ixD ((aC (some (D.int 8)) (aC (some (D.int 60)) (some []))).bind lstD) (E2 modD (E1 (o1 intD) (E2 ixD (some (.lst (row.map .int))) (E2 addD (some (.int 0)) (some (D.int 5))))) (some (D.int 2)))) = some (.int top) := by
    have hl := lstD_i (ds := [D.int 8, D.int 60]) (by simp)
    simp -implicitDefEqProofs only [E2_s, addD_i, i5, E1_s, o1_s, intD_i, modD_i (show (0 : Int) < 2 by omega), aC_s, Option.bind_some, hl]
    rcases (show at0 row (0 + 5) % 2 = 0 ∨ at0 row (0 + 5) % 2 = 1 by omega) with e | e
    · exact ⟨8, by omega, by rw [e]; rfl⟩
    · exact ⟨60, by omega, by rw [e]; rfl⟩
  suffices H : ∃ y, f__law_full_shop_D (.lst (row.map .int)) (.int 0) = some y ∧ ∃ vs caps ks, y = shD vs caps ks ∧ ShopOk vs caps ks by
    obtain ⟨y, e, vs, caps, ks, rfl, h⟩ := H
    exact ⟨vs, caps, ks, e, h⟩
  unfold f__law_full_shop_D
  refine bstepY et ?_
  refine bstepY (lstD_i (ds := []) (by simp)) ?_
  refine (bstepX (P := fun d : D => ∃ fs : List Int, d = .lst (fs.map .int) ∧ fs.Nodup ∧ fs ≠ [] ∧ fs.length ≤ 4 ∧ ∀ v ∈ fs, 1 ≤ v ∧ v ≤ 60) ?_ ?_)
  · have hr := rg1_s (n := 1 + at0 row 0 % 4) (by omega)
    simp -implicitDefEqProofs only [E2_s, E1_s, o1_s, i0, intD_i, modD_i (show (0 : Int) < 4 by omega), addD_i, aC_s, Option.bind_some, hr]
    generalize hn0 : 1 + at0 row 0 % 4 = n at *
    obtain ⟨s', e, fs, rfl, h1, h2, h3, h4⟩ := forP_inv (f := f__law_full_shop_L1 (.lst (row.map .int)) (.int 0) (.int top)) (g := D.int)
      (fun ys s => ∃ fs : List Int, s = .lst (fs.map .int) ∧ fs.length ≤ ys.length ∧ (ys ≠ [] → fs ≠ []) ∧ fs.Nodup ∧ ∀ v ∈ fs, 1 ≤ v ∧ v ≤ 60)
      (xs := rangeI 0 n) (s := .lst []) (ys := []) ⟨[], rfl, by simp, by simp, by simp, by simp⟩ (by
        rintro zs x ws s e ⟨fs, rfl, hl, hne, hnd, hbd⟩
        have hx : x ∈ rangeI 0 n := by rw [show rangeI 0 n = zs ++ x :: ws from e]; simp
        rw [rangeI_mem] at hx
        have hz : zs.length + (ws.length + 1) = n.toNat := by
          have := congrArg List.length (show rangeI 0 n = zs ++ x :: ws from e)
          rw [rangeI_len] at this
          simpa using this.symm
        have hv := emod_bd (at0 row (0 + 1 + x)) top (by omega)
        have ix := ixD_row (ns := row) (i := 0 + 1 + x) (by omega)
        unfold f__law_full_shop_L1
        simp -implicitDefEqProofs only [E2_s, addD_i, ix, E1_s, o1_s, intD_i, modD_i (show 0 < top by omega), Option.bind_some, notIn_l, getB_b, iteO_s]
        generalize hval : 1 + at0 row (0 + 1 + x) % top = val at *
        by_cases hmem : val ∈ fs
        · refine ⟨.lst (fs.map .int), by simp [hmem], fs, rfl, by simp; omega, fun _ => by rintro rfl; simp at hmem, hnd, hbd⟩
        · refine ⟨.lst ((fs ++ [val]).map .int), ?_, fs ++ [val], rfl, by simp; omega, by simp, ?_, ?_⟩
          · have ha := appD_i (ds := fs.map .int) (d := .int val) (by simp; omega)
            simp -implicitDefEqProofs [hmem, ha]
          · rw [List.nodup_append]
            exact ⟨hnd, by simp, fun a ha b hb => by simp at hb; subst hb; rintro rfl; exact hmem ha⟩
          · intro v hvm
            simp at hvm
            rcases hvm with hvm | rfl
            · exact hbd v hvm
            · omega)
    refine ⟨_, e, fs, rfl, h3, h2 ?_, ?_, h4⟩
    · intro h0
      have := congrArg List.length h0
      rw [List.nil_append, rangeI_len] at this
      simp at this; omega
    · rw [List.nil_append, rangeI_len] at h1
      omega
  · rintro _ ⟨fs, rfl, hnd, hfn, hfl, hfb⟩
    have hpl := (isort_perm fs).length_eq
    have hco : Coins (isort fs) 4 60 := ⟨isort_lt hnd, fun h0 => by rw [h0] at hpl; exact hfn (List.length_eq_zero_iff.mp hpl.symm), by omega, fun v hv => hfb v ((isort_perm fs).mem_iff.mp hv)⟩
    refine bstepY (x := .tup ((isort fs).map .int)) (by simp -implicitDefEqProofs only [E1_s, o1_s, sortedD_ns, tupleD_l]) ?_
    generalize isort fs = vs at *
    have hvl := List.length_pos_iff.mpr hco.ne
    have hvl2 := hco.len
    have hv1 : ∀ v ∈ vs, 1 ≤ v := fun v h => (hco.bd v h).1
    have hcp := purse_eq (row := row) (i := 0 + 6) (n := vs.length) (m := 3) (by omega) (by omega) (by omega)
    refine bstepY (x := .tup ((tab vs.length fun k => at0 row (0 + 6 + k) % (3 + 1)).map .int)) (by simp -implicitDefEqProofs only [E2_s, addD_i, E1_s, o1_s, lenD_t, List.length_map, E4_s, hcp]) (bstepY (lstD_i (ds := []) (by simp)) (bstepX (P := fun d : D => ∃ ks : List (List Int × Int), d = .lst (ks.map knD) ∧ ks ≠ [] ∧ ks.length ≤ 5 ∧ ∀ k ∈ ks, k.1.length = vs.length ∧ (∀ g ∈ k.1, 0 ≤ g ∧ g ≤ 3) ∧ 0 ≤ k.2 ∧ k.2 ≤ worth vs k.1) ?_ ?_))
    · have hr := rg1_s (n := 1 + at0 row (0 + 10) % 5) (by omega)
      simp -implicitDefEqProofs only [E2_s, E1_s, o1_s, i10, intD_i, modD_i (show (0 : Int) < 5 by omega), addD_i, aC_s, Option.bind_some, hr]
      generalize hn0 : 1 + at0 row (0 + 10) % 5 = n at *
      obtain ⟨s', e, ks, rfl, h1, h2, h3⟩ := forP_inv (f := f__law_full_shop_L2 (.lst (row.map .int)) (.int 0) (.tup (vs.map .int))) (g := D.int)
        (fun ys s => ∃ ks : List (List Int × Int), s = .lst (ks.map knD) ∧ ks.length ≤ ys.length ∧ (ys ≠ [] → ks ≠ []) ∧ ∀ k ∈ ks, k.1.length = vs.length ∧ (∀ g ∈ k.1, 0 ≤ g ∧ g ≤ 3) ∧ 0 ≤ k.2 ∧ k.2 ≤ worth vs k.1)
        (xs := rangeI 0 n) (s := .lst []) (ys := []) ⟨[], rfl, by simp, by simp, by simp⟩ (by
          rintro zs x ws s e ⟨ks, rfl, hl, hne, hok⟩
          have hx : x ∈ rangeI 0 n := by rw [show rangeI 0 n = zs ++ x :: ws from e]; simp
          rw [rangeI_mem] at hx
          have hz : zs.length + (ws.length + 1) = n.toNat := by
            have := congrArg List.length (show rangeI 0 n = zs ++ x :: ws from e)
            rw [rangeI_len] at this
            simpa using this.symm
          obtain ⟨k, e1, h1, h2, h3, h4⟩ := kind_spec (row := row) (vs := vs) (ks := ks) (x := x) (by omega) (by omega) hco.bd ⟨by omega, hvl2⟩ (by omega)
          exact ⟨_, e1, ks ++ [k], rfl, by simp; omega, by simp, fun j hj => by
            rcases List.mem_append.mp hj with hj | hj
            · exact hok j hj
            · have : j = k := by simpa using hj
              subst this; exact ⟨h1, h2, h3, h4⟩⟩)
      refine ⟨_, e, ks, rfl, h2 ?_, ?_, h3⟩
      · intro h0
        have := congrArg List.length h0
        rw [List.nil_append, rangeI_len] at this
        simp at this; omega
      · rw [List.nil_append, rangeI_len] at h1
        omega
    · rintro _ ⟨ks, rfl, hkn, hkl, hko⟩
      have ht := tupD_i (ds := [.tup (vs.map .int), .tup ((tab vs.length fun k => at0 row (0 + 6 + k) % (3 + 1)).map .int), .tup (ks.map knD)]) (by simp)
      refine ⟨_, ?_, vs, (tab vs.length fun k => at0 row (0 + 6 + k) % (3 + 1)), ks, rfl, hco, by rw [tab_len]; omega, ?_, hkn, hkl, hko⟩
      · simp -implicitDefEqProofs only [E1_s, o1_s, tupleD_l, aC_s, Option.bind_some, ht]
        rfl
      · intro c hc
        obtain ⟨k, hk, rfl⟩ := tab_mem.mp hc
        have := emod_bd (at0 row (0 + 6 + k)) (3 + 1) (by omega)
        omega
end DL
set_option autoImplicit false
set_option maxRecDepth 100000
set_option maxHeartbeats 4000000
namespace DL
open PySem PySem.Spec PySem.SeqAt PyProof.Rows L2
namespace k28
def isT : Option D → Bool
  | some (.bl b) => b
  | _ => false
theorem blq {α : Type} (p : α → Bool) (xs : List α) : (xs.map fun x => D.bl (p x)) = (xs.map p).map D.bl := by rw [List.map_map]; rfl
theorem all_q {f : D → Option D} {ds : List D} (H : ∀ d ∈ ds, ∃ b, f d = some (.bl b)) (hl : ds.length ≤ 1000) : E1 (o1 allD) (LC (some ds) (fun _ => some true) f) = some (.bl (ds.all fun d => isT (f d))) := by
  have h := LC_map (f := f) (g := id) (h := fun d => .bl (isT (f d))) (xs := ds) (fun d hd => by obtain ⟨b, e⟩ := H d hd; show f d = _; rw [e]; rfl) (by omega)
  rw [List.map_id] at h
  rw [h, blq, E1_s, o1_s, allD_bs, List.all_map]; rfl
theorem all_t {f : D → Option D} {ds : List D} (H : ∀ d ∈ ds, f d = some (.bl true)) (hl : ds.length ≤ 1000) : E1 (o1 allD) (LC (some ds) (fun _ => some true) f) = some (.bl true) := by
  rw [all_q (fun d hd => ⟨_, H d hd⟩) hl, List.all_eq_true.mpr fun d hd => by rw [H d hd]; rfl]
theorem all_f {f : D → Option D} {ds : List D} (H : ∀ d ∈ ds, ∃ b, f d = some (.bl b)) (hb : ∃ d ∈ ds, f d = some (.bl false)) (hl : ds.length ≤ 1000) : E1 (o1 allD) (LC (some ds) (fun _ => some true) f) = some (.bl false) := by
  rw [all_q H hl]
  obtain ⟨d, hd, e⟩ := hb
  rw [List.all_eq_false.mpr ⟨d, hd, by rw [e]; simp [isT]⟩]
/-! ### numbers, rows -/
theorem num_i {i a b : Int} : f_is_number_D (.int i) (.int a) (.int b) = some (.bl (decide (a ≤ i ∧ i ≤ b))) := by
  by_cases h1 : i < a
  · simp -implicitDefEqProofs [f_is_number_D, isIntD, isBlD, isiG, h1, show ¬ a ≤ i by omega]
  · simp -implicitDefEqProofs [f_is_number_D, isIntD, isBlD, isiG, h1, show a ≤ i by omega]
theorem num_b {p : Bool} {a b : Int} : f_is_number_D (.bl p) (.int a) (.int b) = some (.bl false) := by
  simp -implicitDefEqProofs [f_is_number_D, isIntD, isBlD, isiG]
theorem num_n {a b : Int} : f_is_number_D .non (.int a) (.int b) = some (.bl false) := by
  simp -implicitDefEqProofs [f_is_number_D, isIntD, isBlD, isiG]
def ntp (y : D) : Prop := isiG isTupD y = some (.bl false)
theorem isi_t {ds : List D} : isiG isTupD (.tup ds) = some (.bl true) := rfl
theorem row_t {ds : List D} {n : Int} : f_is_row_D (.tup ds) (.int n) = some (.bl (decide ((ds.length : Int) = n))) := by
  simp -implicitDefEqProofs only [f_is_row_D, E1_s, isi_t, andV_s, o1_s, lenD_t, E2_s, eqD_i, if_true]
theorem row_n {y : D} {n : Int} (h : ntp y) : f_is_row_D y (.int n) = some (.bl false) := by
  unfold ntp at h
  simp -implicitDefEqProofs only [f_is_row_D, E1_s, h, andV_s, Bool.false_eq_true, if_false]
theorem ch_i {a b c : Int} : chD leD leD (some (.int a)) (some (.int b)) (some (.int c)) = some (.bl (decide (a ≤ b ∧ b ≤ c))) := by
  by_cases h : a ≤ b
  · simp -implicitDefEqProofs [chD, h]
  · simp -implicitDefEqProofs [chD, h]
/-! ### slices -/
theorem SL_hd {ds : List D} {p : Int} (h : 0 ≤ p) : SL (some (.tup ds)) (some none) (((some (D.int p)).bind getI).map some) = some (.tup (ds.take p.toNat)) := by
  simp -implicitDefEqProofs only [Option.bind_some, getI_i, Option.map_some, SL, slD, cut_take h]
theorem SL_tl {ds : List D} {p : Int} (h : 0 ≤ p) : SL (some (.tup ds)) (((some (D.int p)).bind getI).map some) (some none) = some (.tup (ds.drop p.toNat)) := by
  simp -implicitDefEqProofs only [Option.bind_some, getI_i, Option.map_some, SL, slD, cut_drop h]
theorem SL_hl {ds : List D} {p : Int} (h : 0 ≤ p) : SL (some (.lst ds)) (some none) (((some (D.int p)).bind getI).map some) = some (.lst (ds.take p.toNat)) := by
  simp -implicitDefEqProofs only [Option.bind_some, getI_i, Option.map_some, SL, slD, cut_take h]
theorem SL_ng {ds : List D} : SL (some (.tup ds)) (some none) (((E1 negD (some (D.int 1))).bind getI).map some) = some (.tup (cutD ds none (some (-1)))) := rfl
theorem cut_mem {ds : List D} {lo hi : Option Int} {d : D} (h : d ∈ cutD ds lo hi) : d ∈ ds := by
  unfold cutD at h
  exact List.mem_of_mem_drop (List.mem_of_mem_take h)
theorem cut_1 {ds : List D} (h : ds ≠ []) : (cutD ds none (some (-1))).length + 1 = ds.length := by
  have := List.length_pos_iff.mpr h
  unfold cutD
  rw [HT.sIx_none, List.length_take, List.length_drop]
  have e1 : HT.sIx ds.length ds.length (some (-1)) = ds.length - 1 := by
    unfold HT.sIx
    simp
    omega
  rw [e1]; omega
theorem add_t {xs ys : List D} (h : xs.length + ys.length ≤ 2000) : E2 addD (some (D.tup xs)) (some (D.tup ys)) = some (.tup (xs ++ ys)) := by
  rw [E2_s]
  simp only [addD]
  rw [if_pos (by omega)]
theorem tup1 {x : D} : (aC (some x) (some [])).bind tupD = some (.tup [x]) := by
  rw [aC_s, Option.bind_some, tupD_i (by simp)]
theorem put_eq {ds : List D} {p : Int} {x : D} (hp : 0 ≤ p) (hl : ds.length ≤ 900) : f__law_put_D (.tup ds) (.int p) x = some (.tup (ds.take p.toNat ++ [x] ++ ds.drop (p + 1).toNat)) := by
  have h1 : ((E2 addD (some (D.int p)) (some (D.int 1))).bind getI).map some = ((some (D.int (p + 1))).bind getI).map some := rfl
  unfold f__law_put_D
  rw [h1, SL_hd hp, SL_tl (by omega), tup1, add_t (by rw [List.length_take]; simp; omega), add_t (by rw [List.length_append, List.length_take, List.length_drop]; simp; omega)]
theorem put_len {ds : List D} {p : Int} {x : D} (hp : 0 ≤ p ∧ p < ds.length) : (ds.take p.toNat ++ [x] ++ ds.drop (p + 1).toNat).length = ds.length := by
  rw [List.length_append, List.length_append, List.length_take, List.length_drop, List.length_singleton]; omega
theorem put_mem {ds : List D} {p : Int} {x d : D} (h : d ∈ ds.take p.toNat ++ [x] ++ ds.drop (p + 1).toNat) : d = x ∨ d ∈ ds := by
  rw [List.mem_append, List.mem_append] at h
  rcases h with (h | h) | h
  · exact .inr (List.mem_of_mem_take h)
  · exact .inl (by simpa using h)
  · exact .inr (List.mem_of_mem_drop h)
theorem put_in {ds : List D} {p : Int} {x : D} : x ∈ ds.take p.toNat ++ [x] ++ ds.drop (p + 1).toNat := by simp
theorem lt_c {a b : Int} : ((E2 ltD (some (D.int a)) (some (D.int b))).bind getB) = some (decide (a < b)) := by rw [E2_s, ltD_i]; rfl
theorem eq_c {a b : Int} : ((E2 eqD (some (D.int a)) (some (D.int b))).bind getB) = some (decide (a = b)) := by rw [E2_s, eqD_i]; rfl
theorem list_t {ds : List D} : E1 (o1 listD) (some (D.tup ds)) = some (.lst ds) := rfl
/-! ### coins -/
theorem mem_int {vs : List Int} {a b : Int} (h : ∀ v ∈ vs, a ≤ v ∧ v ≤ b) : ∀ d ∈ vs.map D.int, f_is_number_D d (.int a) (.int b) = some (.bl true) := fun d hd => by
  obtain ⟨v, hv, rfl⟩ := List.mem_map.mp hd
  rw [num_i, decide_eq_true (h v hv)]
theorem asc_eq {vs : List Int} (hl : vs.length ≤ 1000) : (E1 (o1 allD) (LC ((aC (some (.tup (vs.map .int))) (aC (SL (some (.tup (vs.map .int))) (((some (D.int 1)).bind getI).map some) (some none)) (some []))).bind zipD) (un2 (fun x_less x_more => (some true))) (un2 (fun x_less x_more => (E2 ltD (some x_less) (some x_more)))))) = some (.bl ((vs.zip (vs.drop 1)).all fun p => decide (p.1 < p.2))) := by
  have hz : zipD [.tup (vs.map .int), .tup ((vs.map .int).drop 1)] = some ((vs.zip (vs.drop 1)).map pD) := by
    simp only [zipD]; rw [← List.map_drop, zip2_eq]
  have hlc := LC_filter (nt := un2 (fun x_less x_more => (some true))) (f := un2 (fun x_less x_more => (E2 ltD (some x_less) (some x_more)))) (g := pD) (h := fun p => D.bl (decide (p.1 < p.2))) (p := fun _ => true) (xs := vs.zip (vs.drop 1)) (fun p _ => rfl) (fun p hp _ => by
    unfold pD
    rw [un2_s, E2_s, ltD_i]) (by rw [List.length_zip]; omega)
  rw [List.filter_eq_self.mpr (fun _ _ => rfl)] at hlc
  rw [SL_tl (by omega), show (1 : Int).toNat = 1 from rfl, aC_s, aC_s, Option.bind_some, hz, hlc, blq, E1_s, o1_s, allD_bs, List.all_map]
  rfl
theorem zip_asc : ∀ {vs : List Int}, vs.Pairwise (· < ·) → ((vs.zip (vs.drop 1)).all fun p => decide (p.1 < p.2)) = true
  | [], _ => rfl
  | [a], _ => rfl
  | a :: b :: r, h => by
    have h1 := List.pairwise_cons.mp h
    have := zip_asc h1.2
    have h2 := h1.1 b (by simp)
    simp only [List.drop_succ_cons, List.drop_zero, List.zip_cons_cons, List.all_cons, decide_eq_true h2, Bool.true_and] at this ⊢
    exact this
theorem coin_t {vs : List Int} (h : Coins vs 4 60) : f_is_coinage_D (.tup (vs.map .int)) (.int 4) = some (.bl true) := by
  have h1 := List.length_pos_iff.mpr h.ne
  have h2 := h.len
  unfold f_is_coinage_D
  rw [asc_eq (by omega), zip_asc h.asc]
  simp -implicitDefEqProofs only [E1_s, isi_t, Option.bind_some, truD_b, notT_s, o1_s, lenD_t, List.length_map, ch_i, getB_b, seqD_t, E3_s]
  rw [decide_eq_true (show (1 : Int) ≤ vs.length ∧ (vs.length : Int) ≤ 4 by omega)]
  have h3 := all_t (f := fun x_part => f_is_number_D x_part (.int 1) (.int 60)) (mem_int h.bd) (by rw [List.length_map]; omega)
  rw [E1] at h3
  simp -implicitDefEqProofs only [E1, h3, Option.bind_some, truD_b, Bool.not_true, orT_s, notT_s, Bool.false_eq_true, if_false, iteO_s]
theorem coin_n {y : D} (h : ntp y) : f_is_coinage_D y (.int 4) = some (.bl false) := by
  unfold ntp at h
  unfold f_is_coinage_D
  simp -implicitDefEqProofs only [E1_s, h, Option.bind_some, truD_b, notT_s, Bool.not_false, orT_s, if_true, iteO_s]
theorem coin_l {ds : List D} (h : ¬ (1 ≤ (ds.length : Int) ∧ (ds.length : Int) ≤ 4)) : f_is_coinage_D (.tup ds) (.int 4) = some (.bl false) := by
  unfold f_is_coinage_D
  simp -implicitDefEqProofs only [E1_s, isi_t, Option.bind_some, truD_b, notT_s, Bool.not_true, orT_s, Bool.false_eq_true, if_false, o1_s, lenD_t, ch_i, getB_b, decide_eq_false h, Bool.not_false, if_true, iteO_s]
theorem coin_p {ds : List D} (hl : 1 ≤ (ds.length : Int) ∧ (ds.length : Int) ≤ 4) (H : ∀ d ∈ ds, ∃ b, f_is_number_D d (.int 1) (.int 60) = some (.bl b)) (hb : ∃ d ∈ ds, f_is_number_D d (.int 1) (.int 60) = some (.bl false)) : f_is_coinage_D (.tup ds) (.int 4) = some (.bl false) := by
  have h3 := all_f (f := fun x_part => f_is_number_D x_part (.int 1) (.int 60)) H hb (by omega)
  rw [E1] at h3
  unfold f_is_coinage_D
  simp -implicitDefEqProofs only [E1_s, isi_t, Option.bind_some, truD_b, notT_s, Bool.not_true, orT_s, Bool.false_eq_true, if_false, o1_s, lenD_t, ch_i, getB_b, decide_eq_true hl, iteO_s, seqD_t, E3_s, E1, h3, Bool.not_false, if_true]
theorem coin_2 {a : Int} {r : List Int} (hl : r.length ≤ 2) (hb : ∀ v ∈ a :: r, 1 ≤ v ∧ v ≤ 60) : f_is_coinage_D (.tup ((a :: a :: r).map .int)) (.int 4) = some (.bl false) := by
  have h3 := all_t (f := fun x_part => f_is_number_D x_part (.int 1) (.int 60)) (mem_int (vs := a :: a :: r) fun v hv => hb v (by simpa using hv)) (by simp; omega)
  rw [E1] at h3
  unfold f_is_coinage_D
  rw [asc_eq (by simp; omega)]
  simp -implicitDefEqProofs only [E1_s, isi_t, Option.bind_some, truD_b, notT_s, Bool.not_true, orT_s, Bool.false_eq_true, if_false, o1_s, lenD_t, ch_i, getB_b, List.length_map, List.length_cons, decide_eq_true (show (1 : Int) ≤ ((r.length + 1 + 1 : Nat) : Int) ∧ ((r.length + 1 + 1 : Nat) : Int) ≤ 4 by omega), iteO_s, seqD_t, E3_s, E1, h3]
  simp
/-! ### counts -/
def BadC (n : Nat) (y : D) : Prop := ntp y ∨ (∃ ds, y = .tup ds ∧ ds.length ≠ n) ∨ (∃ ds, y = .tup ds ∧ ds.length = n ∧ (∀ d ∈ ds, ∃ b, f_is_number_D d (.int 0) (.int 3) = some (.bl b)) ∧ ∃ d ∈ ds, f_is_number_D d (.int 0) (.int 3) = some (.bl false))
theorem caps_t {vs caps : List Int} (hl : caps.length = vs.length) (hv : vs.length ≤ 4) (hb : ∀ c ∈ caps, 0 ≤ c ∧ c ≤ 3) : f_are_caps_D (.tup (vs.map .int)) (.tup (caps.map .int)) = some (.bl true) := by
  have h3 := all_t (f := fun x_cap => f_is_number_D x_cap (.int 0) (.int 3)) (mem_int hb) (by rw [List.length_map]; omega)
  rw [E1] at h3
  unfold f_are_caps_D
  simp -implicitDefEqProofs only [E1_s, o1_s, lenD_t, List.length_map, E2_s, row_t, decide_eq_true (show (caps.length : Int) = vs.length by omega), andV_s, if_true, Option.bind_some, seqD_t, E3_s, E1, h3]
theorem caps_f {vs : List Int} {y : D} (hv : vs.length ≤ 4) (hb : BadC vs.length y) : f_are_caps_D (.tup (vs.map .int)) y = some (.bl false) := by
  unfold f_are_caps_D
  simp -implicitDefEqProofs only [E1_s, o1_s, lenD_t, List.length_map, E2_s]
  rcases hb with h | ⟨ds, rfl, h⟩ | ⟨ds, rfl, h, h1, h2⟩
  · simp -implicitDefEqProofs only [row_n h, andV_s, Bool.false_eq_true, if_false]
  · simp -implicitDefEqProofs only [row_t, decide_eq_false (show ¬ (ds.length : Int) = vs.length by omega), andV_s, Bool.false_eq_true, if_false]
  · have h3 := all_f (f := fun x_cap => f_is_number_D x_cap (.int 0) (.int 3)) h1 h2 (by omega)
    rw [E1] at h3
    simp -implicitDefEqProofs only [row_t, decide_eq_true (show (ds.length : Int) = vs.length by omega), andV_s, if_true, Option.bind_some, seqD_t, E3_s, E1, h3]
theorem put_bad {cs : List Int} {p : Int} {x : D} (hc : ∀ c ∈ cs, 0 ≤ c ∧ c ≤ 3) (hl : cs.length ≤ 4) (hp : 0 ≤ p ∧ p < cs.length) (hx : f_is_number_D x (.int 0) (.int 3) = some (.bl false)) : ∃ y, f__law_put_D (.tup (cs.map .int)) (.int p) x = some y ∧ BadC cs.length y := by
  refine ⟨_, put_eq hp.1 (by rw [List.length_map]; omega), .inr (.inr ⟨_, rfl, ?_, ?_, x, put_in, hx⟩)⟩
  · rw [put_len (by rw [List.length_map]; exact hp), List.length_map]
  · intro d hd
    rcases put_mem hd with rfl | hd
    · exact ⟨_, hx⟩
    · exact ⟨_, mem_int hc d hd⟩
theorem bad_counts {cs : List Int} {k p : Int} (hc : ∀ c ∈ cs, 0 ≤ c ∧ c ≤ 3) (hl : 1 ≤ cs.length ∧ cs.length ≤ 4) (hk : 0 ≤ k ∧ k ≤ 5) (hp : 0 ≤ p ∧ p < cs.length) : ∃ y, f__law_bad_counts_D (.tup (cs.map .int)) (.int k) (.int p) = some y ∧ BadC cs.length y := by
  unfold f__law_bad_counts_D
  rw [lt_c, iteO_s]
  by_cases h : k < 3
  · rw [if_pos (by simpa using h)]
    rcases (show k = 0 ∨ k = 1 ∨ k = 2 by omega) with rfl | rfl | rfl
    · exact put_bad (x := .int 4) hc hl.2 hp (by rw [num_i]; rfl)
    · exact put_bad (x := .int (-1)) hc hl.2 hp (by rw [num_i]; rfl)
    · exact put_bad (x := .bl true) hc hl.2 hp num_b
  · rw [if_neg (by simpa using h)]
    have e1 := add_t (xs := cs.map .int) (ys := [D.int 0]) (by simp; omega)
    rw [tup1, e1, SL_tl (by omega), list_t, E2_s, subD_i]
    rcases (show k = 3 ∨ k = 4 ∨ k = 5 by omega) with rfl | rfl | rfl
    · exact ⟨_, rfl, .inr (.inl ⟨_, rfl, by simp⟩)⟩
    · exact ⟨_, rfl, .inr (.inl ⟨_, rfl, by simp; omega⟩)⟩
    · exact ⟨_, rfl, .inl rfl⟩
/-! ### kinds -/
section
variable {vs : List Int}
theorem knd_t {k : List Int × Int} (hv : ∀ v ∈ vs, 1 ≤ v ∧ v ≤ 60) (hl : vs.length ≤ 4) (h1 : k.1.length = vs.length) (h2 : ∀ g ∈ k.1, 0 ≤ g ∧ g ≤ 3) (h3 : 0 ≤ k.2 ∧ k.2 ≤ worth vs k.1) : f_is_kind_D (.tup (vs.map .int)) (knD k) = some (.bl true) := by
  have h4 := all_t (f := fun x_count => f_is_number_D x_count (.int 0) (.int 3)) (mem_int h2) (by rw [List.length_map]; omega)
  have hs := sum_of_eq (vs := vs) (cs := k.1) (fun v h => by have := hv v h; omega) (by omega)
  have hr : f_is_row_D (knD k) (.int 2) = some (.bl true) := row_t
  rw [E1] at h4
  unfold f_is_kind_D
  simp -implicitDefEqProofs only [E1_s, o1_s, lenD_t, List.length_map, E2_s, hr, Option.bind_some, truD_b, notT_s, Bool.not_true, orT_s, Bool.false_eq_true, if_false, ixk0, ixk1, row_t, decide_eq_true (show (k.1.length : Int) = vs.length by omega), iteO_s, seqD_t, E3_s, E1, h4, hs, num_i, decide_eq_true h3]
theorem knd_r {y : D} (h : f_is_row_D y (.int 2) = some (.bl false)) : f_is_kind_D (.tup (vs.map .int)) y = some (.bl false) := by
  unfold f_is_kind_D
  simp -implicitDefEqProofs only [E2_s, h, Option.bind_some, truD_b, notT_s, Bool.not_false, orT_s, if_true, iteO_s]
theorem ixp0 {a b : D} : ixD (.tup [a, b]) (.int 0) = some a := rfl
theorem ixp1 {a b : D} : ixD (.tup [a, b]) (.int 1) = some b := rfl
theorem row2 {a b : D} : f_is_row_D (.tup [a, b]) (.int 2) = some (.bl true) := row_t
theorem row3 {a b c : D} : f_is_row_D (.tup [a, b, c]) (.int 3) = some (.bl true) := row_t
theorem knd_c {y p : D} (hv : vs.length ≤ 4) (hb : BadC vs.length y) : f_is_kind_D (.tup (vs.map .int)) (.tup [y, p]) = some (.bl false) := by
  unfold f_is_kind_D
  simp -implicitDefEqProofs only [E1_s, o1_s, lenD_t, List.length_map, E2_s, row2, Option.bind_some, truD_b, notT_s, Bool.not_true, orT_s, Bool.false_eq_true, if_false, ixp0]
  rcases hb with h | ⟨ds, rfl, h⟩ | ⟨ds, rfl, h, h1, h2⟩
  · simp -implicitDefEqProofs only [row_n h, Option.bind_some, truD_b, notT_s, Bool.not_false, if_true, iteO_s]
  · simp -implicitDefEqProofs only [row_t, decide_eq_false (show ¬ (ds.length : Int) = vs.length by omega), Option.bind_some, truD_b, notT_s, Bool.not_false, if_true, iteO_s]
  · have h3 := all_f (f := fun x_count => f_is_number_D x_count (.int 0) (.int 3)) h1 h2 (by omega)
    rw [E1] at h3
    simp -implicitDefEqProofs only [row_t, decide_eq_true (show (ds.length : Int) = vs.length by omega), Option.bind_some, truD_b, notT_s, Bool.not_true, Bool.false_eq_true, if_false, iteO_s, seqD_t, E3_s, E1, h3, Bool.not_false, if_true]
theorem knd_p {gs : List Int} {x : D} (hv : ∀ v ∈ vs, 1 ≤ v ∧ v ≤ 60) (hl : vs.length ≤ 4) (h1 : gs.length = vs.length) (h2 : ∀ g ∈ gs, 0 ≤ g ∧ g ≤ 3) (h3 : f_is_number_D x (.int 0) (.int (worth vs gs)) = some (.bl false)) : f_is_kind_D (.tup (vs.map .int)) (.tup [.tup (gs.map .int), x]) = some (.bl false) := by
  have h4 := all_t (f := fun x_count => f_is_number_D x_count (.int 0) (.int 3)) (mem_int h2) (by rw [List.length_map]; omega)
  have hs := sum_of_eq (vs := vs) (cs := gs) (fun v h => by have := hv v h; omega) (by omega)
  rw [E1] at h4
  unfold f_is_kind_D
  simp -implicitDefEqProofs only [E1_s, o1_s, lenD_t, List.length_map, E2_s, row2, Option.bind_some, truD_b, notT_s, Bool.not_true, orT_s, Bool.false_eq_true, if_false, ixp0, ixp1]
  simp -implicitDefEqProofs only [E2_s, Option.bind_some, truD_b, notT_s, Bool.not_true, orT_s, Bool.false_eq_true, if_false, row_t, List.length_map, decide_eq_true (show (gs.length : Int) = vs.length by omega), iteO_s, seqD_t, E3_s, E1, h4, hs, h3]
theorem bad_kind {gs : List Int} {p k a : Int} (hv : ∀ v ∈ vs, 1 ≤ v ∧ v ≤ 60) (hl : 1 ≤ vs.length ∧ vs.length ≤ 4) (h1 : gs.length = vs.length) (h2 : ∀ g ∈ gs, 0 ≤ g ∧ g ≤ 3) (hk : 0 ≤ k ∧ k ≤ 12) (ha : 0 ≤ a ∧ a < vs.length) :
    ∃ y, f__law_bad_kind_D (.tup (gs.map .int)) (.int p) (.int (worth vs gs)) (.int k) (.int a) = some y ∧ f_is_kind_D (.tup (vs.map .int)) y = some (.bl false) := by
  unfold f__law_bad_kind_D
  rw [lt_c, iteO_s]
  by_cases h6 : k < 6
  · rw [if_pos (by simpa using h6)]
    obtain ⟨y, ey, hy⟩ := bad_counts (cs := gs) (k := k) (p := a) h2 (by omega) (by omega) (by omega)
    rw [E3_s, ey, E2_s, o2_s, min2D_i, aC_s, aC_s, Option.bind_some, tupD_i (by simp)]
    exact ⟨_, rfl, knd_c hl.2 (h1 ▸ hy)⟩
  · rw [if_neg (by simpa using h6), lt_c, iteO_s]
    by_cases h10 : k < 10
    · rw [if_pos (by simpa using h10), E2_s, addD_i]
      have hx : ∃ x, (E2 ixD ((aC (some (.int (worth vs gs + 1))) (aC (E1 negD (some (D.int 1))) (aC (some (D.bl true)) (aC (some D.non) (some []))))).bind lstD) (E2 subD (some (.int k)) (some (D.int 6)))) = some x ∧ f_is_number_D x (.int 0) (.int (worth vs gs)) = some (.bl false) := by
        rw [E2_s, subD_i]
        rcases (show k = 6 ∨ k = 7 ∨ k = 8 ∨ k = 9 by omega) with rfl | rfl | rfl | rfl
        · exact ⟨_, rfl, by rw [num_i, decide_eq_false (by omega)]⟩
        · exact ⟨_, rfl, by rw [num_i, decide_eq_false (by omega)]⟩
        · exact ⟨_, rfl, num_b⟩
        · exact ⟨_, rfl, num_n⟩
      obtain ⟨x, ex, hx⟩ := hx
      rw [ex, aC_s, aC_s, Option.bind_some, tupD_i (by simp)]
      exact ⟨_, rfl, knd_p hv hl.2 h1 h2 hx⟩
    · rw [if_neg (by simpa using h10), E2_s, subD_i]
      rcases (show k = 10 ∨ k = 11 ∨ k = 12 by omega) with rfl | rfl | rfl
      · exact ⟨_, rfl, knd_r (row_n rfl)⟩
      · exact ⟨_, rfl, knd_r row_t⟩
      · exact ⟨_, rfl, knd_r (row_n rfl)⟩
end
/-! ### shops -/
theorem sh_row {y : D} (h : f_is_row_D y (.int 3) = some (.bl false)) : f_is_shop_D y = some (.bl false) := by
  unfold f_is_shop_D
  simp -implicitDefEqProofs only [E2_s, h, Option.bind_some, truD_b, notT_s, Bool.not_false, if_true, iteO_s]
theorem sh_coin {c p s : D} (h : f_is_coinage_D c (.int 4) = some (.bl false)) : f_is_shop_D (.tup [c, p, s]) = some (.bl false) := by
  unfold f_is_shop_D
  simp -implicitDefEqProofs only [E2_s, row3, un3_s, h, Option.bind_some, truD_b, notT_s, Bool.not_true, Bool.not_false, if_true, iteO_s, Bool.false_eq_true, if_false, orT_s]
theorem sh_caps {c p s : D} (h1 : f_is_coinage_D c (.int 4) = some (.bl true)) (h : f_are_caps_D c p = some (.bl false)) : f_is_shop_D (.tup [c, p, s]) = some (.bl false) := by
  unfold f_is_shop_D
  simp -implicitDefEqProofs only [E2_s, row3, un3_s, h1, h, Option.bind_some, truD_b, notT_s, Bool.not_true, Bool.not_false, if_true, iteO_s, Bool.false_eq_true, if_false, orT_s]
theorem sh_kn {c p s : D} (h1 : f_is_coinage_D c (.int 4) = some (.bl true)) (h2 : f_are_caps_D c p = some (.bl true)) (h : ntp s) : f_is_shop_D (.tup [c, p, s]) = some (.bl false) := by
  unfold ntp at h
  unfold f_is_shop_D
  simp -implicitDefEqProofs only [E1_s, E2_s, row3, un3_s, h1, h2, h, Option.bind_some, truD_b, notT_s, Bool.not_true, Bool.not_false, if_true, iteO_s, Bool.false_eq_true, if_false, orT_s]
theorem sh_kl {c p : D} {ds : List D} (h1 : f_is_coinage_D c (.int 4) = some (.bl true)) (h2 : f_are_caps_D c p = some (.bl true)) (h : ¬ (1 ≤ (ds.length : Int) ∧ (ds.length : Int) ≤ 5)) : f_is_shop_D (.tup [c, p, .tup ds]) = some (.bl false) := by
  unfold f_is_shop_D
  simp -implicitDefEqProofs only [E1_s, E2_s, row3, un3_s, h1, h2, isi_t, o1_s, lenD_t, ch_i, decide_eq_false h, getB_b, Option.bind_some, truD_b, notT_s, Bool.not_true, Bool.not_false, if_true, iteO_s, Bool.false_eq_true, if_false, orT_s]
theorem sh_all {c p : D} {ds : List D} {b : Bool} (h1 : f_is_coinage_D c (.int 4) = some (.bl true)) (h2 : f_are_caps_D c p = some (.bl true)) (h : 1 ≤ (ds.length : Int) ∧ (ds.length : Int) ≤ 5) (h3 : E1 (o1 allD) (LC (some ds) (fun _ => some true) (f_is_kind_D c)) = some (.bl b)) : f_is_shop_D (.tup [c, p, .tup ds]) = some (.bl b) := by
  have h4 : E1 (o1 allD) (LC (some ds) (fun _ => some true) (fun x_kind => E2 f_is_kind_D (some c) (some x_kind))) = some (.bl b) := h3
  rw [E1] at h4
  unfold f_is_shop_D
  simp -implicitDefEqProofs only [E1_s, E2_s, row3, un3_s, h1, h2, isi_t, o1_s, lenD_t, ch_i, decide_eq_true h, getB_b, Option.bind_some, truD_b, notT_s, Bool.not_true, Bool.not_false, if_true, iteO_s, Bool.false_eq_true, if_false, orT_s, seqD_t] at h4 ⊢
  rw [E1, h4]
theorem shop_t {vs caps : List Int} {ks : List (List Int × Int)} (h : ShopOk vs caps ks) : f_is_shop_D (shD vs caps ks) = some (.bl true) := by
  have h1 := List.length_pos_iff.mpr h.kne
  have h2 := h.klen
  refine sh_all (coin_t h.coins) (caps_t h.clen h.coins.len h.cbd) (by rw [List.length_map]; omega) (all_t (fun d hd => ?_) (by rw [List.length_map]; omega))
  obtain ⟨k, hk, rfl⟩ := List.mem_map.mp hd
  obtain ⟨a, b, c⟩ := h.kok k hk
  exact knd_t h.coins.bd h.coins.len a b c
/-! ### spoilt coins -/
theorem SL_hd' {ds : List D} {p : Int} (h : 0 ≤ p) : SL (some (.tup ds)) (some none) (Option.map some (getI (D.int p))) = some (.tup (ds.take p.toNat)) := SL_hd h
theorem SL_tl' {ds : List D} {p : Int} (h : 0 ≤ p) : SL (some (.tup ds)) (Option.map some (getI (D.int p))) (some none) = some (.tup (ds.drop p.toNat)) := SL_tl h
theorem SL_ng' {ds : List D} : SL (some (.tup ds)) (some none) (Option.map some ((negD (D.int 1)).bind getI)) = some (.tup (cutD ds none (some (-1)))) := rfl
def isN : D → Prop
  | .int i => -1000 ≤ i ∧ i ≤ 1000
  | .bl _ => True
  | _ => False
def iv : D → Int
  | .int i => i
  | .bl b => if b then 1 else 0
  | _ => 0
theorem int_n {d : D} (h : isN d) : intD [d] = some (.int (iv d)) ∧ -1000 ≤ iv d ∧ iv d ≤ 1000 := by
  cases d with
  | int i => exact ⟨rfl, h⟩
  | bl b => cases b <;> exact ⟨rfl, by decide⟩
  | _ => cases h
def dat (a : D) (n : Nat) : Prop := ∃ ds : List D, (a = .tup ds ∨ a = .lst ds) ∧ ds.length = n ∧ ∀ d ∈ ds, isN d
theorem dat_ix {a : D} {n : Nat} (h : dat a n) : ∃ w : Int → Int, ∀ k : Int, 0 ≤ k ∧ k < n → E1 (o1 intD) (E2 ixD (some a) (some (.int k))) = some (.int (w k)) ∧ -1000 ≤ w k ∧ w k ≤ 1000 := by
  obtain ⟨ds, ha, hl, hd⟩ := h
  refine ⟨fun k => iv (ds[k.toNat]?.getD .non), fun k hk => ?_⟩
  have e : ds[k.toNat]? = some ds[k.toNat] := List.getElem?_eq_getElem (by omega)
  have hix : ixD a (.int k) = some ds[k.toNat] := by
    rcases ha with rfl | rfl
    · rw [ixD_t hk.1, e]
    · rw [ixD_l hk.1, e]
  obtain ⟨h1, h2⟩ := int_n (hd ds[k.toNat] (List.getElem_mem _))
  rw [E2_s, hix, E1_s, o1_s, h1]
  simp only [e, Option.getD_some]
  exact ⟨trivial, h2⟩
theorem fit_step {a : D} {gs : List Int} {p : Int} {zs : List D} (h : dat a gs.length) (hl : gs.length ≤ 4) (hz : zs.length ≤ 100) : ∃ x, f__law_bad_coins_L1 a (.lst zs) (.tup (gs.map .int)) (.int p) = some (.lst (zs ++ [x])) := by
  obtain ⟨w, hw⟩ := dat_ix h
  have hr := rg1_s (n := gs.length) (by omega)
  have hlc := LC_tab (f := fun x_k => (E2 mulD (E1 (o1 intD) (E2 ixD (some a) (some x_k))) (E2 ixD (some (.tup (gs.map .int))) (some x_k)))) (n := gs.length) (h := fun k => w k * at0 gs k) (by omega) (fun k hk => by
    have h2 := ixD_rowT (ns := gs) (i := k) (by omega)
    obtain ⟨h3, h4⟩ := hw k hk
    rw [h3, E2_s, h2, E2_s, mulD_l (by omega)])
  have hs : E1 (o1 sumD) (some (.lst ((tab gs.length fun k => w k * at0 gs k).map .int))) = some (.int ((tab gs.length fun k => w k * at0 gs k).sum)) := by
    have := sum_map (xs := tab gs.length fun k => w k * at0 gs k) (f := fun i => i)
    rw [E1_s, o1_s]
    simpa using this
  unfold f__law_bad_coins_L1
  rw [E1_s, o1_s, lenD_t, List.length_map, aC_s, Option.bind_some, hr, hlc, hs, E2_s, o2_s, min2D_i, aC_s, aC_s, Option.bind_some, tupD_i (by simp), Option.bind_some, appD_i (by omega)]
  exact ⟨_, rfl⟩
theorem fit_all {a : D} {ks : List (List Int × Int)} {n : Nat} (h : dat a n) (hn : n ≤ 4) (hk : ks.length ≤ 5) (hg : ∀ k ∈ ks, k.1.length = n) : ∃ zs, forP (fun s2 => un2 ((f__law_bad_coins_L1 a) s2)) (.lst []) (ks.map knD) = some (.lst zs) := by
  obtain ⟨s', e, zs, rfl, hz⟩ := forP_inv (f := fun s2 => un2 ((f__law_bad_coins_L1 a) s2)) (g := knD) (fun ys s => ∃ zs : List D, s = .lst zs ∧ zs.length = ys.length) (xs := ks) (s := .lst []) (ys := []) ⟨[], rfl, rfl⟩ (by
    rintro ys x ws s e ⟨zs, rfl, hz⟩
    have hx : x ∈ ks := by rw [show ks = ys ++ x :: ws from e]; simp
    have hy : ys.length + (ws.length + 1) = ks.length := by rw [show ks = ys ++ x :: ws from e]; simp
    have hgx := hg x hx
    obtain ⟨y, ey⟩ := fit_step (a := a) (gs := x.1) (p := x.2) (zs := zs) (hgx ▸ h) (by omega) (by omega)
    exact ⟨.lst (zs ++ [y]), (show un2 (f__law_bad_coins_L1 a (.lst zs)) (knD x) = _ from by unfold knD; rw [un2_s]; exact ey), _, rfl, by simp [hz]⟩)
  exact ⟨zs, e⟩
theorem bad_coins {vs caps : List Int} {ks : List (List Int × Int)} {k p : Int} (hok : ShopOk vs caps ks) (hk : 0 ≤ k ∧ k ≤ 6) (hp : 0 ≤ p ∧ p < vs.length) :
    ∃ y, f__law_bad_coins_D (shD vs caps ks) (.int k) (.int p) = some y ∧ f_is_shop_D y = some (.bl false) := by
  have hv1 := List.length_pos_iff.mpr hok.coins.ne
  have hv4 := hok.coins.len
  have hbd := hok.coins.bd
  unfold f__law_bad_coins_D shD
  simp -implicitDefEqProofs only [Option.bind_some, un3_s, eq_c, iteO_s]
  by_cases h5 : k = 5
  · subst h5
    rw [if_pos (by rfl)]
    have hr : rg1D [D.int 5] = some ((rangeI 0 5).map .int) := rg1_s (by omega)
    have hlc := LC_tab (f := fun x_k => (E2 addD (E2 addD (some (D.int 1)) (some (.int p))) (E2 mulD (some (D.int 14)) (some x_k)))) (n := 5) (h := fun k => 1 + p + 14 * k) (by omega) (fun k hk => by
      simp -implicitDefEqProofs only [E2_s, addD_i, mulD_l (show -9223372036854775808 ≤ (14 : Int) ∧ (14 : Int) ≤ 9223372036854775807 by omega)])
    rw [aC_s, Option.bind_some, hr, hlc, E1_s, o1_s, tupleD_l]
    exact ⟨_, rfl, sh_coin (coin_l (by rw [List.length_map, tab_len]; omega))⟩
  rw [if_neg (by simpa using h5)]
  by_cases h6 : k = 6
  · subst h6
    rw [if_pos (by rfl)]
    exact ⟨_, rfl, sh_coin (coin_l (by simp))⟩
  rw [if_neg (by simpa using h6)]
  simp -implicitDefEqProofs only [E1_s, o1_s, lenD_t, List.length_map, eq_c, andT_s]
  by_cases h2 : k = 2
  · subst h2
    by_cases h1 : vs.length = 1
    · rw [if_pos (by rfl), iteO_s, if_pos (by simp [h1])]
      exact ⟨_, rfl, sh_coin (coin_2 (a := 5) (r := []) (by simp) (by simp))⟩
    · rw [if_pos (by rfl), iteO_s, if_neg (by simp; omega)]
      obtain ⟨a, r, rfl⟩ := List.exists_cons_of_ne_nil hok.coins.ne
      obtain ⟨b, r, rfl⟩ := List.exists_cons_of_ne_nil (l := r) (by rintro rfl; exact h1 rfl)
      have hb : ∀ v ∈ a :: r, 1 ≤ v ∧ v ≤ 60 := fun v hv => hbd v (by
        rcases List.mem_cons.mp hv with rfl | hv
        · simp
        · simp [hv])
      have hrl : r.length ≤ 2 := by simpa using hv4
      rw [if_pos (by rfl), SL_hd' (by omega), SL_tl' (by omega), add_t (by simp), add_t (by simp; omega)]
      have ha : D.tup (List.take (1 : Int).toNat (List.map D.int (a :: b :: r)) ++ List.take (1 : Int).toNat (List.map D.int (a :: b :: r)) ++ List.drop (2 : Int).toNat (List.map D.int (a :: b :: r))) = .tup ((a :: a :: r).map .int) := rfl
      rw [ha, Option.bind_some, Option.bind_some]
      obtain ⟨zs, ez⟩ := fit_all (a := .tup ((a :: a :: r).map .int)) (n := r.length + 2) ⟨_, .inl rfl, by simp, fun d hd => by
        obtain ⟨v, hv, rfl⟩ := List.mem_map.mp hd
        have := hb v (by simpa using hv)
        unfold isN; omega⟩ (by omega) hok.klen (fun k hk => by have := (hok.kok k hk).1; simpa using this)
      refine bstepY (lstD_i (by simp)) ?_
      rw [seqD_t, Option.bind_some, ez, Option.bind_some, tupleD_l]
      exact ⟨_, rfl, sh_coin (coin_2 hrl hb)⟩
  rw [if_neg (by simpa using h2), iteO_s, if_neg (by simp), if_neg (by simpa using h2)]
  have hlen : vs.map D.int ≠ [] := by simpa using hok.coins.ne
  have hisn : ∀ d ∈ vs.map D.int, isN d := fun d hd => by
    obtain ⟨v, hv, rfl⟩ := List.mem_map.mp hd
    have := hbd v hv
    unfold isN; omega
  have hnum := mem_int hbd
  have hc1 := cut_1 hlen
  rw [List.length_map] at hc1
  have hstep : ∃ x, (E2 ixD ((aC (listD [D.tup (vs.map .int)]) (aC (E2 addD ((aC (some (D.int 0)) (some [])).bind tupD) (SL (some (D.tup (vs.map .int))) (Option.map some (getI (D.int 1))) (some none))) (aC (tupD []) (aC (E2 addD (SL (some (D.tup (vs.map .int))) (some none) (Option.map some ((negD (D.int 1)).bind getI))) ((aC (some (D.int 61)) (some [])).bind tupD)) (aC (E2 addD ((aC (some (D.bl true)) (some [])).bind tupD) (SL (some (D.tup (vs.map .int))) (Option.map some (getI (D.int 1))) (some none))) (some [])))))).bind lstD) (some (.int k))) = some x ∧ dat x vs.length ∧ f_is_coinage_D x (.int 4) = some (.bl false) := by
    rw [SL_ng', SL_tl' (by omega), tup1, tup1, tup1, add_t (by simp; omega), add_t (by rw [List.length_singleton]; omega), add_t (by simp; omega), listD_t]
    rcases (show k = 0 ∨ k = 1 ∨ k = 3 ∨ k = 4 by omega) with rfl | rfl | rfl | rfl
    · exact ⟨_, rfl, ⟨_, .inr rfl, by simp, hisn⟩, coin_n rfl⟩
    · refine ⟨_, rfl, ⟨_, .inl rfl, by simp; omega, fun d hd => ?_⟩, coin_p (by simp; omega) (fun d hd => ?_) ⟨.int 0, by simp, by rw [num_i]; rfl⟩⟩
      · rcases List.mem_append.mp hd with hd | hd
        · have : d = .int 0 := by simpa using hd
          subst this; unfold isN; omega
        · exact hisn d (List.mem_of_mem_drop hd)
      · rcases List.mem_append.mp hd with hd | hd
        · have : d = .int 0 := by simpa using hd
          subst this; exact ⟨_, num_i⟩
        · exact ⟨_, hnum d (List.mem_of_mem_drop hd)⟩
    · refine ⟨_, rfl, ⟨_, .inl rfl, by rw [List.length_append, List.length_singleton]; omega, fun d hd => ?_⟩, coin_p (by rw [List.length_append, List.length_singleton]; omega) (fun d hd => ?_) ⟨.int 61, by simp, by rw [num_i]; rfl⟩⟩
      · rcases List.mem_append.mp hd with hd | hd
        · exact hisn d (cut_mem hd)
        · have : d = .int 61 := by simpa using hd
          subst this; unfold isN; omega
      · rcases List.mem_append.mp hd with hd | hd
        · exact ⟨_, hnum d (cut_mem hd)⟩
        · have : d = .int 61 := by simpa using hd
          subst this; exact ⟨_, num_i⟩
    · refine ⟨_, rfl, ⟨_, .inl rfl, by simp; omega, fun d hd => ?_⟩, coin_p (by simp; omega) (fun d hd => ?_) ⟨.bl true, by simp, num_b⟩⟩
      · rcases List.mem_append.mp hd with hd | hd
        · have : d = .bl true := by simpa using hd
          subst this; trivial
        · exact hisn d (List.mem_of_mem_drop hd)
      · rcases List.mem_append.mp hd with hd | hd
        · have : d = .bl true := by simpa using hd
          subst this; exact ⟨_, num_b⟩
        · exact ⟨_, hnum d (List.mem_of_mem_drop hd)⟩
  obtain ⟨x, ex, hx1, hx2⟩ := hstep
  rw [ex, Option.bind_some, Option.bind_some]
  obtain ⟨zs, ez⟩ := fit_all hx1 hv4 hok.klen (fun k hk => (hok.kok k hk).1)
  refine bstepY (lstD_i (by simp)) ?_
  rw [seqD_t, Option.bind_some, ez, Option.bind_some, tupleD_l]
  exact ⟨_, rfl, sh_coin hx2⟩
/-! ### spoilt shops -/
theorem put_kinds {vs caps : List Int} {ks : List (List Int × Int)} {j : Int} {bad : D} (hok : ShopOk vs caps ks) (hj : 0 ≤ j ∧ j < ks.length) (hb : f_is_kind_D (.tup (vs.map .int)) bad = some (.bl false)) : f_is_shop_D (.tup [.tup (vs.map .int), .tup (caps.map .int), .tup ((ks.map knD).take j.toNat ++ [bad] ++ (ks.map knD).drop (j + 1).toNat)]) = some (.bl false) := by
  have h1 := List.length_pos_iff.mpr hok.kne
  have h2 := hok.klen
  have hl := put_len (ds := ks.map knD) (p := j) (x := bad) (by rw [List.length_map]; exact hj)
  rw [List.length_map] at hl
  refine sh_all (coin_t hok.coins) (caps_t hok.clen hok.coins.len hok.cbd) (by rw [hl]; omega) (all_f (fun d hd => ?_) ⟨bad, put_in, hb⟩ (by rw [hl]; omega))
  rcases put_mem hd with rfl | hd
  · exact ⟨_, hb⟩
  · obtain ⟨k, hk, rfl⟩ := List.mem_map.mp hd
    obtain ⟨a, b, c⟩ := hok.kok k hk
    exact ⟨_, knd_t hok.coins.bd hok.coins.len a b c⟩
theorem spoilt {vs caps row : List Int} {ks : List (List Int × Int)} (hok : ShopOk vs caps ks) (hr : 64 ≤ row.length) :
    ∃ y, f__law_spoilt_D (shD vs caps ks) (.lst (row.map .int)) (.int 61) = some y ∧ f_is_shop_D y = some (.bl false) := by
  have hv1 := List.length_pos_iff.mpr hok.coins.ne
  have hv4 := hok.coins.len
  have hk1 := List.length_pos_iff.mpr hok.kne
  have hk5 := hok.klen
  have hct := coin_t hok.coins
  have hcp := caps_t hok.clen hv4 hok.cbd
  have i1 := ixD_row (ns := row) (i := 61) (by omega)
  have i2 := ixD_row (ns := row) (i := 61 + 1) (by omega)
  have i3 := ixD_row (ns := row) (i := 61 + 2) (by omega)
  have b1 := emod_bd (at0 row 61) 35 (by omega)
  have b2 := emod_bd (at0 row (61 + 1)) vs.length (by omega)
  have b3 := emod_bd (at0 row (61 + 2)) ks.length (by omega)
  have e1 : E2 modD (E1 (o1 intD) (E2 ixD (some (.lst (row.map .int))) (some (.int 61)))) (some (D.int 35)) = some (.int (at0 row 61 % 35)) := by
    rw [E2_s, i1, E1_s, o1_s, intD_i, E2_s, modD_i (by omega)]
  have e2 : E2 modD (E1 (o1 intD) (E2 ixD (some (.lst (row.map .int))) (E2 addD (some (.int 61)) (some (D.int 1))))) (E1 (o1 lenD) (some (.tup (vs.map .int)))) = some (.int (at0 row (61 + 1) % vs.length)) := by
    rw [E2_s, addD_i, E2_s, i2, E1_s, o1_s, intD_i, E1_s, o1_s, lenD_t, List.length_map, E2_s, modD_i (by omega)]
  have e3 : E2 modD (E1 (o1 intD) (E2 ixD (some (.lst (row.map .int))) (E2 addD (some (.int 61)) (some (D.int 2))))) (E1 (o1 lenD) (some (.tup (ks.map knD)))) = some (.int (at0 row (61 + 2) % ks.length)) := by
    rw [E2_s, addD_i, E2_s, i3, E1_s, o1_s, intD_i, E1_s, o1_s, lenD_t, List.length_map, E2_s, modD_i (by omega)]
  generalize at0 row 61 % 35 = k at *
  generalize at0 row (61 + 1) % vs.length = p at *
  generalize at0 row (61 + 2) % ks.length = j at *
  obtain ⟨kd, hkd, _, ix⟩ := kx (ks := ks) (k := j) b3
  obtain ⟨g1, g2, g3⟩ := hok.kok kd hkd
  have hbc := fun k (hk : 0 ≤ k ∧ k ≤ 6) => bad_coins (k := k) hok hk b2
  have hun : ∀ {α : Type} (f : D → D → D → Option α), (some (shD vs caps ks)).bind (un3 f) = f (.tup (vs.map .int)) (.tup (caps.map .int)) (.tup (ks.map knD)) := fun f => rfl
  have hun2 : ∀ {α : Type} (f : D → D → Option α), (some (knD kd)).bind (un2 f) = f (.tup (kd.1.map .int)) (.int kd.2) := fun f => rfl
  unfold f__law_spoilt_D
  rw [hun, e1, Option.bind_some, e2, Option.bind_some, e3, Option.bind_some, E2_s, ix, hun2, lt_c, iteO_s]
  by_cases h6 : k < 6
  · rw [if_pos (by simpa using h6)]
    rcases (show k = 0 ∨ k = 1 ∨ k = 2 ∨ k = 3 ∨ k = 4 ∨ k = 5 by omega) with rfl | rfl | rfl | rfl | rfl | rfl
    · exact ⟨_, rfl, sh_row (row_n rfl)⟩
    · exact ⟨_, rfl, sh_row (row_n rfl)⟩
    · exact ⟨_, rfl, sh_row (row_n rfl)⟩
    · exact ⟨_, rfl, sh_row (row_n rfl)⟩
    · exact ⟨_, rfl, sh_row row_t⟩
    · exact ⟨_, rfl, sh_row row_t⟩
  rw [if_neg (by simpa using h6), lt_c, iteO_s]
  by_cases h13 : k < 13
  · rw [if_pos (by simpa using h13), E2_s, subD_i]
    exact hbc (k - 6) (by omega)
  rw [if_neg (by simpa using h13), lt_c, iteO_s]
  by_cases h19 : k < 19
  · rw [if_pos (by simpa using h19), E2_s, subD_i]
    have hcl := hok.clen
    obtain ⟨y, ey, hy⟩ := bad_counts (cs := caps) (k := k - 13) (p := p) hok.cbd (by omega) (by omega) (by omega)
    rw [E3_s, ey, aC_s, aC_s, aC_s, Option.bind_some, tupD_i (by simp)]
    exact ⟨_, rfl, sh_caps hct (caps_f hv4 (hcl ▸ hy))⟩
  rw [if_neg (by simpa using h19), lt_c, iteO_s]
  by_cases h21 : k < 21
  · rw [if_pos (by simpa using h21), E2_s, subD_i]
    rcases (show k = 19 ∨ k = 20 by omega) with rfl | rfl
    · exact ⟨_, rfl, sh_kl hct hcp (by simp)⟩
    · exact ⟨_, rfl, sh_kn hct hcp rfl⟩
  rw [if_neg (by simpa using h21), eq_c, iteO_s]
  by_cases h22 : k = 21
  · rw [if_pos (by simpa using h22)]
    rw [add_t (by simp; omega), add_t (by simp; omega), add_t (by simp; omega), add_t (by simp; omega), add_t (by simp; omega), Option.bind_some, SL_hd (by omega), aC_s, aC_s, aC_s, Option.bind_some, tupD_i (by simp)]
    exact ⟨_, rfl, sh_kl hct hcp (by simp; omega)⟩
  rw [if_neg (by simpa using h22)]
  have hw := lworth_eq (vs := vs) (cs := kd.1) (fun v h => by have := hok.coins.bd v h; omega) (by omega) g1
  obtain ⟨y, ey, hy⟩ := bad_kind (vs := vs) (gs := kd.1) (p := kd.2) (k := k - 22) (a := p) hok.coins.bd ⟨hv1, hv4⟩ g1 g2 (by omega) b2
  have e5 : E5 f__law_bad_kind_D (some (.tup (kd.1.map .int))) (some (.int kd.2)) (E2 f__law_worth_k29_D (some (.tup (vs.map .int))) (some (.tup (kd.1.map .int)))) (E2 subD (some (.int k)) (some (D.int 22))) (some (.int p)) = some y := by
    rw [worth29, E2_s, hw, E2_s, subD_i]; exact ey
  have hput := put_eq (ds := ks.map knD) (p := j) (x := y) b3.1 (by rw [List.length_map]; omega)
  rw [e5, Option.bind_some, E3_s, hput, aC_s, aC_s, aC_s, Option.bind_some, tupD_i (by simp)]
  exact ⟨_, rfl, put_kinds hok b3 hy⟩
/-! ### the greatest shop -/
theorem worth3 : ∀ vs : List Int, worth vs (vs.map fun _ => 3) = 3 * vs.sum
  | [] => rfl
  | v :: vs => by
    have := worth3 vs
    unfold worth at this ⊢
    rw [List.map_cons, List.zip_cons_cons, List.map_cons, List.sum_cons, this, List.sum_cons]
    omega
theorem great {vs caps : List Int} {ks : List (List Int × Int)} (hok : ShopOk vs caps ks) :
    ∃ y, f__law_greatest_D (shD vs caps ks) = some y ∧ f_is_shop_D y = some (.bl true) := by
  have hv1 := List.length_pos_iff.mpr hok.coins.ne
  have hv4 := hok.coins.len
  have hk1 := List.length_pos_iff.mpr hok.kne
  have hk5 := hok.klen
  have hb : ∀ v ∈ vs, 1 ≤ v ∧ v ≤ 1000000 := fun v h => by have := hok.coins.bd v h; omega
  have hloop : forP (fun s1 => un2 ((f__law_greatest_L1 (.tup (vs.map .int))) s1)) (.lst []) (ks.map knD) = some (.lst ((ks.map fun k => (k.1, worth vs k.1)).map knD)) := by
    obtain ⟨s', e, rfl⟩ := forP_inv (f := fun s1 => un2 ((f__law_greatest_L1 (.tup (vs.map .int))) s1)) (g := knD) (fun ys s => s = .lst ((ys.map fun k => (k.1, worth vs k.1)).map knD)) (xs := ks) (s := .lst []) (ys := []) rfl (by
      rintro ys x ws s e rfl
      have hx : x ∈ ks := by rw [show ks = ys ++ x :: ws from e]; simp
      have hy : ys.length + (ws.length + 1) = ks.length := by rw [show ks = ys ++ x :: ws from e]; simp
      have hw := lworth_eq (vs := vs) (cs := x.1) hb (by omega) (hok.kok x hx).1
      refine ⟨_, ?_, rfl⟩
      unfold knD f__law_greatest_L1
      rw [un2_s, worth29, E2_s, hw, aC_s, aC_s, Option.bind_some, tupD_i (by simp), Option.bind_some, appD_i (by simp; omega), List.map_append, List.map_append]
      rfl)
    exact e
  have hx0 : E2 ixD (some (shD vs caps ks)) (some (D.int 0)) = some (.tup (vs.map .int)) := rfl
  have hx2 : E2 ixD (some (shD vs caps ks)) (some (D.int 2)) = some (.tup (ks.map knD)) := rfl
  have hfull : E1 (o1 tupleD) (LC (some (vs.map .int)) (fun _ => some true) (fun _ => some (D.int 3))) = some (.tup ((vs.map fun _ => (3 : Int)).map .int)) := by
    have := LC_map (f := fun _ => some (D.int 3)) (g := D.int) (h := fun _ => D.int 3) (xs := vs) (fun _ _ => rfl) (by omega)
    rw [this, E1_s, o1_s, tupleD_l, List.map_map]; rfl
  have hm : E2 mulD (some (D.int 3)) (E1 (o1 sumD) (some (.tup (vs.map .int)))) = some (.int (3 * vs.sum)) := by
    rw [E1_s, o1_s, sumD_nt, E2_s, mulD_l (by omega)]
  unfold f__law_greatest_D
  rw [hx0, Option.bind_some]
  refine bstepY (lstD_i (by simp)) ?_
  rw [hx2, Option.bind_some, seqD_t, Option.bind_some, hloop, Option.bind_some, show (some (D.tup (vs.map D.int))).bind seqD = some (vs.map D.int) from rfl, hfull, Option.bind_some, hm, aC_s, aC_s, Option.bind_some, tupD_i (by simp), Option.bind_some, aC_s, aC_s, aC_s, aC_s, Option.bind_some, lstD_i (by simp)]
  have hcat : ∀ xs ys : List D, xs.length + ys.length ≤ 100 → E2 catD (some (.lst xs)) (some (.lst ys)) = some (.lst (xs ++ ys)) := fun xs ys h => by
    rw [E2_s]
    simp only [catD]
    rw [if_pos (by omega)]
  rw [hcat _ _ (by simp; omega), SL_hl (by omega), Option.bind_some, E1_s, o1_s, tupleD_l, aC_s, aC_s, aC_s, Option.bind_some, tupD_i (by simp)]
  refine ⟨_, rfl, ?_⟩
  have hkk : ((ks.map fun k => (k.1, worth vs k.1)).map knD ++ [D.tup [.tup ((vs.map fun _ => (3 : Int)).map .int), .int (3 * vs.sum)], D.tup [.tup ((vs.map fun _ => (3 : Int)).map .int), .int (3 * vs.sum)], D.tup [.tup ((vs.map fun _ => (3 : Int)).map .int), .int (3 * vs.sum)], D.tup [.tup ((vs.map fun _ => (3 : Int)).map .int), .int (3 * vs.sum)]]).take (5 : Int).toNat
      = ((((ks.map fun k => (k.1, worth vs k.1)) ++ List.replicate 4 (vs.map fun _ => (3 : Int), 3 * vs.sum)).take 5).map knD) := by
    rw [List.map_take, List.map_append]; rfl
  rw [hkk]
  have hv0 : ∀ v ∈ vs, 1 ≤ v := fun v h => (hb v h).1
  refine shop_t (vs := vs) (caps := vs.map fun _ => (3 : Int)) ⟨hok.coins, by simp, fun c hc => ?_, ?_, ?_, fun k hk => ?_⟩
  · obtain ⟨_, _, rfl⟩ := List.mem_map.mp hc
    omega
  · intro h0
    have := congrArg List.length h0
    simp at this
  · rw [List.length_take]; omega
  · have hk := List.mem_of_mem_take hk
    rcases List.mem_append.mp hk with hk | hk
    · obtain ⟨x, hx, rfl⟩ := List.mem_map.mp hk
      obtain ⟨a, b, _⟩ := hok.kok x hx
      exact ⟨a, b, worth_nn hv0 a fun g hg => (b g hg).1, Int.le_refl _⟩
    · obtain ⟨_, rfl⟩ := List.mem_replicate.mp hk
      have h3 : ∀ g ∈ (vs.map fun _ => (3 : Int)), 0 ≤ g ∧ g ≤ 3 := fun c hc => by
        obtain ⟨_, _, rfl⟩ := List.mem_map.mp hc
        omega
      refine ⟨by simp, h3, ?_, ?_⟩
      · rw [← worth3]; exact worth_nn hv0 (by simp) fun g hg => (h3 g hg).1
      · rw [worth3]; exact Int.le_refl _
/-! ### the law -/
theorem told_1 {y : D} (h : f_is_shop_D y = some (.bl false)) : f__law_told_D y = some (.int 1) := by
  unfold f__law_told_D f_check_shop_T
  rw [E1_s, h, Option.bind_some, truD_b, notT_s, Option.bind_some]; rfl
theorem told_0 {y : D} (h : f_is_shop_D y = some (.bl true)) : f__law_told_D y = some (.int 0) := by
  unfold f__law_told_D f_check_shop_T
  rw [E1_s, h, Option.bind_some, truD_b, notT_s, Option.bind_some]; rfl
theorem L1_go {y : D} {i : Int} (h : f__law_told_D y = some (.int i)) : un2 (f_law_L1 ()) (.tup [y, .int i]) = some (.go ()) := by
  rw [un2_s]
  unfold f_law_L1
  rw [E1_s, h, E2_s]
  simp -implicitDefEqProofs
theorem law_true (ns : List Int) (hns : ns.length ≤ 63) : f_law_D (.scr ns) = some (.bl true) := by
  obtain ⟨row, hr, hrl, _⟩ := row_spec ns 65 (by omega)
  have hrl : row.length = 65 := hrl
  obtain ⟨vs, caps, ks, hsh, hok⟩ := full_spec (row := row) (by omega)
  obtain ⟨bad, eb, hb⟩ := spoilt (row := row) hok (by omega)
  obtain ⟨gr, eg, hg⟩ := great hok
  have hgood := shop_t hok
  unfold f_law_D
  refine bs2 hr (bs2 hsh ?_)
  rw [E3_s, eb, Option.bind_some, E1_s, eg]
  generalize shD vs caps ks = good at *
  have htup : ((aC ((aC (some bad) (aC (some (D.int 1)) (some []))).bind tupD) (aC ((aC (some good) (aC (some (D.int 0)) (some []))).bind tupD) (aC ((aC (some bad) (aC (some (D.int 1)) (some []))).bind tupD) (aC ((aC (some gr) (aC (some (D.int 0)) (some []))).bind tupD) (some []))))).bind tupD).bind seqD = some ([(bad, (1 : Int)), (good, 0), (bad, 1), (gr, 0)].map fun p => D.tup [p.1, .int p.2]) := rfl
  rw [htup, Option.bind_some, forR_all (fun p hp => ?_)]
  · rfl
  · refine L1_go (y := p.1) (i := p.2) ?_
    simp only [List.mem_cons, List.not_mem_nil, or_false] at hp
    rcases hp with rfl | rfl | rfl | rfl
    · exact told_1 hb
    · exact told_0 hgood
    · exact told_1 hb
    · exact told_0 hg
end k28
end DL
set_option autoImplicit false
set_option maxRecDepth 100000
set_option maxHeartbeats 4000000
namespace DL
open PySem PySem.Spec PySem.SeqAt PyProof.Rows L2
/-! ### a comprehension over the keys of a dict: the dict is locked while it runs -/
section
variable {X : Cx} {tg e : Expr} {td : TE}
def iKeysL (X : Cx) (td : TE) : TI := fun σ H R => td σ H fun x H1 => (∃ d kvs, x = .ref d ∧ ((∃ o, H1 d = some (.frz o (.dK kvs)) ∧ R (Itk d o kvs) H1) ∨
  (H1 d = some (.dK kvs) ∧ ((∀ o' u', X.H_0 d ≠ some (.frz o' u')) → ∀ od, R (Itk d od kvs) (L2.upd H1 d (.frz od (.dK kvs))))))) ∨
  (∃ d kvs, x = .ref d ∧ ((∃ o, H1 d = some (.frz o (.dT kvs)) ∧ R (Itkt d o kvs) H1) ∨
  (H1 d = some (.dT kvs) ∧ ((∀ o' u', X.H_0 d ≠ some (.frz o' u')) → ∀ od, R (Itkt d od kvs) (L2.upd H1 d (.frz od (.dT kvs)))))))
theorem pi_keysL (he : PE X e td) : PI X tg e (iKeysL X td) := by
  refine ⟨fun pins s σ H R I h => ?_⟩
  refine thn (he.run pins s σ H _ I h) fun u s1 ⟨x, H1, I1, rx, q0⟩ => ?_
  rcases q0 with ⟨d, kvs, ex, q⟩ | ⟨d, kvs, ex, q⟩
  · subst ex
    obtain rfl : u = Value.ref d := rx
    have fin : ∀ (o : Obj) (H2 : Hp), Inv X pins σ H2 s1 → H2 d = some (.frz o (.dK kvs)) → R (Itk d o kvs) H2 → wpAny (model X.prog X.w) X.A (pyIter (.ref d)) (PIE X pins σ tg R) X.xe s1 := fun o H2 I2 hd q => by
      obtain ⟨hs, hgd, hx, es, ep, vs, hdt, hsz, kv, hm⟩ := I2.frzK hd
      refine iter_keys hs hgd hx hdt (pi_one (tk := s1.toks) I2 _ (turn_keys _ hdt) ⟨_, Heap.get?_push_size _ rfl, rfl, ?_⟩ q)
      rw [hsz] <;> rfl
    rcases q with ⟨o, hd, q⟩ | ⟨hd, q⟩
    · exact fin o H1 I1 hd q
    · obtain ⟨od, I2⟩ := I1.lock hd trivial
      exact fin od _ I2 upd_same (q (I1.nofrz hd trivial) od)
  · subst ex
    obtain rfl : u = Value.ref d := rx
    have fin : ∀ (o : Obj) (H2 : Hp), Inv X pins σ H2 s1 → H2 d = some (.frz o (.dT kvs)) → R (Itkt d o kvs) H2 → wpAny (model X.prog X.w) X.A (pyIter (.ref d)) (PIE X pins σ tg R) X.xe s1 := fun o H2 I2 hd q => by
      obtain ⟨hs, hgd, hx, es, ep, hdt, hsz, ent⟩ := I2.frzT hd
      refine iter_keys hs hgd hx hdt (pi_one (tk := s1.toks) I2 _ (turn_keysT _ hdt) ⟨_, Heap.get?_push_size _ rfl, rfl, ?_⟩ q)
      rw [hsz] <;> rfl
    rcases q with ⟨o, hd, q⟩ | ⟨hd, q⟩
    · exact fin o H1 I1 hd q
    · obtain ⟨od, I2⟩ := I1.lock hd trivial
      exact fin od _ I2 upd_same (q (I1.nofrz hd trivial) od)
def tUnl (X : Cx) (t : TE) : TE := fun σ H Q => t σ H fun v H' => Q v H' ∨ ∃ d od u, H' d = some (.frz od u) ∧ (∀ o' u', X.H_0 d ≠ some (.frz o' u')) ∧ Q v (L2.upd H' d u)
theorem pe_unl {t : TE} (h : PE X e t) : PE X e (tUnl X t) := by
  refine ⟨fun pins s σ H Q I hw => ?_⟩
  refine thn (h.run pins s σ H _ I hw) fun v s1 ⟨x, H1, I2, r, q⟩ => ?_
  rcases q with q | ⟨d, od, u, e2, hn, q⟩
  · exact ⟨x, _, I2, r, q⟩
  · exact ⟨x, _, I2.unlock e2 hn, r, q⟩
end
section
variable {G : GX} {L : LX} {ρ : List Sl} {tg iter elt : Expr} {ifs : List Expr} {scope : Scope} {own : List (Str × Nat)} {pos : Pos} {g : TGD} {nt : D → Option Bool} {f : D → Option D} {md : Option D}
/-- the reading of a comprehension from where its iterator stands -/
theorem lc_tail {K : PySem.W.Frag} {σ : L2.St} {F H : Hp} {Q : VK} {vs : List Nat} {J : It} {ds : List D} {d : D} (hv : ∀ d as, g d = some as → ∀ i ∈ as.map (·.1), i ∈ vs) (h0 : ∀ d, g d = none → nt d = none) (vr : VR K ρ σ F H) (w : WalkD K J F H ds) (h : LC (some ds) nt f = some d)
    (q : ∀ p o F' H', Ext F H F' H' → H p = none → H' p = some o → OwnO K F' d o → F' p = none → Q (.ref p) H') :
    ∀ D, H D = none → ∃ W : Nat → Nat → Hp → Prop, (∃ m, W 0 m (L2.upd H D (.lst []))) ∧ ∀ i m H, W i m H →
      (J.stop i H ∧ Q (.ref D) H) ∨ (J.go i H ∧ ∃ Nx : Hp → Prop, (∀ H', Nx H' → ∃ m', m' < m ∧ W (i + 1) m' H') ∧ ∀ x H', J.yld i H x H' → tG K g x (wipe σ vs) H' fun σ2 H2 => wipe σ2 vs = wipe σ vs ∧ tsD K ρ vs g nt σ2 H2 fun b H3 =>
        if b = true then teD K ρ vs g f σ2 H3 fun y H4 => ∃ acc, H4 D = some (.lst acc) ∧ acc.length < sizeLine ∧ Nx (L2.upd H4 D (.lst (acc ++ [y]))) else Nx H3) := by
  obtain ⟨all, ea, el⟩ := Option.bind_eq_some_iff.mp h
  have ea : lcD nt f ds = some all := ea
  unfold lstD at el
  split at el
  rotate_left
  · cases el
  rename_i hlen
  cases el
  intro D hD
  have x1 : Ext F H F H := .refl vr.sub
  have fD : F D = none := x1.sub.none hD
  refine ⟨fun i m H2 => m = ds.length - i ∧ i ≤ ds.length ∧ ∃ F2 acc rest vacc, Ext F H F2 H2 ∧ F2 D = none ∧ H2 D = some (.lst vacc) ∧ Reps K F2 acc vacc ∧ lcD nt f (ds.drop i) = some rest ∧ all = acc ++ rest,
    ⟨_, rfl, Nat.zero_le _, F, [], all, [], .own x1.sub hD, fD, upd_same, .nil, ea, rfl⟩, ?_⟩
  rintro i m H2 ⟨rfl, hi, F2, acc, rest, vacc, x2, fD2, hD2, rv, er, eall⟩
  by_cases hlt : i < ds.length
  · refine .inr ⟨w.goes i F2 H2 hlt x2.froz x2.sub (.ext x1.sub x2.heap), fun H' => i + 1 ≤ ds.length ∧ ∃ F2 acc rest vacc, Ext F H F2 H' ∧ F2 D = none ∧ H' D = some (.lst vacc) ∧ Reps K F2 acc vacc ∧ lcD nt f (ds.drop (i + 1)) = some rest ∧ all = acc ++ rest,
      fun H' ⟨h1, h2⟩ => ⟨_, by omega, rfl, h1, h2⟩, fun x H3 y3 => ?_⟩
    have hd : ds[i]? = some ds[i] := List.getElem?_eq_getElem hlt
    rw [List.drop_eq_getElem_cons hlt] at er
    generalize ds[i] = dd at hd er
    obtain ⟨F3, x3, r3⟩ := w.yields i F2 H2 x H3 dd x2.froz x2.sub (.ext x1.sub x2.heap) hd y3
    have hD3 := x3.heap _ _ hD2
    have fD3 : ∀ {F4 H4}, Ext F2 H2 F4 H4 → F4 D = none := fun {F4 H4} x4 => x4.stay fD2 hD2 fun vs z => nomatch z
    obtain ⟨b, eb, cases_⟩ := lcD_cons er
    -- the target
    cases eg : g dd with
    | none => rw [h0 dd eg] at eb; cases eb
    | some as =>
      refine ⟨F3, dd, as, x3.sub, r3, eg, fun ws hw => ⟨?_, ?_⟩⟩
      · rw [wipe_many _ _ _ (hv dd as eg), wipe_wipe]
      · have vr3 : VR K (setAll (wipeS ρ vs) as) (setMany (wipe σ vs) (as.map (·.1)) ws) F3 H3 := VR.setMany as ws ((vr.ext ((x1.trans x2).trans x3)).wipe vs) hw
        refine ⟨dd, as, eg, F3, b, eb, vr3, fun F4 H4 x4 => ?_⟩
        rcases cases_ with ⟨rfl, y, ys, ey, eys, rfl⟩ | ⟨rfl, er⟩
        · rw [if_pos rfl]
          refine ⟨dd, as, eg, F4, y, ey, vr3.ext x4, fun v F5 H5 x5 r5 => ?_⟩
          have xx := (x3.trans x4).trans x5
          have hD5 := xx.heap _ _ hD2
          have fD5 := fD3 xx
          refine ⟨vacc, hD5, ?_, hlt, F5, acc ++ [y], ys, vacc ++ [v], ?_, fD5, upd_same, (Reps.mono xx.froz _ _ rv).append (.cons r5 .nil), eys, by rw [eall, List.append_assoc]; rfl⟩
          · rw [← rv.len, sizeLine_eq]
            rw [eall, List.length_append, List.length_cons] at hlen
            omega
          · have x6 := x2.trans xx
            refine ⟨fun b o e => ?_, x6.froz, fun b o e => ?_, x6.new⟩
            · rw [upd_ne (fun z => by subst z; rw [hD] at e; cases e)]; exact x6.heap b o e
            · rw [upd_ne (fun z => by subst z; rw [fD5] at e; cases e)]; exact x6.sub b o e
        · rw [if_neg Bool.false_ne_true]
          have xx := x3.trans x4
          exact ⟨hlt, F4, acc, rest, vacc, x2.trans xx, fD3 xx, xx.heap _ _ hD2, Reps.mono xx.froz _ _ rv, er, eall⟩
  · have hi' : i = ds.length := by omega
    subst hi'
    rw [List.drop_length] at er
    cases er
    rw [List.append_nil] at eall
    subst eall
    refine .inl ⟨w.stops F2 H2 x2.froz x2.sub (.ext x1.sub x2.heap), ?_⟩
    have x6 := x1.trans x2
    exact q D (.lst vacc) F2 H2 x6 (x1.heap.free hD) hD2 ⟨vacc, rfl, rv⟩ fD2
theorem vr_lock {K : PySem.W.Frag} {σ : L2.St} {F H : Hp} {a : Addr} {u : HO} {od : Obj} (vr : VR K ρ σ F H) (hF : F a = some u) (hu : ∀ vs, u ≠ .tup vs) : VR K ρ σ F (L2.upd H a (.frz od u)) := by
  refine ⟨fun b o e => ?_, vr.len, vr.vals, fun i d h => ?_⟩
  · by_cases hb : b = a
    · subst hb
      rw [hF] at e; cases e
      exact .inr ⟨hu, od, upd_same⟩
    · rw [upd_ne hb]; exact vr.sub b o e
  · obtain ⟨p, o, a1, a2, a3, a4⟩ := vr.owns i d h
    have : p ≠ a := fun z => by subst z; rw [hF] at a4; cases a4
    exact ⟨p, o, a1, by rw [upd_ne this]; exact a2, a3, a4⟩
theorem ext_unl {F H F' H' : Hp} {a : Addr} {u : HO} {od : Obj} (hF : F a = some u) (hH : H a = some u) (x : Ext F (L2.upd H a (.frz od u)) F' H') : Ext F H F' (L2.upd H' a u) := by
  refine ⟨fun b o e => ?_, x.froz, fun b o e => ?_, fun b o e n => ?_⟩
  · by_cases hb : b = a
    · subst hb
      rw [hH] at e; cases e; exact upd_same
    · rw [upd_ne hb]; exact x.heap b o (by rw [upd_ne hb]; exact e)
  · by_cases hb : b = a
    · subst hb
      rw [x.froz _ _ hF] at e; cases e
      exact .inl upd_same
    · rw [upd_ne hb]; exact x.sub b o e
  · have hb : b ≠ a := fun z => by subst z; rw [hF] at n; cases n
    have := x.new b o e n
    rwa [upd_ne hb] at this
theorem f_lck (he : EOk G L ρ iter md) (h : LcOk G L ρ tg elt ifs scope own g nt f) (hs : ∀ env x, foldedSetIterable iter env x = pure x := by intro _ _; rfl) :
    FOk G L ρ (.ListComp elt [⟨tg, iter, ifs, 0⟩] scope pos) (LC (md.bind keysD) nt f) := fun X hX =>
  wkE (pe_unl (pe_lc (own := own) (g := tG G.K g) (tt := tsD G.K ρ (own.map (·.2)) g nt) (te := teD G.K ρ (own.map (·.2)) g f) hX.calm (by rw [hX.hN]; exact hX.nd) (pi_keysL (he X hX)) (blkOk_by (by rw [hX.hN, hX.hsc]; exact h.blk))
    (fun s H C cl fp => h.tgt _ (hX.blk s H scope C cl fp))
    (fun s H C cl fp => ⟨fun pins s' σ H' Q I ⟨d, as, eg, q⟩ => (h.ifs d as eg _ (hX.blk s H scope C cl fp)).run pins s' σ H' Q I q⟩)
    (fun s H C cl fp => ⟨fun pins s' σ H' Q I ⟨d, as, eg, q⟩ => (h.elt d as eg _ (hX.blk s H scope C cl fp)).run pins s' σ H' Q I q⟩) (hs _))) fun σ H Q ⟨F, dd, em, vr, q⟩ => by
    obtain ⟨all, ea, el⟩ := Option.bind_eq_some_iff.mp em
    obtain ⟨ds, emi, ea⟩ := Option.bind_eq_some_iff.mp ea
    obtain ⟨y, ey, ek⟩ := Option.bind_eq_some_iff.mp emi
    have em' : LC (some ds) nt f = some dd := by
      show ((some ds).bind (lcD nt f)).bind lstD = _
      rw [Option.bind_some, ea]; exact el
    cases y with
    | dI kvs =>
      cases ek
      refine ⟨F, _, ey, vr, fun v F1 H1 x1 r1 => ?_⟩
      unfold Rep at r1
      obtain ⟨a, ws, rfl, hF, rI⟩ := r1
      rcases x1.sub a _ hF with hH | ⟨_, od, hH⟩
      · refine .inl ⟨a, ws, rfl, .inr ⟨hH, fun hn od => ?_⟩⟩
        refine lc_tail (Q := fun v H' => Q v H' ∨ ∃ d od u, H' d = some (.frz od u) ∧ (∀ o' u', X.H_0 d ≠ some (.frz o' u')) ∧ Q v (L2.upd H' d u)) h.ins h.bad (vr_lock (vr.ext x1) hF fun vs z => by cases z) (walkD_keys hF rI upd_same) em' fun p o F' H' x2 hp hp' ow fp => .inr ⟨a, od, .dK ws, x2.heap _ _ upd_same, hn, ?_⟩
        have hpa : p ≠ a := fun z => by subst z; rw [upd_same] at hp; cases hp
        rw [upd_ne hpa] at hp
        exact q p o F' _ (x1.trans (ext_unl hF hH x2)) (x1.heap.free hp) (by rw [upd_ne hpa]; exact hp') ow fp
      · refine .inl ⟨a, ws, rfl, .inl ⟨od, hH, ?_⟩⟩
        exact lc_tail (Q := fun v H' => Q v H' ∨ ∃ d od u, H' d = some (.frz od u) ∧ (∀ o' u', X.H_0 d ≠ some (.frz o' u')) ∧ Q v (L2.upd H' d u)) h.ins h.bad (vr.ext x1) (walkD_keys hF rI hH) em' fun p o F' H' x2 hp hp' ow fp => .inl (q p o F' H' (x1.trans x2) (x1.heap.free hp) hp' ow fp)
    | dT kvs =>
      cases ek
      refine ⟨F, _, ey, vr, fun v F1 H1 x1 r1 => ?_⟩
      unfold Rep at r1
      obtain ⟨a, ws, rfl, hF, rI⟩ := r1
      rcases x1.sub a _ hF with hH | ⟨_, od, hH⟩
      · refine .inr ⟨a, ws, rfl, .inr ⟨hH, fun hn od => ?_⟩⟩
        refine lc_tail (Q := fun v H' => Q v H' ∨ ∃ d od u, H' d = some (.frz od u) ∧ (∀ o' u', X.H_0 d ≠ some (.frz o' u')) ∧ Q v (L2.upd H' d u)) h.ins h.bad (vr_lock (vr.ext x1) hF fun vs z => by cases z) (walkD_keysT hF rI upd_same) em' fun p o F' H' x2 hp hp' ow fp => .inr ⟨a, od, .dT ws, x2.heap _ _ upd_same, hn, ?_⟩
        have hpa : p ≠ a := fun z => by subst z; rw [upd_same] at hp; cases hp
        rw [upd_ne hpa] at hp
        exact q p o F' _ (x1.trans (ext_unl hF hH x2)) (x1.heap.free hp) (by rw [upd_ne hpa]; exact hp') ow fp
      · refine .inr ⟨a, ws, rfl, .inl ⟨od, hH, ?_⟩⟩
        exact lc_tail (Q := fun v H' => Q v H' ∨ ∃ d od u, H' d = some (.frz od u) ∧ (∀ o' u', X.H_0 d ≠ some (.frz o' u')) ∧ Q v (L2.upd H' d u)) h.ins h.bad (vr.ext x1) (walkD_keysT hF rI hH) em' fun p o F' H' x2 hp hp' ow fp => .inl (q p o F' H' (x1.trans x2) (x1.heap.free hp) hp' ow fp)
    | _ => cases ek
end
/-! ### defs that return a new list of the caller's own -/
def spO (K : PySem.W.Frag) (n : Nat) (g : List D → Option D) : Sp := fun vs H Q _ => ∃ F ds d, ds.length = n ∧ Sub F H ∧ Reps K F ds vs ∧ g ds = some d ∧ ∀ p o F' H', Ext F H F' H' → H p = none → H' p = some o → OwnO K F' d o → F' p = none → Q (.ref p) H'
def FnO (G : GX) (k : Nat) (x : Str) (n : Nat) (g : List D → Option D) : Prop := ∃ (f : Addr) (fd : FuncData) (ps : List Str), ps.length = n ∧ FnOk G.P G.w G.K G.mg G.base CX0 k f fd ps (spO G.K n g) ∧ G.mg x = some (.ref f) ∧ PySem.W.keepIn G.K (.ref f) = true ∧ Binds G.K fd ps []
def kO (K : PySem.W.Frag) : KS D := fun d B F0 E => ∀ p o F H, RetOk B F0 F H → B p = none → H p = some o → OwnO K F d o → F p = none → E.rt (.ref p) H
theorem fn_okO {G : GX} {x : Str} {st : Stmt} {N ps : List Str} {k n : Nat} {g : List D → Option D} (Fd : DefAt G x st ps) (S : FnScope N ps (defScope st)) (hn : ps.length = n)
    (h : ∀ ds, ds.length = n → BOk G ⟨N, k, defScope st, fun _ => true⟩ (rho N ds) (defBody st) (kO G.K) (g ds)) : FnO G (k + 1) x n g := by
  obtain ⟨f, fd, F, hm, hb⟩ := Fd
  have hpl : ps.length ≤ N.length := by have := congrArg List.length S.pre; rw [List.length_take] at this; omega
  refine ⟨f, fd, ps, hn, F.ok S (fun vs H Q E ⟨F, ds, d, hl, s, r, e, q⟩ => by rw [hn, ← hl, r.len]) (fun cdv A outer s H vs Q E hr ⟨F0, ds, d, hl, s0, r, e, q⟩ => ?_), hm, F.kp, hb⟩
  refine ⟨_, h ds hl _ ⟨rfl, rfl, rfl, rfl, rfl, rfl, S.nd, rfl, rfl, rfl, hr⟩, H, F0, F0, d, e, ⟨⟨s0, ?_, fun i d h => ?_, fun i d h => absurd h rho_own⟩, ⟨Same.refl _, s0, Same.refl _, fun a o h n => by rw [h] at n; cases n⟩, fun i d p h => absurd h rho_own, fun i j d e p h => absurd h rho_own⟩, ?_⟩
  · have := r.len
    simp only [L2.start, rho, List.length_append, List.length_map, List.length_replicate]
    omega
  · have hd : ds[i]? = some d := rho_nth (N := N) h
    obtain ⟨v, hv, rv⟩ := r.get hd
    refine ⟨v, ?_, rv⟩
    have hi : i < vs.length := (List.getElem?_eq_some_iff.mp hv).1
    unfold L2.start
    rw [List.getElem?_append_left (by simpa using hi), List.getElem?_map, hv]; rfl
  · intro p o F H' ro hB hH ow hF
    exact q p o F H' ⟨ro.keep, ro.ext, ro.sub, ro.fresh⟩ hB hH ow hF
section
variable {G : GX} {L : LX} {ρ : List Sl} {e a : Expr} {es : List Expr} {m : Option D} {ms : Option (List D)} {pos p p1 : Pos} {x : Str} {k n : Nat} {g : List D → Option D}
theorem b_retO (j : Nat) {y : D} (hy : nthS ρ j = .own y) (hN : L.N[j]? = some x := by rfl) (hv : Vis L.sc x := by first | exact Or.inl rfl | exact Or.inr (Or.inl rfl) | exact Or.inr (Or.inr rfl))
    (hd : (x == ("__debug__" : Str)) = false := by decide) (hcd : (x == ("__classdict__" : Str)) = false := by decide) : BOk G L ρ [.Return (some (.Name x p1)) pos] (kO G.K) (some y) := fun X hX =>
  wkSs (pss_one (ps_ret (p_own hX j hN hv hd hcd))) fun D σ H ⟨B, F0, F, r, em, er, q⟩ => by
    cases em
    obtain ⟨p', o, a1, a2, a3, a4⟩ := er.vr.owns j y hy
    exact ⟨.ref p', a1, q p' o F H er.ret (er.ownB j y p' hy a1) a2 a3 a4⟩
theorem f_callO (F : FnO G k x n g) (ha : AOk G L ρ (a :: es) ms) (hn : n = (a :: es).length := by rfl) (hk : k ≤ L.k := by decide) (hg : GlS L x := by rfl) (hdb : (x == ("__debug__" : Str)) = false := by decide)
    (hlen : ∀ ds, ms = some ds → ds.length = (a :: es).length) (he : ∀ env, starEach (a :: es) env = (false, eval a env) :: starEach es env := by intro _; rfl) (hpl : ∀ env, (backTo pos (starEach es env)).any (·.1) = false := by intro _; rfl) : FOk G L ρ (.Call (.Name x p) (a :: es) [] pos) (ms.bind g) := fun X hX => by
  obtain ⟨f, fd, ps, hps, hF, hm, hkp, hb⟩ := F
  have hF' : FnOk X.prog X.w X.K X.mg X.base CX0 k f fd ps (spO G.K n g) := by rw [hX.hP, hX.hw, hX.hK, hX.hm, hX.hb]; exact hF
  refine wkE (pe_call hF' (hX.room.mono hk) (gl_of hX hg) (by rw [hX.hm]; exact hm) (by rw [hX.hK]; exact hkp) (by rw [hX.hK]; exact hb) .nil (pass0 (X := X)) (ha X hX) hdb (he _) (hpl _)) fun σ H Q ⟨F, d, em, vr, q⟩ => ?_
  obtain ⟨ds, ed, em⟩ := Option.bind_eq_some_iff.mp em
  refine ⟨F, ds, ed, vr, fun vs F1 H1 x1 r1 => ?_⟩
  show spO G.K n g (vs ++ []) H1 Q E0
  rw [List.append_nil]
  exact ⟨F1, ds, d, by rw [hn]; exact hlen ds ed, x1.sub, r1, em, fun p o F2 H2 x2 n1 n2 n3 n4 => q p o F2 H2 (x1.trans x2) (x1.heap.free n1) n2 n3 n4⟩
theorem FOk.to {e : Expr} {m m' : Option D} (h : FOk G L ρ e m) (q : m = m') : FOk G L ρ e m' := q ▸ h
end
section
variable {G : GX} {L : LX} {ρ : List Sl} {e1 e2 e3 e4 e5 : Expr} {m1 m2 m3 m4 m5 : Option D} {pos p : Pos} {x : Str} {k : Nat}
theorem f_callO5 {f : D → D → D → D → D → Option D} (F : FnO G k x 5 (ap5 f)) (h1 : EOk G L ρ e1 m1) (h2 : EOk G L ρ e2 m2) (h3 : EOk G L ρ e3 m3) (h4 : EOk G L ρ e4 m4) (h5 : EOk G L ρ e5 m5) (hk : k ≤ L.k := by decide) (hg : GlS L x := by rfl) (hdb : (x == ("__debug__" : Str)) = false := by decide)
    (s1 : ∀ env, starEach [e1, e2, e3, e4, e5] env = (false, eval e1 env) :: starEach [e2, e3, e4, e5] env := by intro _; rfl) (s2 : ∀ env, starEach [e2, e3, e4, e5] env = (false, eval e2 env) :: starEach [e3, e4, e5] env := by intro _; rfl) (s3 : ∀ env, starEach [e3, e4, e5] env = (false, eval e3 env) :: starEach [e4, e5] env := by intro _; rfl) (s4 : ∀ env, starEach [e4, e5] env = (false, eval e4 env) :: starEach [e5] env := by intro _; rfl) (s5 : ∀ env, starEach [e5] env = (false, eval e5 env) :: starEach [] env := by intro _; rfl)
    (hpl : ∀ env, (backTo pos (starEach [e2, e3, e4, e5] env)).any (·.1) = false := by intro _; rfl) : FOk G L ρ (.Call (.Name x p) [e1, e2, e3, e4, e5] [] pos) (E5 f m1 m2 m3 m4 m5) := by
  have := f_callO F (p := p) (pos := pos) (a_cons h1 (a_cons h2 (a_cons h3 (a_cons h4 (a_cons h5 a_nil s5) s4) s3) s2) s1) rfl hk hg hdb (aC_len (aC_len (aC_len (aC_len (aC_len nil_len))))) s1 hpl
  refine FOk.to this ?_
  unfold aC E5
  cases m1 <;> cases m2 <;> cases m3 <;> cases m4 <;> cases m5 <;> rfl
end
theorem fn_okO5 {G : GX} {x : Str} {st : Stmt} {N ps : List Str} {k : Nat} {g : D → D → D → D → D → Option D} (Fd : DefAt G x st ps) (S : FnScope N ps (defScope st)) (hn : ps.length = 5)
    (h : ∀ a0 a1 a2 a3 a4, BOk G ⟨N, k, defScope st, fun _ => true⟩ (rho N [a0, a1, a2, a3, a4]) (defBody st) (kO G.K) (g a0 a1 a2 a3 a4)) : FnO G (k + 1) x 5 (ap5 g) := fn_okO Fd S hn fun ds hds => by
  match ds, hds with
  | [a0, a1, a2, a3, a4], _ => exact h a0 a1 a2 a3 a4
end DL
set_option autoImplicit false
set_option maxRecDepth 100000
set_option maxHeartbeats 4000000
/-! errors of the text: raise in a def, try in another -/
namespace DL
open PySem PySem.Spec PySem.SeqAt PyProof.Rows L2
/-- an error class of the text, at C -/
structure ExCls (G : GX) (x : Str) (C : Addr) : Prop where
  gC : G.mg x = some (.ref C)
  xC : PySem.W.excIn G.K C [.type "ValueError", .type "Exception", .type "BaseException", .type "object"] "ValueError.__new__" = true
  kC : PySem.W.keepIn G.K (.ref C) = true
  bC : PySem.W.subIn G.K (.ref C) (.type "BaseException") = some true
  tC : PySem.W.typeIn G.K (.ref C) = some (.type "type")
  hC : PySem.W.hasDictIn G.K C = true
  sC : PySem.W.subIn G.K (.ref C) (.ref C) = some true
  ex : ExcC G.K C
/-- behind a suite the clause's name goes -/
def afterS (i : Nat) (Dn : Ends) : Ends where
  nx := fun (σ1 : L2.St) H1 => Dn.nx (List.set σ1 i none) H1
  rt := Dn.rt
  bk := fun (σ1 : L2.St) H1 => Dn.bk (List.set σ1 i none) H1
  ct := fun (σ1 : L2.St) H1 => Dn.ct (List.set σ1 i none) H1
/-- what an except clause with a name wishes, where it takes all that may come -/
def wNamed (K : PySem.W.Frag) (c : Value) (i : Nat) (ts : Addr → Value → Option Addr → TS) (Dn : Ends) : WX := fun cls d σ H =>
  PySem.W.exmOne K cls c = some true ∧ ∀ a, H a = none → ts a cls d (afterS i Dn) (List.set σ i (some (.ref a))) H
/-- from the frame's note to the clauses -/
def caught (X : Cx) (pins : List (Addr × Obj)) (Dn : Ends) (cl : List ExceptHandler) (u : Value) (s1 : Shared) : Prop :=
  wpAny (model X.prog X.w) X.A (noteFrame u X.env)
    (fun _ s2 => wpAny (model X.prog X.w) X.A (setFlight u none)
      (fun _ s3 => wpAny (model X.prog X.w) X.A (handleBy u X.env cl) (SP X pins Dn) X.xe s3) X.xe s2) X.xe s1
section
variable {X : Cx} {xn n : Str} {c : Value} {i : Nat} {body suite : List Stmt} {b0 : Stmt} {np pos pos' : Pos} {more : List ExceptHandler} {tb : WX → TS} {ts : Addr → Value → Option Addr → TS}
theorem not_frame {B h : Heap} {l : List Env} {a : Addr} {o : Obj} {vs : Array Value} (ff : h.FunFrames B l) (e : h.get? a = some o) (dd : o.data = .fields vs) : a ∉ frs l := fun hm => by
  obtain ⟨_, o2, e2, hn⟩ := ff.mem hm
  have := e.symm.trans e2
  cases this
  exact hn _ dd
theorem ps_tryNamed (hs : X.stack = X.env :: X.outer) (hf : X.env.frame = some X.env.locals) (hN : X.N.Nodup) (hi : X.N[i]? = some n) (hln : X.env.kindOf n = some .local) (hg : Gl X xn) (hdb : (xn == ("__debug__" : Str)) = false) (hm : X.mg xn = some c)
    (hb : ∀ (W : WX) (pn : List (Addr × Obj)) (xe : Value → Shared → Prop), Takes (X.tr pn xe) W → PSs (X.tr pn xe) body (tb W))
    (hsu : ∀ (a : Addr) (oe : Obj) (cls : Value) (d : Option Addr) (pn : List (Addr × Obj)), Zc cls d oe → (∃ vs, oe.data = .fields vs) → PSs (X.suite a ((a, oe) :: pn)) (b0 :: suite) (ts a cls d)) :
    PS X (.Try body (.ExceptHandler (some (.Name xn np)) (some n) (b0 :: suite) pos' :: more) [] [] pos) (fun Dn σ H => tb (wNamed X.K c i ts Dn) Dn σ H) := by
  refine ⟨fun pins s σ H Dn I q => ?_⟩
  have hframes : X.A.frames = some (X.env :: X.outer) := I.ok.frames.trans (congrArg some hs)
  refine wpAny_Try_except (wpAny_mono ((hb (wNamed X.K c i ts Dn) (X.pn ++ pins) (caught X pins Dn (.ExceptHandler (some (.Name xn np)) (some n) (b0 :: suite) pos' :: more)) ?C).run [] s σ H Dn (I.toTry _) q) ?N ?T)
  case T => exact fun _ _ z => z
  case N =>
    intro f s1 sp
    cases f with
    | next => obtain ⟨σ1, H1, J, w⟩ := sp; exact wpAny_execs_nil ⟨σ1, H1, J.ofTry I.ok, w⟩
    | brk => obtain ⟨σ1, H1, J, w⟩ := sp; exact ⟨σ1, H1, J.ofTry I.ok, w⟩
    | cont => obtain ⟨σ1, H1, J, w⟩ := sp; exact ⟨σ1, H1, J.ofTry I.ok, w⟩
    | ret u => obtain ⟨v, σ1, H1, J, r, w⟩ := sp; exact ⟨v, σ1, H1, J.ofTry I.ok, r, w⟩
  case C =>
    rintro _ s2 ⟨a, B, sI, pins2, σ2, H2, cls, d, rfl, J0, nb, up, sky, na, os, ag, hmatch, hsuite⟩
    have J : Inv X pins σ2 H2 sI := J0.ofTry I.ok
    have sky2 : Sky B (X.env :: X.outer) a (Zc cls d) X.env.locals s2.heap := hs ▸ sky
    unfold caught
    refine sky2.land Zc.steady hframes hf fun h3 fl3 up3 => ?_
    have J3 : Inv X pins σ2 H2 { s2 with heap := h3 } := J.landed nb fl3.1 (up.trans up3) os ag
    obtain ⟨o3, vs3, g3, z3, d3⟩ := fl3.there
    have hnf := not_frame fl3.2.2.1 g3 d3
    have hne : a ≠ X.env.locals := by
      rintro rfl
      exact hnf (List.mem_filterMap.mpr ⟨X.env, by simp, hf⟩)
    have hnfs : a ∉ X.fs := fun hx => by
      obtain ⟨e1, he1, q1⟩ := List.mem_filterMap.mp hx
      exact hnf (List.mem_filterMap.mpr ⟨e1, by simp [he1], q1⟩)
    have S3 := J3.suite g3 d3 na hne hnfs
    refine wpAny_handleBy_cons (codeAny_handlers_test ?_) (by rintro ⟨⟩)
    have hty : PySem.W.Looks (model X.prog X.w) h3 (typeOf (.ref a)) cls := fun _ _ _ _ kk w => wpAny_typeOf_ref (kk _ _ g3) (by rw [z3.1]; exact w)
    refine ld_glob (X := X.suite a ((a, o3) :: (X.pn ++ pins))) S3 hg hm ((PySem.W.exm_one J3.kIn hty hmatch).here ?_) hdb
    refine codeAny_handlers_suite_as (HandSPX.lands_againZ fl3 fun h4 fl4 up4 => ?_)
    have J4 : Inv X pins σ2 H2 { s2 with heap := h4 } := J.landed nb fl4.1 ((up.trans up3).trans up4) os ag
    obtain ⟨o4, vs4, g4, z4, d4⟩ := fl4.there
    have S4 := J4.suite g4 d4 na hne hnfs
    refine store_ok (v := .ref a) (X := X.suite a ((a, o4) :: (X.pn ++ pins))) S4 hN hi (.inl hln) rfl (fun s5 S5 => ?_) (.inr hln)
    refine wpAny_mono ((hsu a o4 cls d (X.pn ++ pins) z4 ⟨_, d4⟩).run [] s5 _ H2 _ S5 (hsuite a na)) (fun f s6 sp => ?_) (fun _ _ z => z.elim)
    cases f with
    | next => obtain ⟨σ6, H6, S6, w⟩ := sp; exact gone_ok (S6.unsuite I.ok) hN hi hln fun s7 J7 => ⟨_, _, J7, w⟩
    | brk => obtain ⟨σ6, H6, S6, w⟩ := sp; exact gone_ok (S6.unsuite I.ok) hN hi hln fun s7 J7 => ⟨_, _, J7, w⟩
    | cont => obtain ⟨σ6, H6, S6, w⟩ := sp; exact gone_ok (S6.unsuite I.ok) hN hi hln fun s7 J7 => ⟨_, _, J7, w⟩
    | ret u => obtain ⟨v6, σ6, H6, S6, r6, w⟩ := sp; exact gone_ok (S6.unsuite I.ok) hN hi hln fun s7 J7 => ⟨_, _, _, J7, r6, w⟩
end
/-! ### a def that raises -/
/-- f(v): None, or an error of the class at C where g tells it -/
def spR (K : PySem.W.Frag) (g : D → Option Bool) (C : Addr) : Sp := fun vs H Q E => ∃ (F : Hp) (d : D) (v : V) (b : Bool), vs = [v] ∧ Sub F H ∧ Rep K F d v ∧ g d = some b ∧
  (b = false → ∀ F' H', Ext F H F' H' → Q .non H') ∧ (b = true → ∀ F' H', Ext F H F' H' → E (.ref C) none H')
def FnR (G : GX) (k : Nat) (x : Str) (g : D → Option Bool) (C : Addr) : Prop := ∃ (f : Addr) (fd : FuncData) (a : Str), FnOk G.P G.w G.K G.mg G.base (L2.CX G.P G.w) k f fd [a] (spR G.K g C) ∧ G.mg x = some (.ref f) ∧ PySem.W.keepIn G.K (.ref f) = true ∧ Binds G.K fd [a] []
section
variable {G : GX}
theorem fn_raise {x xn a msg : Str} {st : Stmt} {N : List Str} {k j : Nat} {C : Addr} {e : Expr} {p p2 pos pos2 pos3 : Pos} {g : D → Option Bool} (Fd : DefAt G x st [a]) (S : FnScope N [a] (defScope st))
    (hbody : defBody st = [.If e [.Raise (some (.Call (.Name xn p) [.Constant (.str msg) j p2] [] pos)) none pos2] [] pos3]) (T : ExCls G xn C)
    (hgl : GlS ⟨N, k, defScope st, fun _ => true⟩ xn) (hdb : (xn == ("__debug__" : Str)) = false) (ht : ∀ d, TOk G ⟨N, k, defScope st, fun _ => true⟩ (rho N [d]) e (g d)) : FnR G (k + 1) x g C := by
  obtain ⟨f, fd, F, hm, hb⟩ := Fd
  have hpl : 1 ≤ N.length := by have := congrArg List.length S.pre; rw [List.length_take] at this; simp at this; omega
  refine ⟨f, fd, a, F.okX S (fun vs H Q E ⟨F, d, v, b, ev, _⟩ => by rw [ev]; rfl) (fun cdv A outer s H vs Q E hr sp => ?_), hm, F.kp, hb⟩
  obtain ⟨F0, d, v, b, rfl, s0, r, eg, q1, q2⟩ := sp
  have hX : XOk G ⟨N, k, defScope st, fun _ => true⟩ (cxOf (L2.CX G.P G.w) G.P G.w G.K G.mg G.base N x (defScope st) f cdv A outer s H E) := ⟨rfl, rfl, rfl, rfl, rfl, rfl, S.nd, rfl, rfl, rfl, hr⟩
  rw [hbody]
  refine ⟨_, pss_one (ps_if (ht d _ hX) (pss_one (ps_raise rfl (takes_of rfl rfl rfl rfl) (pmk_own PySem.F.excBase_ValueError T.xC T.gC T.kC (raises_own T.bC T.tC) (gl_of hX hgl) hdb))) pss_nil), ?_⟩
  refine ⟨F0, b, eg, ⟨s0, ?_, fun i d' h => ?_, fun i d' h => absurd h rho_own⟩, fun F' H' x1 => ?_⟩
  · simp only [L2.start, rho, List.length_append, List.length_map, List.length_replicate, List.length_singleton]
  · have hd : ([d] : List D)[i]? = some d' := rho_nth (N := N) h
    cases i with
    | zero =>
      simp at hd
      subst hd
      exact ⟨v, rfl, r⟩
    | succ i => simp at hd
  · cases b with
    | true => exact q2 rfl F' H' x1
    | false => exact q1 rfl F' H' x1
/-! ### a def that tries it -/
theorem cxOf_stack {CX : CXT} {P : Program} {w : World} {K : PySem.W.Frag} {mg : Str → Option Value} {base : Heap} {N : List Str} {x : Str} {sc : Scope} {f : Addr} {cdv : Value} {A : Around} {outer : List Env} {s : Shared} {H : Hp} {E : XK} :
    (cxOf CX P w K mg base N x sc f cdv A outer s H E).stack = (cxOf CX P w K mg base N x sc f cdv A outer s H E).env :: (cxOf CX P w K mg base N x sc f cdv A outer s H E).outer := rfl
theorem xok_tr {L : LX} {X : Cx} {pn : List (Addr × Obj)} {xe : Value → Shared → Prop} (h : XOk G L X) : XOk G L (X.tr pn xe) := ⟨h.hP, h.hw, h.hK, h.hm, h.hb, h.hN, h.nd, h.hsc, h.hfn, h.calm, h.room⟩
theorem fn_try {x a y n hn xn : Str} {st : Stmt} {k : Nat} {C : Addr} {p1 p2 p3 p4 p5 np pos pos' : Pos} {g : D → Option Bool} {b0 : Stmt} {suite rest : List Stmt} {more : List ExceptHandler} {r1 : Int} {m2 : D → Option D} {ts : Addr → TS}
    (Fd : DefAt G x st [a]) (S : FnScope [a, y, n] [a] (defScope st))
    (hbody : defBody st = .Try [.Assign [.Name y p1] (.Call (.Name hn p2) [.Name a p3] [] p4) p5] (.ExceptHandler (some (.Name xn np)) (some n) (b0 :: suite) pos' :: more) [] [] pos :: rest)
    (R : FnR G k hn g C) (T : ExCls G xn C) (hexm : PySem.W.exmOne G.K (.ref C) (.ref C) = some true)
    (hgh : GlS ⟨[a, y, n], k, defScope st, fun _ => true⟩ hn) (hgx : GlS ⟨[a, y, n], k, defScope st, fun _ => true⟩ xn) (hdx : (xn == ("__debug__" : Str)) = false) (hdh : (hn == ("__debug__" : Str)) = false) (hda : (a == ("__debug__" : Str)) = false) (hca : (a == ("__classdict__" : Str)) = false)
    (hva : Vis (defScope st) a) (hly : Loc (defScope st) y) (hln : (defScope st).names.lookup n = some .local)
    (hsw : ∀ env, swapsWith (.Call (.Name hn p2) [.Name a p3] [] p4) (some (.Name y p1)) p5.line env = pure false)
    (hsu : ∀ X, XOk G ⟨[a, y, n], k, defScope st, fun _ => true⟩ X → ∀ (b : Addr) (oe : Obj) (pn : List (Addr × Obj)), Zc (.ref C) none oe → (∃ vs, oe.data = .fields vs) → PSs (X.suite b ((b, oe) :: pn)) (b0 :: suite) (ts b))
    (hts : ∀ (b : Addr) (Dn : Ends) (σ : L2.St) (H : Hp), σ[2]? = some (some (.ref b)) → Dn.rt (.int r1) H → ts b Dn σ H)
    (hrest : ∀ d, BOk G ⟨[a, y, n], k, defScope st, fun _ => true⟩ [.val d, .val .non, .no] rest (kF G.K) (m2 d)) :
    FnD G (k + 1) x 1 (ap1 fun d => (g d).bind fun b => if b = true then some (.int r1) else m2 d) := by
  obtain ⟨f, fd, F, hm, hb⟩ := Fd
  obtain ⟨f2, fd2, a2, GT, hm2, hk2, hb2⟩ := R
  refine ⟨f, fd, [a], rfl, F.ok S (fun vs H Q E ⟨F, ds, d, hl, s, r, e, q⟩ => by rw [← r.len, hl]; rfl) (fun cdv A outer s H vs Q E hr sp => ?_), hm, F.kp, hb⟩
  obtain ⟨F0, ds, d, hl, s0, r, e, q⟩ := sp
  match ds, hl with
  | [d0], _ =>
  obtain ⟨v, rfl, rv⟩ := r.one
  obtain ⟨b, eb, em⟩ := Option.bind_eq_some_iff.mp (show ((g d0).bind fun b => if b = true then some (D.int r1) else m2 d0) = some d from e)
  have hX : XOk G ⟨[a, y, n], k, defScope st, fun _ => true⟩ (cxOf CX0 G.P G.w G.K G.mg G.base [a, y, n] x (defScope st) f cdv A outer s H E).nox := ⟨rfl, rfl, rfl, rfl, rfl, rfl, S.nd, rfl, rfl, rfl, hr⟩
  rw [hbody]
  refine ⟨_, pss_cons (ps_tryNamed (c := .ref C) (i := 2) (tb := fun W => tAsg (tCallS (spR G.K g C) (WE W) (tCons (tVar 0) tNil)) (gName 1)) (ts := fun b cls dd Dn σ H => cls = .ref C ∧ dd = none ∧ ts b Dn σ H) rfl rfl S.nd rfl hln (gl_of hX hgx) hdx T.gC
    (fun W pn xe tk => pss_one (ps_set (i := 1) S.nd rfl hly (pe_callS GT hr (gl_of (xok_tr hX) hgh) hm2 hk2 hb2 (fun σ => passAt tk σ) (pa_cons (pe_var (i := 0) rfl hva hda hca) pa_nil) hdh) (hsw _)))
    (fun b oe cls dd pn hz hf => ⟨fun pins s2 σ2 H2 D2 I2 ⟨e1, e2, w⟩ => ?_⟩)) (hrest d0 _ hX), ?_⟩
  · subst e1
    subst e2
    exact (hsu _ hX b oe pn hz hf).run pins s2 σ2 H2 D2 I2 w
  · refine ⟨v, rfl, F0, d0, v, b, rfl, s0, rv, eb, fun hbf F' H' x1 => ?_, fun hbt F' H' x1 => ⟨hexm, fun e0 he0 => ⟨rfl, rfl, hts _ _ _ _ rfl ?_⟩⟩⟩
    · subst hbf
      have em' : m2 d0 = some d := em
      have rv' := Rep.mono x1.froz _ _ rv
      refine ⟨H', F', F', d, em', ⟨⟨x1.sub, rfl, fun i d' h => ?_, fun i d' h => ?_⟩, ⟨Same.refl _, x1.sub, Same.refl _, fun a o h n => by rw [h] at n; cases n⟩, fun i d' p h => ?_, fun i j d' e' p h => ?_⟩, ?_, ?_⟩
      · match i with
        | 0 => cases h; exact ⟨v, rfl, rv'⟩
        | 1 => cases h; exact ⟨.non, rfl, rep_n⟩
        | 2 => cases h
        | i + 3 => cases h
      · match i with
        | 0 => cases h
        | 1 => cases h
        | 2 => cases h
        | i + 3 => cases h
      · match i with
        | 0 => cases h
        | 1 => cases h
        | 2 => cases h
        | i + 3 => cases h
      · match i with
        | 0 => cases h
        | 1 => cases h
        | 2 => cases h
        | i + 3 => cases h
      · intro v2 F2 H2 ro rv2
        exact q v2 F2 H2 (x1.trans ⟨ro.keep, ro.ext, ro.sub, ro.fresh⟩) rv2
      · intro hd σ2 F2 H2 ro
        subst hd
        exact q .non F2 H2 (x1.trans ⟨ro.keep, ro.ext, ro.sub, ro.fresh⟩) rep_n
    · subst hbt
      have : d = .int r1 := (Option.some.inj em).symm
      subst this
      exact q (.int r1) F' H' x1 (by unfold Rep; rfl)
end
/-! ### the suite: isinstance of the error -/
section
variable {G : GX} {L : LX} {X : Cx} {n xn : Str} {C C2 b : Addr} {oe : Obj} {pn : List (Addr × Obj)} {p p2 p3 pos : Pos} {i : Nat} {r : Bool}
def tIsE (K : PySem.W.Frag) (C b C2 : Addr) (i : Nat) : TT := L2.tB (tCB (rIsE K C b) (tCons (tVar i) (tCons (tC (.ref C2)) tNil)))
theorem pt_isE (hX : XOk G L X) (Ce : ExcC G.K C) (hz : Zc (.ref C) none oe) (hf : ∃ vs, oe.data = .fields vs) (hmi : G.mg "isinstance" = none) (hm2 : G.mg xn = some (.ref C2)) (hN : L.N[i]? = some n := by rfl) (hvn : Vis L.sc n := by exact Or.inl rfl)
    (hgi : GlS L "isinstance" := by rfl) (hgx : GlS L xn := by rfl) (hdx : (xn == ("__debug__" : Str)) = false := by decide) (hdn : (n == ("__debug__" : Str)) = false := by decide) (hcn : (n == ("__classdict__" : Str)) = false := by decide) :
    PT (X.suite b ((b, oe) :: pn)) (.Call (.Name "isinstance" p) [.Name n p2, .Name xn p3] [] pos) (tIsE G.K C b C2 i) := by
  have hK := hX.hK
  unfold tIsE
  rw [← hK] at Ce ⊢
  refine pt_val (pe_callB (call_isE Ce hz hf) (gl_of hX hgi) (by show X.mg _ = none; rw [hX.hm]; exact hmi) boot_isinstance (pa_cons (pe_var (X := X.suite b ((b, oe) :: pn)) (by show X.N[i]? = some n; rw [hX.hN]; exact hN) (by show Vis X.env.scope n; rw [hX.hsc]; exact hvn) hdn hcn) (pa_cons (pe_glob (v := .ref C2) (gl_of hX hgx) (by show X.mg xn = _; rw [hX.hm]; exact hm2) rfl hdx) pa_nil)))
theorem isE_go {K : PySem.W.Frag} {σ : L2.St} {H : Hp} {Q : Bool → Hp → Prop} (hk : PySem.W.kitOne K (.ref C) (.ref C2) = some r) (hσ : σ[i]? = some (some (.ref b))) (q : Q r H) : tIsE K C b C2 i σ H Q :=
  ⟨.ref b, hσ, .ref C2, .ref C2, r, rfl, fun u h => h, hk, r, rfl, q⟩
end
/-- an error of one class is not of another -/
theorem kit_ne {K : PySem.W.Frag} {C C2 : Addr} (h1 : (Value.ref C == Value.ref C2) = false) (h2 : PySem.W.hasDictIn K C2 = true) (h3 : PySem.W.typeIn K (.ref C2) = some (.type "type")) (h4 : PySem.W.subIn K (.ref C) (.ref C2) = some false) : PySem.W.kitOne K (.ref C) (.ref C2) = some false := by
  obtain ⟨cd, hc, _⟩ := PySem.W.any_some h2
  unfold PySem.W.kitOne PySem.W.kitCls
  rw [if_neg (by rw [h1]; simp)]
  simp only
  rw [if_pos (by rw [hc, h3]; rfl), h4]
end DL
set_option autoImplicit false
set_option maxRecDepth 100000
set_option maxHeartbeats 4000000
namespace DL.k28
open PySem PySem.Spec PySem.SeqAt PyProof.Rows L2 DL
def topS (i : Nat) : Stmt := PySem.Challenge.pw_changeforall_k28_check_shop.main.body.getD i (.Pass ⟨0, 0, 0, 0⟩)
abbrev s_is_number : Stmt := topS 8
abbrev s_is_row : Stmt := topS 9
abbrev s_is_coinage : Stmt := topS 12
abbrev s_sum_of : Stmt := topS 13
abbrev s_are_caps : Stmt := topS 21
abbrev s_is_kind : Stmt := topS 22
abbrev s_is_shop : Stmt := topS 20
abbrev s_check_shop : Stmt := topS 19
abbrev s__law_mixed : Stmt := topS 24
abbrev s__law_row : Stmt := topS 25
abbrev s__law_purse : Stmt := topS 26
abbrev s__law_worth : Stmt := topS 27
abbrev s__law_full_shop : Stmt := topS 28
abbrev s__law_bad_coins : Stmt := topS 29
abbrev s__law_put : Stmt := topS 30
abbrev s__law_bad_counts : Stmt := topS 31
abbrev s__law_bad_kind : Stmt := topS 32
abbrev s__law_spoilt : Stmt := topS 33
abbrev s__law_greatest : Stmt := topS 34
abbrev s__law_told : Stmt := topS 35
abbrev s_law : Stmt := topS 36
theorem sc_is_number : FnScope ["value", "least", "most"] ["value", "least", "most"] (defScope s_is_number) := ⟨rfl, rfl, rfl, by decide +kernel, rfl, by decide +kernel, by decide +kernel⟩
theorem sc_is_row : FnScope ["value", "length"] ["value", "length"] (defScope s_is_row) := ⟨rfl, rfl, rfl, by decide +kernel, rfl, by decide +kernel, by decide +kernel⟩
theorem sc_is_coinage : FnScope ["value", "most", "less", "more", "part"] ["value", "most"] (defScope s_is_coinage) := ⟨rfl, rfl, rfl, by decide +kernel, rfl, by decide +kernel, by decide +kernel⟩
theorem sc_sum_of : FnScope ["coinage", "purse", "value", "count"] ["coinage", "purse"] (defScope s_sum_of) := ⟨rfl, rfl, rfl, by decide +kernel, rfl, by decide +kernel, by decide +kernel⟩
theorem sc_are_caps : FnScope ["coinage", "value", "cap"] ["coinage", "value"] (defScope s_are_caps) := ⟨rfl, rfl, rfl, by decide +kernel, rfl, by decide +kernel, by decide +kernel⟩
theorem sc_is_kind : FnScope ["coinage", "value", "count"] ["coinage", "value"] (defScope s_is_kind) := ⟨rfl, rfl, rfl, by decide +kernel, rfl, by decide +kernel, by decide +kernel⟩
theorem sc_is_shop : FnScope ["value", "coinage", "caps", "kinds", "kind"] ["value"] (defScope s_is_shop) := ⟨rfl, rfl, rfl, by decide +kernel, rfl, by decide +kernel, by decide +kernel⟩
theorem sc_check_shop : FnScope ["value"] ["value"] (defScope s_check_shop) := ⟨rfl, rfl, rfl, by decide +kernel, rfl, by decide +kernel, by decide +kernel⟩
theorem sc__law_mixed : FnScope ["script", "k", "cell", "first", "second", "third"] ["script", "k"] (defScope s__law_mixed) := ⟨rfl, rfl, rfl, by decide +kernel, rfl, by decide +kernel, by decide +kernel⟩
theorem sc__law_row : FnScope ["script", "many", "big", "row", "k"] ["script", "many"] (defScope s__law_row) := ⟨rfl, rfl, rfl, by decide +kernel, rfl, by decide +kernel, by decide +kernel⟩
theorem sc__law_purse : FnScope ["row", "at", "places", "most", "k"] ["row", "at", "places", "most"] (defScope s__law_purse) := ⟨rfl, rfl, rfl, by decide +kernel, rfl, by decide +kernel, by decide +kernel⟩
theorem sc__law_worth : FnScope ["coinage", "purse", "k"] ["coinage", "purse"] (defScope s__law_worth) := ⟨rfl, rfl, rfl, by decide +kernel, rfl, by decide +kernel, by decide +kernel⟩
theorem sc__law_full_shop : FnScope ["row", "at", "top", "found", "k", "value", "coinage", "caps", "kinds", "given", "back", "price", "j"] ["row", "at"] (defScope s__law_full_shop) := ⟨rfl, rfl, rfl, by decide +kernel, rfl, by decide +kernel, by decide +kernel⟩
theorem sc__law_bad_coins : FnScope ["shop", "kind", "place", "coinage", "caps", "kinds", "coins", "fitting", "given", "price", "k"] ["shop", "kind", "place"] (defScope s__law_bad_coins) := ⟨rfl, rfl, rfl, by decide +kernel, rfl, by decide +kernel, by decide +kernel⟩
theorem sc__law_put : FnScope ["items", "place", "thing"] ["items", "place", "thing"] (defScope s__law_put) := ⟨rfl, rfl, rfl, by decide +kernel, rfl, by decide +kernel, by decide +kernel⟩
theorem sc__law_bad_counts : FnScope ["counts", "kind", "place"] ["counts", "kind", "place"] (defScope s__law_bad_counts) := ⟨rfl, rfl, rfl, by decide +kernel, rfl, by decide +kernel, by decide +kernel⟩
theorem sc__law_bad_kind : FnScope ["given", "price", "whole", "kind", "place"] ["given", "price", "whole", "kind", "place"] (defScope s__law_bad_kind) := ⟨rfl, rfl, rfl, by decide +kernel, rfl, by decide +kernel, by decide +kernel⟩
theorem sc__law_spoilt : FnScope ["shop", "row", "at", "coinage", "caps", "kinds", "kind", "place", "which", "given", "price", "six", "bad"] ["shop", "row", "at"] (defScope s__law_spoilt) := ⟨rfl, rfl, rfl, by decide +kernel, rfl, by decide +kernel, by decide +kernel⟩
theorem sc__law_greatest : FnScope ["shop", "coinage", "kinds", "given", "price", "full", "most", "value"] ["shop"] (defScope s__law_greatest) := ⟨rfl, rfl, rfl, by decide +kernel, rfl, by decide +kernel, by decide +kernel⟩
theorem sc__law_told : FnScope ["value", "answer", "e"] ["value"] (defScope s__law_told) := ⟨rfl, rfl, rfl, by decide +kernel, rfl, by decide +kernel, by decide +kernel⟩
theorem sc_law : FnScope ["script", "row", "good", "bad", "value", "due"] ["script"] (defScope s_law) := ⟨rfl, rfl, rfl, by decide +kernel, rfl, by decide +kernel, by decide +kernel⟩
structure Top (G : GX) : Prop where
  z_all : G.mg "all" = none
  z_bool : G.mg "bool" = none
  z_int : G.mg "int" = none
  z_isinstance : G.mg "isinstance" = none
  z_len : G.mg "len" = none
  z_list : G.mg "list" = none
  z_min : G.mg "min" = none
  z_range : G.mg "range" = none
  z_sorted : G.mg "sorted" = none
  z_sum : G.mg "sum" = none
  z_tuple : G.mg "tuple" = none
  z_zip : G.mg "zip" = none
  g_MOST_CAP : ∃ u, G.mg "MOST_CAP" = some u ∧ RelV (.int 3) u
  g_MOST_GIVEN : ∃ u, G.mg "MOST_GIVEN" = some u ∧ RelV (.int 3) u
  g_MOST_KINDS : ∃ u, G.mg "MOST_KINDS" = some u ∧ RelV (.int 5) u
  g_MOST_VALUE : ∃ u, G.mg "MOST_VALUE" = some u ∧ RelV (.int 60) u
  g_MOST_VALUES : ∃ u, G.mg "MOST_VALUES" = some u ∧ RelV (.int 4) u
  x_InvalidShop : ∃ C, ExCls G "InvalidShop" C ∧ PySem.W.exmOne G.K (.ref C) (.ref C) = some true ∧ (∃ C2, G.mg "InvalidCoinage" = some (.ref C2) ∧ PySem.W.kitOne G.K (.ref C) (.ref C2) = some false) ∧ (∃ C2, G.mg "BadText" = some (.ref C2) ∧ PySem.W.kitOne G.K (.ref C) (.ref C2) = some false) ∧ (∃ C2, G.mg "NoChange" = some (.ref C2) ∧ PySem.W.kitOne G.K (.ref C) (.ref C2) = some false) ∧ (∃ C2, G.mg "NoHistory" = some (.ref C2) ∧ PySem.W.kitOne G.K (.ref C) (.ref C2) = some false)
  t_is_number : DefAt G "is_number" s_is_number ["value", "least", "most"]
  t_is_row : DefAt G "is_row" s_is_row ["value", "length"]
  t_is_coinage : DefAt G "is_coinage" s_is_coinage ["value", "most"]
  t_sum_of : DefAt G "sum_of" s_sum_of ["coinage", "purse"]
  t_are_caps : DefAt G "are_caps" s_are_caps ["coinage", "value"]
  t_is_kind : DefAt G "is_kind" s_is_kind ["coinage", "value"]
  t_is_shop : DefAt G "is_shop" s_is_shop ["value"]
  t_check_shop : DefAt G "check_shop" s_check_shop ["value"]
  t__law_mixed : DefAt G "_law_mixed" s__law_mixed ["script", "k"]
  t__law_row : DefAt G "_law_row" s__law_row ["script", "many"]
  t__law_purse : DefAt G "_law_purse" s__law_purse ["row", "at", "places", "most"]
  t__law_worth : DefAt G "_law_worth" s__law_worth ["coinage", "purse"]
  t__law_full_shop : DefAt G "_law_full_shop" s__law_full_shop ["row", "at"]
  t__law_bad_coins : DefAt G "_law_bad_coins" s__law_bad_coins ["shop", "kind", "place"]
  t__law_put : DefAt G "_law_put" s__law_put ["items", "place", "thing"]
  t__law_bad_counts : DefAt G "_law_bad_counts" s__law_bad_counts ["counts", "kind", "place"]
  t__law_bad_kind : DefAt G "_law_bad_kind" s__law_bad_kind ["given", "price", "whole", "kind", "place"]
  t__law_spoilt : DefAt G "_law_spoilt" s__law_spoilt ["shop", "row", "at"]
  t__law_greatest : DefAt G "_law_greatest" s__law_greatest ["shop"]
  t__law_told : DefAt G "_law_told" s__law_told ["value"]
theorem ok_is_number {G : GX} (T : Top G) : FnD G 1 "is_number" 3 (ap3 f_is_number_D) := by
  refine fn_ok3 (k := 0) T.t_is_number sc_is_number rfl fun x_value x_least x_most => ?_
  show BOk _ _ [.val x_value, .val x_least, .val x_most] _ _ _
  delta f_is_number_D
  refine c_if (t_w (w_or (t_not (t_tru (e_is_int T.z_isinstance T.z_int (e_var 0)))) (w_or (t_tru (e_is_bool T.z_isinstance T.z_bool (e_var 0))) (w_or1 (t_cmp opd_lt (e_var 0) (e_var 1)))))) ?_ ?_ kFD
  · exact b_retD e_bl
  exact b_retF (e_or (e_cmp opd_is (e_var 2) e_non) (e_one (e_cmp opd_le (e_var 0) (e_var 2))))
theorem ok_is_row {G : GX} (T : Top G) : FnD G 1 "is_row" 2 (ap2 f_is_row_D) := by
  refine fn_ok2 (k := 0) T.t_is_row sc_is_row rfl fun x_value x_length => ?_
  show BOk _ _ [.val x_value, .val x_length] _ _ _
  delta f_is_row_D
  exact b_retF (e_and (e_is_tuple T.z_isinstance T.z_tuple (e_var 0)) (e_one (e_cmp opd_eq (e_len1 T.z_len (e_var 0)) (e_var 1))))
theorem ok_is_coinage {G : GX} (T : Top G) : FnD G 2 "is_coinage" 2 (ap2 f_is_coinage_D) := by
  refine fn_ok2 (k := 1) T.t_is_coinage sc_is_coinage rfl fun x_value x_most => ?_
  show BOk _ _ [.val x_value, .val x_most, .no, .no, .no] _ _ _
  delta f_is_coinage_D
  refine c_if (t_w (w_or (t_not (t_tru (e_is_tuple T.z_isinstance T.z_tuple (e_var 0)))) (w_or1 (t_not (t_chain opd_le opd_le e_int (e_len1 T.z_len (e_var 0)) (e_var 1)))))) ?_ ?_ kFD
  · exact b_retD e_bl
  refine c_if (t_not (t_tru (e_all1 T.z_all (e_new (f_lc (i_seq (e_var 0)) (lc1 (own := [("part", 4)]) (by decide +kernel) (g_name 4) (by decide) (fun x_part => ts_nil) (fun x_part => (e_call3 (ok_is_number T) (e_var 4) e_int (e_gI T.g_MOST_VALUE))))))))) ?_ ?_ kFD
  · exact b_retD e_bl
  exact b_retF (e_all1 T.z_all (e_new (f_lc (i_zip T.z_zip (a_cons (e_var 0) (a_cons (e_sl (e_var 0) (o_some e_int) o_none) a_nil))) (lc2 (own := [("less", 2), ("more", 3)]) (by decide +kernel) (g_tup (gs_cons (g_name 2) (gs_cons (g_name 3) gs_nil))) (by decide) (by decide) (fun x_less x_more => ts_nil) (fun x_less x_more => (e_cmp opd_lt (e_var 2) (e_var 3)))))))
theorem ok_sum_of {G : GX} (T : Top G) : FnD G 1 "sum_of" 2 (ap2 f_sum_of_D) := by
  refine fn_ok2 (k := 0) T.t_sum_of sc_sum_of rfl fun x_coinage x_purse => ?_
  show BOk _ _ [.val x_coinage, .val x_purse, .no, .no] _ _ _
  delta f_sum_of_D
  exact b_retF (e_sum1 T.z_sum (e_new (f_lc (i_zip T.z_zip (a_cons (e_var 0) (a_cons (e_var 1) a_nil))) (lc2 (own := [("value", 2), ("count", 3)]) (by decide +kernel) (g_tup (gs_cons (g_name 2) (gs_cons (g_name 3) gs_nil))) (by decide) (by decide) (fun x_value x_count => ts_nil) (fun x_value x_count => (e_op opd_mul (e_var 2) (e_var 3)))))))
theorem ok_are_caps {G : GX} (T : Top G) : FnD G 2 "are_caps" 2 (ap2 f_are_caps_D) := by
  refine fn_ok2 (k := 1) T.t_are_caps sc_are_caps rfl fun x_coinage x_value => ?_
  show BOk _ _ [.val x_coinage, .val x_value, .no] _ _ _
  delta f_are_caps_D
  exact b_retF (e_and (e_call2 (ok_is_row T) (e_var 1) (e_len1 T.z_len (e_var 0))) (e_one (e_all1 T.z_all (e_new (f_lc (i_seq (e_var 1)) (lc1 (own := [("cap", 2)]) (by decide +kernel) (g_name 2) (by decide) (fun x_cap => ts_nil) (fun x_cap => (e_call3 (ok_is_number T) (e_var 2) e_int (e_gI T.g_MOST_CAP)))))))))
theorem ok_is_kind {G : GX} (T : Top G) : FnD G 2 "is_kind" 2 (ap2 f_is_kind_D) := by
  refine fn_ok2 (k := 1) T.t_is_kind sc_is_kind rfl fun x_coinage x_value => ?_
  show BOk _ _ [.val x_coinage, .val x_value, .no] _ _ _
  delta f_is_kind_D
  refine c_if (t_w (w_or (t_not (t_tru (e_call2 (ok_is_row T) (e_var 1) e_int))) (w_or1 (t_not (t_tru (e_call2 (ok_is_row T) (e_ix (e_var 1) e_int) (e_len1 T.z_len (e_var 0)))))))) ?_ ?_ kFD
  · exact b_retD e_bl
  refine c_if (t_not (t_tru (e_all1 T.z_all (e_new (f_lc (i_seq (e_ix (e_var 1) e_int)) (lc1 (own := [("count", 2)]) (by decide +kernel) (g_name 2) (by decide) (fun x_count => ts_nil) (fun x_count => (e_call3 (ok_is_number T) (e_var 2) e_int (e_gI T.g_MOST_GIVEN))))))))) ?_ ?_ kFD
  · exact b_retD e_bl
  exact b_retF (e_call3 (ok_is_number T) (e_ix (e_var 1) e_int) e_int (e_call2 (ok_sum_of T) (e_var 0) (e_ix (e_var 1) e_int)))
theorem ok_is_shop {G : GX} (T : Top G) : FnD G 3 "is_shop" 1 (ap1 f_is_shop_D) := by
  refine fn_ok1 (k := 2) T.t_is_shop sc_is_shop rfl fun x_value => ?_
  show BOk _ _ [.val x_value, .no, .no, .no, .no] _ _ _
  delta f_is_shop_D
  refine c_if (t_not (t_tru (e_call2 (ok_is_row T) (e_var 0) e_int))) ?_ ?_ kFD
  · exact b_retD e_bl
  refine c_asg3 (e_var 0) (g_tup (gs_cons (g_name 1) (gs_cons (g_name 2) (gs_cons (g_name 3) gs_nil)))) (fun x_coinage x_caps x_kinds => ?_)
  refine c_if (t_w (w_or (t_not (t_tru (e_call2 (ok_is_coinage T) (e_var 1) (e_gI T.g_MOST_VALUES)))) (w_or1 (t_not (t_tru (e_call2 (ok_are_caps T) (e_var 1) (e_var 2))))))) ?_ ?_ kFD
  · exact b_retD e_bl
  refine c_if (t_w (w_or (t_not (t_tru (e_is_tuple T.z_isinstance T.z_tuple (e_var 3)))) (w_or1 (t_not (t_chain opd_le opd_le e_int (e_len1 T.z_len (e_var 3)) (e_gI T.g_MOST_KINDS)))))) ?_ ?_ kFD
  · exact b_retD e_bl
  exact b_retF (e_all1 T.z_all (e_new (f_lc (i_seq (e_var 3)) (lc1 (own := [("kind", 4)]) (by decide +kernel) (g_name 4) (by decide) (fun x_kind => ts_nil) (fun x_kind => (e_call2 (ok_is_kind T) (e_var 1) (e_var 4)))))))
theorem ok_check_shop {G : GX} (T : Top G) {C : Addr} (hC : ExCls G "InvalidShop" C) : FnR G 4 "check_shop" f_check_shop_T C :=
  fn_raise (k := 3) T.t_check_shop sc_check_shop rfl hC (by rfl) (by decide) (fun x_value => t_not (t_tru (e_call1 (ok_is_shop T) (e_var 0))))
theorem ok__law_mixed {G : GX} (T : Top G) : FnD G 1 "_law_mixed" 2 (ap2 f__law_mixed_D) := by
  refine fn_ok2 (k := 0) T.t__law_mixed sc__law_mixed rfl fun x_script x_k => ?_
  show BOk _ _ [.val x_script, .val x_k, .no, .no, .no, .no] _ _ _
  delta f__law_mixed_D
  refine b_set 2 e_int (fun x_cell => ?_)
  refine c_ifp (u := (fun (a1 : D) => [.val x_script, .val x_k, .val a1, .no, .no, .no])) (t_cmp opd_gt (e_len1 T.z_len (e_var 0)) e_int) ?_ ?_ (fun a1 => ?_)
  · refine b_set 2 (e_ix (e_var 0) (e_op opd_mod (e_var 1) (e_len1 T.z_len (e_var 0)))) (fun x_cell => ?_)
    exact b_nil (le_eq (le_eq (le_eq (le_no (le_no (le_no le_nil))))))
  · exact b_nil (le_eq (le_eq (le_eq (le_no (le_no (le_no le_nil))))))
  refine b_set 3 (e_op opd_mod (e_int1 T.z_int (e_op opd_add (e_op opd_add (e_op opd_mul (e_var 2) e_int) (e_op opd_mul (e_var 1) e_int)) e_int)) e_int) (fun x_first => ?_)
  refine b_set 4 (e_op opd_mod (e_int1 T.z_int (e_op opd_add (e_op opd_add (e_op opd_mul (e_var 3) (e_var 3)) (e_op opd_fdiv (e_var 3) e_int)) (e_op opd_mul (e_var 1) e_int))) e_int) (fun x_second => ?_)
  refine b_set 5 (e_op opd_mod (e_int1 T.z_int (e_op opd_add (e_op opd_add (e_op opd_mul (e_var 4) (e_var 4)) (e_op opd_fdiv (e_var 4) e_int)) e_int)) e_int) (fun x_third => ?_)
  exact b_retF (e_op opd_mod (e_op opd_fdiv (e_var 5) e_int) e_int)
theorem ok__law_row {G : GX} (T : Top G) : FnD G 2 "_law_row" 2 (ap2 f__law_row_D) := by
  refine fn_ok2 (k := 1) T.t__law_row sc__law_row rfl fun x_script x_many => ?_
  show BOk _ _ [.val x_script, .val x_many, .no, .no, .no] _ _ _
  delta f__law_row_D
  refine b_set 2 e_int (fun x_big => ?_)
  refine c_ifp (u := (fun (a1 : D) => [.val x_script, .val x_many, .val a1, .no, .no])) (t_w (w_and (t_cmp opd_gt (e_len1 T.z_len (e_var 0)) e_int) (w_and1 (t_cmp opd_ge (e_ix (e_var 0) e_int) (e_op opd_pow e_int e_int))))) ?_ ?_ (fun a1 => ?_)
  · refine b_set 2 (e_ix (e_var 0) e_int) (fun x_big => ?_)
    exact b_nil (le_eq (le_eq (le_eq (le_no (le_no le_nil)))))
  · exact b_nil (le_eq (le_eq (le_eq (le_no (le_no le_nil)))))
  refine b_own 3 (f_lst a_nil) (fun x_row => ?_)
  refine c_forP1 (v := (fun (s2 : D × D) => [.val x_script, .val x_many, .val s2.1, .own s2.2, .no])) (i_range1 T.z_range (a_cons (e_var 1) a_nil)) (g_name 4) (le_eq (le_eq (le_eq (le_eq (le_no le_nil))))) ?_ ?_
  · intro s2 x_k
    refine c_ife (t_cmp opd_gt (e_var 2) e_int) ?_ ?_
    · refine b_app 3 rfl (e_op opd_mod (e_int1 T.z_int (e_var 2)) e_int) (fun x_row => ?_)
      refine b_set 2 (e_op opd_fdiv (e_var 2) e_int) (fun x_big => ?_)
      exact b_nil (le_eq (le_eq (le_eq (le_eq (le_no le_nil)))))
    · refine b_app 3 rfl (e_call2 (ok__law_mixed T) (e_var 0) (e_var 4)) (fun x_row => ?_)
      exact b_nil (le_eq (le_eq (le_eq (le_eq (le_no le_nil)))))
  intro s3
  refine b_frz 3 rfl ?_
  exact b_retF (e_var 3)
theorem ok__law_purse {G : GX} (T : Top G) : FnD G 1 "_law_purse" 4 (ap4 f__law_purse_D) := by
  refine fn_ok4 (k := 0) T.t__law_purse sc__law_purse rfl fun x_row x_at x_places x_most => ?_
  show BOk _ _ [.val x_row, .val x_at, .val x_places, .val x_most, .no] _ _ _
  delta f__law_purse_D
  exact b_retF (e_tuple1 T.z_tuple (e_new (f_lc (i_range1 T.z_range (a_cons (e_var 2) a_nil)) (lc1 (own := [("k", 4)]) (by decide +kernel) (g_name 4) (by decide) (fun x_k => ts_nil) (fun x_k => (e_op opd_mod (e_int1 T.z_int (e_ix (e_var 0) (e_op opd_add (e_var 1) (e_var 4)))) (e_op opd_add (e_var 3) e_int)))))))
theorem ok__law_worth {G : GX} (T : Top G) : FnD G 1 "_law_worth" 2 (ap2 f__law_worth_k29_D) := by
  refine fn_ok2 (k := 0) T.t__law_worth sc__law_worth rfl fun x_coinage x_purse => ?_
  show BOk _ _ [.val x_coinage, .val x_purse, .no] _ _ _
  delta f__law_worth_k29_D
  exact b_retF (e_sum1 T.z_sum (e_new (f_lc (i_range1 T.z_range (a_cons (e_len1 T.z_len (e_var 0)) a_nil)) (lc1 (own := [("k", 2)]) (by decide +kernel) (g_name 2) (by decide) (fun x_k => ts_nil) (fun x_k => (e_op opd_mul (e_ix (e_var 0) (e_var 2)) (e_ix (e_var 1) (e_var 2))))))))
theorem ok__law_full_shop {G : GX} (T : Top G) : FnD G 2 "_law_full_shop" 2 (ap2 f__law_full_shop_D) := by
  refine fn_ok2 (k := 1) T.t__law_full_shop sc__law_full_shop rfl fun x_row x_at => ?_
  show BOk _ _ [.val x_row, .val x_at, .no, .no, .no, .no, .no, .no, .no, .no, .no, .no, .no] _ _ _
  delta f__law_full_shop_D
  refine b_set 2 (e_ix (e_new (f_lst (a_cons e_int (a_cons e_int a_nil)))) (e_op opd_mod (e_int1 T.z_int (e_ix (e_var 0) (e_op opd_add (e_var 1) e_int))) e_int)) (fun x_top => ?_)
  refine b_own 3 (f_lst a_nil) (fun x_found => ?_)
  refine c_forP1 (v := (fun (s1 : D) => [.val x_row, .val x_at, .val x_top, .own s1, .no, .no, .no, .no, .no, .no, .no, .no, .no])) (i_range1 T.z_range (a_cons (e_op opd_add e_int (e_op opd_mod (e_int1 T.z_int (e_ix (e_var 0) (e_var 1))) e_int)) a_nil)) (g_name 4) (le_eq (le_eq (le_eq (le_eq (le_no (le_no (le_no (le_no (le_no (le_no (le_no (le_no (le_no le_nil))))))))))))) ?_ ?_
  · intro s1 x_k
    refine b_set 5 (e_op opd_add e_int (e_op opd_mod (e_int1 T.z_int (e_ix (e_var 0) (e_op opd_add (e_op opd_add (e_var 1) e_int) (e_var 4)))) (e_var 2))) (fun x_value => ?_)
    refine c_ife (t_frz (t_cmp opd_notIn (e_var 5) (e_var 3))) ?_ ?_
    · refine b_app 3 rfl (e_var 5) (fun x_found => ?_)
      exact b_nil (le_eq (le_eq (le_eq (le_eq (le_no (le_no (le_no (le_no (le_no (le_no (le_no (le_no (le_no le_nil)))))))))))))
    · exact b_nil (le_eq (le_eq (le_eq (le_eq (le_no (le_no (le_no (le_no (le_no (le_no (le_no (le_no (le_no le_nil)))))))))))))
  intro s2
  refine b_frz 3 rfl ?_
  refine b_set 6 (e_tuple1 T.z_tuple (e_new (f_sorted1 T.z_sorted (e_var 3)))) (fun x_coinage => ?_)
  refine b_set 7 (e_call4 (ok__law_purse T) (e_var 0) (e_op opd_add (e_var 1) e_int) (e_len1 T.z_len (e_var 6)) e_int) (fun x_caps => ?_)
  refine b_own 8 (f_lst a_nil) (fun x_kinds => ?_)
  refine c_forP1 (v := (fun (s3 : D) => [.val x_row, .val x_at, .val x_top, .val s2, .no, .no, .val x_coinage, .val x_caps, .own s3, .no, .no, .no, .no])) (i_range1 T.z_range (a_cons (e_op opd_add e_int (e_op opd_mod (e_int1 T.z_int (e_ix (e_var 0) (e_op opd_add (e_var 1) e_int))) e_int)) a_nil)) (g_name 4) (le_eq (le_eq (le_eq (le_eq (le_no (le_no (le_eq (le_eq (le_eq (le_no (le_no (le_no (le_no le_nil))))))))))))) ?_ ?_
  · intro s3 x_k
    refine b_set 9 (e_call4 (ok__law_purse T) (e_var 0) (e_op opd_add (e_op opd_add (e_var 1) e_int) (e_op opd_mul e_int (e_var 4))) (e_len1 T.z_len (e_var 6)) e_int) (fun x_given => ?_)
    refine b_set 10 (e_tuple1 T.z_tuple (e_new (f_lc (i_range1 T.z_range (a_cons (e_len1 T.z_len (e_var 6)) a_nil)) (lc1 (own := [("j", 12)]) (by decide +kernel) (g_name 12) (by decide) (fun x_j => ts_nil) (fun x_j => (e_op opd_mod (e_int1 T.z_int (e_ix (e_var 0) (e_op opd_add (e_op opd_add (e_op opd_add (e_var 1) e_int) (e_op opd_mul e_int (e_var 4))) (e_var 12)))) (e_op opd_add (e_ix (e_var 9) (e_var 12)) e_int))))))) (fun x_back => ?_)
    refine b_set 11 (e_op opd_sub (e_call2 (ok__law_worth T) (e_var 6) (e_var 9)) (e_call2 (ok__law_worth T) (e_var 6) (e_var 10))) (fun x_price => ?_)
    refine c_ifp (u := (fun (a4 : D) => [.val x_row, .val x_at, .val x_top, .val s2, .val x_k, .no, .val x_coinage, .val x_caps, .own s3, .val x_given, .val x_back, .val a4, .no])) (t_w (w_and (t_cmp opd_gt (e_var 4) e_int) (w_and1 (t_cmp opd_eq (e_op opd_mod (e_int1 T.z_int (e_ix (e_var 0) (e_op opd_add (e_op opd_add (e_var 1) e_int) (e_op opd_mul e_int (e_var 4))))) e_int) e_int)))) ?_ ?_ (fun a4 => ?_)
    · refine b_set 11 (e_op opd_mod (e_int1 T.z_int (e_ix (e_var 0) (e_op opd_add (e_op opd_add (e_var 1) e_int) (e_op opd_mul e_int (e_var 4))))) (e_op opd_add (e_call2 (ok__law_worth T) (e_var 6) (e_var 9)) e_int)) (fun x_price => ?_)
      exact b_nil (le_eq (le_eq (le_eq (le_eq (le_eq (le_no (le_eq (le_eq (le_eq (le_eq (le_eq (le_eq (le_no le_nil)))))))))))))
    · exact b_nil (le_eq (le_eq (le_eq (le_eq (le_eq (le_no (le_eq (le_eq (le_eq (le_eq (le_eq (le_eq (le_no le_nil)))))))))))))
    refine b_app 8 rfl (e_tup (a_cons (e_var 9) (a_cons (e_var 11) a_nil))) (fun x_kinds => ?_)
    exact b_nil (le_eq (le_eq (le_eq (le_eq (le_no (le_no (le_eq (le_eq (le_eq (le_no (le_no (le_no (le_no le_nil)))))))))))))
  intro s5
  refine b_frz 8 rfl ?_
  exact b_retF (e_tup (a_cons (e_var 6) (a_cons (e_var 7) (a_cons (e_tuple1 T.z_tuple (e_var 8)) a_nil))))
theorem ok__law_bad_coins {G : GX} (T : Top G) : FnD G 1 "_law_bad_coins" 3 (ap3 f__law_bad_coins_D) := by
  refine fn_ok3 (k := 0) T.t__law_bad_coins sc__law_bad_coins rfl fun x_shop x_kind x_place => ?_
  show BOk _ _ [.val x_shop, .val x_kind, .val x_place, .no, .no, .no, .no, .no, .no, .no, .no] _ _ _
  delta f__law_bad_coins_D
  refine c_asg3 (e_var 0) (g_tup (gs_cons (g_name 3) (gs_cons (g_name 4) (gs_cons (g_name 5) gs_nil)))) (fun x_coinage x_caps x_kinds => ?_)
  refine c_if (t_cmp opd_eq (e_var 1) e_int) ?_ ?_ kFD
  · exact b_retD (e_tup (a_cons (e_tuple1 T.z_tuple (e_new (f_lc (i_range1 T.z_range (a_cons e_int a_nil)) (lc1 (own := [("k", 10)]) (by decide +kernel) (g_name 10) (by decide) (fun x_k => ts_nil) (fun x_k => (e_op opd_add (e_op opd_add e_int (e_var 2)) (e_op opd_mul e_int (e_var 10)))))))) (a_cons (e_tup (a_cons e_int (a_cons e_int (a_cons e_int (a_cons e_int (a_cons e_int a_nil)))))) (a_cons (e_tup (a_cons (e_tup (a_cons (e_tup (a_cons e_int (a_cons e_int (a_cons e_int (a_cons e_int (a_cons e_int a_nil)))))) (a_cons e_int a_nil))) a_nil)) a_nil))))
  refine c_if (t_cmp opd_eq (e_var 1) e_int) ?_ ?_ kFD
  · exact b_retD (e_tup (a_cons (e_tup a_nil) (a_cons (e_tup a_nil) (a_cons (e_tup (a_cons (e_tup (a_cons (e_tup a_nil) (a_cons e_int a_nil))) a_nil)) a_nil))))
  refine c_if (t_w (w_and (t_cmp opd_eq (e_var 1) e_int) (w_and1 (t_cmp opd_eq (e_len1 T.z_len (e_var 3)) e_int)))) ?_ ?_ kFD
  · exact b_retD (e_tup (a_cons (e_tup (a_cons e_int (a_cons e_int a_nil))) (a_cons (e_tup (a_cons e_int (a_cons e_int a_nil))) (a_cons (e_tup (a_cons (e_tup (a_cons (e_tup (a_cons e_int (a_cons e_int a_nil))) (a_cons e_int a_nil))) a_nil)) a_nil))))
  refine c_ifp (u := (fun (a1 : D) => [.val x_shop, .val x_kind, .val x_place, .val x_coinage, .val x_caps, .val x_kinds, .val a1, .no, .no, .no, .no])) (t_cmp opd_eq (e_var 1) e_int) ?_ ?_ (fun a1 => ?_)
  · refine b_set 6 (e_op opd_add (e_op opd_add (e_sl (e_var 3) o_none (o_some e_int)) (e_sl (e_var 3) o_none (o_some e_int))) (e_sl (e_var 3) (o_some e_int) o_none)) (fun x_coins => ?_)
    exact b_nil (le_eq (le_eq (le_eq (le_eq (le_eq (le_eq (le_eq (le_no (le_no (le_no (le_no le_nil)))))))))))
  · refine b_set 6 (e_ix (e_new (f_lst (a_cons (e_new (f_list1 T.z_list (e_var 3))) (a_cons (e_op opd_add (e_tup (a_cons e_int a_nil)) (e_sl (e_var 3) (o_some e_int) o_none)) (a_cons (e_tup a_nil) (a_cons (e_op opd_add (e_sl (e_var 3) o_none (o_some (e_ng e_int))) (e_tup (a_cons e_int a_nil))) (a_cons (e_op opd_add (e_tup (a_cons e_bl a_nil)) (e_sl (e_var 3) (o_some e_int) o_none)) a_nil))))))) (e_var 1)) (fun x_coins => ?_)
    exact b_nil (le_eq (le_eq (le_eq (le_eq (le_eq (le_eq (le_eq (le_no (le_no (le_no (le_no le_nil)))))))))))
  refine b_own 7 (f_lst a_nil) (fun x_fitting => ?_)
  refine c_forP2 (v := (fun (s2 : D) => [.val x_shop, .val x_kind, .val x_place, .val x_coinage, .val x_caps, .val x_kinds, .val a1, .own s2, .no, .no, .no])) (i_seq (e_var 5)) (g_tup (gs_cons (g_name 8) (gs_cons (g_name 9) gs_nil))) (le_eq (le_eq (le_eq (le_eq (le_eq (le_eq (le_eq (le_eq (le_no (le_no (le_no le_nil))))))))))) ?_ ?_
  · intro s2 x_given x_price
    refine b_app 7 rfl (e_tup (a_cons (e_var 8) (a_cons (e_min2 T.z_min (e_var 9) (e_sum1 T.z_sum (e_new (f_lc (i_range1 T.z_range (a_cons (e_len1 T.z_len (e_var 8)) a_nil)) (lc1 (own := [("k", 10)]) (by decide +kernel) (g_name 10) (by decide) (fun x_k => ts_nil) (fun x_k => (e_op opd_mul (e_int1 T.z_int (e_ix (e_var 6) (e_var 10))) (e_ix (e_var 8) (e_var 10))))))))) a_nil))) (fun x_fitting => ?_)
    exact b_nil (le_eq (le_eq (le_eq (le_eq (le_eq (le_eq (le_eq (le_eq (le_no (le_no (le_no le_nil)))))))))))
  intro s3
  refine b_frz 7 rfl ?_
  exact b_retF (e_tup (a_cons (e_var 6) (a_cons (e_var 4) (a_cons (e_tuple1 T.z_tuple (e_var 7)) a_nil))))
theorem ok__law_put {G : GX} (T : Top G) : FnD G 1 "_law_put" 3 (ap3 f__law_put_D) := by
  refine fn_ok3 (k := 0) T.t__law_put sc__law_put rfl fun x_items x_place x_thing => ?_
  show BOk _ _ [.val x_items, .val x_place, .val x_thing] _ _ _
  delta f__law_put_D
  exact b_retF (e_op opd_add (e_op opd_add (e_sl (e_var 0) o_none (o_some (e_var 1))) (e_tup (a_cons (e_var 2) a_nil))) (e_sl (e_var 0) (o_some (e_op opd_add (e_var 1) e_int)) o_none))
theorem ok__law_bad_counts {G : GX} (T : Top G) : FnD G 2 "_law_bad_counts" 3 (ap3 f__law_bad_counts_D) := by
  refine fn_ok3 (k := 1) T.t__law_bad_counts sc__law_bad_counts rfl fun x_counts x_kind x_place => ?_
  show BOk _ _ [.val x_counts, .val x_kind, .val x_place] _ _ _
  delta f__law_bad_counts_D
  refine c_if (t_cmp opd_lt (e_var 1) e_int) ?_ ?_ kFD
  · exact b_retD (e_call3 (ok__law_put T) (e_var 0) (e_var 2) (e_ix (e_new (f_lst (a_cons e_int (a_cons (e_ng e_int) (a_cons e_bl a_nil))))) (e_var 1)))
  exact b_retF (e_ix (e_new (f_lst (a_cons (e_op opd_add (e_var 0) (e_tup (a_cons e_int a_nil))) (a_cons (e_sl (e_var 0) (o_some e_int) o_none) (a_cons (e_new (f_list1 T.z_list (e_var 0))) a_nil))))) (e_op opd_sub (e_var 1) e_int))
theorem ok__law_bad_kind {G : GX} (T : Top G) : FnD G 3 "_law_bad_kind" 5 (ap5 f__law_bad_kind_D) := by
  refine fn_ok5 (k := 2) T.t__law_bad_kind sc__law_bad_kind rfl fun x_given x_price x_whole x_kind x_place => ?_
  show BOk _ _ [.val x_given, .val x_price, .val x_whole, .val x_kind, .val x_place] _ _ _
  delta f__law_bad_kind_D
  refine c_if (t_cmp opd_lt (e_var 3) e_int) ?_ ?_ kFD
  · exact b_retD (e_tup (a_cons (e_call3 (ok__law_bad_counts T) (e_var 0) (e_var 3) (e_var 4)) (a_cons (e_min2 T.z_min (e_var 1) e_int) a_nil)))
  refine c_if (t_cmp opd_lt (e_var 3) e_int) ?_ ?_ kFD
  · exact b_retD (e_tup (a_cons (e_var 0) (a_cons (e_ix (e_new (f_lst (a_cons (e_op opd_add (e_var 2) e_int) (a_cons (e_ng e_int) (a_cons e_bl (a_cons e_non a_nil)))))) (e_op opd_sub (e_var 3) e_int)) a_nil)))
  exact b_retF (e_ix (e_new (f_lst (a_cons (e_new (f_lst (a_cons (e_var 0) (a_cons (e_var 1) a_nil)))) (a_cons (e_tup (a_cons (e_var 0) (a_cons (e_var 1) (a_cons e_int a_nil)))) (a_cons e_non a_nil))))) (e_op opd_sub (e_var 3) e_int))
theorem ok__law_spoilt {G : GX} (T : Top G) : FnD G 4 "_law_spoilt" 3 (ap3 f__law_spoilt_D) := by
  refine fn_ok3 (k := 3) T.t__law_spoilt sc__law_spoilt rfl fun x_shop x_row x_at => ?_
  show BOk _ _ [.val x_shop, .val x_row, .val x_at, .no, .no, .no, .no, .no, .no, .no, .no, .no, .no] _ _ _
  delta f__law_spoilt_D
  refine c_asg3 (e_var 0) (g_tup (gs_cons (g_name 3) (gs_cons (g_name 4) (gs_cons (g_name 5) gs_nil)))) (fun x_coinage x_caps x_kinds => ?_)
  refine b_set 6 (e_op opd_mod (e_int1 T.z_int (e_ix (e_var 1) (e_var 2))) e_int) (fun x_kind => ?_)
  refine b_set 7 (e_op opd_mod (e_int1 T.z_int (e_ix (e_var 1) (e_op opd_add (e_var 2) e_int))) (e_len1 T.z_len (e_var 3))) (fun x_place => ?_)
  refine b_set 8 (e_op opd_mod (e_int1 T.z_int (e_ix (e_var 1) (e_op opd_add (e_var 2) e_int))) (e_len1 T.z_len (e_var 5))) (fun x_which => ?_)
  refine c_asg2 (e_ix (e_var 5) (e_var 8)) (g_tup (gs_cons (g_name 9) (gs_cons (g_name 10) gs_nil))) (fun x_given x_price => ?_)
  refine c_if (t_cmp opd_lt (e_var 6) e_int) ?_ ?_ kFD
  · exact b_retD (e_ix (e_new (f_lst (a_cons e_non (a_cons e_int (a_cons e_str (a_cons (e_new (f_lst (a_cons (e_var 3) (a_cons (e_var 4) (a_cons (e_var 5) a_nil))))) (a_cons (e_tup (a_cons (e_var 3) (a_cons (e_var 4) a_nil))) (a_cons (e_tup (a_cons (e_var 3) (a_cons (e_var 4) (a_cons (e_var 5) (a_cons (e_tup a_nil) a_nil))))) a_nil)))))))) (e_var 6))
  refine c_if (t_cmp opd_lt (e_var 6) e_int) ?_ ?_ kFD
  · exact b_retD (e_call3 (ok__law_bad_coins T) (e_var 0) (e_op opd_sub (e_var 6) e_int) (e_var 7))
  refine c_if (t_cmp opd_lt (e_var 6) e_int) ?_ ?_ kFD
  · exact b_retD (e_tup (a_cons (e_var 3) (a_cons (e_call3 (ok__law_bad_counts T) (e_var 4) (e_op opd_sub (e_var 6) e_int) (e_var 7)) (a_cons (e_var 5) a_nil))))
  refine c_if (t_cmp opd_lt (e_var 6) e_int) ?_ ?_ kFD
  · exact b_retD (e_tup (a_cons (e_var 3) (a_cons (e_var 4) (a_cons (e_ix (e_new (f_lst (a_cons (e_tup a_nil) (a_cons (e_new (f_list1 T.z_list (e_var 5))) a_nil)))) (e_op opd_sub (e_var 6) e_int)) a_nil))))
  refine c_if (t_cmp opd_eq (e_var 6) e_int) ?_ ?_ kFD
  · refine b_set 11 (e_op opd_add (e_op opd_add (e_op opd_add (e_op opd_add (e_op opd_add (e_var 5) (e_var 5)) (e_var 5)) (e_var 5)) (e_var 5)) (e_var 5)) (fun x_six => ?_)
    exact b_retD (e_tup (a_cons (e_var 3) (a_cons (e_var 4) (a_cons (e_sl (e_var 11) o_none (o_some e_int)) a_nil))))
  refine b_set 12 (e_call5 (ok__law_bad_kind T) (e_var 9) (e_var 10) (e_call2 (ok__law_worth T) (e_var 3) (e_var 9)) (e_op opd_sub (e_var 6) e_int) (e_var 7)) (fun x_bad => ?_)
  exact b_retF (e_tup (a_cons (e_var 3) (a_cons (e_var 4) (a_cons (e_call3 (ok__law_put T) (e_var 5) (e_var 8) (e_var 12)) a_nil))))
theorem ok__law_greatest {G : GX} (T : Top G) : FnD G 2 "_law_greatest" 1 (ap1 f__law_greatest_D) := by
  refine fn_ok1 (k := 1) T.t__law_greatest sc__law_greatest rfl fun x_shop => ?_
  show BOk _ _ [.val x_shop, .no, .no, .no, .no, .no, .no, .no] _ _ _
  delta f__law_greatest_D
  refine b_set 1 (e_ix (e_var 0) e_int) (fun x_coinage => ?_)
  refine b_own 2 (f_lst a_nil) (fun x_kinds => ?_)
  refine c_forP2 (v := (fun (s1 : D) => [.val x_shop, .val x_coinage, .own s1, .no, .no, .no, .no, .no])) (i_seq (e_ix (e_var 0) e_int)) (g_tup (gs_cons (g_name 3) (gs_cons (g_name 4) gs_nil))) (le_eq (le_eq (le_eq (le_no (le_no (le_no (le_no (le_no le_nil)))))))) ?_ ?_
  · intro s1 x_given x_price
    refine b_app 2 rfl (e_tup (a_cons (e_var 3) (a_cons (e_call2 (ok__law_worth T) (e_var 1) (e_var 3)) a_nil))) (fun x_kinds => ?_)
    exact b_nil (le_eq (le_eq (le_eq (le_no (le_no (le_no (le_no (le_no le_nil))))))))
  intro s2
  refine b_set 5 (e_tuple1 T.z_tuple (e_new (f_lc (i_seq (e_var 1)) (lc1 (own := [("value", 7)]) (by decide +kernel) (g_name 7) (by decide) (fun x_value => ts_nil) (fun x_value => e_int))))) (fun x_full => ?_)
  refine b_set 6 (e_tup (a_cons (e_var 5) (a_cons (e_op opd_mul e_int (e_sum1 T.z_sum (e_var 1))) a_nil))) (fun x_most => ?_)
  refine b_frz 2 rfl ?_
  refine b_set 2 (e_sl (e_new (f_cat (e_var 2) (e_new (f_lst (a_cons (e_var 6) (a_cons (e_var 6) (a_cons (e_var 6) (a_cons (e_var 6) a_nil)))))))) o_none (o_some e_int)) (fun x_kinds => ?_)
  exact b_retF (e_tup (a_cons (e_var 1) (a_cons (e_var 5) (a_cons (e_tuple1 T.z_tuple (e_var 2)) a_nil))))
theorem ok__law_told {G : GX} (T : Top G) : FnD G 5 "_law_told" 1 (ap1 f__law_told_D) := by
  obtain ⟨C, hC, hex, ⟨D1, m1, k1⟩, ⟨D2, m2, k2⟩, ⟨D3, m3, k3⟩, ⟨D4, m4, k4⟩⟩ := T.x_InvalidShop
  exact fn_try (k := 4) (a := "value") (y := "answer") (n := "e") (r1 := 1) (m2 := fun _ => (iteO ((E2 isD (some D.non) (some D.non)).bind getB) (some (D.int 0)) (some (D.int 2)))) T.t__law_told sc__law_told rfl (ok_check_shop T hC) hC hex (by rfl) (by rfl) (by decide) (by decide) (by decide) (by decide) (Or.inl rfl) (Or.inl rfl) (by rfl) (by intro _; rfl)
    (fun X hX b oe pn hz hf => pss_cons (ps_if (L2.PW.pt (pw_or (pt_isE hX hC.ex hz hf T.z_isinstance m1) (pw_or1 (pt_isE hX hC.ex hz hf T.z_isinstance m2)))) (pss_one (ps_ret pe_int)) pss_nil)
      (pss_cons (ps_if (L2.PW.pt (pw_or (pt_isE hX hC.ex hz hf T.z_isinstance m3) (pw_or1 (pt_isE hX hC.ex hz hf T.z_isinstance m4)))) (pss_one (ps_ret pe_int)) pss_nil) (pss_one (ps_ret pe_int))))
    (fun b Dn σ H h q => isE_go k1 h (isE_go k2 h (isE_go k3 h (isE_go k4 h q))))
    (fun d => by
      refine c_if (t_cmp opd_is (e_var 1) e_non) ?_ ?_ kFD
      · exact b_retD e_int
      exact b_retF e_int)
theorem bo_law {G : GX} (T : Top G) : ∀ x_script, BOk G ⟨["script", "row", "good", "bad", "value", "due"], 5, defScope s_law, fun _ => true⟩ (rho ["script", "row", "good", "bad", "value", "due"] [x_script]) (defBody s_law) (kF G.K) (f_law_D x_script) := by
  intro x_script
  show BOk _ _ [.val x_script, .no, .no, .no, .no, .no] _ _ _
  delta f_law_D
  refine b_set 1 (e_call2 (ok__law_row T) (e_var 0) e_int) (fun x_row => ?_)
  refine b_set 2 (e_call2 (ok__law_full_shop T) (e_var 1) e_int) (fun x_good => ?_)
  refine b_set 3 (e_call3 (ok__law_spoilt T) (e_var 2) (e_var 1) e_int) (fun x_bad => ?_)
  refine c_forR2 (v := (fun (_ : Unit) => [.val x_script, .val x_row, .val x_good, .val x_bad, .no, .no])) rtF (i_seq (e_tup (a_cons (e_tup (a_cons (e_var 3) (a_cons e_int a_nil))) (a_cons (e_tup (a_cons (e_var 2) (a_cons e_int a_nil))) (a_cons (e_tup (a_cons (e_var 3) (a_cons e_int a_nil))) (a_cons (e_tup (a_cons (e_call1 (ok__law_greatest T) (e_var 2)) (a_cons e_int a_nil))) a_nil)))))) (g_tup (gs_cons (g_name 4) (gs_cons (g_name 5) gs_nil))) (le_eq (le_eq (le_eq (le_eq (le_no (le_no le_nil)))))) ?_ ?_
  · intro s1 x_value x_due
    refine c_ife (t_cmp opd_ne (e_call1 (ok__law_told T) (e_var 4)) (e_var 5)) ?_ ?_
    · exact b_ret rtL e_bl
    · exact b_nilL (le_eq (le_eq (le_eq (le_eq (le_no (le_no le_nil))))))
  intro s2
  exact b_retF e_bl
theorem all_mk {l : PySem.W.OpenLaw} {w : World} {K : PySem.W.Frag} {h : Heap} {mg : Str → Option Value} {fa f1 f2 f3 f4 f5 f6 f7 f8 f9 f10 f11 f12 f13 f14 f15 f16 f17 f18 f19 f20 f21 : Addr} (X : K.In h) (GN : h.Ns mainGlobals mg) (hfa : mg "law" = some (.ref fa))
    {od1 an1 od2 an2 od3 an3 od4 an4 od5 an5 od6 an6 od7 an7 od8 an8 od9 an9 od10 an10 od11 an11 od12 an12 od13 an13 od14 an14 od15 an15 od16 an16 od17 an17 od18 an18 od19 an19 od20 an20 od21 an21 : Option Addr} {sl1 sl2 sl3 sl4 sl5 sl6 sl7 sl8 sl9 sl10 sl11 sl12 sl13 sl14 sl15 sl16 sl17 sl18 sl19 sl20 sl21 : Array (Option Value)} {oc1 kV1 dc1 pm1 cd1 ct1 oc2 kV2 dc2 pm2 cd2 ct2 oc3 kV3 dc3 pm3 cd3 ct3 oc4 kV4 dc4 pm4 cd4 ct4 oc5 kV5 dc5 pm5 cd5 ct5 oc6 kV6 dc6 pm6 cd6 ct6 oc7 kV7 dc7 pm7 cd7 ct7 oc8 kV8 dc8 pm8 cd8 ct8 oc9 kV9 dc9 pm9 cd9 ct9 oc10 kV10 dc10 pm10 cd10 ct10 oc11 kV11 dc11 pm11 cd11 ct11 oc12 kV12 dc12 pm12 cd12 ct12 oc13 kV13 dc13 pm13 cd13 ct13 oc14 kV14 dc14 pm14 cd14 ct14 oc15 kV15 dc15 pm15 cd15 ct15 oc16 kV16 dc16 pm16 cd16 ct16 oc17 kV17 dc17 pm17 cd17 ct17 oc18 kV18 dc18 pm18 cd18 ct18 oc19 kV19 dc19 pm19 cd19 ct19 oc20 kV20 dc20 pm20 cd20 ct20 oc21 kV21 dc21 pm21 cd21 ct21 : Value}
    (a1 : PySem.W.nsIn K mainGlobals "is_number" = some (some (.ref f1))) (l1 : K.lookup f1 = some ⟨oc1, od1, .func (PySem.W.fnOf "is_number" "is_number" (defArgs s_is_number) (defBody s_is_number) (defScope s_is_number) .none kV1 dc1 pm1 an1 cd1 ct1), sl1⟩) (c1 : PySem.W.codeIn K cd1 "is_number" = true) (k1 : PySem.W.keepIn K (.ref f1) = true)
    (a2 : PySem.W.nsIn K mainGlobals "is_row" = some (some (.ref f2))) (l2 : K.lookup f2 = some ⟨oc2, od2, .func (PySem.W.fnOf "is_row" "is_row" (defArgs s_is_row) (defBody s_is_row) (defScope s_is_row) .none kV2 dc2 pm2 an2 cd2 ct2), sl2⟩) (c2 : PySem.W.codeIn K cd2 "is_row" = true) (k2 : PySem.W.keepIn K (.ref f2) = true)
    (a3 : PySem.W.nsIn K mainGlobals "is_coinage" = some (some (.ref f3))) (l3 : K.lookup f3 = some ⟨oc3, od3, .func (PySem.W.fnOf "is_coinage" "is_coinage" (defArgs s_is_coinage) (defBody s_is_coinage) (defScope s_is_coinage) .none kV3 dc3 pm3 an3 cd3 ct3), sl3⟩) (c3 : PySem.W.codeIn K cd3 "is_coinage" = true) (k3 : PySem.W.keepIn K (.ref f3) = true)
    (a4 : PySem.W.nsIn K mainGlobals "sum_of" = some (some (.ref f4))) (l4 : K.lookup f4 = some ⟨oc4, od4, .func (PySem.W.fnOf "sum_of" "sum_of" (defArgs s_sum_of) (defBody s_sum_of) (defScope s_sum_of) .none kV4 dc4 pm4 an4 cd4 ct4), sl4⟩) (c4 : PySem.W.codeIn K cd4 "sum_of" = true) (k4 : PySem.W.keepIn K (.ref f4) = true)
    (a5 : PySem.W.nsIn K mainGlobals "are_caps" = some (some (.ref f5))) (l5 : K.lookup f5 = some ⟨oc5, od5, .func (PySem.W.fnOf "are_caps" "are_caps" (defArgs s_are_caps) (defBody s_are_caps) (defScope s_are_caps) .none kV5 dc5 pm5 an5 cd5 ct5), sl5⟩) (c5 : PySem.W.codeIn K cd5 "are_caps" = true) (k5 : PySem.W.keepIn K (.ref f5) = true)
    (a6 : PySem.W.nsIn K mainGlobals "is_kind" = some (some (.ref f6))) (l6 : K.lookup f6 = some ⟨oc6, od6, .func (PySem.W.fnOf "is_kind" "is_kind" (defArgs s_is_kind) (defBody s_is_kind) (defScope s_is_kind) .none kV6 dc6 pm6 an6 cd6 ct6), sl6⟩) (c6 : PySem.W.codeIn K cd6 "is_kind" = true) (k6 : PySem.W.keepIn K (.ref f6) = true)
    (a7 : PySem.W.nsIn K mainGlobals "is_shop" = some (some (.ref f7))) (l7 : K.lookup f7 = some ⟨oc7, od7, .func (PySem.W.fnOf "is_shop" "is_shop" (defArgs s_is_shop) (defBody s_is_shop) (defScope s_is_shop) .none kV7 dc7 pm7 an7 cd7 ct7), sl7⟩) (c7 : PySem.W.codeIn K cd7 "is_shop" = true) (k7 : PySem.W.keepIn K (.ref f7) = true)
    (a8 : PySem.W.nsIn K mainGlobals "check_shop" = some (some (.ref f8))) (l8 : K.lookup f8 = some ⟨oc8, od8, .func (PySem.W.fnOf "check_shop" "check_shop" (defArgs s_check_shop) (defBody s_check_shop) (defScope s_check_shop) .none kV8 dc8 pm8 an8 cd8 ct8), sl8⟩) (c8 : PySem.W.codeIn K cd8 "check_shop" = true) (k8 : PySem.W.keepIn K (.ref f8) = true)
    (a9 : PySem.W.nsIn K mainGlobals "_law_mixed" = some (some (.ref f9))) (l9 : K.lookup f9 = some ⟨oc9, od9, .func (PySem.W.fnOf "_law_mixed" "_law_mixed" (defArgs s__law_mixed) (defBody s__law_mixed) (defScope s__law_mixed) .none kV9 dc9 pm9 an9 cd9 ct9), sl9⟩) (c9 : PySem.W.codeIn K cd9 "_law_mixed" = true) (k9 : PySem.W.keepIn K (.ref f9) = true)
    (a10 : PySem.W.nsIn K mainGlobals "_law_row" = some (some (.ref f10))) (l10 : K.lookup f10 = some ⟨oc10, od10, .func (PySem.W.fnOf "_law_row" "_law_row" (defArgs s__law_row) (defBody s__law_row) (defScope s__law_row) .none kV10 dc10 pm10 an10 cd10 ct10), sl10⟩) (c10 : PySem.W.codeIn K cd10 "_law_row" = true) (k10 : PySem.W.keepIn K (.ref f10) = true)
    (a11 : PySem.W.nsIn K mainGlobals "_law_purse" = some (some (.ref f11))) (l11 : K.lookup f11 = some ⟨oc11, od11, .func (PySem.W.fnOf "_law_purse" "_law_purse" (defArgs s__law_purse) (defBody s__law_purse) (defScope s__law_purse) .none kV11 dc11 pm11 an11 cd11 ct11), sl11⟩) (c11 : PySem.W.codeIn K cd11 "_law_purse" = true) (k11 : PySem.W.keepIn K (.ref f11) = true)
    (a12 : PySem.W.nsIn K mainGlobals "_law_worth" = some (some (.ref f12))) (l12 : K.lookup f12 = some ⟨oc12, od12, .func (PySem.W.fnOf "_law_worth" "_law_worth" (defArgs s__law_worth) (defBody s__law_worth) (defScope s__law_worth) .none kV12 dc12 pm12 an12 cd12 ct12), sl12⟩) (c12 : PySem.W.codeIn K cd12 "_law_worth" = true) (k12 : PySem.W.keepIn K (.ref f12) = true)
    (a13 : PySem.W.nsIn K mainGlobals "_law_full_shop" = some (some (.ref f13))) (l13 : K.lookup f13 = some ⟨oc13, od13, .func (PySem.W.fnOf "_law_full_shop" "_law_full_shop" (defArgs s__law_full_shop) (defBody s__law_full_shop) (defScope s__law_full_shop) .none kV13 dc13 pm13 an13 cd13 ct13), sl13⟩) (c13 : PySem.W.codeIn K cd13 "_law_full_shop" = true) (k13 : PySem.W.keepIn K (.ref f13) = true)
    (a14 : PySem.W.nsIn K mainGlobals "_law_bad_coins" = some (some (.ref f14))) (l14 : K.lookup f14 = some ⟨oc14, od14, .func (PySem.W.fnOf "_law_bad_coins" "_law_bad_coins" (defArgs s__law_bad_coins) (defBody s__law_bad_coins) (defScope s__law_bad_coins) .none kV14 dc14 pm14 an14 cd14 ct14), sl14⟩) (c14 : PySem.W.codeIn K cd14 "_law_bad_coins" = true) (k14 : PySem.W.keepIn K (.ref f14) = true)
    (a15 : PySem.W.nsIn K mainGlobals "_law_put" = some (some (.ref f15))) (l15 : K.lookup f15 = some ⟨oc15, od15, .func (PySem.W.fnOf "_law_put" "_law_put" (defArgs s__law_put) (defBody s__law_put) (defScope s__law_put) .none kV15 dc15 pm15 an15 cd15 ct15), sl15⟩) (c15 : PySem.W.codeIn K cd15 "_law_put" = true) (k15 : PySem.W.keepIn K (.ref f15) = true)
    (a16 : PySem.W.nsIn K mainGlobals "_law_bad_counts" = some (some (.ref f16))) (l16 : K.lookup f16 = some ⟨oc16, od16, .func (PySem.W.fnOf "_law_bad_counts" "_law_bad_counts" (defArgs s__law_bad_counts) (defBody s__law_bad_counts) (defScope s__law_bad_counts) .none kV16 dc16 pm16 an16 cd16 ct16), sl16⟩) (c16 : PySem.W.codeIn K cd16 "_law_bad_counts" = true) (k16 : PySem.W.keepIn K (.ref f16) = true)
    (a17 : PySem.W.nsIn K mainGlobals "_law_bad_kind" = some (some (.ref f17))) (l17 : K.lookup f17 = some ⟨oc17, od17, .func (PySem.W.fnOf "_law_bad_kind" "_law_bad_kind" (defArgs s__law_bad_kind) (defBody s__law_bad_kind) (defScope s__law_bad_kind) .none kV17 dc17 pm17 an17 cd17 ct17), sl17⟩) (c17 : PySem.W.codeIn K cd17 "_law_bad_kind" = true) (k17 : PySem.W.keepIn K (.ref f17) = true)
    (a18 : PySem.W.nsIn K mainGlobals "_law_spoilt" = some (some (.ref f18))) (l18 : K.lookup f18 = some ⟨oc18, od18, .func (PySem.W.fnOf "_law_spoilt" "_law_spoilt" (defArgs s__law_spoilt) (defBody s__law_spoilt) (defScope s__law_spoilt) .none kV18 dc18 pm18 an18 cd18 ct18), sl18⟩) (c18 : PySem.W.codeIn K cd18 "_law_spoilt" = true) (k18 : PySem.W.keepIn K (.ref f18) = true)
    (a19 : PySem.W.nsIn K mainGlobals "_law_greatest" = some (some (.ref f19))) (l19 : K.lookup f19 = some ⟨oc19, od19, .func (PySem.W.fnOf "_law_greatest" "_law_greatest" (defArgs s__law_greatest) (defBody s__law_greatest) (defScope s__law_greatest) .none kV19 dc19 pm19 an19 cd19 ct19), sl19⟩) (c19 : PySem.W.codeIn K cd19 "_law_greatest" = true) (k19 : PySem.W.keepIn K (.ref f19) = true)
    (a20 : PySem.W.nsIn K mainGlobals "_law_told" = some (some (.ref f20))) (l20 : K.lookup f20 = some ⟨oc20, od20, .func (PySem.W.fnOf "_law_told" "_law_told" (defArgs s__law_told) (defBody s__law_told) (defScope s__law_told) .none kV20 dc20 pm20 an20 cd20 ct20), sl20⟩) (c20 : PySem.W.codeIn K cd20 "_law_told" = true) (k20 : PySem.W.keepIn K (.ref f20) = true)
    (a21 : PySem.W.nsIn K mainGlobals "law" = some (some (.ref f21))) (l21 : K.lookup f21 = some ⟨oc21, od21, .func (PySem.W.fnOf "law" "law" (defArgs s_law) (defBody s_law) (defScope s_law) .none kV21 dc21 pm21 an21 cd21 ct21), sl21⟩) (c21 : PySem.W.codeIn K cd21 "law" = true) (k21 : PySem.W.keepIn K (.ref f21) = true)
    {u_MOST_CAP u_MOST_GIVEN u_MOST_KINDS u_MOST_VALUE u_MOST_VALUES : Value} (g_MOST_CAP : PySem.W.nsIn K mainGlobals "MOST_CAP" = some (some u_MOST_CAP)) (r_MOST_CAP : RelV (.int 3) u_MOST_CAP) (g_MOST_GIVEN : PySem.W.nsIn K mainGlobals "MOST_GIVEN" = some (some u_MOST_GIVEN)) (r_MOST_GIVEN : RelV (.int 3) u_MOST_GIVEN) (g_MOST_KINDS : PySem.W.nsIn K mainGlobals "MOST_KINDS" = some (some u_MOST_KINDS)) (r_MOST_KINDS : RelV (.int 5) u_MOST_KINDS) (g_MOST_VALUE : PySem.W.nsIn K mainGlobals "MOST_VALUE" = some (some u_MOST_VALUE)) (r_MOST_VALUE : RelV (.int 60) u_MOST_VALUE) (g_MOST_VALUES : PySem.W.nsIn K mainGlobals "MOST_VALUES" = some (some u_MOST_VALUES)) (r_MOST_VALUES : RelV (.int 4) u_MOST_VALUES)
    {C_InvalidShop C_InvalidCoinage C_BadText C_NoChange C_NoHistory : Addr}
    (na_InvalidShop : PySem.W.nsIn K mainGlobals "InvalidShop" = some (some (.ref C_InvalidShop))) (nt_InvalidShop : PySem.W.typeIn K (.ref C_InvalidShop) = some (.type "type")) (nh_InvalidShop : PySem.W.hasDictIn K C_InvalidShop = true)
    (na_InvalidCoinage : PySem.W.nsIn K mainGlobals "InvalidCoinage" = some (some (.ref C_InvalidCoinage))) (nt_InvalidCoinage : PySem.W.typeIn K (.ref C_InvalidCoinage) = some (.type "type")) (nh_InvalidCoinage : PySem.W.hasDictIn K C_InvalidCoinage = true)
    (na_BadText : PySem.W.nsIn K mainGlobals "BadText" = some (some (.ref C_BadText))) (nt_BadText : PySem.W.typeIn K (.ref C_BadText) = some (.type "type")) (nh_BadText : PySem.W.hasDictIn K C_BadText = true)
    (na_NoChange : PySem.W.nsIn K mainGlobals "NoChange" = some (some (.ref C_NoChange))) (nt_NoChange : PySem.W.typeIn K (.ref C_NoChange) = some (.type "type")) (nh_NoChange : PySem.W.hasDictIn K C_NoChange = true)
    (na_NoHistory : PySem.W.nsIn K mainGlobals "NoHistory" = some (some (.ref C_NoHistory))) (nt_NoHistory : PySem.W.typeIn K (.ref C_NoHistory) = some (.type "type")) (nh_NoHistory : PySem.W.hasDictIn K C_NoHistory = true)
    (xx_InvalidShop : PySem.W.excIn K C_InvalidShop [.type "ValueError", .type "Exception", .type "BaseException", .type "object"] "ValueError.__new__" = true) (xk_InvalidShop : PySem.W.keepIn K (.ref C_InvalidShop) = true) (xb_InvalidShop : PySem.W.subIn K (.ref C_InvalidShop) (.type "BaseException") = some true) (xs_InvalidShop : PySem.W.subIn K (.ref C_InvalidShop) (.ref C_InvalidShop) = some true)
    (xg_InvalidShop : PySem.W.findIn K (.ref C_InvalidShop) "__getattribute__" = some (some (.builtin "BaseException.__getattribute__"))) (xt_InvalidShop : PySem.W.findIn K (.ref C_InvalidShop) "__getattr__" = some none) (xc_InvalidShop : PySem.W.findIn K (.ref C_InvalidShop) "__class__" = some (some (.builtin "object.__class__"))) (xm_InvalidShop : PySem.W.mroIn K C_InvalidShop (.type "object") = some true)
    (xe_InvalidShop_InvalidCoinage : (Value.ref C_InvalidShop == Value.ref C_InvalidCoinage) = false) (xn_InvalidShop_InvalidCoinage : PySem.W.subIn K (.ref C_InvalidShop) (.ref C_InvalidCoinage) = some false)
    (xe_InvalidShop_BadText : (Value.ref C_InvalidShop == Value.ref C_BadText) = false) (xn_InvalidShop_BadText : PySem.W.subIn K (.ref C_InvalidShop) (.ref C_BadText) = some false)
    (xe_InvalidShop_NoChange : (Value.ref C_InvalidShop == Value.ref C_NoChange) = false) (xn_InvalidShop_NoChange : PySem.W.subIn K (.ref C_InvalidShop) (.ref C_NoChange) = some false)
    (xe_InvalidShop_NoHistory : (Value.ref C_InvalidShop == Value.ref C_NoHistory) = false) (xn_InvalidShop_NoHistory : PySem.W.subIn K (.ref C_InvalidShop) (.ref C_NoHistory) = some false)
    (xo_get : PySem.W.specialIn K (.builtin "object.__class__") "__get__" = some (some (.builtin "getset_descriptor.__get__"))) (xo_tak : PySem.W.takesIn K (.builtin "object.__class__") = some true)
    (z_all : PySem.W.nsIn K mainGlobals "all" = some none) (z_bool : PySem.W.nsIn K mainGlobals "bool" = some none) (z_int : PySem.W.nsIn K mainGlobals "int" = some none) (z_isinstance : PySem.W.nsIn K mainGlobals "isinstance" = some none) (z_len : PySem.W.nsIn K mainGlobals "len" = some none) (z_list : PySem.W.nsIn K mainGlobals "list" = some none) (z_min : PySem.W.nsIn K mainGlobals "min" = some none) (z_range : PySem.W.nsIn K mainGlobals "range" = some none) (z_sorted : PySem.W.nsIn K mainGlobals "sorted" = some none) (z_sum : PySem.W.nsIn K mainGlobals "sum" = some none) (z_tuple : PySem.W.nsIn K mainGlobals "tuple" = some none) (z_zip : PySem.W.nsIn K mainGlobals "zip" = some none) :
    ∃ fd : FuncData, (∀ (s : Shared) (v : Value), BindsTo s fd ⟨[v], []⟩ [("script", v)]) ∧ ∀ base : Heap, K.In base → base.Ns mainGlobals mg → FnOk l.prog w K mg base CX0 6 fa fd ["script"] (spD K 1 (ap1 f_law_D)) := by
  have e := hfa.symm.trans (PySem.W.mg_of X GN a21)
  cases e
  have F1 := fun_mk (st := s_is_number) l1 c1 k1
  have b1 := F1.binds (ps := ["value", "least", "most"]) fun _ _ _ _ _ _ us hl => match us, hl with | [_, _, _], _ => rfl
  have F2 := fun_mk (st := s_is_row) l2 c2 k2
  have b2 := F2.binds (ps := ["value", "length"]) fun _ _ _ _ _ _ us hl => match us, hl with | [_, _], _ => rfl
  have F3 := fun_mk (st := s_is_coinage) l3 c3 k3
  have b3 := F3.binds (ps := ["value", "most"]) fun _ _ _ _ _ _ us hl => match us, hl with | [_, _], _ => rfl
  have F4 := fun_mk (st := s_sum_of) l4 c4 k4
  have b4 := F4.binds (ps := ["coinage", "purse"]) fun _ _ _ _ _ _ us hl => match us, hl with | [_, _], _ => rfl
  have F5 := fun_mk (st := s_are_caps) l5 c5 k5
  have b5 := F5.binds (ps := ["coinage", "value"]) fun _ _ _ _ _ _ us hl => match us, hl with | [_, _], _ => rfl
  have F6 := fun_mk (st := s_is_kind) l6 c6 k6
  have b6 := F6.binds (ps := ["coinage", "value"]) fun _ _ _ _ _ _ us hl => match us, hl with | [_, _], _ => rfl
  have F7 := fun_mk (st := s_is_shop) l7 c7 k7
  have b7 := F7.binds (ps := ["value"]) fun _ _ _ _ _ _ us hl => match us, hl with | [_], _ => rfl
  have F8 := fun_mk (st := s_check_shop) l8 c8 k8
  have b8 := F8.binds (ps := ["value"]) fun _ _ _ _ _ _ us hl => match us, hl with | [_], _ => rfl
  have F9 := fun_mk (st := s__law_mixed) l9 c9 k9
  have b9 := F9.binds (ps := ["script", "k"]) fun _ _ _ _ _ _ us hl => match us, hl with | [_, _], _ => rfl
  have F10 := fun_mk (st := s__law_row) l10 c10 k10
  have b10 := F10.binds (ps := ["script", "many"]) fun _ _ _ _ _ _ us hl => match us, hl with | [_, _], _ => rfl
  have F11 := fun_mk (st := s__law_purse) l11 c11 k11
  have b11 := F11.binds (ps := ["row", "at", "places", "most"]) fun _ _ _ _ _ _ us hl => match us, hl with | [_, _, _, _], _ => rfl
  have F12 := fun_mk (st := s__law_worth) l12 c12 k12
  have b12 := F12.binds (ps := ["coinage", "purse"]) fun _ _ _ _ _ _ us hl => match us, hl with | [_, _], _ => rfl
  have F13 := fun_mk (st := s__law_full_shop) l13 c13 k13
  have b13 := F13.binds (ps := ["row", "at"]) fun _ _ _ _ _ _ us hl => match us, hl with | [_, _], _ => rfl
  have F14 := fun_mk (st := s__law_bad_coins) l14 c14 k14
  have b14 := F14.binds (ps := ["shop", "kind", "place"]) fun _ _ _ _ _ _ us hl => match us, hl with | [_, _, _], _ => rfl
  have F15 := fun_mk (st := s__law_put) l15 c15 k15
  have b15 := F15.binds (ps := ["items", "place", "thing"]) fun _ _ _ _ _ _ us hl => match us, hl with | [_, _, _], _ => rfl
  have F16 := fun_mk (st := s__law_bad_counts) l16 c16 k16
  have b16 := F16.binds (ps := ["counts", "kind", "place"]) fun _ _ _ _ _ _ us hl => match us, hl with | [_, _, _], _ => rfl
  have F17 := fun_mk (st := s__law_bad_kind) l17 c17 k17
  have b17 := F17.binds (ps := ["given", "price", "whole", "kind", "place"]) fun _ _ _ _ _ _ us hl => match us, hl with | [_, _, _, _, _], _ => rfl
  have F18 := fun_mk (st := s__law_spoilt) l18 c18 k18
  have b18 := F18.binds (ps := ["shop", "row", "at"]) fun _ _ _ _ _ _ us hl => match us, hl with | [_, _, _], _ => rfl
  have F19 := fun_mk (st := s__law_greatest) l19 c19 k19
  have b19 := F19.binds (ps := ["shop"]) fun _ _ _ _ _ _ us hl => match us, hl with | [_], _ => rfl
  have F20 := fun_mk (st := s__law_told) l20 c20 k20
  have b20 := F20.binds (ps := ["value"]) fun _ _ _ _ _ _ us hl => match us, hl with | [_], _ => rfl
  have F21 := fun_mk (st := s_law) l21 c21 k21
  refine ⟨PySem.W.fnOf "law" "law" (defArgs s_law) (defBody s_law) (defScope s_law) .none kV21 dc21 pm21 an21 cd21 ct21, fun s v => .of_eq rfl, fun base _ _ => ?_⟩
  have T : Top ⟨l.prog, w, K, mg, base⟩ := ⟨PySem.W.mg_none_of X GN z_all, PySem.W.mg_none_of X GN z_bool, PySem.W.mg_none_of X GN z_int, PySem.W.mg_none_of X GN z_isinstance, PySem.W.mg_none_of X GN z_len, PySem.W.mg_none_of X GN z_list, PySem.W.mg_none_of X GN z_min, PySem.W.mg_none_of X GN z_range, PySem.W.mg_none_of X GN z_sorted, PySem.W.mg_none_of X GN z_sum, PySem.W.mg_none_of X GN z_tuple, PySem.W.mg_none_of X GN z_zip, ⟨_, PySem.W.mg_of X GN g_MOST_CAP, r_MOST_CAP⟩, ⟨_, PySem.W.mg_of X GN g_MOST_GIVEN, r_MOST_GIVEN⟩, ⟨_, PySem.W.mg_of X GN g_MOST_KINDS, r_MOST_KINDS⟩, ⟨_, PySem.W.mg_of X GN g_MOST_VALUE, r_MOST_VALUE⟩, ⟨_, PySem.W.mg_of X GN g_MOST_VALUES, r_MOST_VALUES⟩, ⟨C_InvalidShop, ⟨PySem.W.mg_of X GN na_InvalidShop, xx_InvalidShop, xk_InvalidShop, xb_InvalidShop, nt_InvalidShop, nh_InvalidShop, xs_InvalidShop, ⟨xg_InvalidShop, xt_InvalidShop, xb_InvalidShop, nh_InvalidShop, xc_InvalidShop, xo_get, xo_tak, xm_InvalidShop⟩⟩, PySem.W.exm_ref xb_InvalidShop nh_InvalidShop nt_InvalidShop xs_InvalidShop, ⟨_, PySem.W.mg_of X GN na_InvalidCoinage, kit_ne xe_InvalidShop_InvalidCoinage nh_InvalidCoinage nt_InvalidCoinage xn_InvalidShop_InvalidCoinage⟩, ⟨_, PySem.W.mg_of X GN na_BadText, kit_ne xe_InvalidShop_BadText nh_BadText nt_BadText xn_InvalidShop_BadText⟩, ⟨_, PySem.W.mg_of X GN na_NoChange, kit_ne xe_InvalidShop_NoChange nh_NoChange nt_NoChange xn_InvalidShop_NoChange⟩, ⟨_, PySem.W.mg_of X GN na_NoHistory, kit_ne xe_InvalidShop_NoHistory nh_NoHistory nt_NoHistory xn_InvalidShop_NoHistory⟩⟩, ⟨_, _, F1, PySem.W.mg_of X GN a1, b1⟩, ⟨_, _, F2, PySem.W.mg_of X GN a2, b2⟩, ⟨_, _, F3, PySem.W.mg_of X GN a3, b3⟩, ⟨_, _, F4, PySem.W.mg_of X GN a4, b4⟩, ⟨_, _, F5, PySem.W.mg_of X GN a5, b5⟩, ⟨_, _, F6, PySem.W.mg_of X GN a6, b6⟩, ⟨_, _, F7, PySem.W.mg_of X GN a7, b7⟩, ⟨_, _, F8, PySem.W.mg_of X GN a8, b8⟩, ⟨_, _, F9, PySem.W.mg_of X GN a9, b9⟩, ⟨_, _, F10, PySem.W.mg_of X GN a10, b10⟩, ⟨_, _, F11, PySem.W.mg_of X GN a11, b11⟩, ⟨_, _, F12, PySem.W.mg_of X GN a12, b12⟩, ⟨_, _, F13, PySem.W.mg_of X GN a13, b13⟩, ⟨_, _, F14, PySem.W.mg_of X GN a14, b14⟩, ⟨_, _, F15, PySem.W.mg_of X GN a15, b15⟩, ⟨_, _, F16, PySem.W.mg_of X GN a16, b16⟩, ⟨_, _, F17, PySem.W.mg_of X GN a17, b17⟩, ⟨_, _, F18, PySem.W.mg_of X GN a18, b18⟩, ⟨_, _, F19, PySem.W.mg_of X GN a19, b19⟩, ⟨_, _, F20, PySem.W.mg_of X GN a20, b20⟩⟩
  exact fn_okF1 (G := ⟨l.prog, w, K, mg, base⟩) F21 sc_law rfl (fun x => bo_law T x)
end DL.k28
open PySem PySem.W PyProof.Rows
set_option maxHeartbeats 0 in
theorem PySem.Challenge.cw_changeforall_k28_check_shop_holds : PySem.Challenge.rw_changeforall_k28_check_shop.Holds := by
  w_on; o_law; k_head; (case hw => w_witness2)
  k_fill
  refine L2.walk_of (l := PySem.Challenge.rw_changeforall_k28_check_shop) (n := 63) (k := 6) (x := "script") (CX := fun _ => L2.CX0) (sp := fun w => DL.spD _ 1 (DL.ap1 DL.f_law_D)) rfl (by decide) rfl ⟨rfl, by decide, by decide⟩ (fun w h Y => PySem.W.kIn_of Y) ?F (fun _ _ a ns hl _ hS => DL.sp_law (DL.k28.law_true ns hl) hS) (fun _ _ _ _ _ h => h)
  case F =>
    intro w mg fa h KX G hmg
    refine' DL.k28.all_mk KX G hmg ?a1 ?l1 ?c1 ?k1 ?a2 ?l2 ?c2 ?k2 ?a3 ?l3 ?c3 ?k3 ?a4 ?l4 ?c4 ?k4 ?a5 ?l5 ?c5 ?k5 ?a6 ?l6 ?c6 ?k6 ?a7 ?l7 ?c7 ?k7 ?a8 ?l8 ?c8 ?k8 ?a9 ?l9 ?c9 ?k9 ?a10 ?l10 ?c10 ?k10 ?a11 ?l11 ?c11 ?k11 ?a12 ?l12 ?c12 ?k12 ?a13 ?l13 ?c13 ?k13 ?a14 ?l14 ?c14 ?k14 ?a15 ?l15 ?c15 ?k15 ?a16 ?l16 ?c16 ?k16 ?a17 ?l17 ?c17 ?k17 ?a18 ?l18 ?c18 ?k18 ?a19 ?l19 ?c19 ?k19 ?a20 ?l20 ?c20 ?k20 ?a21 ?l21 ?c21 ?k21 ?g_MOST_CAP ?r_MOST_CAP ?g_MOST_GIVEN ?r_MOST_GIVEN ?g_MOST_KINDS ?r_MOST_KINDS ?g_MOST_VALUE ?r_MOST_VALUE ?g_MOST_VALUES ?r_MOST_VALUES ?na_InvalidShop ?nt_InvalidShop ?nh_InvalidShop ?na_InvalidCoinage ?nt_InvalidCoinage ?nh_InvalidCoinage ?na_BadText ?nt_BadText ?nh_BadText ?na_NoChange ?nt_NoChange ?nh_NoChange ?na_NoHistory ?nt_NoHistory ?nh_NoHistory ?xx_InvalidShop ?xk_InvalidShop ?xb_InvalidShop ?xs_InvalidShop ?xg_InvalidShop ?xt_InvalidShop ?xc_InvalidShop ?xm_InvalidShop ?xe_InvalidShop_InvalidCoinage ?xn_InvalidShop_InvalidCoinage ?xe_InvalidShop_BadText ?xn_InvalidShop_BadText ?xe_InvalidShop_NoChange ?xn_InvalidShop_NoChange ?xe_InvalidShop_NoHistory ?xn_InvalidShop_NoHistory ?xo_get ?xo_tak ?z_all ?z_bool ?z_int ?z_isinstance ?z_len ?z_list ?z_min ?z_range ?z_sorted ?z_sum ?z_tuple ?z_zip
    (case a1 => k_is); (case l1 => k_is); (case c1 => k_is); (case k1 => k_is); (case a2 => k_is); (case l2 => k_is); (case c2 => k_is); (case k2 => k_is); (case a3 => k_is); (case l3 => k_is); (case c3 => k_is); (case k3 => k_is); (case a4 => k_is); (case l4 => k_is); (case c4 => k_is); (case k4 => k_is); (case a5 => k_is); (case l5 => k_is); (case c5 => k_is); (case k5 => k_is); (case a6 => k_is); (case l6 => k_is); (case c6 => k_is); (case k6 => k_is); (case a7 => k_is); (case l7 => k_is); (case c7 => k_is); (case k7 => k_is); (case a8 => k_is); (case l8 => k_is); (case c8 => k_is); (case k8 => k_is); (case a9 => k_is); (case l9 => k_is); (case c9 => k_is); (case k9 => k_is); (case a10 => k_is); (case l10 => k_is); (case c10 => k_is); (case k10 => k_is); (case a11 => k_is); (case l11 => k_is); (case c11 => k_is); (case k11 => k_is); (case a12 => k_is); (case l12 => k_is); (case c12 => k_is); (case k12 => k_is); (case a13 => k_is); (case l13 => k_is); (case c13 => k_is); (case k13 => k_is); (case a14 => k_is); (case l14 => k_is); (case c14 => k_is); (case k14 => k_is); (case a15 => k_is); (case l15 => k_is); (case c15 => k_is); (case k15 => k_is); (case a16 => k_is); (case l16 => k_is); (case c16 => k_is); (case k16 => k_is); (case a17 => k_is); (case l17 => k_is); (case c17 => k_is); (case k17 => k_is); (case a18 => k_is); (case l18 => k_is); (case c18 => k_is); (case k18 => k_is); (case a19 => k_is); (case l19 => k_is); (case c19 => k_is); (case k19 => k_is); (case a20 => k_is); (case l20 => k_is); (case c20 => k_is); (case k20 => k_is); (case a21 => k_is); (case l21 => k_is); (case c21 => k_is); (case k21 => k_is); (case g_MOST_CAP => k_is); (case r_MOST_CAP => exact ⟨_, rfl⟩); (case g_MOST_GIVEN => k_is); (case r_MOST_GIVEN => exact ⟨_, rfl⟩); (case g_MOST_KINDS => k_is); (case r_MOST_KINDS => exact ⟨_, rfl⟩); (case g_MOST_VALUE => k_is); (case r_MOST_VALUE => exact ⟨_, rfl⟩); (case g_MOST_VALUES => k_is); (case r_MOST_VALUES => exact ⟨_, rfl⟩); (case na_InvalidShop => k_is); (case nt_InvalidShop => k_is); (case nh_InvalidShop => k_is); (case na_InvalidCoinage => k_is); (case nt_InvalidCoinage => k_is); (case nh_InvalidCoinage => k_is); (case na_BadText => k_is); (case nt_BadText => k_is); (case nh_BadText => k_is); (case na_NoChange => k_is); (case nt_NoChange => k_is); (case nh_NoChange => k_is); (case na_NoHistory => k_is); (case nt_NoHistory => k_is); (case nh_NoHistory => k_is); (case xx_InvalidShop => k_exc); (case xk_InvalidShop => k_is); (case xb_InvalidShop => k_is); (case xs_InvalidShop => first | rfl | decide +kernel | k_is); (case xg_InvalidShop => k_is); (case xt_InvalidShop => k_is); (case xc_InvalidShop => k_is); (case xm_InvalidShop => k_is); (case xe_InvalidShop_InvalidCoinage => first | rfl | decide +kernel | k_is); (case xn_InvalidShop_InvalidCoinage => first | rfl | decide +kernel | k_is); (case xe_InvalidShop_BadText => first | rfl | decide +kernel | k_is); (case xn_InvalidShop_BadText => first | rfl | decide +kernel | k_is); (case xe_InvalidShop_NoChange => first | rfl | decide +kernel | k_is); (case xn_InvalidShop_NoChange => first | rfl | decide +kernel | k_is); (case xe_InvalidShop_NoHistory => first | rfl | decide +kernel | k_is); (case xn_InvalidShop_NoHistory => first | rfl | decide +kernel | k_is); (case xo_get => k_is); (case xo_tak => k_is); (case z_all => k_is); (case z_bool => k_is); (case z_int => k_is); (case z_isinstance => k_is); (case z_len => k_is); (case z_list => k_is); (case z_min => k_is); (case z_range => k_is); (case z_sorted => k_is); (case z_sum => k_is); (case z_tuple => k_is); (case z_zip => k_is)
