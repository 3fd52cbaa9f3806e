import PyProof.Rows.All
import Wide.All
import OpenK.AllK
import Wide.FinOn
import HandS.ExcValue
import HandS.NoneIn
import HandS.ForMost
import HandS.Walk
import HandS.TupAny
import HandS.Deep
import HandS.Wide
import HandS.IsInst
import KE.DataCmp
import KE.SortData
import KE.DataMinMax
import HandS.WordsDict
import HandS.Text
import HandS.Conv
import KE.KTupSum
import HandS.Rev
import HandS.Zip
import KE.GoesMore
import KE.GoesEnum
import HandS.SortInts
import HandS.More
import KE.KDictSum
import HandS.RaiseMore
import HandS.ExcOwn
import HandS.ExcIs
import HandS.WordsExc
import HandS.Call
import HandS.List
import HandS.HotCalls
import KE.GoesZip
import PySem.Challenge.RW_changeforall_k00_check_coinage
set_option Elab.async false
set_option linter.all false
set_option maxRecDepth 100000
set_option maxHeartbeats 4000000
namespace DL
open PySem PySem.Spec PyProof.Rows L2

/-- pure data -/
inductive D where
  | non | bl (b : Bool) | int (i : Int) | str (x : Str)
  | tup (xs : List D) | lst (xs : List D)
  | dI (kvs : List (Int × D)) | dT (kvs : List (List Int × D))
  | rg (lo hi : Int) | scr (ns : List Int)

def KL (K : PySem.W.Frag) (a : Addr) (xs : List V) : Prop :=
  ∃ (o : Obj) (its : Array Value) (n : Nat), K.lookup a = some o ∧ o.cls = .type "list" ∧ o.dict = none ∧ o.data = .seq its n ∧ its.size ≤ sizeLine ∧ Vals xs its.toList

mutual
def Rep (K : PySem.W.Frag) (F : Hp) : D → V → Prop
  | .non, v => v = .non
  | .bl b, v => v = .bl b
  | .int i, v => v = .int i
  | .str x, v => v = .str x
  | .tup ds, v => ∃ a vs, v = .ref a ∧ F a = some (.tup vs) ∧ Reps K F ds vs
  | .lst ds, v => ∃ a vs, v = .ref a ∧ F a = some (.lst vs) ∧ Reps K F ds vs
  | .dI kvs, v => ∃ a ws, v = .ref a ∧ F a = some (.dK ws) ∧ RepI K F kvs ws
  | .dT kvs, v => ∃ a ws, v = .ref a ∧ F a = some (.dT ws) ∧ RepT K F kvs ws
  | .rg lo hi, v => ∃ a, v = .ref a ∧ F a = some (.rng lo hi)
  | .scr ns, v => ∃ a, v = .ref a ∧ (F a = some (.lst (ns.map V.int)) ∨ KL K a (ns.map V.int))
def Reps (K : PySem.W.Frag) (F : Hp) : List D → List V → Prop
  | [], vs => vs = []
  | d :: ds, vs => ∃ v r, vs = v :: r ∧ Rep K F d v ∧ Reps K F ds r
def RepI (K : PySem.W.Frag) (F : Hp) : List (Int × D) → List (Key × V) → Prop
  | [], ws => ws = []
  | (k, d) :: kvs, ws => ∃ v r, ws = (Sum.inl k, v) :: r ∧ Rep K F d v ∧ RepI K F kvs r
def RepT (K : PySem.W.Frag) (F : Hp) : List (List Int × D) → List (List Key × V) → Prop
  | [], ws => ws = []
  | (k, d) :: kvs, ws => ∃ v r, ws = (k.map Sum.inl, v) :: r ∧ Rep K F d v ∧ RepT K F kvs r
end

section
variable {K : PySem.W.Frag} {F F' : Hp}
mutual
theorem Rep.mono (h : Same F F') : ∀ (d : D) (v : V), Rep K F d v → Rep K F' d v
  | .non, _, r => r
  | .bl _, _, r => r
  | .int _, _, r => r
  | .str _, _, r => r
  | .tup ds, v, r => by
    unfold Rep at r ⊢
    obtain ⟨a, vs, e, f, q⟩ := r
    exact ⟨a, vs, e, h _ _ f, Reps.mono h ds vs q⟩
  | .lst ds, v, r => by
    unfold Rep at r ⊢
    obtain ⟨a, vs, e, f, q⟩ := r
    exact ⟨a, vs, e, h _ _ f, Reps.mono h ds vs q⟩
  | .dI kvs, v, r => by
    unfold Rep at r ⊢
    obtain ⟨a, vs, e, f, q⟩ := r
    exact ⟨a, vs, e, h _ _ f, RepI.mono h kvs vs q⟩
  | .dT kvs, v, r => by
    unfold Rep at r ⊢
    obtain ⟨a, vs, e, f, q⟩ := r
    exact ⟨a, vs, e, h _ _ f, RepT.mono h kvs vs q⟩
  | .rg _ _, v, r => by
    unfold Rep at r ⊢
    obtain ⟨a, e, f⟩ := r
    exact ⟨a, e, h _ _ f⟩
  | .scr _, v, r => by
    unfold Rep at r ⊢
    obtain ⟨a, e, f⟩ := r
    exact ⟨a, e, f.elim (fun f => .inl (h _ _ f)) .inr⟩
theorem Reps.mono (h : Same F F') : ∀ (ds : List D) (vs : List V), Reps K F ds vs → Reps K F' ds vs
  | [], _, r => r
  | d :: ds, vs, r => by
    unfold Reps at r ⊢
    obtain ⟨v, q, e, r1, r2⟩ := r
    exact ⟨v, q, e, Rep.mono h d v r1, Reps.mono h ds q r2⟩
theorem RepI.mono (h : Same F F') : ∀ (kvs : List (Int × D)) (ws : List (Key × V)), RepI K F kvs ws → RepI K F' kvs ws
  | [], _, r => r
  | (k, d) :: kvs, ws, r => by
    unfold RepI at r ⊢
    obtain ⟨v, q, e, r1, r2⟩ := r
    exact ⟨v, q, e, Rep.mono h d v r1, RepI.mono h kvs q r2⟩
theorem RepT.mono (h : Same F F') : ∀ (kvs : List (List Int × D)) (ws : List (List Key × V)), RepT K F kvs ws → RepT K F' kvs ws
  | [], _, r => r
  | (k, d) :: kvs, ws, r => by
    unfold RepT at r ⊢
    obtain ⟨v, q, e, r1, r2⟩ := r
    exact ⟨v, q, e, Rep.mono h d v r1, RepT.mono h kvs q r2⟩
end
end
end DL
set_option autoImplicit false
set_option maxRecDepth 100000
set_option maxHeartbeats 4000000
namespace DL
open PySem PySem.Spec PyProof.Rows L2
section
variable {K : PySem.W.Frag} {F F' H H' H1 H2 F1 F2 B F0 : Hp}

/-! ### lists of data -/
theorem Reps.len : ∀ {ds : List D} {vs : List V}, Reps K F ds vs → ds.length = vs.length
  | [], _, r => by unfold Reps at r; subst r; rfl
  | d :: ds, vs, r => by
    unfold Reps at r
    obtain ⟨v, q, rfl, _, r2⟩ := r
    simp [Reps.len r2]
theorem Reps.nil : Reps K F [] [] := by unfold Reps; rfl
theorem Reps.cons {d v ds vs} (h : Rep K F d v) (t : Reps K F ds vs) : Reps K F (d :: ds) (v :: vs) := by unfold Reps; exact ⟨v, vs, rfl, h, t⟩
theorem Reps.inv {d ds vs} (r : Reps K F (d :: ds) vs) : ∃ v q, vs = v :: q ∧ Rep K F d v ∧ Reps K F ds q := by unfold Reps at r; exact r
theorem Reps.nil_inv {vs} (r : Reps K F [] vs) : vs = [] := by unfold Reps at r; exact r
theorem Reps.get : ∀ {ds : List D} {vs : List V} {i : Nat} {d : D}, Reps K F ds vs → ds[i]? = some d → ∃ v, vs[i]? = some v ∧ Rep K F d v
  | [], _, _, _, _, e => by simp at e
  | d :: ds, vs, 0, x, r, e => by
    obtain ⟨v, q, rfl, r1, _⟩ := r.inv
    simp at e; subst e; exact ⟨v, rfl, r1⟩
  | d :: ds, vs, i + 1, x, r, e => by
    obtain ⟨v, q, rfl, _, r2⟩ := r.inv
    obtain ⟨y, h1, h2⟩ := Reps.get (i := i) r2 (by simpa using e)
    exact ⟨y, by simpa using h1, h2⟩
theorem Reps.append : ∀ {ds es : List D} {vs ws : List V}, Reps K F ds vs → Reps K F es ws → Reps K F (ds ++ es) (vs ++ ws)
  | [], _, _, _, r, s => by rw [r.nil_inv]; exact s
  | d :: ds, es, vs, ws, r, s => by
    obtain ⟨v, q, rfl, r1, r2⟩ := r.inv
    exact .cons r1 (Reps.append r2 s)
theorem Reps.take : ∀ {ds : List D} {vs : List V} (n : Nat), Reps K F ds vs → Reps K F (ds.take n) (vs.take n)
  | _, _, 0, _ => .nil
  | [], _, n + 1, r => by rw [r.nil_inv]; exact .nil
  | d :: ds, vs, n + 1, r => by
    obtain ⟨v, q, rfl, r1, r2⟩ := r.inv
    exact .cons r1 (Reps.take n r2)
theorem Reps.drop : ∀ {ds : List D} {vs : List V} (n : Nat), Reps K F ds vs → Reps K F (ds.drop n) (vs.drop n)
  | _, _, 0, r => r
  | [], _, n + 1, r => by rw [r.nil_inv]; exact .nil
  | d :: ds, vs, n + 1, r => by
    obtain ⟨v, q, rfl, r1, r2⟩ := r.inv
    exact Reps.drop n r2
theorem Reps.set {x : D} {y : V} (h : Rep K F x y) : ∀ {ds : List D} {vs : List V} (i : Nat), Reps K F ds vs → Reps K F (ds.set i x) (vs.set i y)
  | [], _, _, r => by rw [r.nil_inv]; exact .nil
  | d :: ds, vs, 0, r => by
    obtain ⟨v, q, rfl, r1, r2⟩ := r.inv
    exact .cons h r2
  | d :: ds, vs, i + 1, r => by
    obtain ⟨v, q, rfl, r1, r2⟩ := r.inv
    exact .cons r1 (Reps.set h i r2)
theorem Reps.reverse : ∀ {ds : List D} {vs : List V}, Reps K F ds vs → Reps K F ds.reverse vs.reverse
  | [], _, r => by rw [r.nil_inv]; exact .nil
  | d :: ds, vs, r => by
    obtain ⟨v, q, rfl, r1, r2⟩ := r.inv
    rw [List.reverse_cons, List.reverse_cons]
    exact (Reps.reverse r2).append (.cons r1 .nil)
theorem Reps.rep {ds : List D} {vs : List V} (h : Reps K F ds vs) : ∀ k : Nat, Reps K F (List.replicate k ds).flatten (List.replicate k vs).flatten
  | 0 => .nil
  | k + 1 => by
    rw [List.replicate_succ, List.replicate_succ, List.flatten_cons, List.flatten_cons]
    exact h.append (Reps.rep h k)
theorem Reps.ints : ∀ {ns : List Int} {vs : List V}, Reps K F (ns.map D.int) vs → vs = ns.map V.int
  | [], _, r => r.nil_inv
  | n :: ns, vs, r => by
    obtain ⟨v, q, rfl, r1, r2⟩ := r.inv
    unfold Rep at r1
    rw [r1, Reps.ints r2]; rfl
theorem Reps.ofInts : ∀ (ns : List Int), Reps K F (ns.map D.int) (ns.map V.int)
  | [] => .nil
  | n :: ns => .cons (by unfold Rep; rfl) (Reps.ofInts ns)

/-! ### frozen in the heap -/
def Sub (F H : Hp) : Prop := ∀ a o, F a = some o → H a = some o ∨ ((∀ vs, o ≠ .tup vs) ∧ ∃ ob, H a = some (.frz ob o))
theorem Sub.rd (s : Sub F H) {a : Addr} {o : HO} (h : F a = some o) : Rd H a o := (s a o h).elim .inl fun h => .inr h.2
theorem Sub.tup (s : Sub F H) {a : Addr} {vs : List V} (h : F a = some (.tup vs)) : H a = some (.tup vs) := (s a _ h).elim id fun h => absurd rfl (h.1 vs)
theorem lst_sq {a : Addr} {vs : List V} (h : F a = some (.lst vs)) (s : Sub F H) : SqL K H a vs := .inl (s.rd h)
theorem scr_sq {a : Addr} {vs : List V} (h : F a = some (.lst vs) ∨ KL K a vs) (s : Sub F H) : SqL K H a vs := h.elim (fun h => .inl (s.rd h)) .inr
theorem tup_sq {a vs} (h : F a = some (.tup vs)) (s : Sub F H) : SqT K H a vs := .inl (s.rd h)

/-- the frozen part and the heap have grown -/
structure Ext (F H F' H' : Hp) : Prop where
  heap : Same H H'
  froz : Same F F'
  sub : Sub F' H'
  new : ∀ a o, F' a = some o → F a = none → H a = none ∨ ∃ vs, o = .tup vs
theorem Ext.refl (s : Sub F H) : Ext F H F H := ⟨Same.refl _, Same.refl _, s, fun a o h n => by rw [h] at n; cases n⟩
theorem Ext.trans (a : Ext F H F1 H1) (b : Ext F1 H1 F2 H2) : Ext F H F2 H2 :=
  ⟨a.heap.trans b.heap, a.froz.trans b.froz, b.sub, fun x o h n => by
    cases q : F1 x with
    | some u =>
      have e := b.froz x u q
      rw [h] at e
      cases e
      exact a.new x _ q n
    | none => exact (b.new x o h q).imp a.heap.free id⟩
theorem Ext.stay (x : Ext F H F' H') {p : Addr} {o : HO} (n : F p = none) (h : H p = some o) (ho : ∀ vs, o ≠ .tup vs) : F' p = none := by
  cases q : F' p with
  | none => rfl
  | some u =>
    rcases x.new p u q n with h1 | ⟨vs, rfl⟩
    · rw [h] at h1; cases h1
    · have h2 := x.sub.tup q
      rw [x.heap _ _ h] at h2
      exact absurd (Option.some.inj h2) (ho vs)
theorem same_new {p : Addr} {o : HO} (n : H p = none) : Same H (upd H p o) := fun b x e => by rw [upd_ne (ne_of_none e n)]; exact e
theorem Sub.keep (s : Sub F H) (h : Same H H') : Sub F H' := fun a o e => (s a o e).elim (fun e => .inl (h _ _ e)) fun ⟨t, u, e⟩ => .inr ⟨t, u, h _ _ e⟩
theorem Sub.none (s : Sub F H) {p} (n : H p = none) : F p = none := by
  cases q : F p with
  | none => rfl
  | some o => rcases s p o q with e | ⟨_, u, e⟩ <;> rw [n] at e <;> cases e
/-- a new object, frozen at once -/
theorem Ext.frz {p : Addr} {o : HO} (s : Sub F H) (n : H p = none) : Ext F H (upd F p o) (upd H p o) :=
  ⟨same_new n, same_new (s.none n), fun a u e => by
    by_cases h : a = p
    · subst h; rw [upd_same] at e; cases e; exact .inl upd_same
    · rw [upd_ne h] at e; exact s.keep (same_new n) a u e, fun a u e q => by
    by_cases h : a = p
    · subst h; exact .inl n
    · rw [upd_ne h, q] at e; cases e⟩
/-- a new object, not frozen -/
theorem Ext.own {p : Addr} {o : HO} (s : Sub F H) (n : H p = none) : Ext F H F (upd H p o) :=
  ⟨same_new n, Same.refl _, s.keep (same_new n), fun a u e q => by rw [e] at q; cases q⟩
theorem Ext.heapOnly (s : Sub F H) (h : Same H H') : Ext F H F H' := ⟨h, Same.refl _, s.keep h, fun a u e q => by rw [e] at q; cases q⟩

/-! ### slots -/
inductive Sl where
  | no | val (d : D) | own (d : D)
def nthS : List Sl → Nat → Sl
  | [], _ => .no
  | s :: _, 0 => s
  | _ :: r, i + 1 => nthS r i
def setS : List Sl → Nat → Sl → List Sl
  | [], _, _ => []
  | _ :: r, 0, x => x :: r
  | s :: r, i + 1, x => s :: setS r i x
theorem nth_set_self : ∀ {ρ : List Sl} {i : Nat} {x : Sl}, i < ρ.length → nthS (setS ρ i x) i = x
  | [], _, _, h => by simp at h
  | _ :: _, 0, _, _ => rfl
  | _ :: r, i + 1, x, h => nth_set_self (ρ := r) (i := i) (by simpa using h)
theorem nth_set_ne : ∀ {ρ : List Sl} {i j : Nat} {x : Sl}, i ≠ j → nthS (setS ρ i x) j = nthS ρ j
  | [], _, _, _, _ => rfl
  | _ :: _, 0, 0, _, h => absurd rfl h
  | _ :: _, 0, _ + 1, _, _ => rfl
  | _ :: _, _ + 1, 0, _, _ => rfl
  | _ :: r, i + 1, j + 1, x, h => nth_set_ne (ρ := r) (i := i) (j := j) (fun e => h (by rw [e]))
theorem set_length : ∀ {ρ : List Sl} {i : Nat} {x : Sl}, (setS ρ i x).length = ρ.length
  | [], _, _ => rfl
  | _ :: _, 0, _ => rfl
  | _ :: r, i + 1, x => by simp only [setS, List.length_cons]; rw [set_length]
theorem nth_lt : ∀ {ρ : List Sl} {i : Nat}, nthS ρ i ≠ .no → i < ρ.length
  | [], _, h => absurd rfl h
  | _ :: _, 0, _ => by simp
  | _ :: r, i + 1, h => by
    have := nth_lt (ρ := r) (i := i) h
    simp only [List.length_cons]; omega

/-- an object of one's own: what it holds is frozen, it itself is not -/
def OwnO (K : PySem.W.Frag) (F : Hp) : D → HO → Prop
  | .lst ds, o => ∃ vs, o = .lst vs ∧ Reps K F ds vs
  | .dI kvs, o => ∃ ws, o = .dK ws ∧ RepI K F kvs ws
  | .dT kvs, o => ∃ ws, o = .dT ws ∧ RepT K F kvs ws
  | _, _ => False
theorem OwnO.notTup {d : D} {o : HO} {vs : List V} (r : OwnO K F d o) (e : o = .tup vs) : False := by
  subst e
  cases d with
  | lst ds => obtain ⟨vs, e, _⟩ := r; cases e
  | dI kvs => obtain ⟨vs, e, _⟩ := r; cases e
  | dT kvs => obtain ⟨vs, e, _⟩ := r; cases e
  | _ => exact r
theorem OwnO.mono (h : Same F F') {d o} (r : OwnO K F d o) : OwnO K F' d o := by
  cases d with
  | lst ds => obtain ⟨vs, e, r⟩ := r; exact ⟨vs, e, Reps.mono h _ _ r⟩
  | dI kvs => obtain ⟨vs, e, r⟩ := r; exact ⟨vs, e, RepI.mono h _ _ r⟩
  | dT kvs => obtain ⟨vs, e, r⟩ := r; exact ⟨vs, e, RepT.mono h _ _ r⟩
  | _ => exact r
theorem OwnO.rep {d o p} (r : OwnO K F d o) (e : F' p = some o) (h : Same F F') : Rep K F' d (.ref p) := by
  cases d with
  | lst ds => obtain ⟨vs, rfl, r⟩ := r; unfold Rep; exact ⟨p, vs, rfl, e, Reps.mono h _ _ r⟩
  | dI kvs => obtain ⟨vs, rfl, r⟩ := r; unfold Rep; exact ⟨p, vs, rfl, e, RepI.mono h _ _ r⟩
  | dT kvs => obtain ⟨vs, rfl, r⟩ := r; unfold Rep; exact ⟨p, vs, rfl, e, RepT.mono h _ _ r⟩
  | _ => exact False.elim r

/-- what is read of the slots -/
structure VR (K : PySem.W.Frag) (ρ : List Sl) (σ : L2.St) (F H : Hp) : Prop where
  sub : Sub F H
  len : σ.length = ρ.length
  vals : ∀ i d, nthS ρ i = .val d → ∃ v, σ[i]? = some (some v) ∧ Rep K F d v
  owns : ∀ i d, nthS ρ i = .own d → ∃ p o, σ[i]? = some (some (.ref p)) ∧ H p = some o ∧ OwnO K F d o ∧ F p = none
theorem VR.ext {ρ σ} (r : VR K ρ σ F H) (e : Ext F H F' H') : VR K ρ σ F' H' :=
  ⟨e.sub, r.len, fun i d h => let ⟨v, a, b⟩ := r.vals i d h; ⟨v, a, Rep.mono e.froz _ _ b⟩, fun i d h => by
    obtain ⟨p, o, a, b, c, n⟩ := r.owns i d h
    exact ⟨p, o, a, e.heap _ _ b, c.mono e.froz, e.stay n b fun vs z => c.notTup z⟩⟩

/-! ### all that is one's own, taken for frozen -/
def frzS : Sl → Sl
  | .own d => .val d
  | s => s
theorem nth_frz : ∀ (ρ : List Sl) (i : Nat), nthS (ρ.map frzS) i = frzS (nthS ρ i)
  | [], _ => rfl
  | _ :: _, 0 => rfl
  | _ :: r, i + 1 => nth_frz r i
open Classical in
noncomputable def allF (ρ : List Sl) (σ : L2.St) (F H : Hp) : Hp := fun a => if ∃ i d, nthS ρ i = .own d ∧ σ[i]? = some (some (.ref a)) then H a else F a
theorem VR.allF {ρ σ} (r : VR K ρ σ F H) : Same F (allF ρ σ F H) ∧ VR K (ρ.map frzS) σ (allF ρ σ F H) H := by
  have hs : Same F (DL.allF ρ σ F H) := fun a o e => by
    unfold DL.allF
    split
    · rename_i h
      obtain ⟨i, d, h1, h2⟩ := h
      obtain ⟨p, u, a1, b, c, n⟩ := r.owns i d h1
      rw [a1] at h2; cases h2
      rw [n] at e; cases e
    · exact e
  refine ⟨hs, fun a o e => ?_, by rw [List.length_map]; exact r.len, fun i d h => ?_, fun i d h => ?_⟩
  · unfold DL.allF at e
    split at e
    · exact .inl e
    · exact r.sub a o e
  · rw [nth_frz] at h
    cases q : nthS ρ i with
    | no => rw [q] at h; cases h
    | val e =>
      rw [q] at h; cases h
      obtain ⟨v, a, b⟩ := r.vals i d q
      exact ⟨v, a, Rep.mono hs _ _ b⟩
    | own e =>
      rw [q] at h; cases h
      obtain ⟨p, o, a, b, c, n⟩ := r.owns i d q
      refine ⟨_, a, c.rep ?_ hs⟩
      unfold DL.allF
      rw [if_pos ⟨i, d, q, a⟩]; exact b
  · rw [nth_frz] at h
    cases q : nthS ρ i <;> rw [q] at h <;> cases h
end

/-! ### where one stands: the law (G), the def (its names, its level), the scope -/
structure GX where
  P : Program
  w : World
  K : PySem.W.Frag
  mg : Str → Option Value
  base : Heap
structure LX where
  N : List Str
  k : Nat
  sc : Scope
  ow : Str → Bool
structure XOk (G : GX) (L : LX) (X : Cx) : Prop where
  hP : X.prog = G.P
  hw : X.w = G.w
  hK : X.K = G.K
  hm : X.mg = G.mg
  hb : X.base = G.base
  hN : X.N = L.N
  nd : L.N.Nodup
  hsc : X.env.scope = L.sc
  hfn : X.fn = L.ow
  calm : X.calm = true
  room : Room L.k X.A

/-! ### the judgements -/
def tE (K : PySem.W.Frag) (ρ : List Sl) (m : Option D) : TE := fun σ H Q => ∃ F d, m = some d ∧ VR K ρ σ F H ∧ ∀ v F' H', Ext F H F' H' → Rep K F' d v → Q v H'
def tT (K : PySem.W.Frag) (ρ : List Sl) (m : Option Bool) : TT := fun σ H Q => ∃ F b, m = some b ∧ VR K ρ σ F H ∧ ∀ F' H', Ext F H F' H' → Q b H'
def tF (K : PySem.W.Frag) (ρ : List Sl) (m : Option D) : TE := fun σ H Q => ∃ F d, m = some d ∧ VR K ρ σ F H ∧ ∀ p o F' H', Ext F H F' H' → H p = none → H' p = some o → OwnO K F' d o → F' p = none → Q (.ref p) H'
def tA (K : PySem.W.Frag) (ρ : List Sl) (m : Option (List D)) : TA := fun σ H Q => ∃ F ds, m = some ds ∧ VR K ρ σ F H ∧ ∀ vs F' H', Ext F H F' H' → Reps K F' ds vs → Q vs H'
def EOk (G : GX) (L : LX) (ρ : List Sl) (e : Expr) (m : Option D) : Prop := ∀ X, XOk G L X → PE X e (tE G.K ρ m)
def FOk (G : GX) (L : LX) (ρ : List Sl) (e : Expr) (m : Option D) : Prop := ∀ X, XOk G L X → PE X e (tF G.K ρ m)
def TOk (G : GX) (L : LX) (ρ : List Sl) (e : Expr) (m : Option Bool) : Prop := ∀ X, XOk G L X → PT X e (tT G.K ρ m)
def WOk (G : GX) (L : LX) (ρ : List Sl) (e : Expr) (m : Option Bool) : Prop := ∀ X, XOk G L X → PW X e (tT G.K ρ m)
def AOk (G : GX) (L : LX) (ρ : List Sl) (es : List Expr) (m : Option (List D)) : Prop := ∀ X, XOk G L X → PA X es (tA G.K ρ m)
theorem wkE {X : Cx} {e : Expr} {t t' : TE} (h : PE X e t) (w : ∀ σ H Q, t' σ H Q → t σ H Q) : PE X e t' := ⟨fun pins s σ H Q I q => h.run pins s σ H Q I (w σ H Q q)⟩
theorem wkT {X : Cx} {e : Expr} {t t' : TT} (h : PT X e t) (w : ∀ σ H Q, t' σ H Q → t σ H Q) : PT X e t' := ⟨fun pins s σ H Q I q => h.run pins s σ H Q I (w σ H Q q)⟩
theorem wkW {X : Cx} {e : Expr} {t t' : TT} (h : PW X e t) (w : ∀ σ H Q, t' σ H Q → t σ H Q) : PW X e t' := ⟨fun wh pins s σ H Q I q => h.run wh pins s σ H Q I (w σ H Q q)⟩
theorem wkA {X : Cx} {es : List Expr} {t t' : TA} (h : PA X es t) (w : ∀ σ H Q, t' σ H Q → t σ H Q) : PA X es t' := ⟨fun pos pins s σ H Q I q => h.run pos pins s σ H Q I (w σ H Q q)⟩

section
variable {G : GX} {L : LX} {ρ : List Sl} {e a b : Expr} {m ma mb : Option D} {pos : Pos}

/-- a new object of one's own is frozen -/
theorem e_new (h : FOk G L ρ e m) : EOk G L ρ e m := fun X hX => wkE (h X hX) fun σ H Q ⟨F, d, em, r, q⟩ => ⟨F, d, em, r, fun p o F' H' x n ho r' hF => by
  have s2 : Same F' (upd F' p o) := fun b u e => by
    by_cases hb : b = p
    · subst hb; rw [hF] at e; cases e
    · rw [upd_ne hb]; exact e
  have e2 : Ext F H (upd F' p o) H' := ⟨x.heap, x.froz.trans s2, fun b u e => by
    by_cases hb : b = p
    · subst hb; rw [upd_same] at e; cases e; exact .inl ho
    · rw [upd_ne hb] at e; exact x.sub b u e, fun b u e z => by
    by_cases hb : b = p
    · subst hb; exact .inl n
    · rw [upd_ne hb] at e; exact x.new b u e z⟩
  exact q _ _ _ e2 (r'.rep upd_same s2)⟩
def flatD : D → Bool
  | .non => true | .bl _ => true | .int _ => true | .str _ => true | _ => false
def flatG (d : D) : Option D := if flatD d then some d else none
theorem rep_flat {K : PySem.W.Frag} {F F' : Hp} {d : D} {v : V} (f : flatD d = true) (r : Rep K F d v) : Rep K F' d v := by
  cases d with
  | non => unfold Rep at r ⊢; exact r
  | bl => unfold Rep at r ⊢; exact r
  | int => unfold Rep at r ⊢; exact r
  | str => unfold Rep at r ⊢; exact r
  | _ => cases f
/-- what is one's own may be read as if frozen where nothing but a scalar comes out -/
theorem e_flat (h : EOk G L (ρ.map frzS) e m) : EOk G L ρ e (m.bind flatG) := fun X hX => wkE (h X hX) fun σ H Q ⟨F, d, em, r, q⟩ => by
  obtain ⟨x, ex, em⟩ := Option.bind_eq_some_iff.mp em
  unfold flatG at em
  split at em
  · rename_i hf
    cases em
    obtain ⟨hs, r'⟩ := r.allF
    refine ⟨_, d, ex, r', fun v F' H' x rr => q v F H' (.heapOnly r.sub x.heap) (rep_flat hf rr)⟩
  · cases em
theorem t_frz {m : Option Bool} (h : TOk G L (ρ.map frzS) e m) : TOk G L ρ e m := fun X hX => wkT (h X hX) fun σ H Q ⟨F, d, em, r, q⟩ => by
  obtain ⟨hs, r'⟩ := r.allF
  exact ⟨_, d, em, r', fun F' H' x => q F H' (.heapOnly r.sub x.heap)⟩

/-! ### names and constants -/
theorem e_var (i : Nat) {x : Str} {d : D} (h : nthS ρ i = .val d := by rfl) (hN : L.N[i]? = some x := by rfl) (hv : Vis L.sc x := by first | exact Or.inl rfl | exact Or.inr (Or.inl rfl) | exact Or.inr (Or.inr rfl))
    (hd : (x == ("__debug__" : Str)) = false := by decide) (hcd : (x == ("__classdict__" : Str)) = false := by decide) : EOk G L ρ (.Name x pos) (some d) := fun X hX =>
  wkE (pe_var (i := i) (by rw [hX.hN]; exact hN) (by rw [hX.hsc]; exact hv) hd hcd) fun σ H Q ⟨F, d', em, r, q⟩ => by
    cases em
    obtain ⟨v, e1, e2⟩ := r.vals i d h
    exact ⟨v, e1, q v F H (.refl r.sub) e2⟩
theorem e_const {v : V} {d : D} (h : ∀ X, XOk G L X → PE X e (tC v)) (hr : ∀ K F, Rep K F d v) : EOk G L ρ e (some d) := fun X hX =>
  wkE (h X hX) fun σ H Q ⟨F, d', em, r, q⟩ => by cases em; exact q v F H (.refl r.sub) (hr _ _)
theorem e_int {i j} : EOk G L ρ (.Constant (.int i) j pos) (some (.int i)) := e_const (fun _ _ => pe_int) fun _ _ => by unfold Rep; rfl
theorem e_bl {i j} : EOk G L ρ (.Constant (.bool i) j pos) (some (.bl i)) := e_const (fun _ _ => pe_bl) fun _ _ => by unfold Rep; rfl
theorem e_non {j} : EOk G L ρ (.Constant .none j pos) (some .non) := e_const (fun _ _ => pe_non) fun _ _ => by unfold Rep; rfl
theorem e_str {x j} : EOk G L ρ (.Constant (.str x) j pos) (some (.str x)) := e_const (fun _ _ => pe_str) fun _ _ => by unfold Rep; rfl
/-- a module's constant -/
theorem e_glob {x : Str} {v : V} {d : D} {u : Value} (hg : L.sc.names.lookup x = some .globalImplicit) (hm : G.mg x = some u) (r : RelV v u) (hr : ∀ K F, Rep K F d v) (hd : (x == ("__debug__" : Str)) = false := by decide) : EOk G L ρ (.Name x pos) (some d) :=
  e_const (fun X hX => pe_glob (by show X.env.scope.names.lookup x = _; rw [hX.hsc]; exact hg) (by rw [hX.hm]; exact hm) r hd) hr

/-! ### operators -/
def E2 (f : D → D → Option D) (ma mb : Option D) : Option D := ma.bind fun x => mb.bind fun y => f x y
/-- f tells what g does of the values -/
def OpD (G : GX) (L : LX) (f : D → D → Option D) (g : Value → Value → Sem Value) : Prop := ∀ X, XOk G L X → ∃ r : R2, OpR X g r ∧
  ∀ F H d1 d2 d v1 v2 Q, Sub F H → Rep G.K F d1 v1 → Rep G.K F d2 v2 → f d1 d2 = some d → (∀ v F' H', Ext F H F' H' → Rep G.K F' d v → Q v H') → r v1 v2 H Q
theorem E2_some {f : D → D → Option D} {ma mb : Option D} {d : D} (h : E2 f ma mb = some d) : ∃ x y, ma = some x ∧ mb = some y ∧ f x y = some d := by
  unfold E2 at h
  obtain ⟨x, ex, h⟩ := Option.bind_eq_some_iff.mp h
  obtain ⟨y, ey, h⟩ := Option.bind_eq_some_iff.mp h
  exact ⟨x, y, ex, ey, h⟩
theorem two {X : Cx} {K : PySem.W.Frag} {d : D} {f : D → D → Option D} {σ : L2.St} {H : Hp} {F : Hp} {Q : VK} {r : R2} (h : E2 f ma mb = some d) (vr : VR K ρ σ F H) (q : ∀ v F' H', Ext F H F' H' → Rep K F' d v → Q v H')
    (rule : ∀ F H d1 d2 d v1 v2 Q, Sub F H → Rep K F d1 v1 → Rep K F d2 v2 → f d1 d2 = some d → (∀ v F' H', Ext F H F' H' → Rep K F' d v → Q v H') → r v1 v2 H Q) : tOp r (tE K ρ ma) (tE K ρ mb) σ H Q := by
  obtain ⟨x, y, ex, ey, h⟩ := E2_some h
  refine ⟨F, x, ex, vr, fun v1 F1 H1 x1 r1 => ⟨F1, y, ey, vr.ext x1, fun v2 F2 H2 x2 r2 => ?_⟩⟩
  exact rule F2 H2 x y d v1 v2 Q x2.sub (Rep.mono x2.froz _ _ r1) r2 h fun v F3 H3 x3 r3 => q v F3 H3 ((x1.trans x2).trans x3) r3
theorem e_op {op : Operator} {f : D → D → Option D} (ho : OpD G L f (binaryOp op)) (ha : EOk G L ρ a ma) (hb : EOk G L ρ b mb) : EOk G L ρ (.BinOp a op b pos) (E2 f ma mb) := fun X hX => by
  obtain ⟨r, h1, h2⟩ := ho X hX
  exact wkE (pe_op h1 (ha X hX) (hb X hX)) fun σ H Q ⟨F, d, em, vr, q⟩ => two (X := X) em vr q h2
theorem e_cmp {op : CmpOp} {f : D → D → Option D} (ho : OpD G L f (compareOp op)) (ha : EOk G L ρ a ma) (hb : EOk G L ρ b mb) (hm : behindInMarks op b = false := by first | exact nomark _ | with_unfolding_all rfl) : EOk G L ρ (.Compare a [op] [b] pos) (E2 f ma mb) := fun X hX => by
  obtain ⟨r, h1, h2⟩ := ho X hX
  exact wkE (pe_cmpR h1 (ha X hX) (hb X hX) hm) fun σ H Q ⟨F, d, em, vr, q⟩ => two (X := X) em vr q h2
def getB : D → Option Bool
  | .bl b => some b
  | _ => none
theorem rep_bl {K : PySem.W.Frag} {F : Hp} {d : D} {v : V} {b : Bool} (h : getB d = some b) (r : Rep K F d v) : v = .bl b := by
  cases d with
  | bl c => cases h; unfold Rep at r; exact r
  | _ => cases h
theorem t_cmp {op : CmpOp} {f : D → D → Option D} (ho : OpD G L f (compareOp op)) (ha : EOk G L ρ a ma) (hb : EOk G L ρ b mb) (hm : behindInMarks op b = false := by first | exact nomark _ | with_unfolding_all rfl) : TOk G L ρ (.Compare a [op] [b] pos) ((E2 f ma mb).bind getB) := fun X hX => by
  obtain ⟨r, h1, h2⟩ := ho X hX
  refine wkT (pt_cmpR h1 (ha X hX) (hb X hX) hm) fun σ H Q ⟨F, d, em, vr, q⟩ => ?_
  obtain ⟨y, ey, eb⟩ := Option.bind_eq_some_iff.mp em
  exact two (X := X) ey vr (fun v F' H' x rr => ⟨d, rep_bl eb rr, q F' H' x⟩) h2
def unD (f : D → Option D) (m : Option D) : Option D := m.bind f
theorem e_neg (ha : EOk G L ρ a ma) : EOk G L ρ (.UnaryOp .USub a pos) (ma.bind fun d => match d with | .int i => some (.int (-i)) | _ => none) := fun X hX =>
  wkE (pe_un un_neg (ha X hX)) fun σ H Q ⟨F, d, em, vr, q⟩ => by
    obtain ⟨y, ey, eb⟩ := Option.bind_eq_some_iff.mp em
    refine ⟨F, y, ey, vr, fun v F' H' x rr => ?_⟩
    cases y with
    | int i => cases eb; unfold Rep at rr; exact ⟨i, rr, q _ F' H' x (by unfold Rep; rfl)⟩
    | _ => cases eb

/-! ### tests -/
/-- an expression whose value is True or False, as a test -/
theorem t_val (h : EOk G L ρ e m) (he : ∀ env whole, isTrue e env whole = (do let v ← whole; standAt e.pos; holding [v] (truthy v)) := by intro _ _; rfl) : TOk G L ρ e (m.bind getB) := fun X hX =>
  wkT (pt_val (h X hX) (he _)) fun σ H Q ⟨F, d, em, vr, q⟩ => by
    obtain ⟨y, ey, eb⟩ := Option.bind_eq_some_iff.mp em
    exact ⟨F, y, ey, vr, fun v F' H' x rr => ⟨d, rep_bl eb rr, q F' H' x⟩⟩
def truD : D → Option Bool
  | .non => some false
  | .bl b => some b
  | .int i => some (i != 0)
  | .lst ds => some (!ds.isEmpty)
  | .tup ds => some (!ds.isEmpty)
  | _ => none
theorem isEmpty_reps {K : PySem.W.Frag} {F : Hp} {ds : List D} {vs : List V} (r : Reps K F ds vs) : ds.isEmpty = vs.isEmpty := by
  cases ds with
  | nil => rw [r.nil_inv]; rfl
  | cons d ds => obtain ⟨v, q, rfl, _⟩ := r.inv; rfl
/-- an expression's truth, as a test -/
theorem t_tru (h : EOk G L ρ e m) (he : ∀ env whole, isTrue e env whole = (do let v ← whole; standAt e.pos; holding [v] (truthy v)) := by intro _ _; rfl) : TOk G L ρ e (m.bind truD) := fun X hX =>
  wkT (pt_truth (h X hX) (he _)) fun σ H Q ⟨F, d, em, vr, q⟩ => by
    obtain ⟨y, ey, eb⟩ := Option.bind_eq_some_iff.mp em
    refine ⟨F, y, ey, vr, fun v F' H' x rr => ⟨d, ?_, q F' H' x⟩⟩
    rw [hX.hK]
    cases y with
    | non => cases eb; unfold Rep at rr; subst rr; rfl
    | bl b => cases eb; unfold Rep at rr; subst rr; rfl
    | int b => cases eb; unfold Rep at rr; subst rr; rfl
    | lst ds =>
      cases eb
      unfold Rep at rr
      obtain ⟨p, vs, rfl, hl, hr⟩ := rr
      exact .inl ⟨vs, lst_sq hl x.sub, by rw [isEmpty_reps hr]⟩
    | tup ds =>
      cases eb
      unfold Rep at rr
      obtain ⟨p, vs, rfl, hl, hr⟩ := rr
      exact .inr (.inl ⟨vs, tup_sq hl x.sub, by rw [isEmpty_reps hr]⟩)
    | str => cases eb
    | dI => cases eb
    | dT => cases eb
    | rg => cases eb
    | scr => cases eb
end
end DL
set_option autoImplicit false
set_option maxRecDepth 100000
set_option maxHeartbeats 4000000
namespace DL
open PySem PySem.Spec PySem.SeqAt PyProof.Rows L2
open PySem.W (dataLt alike alikeAll lt_data gt_data le_data ge_data)

/-! ### data as the library's data -/
mutual
def toPy : D → PyData
  | .non => .none
  | .bl b => .bool b
  | .int i => .int i
  | .str x => .str x
  | .tup ds => .tuple (toPys ds)
  | .lst ds => .list (toPys ds)
  | _ => .dict []
def toPys : List D → List PyData
  | [] => []
  | d :: ds => toPy d :: toPys ds
end
mutual
/-- no dict, no range, no script in it -/
def plain : D → Bool
  | .non => true | .bl _ => true | .int _ => true
  | .str x => PyData.strOk x
  | .tup ds => plains ds
  | .lst ds => plains ds
  | _ => false
def plains : List D → Bool
  | [] => true
  | d :: ds => plain d && plains ds
end
mutual
def dep : D → Nat
  | .tup ds => deps ds + 1
  | .lst ds => deps ds + 1
  | _ => 0
def deps : List D → Nat
  | [] => 0
  | d :: ds => max (dep d) (deps ds)
end
mutual
theorem plain_py : ∀ d : D, plain d = true → (toPy d).canLay0 = true ∧ (toPy d).depth = dep d
  | .non, _ => by simp [toPy, PyData.canLay0, PyData.depth, dep]
  | .bl _, _ => by simp [toPy, PyData.canLay0, PyData.depth, dep]
  | .int _, _ => by simp [toPy, PyData.canLay0, PyData.depth, dep]
  | .str _, h => by
    unfold plain at h
    simp [toPy, PyData.canLay0, PyData.depth, dep, h]
  | .tup ds, h => by
    unfold plain at h
    obtain ⟨h1, h2⟩ := plains_py ds h
    simp [toPy, PyData.canLay0, PyData.depth, dep, h1, h2]
  | .lst ds, h => by
    unfold plain at h
    obtain ⟨h1, h2⟩ := plains_py ds h
    simp [toPy, PyData.canLay0, PyData.depth, dep, h1, h2]
  | .dI _, h => by simp [plain] at h
  | .dT _, h => by simp [plain] at h
  | .rg _ _, h => by simp [plain] at h
  | .scr _, h => by simp [plain] at h
theorem plains_py : ∀ ds : List D, plains ds = true → PyData.canLayAll0 (toPys ds) = true ∧ PyData.depthAll (toPys ds) = deps ds
  | [], _ => by simp [toPys, PyData.canLayAll0, PyData.depthAll, deps]
  | d :: ds, h => by
    unfold plains at h
    rw [Bool.and_eq_true] at h
    obtain ⟨h1, h2⟩ := plain_py d h.1
    obtain ⟨h3, h4⟩ := plains_py ds h.2
    simp [toPys, PyData.canLayAll0, PyData.depthAll, deps, h1, h2, h3, h4]
end
section
variable {K : PySem.W.Frag} {F H : Hp}
mutual
theorem dp_of (s : Sub F H) : ∀ (d : D) (v : V), plain d = true → Rep K F d v → Dp K H v (toPy d)
  | .non, v, _, r => by unfold Rep at r; subst r; unfold toPy; exact .non
  | .bl b, v, _, r => by unfold Rep at r; subst r; unfold toPy; exact .bl b
  | .int b, v, _, r => by unfold Rep at r; subst r; unfold toPy; exact .int b
  | .str b, v, _, r => by unfold Rep at r; subst r; unfold toPy; exact .str b
  | .tup ds, v, h, r => by
    unfold plain at h
    unfold Rep at r
    obtain ⟨a, vs, rfl, hF, q⟩ := r
    unfold toPy
    exact .tup (tup_sq hF s) (dps_of s ds vs h q)
  | .lst ds, v, h, r => by
    unfold plain at h
    unfold Rep at r
    obtain ⟨a, vs, rfl, hF, q⟩ := r
    unfold toPy
    exact .lst (lst_sq hF s) (dps_of s ds vs h q)
  | .dI _, _, h, _ => by simp [plain] at h
  | .dT _, _, h, _ => by simp [plain] at h
  | .rg _ _, _, h, _ => by simp [plain] at h
  | .scr _, _, h, _ => by simp [plain] at h
theorem dps_of (s : Sub F H) : ∀ (ds : List D) (vs : List V), plains ds = true → Reps K F ds vs → DpAll K H vs (toPys ds)
  | [], vs, _, r => by rw [r.nil_inv]; unfold toPys; exact .nil
  | d :: ds, vs, h, r => by
    unfold plains at h
    rw [Bool.and_eq_true] at h
    obtain ⟨v, q, rfl, r1, r2⟩ := r.inv
    unfold toPys
    exact .cons (dp_of s d v h.1 r1) (dps_of s ds q h.2 r2)
end
end
theorem shaped_of {d : D} (h : plain d = true) (hd : dep d ≤ 60) : SeqAt.shaped (toPy d) = true := by
  obtain ⟨h1, h2⟩ := plain_py d h
  unfold SeqAt.shaped
  rw [h1, h2, Bool.true_and]
  exact decide_eq_true (by omega)

/-! ### comparisons -/
def okD (d : D) : Bool := plain d && decide (dep d ≤ 60)
theorem okD_iff {d : D} (h : okD d = true) : plain d = true ∧ dep d ≤ 60 := by
  unfold okD at h
  rw [Bool.and_eq_true] at h
  exact ⟨h.1, of_decide_eq_true h.2⟩
def deq (x y : D) : Bool := PyData.eqv (toPy x) (toPy y)
def eqD (x y : D) : Option D := if okD x && okD y then some (.bl (deq x y)) else none
def neD (x y : D) : Option D := if okD x && okD y then some (.bl (!deq x y)) else none
def dlt (x y : D) : Bool := dataLt (toPy x) (toPy y)
def cmpOk (x y : D) : Bool := okD x && okD y && alike (toPy x) (toPy y) && (match x with | .non => false | _ => true)
def ltD (x y : D) : Option D := if cmpOk x y then some (.bl (dlt x y)) else none
def gtD (x y : D) : Option D := if cmpOk x y then some (.bl (dlt y x)) else none
def leD (x y : D) : Option D := if cmpOk x y then some (.bl (!dlt y x)) else none
def geD (x y : D) : Option D := if cmpOk x y then some (.bl (!dlt x y)) else none
section
variable {G : GX} {L : LX}
theorem room_u {k : Nat} {A : Around} (h : Room k A) {d : Nat} (hd : d ≤ 60) : A.units + d < cLine := by have := h.units; omega
theorem rep_b {K : PySem.W.Frag} {F : Hp} {b : Bool} : Rep K F (.bl b) (.bl b) := by unfold Rep; rfl
theorem rep_i {K : PySem.W.Frag} {F : Hp} {b : Int} : Rep K F (.int b) (.int b) := by unfold Rep; rfl
theorem rep_s {K : PySem.W.Frag} {F : Hp} {b : Str} : Rep K F (.str b) (.str b) := by unfold Rep; rfl
theorem rep_n {K : PySem.W.Frag} {F : Hp} : Rep K F .non .non := by unfold Rep; rfl
theorem opd_eq : OpD G L eqD (compareOp .Eq) := fun X hX => ⟨_, op_eqD hX.room.units, fun F H d1 d2 d v1 v2 Q s r1 r2 e q => by
  unfold eqD at e
  split at e
  · rename_i h
    cases e
    rw [Bool.and_eq_true] at h
    obtain ⟨p1, q1⟩ := okD_iff h.1
    obtain ⟨p2, q2⟩ := okD_iff h.2
    rw [hX.hK]
    exact ⟨toPy d1, toPy d2, dp_of s _ _ p1 r1, dp_of s _ _ p2 r2, shaped_of p1 q1, shaped_of p2 q2, q _ _ _ (.refl s) rep_b⟩
  · cases e⟩
theorem opd_ne : OpD G L neD (compareOp .NotEq) := fun X hX => ⟨_, op_neD hX.room.units, fun F H d1 d2 d v1 v2 Q s r1 r2 e q => by
  unfold neD at e
  split at e
  · rename_i h
    cases e
    rw [Bool.and_eq_true] at h
    obtain ⟨p1, q1⟩ := okD_iff h.1
    obtain ⟨p2, q2⟩ := okD_iff h.2
    rw [hX.hK]
    exact ⟨toPy d1, toPy d2, dp_of s _ _ p1 r1, dp_of s _ _ p2 r2, shaped_of p1 q1, shaped_of p2 q2, q _ _ _ (.refl s) rep_b⟩
  · cases e⟩
def rCmpD (K : PySem.W.Frag) (u : Nat) (g : PyData → PyData → Bool) : R2 := fun x y H Q => ∃ d e, Dp K H x d ∧ Dp K H y e ∧ alike d e = true ∧ d ≠ .none ∧ u + min d.depth e.depth < cLine ∧ Q (.bl (g d e)) H
theorem op_ltDt {X : Cx} : OpR X (compareOp .Lt) (rCmpD X.K X.A.units fun d e => dataLt d e) := by
  intro pins s σ H x y v u Q I rx ry h
  obtain ⟨d, e, hd, he, al, hn, hu, q⟩ := h
  obtain ⟨as, r1⟩ := Dp.reads I d x v hd rx
  obtain ⟨bs, r2⟩ := Dp.reads I e y u he ry
  exact lt_data r1 r2 al hn hu ⟨.bl _, H, I, rfl, q⟩
theorem op_gtDt {X : Cx} : OpR X (compareOp .Gt) (rCmpD X.K X.A.units fun d e => dataLt e d) := by
  intro pins s σ H x y v u Q I rx ry h
  obtain ⟨d, e, hd, he, al, hn, hu, q⟩ := h
  obtain ⟨as, r1⟩ := Dp.reads I d x v hd rx
  obtain ⟨bs, r2⟩ := Dp.reads I e y u he ry
  exact gt_data r1 r2 al hn hu ⟨.bl _, H, I, rfl, q⟩
theorem op_leDt {X : Cx} : OpR X (compareOp .LtE) (rCmpD X.K X.A.units fun d e => !dataLt e d) := by
  intro pins s σ H x y v u Q I rx ry h
  obtain ⟨d, e, hd, he, al, hn, hu, q⟩ := h
  obtain ⟨as, r1⟩ := Dp.reads I d x v hd rx
  obtain ⟨bs, r2⟩ := Dp.reads I e y u he ry
  exact le_data r1 r2 al hn hu ⟨.bl _, H, I, rfl, q⟩
theorem op_geDt {X : Cx} : OpR X (compareOp .GtE) (rCmpD X.K X.A.units fun d e => !dataLt d e) := by
  intro pins s σ H x y v u Q I rx ry h
  obtain ⟨d, e, hd, he, al, hn, hu, q⟩ := h
  obtain ⟨as, r1⟩ := Dp.reads I d x v hd rx
  obtain ⟨bs, r2⟩ := Dp.reads I e y u he ry
  exact ge_data r1 r2 al hn hu ⟨.bl _, H, I, rfl, q⟩
theorem cmpOk_iff {x y : D} (h : cmpOk x y = true) : plain x = true ∧ dep x ≤ 60 ∧ plain y = true ∧ dep y ≤ 60 ∧ alike (toPy x) (toPy y) = true ∧ toPy x ≠ .none := by
  unfold cmpOk at h
  simp only [Bool.and_eq_true] at h
  obtain ⟨⟨⟨h1, h2⟩, h3⟩, h4⟩ := h
  obtain ⟨a, b⟩ := okD_iff h1
  obtain ⟨c, d⟩ := okD_iff h2
  refine ⟨a, b, c, d, h3, ?_⟩
  cases x <;> simp_all [toPy]
theorem cmp_rule {X : Cx} (hX : XOk G L X) {g : PyData → PyData → Bool} {F H : Hp} {d1 d2 d : D} {v1 v2 : V} {Q : VK} (s : Sub F H) (r1 : Rep G.K F d1 v1) (r2 : Rep G.K F d2 v2)
    (e : (if cmpOk d1 d2 then some (D.bl (g (toPy d1) (toPy d2))) else none) = some d) (q : ∀ v F' H', Ext F H F' H' → Rep G.K F' d v → Q v H') : rCmpD X.K X.A.units g v1 v2 H Q := by
  split at e
  · rename_i h
    cases e
    obtain ⟨a, b, c, d, h3, h4⟩ := cmpOk_iff h
    rw [hX.hK]
    refine ⟨toPy d1, toPy d2, dp_of s _ _ a r1, dp_of s _ _ c r2, h3, h4, ?_, q _ _ _ (.refl s) rep_b⟩
    rw [(plain_py _ a).2, (plain_py _ c).2]
    have := hX.room.units
    omega
  · cases e
theorem opd_lt : OpD G L ltD (compareOp .Lt) := fun X hX => ⟨_, op_ltDt, fun F H d1 d2 d v1 v2 Q s r1 r2 e q => cmp_rule hX s r1 r2 e q⟩
theorem opd_gt : OpD G L gtD (compareOp .Gt) := fun X hX => ⟨_, op_gtDt, fun F H d1 d2 d v1 v2 Q s r1 r2 e q => cmp_rule (g := fun d e => dataLt e d) hX s r1 r2 e q⟩
theorem opd_le : OpD G L leD (compareOp .LtE) := fun X hX => ⟨_, op_leDt, fun F H d1 d2 d v1 v2 Q s r1 r2 e q => cmp_rule (g := fun d e => !dataLt e d) hX s r1 r2 e q⟩
theorem opd_ge : OpD G L geD (compareOp .GtE) := fun X hX => ⟨_, op_geDt, fun F H d1 d2 d v1 v2 Q s r1 r2 e q => cmp_rule (g := fun d e => !dataLt d e) hX s r1 r2 e q⟩
/-- is None, is not None -/
def isNone : D → Bool
  | .non => true
  | _ => false
def isD (x y : D) : Option D := if isNone y then some (.bl (isNone x)) else none
def isNotD (x y : D) : Option D := if isNone y then some (.bl (!isNone x)) else none
theorem rep_none {K : PySem.W.Frag} {F : Hp} {d : D} {v : V} (r : Rep K F d v) : decide (v = .non) = isNone d := by
  cases d <;> unfold Rep at r
  case non => subst r; rfl
  case bl => subst r; rfl
  case int => subst r; rfl
  case str => subst r; rfl
  case tup => obtain ⟨a, vs, rfl, _⟩ := r; rfl
  case lst => obtain ⟨a, vs, rfl, _⟩ := r; rfl
  case dI => obtain ⟨a, vs, rfl, _⟩ := r; rfl
  case dT => obtain ⟨a, vs, rfl, _⟩ := r; rfl
  case rg => obtain ⟨a, rfl, _⟩ := r; rfl
  case scr => obtain ⟨a, rfl, _⟩ := r; rfl
theorem opd_is : OpD G L isD (compareOp .Is) := fun X hX => ⟨_, op_isN, fun F H d1 d2 d v1 v2 Q s r1 r2 e q => by
  unfold isD at e
  split at e
  · rename_i h
    cases e
    have := rep_none r2
    rw [h] at this
    refine ⟨of_decide_eq_true this, ?_⟩
    rw [rep_none r1]
    exact q _ _ _ (.refl s) rep_b
  · cases e⟩
theorem opd_isNot : OpD G L isNotD (compareOp .IsNot) := fun X hX => ⟨_, op_notN, fun F H d1 d2 d v1 v2 Q s r1 r2 e q => by
  unfold isNotD at e
  split at e
  · rename_i h
    cases e
    have := rep_none r2
    rw [h] at this
    refine ⟨of_decide_eq_true this, ?_⟩
    rw [rep_none r1]
    exact q _ _ _ (.refl s) rep_b
  · cases e⟩

/-! ### arithmetic, + -/
def wideN : Nat := 2 ^ 4000
def addD : D → D → Option D
  | .int i, .int j => some (.int (i + j))
  | .str x, .str y => if x.length + y.length ≤ 16777216 then some (.str (x ++ y)) else none
  | .tup xs, .tup ys => if xs.length + ys.length ≤ 16777216 then some (.tup (xs ++ ys)) else none
  | .lst xs, .lst ys => if xs.length + ys.length ≤ 16777216 then some (.lst (xs ++ ys)) else none
  | _, _ => none
def subD : D → D → Option D
  | .int i, .int j => some (.int (i - j))
  | _, _ => none
def mulD : D → D → Option D
  | .int i, .int j => if i.natAbs < 2 ^ 64 ∨ j.natAbs < 2 ^ 64 ∨ (i.natAbs < wideN ∧ j.natAbs < wideN) then some (.int (i * j)) else none
  | _, _ => none
def fdivD : D → D → Option D
  | .int i, .int j => if 0 < j ∧ j.natAbs < wideN then some (.int (i / j)) else none
  | _, _ => none
def modD : D → D → Option D
  | .int i, .int j => if 0 < j then some (.int (i % j)) else none
  | _, _ => none
def powD : D → D → Option D
  | .int i, .int j => if 0 ≤ j ∧ j ≤ 1000000 ∧ i.natAbs < 2 ^ 64 then some (.int (i ^ j.toNat)) else none
  | _, _ => none
def rCatL (K : PySem.W.Frag) : R2 := fun x y H Q => ∃ l b xs zs, x = .ref l ∧ y = .ref b ∧ Rd H l (.lst xs) ∧ Rd H b (.lst zs) ∧ xs.length + zs.length ≤ sizeLine ∧ ∀ p, H p = none → Q (.ref p) (upd H p (.lst (xs ++ zs)))
theorem op_catL {X : Cx} : OpR X (binaryOp .Add) (rCatL X.K) := by
  intro pins s σ H x y v u Q I rx ry h
  obtain ⟨l, b, xs, zs, rfl, rfl, hH, hB, hz, q⟩ := h
  cases rx
  cases ry
  obtain ⟨z, its, n, r, e⟩ := hH.ok I.hok
  obtain ⟨z2, its2, n2, r2, e2⟩ := hB.ok I.hok
  have hl := r.length
  have hl2 := r2.length
  refine PySem.P.add_list e e2 ?_ (by rw [List.size_toArray, List.size_toArray]; omega)
  have ea : its.toArray ++ its2.toArray = (its ++ its2).toArray := by simp
  rw [ea]
  exact ⟨.ref _, _, I.lnew (t' := s.toks) (r.append r2) (by rw [List.length_append]; omega), rfl, q _ I.fresh⟩
theorem sz {n : Nat} (h : n ≤ 16777216) : n ≤ sizeLine := by rw [sizeLine_eq]; exact h
theorem opd_add : OpD G L addD (binaryOp .Add) := fun X hX => ⟨_, op_add.or (op_add_str.or (op_catA.or op_catL)), fun F H d1 d2 d v1 v2 Q s r1 r2 e q => by
  unfold addD at e
  split at e
  · cases e
    unfold Rep at r1 r2
    exact .inl ⟨_, _, r1, r2, q _ _ _ (.refl s) rep_i⟩
  · split at e
    · cases e
      unfold Rep at r1 r2
      exact .inr (.inl ⟨_, _, r1, r2, sz (by assumption), q _ _ _ (.refl s) rep_s⟩)
    · cases e
  · split at e
    · cases e
      rename_i xs ys hl
      unfold Rep at r1 r2
      obtain ⟨a, vs, rfl, h1, q1⟩ := r1
      obtain ⟨b, ws, rfl, h2, q2⟩ := r2
      rw [hX.hK]
      refine .inr (.inr (.inl ⟨a, b, vs, ws, rfl, rfl, tup_sq h1 s, tup_sq h2 s, by rw [← q1.len, ← q2.len]; exact sz hl, fun hv => ?_, fun _ hw => ?_, fun _ _ p hp => ?_⟩))
      · subst hv
        have : xs = [] := List.eq_nil_of_length_eq_zero (by rw [q1.len]; rfl)
        subst this
        exact q _ _ _ (.refl s) (by unfold Rep; exact ⟨b, ws, rfl, h2, q2⟩)
      · subst hw
        have : ys = [] := List.eq_nil_of_length_eq_zero (by rw [q2.len]; rfl)
        subst this
        rw [List.append_nil] at q
        exact q _ _ _ (.refl s) (by unfold Rep; exact ⟨a, vs, rfl, h1, q1⟩)
      · have hf := s.none hp
        exact q _ _ _ (.frz s hp) (by unfold Rep; exact ⟨p, _, rfl, upd_same, (Reps.mono (same_new hf) _ _ q1).append (Reps.mono (same_new hf) _ _ q2)⟩)
    · cases e
  · split at e
    · cases e
      rename_i xs ys hl
      unfold Rep at r1 r2
      obtain ⟨a, vs, rfl, h1, q1⟩ := r1
      obtain ⟨b, ws, rfl, h2, q2⟩ := r2
      refine .inr (.inr (.inr ⟨a, b, vs, ws, rfl, rfl, s.rd h1, s.rd h2, by rw [← q1.len, ← q2.len]; exact sz hl, fun p hp => ?_⟩))
      have hf := s.none hp
      exact q _ _ _ (.frz s hp) (by unfold Rep; exact ⟨p, _, rfl, upd_same, (Reps.mono (same_new hf) _ _ q1).append (Reps.mono (same_new hf) _ _ q2)⟩)
    · cases e
  · cases e⟩
theorem opd_sub : OpD G L subD (binaryOp .Sub) := fun X hX => ⟨_, op_sub, fun F H d1 d2 d v1 v2 Q s r1 r2 e q => by
  unfold subD at e
  split at e
  · cases e
    unfold Rep at r1 r2
    exact ⟨_, _, r1, r2, q _ _ _ (.refl s) rep_i⟩
  · cases e⟩
theorem wide_log {i : Int} (h : i.natAbs < wideN) : i.natAbs.log2 < 4000 := PySem.Flt.log2_lt_of (by decide) h
theorem opd_mul : OpD G L mulD (binaryOp .Mult) := fun X hX => ⟨_, op_mul.or op_mulW, fun F H d1 d2 d v1 v2 Q s r1 r2 e q => by
  unfold mulD at e
  split at e
  · split at e
    · rename_i h
      cases e
      unfold Rep at r1 r2
      rcases h with h | h | h
      · exact .inl ⟨_, _, r1, r2, .inl (by omega), q _ _ _ (.refl s) rep_i⟩
      · exact .inl ⟨_, _, r1, r2, .inr (by omega), q _ _ _ (.refl s) rep_i⟩
      · refine .inr ⟨_, _, r1, r2, ?_, q _ _ _ (.refl s) rep_i⟩
        have h1 := wide_log h.1
        have h2 := wide_log h.2
        unfold CMulW
        omega
    · cases e
  · cases e⟩
theorem opd_fdiv : OpD G L fdivD (binaryOp .FloorDiv) := fun X hX => ⟨_, op_fdivW, fun F H d1 d2 d v1 v2 Q s r1 r2 e q => by
  unfold fdivD at e
  split at e
  · split at e
    · rename_i h
      cases e
      unfold Rep at r1 r2
      exact ⟨_, _, r1, r2, ⟨h.1, Nat.lt_trans (wide_log h.2) (by decide)⟩, q _ _ _ (.refl s) rep_i⟩
    · cases e
  · cases e⟩
theorem opd_mod : OpD G L modD (binaryOp .Mod) := fun X hX => ⟨_, op_mod, fun F H d1 d2 d v1 v2 Q s r1 r2 e q => by
  unfold modD at e
  split at e
  · split at e
    · rename_i h
      cases e
      unfold Rep at r1 r2
      exact ⟨_, _, r1, r2, h, q _ _ _ (.refl s) rep_i⟩
    · cases e
  · cases e⟩
theorem opd_pow : OpD G L powD (binaryOp .Pow) := fun X hX => ⟨_, op_pow, fun F H d1 d2 d v1 v2 Q s r1 r2 e q => by
  unfold powD at e
  split at e
  · split at e
    · rename_i h
      cases e
      unfold Rep at r1 r2
      exact ⟨_, _, r1, r2, h, q _ _ _ (.refl s) rep_i⟩
    · cases e
  · cases e⟩
end
end DL
set_option autoImplicit false
set_option maxRecDepth 100000
set_option maxHeartbeats 4000000
namespace DL
open PySem PySem.Spec PySem.SeqAt PyProof.Rows L2

section
variable {G : GX} {L : LX} {ρ : List Sl} {e a b c : Expr} {rest : List Expr} {m ma mb mc mr : Option D} {na nb nr : Option Bool} {pos : Pos}

/-! ### and, or, not -/
def andT (ma mb : Option Bool) : Option Bool := ma.bind fun c => if c = true then mb else some false
def orT (ma mb : Option Bool) : Option Bool := ma.bind fun c => if c = true then some true else mb
def notT (ma : Option Bool) : Option Bool := ma.bind fun c => some (!c)
theorem w_and1 (ha : TOk G L ρ a na) : WOk G L ρ (.BoolOp .And [a] pos) na := fun X hX => pw_and1 (ha X hX)
theorem w_or1 (ha : TOk G L ρ a na) : WOk G L ρ (.BoolOp .Or [a] pos) na := fun X hX => pw_or1 (ha X hX)
theorem w_and (ha : TOk G L ρ a na) (hb : WOk G L ρ (.BoolOp .And (b :: rest) pos) nb) : WOk G L ρ (.BoolOp .And (a :: b :: rest) pos) (andT na nb) := fun X hX =>
  wkW (pw_and (ha X hX) (hb X hX)) fun σ H Q ⟨F, d, em, vr, q⟩ => by
    obtain ⟨y, ey, eb⟩ := Option.bind_eq_some_iff.mp em
    refine ⟨F, y, ey, vr, fun F' H' x => ?_⟩
    cases y with
    | true => exact ⟨F', d, eb, vr.ext x, fun F2 H2 x2 => q F2 H2 (x.trans x2)⟩
    | false => cases eb; exact q F' H' x
theorem w_or (ha : TOk G L ρ a na) (hb : WOk G L ρ (.BoolOp .Or (b :: rest) pos) nb) : WOk G L ρ (.BoolOp .Or (a :: b :: rest) pos) (orT na nb) := fun X hX =>
  wkW (pw_or (ha X hX) (hb X hX)) fun σ H Q ⟨F, d, em, vr, q⟩ => by
    obtain ⟨y, ey, eb⟩ := Option.bind_eq_some_iff.mp em
    refine ⟨F, y, ey, vr, fun F' H' x => ?_⟩
    cases y with
    | false => exact ⟨F', d, eb, vr.ext x, fun F2 H2 x2 => q F2 H2 (x.trans x2)⟩
    | true => cases eb; exact q F' H' x
theorem t_w (h : WOk G L ρ e na) : TOk G L ρ e na := fun X hX => (h X hX).pt
theorem t_not (ha : TOk G L ρ a na) : TOk G L ρ (.UnaryOp .Not a pos) (notT na) := fun X hX =>
  wkT (pt_not (ha X hX)) fun σ H Q ⟨F, d, em, vr, q⟩ => by
    obtain ⟨y, ey, eb⟩ := Option.bind_eq_some_iff.mp em
    cases eb
    exact ⟨F, y, ey, vr, fun F' H' x => q F' H' x⟩
/-- as values: all True or False -/
def andV (ma mb : Option D) : Option D := (ma.bind getB).bind fun c => if c = true then mb else some (.bl false)
def orV (ma mb : Option D) : Option D := (ma.bind getB).bind fun c => if c = true then some (.bl true) else mb
theorem e_one {op : BoolOp} (ha : EOk G L ρ a ma) : EOk G L ρ (.BoolOp op [a] pos) ma := fun X hX => pe_one (ha X hX)
theorem e_and (ha : EOk G L ρ a ma) (hb : EOk G L ρ (.BoolOp .And (b :: rest) pos) mb) : EOk G L ρ (.BoolOp .And (a :: b :: rest) pos) (andV ma mb) := fun X hX =>
  wkE (pe_and (ha X hX) (hb X hX)) fun σ H Q ⟨F, d, em, vr, q⟩ => by
    obtain ⟨y, ey, eb⟩ := Option.bind_eq_some_iff.mp em
    obtain ⟨z, ez, ey⟩ := Option.bind_eq_some_iff.mp ey
    refine ⟨F, z, ez, vr, fun v F' H' x r => ⟨y, rep_bl ey r, ?_⟩⟩
    cases y with
    | true => exact ⟨F', d, eb, vr.ext x, fun v F2 H2 x2 => q v F2 H2 (x.trans x2)⟩
    | false => cases eb; exact q _ F' H' x rep_b
theorem e_or (ha : EOk G L ρ a ma) (hb : EOk G L ρ (.BoolOp .Or (b :: rest) pos) mb) : EOk G L ρ (.BoolOp .Or (a :: b :: rest) pos) (orV ma mb) := fun X hX =>
  wkE (pe_or (ha X hX) (hb X hX)) fun σ H Q ⟨F, d, em, vr, q⟩ => by
    obtain ⟨y, ey, eb⟩ := Option.bind_eq_some_iff.mp em
    obtain ⟨z, ez, ey⟩ := Option.bind_eq_some_iff.mp ey
    refine ⟨F, z, ez, vr, fun v F' H' x r => ⟨y, rep_bl ey r, ?_⟩⟩
    cases y with
    | false => exact ⟨F', d, eb, vr.ext x, fun v F2 H2 x2 => q v F2 H2 (x.trans x2)⟩
    | true => cases eb; exact q _ F' H' x rep_b
def notV (ma : Option D) : Option D := (ma.bind getB).bind fun c => some (.bl (!c))
theorem e_not (ha : EOk G L ρ a ma) : EOk G L ρ (.UnaryOp .Not a pos) (notV ma) := fun X hX =>
  wkE (pe_not (ha X hX)) fun σ H Q ⟨F, d, em, vr, q⟩ => by
    obtain ⟨y, ey, eb⟩ := Option.bind_eq_some_iff.mp em
    obtain ⟨z, ez, ey⟩ := Option.bind_eq_some_iff.mp ey
    cases eb
    exact ⟨F, z, ez, vr, fun v F' H' x r => ⟨y, rep_bl ey r, q _ F' H' x rep_b⟩⟩
/-- a if c else b -/
def ifD (mc : Option Bool) (ma mb : Option D) : Option D := mc.bind fun c => if c = true then ma else mb
theorem e_ifx {nc : Option Bool} (hc : TOk G L ρ c nc) (ha : EOk G L ρ a ma) (hb : EOk G L ρ b mb) : EOk G L ρ (.IfExp c a b pos) (ifD nc ma mb) := fun X hX =>
  wkE (pe_ifExp (hc X hX) (ha X hX) (hb X hX)) fun σ H Q ⟨F, d, em, vr, q⟩ => by
    obtain ⟨y, ey, eb⟩ := Option.bind_eq_some_iff.mp em
    refine ⟨F, y, ey, vr, fun F' H' x => ?_⟩
    cases y with
    | true => exact ⟨F', d, eb, vr.ext x, fun v F2 H2 x2 => q v F2 H2 (x.trans x2)⟩
    | false => exact ⟨F', d, eb, vr.ext x, fun v F2 H2 x2 => q v F2 H2 (x.trans x2)⟩
/-- a op b op' c -/
def chD (f f' : D → D → Option D) (ma mb mc : Option D) : Option D := ma.bind fun x => mb.bind fun y => ((f x y).bind getB).bind fun k => if k = true then mc.bind fun z => f' y z else some (.bl false)
theorem chain_rule {X : Cx} {K : PySem.W.Frag} {d : D} {f f' : D → D → Option D} {σ : L2.St} {H : Hp} {F : Hp} {Q : VK} {r r' : R2} (h : chD f f' ma mb mc = some d) (vr : VR K ρ σ F H) (q : ∀ v F' H', Ext F H F' H' → Rep K F' d v → Q v H')
    (rule : ∀ F H d1 d2 d v1 v2 Q, Sub F H → Rep K F d1 v1 → Rep K F d2 v2 → f d1 d2 = some d → (∀ v F' H', Ext F H F' H' → Rep K F' d v → Q v H') → r v1 v2 H Q)
    (rule' : ∀ F H d1 d2 d v1 v2 Q, Sub F H → Rep K F d1 v1 → Rep K F d2 v2 → f' d1 d2 = some d → (∀ v F' H', Ext F H F' H' → Rep K F' d v → Q v H') → r' v1 v2 H Q) : tChain r r' (tE K ρ ma) (tE K ρ mb) (tE K ρ mc) σ H Q := by
  unfold chD at h
  obtain ⟨x, ex, h⟩ := Option.bind_eq_some_iff.mp h
  obtain ⟨y, ey, h⟩ := Option.bind_eq_some_iff.mp h
  obtain ⟨k, ek, h⟩ := Option.bind_eq_some_iff.mp h
  obtain ⟨z, ez, ek⟩ := Option.bind_eq_some_iff.mp ek
  refine ⟨F, x, ex, vr, fun v1 F1 H1 x1 r1 => ⟨F1, y, ey, vr.ext x1, fun v2 F2 H2 x2 r2 => ?_⟩⟩
  refine rule F2 H2 x y z v1 v2 _ x2.sub (Rep.mono x2.froz _ _ r1) r2 ez fun v F3 H3 x3 r3 => ⟨k, rep_bl ek r3, ?_⟩
  cases k with
  | false => cases h; exact q _ F3 H3 ((x1.trans x2).trans x3) rep_b
  | true =>
    obtain ⟨u, eu, h⟩ := Option.bind_eq_some_iff.mp h
    refine ⟨F3, u, eu, vr.ext ((x1.trans x2).trans x3), fun v4 F4 H4 x4 r4 => ?_⟩
    exact rule' F4 H4 y u d v2 v4 Q x4.sub (Rep.mono (x3.trans x4).froz _ _ r2) r4 h fun v F5 H5 x5 r5 => q v F5 H5 ((((x1.trans x2).trans x3).trans x4).trans x5) r5
theorem e_chain {op op' : CmpOp} {f f' : D → D → Option D} (ho : OpD G L f (compareOp op)) (ho' : OpD G L f' (compareOp op')) (ha : EOk G L ρ a ma) (hb : EOk G L ρ b mb) (hc : EOk G L ρ c mc)
    (hm : lastMarks [op, op'] [b, c] = false := by with_unfolding_all rfl) : EOk G L ρ (.Compare a [op, op'] [b, c] pos) (chD f f' ma mb mc) := fun X hX => by
  obtain ⟨r, h1, h2⟩ := ho X hX
  obtain ⟨r', h1', h2'⟩ := ho' X hX
  exact wkE (pe_chain h1 h1' (ha X hX) (hb X hX) (hc X hX) hm) fun σ H Q ⟨F, d, em, vr, q⟩ => chain_rule (X := X) em vr q h2 h2'
theorem t_chain {op op' : CmpOp} {f f' : D → D → Option D} (ho : OpD G L f (compareOp op)) (ho' : OpD G L f' (compareOp op')) (ha : EOk G L ρ a ma) (hb : EOk G L ρ b mb) (hc : EOk G L ρ c mc)
    (hm : lastMarks [op, op'] [b, c] = false := by with_unfolding_all rfl) : TOk G L ρ (.Compare a [op, op'] [b, c] pos) ((chD f f' ma mb mc).bind getB) := fun X hX => by
  obtain ⟨r, h1, h2⟩ := ho X hX
  obtain ⟨r', h1', h2'⟩ := ho' X hX
  refine wkT (pt_chain h1 h1' (ha X hX) (hb X hX) (hc X hX) hm) fun σ H Q ⟨F, d, em, vr, q⟩ => ?_
  obtain ⟨y, ey, eb⟩ := Option.bind_eq_some_iff.mp em
  exact chain_rule (X := X) ey vr (fun v F' H' x rr => ⟨d, rep_bl eb rr, q F' H' x⟩) h2 h2'

/-! ### dicts as tables -/
def lookK {κ : Type} [DecidableEq κ] (kvs : List (κ × D)) (k : κ) : Option D := (kvs.find? fun p => decide (p.1 = k)).map (·.2)
def putD {κ : Type} [DecidableEq κ] (kvs : List (κ × D)) (k : κ) (v : D) : List (κ × D) :=
  if (kvs.any fun kv => decide (kv.1 = k)) = true then kvs.map (fun kv => if kv.1 = k then (kv.1, v) else kv) else kvs ++ [(k, v)]
theorem inl_inj {i j : Int} : ((Sum.inl i : Key) = Sum.inl j) ↔ i = j := ⟨fun h => Sum.inl.inj h, fun h => by rw [h]⟩
theorem map_inl_inj {k j : List Int} : (k.map (Sum.inl : Int → Key) = j.map Sum.inl) ↔ k = j := by
  constructor
  · intro h
    induction k generalizing j with
    | nil => cases j with
      | nil => rfl
      | cons _ _ => simp at h
    | cons x xs ih => cases j with
      | nil => simp at h
      | cons y ys =>
        simp only [List.map_cons, List.cons.injEq] at h
        rw [Sum.inl.inj h.1, ih h.2]
  · rintro rfl; rfl
theorem RepI.look {K : PySem.W.Frag} {F : Hp} {k : Int} : ∀ {kvs : List (Int × D)} {ws : List (Key × V)}, RepI K F kvs ws →
    (lookK kvs k = none ∧ valV ws (Sum.inl k) = none) ∨ ∃ d v, lookK kvs k = some d ∧ valV ws (Sum.inl k) = some v ∧ Rep K F d v
  | [], ws, r => by unfold RepI at r; subst r; exact .inl ⟨rfl, rfl⟩
  | (j, d) :: kvs, ws, r => by
    unfold RepI at r
    obtain ⟨v, q, rfl, r1, r2⟩ := r
    by_cases h : j = k
    · subst h
      exact .inr ⟨d, v, by simp [lookK], valV_pos rfl, r1⟩
    · have e1 : lookK ((j, d) :: kvs) k = lookK kvs k := by simp [lookK, List.find?_cons, h]
      have e2 : valV ((Sum.inl j, v) :: q) (Sum.inl k : Key) = valV q (Sum.inl k) := valV_neg (p := ((Sum.inl j : Key), v)) fun e => h (inl_inj.mp e)
      rw [e1, e2]; exact RepI.look r2
theorem RepT.look {K : PySem.W.Frag} {F : Hp} {k : List Int} : ∀ {kvs : List (List Int × D)} {ws : List (List Key × V)}, RepT K F kvs ws →
    (lookK kvs k = none ∧ valV ws (k.map Sum.inl) = none) ∨ ∃ d v, lookK kvs k = some d ∧ valV ws (k.map Sum.inl) = some v ∧ Rep K F d v
  | [], ws, r => by unfold RepT at r; subst r; exact .inl ⟨rfl, rfl⟩
  | (j, d) :: kvs, ws, r => by
    unfold RepT at r
    obtain ⟨v, q, rfl, r1, r2⟩ := r
    by_cases h : j = k
    · subst h
      exact .inr ⟨d, v, by simp [lookK], valV_pos rfl, r1⟩
    · have e1 : lookK ((j, d) :: kvs) k = lookK kvs k := by simp [lookK, List.find?_cons, h]
      have e2 : valV ((j.map Sum.inl, v) :: q) (k.map Sum.inl) = valV q (k.map Sum.inl) := valV_neg (p := (j.map Sum.inl, v)) fun e => h (map_inl_inj.mp e)
      rw [e1, e2]; exact RepT.look r2
theorem RepI.any {K : PySem.W.Frag} {F : Hp} {k : Int} : ∀ {kvs : List (Int × D)} {ws : List (Key × V)}, RepI K F kvs ws → (kvs.any fun p => decide (p.1 = k)) = ws.any fun p => decide (p.1 = Sum.inl k)
  | [], ws, r => by unfold RepI at r; subst r; rfl
  | (j, d) :: kvs, ws, r => by
    unfold RepI at r
    obtain ⟨v, q, rfl, r1, r2⟩ := r
    rw [List.any_cons, List.any_cons, RepI.any r2]
    simp only [inl_inj]
theorem RepT.any {K : PySem.W.Frag} {F : Hp} {k : List Int} : ∀ {kvs : List (List Int × D)} {ws : List (List Key × V)}, RepT K F kvs ws → (kvs.any fun p => decide (p.1 = k)) = ws.any fun p => decide (p.1 = k.map Sum.inl)
  | [], ws, r => by unfold RepT at r; subst r; rfl
  | (j, d) :: kvs, ws, r => by
    unfold RepT at r
    obtain ⟨v, q, rfl, r1, r2⟩ := r
    rw [List.any_cons, List.any_cons, RepT.any r2]
    simp only [map_inl_inj]
theorem RepI.repl {K : PySem.W.Frag} {F : Hp} {k : Int} {x : D} {y : V} (h : Rep K F x y) : ∀ {kvs : List (Int × D)} {ws : List (Key × V)}, RepI K F kvs ws →
    RepI K F (kvs.map fun kv => if kv.1 = k then (kv.1, x) else kv) (ws.map fun kv => if kv.1 = Sum.inl k then (kv.1, y) else kv)
  | [], ws, r => by unfold RepI at r; subst r; unfold RepI; rfl
  | (j, d) :: kvs, ws, r => by
    unfold RepI at r
    obtain ⟨v, q, rfl, r1, r2⟩ := r
    rw [List.map_cons, List.map_cons]
    simp only [inl_inj]
    by_cases e : j = k
    · simp only [e, if_true]; unfold RepI; exact ⟨y, _, rfl, h, by simpa only [inl_inj] using RepI.repl h r2⟩
    · simp only [if_neg e]; unfold RepI; exact ⟨v, _, rfl, r1, by simpa only [inl_inj] using RepI.repl h r2⟩
theorem RepT.repl {K : PySem.W.Frag} {F : Hp} {k : List Int} {x : D} {y : V} (h : Rep K F x y) : ∀ {kvs : List (List Int × D)} {ws : List (List Key × V)}, RepT K F kvs ws →
    RepT K F (kvs.map fun kv => if kv.1 = k then (kv.1, x) else kv) (ws.map fun kv => if kv.1 = k.map Sum.inl then (kv.1, y) else kv)
  | [], ws, r => by unfold RepT at r; subst r; unfold RepT; rfl
  | (j, d) :: kvs, ws, r => by
    unfold RepT at r
    obtain ⟨v, q, rfl, r1, r2⟩ := r
    rw [List.map_cons, List.map_cons]
    simp only [map_inl_inj]
    by_cases e : j = k
    · simp only [e, if_true]; unfold RepT; exact ⟨y, _, rfl, h, by simpa only [map_inl_inj] using RepT.repl h r2⟩
    · simp only [if_neg e]; unfold RepT; exact ⟨v, _, rfl, r1, by simpa only [map_inl_inj] using RepT.repl h r2⟩
theorem RepI.snoc {K : PySem.W.Frag} {F : Hp} {k : Int} {x : D} {y : V} (h : Rep K F x y) : ∀ {kvs : List (Int × D)} {ws : List (Key × V)}, RepI K F kvs ws → RepI K F (kvs ++ [(k, x)]) (ws ++ [(Sum.inl k, y)])
  | [], ws, r => by unfold RepI at r; subst r; unfold RepI; exact ⟨y, [], rfl, h, by unfold RepI; rfl⟩
  | (j, d) :: kvs, ws, r => by
    unfold RepI at r
    obtain ⟨v, q, rfl, r1, r2⟩ := r
    rw [List.cons_append, List.cons_append]; unfold RepI; exact ⟨v, _, rfl, r1, RepI.snoc h r2⟩
theorem RepT.snoc {K : PySem.W.Frag} {F : Hp} {k : List Int} {x : D} {y : V} (h : Rep K F x y) : ∀ {kvs : List (List Int × D)} {ws : List (List Key × V)}, RepT K F kvs ws → RepT K F (kvs ++ [(k, x)]) (ws ++ [(k.map Sum.inl, y)])
  | [], ws, r => by unfold RepT at r; subst r; unfold RepT; exact ⟨y, [], rfl, h, by unfold RepT; rfl⟩
  | (j, d) :: kvs, ws, r => by
    unfold RepT at r
    obtain ⟨v, q, rfl, r1, r2⟩ := r
    rw [List.cons_append, List.cons_append]; unfold RepT; exact ⟨v, _, rfl, r1, RepT.snoc h r2⟩
theorem RepI.put {K : PySem.W.Frag} {F : Hp} {k : Int} {x : D} {y : V} (h : Rep K F x y) {kvs : List (Int × D)} {ws : List (Key × V)} (r : RepI K F kvs ws) : RepI K F (putD kvs k x) (putK ws (Sum.inl k) y) := by
  unfold putD putK
  rw [r.any]
  split
  · exact r.repl h
  · exact r.snoc h
theorem RepT.put {K : PySem.W.Frag} {F : Hp} {k : List Int} {x : D} {y : V} (h : Rep K F x y) {kvs : List (List Int × D)} {ws : List (List Key × V)} (r : RepT K F kvs ws) : RepT K F (putD kvs k x) (putK ws (k.map Sum.inl) y) := by
  unfold putD putK
  rw [r.any]
  split
  · exact r.repl h
  · exact r.snoc h
theorem RepI.len {K : PySem.W.Frag} {F : Hp} : ∀ {kvs : List (Int × D)} {ws : List (Key × V)}, RepI K F kvs ws → kvs.length = ws.length
  | [], ws, r => by unfold RepI at r; subst r; rfl
  | (j, d) :: kvs, ws, r => by
    unfold RepI at r
    obtain ⟨v, q, rfl, r1, r2⟩ := r
    simp [RepI.len r2]
theorem RepT.len {K : PySem.W.Frag} {F : Hp} : ∀ {kvs : List (List Int × D)} {ws : List (List Key × V)}, RepT K F kvs ws → kvs.length = ws.length
  | [], ws, r => by unfold RepT at r; subst r; rfl
  | (j, d) :: kvs, ws, r => by
    unfold RepT at r
    obtain ⟨v, q, rfl, r1, r2⟩ := r
    simp [RepT.len r2]
def intsOf : List D → Option (List Int)
  | [] => some []
  | .int i :: ds => (intsOf ds).map (i :: ·)
  | _ :: _ => none
theorem intsOf_rep {K : PySem.W.Frag} {F : Hp} : ∀ {ds : List D} {ks : List Int} {vs : List V}, intsOf ds = some ks → Reps K F ds vs → vs = (ks.map (Sum.inl : Int → Key)).map kV
  | [], ks, vs, h, r => by cases h; exact r.nil_inv
  | d :: ds, ks, vs, h, r => by
    obtain ⟨v, q, rfl, r1, r2⟩ := r.inv
    cases d with
    | int i =>
      unfold intsOf at h
      obtain ⟨ks', h', rfl⟩ := Option.map_eq_some_iff.mp h
      rw [intsOf_rep h' r2]
      unfold Rep at r1
      rw [r1]; rfl
    | _ => cases h

/-! ### subscripts -/
def ixD : D → D → Option D
  | .lst xs, .int i => atI xs i
  | .tup xs, .int i => atI xs i
  | .scr xs, .int i => (atI xs i).map .int
  | .str z, .int i => if z.length ≤ 16777216 then (atI z.cps.toList i).map fun c => .str ⟨#[c]⟩ else none
  | .dI kvs, .int i => lookK kvs i
  | .dT kvs, .tup ks => (intsOf ks).bind fun ks => lookK kvs ks
  | _, _ => none
theorem ix_dict {X : Cx} (hu : X.A.units + 1 < cLine) : IxR X (fun x y H Q => ∃ a v, x = .ref a ∧ DGet H a y (some v) ∧ Q v H) := by
  intro value slice pins s σ H x y v u Q I rx ry h hs
  obtain ⟨p, z, rfl, g, q⟩ := h
  obtain rfl : v = Value.ref p := rx
  exact tail_any (dict_typeIs I g) PySem.F.slot_dict_getitem.lookup (d_getItem hu I g ry fun w' s3 I3 rw' => ⟨z, H, I3, rw', q⟩) hs
theorem atI_rep {K : PySem.W.Frag} {F : Hp} {ds : List D} {vs : List V} {i : Int} {d : D} (r : Reps K F ds vs) (h : atI ds i = some d) : ∃ v, atI vs i = some v ∧ Rep K F d v := by
  unfold atI at h ⊢
  rw [r.len] at h
  obtain ⟨j, e, h⟩ := Option.bind_eq_some_iff.mp h
  obtain ⟨v, h1, h2⟩ := r.get h
  exact ⟨v, by rw [e]; exact h1, h2⟩
theorem atI_map {α β : Type} (f : α → β) (xs : List α) (i : Int) : atI (xs.map f) i = (atI xs i).map f := by
  unfold atI
  rw [List.length_map]
  cases ixN xs.length i with
  | none => rfl
  | some j => simp
theorem e_ix (ha : EOk G L ρ a ma) (hb : EOk G L ρ b mb) (hs : PlainIx b := by intro _ _; rfl) : EOk G L ρ (.Subscript a b pos) (E2 ixD ma mb) := fun X hX =>
  wkE (pe_ix (ix_seq.or (ix_dict (by have := hX.room.units; omega))) (ha X hX) (hb X hX) hs) fun σ H Q ⟨F, d, em, vr, q⟩ => two (X := X) em vr q fun F H d1 d2 d v1 v2 Q s r1 r2 e q => by
    rw [hX.hK]
    unfold ixD at e
    split at e
    · unfold Rep at r1 r2
      obtain ⟨p, vs, rfl, h1, q1⟩ := r1
      obtain ⟨v, hv, rv⟩ := atI_rep q1 e
      exact .inl (.inl ⟨p, vs, _, v, rfl, r2, lst_sq h1 s, hv, q _ _ _ (.refl s) rv⟩)
    · unfold Rep at r1 r2
      obtain ⟨p, vs, rfl, h1, q1⟩ := r1
      obtain ⟨v, hv, rv⟩ := atI_rep q1 e
      exact .inl (.inr (.inl ⟨p, vs, _, v, rfl, r2, tup_sq h1 s, hv, q _ _ _ (.refl s) rv⟩))
    · unfold Rep at r1 r2
      obtain ⟨p, rfl, h1⟩ := r1
      obtain ⟨n, hn, rfl⟩ := Option.map_eq_some_iff.mp e
      exact .inl (.inl ⟨p, _, _, .int n, rfl, r2, scr_sq h1 s, by rw [atI_map, hn]; rfl, q _ _ _ (.refl s) rep_i⟩)
    · split at e
      · unfold Rep at r1 r2
        obtain ⟨n, hn, rfl⟩ := Option.map_eq_some_iff.mp e
        exact .inl (.inr (.inr ⟨_, _, n, r1, r2, sz (by assumption), hn, q _ _ _ (.refl s) rep_s⟩))
      · cases e
    · unfold Rep at r1 r2
      obtain ⟨p, ws, rfl, h1, q1⟩ := r1
      rcases q1.look with ⟨h2, _⟩ | ⟨d', v, h2, h3, h4⟩
      · rw [h2] at e; cases e
      · rw [h2] at e; cases e
        exact .inr ⟨p, v, rfl, .inl ⟨ws, Sum.inl _, s.rd h1, r2, h3.symm⟩, q _ _ _ (.refl s) h4⟩
    · unfold Rep at r1 r2
      obtain ⟨p, ws, rfl, h1, q1⟩ := r1
      obtain ⟨p2, ws2, rfl, h2, q2⟩ := r2
      obtain ⟨ks, hks, e⟩ := Option.bind_eq_some_iff.mp e
      have hw := intsOf_rep hks q2
      subst hw
      rcases q1.look with ⟨h3, _⟩ | ⟨d', v, h3, h4, h5⟩
      · rw [h3] at e; cases e
      · rw [h3] at e; cases e
        exact .inr ⟨p, v, rfl, .inr ⟨ws, _, p2, s.rd h1, rfl, s.tup h2, h4.symm⟩, q _ _ _ (.refl s) h5⟩
    · cases e
end
end DL
set_option autoImplicit false
set_option maxRecDepth 100000
set_option maxHeartbeats 4000000
namespace DL
open PySem PySem.Spec PySem.SeqAt PyProof.Rows L2

section
variable {G : GX} {L : LX} {ρ : List Sl} {e a b c : Expr} {es : List Expr} {m ma mb mc mr : Option D} {ms : Option (List D)} {pos p2 : Pos}

/-! ### slices -/
def tO (K : PySem.W.Frag) (ρ : List Sl) (m : Option (Option Int)) : TO := fun σ H Q => ∃ F o, m = some o ∧ VR K ρ σ F H ∧ ∀ F' H', Ext F H F' H' → Q o H'
def OOk (G : GX) (L : LX) (ρ : List Sl) (e : Option Expr) (m : Option (Option Int)) : Prop := ∀ X, XOk G L X → PO X e (tO G.K ρ m)
theorem wkO {X : Cx} {e : Option Expr} {t t' : TO} (h : PO X e t) (w : ∀ σ H Q, t' σ H Q → t σ H Q) : PO X e t' := ⟨fun pins s σ H Q I q => h.run pins s σ H Q I (w σ H Q q)⟩
theorem o_none : OOk G L ρ none (some none) := fun X hX => wkO po_none fun σ H Q ⟨F, o, em, vr, q⟩ => by cases em; exact q F H (.refl vr.sub)
def getI : D → Option Int
  | .int i => some i
  | _ => none
theorem rep_int {K : PySem.W.Frag} {F : Hp} {d : D} {v : V} {i : Int} (h : getI d = some i) (r : Rep K F d v) : v = .int i := by
  cases d with
  | int c => cases h; unfold Rep at r; exact r
  | _ => cases h
theorem o_some (h : EOk G L ρ e m) : OOk G L ρ (some e) ((m.bind getI).map some) := fun X hX => wkO (po_some (h X hX)) fun σ H Q ⟨F, o, em, vr, q⟩ => by
  obtain ⟨i, ei, rfl⟩ := Option.map_eq_some_iff.mp em
  obtain ⟨y, ey, eb⟩ := Option.bind_eq_some_iff.mp ei
  exact ⟨F, y, ey, vr, fun v F' H' x r => ⟨i, rep_int eb r, q F' H' x⟩⟩
def cutD {α : Type} (xs : List α) (lo hi : Option Int) : List α := (xs.drop (HT.sIx xs.length 0 lo)).take (HT.sIx xs.length xs.length hi - HT.sIx xs.length 0 lo)
theorem Reps.cut {K : PySem.W.Frag} {F : Hp} {ds : List D} {vs : List V} (r : Reps K F ds vs) (lo hi : Option Int) : Reps K F (cutD ds lo hi) (cutV vs lo hi) := by
  unfold cutD cutV
  rw [r.len]
  exact (r.drop _).take _
theorem cut_whole {ds : List D} {lo hi : Option Int} (h : HT.sIx ds.length 0 lo = 0 ∧ HT.sIx ds.length ds.length hi = ds.length) : cutD ds lo hi = ds := by
  unfold cutD
  rw [h.1, h.2, List.drop_zero, Nat.sub_zero, List.take_length]
def slD (x : D) (lo hi : Option Int) : Option D :=
  match x with
  | .tup xs => some (.tup (cutD xs lo hi))
  | .lst xs => some (.lst (cutD xs lo hi))
  | .str z => if z.length ≤ 16777216 then some (.str (cutS z lo hi)) else none
  | _ => none
def SL (m : Option D) (lo hi : Option (Option Int)) : Option D := m.bind fun x => lo.bind fun l => hi.bind fun h => slD x l h
theorem e_sl {lo hi : Option Expr} {nl nh : Option (Option Int)} (ha : EOk G L ρ a ma) (hl : OOk G L ρ lo nl) (hh : OOk G L ρ hi nh) : EOk G L ρ (.Subscript a (.Slice lo hi none p2) pos) (SL ma nl nh) := fun X hX =>
  wkE (pe_slice (sl_tupA.or (sl_list.or sl_str)) (ha X hX) (hl X hX) (hh X hX)) fun σ H Q ⟨F, d, em, vr, q⟩ => by
    obtain ⟨y, ey, em⟩ := Option.bind_eq_some_iff.mp em
    obtain ⟨l, el, em⟩ := Option.bind_eq_some_iff.mp em
    obtain ⟨h, eh, em⟩ := Option.bind_eq_some_iff.mp em
    refine ⟨F, y, ey, vr, fun v F1 H1 x1 r1 => ⟨F1, l, el, vr.ext x1, fun F2 H2 x2 => ⟨F2, h, eh, vr.ext (x1.trans x2), fun F3 H3 x3 => ?_⟩⟩⟩
    rw [hX.hK]
    have xx := (x1.trans x2).trans x3
    have r3 := Rep.mono (x2.trans x3).froz _ _ r1
    unfold slD at em
    split at em
    · cases em
      rename_i ds
      unfold Rep at r3
      obtain ⟨p, vs, rfl, h1, q1⟩ := r3
      refine .inl ⟨p, vs, rfl, tup_sq h1 xx.sub, fun hw => ?_, fun _ p' hp => ?_⟩
      · rw [← q1.len] at hw
        refine q _ _ _ xx (by unfold Rep; exact ⟨p, vs, rfl, h1, by rw [cut_whole hw]; exact q1⟩)
      · exact q _ _ _ (xx.trans (.frz xx.sub hp)) (by unfold Rep; exact ⟨p', _, rfl, upd_same, Reps.mono (same_new (xx.sub.none hp)) _ _ (q1.cut l h)⟩)
    · cases em
      rename_i ds
      unfold Rep at r3
      obtain ⟨p, vs, rfl, h1, q1⟩ := r3
      refine .inr (.inl ⟨p, vs, rfl, lst_sq h1 xx.sub, fun p' hp => ?_⟩)
      exact q _ _ _ (xx.trans (.frz xx.sub hp)) (by unfold Rep; exact ⟨p', _, rfl, upd_same, Reps.mono (same_new (xx.sub.none hp)) _ _ (q1.cut l h)⟩)
    · split at em
      · cases em
        unfold Rep at r3
        exact .inr (.inr ⟨_, r3, sz (by assumption), q _ _ _ xx rep_s⟩)
      · cases em
    · cases em

/-! ### argument lists, displays -/
def aC (m : Option D) (ms : Option (List D)) : Option (List D) := m.bind fun x => ms.bind fun xs => some (x :: xs)
theorem a_nil : AOk G L ρ [] (some []) := fun X hX => wkA pa_nil fun σ H Q ⟨F, ds, em, vr, q⟩ => by cases em; exact q _ F H (.refl vr.sub) .nil
theorem a_cons (ha : EOk G L ρ a ma) (hr : AOk G L ρ es ms) (hs : ∀ env, starEach (a :: es) env = (false, eval a env) :: starEach es env := by intro _; rfl) : AOk G L ρ (a :: es) (aC ma ms) := fun X hX =>
  wkA (pa_cons (ha X hX) (hr X hX) (hs _)) fun σ H Q ⟨F, ds, em, vr, q⟩ => by
    obtain ⟨y, ey, em⟩ := Option.bind_eq_some_iff.mp em
    obtain ⟨ys, eys, em⟩ := Option.bind_eq_some_iff.mp em
    cases em
    exact ⟨F, y, ey, vr, fun v F1 H1 x1 r1 => ⟨F1, ys, eys, vr.ext x1, fun vs F2 H2 x2 r2 => q _ _ _ (x1.trans x2) (.cons (Rep.mono x2.froz _ _ r1) r2)⟩⟩
def tupD (ds : List D) : Option D := if ds.length ≤ 16777216 then some (.tup ds) else none
def lstD (ds : List D) : Option D := if ds.length ≤ 16777216 then some (.lst ds) else none
theorem e_tup {k : Nat} (h : AOk G L ρ es ms) : EOk G L ρ (.Tuple es k pos) (ms.bind tupD) := fun X hX =>
  wkE (pe_tup (h X hX)) fun σ H Q ⟨F, d, em, vr, q⟩ => by
    obtain ⟨ds, eds, em⟩ := Option.bind_eq_some_iff.mp em
    unfold tupD at em
    split at em
    · cases em
      refine ⟨F, ds, eds, vr, fun vs F1 H1 x1 r1 => ⟨by rw [← r1.len]; exact sz (by assumption), fun p hp => ?_⟩⟩
      exact q _ _ _ (x1.trans (.frz x1.sub hp)) (by unfold Rep; exact ⟨p, _, rfl, upd_same, Reps.mono (same_new (x1.sub.none hp)) _ _ r1⟩)
    · cases em
theorem f_lst (h : AOk G L ρ es ms) : FOk G L ρ (.List es pos) (ms.bind lstD) := fun X hX =>
  wkE (pe_lst (h X hX)) fun σ H Q ⟨F, d, em, vr, q⟩ => by
    obtain ⟨ds, eds, em⟩ := Option.bind_eq_some_iff.mp em
    unfold lstD at em
    split at em
    · cases em
      refine ⟨F, ds, eds, vr, fun vs F1 H1 x1 r1 => ⟨by rw [← r1.len]; exact sz (by assumption), fun p hp => ?_⟩⟩
      exact q p _ _ _ (x1.trans (.own x1.sub hp)) (x1.heap.free hp) upd_same ⟨vs, rfl, r1⟩ (x1.sub.none hp)
    · cases em
theorem f_dI : FOk G L ρ (.Dict [] [] pos) (some (.dI [])) := fun X hX => wkE pe_dnewK fun σ H Q ⟨F, d, em, vr, q⟩ => by
  cases em
  exact fun p hp => q p _ _ _ (.own vr.sub hp) hp upd_same ⟨[], rfl, by unfold RepI; rfl⟩ (vr.sub.none hp)
theorem f_dT : FOk G L ρ (.Dict [] [] pos) (some (.dT [])) := fun X hX => wkE pe_dnewT fun σ H Q ⟨F, d, em, vr, q⟩ => by
  cases em
  exact fun p hp => q p _ _ _ (.own vr.sub hp) hp upd_same ⟨[], rfl, by unfold RepT; rfl⟩ (vr.sub.none hp)
/-- {k: v} with one written entry, the key an int -/
def dI1 (mk mv : Option D) : Option D := mk.bind fun k => (getI k).bind fun i => mv.bind fun v => some (.dI [(i, v)])
theorem f_dI1 {k v : Expr} {mk mv : Option D} (hk : EOk G L ρ k mk) (hv : EOk G L ρ v mv) : FOk G L ρ (.Dict [some k] [v] pos) (dI1 mk mv) := fun X hX =>
  wkE (pe_disp (pps_cons (hk X hX) (hv X hX) pps_nil) rfl rfl (fun z => nomatch z) (by show 1 ≤ 15; decide)) fun σ H Q ⟨F, d, em, vr, q⟩ p hp => by
    obtain ⟨x, ex, em⟩ := Option.bind_eq_some_iff.mp em
    obtain ⟨i, ei, em⟩ := Option.bind_eq_some_iff.mp em
    obtain ⟨y, ey, em⟩ := Option.bind_eq_some_iff.mp em
    cases em
    have x0 : Ext F H F (upd H p (.dK [])) := .own vr.sub hp
    refine ⟨F, x, ex, vr.ext x0, fun v1 F1 H1 x1 r1 => ⟨F1, y, ey, vr.ext (x0.trans x1), fun v2 F2 H2 x2 r2 => ?_⟩⟩
    have hp2 : H2 p = some (.dK []) := x2.heap _ _ (x1.heap _ _ upd_same)
    have hF : F2 p = none := (x1.trans x2).stay (vr.sub.none hp) upd_same fun vs z => nomatch z
    have e1 := rep_int ei r1
    subst e1
    refine ⟨hp2, [(Sum.inl i, v2)], rfl, by show 1 ≤ 15; decide, ?_⟩
    have xx := (x0.trans x1).trans x2
    refine q p (.dK (mergeK [] [(Sum.inl i, v2)])) F2 _ ⟨fun b o e => ?_, xx.froz, fun b o e => ?_, xx.new⟩ hp upd_same ⟨[(Sum.inl i, v2)], rfl, ?_⟩ hF
    · have hb : b ≠ p := fun z => by subst z; rw [hp] at e; cases e
      rw [upd_ne hb]
      exact xx.heap b o e
    · have hb : b ≠ p := fun z => by subst z; rw [hF] at e; cases e
      rw [upd_ne hb]
      exact xx.sub b o e
    · unfold RepI; exact ⟨v2, [], rfl, r2, by unfold RepI; rfl⟩

/-! ### calls of built-ins -/
/-- f tells what the call of v gives -/
def CallD (G : GX) (L : LX) (f : List D → Option D) (v : Value) : Prop := ∀ X, XOk G L X → ∃ r, CallR X v r ∧
  ∀ F H ds vs d Q, Sub F H → Reps G.K F ds vs → f ds = some d → (∀ v F' H', Ext F H F' H' → Rep G.K F' d v → Q v H') → r vs H Q
/-- .. a new object of one's own -/
def CallF (G : GX) (L : LX) (f : List D → Option D) (v : Value) : Prop := ∀ X, XOk G L X → ∃ r, CallR X v r ∧
  ∀ F H ds vs d Q, Sub F H → Reps G.K F ds vs → f ds = some d → (∀ p o F' H', Ext F H F' H' → H p = none → H' p = some o → OwnO G.K F' d o → F' p = none → Q (.ref p) H') → r vs H Q
abbrev GlS (L : LX) (x : Str) : Prop := L.sc.names.lookup x = some .globalImplicit
theorem gl_of {X : Cx} (hX : XOk G L X) {x : Str} (h : GlS L x) : Gl X x := by show X.env.scope.names.lookup x = _; rw [hX.hsc]; exact h
variable {f : List D → Option D} {idn T : String} {x : Str} {p : Pos}
theorem e_cb (hc : CallD G L f (.builtin idn)) (hm : G.mg x = none) (hv : bootBuiltins x = some (.builtin idn)) (ha : AOk G L ρ (a :: es) ms) (hg : GlS L x := by rfl)
    (hn : x ≠ "__name__" := by decide) (hdb : (x == ("__debug__" : Str)) = false := by decide)
    (he : ∀ env, starEach (a :: es) env = (false, eval a env) :: starEach es env := by intro _; rfl) (hpl : ∀ env, (backTo pos (starEach es env)).any (·.1) = false := by intro _; rfl) : EOk G L ρ (.Call (.Name x p) (a :: es) [] pos) (ms.bind f) := fun X hX => by
  obtain ⟨r, h1, h2⟩ := hc X hX
  refine wkE (pe_callB h1 (gl_of hX hg) (by rw [hX.hm]; exact hm) hv (ha X hX) hn hdb (he _) (hpl _)) fun σ H Q ⟨F, d, em, vr, q⟩ => ?_
  obtain ⟨ds, eds, em⟩ := Option.bind_eq_some_iff.mp em
  exact ⟨F, ds, eds, vr, fun vs F1 H1 x1 r1 => h2 F1 H1 ds vs d Q x1.sub r1 em fun v F2 H2 x2 r2 => q v F2 H2 (x1.trans x2) r2⟩
theorem e_ct (hc : CallD G L f (.type T)) (hm : G.mg x = none) (hv : bootBuiltins x = some (.type T)) (ha : AOk G L ρ (a :: es) ms) (hg : GlS L x := by rfl)
    (hn : x ≠ "__name__" := by decide) (hdb : (x == ("__debug__" : Str)) = false := by decide)
    (he : ∀ env, starEach (a :: es) env = (false, eval a env) :: starEach es env := by intro _; rfl) (hpl : ∀ env, (backTo pos (starEach es env)).any (·.1) = false := by intro _; rfl) : EOk G L ρ (.Call (.Name x p) (a :: es) [] pos) (ms.bind f) := fun X hX => by
  obtain ⟨r, h1, h2⟩ := hc X hX
  refine wkE (pe_callTy h1 (gl_of hX hg) (by rw [hX.hm]; exact hm) hv (ha X hX) hn hdb (he _) (hpl _)) fun σ H Q ⟨F, d, em, vr, q⟩ => ?_
  obtain ⟨ds, eds, em⟩ := Option.bind_eq_some_iff.mp em
  exact ⟨F, ds, eds, vr, fun vs F1 H1 x1 r1 => h2 F1 H1 ds vs d Q x1.sub r1 em fun v F2 H2 x2 r2 => q v F2 H2 (x1.trans x2) r2⟩
theorem f_cb (hc : CallF G L f (.builtin idn)) (hm : G.mg x = none) (hv : bootBuiltins x = some (.builtin idn)) (ha : AOk G L ρ (a :: es) ms) (hg : GlS L x := by rfl)
    (hn : x ≠ "__name__" := by decide) (hdb : (x == ("__debug__" : Str)) = false := by decide)
    (he : ∀ env, starEach (a :: es) env = (false, eval a env) :: starEach es env := by intro _; rfl) (hpl : ∀ env, (backTo pos (starEach es env)).any (·.1) = false := by intro _; rfl) : FOk G L ρ (.Call (.Name x p) (a :: es) [] pos) (ms.bind f) := fun X hX => by
  obtain ⟨r, h1, h2⟩ := hc X hX
  refine wkE (pe_callB h1 (gl_of hX hg) (by rw [hX.hm]; exact hm) hv (ha X hX) hn hdb (he _) (hpl _)) fun σ H Q ⟨F, d, em, vr, q⟩ => ?_
  obtain ⟨ds, eds, em⟩ := Option.bind_eq_some_iff.mp em
  exact ⟨F, ds, eds, vr, fun vs F1 H1 x1 r1 => h2 F1 H1 ds vs d Q x1.sub r1 em fun p o F2 H2 x2 n2 o2 r2 f2 => q p o F2 H2 (x1.trans x2) (x1.heap.free n2) o2 r2 f2⟩
theorem f_ct (hc : CallF G L f (.type T)) (hm : G.mg x = none) (hv : bootBuiltins x = some (.type T)) (ha : AOk G L ρ (a :: es) ms) (hg : GlS L x := by rfl)
    (hn : x ≠ "__name__" := by decide) (hdb : (x == ("__debug__" : Str)) = false := by decide)
    (he : ∀ env, starEach (a :: es) env = (false, eval a env) :: starEach es env := by intro _; rfl) (hpl : ∀ env, (backTo pos (starEach es env)).any (·.1) = false := by intro _; rfl) : FOk G L ρ (.Call (.Name x p) (a :: es) [] pos) (ms.bind f) := fun X hX => by
  obtain ⟨r, h1, h2⟩ := hc X hX
  refine wkE (pe_callTy h1 (gl_of hX hg) (by rw [hX.hm]; exact hm) hv (ha X hX) hn hdb (he _) (hpl _)) fun σ H Q ⟨F, d, em, vr, q⟩ => ?_
  obtain ⟨ds, eds, em⟩ := Option.bind_eq_some_iff.mp em
  exact ⟨F, ds, eds, vr, fun vs F1 H1 x1 r1 => h2 F1 H1 ds vs d Q x1.sub r1 em fun p o F2 H2 x2 n2 o2 r2 f2 => q p o F2 H2 (x1.trans x2) (x1.heap.free n2) o2 r2 f2⟩

/-! ### the built-ins -/
theorem Reps.one {K : PySem.W.Frag} {F : Hp} {d : D} {vs : List V} (r : Reps K F [d] vs) : ∃ v, vs = [v] ∧ Rep K F d v := by
  obtain ⟨v, q, rfl, h, t⟩ := r.inv
  rw [t.nil_inv]; exact ⟨v, rfl, h⟩
theorem Reps.two {K : PySem.W.Frag} {F : Hp} {d d' : D} {vs : List V} (r : Reps K F [d, d'] vs) : ∃ v v', vs = [v, v'] ∧ Rep K F d v ∧ Rep K F d' v' := by
  obtain ⟨v, q, rfl, h, t⟩ := r.inv
  obtain ⟨v', rfl, h'⟩ := t.one
  exact ⟨v, v', rfl, h, h'⟩
/-- int(x): of an int, of True, False -/
def intD : List D → Option D
  | [.int i] => some (.int i)
  | [.bl b] => some (.int (if b then 1 else 0))
  | _ => none
theorem cd_int : CallD G L intD (.type "int") := fun X hX => ⟨_, call_int1, fun F H ds vs d Q s r e q => by
  unfold intD at e
  split at e
  · cases e
    obtain ⟨v, rfl, h⟩ := r.one
    unfold Rep at h; subst h
    exact .inl ⟨_, rfl, q _ _ _ (.refl s) rep_i⟩
  · cases e
    obtain ⟨v, rfl, h⟩ := r.one
    unfold Rep at h; subst h
    exact .inr ⟨_, rfl, q _ _ _ (.refl s) rep_i⟩
  · cases e⟩
def absD : List D → Option D
  | [.int i] => some (.int (if i < 0 then -i else i))
  | _ => none
theorem cd_abs : CallD G L absD (.builtin "abs") := fun X hX => ⟨_, call_abs, fun F H ds vs d Q s r e q => by
  unfold absD at e
  split at e
  · cases e
    obtain ⟨v, rfl, h⟩ := r.one
    unfold Rep at h; subst h
    exact ⟨_, rfl, q _ _ _ (.refl s) rep_i⟩
  · cases e⟩
def max2D : List D → Option D
  | [.int i, .int j] => some (.int (if j > i then j else i))
  | _ => none
def min2D : List D → Option D
  | [.int i, .int j] => some (.int (if j < i then j else i))
  | _ => none
theorem cd_max2 : CallD G L max2D (.builtin "max") := fun X hX => ⟨_, call_max2 hX.calm, fun F H ds vs d Q s r e q => by
  unfold max2D at e
  split at e
  · cases e
    obtain ⟨v, v', rfl, h, h'⟩ := r.two
    unfold Rep at h h'; subst h h'
    exact ⟨_, _, rfl, q _ _ _ (.refl s) rep_i⟩
  · cases e⟩
theorem cd_min2 : CallD G L min2D (.builtin "min") := fun X hX => ⟨_, call_min2 hX.calm, fun F H ds vs d Q s r e q => by
  unfold min2D at e
  split at e
  · cases e
    obtain ⟨v, v', rfl, h, h'⟩ := r.two
    unfold Rep at h h'; subst h h'
    exact ⟨_, _, rfl, q _ _ _ (.refl s) rep_i⟩
  · cases e⟩
def lenD : List D → Option D
  | [.tup xs] => some (.int xs.length)
  | [.lst xs] => some (.int xs.length)
  | [.scr xs] => some (.int xs.length)
  | [.dI xs] => some (.int xs.length)
  | [.str x] => if x.length ≤ 16777216 then some (.int x.length) else none
  | _ => none
theorem d_lenR {X : Cx} : CallR X (.builtin "len") (fun xs H Q => ∃ a kvs, xs = [V.ref a] ∧ Rd H a (.dK kvs) ∧ Q (.int kvs.length) H) := by
  intro pins s σ H xs us Q I r h
  obtain ⟨a, kvs, rfl, ha, q⟩ := h
  obtain ⟨u, rfl, ru⟩ := vals1 r
  cases ru
  exact d_len I ha fun t s' I' => ⟨.int kvs.length, H, I', ⟨t, rfl⟩, q⟩
theorem cd_len : CallD G L lenD (.builtin "len") := fun X hX => ⟨_, call_len.or d_lenR, fun F H ds vs d Q s r e q => by
  rw [hX.hK]
  unfold lenD at e
  split at e
  · cases e
    obtain ⟨v, rfl, h⟩ := r.one
    unfold Rep at h
    obtain ⟨p, vs, rfl, h1, q1⟩ := h
    exact .inl ⟨_, _, rfl, .inr ⟨vs, tup_sq h1 s, rfl⟩, by rw [← q1.len]; exact q _ _ _ (.refl s) rep_i⟩
  · cases e
    obtain ⟨v, rfl, h⟩ := r.one
    unfold Rep at h
    obtain ⟨p, vs, rfl, h1, q1⟩ := h
    exact .inl ⟨_, _, rfl, .inl ⟨vs, lst_sq h1 s, rfl⟩, by rw [← q1.len]; exact q _ _ _ (.refl s) rep_i⟩
  · cases e
    obtain ⟨v, rfl, h⟩ := r.one
    unfold Rep at h
    obtain ⟨p, rfl, h1⟩ := h
    exact .inl ⟨_, _, rfl, .inl ⟨_, scr_sq h1 s, rfl⟩, by rw [List.length_map]; exact q _ _ _ (.refl s) rep_i⟩
  · cases e
    obtain ⟨v, rfl, h⟩ := r.one
    unfold Rep at h
    obtain ⟨p, ws, rfl, h1, q1⟩ := h
    exact .inr ⟨_, ws, rfl, s.rd h1, by rw [← q1.len]; exact q _ _ _ (.refl s) rep_i⟩
  · split at e
    · cases e
      obtain ⟨v, rfl, h⟩ := r.one
      unfold Rep at h; subst h
      exact .inl ⟨_, _, rfl, ⟨sz (by assumption), rfl⟩, q _ _ _ (.refl s) rep_i⟩
    · cases e
  · cases e⟩
theorem Reps.bls {K : PySem.W.Frag} {F : Hp} : ∀ {ns : List Bool} {vs : List V}, Reps K F (ns.map D.bl) vs → vs = ns.map V.bl
  | [], _, r => r.nil_inv
  | n :: ns, vs, r => by
    obtain ⟨v, q, rfl, r1, r2⟩ := r.inv
    unfold Rep at r1
    rw [r1, Reps.bls r2]; rfl
def blsOf : List D → Option (List Bool)
  | [] => some []
  | .bl i :: ds => (blsOf ds).map (i :: ·)
  | _ :: _ => none
theorem blsOf_eq : ∀ {ds : List D} {bs : List Bool}, blsOf ds = some bs → ds = bs.map .bl
  | [], bs, h => by cases h; rfl
  | .bl i :: ds, bs, h => by
    unfold blsOf at h
    obtain ⟨ks, h', rfl⟩ := Option.map_eq_some_iff.mp h
    rw [blsOf_eq h']; rfl
  | .non :: _, _, h => by cases h
  | .int _ :: _, _, h => by cases h
  | .str _ :: _, _, h => by cases h
  | .tup _ :: _, _, h => by cases h
  | .lst _ :: _, _, h => by cases h
  | .dI _ :: _, _, h => by cases h
  | .dT _ :: _, _, h => by cases h
  | .rg _ _ :: _, _, h => by cases h
  | .scr _ :: _, _, h => by cases h
theorem intsOf_eq : ∀ {ds : List D} {bs : List Int}, intsOf ds = some bs → ds = bs.map .int
  | [], bs, h => by cases h; rfl
  | .int i :: ds, bs, h => by
    unfold intsOf at h
    obtain ⟨ks, h', rfl⟩ := Option.map_eq_some_iff.mp h
    rw [intsOf_eq h']; rfl
  | .non :: _, _, h => by cases h
  | .bl _ :: _, _, h => by cases h
  | .str _ :: _, _, h => by cases h
  | .tup _ :: _, _, h => by cases h
  | .lst _ :: _, _, h => by cases h
  | .dI _ :: _, _, h => by cases h
  | .dT _ :: _, _, h => by cases h
  | .rg _ _ :: _, _, h => by cases h
  | .scr _ :: _, _, h => by cases h
def allD : List D → Option D
  | [.lst xs] => (blsOf xs).map fun bs => .bl (bs.all fun b => b)
  | _ => none
def anyD : List D → Option D
  | [.lst xs] => (blsOf xs).map fun bs => .bl (bs.any fun b => b)
  | _ => none
def sumD : List D → Option D
  | [.lst xs] => (intsOf xs).map fun ns => .int ns.sum
  | [.tup xs] => (intsOf xs).map fun ns => .int ns.sum
  | _ => none
theorem cd_all : CallD G L allD (.builtin "all") := fun X hX => ⟨_, cr_all hX.calm, fun F H ds vs d Q s r e q => by
  unfold allD at e
  split at e
  · obtain ⟨bs, hb, rfl⟩ := Option.map_eq_some_iff.mp e
    obtain ⟨v, rfl, h⟩ := r.one
    unfold Rep at h
    obtain ⟨p, vs, rfl, h1, q1⟩ := h
    rw [blsOf_eq hb] at q1
    have := q1.bls
    subst this
    exact ⟨p, bs, rfl, lst_sq h1 s, q _ _ _ (.refl s) rep_b⟩
  · cases e⟩
theorem cd_any : CallD G L anyD (.builtin "any") := fun X hX => ⟨_, cr_any hX.calm, fun F H ds vs d Q s r e q => by
  unfold anyD at e
  split at e
  · obtain ⟨bs, hb, rfl⟩ := Option.map_eq_some_iff.mp e
    obtain ⟨v, rfl, h⟩ := r.one
    unfold Rep at h
    obtain ⟨p, vs, rfl, h1, q1⟩ := h
    rw [blsOf_eq hb] at q1
    have := q1.bls
    subst this
    exact ⟨p, bs, rfl, lst_sq h1 s, q _ _ _ (.refl s) rep_b⟩
  · cases e⟩
theorem cr_sumT {X : Cx} (hc : X.calm = true) : CallR X (.builtin "sum") (fun vs H Q => ∃ (a : Addr) (ns : List Int), vs = [V.ref a] ∧ SqT X.K H a (ns.map V.int) ∧ Q (.int ns.sum) H) := by
  intro pins s σ H vs us Q I r h
  obtain ⟨a, ns, rfl, hs, q⟩ := h
  obtain ⟨its, rv, ht, _⟩ := I.tuple hs
  rw [Vals.ref1 r]
  obtain ⟨xs, hx⟩ := rv.ints.allInts.items
  have hn : numsOf its.toArray.toList = ns := rv.ints.numsOf
  rw [hx, nums_intItems] at hn
  have ht' : s.heap.IsTuple a its.toArray := ht
  rw [hx] at ht'
  refine PySem.W.ktm_sumG (I.ok.hd hc) ht' fun h' tk t' hk => ⟨.int _, H, I.kept hk, ⟨_, rfl⟩, ?_⟩
  rw [preSum_eq, List.take_of_length_le (by simp), hn]
  exact q
theorem cd_sum : CallD G L sumD (.builtin "sum") := fun X hX => ⟨_, (cr_sum hX.calm).or (cr_sumT hX.calm), fun F H ds vs d Q s r e q => by
  unfold sumD at e
  split at e
  · obtain ⟨bs, hb, rfl⟩ := Option.map_eq_some_iff.mp e
    obtain ⟨v, rfl, h⟩ := r.one
    unfold Rep at h
    obtain ⟨p, vs, rfl, h1, q1⟩ := h
    rw [intsOf_eq hb] at q1
    have := q1.ints
    subst this
    exact .inl ⟨p, bs, rfl, lst_sq h1 s, q _ _ _ (.refl s) rep_i⟩
  · obtain ⟨bs, hb, rfl⟩ := Option.map_eq_some_iff.mp e
    obtain ⟨v, rfl, h⟩ := r.one
    unfold Rep at h
    obtain ⟨p, vs, rfl, h1, q1⟩ := h
    rw [intsOf_eq hb] at q1
    have := q1.ints
    subst this
    exact .inr ⟨p, bs, rfl, tup_sq h1 s, q _ _ _ (.refl s) rep_i⟩
  · cases e⟩
/-- tuple(xs), xs a list or a tuple -/
def tupleD : List D → Option D
  | [.lst xs] => some (.tup xs)
  | [.tup xs] => some (.tup xs)
  | _ => none
theorem cd_tuple : CallD G L tupleD (.type "tuple") := fun X hX => ⟨_, call_tuple_of, fun F H ds vs d Q s r e q => by
  rw [hX.hK]
  unfold tupleD at e
  split at e
  · cases e
    obtain ⟨v, rfl, h⟩ := r.one
    unfold Rep at h
    obtain ⟨p, vs, rfl, h1, q1⟩ := h
    refine ⟨p, vs, rfl, .inl ⟨lst_sq h1 s, fun l hl => ?_⟩⟩
    exact q _ _ _ (.frz s hl) (by unfold Rep; exact ⟨l, vs, rfl, upd_same, Reps.mono (same_new (s.none hl)) _ _ q1⟩)
  · cases e
    obtain ⟨v, rfl, h⟩ := r.one
    have h' := h
    unfold Rep at h
    obtain ⟨p, vs, rfl, h1, q1⟩ := h
    exact ⟨p, vs, rfl, .inr ⟨tup_sq h1 s, q _ _ _ (.refl s) h'⟩⟩
  · cases e⟩
/-- list(xs), xs a list or a tuple: a new list -/
def listD : List D → Option D
  | [.lst xs] => some (.lst xs)
  | [.tup xs] => some (.lst xs)
  | _ => none
theorem cf_list : CallF G L listD (.type "list") := fun X hX => ⟨_, call_list_of, fun F H ds vs d Q s r e q => by
  rw [hX.hK]
  unfold listD at e
  split at e
  · cases e
    obtain ⟨v, rfl, h⟩ := r.one
    unfold Rep at h
    obtain ⟨p, vs, rfl, h1, q1⟩ := h
    exact ⟨p, vs, rfl, .inl (lst_sq h1 s), fun l hl => q l _ _ _ (.own s hl) hl upd_same ⟨vs, rfl, q1⟩ (s.none hl)⟩
  · cases e
    obtain ⟨v, rfl, h⟩ := r.one
    unfold Rep at h
    obtain ⟨p, vs, rfl, h1, q1⟩ := h
    exact ⟨p, vs, rfl, .inr (tup_sq h1 s), fun l hl => q l _ _ _ (.own s hl) hl upd_same ⟨vs, rfl, q1⟩ (s.none hl)⟩
  · cases e⟩
end
end DL
set_option autoImplicit false
set_option maxRecDepth 100000
set_option maxHeartbeats 4000000
namespace DL
open PySem PySem.Spec PySem.SeqAt PyProof.Rows L2
/-! ### zip of lists and tuples in any mix, two and three; enumerate of either -/
/-- a kind of thing that is walked -/
structure SrcK where
  sq : PySem.W.Frag → Hp → Addr → List V → Prop
  ob : Addr → Obj
  it : Heap → Addr → Addr → Nat → Prop
  is : Heap → Addr → Array Value → Prop
structure SrcOk (k : SrcK) : Prop where
  get : ∀ {X : Cx} {pins : List (Addr × Obj)} {σ : L2.St} {H : Hp} {s : Shared} {a : Addr} {xs : List V}, Inv X pins σ H s → k.sq X.K H a xs → ∃ its : List Value, Vals xs its ∧ k.is s.heap a its.toArray
  inj : ∀ {X : Cx} {pins : List (Addr × Obj)} {σ : L2.St} {H : Hp} {s : Shared} {a : Addr} {xs ys : List V}, Inv X pins σ H s → k.sq X.K H a xs → k.sq X.K H a ys → xs = ys
  beg : ∀ (l : Addr) (items : Array Value), Begins (.ref l) (k.ob l) fun h => k.is h l items
  drw : ∀ (P : Program) (w : World) (A : Around), A.handled = none → ∀ (it l : Addr), l ≠ it → ∀ items : Array Value, Draws P w A it [it, l] items.size (fun i v => items[i]? = some v) (fun i h => k.it h it l i ∧ k.is h l items)
  mov : ∀ {h h' : Heap} {it l : Addr} {i : Nat}, k.it h it l i → (∀ o, h.get? it = some o → h'.get? it = some o) → k.it h' it l i
  cel : ∀ {h : Heap} {it l : Addr} {i : Nat}, k.it h it l i → ∃ o, h.get? it = some o ∧ ∀ v, o.data ≠ .cell v
  ini : ∀ {h : Heap} {it l : Addr}, h.get? it = some (k.ob l) → k.it h it l 0
  lts : ∀ {h : Heap} {l : Addr} {items : Array Value}, k.is h l items → l < h.objs.size
def srcL : SrcK := ⟨fun K H a xs => SqL K H a xs, fun l => { cls := .type "list_iterator", data := .fields #[.ref l, .int 0 0] }, fun h it l i => h.IsListIter it l i, fun h l items => h.IsList l items⟩
def srcT : SrcK := ⟨fun K H a xs => SqT K H a xs, fun l => { cls := .type "tuple_iterator", data := .fields #[.ref l, .int 0 0] }, fun h it l i => h.IsTupleIter it l i, fun h l items => h.IsTuple l items⟩
theorem srcL_ok : SrcOk srcL where
  get := fun I q => by
    obtain ⟨its, rv, p, _⟩ := I.list q
    exact ⟨its, rv, p.isList⟩
  inj := fun I q q' => I.list_inj q q'
  beg := fun l items => begins_list l items
  drw := fun P w A hh it l hne items => Draws.list hh it l hne items
  mov := fun st h => st.at h
  cel := fun st => by
    obtain ⟨o, ho, _, hd⟩ := st
    exact ⟨o, ho, fun v q => by rw [hd] at q; cases q⟩
  ini := fun e => ⟨_, e, rfl, rfl⟩
  lts := fun p => by obtain ⟨o, ho, _⟩ := p; exact Heap.lt_size ho
theorem srcT_ok : SrcOk srcT where
  get := fun I q => by
    obtain ⟨its, rv, p, _⟩ := I.tuple q
    exact ⟨its, rv, p⟩
  inj := fun I q q' => I.tuple_inj q q'
  beg := fun l items => begins_tuple l items
  drw := fun P w A hh it l hne items => Draws.tuple hh it l hne items
  mov := fun st h => st.at h
  cel := fun st => by
    obtain ⟨o, ho, _, hd⟩ := st
    exact ⟨o, ho, fun v q => by rw [hd] at q; cases q⟩
  ini := fun e => ⟨_, e, rfl, rfl⟩
  lts := fun p => by obtain ⟨o, ho, _⟩ := p; exact Heap.lt_size ho
/-- two at once -/
def Jz2 (K : PySem.W.Frag) (k1 k2 : SrcK) (a b : Addr) : It :=
  ⟨fun i H => ∃ (xs ys : List V) (x y : V), k1.sq K H a xs ∧ k2.sq K H b ys ∧ xs[i]? = some x ∧ ys[i]? = some y,
    fun i H v H' => ∃ T x y, v = .ref T ∧ H T = none ∧ H' = upd H T (.tup [x, y]) ∧ (∀ xs, k1.sq K H a xs → xs[i]? = some x) ∧ ∀ ys, k2.sq K H b ys → ys[i]? = some y,
    fun i H => ∃ xs ys : List V, k1.sq K H a xs ∧ k2.sq K H b ys ∧ i = min xs.length ys.length⟩
/-- three at once -/
def Jz3 (K : PySem.W.Frag) (k1 k2 k3 : SrcK) (a b c : Addr) : It :=
  ⟨fun i H => ∃ (xs ys us : List V) (x y u : V), k1.sq K H a xs ∧ k2.sq K H b ys ∧ k3.sq K H c us ∧ xs[i]? = some x ∧ ys[i]? = some y ∧ us[i]? = some u,
    fun i H v H' => ∃ T x y u, v = .ref T ∧ H T = none ∧ H' = upd H T (.tup [x, y, u]) ∧ (∀ xs, k1.sq K H a xs → xs[i]? = some x) ∧ (∀ ys, k2.sq K H b ys → ys[i]? = some y) ∧ ∀ us, k3.sq K H c us → us[i]? = some u,
    fun i H => ∃ xs ys us : List V, k1.sq K H a xs ∧ k2.sq K H b ys ∧ k3.sq K H c us ∧ i = min (min xs.length ys.length) us.length⟩
/-- each with its place -/
def Jen (K : PySem.W.Frag) (k : SrcK) (a : Addr) : It :=
  ⟨fun i H => ∃ (xs : List V) (x : V), k.sq K H a xs ∧ xs[i]? = some x,
    fun i H v H' => ∃ T x, v = .ref T ∧ H T = none ∧ H' = upd H T (.tup [.int (i : Nat), x]) ∧ ∀ xs, k.sq K H a xs → xs[i]? = some x,
    fun i H => ∃ xs : List V, k.sq K H a xs ∧ i = xs.length⟩
section
variable {P : Program} {w : World} {K : PySem.W.Frag} {elts : List Expr} {kk : Nat} {tpos : Pos} {k1 k2 k3 : SrcK} {a b c z TI TO i1 i2 i3 e it : Addr}
theorem turn_z2 (o1 : SrcOk k1) (o2 : SrcOk k2) (S : ZipSep2 z TI TO i1 i2 [i1, a] [i2, b]) (n1 : a ≠ i1) (n2 : b ≠ i2) :
    Turn P w K (.Tuple elts kk tpos) (Jz2 K k1 k2 a b) [z, TI, TO, i1, i2] z (fun i h => IsZip h z TI TO .none ∧ IsTupOf2 h TI (.ref i1) (.ref i2) ∧ (∃ x y, IsTupOf2 h TO x y) ∧ k1.it h i1 a i ∧ k2.it h i2 b i) where
  mem := by simp
  obj := fun i h st m hm => by
    obtain ⟨hz, hTI, ⟨x, y, hTO⟩, h1, h2⟩ := st
    have e' : m = z ∨ m = TI ∨ m = TO ∨ m = i1 ∨ m = i2 := by simpa using hm
    rcases e' with q | q | q | q | q <;> subst q
    · exact ⟨_, hz, fun v q => nomatch q⟩
    · exact ⟨_, hTI, fun v q => nomatch q⟩
    · exact ⟨_, hTO, fun v q => nomatch q⟩
    · exact o1.cel h1
    · exact o2.cel h2
  keep := fun i h h' st k => by
    obtain ⟨hz, hTI, ⟨x, y, hTO⟩, h1, h2⟩ := st
    exact ⟨k z (by simp) _ hz, k TI (by simp) _ hTI, ⟨x, y, k TO (by simp) _ hTO⟩, o1.mov h1 fun o q => k i1 (by simp) o q, o2.mov h2 fun o q => k i2 (by simp) o q⟩
  item := by
    intro X hP hw hK hc i pins s σ H E I hf st hg
    subst hP hw hK
    obtain ⟨hz, hTI, ⟨x0, y0, hTO⟩, h1, h2⟩ := st
    obtain ⟨xs, ys, x, y, q1, q2, e1, e2⟩ := hg
    obtain ⟨s1, r1, p1⟩ := o1.get I q1
    obtain ⟨s2, r2, p2⟩ := o2.get I q2
    obtain ⟨w1, hw1, g1⟩ := r1.get e1
    obtain ⟨w2, hw2, g2⟩ := r2.get e2
    have l1 : i < s1.toArray.size := by simpa using (List.getElem?_eq_some_iff.mp hw1).1
    have l2 : i < s2.toArray.size := by simpa using (List.getElem?_eq_some_iff.mp hw2).1
    have hh : X.A.in1.handled = none := I.ok.hd hc
    have hzl : z < s.heap.objs.size := Heap.lt_size hz
    refine wpAny_pyNext_zipD2_item S (o1.drw _ _ _ hh i1 a n1 s1.toArray) (o2.drw _ _ _ hh i2 b n2 s2.toArray) hz hTI hTO ⟨h1, p1⟩ ⟨h2, p2⟩ l1 l2 fun x1 x2 h' tk y1 y2 b1 b2 d1 d2 b5 b6 hk => ?_
    have y1' : s1[i]? = some x1 := by simpa using y1
    have y2' : s2[i]? = some x2 := by simpa using y2
    rw [hw1] at y1'; cases y1'
    rw [hw2] at y2'; cases y2'
    refine ⟨_, rfl, wpAny_letOwnedTupleGo_zip (s := { s with heap := h', toks := tk }) b1 fun h2' z2' sb => ?_⟩
    have t2 : h2'.get? s.heap.objs.size = some { cls := .type "tuple", data := .seq #[w1, w2] } := (sb.2 _ (Nat.ne_of_gt hzl)).trans b5
    have nw : ObjOk X.prog X.w (upd H s.heap.objs.size (.tup [x, y])) h2' s.heap.objs.size (.tup [x, y]) :=
      ⟨by show 2 ≤ sizeLine; decide, [w1, w2], .cons g1 (.cons g2 .nil), ⟨_, t2, rfl, _, rfl⟩⟩
    have I1 : Inv X pins σ (upd H s.heap.objs.size (.tup [x, y])) { s with heap := h2', toks := tk } :=
      I.turnedNew (t' := tk) (ch := [z, TI, TO, i1, i2]) (fun m o hb q => (sb.2 m (fun q' => hb (by simp [q']))).trans (hk m o (fun q' => hb (by simp [q'])) (fun q' => hb (by simp [q'])) (fun q' => hb (by simp [q'])) (fun q' => hb (by simp [q'])) q)) hf (Nat.le_refl _) nw
    refine ⟨.ref s.heap.objs.size, _, I1, rfl, ⟨_, x, y, rfl, I.hok.fresh (Nat.le_refl _), rfl, fun l hl => by rw [o1.inj I hl q1]; exact e1, fun l hl => by rw [o2.inj I hl q2]; exact e2⟩, ⟨z2', (sb.2 _ S.TIz).trans (hk _ _ S.TIz S.TITO S.TIi1 S.TIi2 hTI), ⟨w1, w2, (sb.2 _ S.TOz).trans b2⟩, o1.mov d1.1 fun o q => (sb.2 _ ?_).trans q, o2.mov d2.1 fun o q => (sb.2 _ ?_).trans q⟩, fun m hm => ?_⟩
    · exact fun q' => S.zf1 (by simp [q'])
    · exact fun q' => S.zf2 (by simp [q'])
    · have hlt : m < s.heap.objs.size := by
        have e' : m = z ∨ m = TI ∨ m = TO ∨ m = i1 ∨ m = i2 := by simpa using hm
        rcases e' with q | q | q | q | q <;> subst q
        · exact hzl
        · exact Heap.lt_size hTI
        · exact Heap.lt_size hTO
        · obtain ⟨_, q, _⟩ := o1.cel h1; exact Heap.lt_size q
        · obtain ⟨_, q, _⟩ := o2.cel h2; exact Heap.lt_size q
      rw [upd_ne (Nat.ne_of_lt hlt)]
      exact (hf m hm).1
  done := by
    intro X hP hw hK hc i pins s σ H E I hf st hg
    subst hP hw hK
    obtain ⟨hz, hTI, ⟨x0, y0, hTO⟩, h1, h2⟩ := st
    obtain ⟨xs, ys, q1, q2, hend⟩ := hg
    obtain ⟨s1, r1, p1⟩ := o1.get I q1
    obtain ⟨s2, r2, p2⟩ := o2.get I q2
    have l1 := r1.length
    have l2 := r2.length
    have m1 : s1.toArray.size = s1.length := by simp
    have m2 : s2.toArray.size = s2.length := by simp
    have hh : X.A.in1.handled = none := I.ok.hd hc
    exact wpAny_pyNext_zipD2_end S (o1.drw _ _ _ hh i1 a n1 s1.toArray) (o2.drw _ _ _ hh i2 b n2 s2.toArray) hz hTI hTO ⟨h1, p1⟩ ⟨h2, p2⟩ (by omega) (by omega) (by omega) fun h' tk hk => ⟨rfl, I.turnedL (t' := tk) (ch := [z, TI, TO, i1, i2]) (fun m o hb q =>
      hk m o (fun q' => hb (by simp [q'])) (fun q' => hb (by simp [q'])) (fun q' => hb (by simp [q'])) (fun q' => hb (by simp [q'])) q) hf⟩
  self := fun A i s Q E st h => wpAny_pyIter_zip st.1 h
theorem turn_z3 (o1 : SrcOk k1) (o2 : SrcOk k2) (o3 : SrcOk k3) (S : ZipSep3 z TI TO i1 i2 i3 [i1, a] [i2, b] [i3, c]) (n1 : a ≠ i1) (n2 : b ≠ i2) (n3 : c ≠ i3) :
    Turn P w K (.Tuple elts kk tpos) (Jz3 K k1 k2 k3 a b c) [z, TI, TO, i1, i2, i3] z (fun i h => IsZip h z TI TO .none ∧ IsTupOf3 h TI (.ref i1) (.ref i2) (.ref i3) ∧ (∃ x y u, IsTupOf3 h TO x y u) ∧ k1.it h i1 a i ∧ k2.it h i2 b i ∧ k3.it h i3 c i) where
  mem := by simp
  obj := fun i h st m hm => by
    obtain ⟨hz, hTI, ⟨x, y, u, hTO⟩, h1, h2, h3⟩ := st
    have e' : m = z ∨ m = TI ∨ m = TO ∨ m = i1 ∨ m = i2 ∨ m = i3 := by simpa using hm
    rcases e' with q | q | q | q | q | q <;> subst q
    · exact ⟨_, hz, fun v q => nomatch q⟩
    · exact ⟨_, hTI, fun v q => nomatch q⟩
    · exact ⟨_, hTO, fun v q => nomatch q⟩
    · exact o1.cel h1
    · exact o2.cel h2
    · exact o3.cel h3
  keep := fun i h h' st k => by
    obtain ⟨hz, hTI, ⟨x, y, u, hTO⟩, h1, h2, h3⟩ := st
    exact ⟨k z (by simp) _ hz, k TI (by simp) _ hTI, ⟨x, y, u, k TO (by simp) _ hTO⟩, o1.mov h1 fun o q => k i1 (by simp) o q, o2.mov h2 fun o q => k i2 (by simp) o q, o3.mov h3 fun o q => k i3 (by simp) o q⟩
  item := by
    intro X hP hw hK hc i pins s σ H E I hf st hg
    subst hP hw hK
    obtain ⟨hz, hTI, ⟨x0, y0, u0, hTO⟩, h1, h2, h3⟩ := st
    obtain ⟨xs, ys, us, x, y, u, q1, q2, q3, e1, e2, e3⟩ := hg
    obtain ⟨s1, r1, p1⟩ := o1.get I q1
    obtain ⟨s2, r2, p2⟩ := o2.get I q2
    obtain ⟨s3, r3, p3⟩ := o3.get I q3
    obtain ⟨w1, hw1, g1⟩ := r1.get e1
    obtain ⟨w2, hw2, g2⟩ := r2.get e2
    obtain ⟨w3, hw3, g3⟩ := r3.get e3
    have l1 : i < s1.toArray.size := by simpa using (List.getElem?_eq_some_iff.mp hw1).1
    have l2 : i < s2.toArray.size := by simpa using (List.getElem?_eq_some_iff.mp hw2).1
    have l3 : i < s3.toArray.size := by simpa using (List.getElem?_eq_some_iff.mp hw3).1
    have hh : X.A.in1.handled = none := I.ok.hd hc
    have hzl : z < s.heap.objs.size := Heap.lt_size hz
    refine wpAny_pyNext_zipD3_item S (o1.drw _ _ _ hh i1 a n1 s1.toArray) (o2.drw _ _ _ hh i2 b n2 s2.toArray) (o3.drw _ _ _ hh i3 c n3 s3.toArray) hz hTI hTO ⟨h1, p1⟩ ⟨h2, p2⟩ ⟨h3, p3⟩ l1 l2 l3 fun x1 x2 x3 h' tk y1 y2 y3 b1 b2 d1 d2 d3 b5 b6 hk => ?_
    have y1' : s1[i]? = some x1 := by simpa using y1
    have y2' : s2[i]? = some x2 := by simpa using y2
    have y3' : s3[i]? = some x3 := by simpa using y3
    rw [hw1] at y1'; cases y1'
    rw [hw2] at y2'; cases y2'
    rw [hw3] at y3'; cases y3'
    refine ⟨_, rfl, wpAny_letOwnedTupleGo_zip (s := { s with heap := h', toks := tk }) b1 fun h2' z2' sb => ?_⟩
    have t2 : h2'.get? s.heap.objs.size = some { cls := .type "tuple", data := .seq #[w1, w2, w3] } := (sb.2 _ (Nat.ne_of_gt hzl)).trans b5
    have nw : ObjOk X.prog X.w (upd H s.heap.objs.size (.tup [x, y, u])) h2' s.heap.objs.size (.tup [x, y, u]) :=
      ⟨by show 3 ≤ sizeLine; decide, [w1, w2, w3], .cons g1 (.cons g2 (.cons g3 .nil)), ⟨_, t2, rfl, _, rfl⟩⟩
    have I1 : Inv X pins σ (upd H s.heap.objs.size (.tup [x, y, u])) { s with heap := h2', toks := tk } :=
      I.turnedNew (t' := tk) (ch := [z, TI, TO, i1, i2, i3]) (fun m o hb q => (sb.2 m (fun q' => hb (by simp [q']))).trans (hk m o (fun q' => hb (by simp [q'])) (fun q' => hb (by simp [q'])) (fun q' => hb (by simp [q'])) (fun q' => hb (by simp [q'])) (fun q' => hb (by simp [q'])) q)) hf (Nat.le_refl _) nw
    refine ⟨.ref s.heap.objs.size, _, I1, rfl, ⟨_, x, y, u, rfl, I.hok.fresh (Nat.le_refl _), rfl, fun l hl => by rw [o1.inj I hl q1]; exact e1, fun l hl => by rw [o2.inj I hl q2]; exact e2, fun l hl => by rw [o3.inj I hl q3]; exact e3⟩, ⟨z2', (sb.2 _ S.TIz).trans (hk _ _ S.TIz S.TITO S.TIi1 S.TIi2 S.TIi3 hTI), ⟨w1, w2, w3, (sb.2 _ S.TOz).trans b2⟩, o1.mov d1.1 fun o q => (sb.2 _ ?_).trans q, o2.mov d2.1 fun o q => (sb.2 _ ?_).trans q, o3.mov d3.1 fun o q => (sb.2 _ ?_).trans q⟩, fun m hm => ?_⟩
    · exact fun q' => S.zf1 (by simp [q'])
    · exact fun q' => S.zf2 (by simp [q'])
    · exact fun q' => S.zf3 (by simp [q'])
    · have hlt : m < s.heap.objs.size := by
        have e' : m = z ∨ m = TI ∨ m = TO ∨ m = i1 ∨ m = i2 ∨ m = i3 := by simpa using hm
        rcases e' with q | q | q | q | q | q <;> subst q
        · exact hzl
        · exact Heap.lt_size hTI
        · exact Heap.lt_size hTO
        · obtain ⟨_, q, _⟩ := o1.cel h1; exact Heap.lt_size q
        · obtain ⟨_, q, _⟩ := o2.cel h2; exact Heap.lt_size q
        · obtain ⟨_, q, _⟩ := o3.cel h3; exact Heap.lt_size q
      rw [upd_ne (Nat.ne_of_lt hlt)]
      exact (hf m hm).1
  done := by
    intro X hP hw hK hc i pins s σ H E I hf st hg
    subst hP hw hK
    obtain ⟨hz, hTI, ⟨x0, y0, u0, hTO⟩, h1, h2, h3⟩ := st
    obtain ⟨xs, ys, us, q1, q2, q3, hend⟩ := hg
    obtain ⟨s1, r1, p1⟩ := o1.get I q1
    obtain ⟨s2, r2, p2⟩ := o2.get I q2
    obtain ⟨s3, r3, p3⟩ := o3.get I q3
    have l1 := r1.length
    have l2 := r2.length
    have l3 := r3.length
    have m1 : s1.toArray.size = s1.length := by simp
    have m2 : s2.toArray.size = s2.length := by simp
    have m3 : s3.toArray.size = s3.length := by simp
    have hh : X.A.in1.handled = none := I.ok.hd hc
    exact wpAny_pyNext_zipD3_end S (o1.drw _ _ _ hh i1 a n1 s1.toArray) (o2.drw _ _ _ hh i2 b n2 s2.toArray) (o3.drw _ _ _ hh i3 c n3 s3.toArray) hz hTI hTO ⟨h1, p1⟩ ⟨h2, p2⟩ ⟨h3, p3⟩ (by omega) (by omega) (by omega) (by omega) fun h' tk hk => ⟨rfl, I.turnedL (t' := tk) (ch := [z, TI, TO, i1, i2, i3]) (fun m o hb q =>
      hk m o (fun q' => hb (by simp [q'])) (fun q' => hb (by simp [q'])) (fun q' => hb (by simp [q'])) (fun q' => hb (by simp [q'])) (fun q' => hb (by simp [q'])) q) hf⟩
  self := fun A i s Q E st h => wpAny_pyIter_zip st.1 h
theorem turn_en (o1 : SrcOk k1) (n1 : a ≠ it) (n2 : e ≠ it) (n3 : e ≠ a) :
    Turn P w K (.Tuple elts kk tpos) (Jen K k1 a) [e, it] e (fun i h => (∃ old, IsEnum h e it ((i : Nat) : Int) old) ∧ k1.it h it a i) where
  mem := by simp
  obj := fun i h st m hm => by
    obtain ⟨⟨old, he⟩, h1⟩ := st
    have e' : m = e ∨ m = it := by simpa using hm
    rcases e' with q | q <;> subst q
    · exact ⟨_, he, fun v q => nomatch q⟩
    · exact o1.cel h1
  keep := fun i h h' st k => by
    obtain ⟨⟨old, he⟩, h1⟩ := st
    exact ⟨⟨old, k e (by simp) _ he⟩, o1.mov h1 fun o q => k it (by simp) o q⟩
  item := by
    intro X hP hw hK hc i pins s σ H E I hf st hg
    subst hP hw hK
    obtain ⟨⟨old, he⟩, h1⟩ := st
    obtain ⟨xs, x, q1, e1⟩ := hg
    obtain ⟨s1, r1, p1⟩ := o1.get I q1
    obtain ⟨w1, hw1, g1⟩ := r1.get e1
    have l1 : i < s1.toArray.size := by simpa using (List.getElem?_eq_some_iff.mp hw1).1
    have hh : X.A.in1.handled = none := I.ok.hd hc
    have hel : e < s.heap.objs.size := Heap.lt_size he
    refine wpAny_pyNext_enum_itemD (o1.drw _ _ _ hh it a n1 s1.toArray) he ⟨h1, p1⟩ l1 n2 (by simp [n2, n3]) fun x1 h' tk y1 b1 d1 b5 b6 hk => ?_
    have y1' : s1[i]? = some x1 := by simpa using y1
    rw [hw1] at y1'; cases y1'
    refine ⟨_, rfl, wpAny_letOwnedTupleGo_enum (s := { s with heap := h', toks := tk + 1 }) b1 fun h2' z2' sb => ?_⟩
    have t2 : h2'.get? s.heap.objs.size = some { cls := .type "tuple", data := .seq #[.int i tk, w1] } := (sb.2 _ (Nat.ne_of_gt hel)).trans b5
    have nw : ObjOk X.prog X.w (upd H s.heap.objs.size (.tup [.int (i : Nat), x])) h2' s.heap.objs.size (.tup [.int (i : Nat), x]) :=
      ⟨by show 2 ≤ sizeLine; decide, [.int i tk, w1], .cons ⟨_, rfl⟩ (.cons g1 .nil), ⟨_, t2, rfl, _, rfl⟩⟩
    have I1 : Inv X pins σ (upd H s.heap.objs.size (.tup [.int (i : Nat), x])) { s with heap := h2', toks := tk + 1 } :=
      I.turnedNew (t' := tk + 1) (ch := [e, it]) (fun m o hb q => (sb.2 m (fun q' => hb (by simp [q']))).trans (hk m o (fun q' => hb (by simp [q'])) (fun q' => hb (by simp [q'])) q)) hf (Nat.le_refl _) nw
    refine ⟨.ref s.heap.objs.size, _, I1, rfl, ⟨_, x, rfl, I.hok.fresh (Nat.le_refl _), rfl, fun l hl => by rw [o1.inj I hl q1]; exact e1⟩, ⟨⟨w1, ?_⟩, o1.mov d1.1 fun o q => (sb.2 _ (Ne.symm n2)).trans q⟩, fun m hm => ?_⟩
    · rw [show ((i + 1 : Nat) : Int) = (i : Int) + 1 by omega]; exact z2'
    · have hlt : m < s.heap.objs.size := by
        have e' : m = e ∨ m = it := by simpa using hm
        rcases e' with q | q <;> subst q
        · exact hel
        · obtain ⟨_, q, _⟩ := o1.cel h1; exact Heap.lt_size q
      rw [upd_ne (Nat.ne_of_lt hlt)]
      exact (hf m hm).1
  done := by
    intro X hP hw hK hc i pins s σ H E I hf st hg
    subst hP hw hK
    obtain ⟨⟨old, he⟩, h1⟩ := st
    obtain ⟨xs, q1, hend⟩ := hg
    obtain ⟨s1, r1, p1⟩ := o1.get I q1
    have l1 := r1.length
    have hh : X.A.in1.handled = none := I.ok.hd hc
    have hi : i = s1.toArray.size := by simp; omega
    subst hi
    exact wpAny_pyNext_enum_endD (o1.drw _ _ _ hh it a n1 s1.toArray) he ⟨h1, p1⟩ fun h' eb => ⟨rfl, I.turnedL (t' := s.toks) (ch := [e, it]) (fun m o hb q => eb m o (fun q' => hb (by simp [q'])) q) hf⟩
  self := fun A i s Q E st h => let ⟨⟨_, he⟩, _⟩ := st; wpAny_pyIter_enum he h
end
/-- enumerate(v) begins -/
theorem meets_en1 {v : Value} {o : Obj} {H : Heap → Prop} (B : Begins v o H) :
    Meets (Builtin.«enumerate.__new__» ⟨[.type "enumerate", v], []⟩) (fun _ R s => H s.heap ∧
      R (.ok (.ret (.ref (s.heap.push o).objs.size))) { s with heap := (s.heap.push o).push { cls := .type "enumerate", data := .fields #[.none, .bool false, .ref s.heap.objs.size, rawInt 0, .none, .none] } }) :=
  .of_wp fun prog w A R s h => by
    obtain ⟨hp, gn, dr, tk, os⟩ := s; obtain ⟨h1, h⟩ := h
    have hsub := sub_enumerate
    have qq : ∀ {A' : Around} {E : Value → Shared → Prop} {Q : Value → Shared → Prop}, Q (.ref hp.objs.size) ⟨hp.push o, gn, dr, tk, os⟩ → wpAny (model prog w) A' (pyIter v) Q E ⟨hp, gn, dr, tk, os⟩ :=
      fun q => B.iter prog w _ _ ⟨hp, gn, dr, tk, os⟩ _ h1 q
    wp_walk using qq
    refine wpAny_stack_any fun st => wpAny_pure ?_
    split
    · rename_i cc _ _ _ _ _
      cases (cc == Value.type "enumerate") <;> (wp_walk using qq; exact ⟨_, rfl, h⟩)
    · wp_walk using qq
      exact ⟨_, rfl, h⟩
theorem en1_begins {prog : Program} {w : World} {A : Around} {E : Value → Shared → Prop} {s : Shared} {v : Value} {o : Obj} {H : Heap → Prop} {Q : Value → Shared → Prop} (B : Begins v o H) (h1 : H s.heap)
    (h : ∀ h', IsEnum h' (s.heap.objs.size + 1) s.heap.objs.size 0 .none → h'.get? s.heap.objs.size = some o → (∀ m u, s.heap.get? m = some u → h'.get? m = some u) → Q (.ref (s.heap.objs.size + 1)) { s with heap := h' }) :
    wpAny (model prog w) A (call (.type "enumerate") [v]) Q E s := by
  refine callType_new F.called_enumerate (by decide) (F.typeCall_enumerate_1 _) (F.newCall_enumerate_1 _) (fun obj => F.args_object_init_2 obj _) F.entry_enumerate_new (meets_en1 B) ⟨h1, ?_⟩
  have z1 : (s.heap.push o).objs.size = s.heap.objs.size + 1 := Heap.size_push ..
  show _ ∧ _
  rw [z1]
  have g := Heap.get?_push_size (s.heap.push o) (o := { cls := .type "enumerate", data := .fields #[.none, .bool false, .ref s.heap.objs.size, rawInt 0, .none, .none] }) rfl
  rw [z1] at g
  exact ⟨⟨_, g, rfl⟩, h _ g (Heap.get?_push_of_some _ (Heap.get?_push_size _ B.free)) fun m u x => Heap.get?_push_of_some _ (Heap.get?_push_of_some _ x)⟩
theorem neNat {x y : Addr} (h : ¬ @Eq Nat x y) : x ≠ y := h
theorem sep2 (n l1 l2 : Nat) (h1 : l1 < n) (h2 : l2 < n) : ZipSep2 (n + 4) (n + 2) (n + 3) n (n + 1) [n, l1] [n + 1, l2] := by
  constructor <;> simp only [List.mem_cons, List.not_mem_nil, or_false, not_or, ne_eq, true_or] <;> (try trivial) <;> (try constructor) <;> (refine neNat ?_; omega)
theorem sep3 (n l1 l2 l3 : Nat) (h1 : l1 < n) (h2 : l2 < n) (h3 : l3 < n) : ZipSep3 (n + 5) (n + 3) (n + 4) n (n + 1) (n + 2) [n, l1] [n + 1, l2] [n + 2, l3] := by
  constructor <;> simp only [List.mem_cons, List.not_mem_nil, or_false, not_or, ne_eq, true_or] <;> (try trivial) <;> (try constructor) <;> (refine neNat ?_; omega)
theorem ltne (l n k : Nat) (h : l < n) : @Ne Addr l (n + k) := neNat (by omega)
theorem memle2 (n m : Nat) (h : m ∈ ([n + 4, n + 2, n + 3, n, n + 1] : List Nat)) : n ≤ m := by
  simp only [List.mem_cons, List.not_mem_nil, or_false] at h; omega
theorem memle3 (n m : Nat) (h : m ∈ ([n + 5, n + 3, n + 4, n, n + 1, n + 2] : List Nat)) : n ≤ m := by
  simp only [List.mem_cons, List.not_mem_nil, or_false] at h; omega
theorem memle1 (n m : Nat) (h : m ∈ ([n + 1, n] : List Nat)) : n ≤ m := by
  simp only [List.mem_cons, List.not_mem_nil, or_false] at h; omega
def iZ2 (K : PySem.W.Frag) (ta : TA) : TI := fun σ H R => ta σ H fun vs H1 => ∃ k1 k2 a b xs ys, SrcOk k1 ∧ SrcOk k2 ∧ vs = [.ref a, .ref b] ∧ k1.sq K H1 a xs ∧ k2.sq K H1 b ys ∧ R (Jz2 K k1 k2 a b) H1
def iZ3 (K : PySem.W.Frag) (ta : TA) : TI := fun σ H R => ta σ H fun vs H1 => ∃ k1 k2 k3 a b c xs ys us, SrcOk k1 ∧ SrcOk k2 ∧ SrcOk k3 ∧ vs = [.ref a, .ref b, .ref c] ∧ k1.sq K H1 a xs ∧ k2.sq K H1 b ys ∧ k3.sq K H1 c us ∧ R (Jz3 K k1 k2 k3 a b c) H1
def iEn (K : PySem.W.Frag) (ta : TA) : TI := fun σ H R => ta σ H fun vs H1 => ∃ k1 a xs, SrcOk k1 ∧ vs = [.ref a] ∧ k1.sq K H1 a xs ∧ R (Jen K k1 a) H1
section
variable {X : Cx} {e e2 e3 : Expr} {ta : TA} {p pos tpos : Pos} {elts : List Expr} {kk : Nat}
theorem pi_z2 (hg : Gl X "zip") (hm : X.mg "zip" = none) (ha : PA X [e, e2] ta)
    (hs : starEach [e, e2] X.env = (false, eval e X.env) :: starEach [e2] X.env := by rfl) (hpl : (backTo pos (starEach [e2] X.env)).any (·.1) = false := by rfl) :
    PI X (.Tuple elts kk tpos) (.Call (.Name "zip" p) [e, e2] [] pos) (iZ2 X.K ta) := by
  refine ⟨fun pins s σ H R I h => ?_⟩
  refine Call_ (ld_blt I hg hm PyProof.Rows.boot_zip (PyProof.Rows.callWith_type1 (thn (ha.run pos pins s σ H _ I h) fun us s1 ⟨vs, H1, I1, r1, q1⟩ => ?_) hs hpl))
  obtain ⟨k1, k2, a, b, xs, ys, o1, o2, rfl, hq1, hq2, q⟩ := q1
  obtain ⟨u1, u2, rfl, r, r'⟩ : ∃ u1 u2, us = [u1, u2] ∧ RelV (.ref a) u1 ∧ RelV (.ref b) u2 := by
    cases r1 with
    | cons r rr => cases rr with
      | cons r' rr => cases rr; exact ⟨_, _, rfl, r, r'⟩
  cases r
  cases r'
  obtain ⟨s1', _, p1⟩ := o1.get I1 hq1
  obtain ⟨s2', _, p2⟩ := o2.get I1 hq2
  have a1 := o1.lts p1
  have a2 := o2.lts p2
  refine zip_begins2 (o1.beg a s1'.toArray) (o2.beg b s2'.toArray) p1 p2 fun h' hz hTI hTO h1 h2 hsz hk => wpAny_pyIter_zip hz ?_
  have I2 : Inv X pins σ H1 { s1 with heap := h' } := I1.kept (t' := s1.toks) hk
  refine ⟨_, _, _, _, H1, rfl, I2, turn_z2 o1 o2 (sep2 s1.heap.objs.size a b a1 a2) (Nat.ne_of_lt a1) (ltne _ _ 1 a2), ⟨hz, hTI, ⟨_, _, hTO⟩, o1.ini h1, o2.ini h2⟩, fun m hm => ?_, q⟩
  have hle : s1.heap.objs.size ≤ m := memle2 _ _ hm
  exact I1.fpOk hle (I1.hok.fresh hle)
theorem pi_z3 (hg : Gl X "zip") (hm : X.mg "zip" = none) (ha : PA X [e, e2, e3] ta)
    (hs : starEach [e, e2, e3] X.env = (false, eval e X.env) :: starEach [e2, e3] X.env := by rfl) (hpl : (backTo pos (starEach [e2, e3] X.env)).any (·.1) = false := by rfl) :
    PI X (.Tuple elts kk tpos) (.Call (.Name "zip" p) [e, e2, e3] [] pos) (iZ3 X.K ta) := by
  refine ⟨fun pins s σ H R I h => ?_⟩
  refine Call_ (ld_blt I hg hm PyProof.Rows.boot_zip (PyProof.Rows.callWith_type1 (thn (ha.run pos pins s σ H _ I h) fun us s1 ⟨vs, H1, I1, r1, q1⟩ => ?_) hs hpl))
  obtain ⟨k1, k2, k3, a, b, c, xs, ys, ts, o1, o2, o3, rfl, hq1, hq2, hq3, q⟩ := q1
  obtain ⟨u1, u2, u3, rfl, r, r', r''⟩ : ∃ u1 u2 u3, us = [u1, u2, u3] ∧ RelV (.ref a) u1 ∧ RelV (.ref b) u2 ∧ RelV (.ref c) u3 := by
    cases r1 with
    | cons r rr => cases rr with
      | cons r' rr => cases rr with
        | cons r'' rr => cases rr; exact ⟨_, _, _, rfl, r, r', r''⟩
  cases r
  cases r'
  cases r''
  obtain ⟨s1', _, p1⟩ := o1.get I1 hq1
  obtain ⟨s2', _, p2⟩ := o2.get I1 hq2
  obtain ⟨s3', _, p3⟩ := o3.get I1 hq3
  have a1 := o1.lts p1
  have a2 := o2.lts p2
  have a3 := o3.lts p3
  refine zip_begins3 (o1.beg a s1'.toArray) (o2.beg b s2'.toArray) (o3.beg c s3'.toArray) p1 p2 p3 fun h' hz hTI hTO h1 h2 h3 hsz hk => wpAny_pyIter_zip hz ?_
  have I2 : Inv X pins σ H1 { s1 with heap := h' } := I1.kept (t' := s1.toks) hk
  refine ⟨_, _, _, _, H1, rfl, I2, turn_z3 o1 o2 o3 (sep3 s1.heap.objs.size a b c a1 a2 a3) (Nat.ne_of_lt a1) (ltne _ _ 1 a2) (ltne _ _ 2 a3), ⟨hz, hTI, ⟨_, _, _, hTO⟩, o1.ini h1, o2.ini h2, o3.ini h3⟩, fun m hm => ?_, q⟩
  have hle : s1.heap.objs.size ≤ m := memle3 _ _ hm
  exact I1.fpOk hle (I1.hok.fresh hle)
theorem pi_en (hg : Gl X "enumerate") (hm : X.mg "enumerate" = none) (ha : PA X [e] ta) (hs : starEach [e] X.env = [(false, eval e X.env)] := by rfl) :
    PI X (.Tuple elts kk tpos) (.Call (.Name "enumerate" p) [e] [] pos) (iEn X.K ta) := by
  refine ⟨fun pins s σ H R I h => ?_⟩
  refine Call_ (ld_blt I hg hm boot_enumerate (PyProof.Rows.callWith_type1 (thn (ha.run pos pins s σ H _ I h) fun us s1 ⟨vs, H1, I1, r1, q1⟩ => ?_) hs rfl))
  obtain ⟨k1, a, xs, o1, rfl, hq1, q⟩ := q1
  obtain ⟨u1, rfl, r⟩ : ∃ u1, us = [u1] ∧ RelV (.ref a) u1 := by
    cases r1 with
    | cons r rr => cases rr; exact ⟨_, rfl, r⟩
  cases r
  obtain ⟨s1', _, p1⟩ := o1.get I1 hq1
  have a1 := o1.lts p1
  refine en1_begins (o1.beg a s1'.toArray) p1 fun h' he h1 hk => wpAny_pyIter_enum he ?_
  have I2 : Inv X pins σ H1 { s1 with heap := h' } := I1.kept (t' := s1.toks) hk
  refine ⟨_, _, _, _, H1, rfl, I2, turn_en (e := s1.heap.objs.size + 1) (it := s1.heap.objs.size) o1 (Nat.ne_of_lt a1) (Nat.succ_ne_self _) (Ne.symm (ltne _ _ 1 a1)), ⟨⟨.none, he⟩, o1.ini h1⟩, fun m hm => ?_, q⟩
  have hle : s1.heap.objs.size ≤ m := memle1 _ _ hm
  exact I1.fpOk hle (I1.hok.fresh hle)
end
end DL
set_option autoImplicit false
set_option maxRecDepth 100000
set_option maxHeartbeats 4000000
namespace DL
open PySem PySem.Spec PySem.SeqAt PyProof.Rows L2

section
variable {G : GX} {L : LX} {ρ : List Sl} {e a b c tg iter elt : Expr} {es : List Expr} {m ma mb mc mr : Option D} {ms : Option (List D)} {pos p p2 : Pos}

/-! ### what is walked -/
/-- J walks the data ds, as long as F stands -/
def On (F H H2 : Hp) : Prop := ∀ a o, F a = some o → H2 a = H a
theorem On.refl {F H : Hp} : On F H H := fun _ _ _ => rfl
theorem On.ext {F H H2 : Hp} (s : Sub F H) (h : Same H H2) : On F H H2 := fun a o e => by
  rcases s a o e with e1 | ⟨_, ob, e1⟩ <;> rw [h _ _ e1, e1]
structure WalkD (K : PySem.W.Frag) (J : It) (F H0 : Hp) (ds : List D) : Prop where
  goes : ∀ i F2 H, i < ds.length → Same F F2 → Sub F2 H → On F H0 H → J.go i H
  stops : ∀ F2 H, Same F F2 → Sub F2 H → On F H0 H → J.stop ds.length H
  yields : ∀ i F2 H x H' d, Same F F2 → Sub F2 H → On F H0 H → ds[i]? = some d → J.yld i H x H' → ∃ F3, Ext F2 H F3 H' ∧ Rep K F3 d x
variable {H0 : Hp}
def tI (K : PySem.W.Frag) (ρ : List Sl) (m : Option (List D)) : TI := fun σ H R => ∃ F ds, m = some ds ∧ VR K ρ σ F H ∧ ∀ J F' H', Ext F H F' H' → WalkD K J F' H' ds → R J H'
def IOk (G : GX) (L : LX) (ρ : List Sl) (tg iter : Expr) (m : Option (List D)) : Prop := ∀ X, XOk G L X → PI X tg iter (tI G.K ρ m)
theorem wkI {X : Cx} {t t' : TI} (h : PI X tg iter t) (w : ∀ σ H R, t' σ H R → t σ H R) : PI X tg iter t' := ⟨fun pins s σ H R I q => h.run pins s σ H R I (w σ H R q)⟩
theorem PI.or {X : Cx} {t t' : TI} (h : PI X tg iter t) (h' : PI X tg iter t') : PI X tg iter (fun σ H R => t σ H R ∨ t' σ H R) := ⟨fun pins s σ H R I q => q.elim (h.run pins s σ H R I) (h'.run pins s σ H R I)⟩

theorem walkD_ofO {K : PySem.W.Frag} {J : It} {F : Hp} {ds : List D} {n : Nat} {Gd : Hp → Prop} {Y : Nat → Hp → V → Hp → Prop} (w : L2.Walk J n Gd Y) (hn : n = ds.length) (hg : ∀ F2 H, Same F F2 → Sub F2 H → On F H0 H → Gd H)
    (hy : ∀ i F2 H x H' d, Same F F2 → Sub F2 H → ds[i]? = some d → Y i H x H' → ∃ F3, Ext F2 H F3 H' ∧ Rep K F3 d x) : WalkD K J F H0 ds := by
  subst hn
  refine ⟨fun i F2 H hi hs s o => w.goes i H hi (hg F2 H hs s o), fun F2 H hs s o => w.stops H (hg F2 H hs s o), fun i F2 H x H' d hs s o hd y => ?_⟩
  have hi : i < ds.length := (List.getElem?_eq_some_iff.mp hd).1
  exact hy i F2 H x H' d hs s hd (w.yields i H x H' hi (hg F2 H hs s o) y)
theorem walkD_of {K : PySem.W.Frag} {J : It} {F : Hp} {ds : List D} {n : Nat} {Gd : Hp → Prop} {Y : Nat → Hp → V → Hp → Prop} (w : L2.Walk J n Gd Y) (hn : n = ds.length) (hg : ∀ F2 H, Same F F2 → Sub F2 H → Gd H)
    (hy : ∀ i F2 H x H' d, Same F F2 → Sub F2 H → ds[i]? = some d → Y i H x H' → ∃ F3, Ext F2 H F3 H' ∧ Rep K F3 d x) : WalkD K J F H0 ds := walkD_ofO w hn (fun F2 H hs s _ => hg F2 H hs s) hy
theorem yat {K : PySem.W.Frag} {F : Hp} {ds : List D} {vs : List V} (r : Reps K F ds vs) : ∀ i F2 H x H' d, Same F F2 → Sub F2 H → ds[i]? = some d → YAt vs i H x H' → ∃ F3, Ext F2 H F3 H' ∧ Rep K F3 d x := fun i F2 H x H' d hs s hd ⟨e, y⟩ => by
  subst e
  obtain ⟨v, h1, h2⟩ := r.get hd
  rw [h1] at y; cases y
  exact ⟨F2, .refl s, Rep.mono hs _ _ h2⟩
theorem walkD_list {K : PySem.W.Frag} {F : Hp} {ds : List D} {vs : List V} {a : Addr} (h : F a = some (.lst vs)) (r : Reps K F ds vs) : WalkD K (Itl K a) F H0 ds :=
  walkD_of walk_list r.len.symm (fun F2 H hs s => lst_sq (hs _ _ h) s) (yat r)
theorem walkD_tup {K : PySem.W.Frag} {F : Hp} {ds : List D} {vs : List V} {a : Addr} (h : F a = some (.tup vs)) (r : Reps K F ds vs) : WalkD K (Itt K a) F H0 ds :=
  walkD_of walk_tup r.len.symm (fun F2 H hs s => tup_sq (hs _ _ h) s) (yat r)
/-- over a list or a tuple -/
def seqD : D → Option (List D)
  | .lst xs => some xs
  | .tup xs => some xs
  | _ => none
theorem i_seq (h : EOk G L ρ e m) : IOk G L ρ tg e (m.bind seqD) := fun X hX => wkI (PI.or (pi_list (h X hX)) (pi_tup (h X hX))) fun σ H R ⟨F, ds, em, vr, q⟩ => by
  obtain ⟨d, ed, es⟩ := Option.bind_eq_some_iff.mp em
  unfold seqD at es
  split at es
  · cases es
    refine .inl ⟨F, _, ed, vr, fun v F' H' x r => ?_⟩
    unfold Rep at r
    obtain ⟨p, vs, rfl, h1, q1⟩ := r
    rw [hX.hK]
    exact ⟨p, rfl, ⟨vs, lst_sq h1 x.sub⟩, q _ F' H' x (walkD_list h1 q1)⟩
  · cases es
    refine .inr ⟨F, _, ed, vr, fun v F' H' x r => ?_⟩
    unfold Rep at r
    obtain ⟨p, vs, rfl, h1, q1⟩ := r
    rw [hX.hK]
    exact ⟨p, rfl, ⟨vs, tup_sq h1 x.sub⟩, q _ F' H' x (walkD_tup h1 q1)⟩
  · cases es
/-- range(..) -/
def rangeI (lo hi : Int) : List Int := (List.range (hi - lo).toNat).map fun (i : Nat) => lo + (i : Int)
theorem walkD_range {K : PySem.W.Frag} {F : Hp} {lo hi : Int} : WalkD K (Itr lo (hi - lo).toNat) F H0 ((rangeI lo hi).map .int) :=
  walkD_of walk_range (by simp [rangeI]) (fun _ _ _ _ => True.intro) fun i F2 H x H' d hs s hd ⟨e, y⟩ => by
    subst e y
    refine ⟨F2, .refl s, ?_⟩
    unfold rangeI at hd
    rw [List.map_map, List.getElem?_map] at hd
    obtain ⟨j, hj, hd2⟩ := Option.map_eq_some_iff.mp hd
    have : j = i := by
      obtain ⟨h1, h2⟩ := List.getElem?_eq_some_iff.mp hj
      simpa using h2.symm
    rw [← hd2, this]
    exact rep_i
def okI (i : Int) : Bool := decide (-(2 ^ 62) ≤ i) && decide (i < 2 ^ 62)
theorem okI_iff {i : Int} (h : okI i = true) : -(2 ^ 62) ≤ i ∧ i < 2 ^ 62 := by
  unfold okI at h
  rw [Bool.and_eq_true] at h
  exact ⟨of_decide_eq_true h.1, of_decide_eq_true h.2⟩
def rg1D : List D → Option (List D)
  | [.int j] => if okI j then some ((rangeI 0 j).map .int) else none
  | _ => none
def rg2D : List D → Option (List D)
  | [.int i, .int j] => if okI i && okI j then some ((rangeI i j).map .int) else none
  | _ => none
theorem i_range1 (hm : G.mg "range" = none) (ha : AOk G L ρ [a] ms) (hg : GlS L "range" := by rfl) (hs : ∀ env, starEach [a] env = [(false, eval a env)] := by intro _; rfl) : IOk G L ρ tg (.Call (.Name "range" p) [a] [] pos) (ms.bind rg1D) := fun X hX =>
  wkI (pi_range1 (gl_of hX hg) (by rw [hX.hm]; exact hm) (ha X hX) (hs _)) fun σ H R ⟨F, ds, em, vr, q⟩ => by
    obtain ⟨xs, exs, es⟩ := Option.bind_eq_some_iff.mp em
    unfold rg1D at es
    split at es
    · split at es
      · rename_i j h
        cases es
        refine ⟨F, _, exs, vr, fun vs F' H' x r => ?_⟩
        obtain ⟨v, rfl, hv⟩ := r.one
        unfold Rep at hv; subst hv
        obtain ⟨h1, h2⟩ := okI_iff h
        refine ⟨j, rfl, h1, h2, ?_⟩
        have := q (Itr 0 (j - 0).toNat) F' H' x walkD_range
        simpa using this
      · cases es
    · cases es
theorem i_range2 (hm : G.mg "range" = none) (ha : AOk G L ρ [a, b] ms) (hg : GlS L "range" := by rfl) (hs : ∀ env, starEach [a, b] env = [(false, eval a env), (false, eval b env)] := by intro _; rfl) (hs2 : ∀ env, starEach [b] env = [(false, eval b env)] := by intro _; rfl) :
    IOk G L ρ tg (.Call (.Name "range" p) [a, b] [] pos) (ms.bind rg2D) := fun X hX =>
  wkI (pi_range2 (gl_of hX hg) (by rw [hX.hm]; exact hm) (ha X hX) (hs _) (hs2 _)) fun σ H R ⟨F, ds, em, vr, q⟩ => by
    obtain ⟨xs, exs, es⟩ := Option.bind_eq_some_iff.mp em
    unfold rg2D at es
    split at es
    · split at es
      · rename_i i j h
        cases es
        rw [Bool.and_eq_true] at h
        refine ⟨F, _, exs, vr, fun vs F' H' x r => ?_⟩
        obtain ⟨v, v', rfl, hv, hv'⟩ := r.two
        unfold Rep at hv hv'; subst hv hv'
        obtain ⟨h1, h2⟩ := okI_iff h.1
        obtain ⟨h3, h4⟩ := okI_iff h.2
        exact ⟨i, j, rfl, ⟨h1, h2, h3, h4⟩, q _ F' H' x walkD_range⟩
      · cases es
    · cases es
/-- range(a, b, c) -/
def stepI (i c : Int) (n : Nat) : List Int := (List.range n).map fun (k : Nat) => i + (k : Int) * c
def rg3N (i j c : Int) : Nat := (Builtin.Range.rangeSize i j c).toNat
def rg3D : List D → Option (List D)
  | [.int i, .int j, .int c] => if c ≠ 0 ∧ c.natAbs < 1073741824 ∧ Builtin.Range.small i j c = true ∧ Builtin.Range.rangeSize i j c = rg3N i j c then some ((stepI i c (rg3N i j c)).map .int) else none
  | _ => none
theorem walkD_step {K : PySem.W.Frag} {F : Hp} {i c : Int} {n : Nat} : WalkD K (Itc i c n) F H0 ((stepI i c n).map .int) :=
  walkD_of walk_rangeC (by simp [stepI]) (fun _ _ _ _ => True.intro) fun k F2 H x H' d hs s hd ⟨e, y⟩ => by
    subst e y
    refine ⟨F2, .refl s, ?_⟩
    unfold stepI at hd
    rw [List.map_map, List.getElem?_map] at hd
    obtain ⟨j, hj, hd2⟩ := Option.map_eq_some_iff.mp hd
    have : j = k := by
      obtain ⟨h1, h2⟩ := List.getElem?_eq_some_iff.mp hj
      simpa using h2.symm
    rw [← hd2, this]
    exact rep_i
theorem i_range3 (hm : G.mg "range" = none) (ha : AOk G L ρ [a, b, c] ms) (hg : GlS L "range" := by rfl) (hs : ∀ env, starEach [a, b, c] env = (false, eval a env) :: starEach [b, c] env := by intro _; rfl) (hpl : ∀ env, (backTo pos (starEach [b, c] env)).any (·.1) = false := by intro _; rfl) :
    IOk G L ρ tg (.Call (.Name "range" p) [a, b, c] [] pos) (ms.bind rg3D) := fun X hX =>
  wkI (pi_range3 (gl_of hX hg) (by rw [hX.hm]; exact hm) (ha X hX) (hs _) (hpl _)) fun σ H R ⟨F, ds, em, vr, q⟩ => by
    obtain ⟨xs, exs, es⟩ := Option.bind_eq_some_iff.mp em
    unfold rg3D at es
    split at es
    · split at es
      · rename_i i j c h
        cases es
        refine ⟨F, _, exs, vr, fun vs F' H' x r => ?_⟩
        obtain ⟨v, rest, rfl, hv, r⟩ := r.inv
        obtain ⟨v', v'', rfl, hv', hv''⟩ := r.two
        unfold Rep at hv hv' hv''; subst hv hv' hv''
        exact ⟨i, j, c, _, rfl, h, q _ F' H' x walkD_step⟩
      · cases es
    · cases es
/-- reversed(list or tuple) -/
theorem rev_get {α : Type} {xs : List α} {i : Nat} {d : α} (h : xs.reverse[i]? = some d) : i < xs.length ∧ xs[xs.length - 1 - i]? = some d := by
  obtain ⟨h1, h2⟩ := List.getElem?_eq_some_iff.mp h
  rw [List.length_reverse] at h1
  refine ⟨h1, ?_⟩
  rw [List.getElem?_reverse h1] at h
  exact h
theorem walkD_rev {K : PySem.W.Frag} {F : Hp} {ds : List D} {vs : List V} {a : Addr} (h : F a = some (.lst vs)) (r : Reps K F ds vs) : WalkD K (Itv K a vs.length) F H0 ds.reverse := by
  refine ⟨fun i F2 H hi hs s _ => ?_, fun F2 H hs s _ => ?_, fun i F2 H x H' d hs s _ hd y => ?_⟩
  · rw [List.length_reverse, r.len] at hi
    exact ⟨hi, vs, vs[vs.length - 1 - i]'(by omega), lst_sq (hs _ _ h) s, by simp [show vs.length - 1 - i < vs.length by omega]⟩
  · show vs.length ≤ _
    rw [List.length_reverse, r.len]; exact Nat.le_refl _
  · obtain ⟨e, y⟩ := y
    subst e
    obtain ⟨h1, h2⟩ := rev_get hd
    obtain ⟨v, h3, h4⟩ := r.get h2
    have := y vs (lst_sq (hs _ _ h) s)
    rw [r.len] at h3
    rw [h3] at this; cases this
    exact ⟨F2, .refl s, Rep.mono hs _ _ h4⟩
theorem walkD_revT {K : PySem.W.Frag} {F : Hp} {ds : List D} {vs : List V} {a : Addr} (h : F a = some (.tup vs)) (r : Reps K F ds vs) : WalkD K (RT.ItvT K a vs.length) F H0 ds.reverse := by
  refine ⟨fun i F2 H hi hs s _ => ?_, fun F2 H hs s _ => ?_, fun i F2 H x H' d hs s _ hd y => ?_⟩
  · rw [List.length_reverse, r.len] at hi
    exact ⟨hi, vs, vs[vs.length - 1 - i]'(by omega), tup_sq (hs _ _ h) s, by simp [show vs.length - 1 - i < vs.length by omega]⟩
  · show vs.length ≤ _
    rw [List.length_reverse, r.len]; exact Nat.le_refl _
  · obtain ⟨e, y⟩ := y
    subst e
    obtain ⟨h1, h2⟩ := rev_get hd
    obtain ⟨v, h3, h4⟩ := r.get h2
    have := y vs (tup_sq (hs _ _ h) s)
    rw [r.len] at h3
    rw [h3] at this; cases this
    exact ⟨F2, .refl s, Rep.mono hs _ _ h4⟩
theorem i_rev (hm : G.mg "reversed" = none) (h : EOk G L ρ e m) (hg : GlS L "reversed" := by rfl) (hs : ∀ env, starEach [e] env = (false, eval e env) :: starEach [] env := by intro _; rfl) : IOk G L ρ tg (.Call (.Name "reversed" p) [e] [] pos) ((m.bind seqD).map List.reverse) := fun X hX =>
  wkI (RT.pi_revA (gl_of hX hg) (by rw [hX.hm]; exact hm) (h X hX) (hs _)) fun σ H R ⟨F, ds, em, vr, q⟩ => by
    obtain ⟨ds', em2, rfl⟩ := Option.map_eq_some_iff.mp em
    obtain ⟨d, ed, es⟩ := Option.bind_eq_some_iff.mp em2
    rw [hX.hK]
    unfold seqD at es
    split at es
    · cases es
      refine ⟨F, _, ed, vr, fun v F' H' x r => ?_⟩
      unfold Rep at r
      obtain ⟨p, vs, rfl, h1, q1⟩ := r
      exact ⟨p, vs, rfl, .inl ⟨lst_sq h1 x.sub, q _ F' H' x (walkD_rev h1 q1)⟩⟩
    · cases es
      refine ⟨F, _, ed, vr, fun v F' H' x r => ?_⟩
      unfold Rep at r
      obtain ⟨p, vs, rfl, h1, q1⟩ := r
      exact ⟨p, vs, rfl, .inr ⟨tup_sq h1 x.sub, q _ F' H' x (walkD_revT h1 q1)⟩⟩
    · cases es
/-- zip of two lists, of two tuples -/
def zip2 : List D → List D → List D
  | x :: xs, y :: ys => .tup [x, y] :: zip2 xs ys
  | _, _ => []
theorem zip2_len : ∀ xs ys : List D, (zip2 xs ys).length = min xs.length ys.length
  | [], _ => by simp [zip2]
  | _ :: _, [] => by simp [zip2]
  | _ :: xs, _ :: ys => by simp [zip2, zip2_len xs ys]
theorem zip2_get : ∀ {xs ys : List D} {i : Nat} {d : D}, (zip2 xs ys)[i]? = some d → ∃ x y, xs[i]? = some x ∧ ys[i]? = some y ∧ d = .tup [x, y]
  | [], _, _, _, h => by simp [zip2] at h
  | _ :: _, [], _, _, h => by simp [zip2] at h
  | x :: xs, y :: ys, 0, d, h => by simp [zip2] at h; exact ⟨x, y, rfl, rfl, h.symm⟩
  | x :: xs, y :: ys, i + 1, d, h => by
    simp [zip2] at h
    obtain ⟨u, v, h1, h2, h3⟩ := zip2_get h
    exact ⟨u, v, by simpa using h1, by simpa using h2, h3⟩
def zipD : List D → Option (List D)
  | [.lst xs, .lst ys] => some (zip2 xs ys)
  | [.tup xs, .tup ys] => some (zip2 xs ys)
  | [.lst xs, .tup ys] => some (zip2 xs ys)
  | [.tup xs, .lst ys] => some (zip2 xs ys)
  | _ => none
theorem zipD_seq {d e : D} {zs : List D} (h : zipD [d, e] = some zs) : ∃ xs ys, seqD d = some xs ∧ seqD e = some ys ∧ zs = zip2 xs ys := by
  unfold zipD at h
  split at h
  · rename_i q; cases q; cases h; exact ⟨_, _, rfl, rfl, rfl⟩
  · rename_i q; cases q; cases h; exact ⟨_, _, rfl, rfl, rfl⟩
  · rename_i q; cases q; cases h; exact ⟨_, _, rfl, rfl, rfl⟩
  · rename_i q; cases q; cases h; exact ⟨_, _, rfl, rfl, rfl⟩
  · cases h
/-- a list's or a tuple's kind -/
theorem seq_src {K : PySem.W.Frag} {F : Hp} {d : D} {xs : List D} {v : V} (h : seqD d = some xs) (r : Rep K F d v) : ∃ k a vs, SrcOk k ∧ v = .ref a ∧ Reps K F xs vs ∧ ∀ F2 H, Same F F2 → Sub F2 H → k.sq K H a vs := by
  unfold seqD at h
  split at h
  · cases h
    unfold Rep at r
    obtain ⟨p, vs, rfl, h1, q1⟩ := r
    exact ⟨srcL, p, vs, srcL_ok, rfl, q1, fun F2 H hs s => lst_sq (hs _ _ h1) s⟩
  · cases h
    unfold Rep at r
    obtain ⟨p, vs, rfl, h1, q1⟩ := r
    exact ⟨srcT, p, vs, srcT_ok, rfl, q1, fun F2 H hs s => tup_sq (hs _ _ h1) s⟩
  · cases h
theorem pair_new {K : PySem.W.Frag} {F H : Hp} {T : Addr} {x y : V} {d e : D} (s : Sub F H) (n : H T = none) (r1 : Rep K F d x) (r2 : Rep K F e y) : ∃ F3, Ext F H F3 (upd H T (.tup [x, y])) ∧ Rep K F3 (.tup [d, e]) (.ref T) :=
  ⟨_, .frz s n, by unfold Rep; exact ⟨T, [x, y], rfl, upd_same, .cons (Rep.mono (same_new (s.none n)) _ _ r1) (.cons (Rep.mono (same_new (s.none n)) _ _ r2) .nil)⟩⟩
theorem tri_new {K : PySem.W.Frag} {F H : Hp} {T : Addr} {x y z : V} {d e f : D} (s : Sub F H) (n : H T = none) (r1 : Rep K F d x) (r2 : Rep K F e y) (r3 : Rep K F f z) : ∃ F3, Ext F H F3 (upd H T (.tup [x, y, z])) ∧ Rep K F3 (.tup [d, e, f]) (.ref T) :=
  ⟨_, .frz s n, by unfold Rep; exact ⟨T, [x, y, z], rfl, upd_same, .cons (Rep.mono (same_new (s.none n)) _ _ r1) (.cons (Rep.mono (same_new (s.none n)) _ _ r2) (.cons (Rep.mono (same_new (s.none n)) _ _ r3) .nil))⟩⟩
theorem walkD_z2 {K : PySem.W.Frag} {F : Hp} {k1 k2 : SrcK} {ds es : List D} {vs ws : List V} {a b : Addr} (h : ∀ F2 H, Same F F2 → Sub F2 H → k1.sq K H a vs) (r : Reps K F ds vs) (h' : ∀ F2 H, Same F F2 → Sub F2 H → k2.sq K H b ws) (r' : Reps K F es ws) : WalkD K (Jz2 K k1 k2 a b) F H0 (zip2 ds es) := by
  refine ⟨fun i F2 H hi hs s _ => ?_, fun F2 H hs s _ => ?_, fun i F2 H x H' d hs s _ hd y => ?_⟩
  · rw [zip2_len, r.len, r'.len] at hi
    exact ⟨vs, ws, vs[i]'(by omega), ws[i]'(by omega), h _ _ hs s, h' _ _ hs s, by simp, by simp⟩
  · exact ⟨vs, ws, h _ _ hs s, h' _ _ hs s, by rw [zip2_len, r.len, r'.len]⟩
  · obtain ⟨T, u, v, rfl, nT, rfl, e1, e2⟩ := y
    obtain ⟨d1, d2, h1, h2, rfl⟩ := zip2_get hd
    obtain ⟨v1, k1, k2⟩ := r.get h1
    obtain ⟨v2, k3, k4⟩ := r'.get h2
    have e1' := e1 vs (h _ _ hs s)
    have e2' := e2 ws (h' _ _ hs s)
    rw [k1] at e1'; cases e1'
    rw [k3] at e2'; cases e2'
    exact pair_new s nT (Rep.mono hs _ _ k2) (Rep.mono hs _ _ k4)
/-- zip of three -/
def zip3 : List D → List D → List D → List D
  | x :: xs, y :: ys, z :: zs => .tup [x, y, z] :: zip3 xs ys zs
  | _, _, _ => []
theorem zip3_len : ∀ xs ys zs : List D, (zip3 xs ys zs).length = min (min xs.length ys.length) zs.length
  | [], _, _ => by simp [zip3]
  | _ :: _, [], _ => by simp [zip3]
  | _ :: _, _ :: _, [] => by simp [zip3]
  | _ :: xs, _ :: ys, _ :: zs => by simp [zip3, zip3_len xs ys zs]
theorem zip3_get : ∀ {xs ys zs : List D} {i : Nat} {d : D}, (zip3 xs ys zs)[i]? = some d → ∃ x y z, xs[i]? = some x ∧ ys[i]? = some y ∧ zs[i]? = some z ∧ d = .tup [x, y, z]
  | [], _, _, _, _, h => by simp [zip3] at h
  | _ :: _, [], _, _, _, h => by simp [zip3] at h
  | _ :: _, _ :: _, [], _, _, h => by simp [zip3] at h
  | x :: xs, y :: ys, z :: zs, 0, d, h => by simp [zip3] at h; exact ⟨x, y, z, rfl, rfl, rfl, h.symm⟩
  | x :: xs, y :: ys, z :: zs, i + 1, d, h => by
    simp [zip3] at h
    obtain ⟨u, v, w, h1, h2, h3, h4⟩ := zip3_get h
    exact ⟨u, v, w, by simpa using h1, by simpa using h2, by simpa using h3, h4⟩
def zip3D : List D → Option (List D)
  | [d, e, f] => (seqD d).bind fun xs => (seqD e).bind fun ys => (seqD f).map fun zs => zip3 xs ys zs
  | _ => none
theorem walkD_z3 {K : PySem.W.Frag} {F : Hp} {k1 k2 k3 : SrcK} {ds es fs : List D} {vs ws us : List V} {a b c : Addr} (h : ∀ F2 H, Same F F2 → Sub F2 H → k1.sq K H a vs) (r : Reps K F ds vs) (h' : ∀ F2 H, Same F F2 → Sub F2 H → k2.sq K H b ws) (r' : Reps K F es ws)
    (h'' : ∀ F2 H, Same F F2 → Sub F2 H → k3.sq K H c us) (r'' : Reps K F fs us) : WalkD K (Jz3 K k1 k2 k3 a b c) F H0 (zip3 ds es fs) := by
  refine ⟨fun i F2 H hi hs s _ => ?_, fun F2 H hs s _ => ?_, fun i F2 H x H' d hs s _ hd y => ?_⟩
  · rw [zip3_len, r.len, r'.len, r''.len] at hi
    exact ⟨vs, ws, us, vs[i]'(by omega), ws[i]'(by omega), us[i]'(by omega), h _ _ hs s, h' _ _ hs s, h'' _ _ hs s, by simp, by simp, by simp⟩
  · exact ⟨vs, ws, us, h _ _ hs s, h' _ _ hs s, h'' _ _ hs s, by rw [zip3_len, r.len, r'.len, r''.len]⟩
  · obtain ⟨T, u, v, w, rfl, nT, rfl, e1, e2, e3⟩ := y
    obtain ⟨d1, d2, d3, h1, h2, h3, rfl⟩ := zip3_get hd
    obtain ⟨v1, k1, k2⟩ := r.get h1
    obtain ⟨v2, k3, k4⟩ := r'.get h2
    obtain ⟨v3, k5, k6⟩ := r''.get h3
    have e1' := e1 vs (h _ _ hs s)
    have e2' := e2 ws (h' _ _ hs s)
    have e3' := e3 us (h'' _ _ hs s)
    rw [k1] at e1'; cases e1'
    rw [k3] at e2'; cases e2'
    rw [k5] at e3'; cases e3'
    exact tri_new s nT (Rep.mono hs _ _ k2) (Rep.mono hs _ _ k4) (Rep.mono hs _ _ k6)
/-- each with its place, from i on -/
def enumL : Nat → List D → List D
  | _, [] => []
  | i, d :: ds => .tup [.int (i : Int), d] :: enumL (i + 1) ds
theorem enumL_len : ∀ (ds : List D) (i : Nat), (enumL i ds).length = ds.length
  | [], _ => rfl
  | _ :: ds, i => by simp [enumL, enumL_len ds]
theorem enumL_get : ∀ {ds : List D} {k i : Nat} {d : D}, (enumL k ds)[i]? = some d → ∃ x, ds[i]? = some x ∧ d = .tup [.int ((k + i : Nat) : Int), x]
  | [], _, _, _, h => by simp [enumL] at h
  | x :: xs, k, 0, d, h => by simp [enumL] at h; exact ⟨x, rfl, h.symm⟩
  | x :: xs, k, i + 1, d, h => by
    simp [enumL] at h
    obtain ⟨u, h1, h2⟩ := enumL_get h
    exact ⟨u, by simpa using h1, by rw [h2, show k + 1 + i = k + (i + 1) by omega]⟩
theorem walkD_en {K : PySem.W.Frag} {F : Hp} {k1 : SrcK} {ds : List D} {vs : List V} {a : Addr} (h : ∀ F2 H, Same F F2 → Sub F2 H → k1.sq K H a vs) (r : Reps K F ds vs) : WalkD K (Jen K k1 a) F H0 (enumL 0 ds) := by
  refine ⟨fun i F2 H hi hs s _ => ?_, fun F2 H hs s _ => ?_, fun i F2 H x H' d hs s _ hd y => ?_⟩
  · rw [enumL_len, r.len] at hi
    exact ⟨vs, vs[i]'(by omega), h _ _ hs s, by simp⟩
  · exact ⟨vs, h _ _ hs s, by rw [enumL_len, r.len]⟩
  · obtain ⟨T, u, rfl, nT, rfl, e1⟩ := y
    obtain ⟨d1, h1, rfl⟩ := enumL_get hd
    obtain ⟨v1, k1, k2⟩ := r.get h1
    have e1' := e1 vs (h _ _ hs s)
    rw [k1] at e1'; cases e1'
    rw [Nat.zero_add]
    exact pair_new s nT rep_i (Rep.mono hs _ _ k2)
theorem i_zip {elts : List Expr} {kk : Nat} {tpos : Pos} (hm : G.mg "zip" = none) (ha : AOk G L ρ [a, b] ms) (hg : GlS L "zip" := by rfl)
    (hs : ∀ env, starEach [a, b] env = (false, eval a env) :: starEach [b] env := by intro _; rfl) (hpl : ∀ env, (backTo pos (starEach [b] env)).any (·.1) = false := by intro _; rfl) :
    IOk G L ρ (.Tuple elts kk tpos) (.Call (.Name "zip" p) [a, b] [] pos) (ms.bind zipD) := fun X hX =>
  wkI (pi_z2 (gl_of hX hg) (by rw [hX.hm]; exact hm) (ha X hX) (hs _) (hpl _)) fun σ H R ⟨F, ds, em, vr, q⟩ => by
    obtain ⟨xs, exs, es⟩ := Option.bind_eq_some_iff.mp em
    rw [hX.hK]
    refine ⟨F, _, exs, vr, fun vs F' H' x r => ?_⟩
    obtain ⟨d, e, rfl⟩ : ∃ d e, xs = [d, e] := by
      unfold zipD at es
      split at es <;> first | (cases es; done) | exact ⟨_, _, rfl⟩
    obtain ⟨us, ys, h1, h2, rfl⟩ := zipD_seq es
    obtain ⟨v, v', rfl, hv, hv'⟩ := r.two
    obtain ⟨k1, a1, vs1, o1, rfl, r1, s1⟩ := seq_src h1 hv
    obtain ⟨k2, a2, vs2, o2, rfl, r2, s2⟩ := seq_src h2 hv'
    exact ⟨k1, k2, a1, a2, vs1, vs2, o1, o2, rfl, s1 _ _ (fun _ _ h => h) x.sub, s2 _ _ (fun _ _ h => h) x.sub, q _ F' H' x (walkD_z2 s1 r1 s2 r2)⟩
theorem i_zip3 {elts : List Expr} {kk : Nat} {tpos : Pos} (hm : G.mg "zip" = none) (ha : AOk G L ρ [a, b, c] ms) (hg : GlS L "zip" := by rfl)
    (hs : ∀ env, starEach [a, b, c] env = (false, eval a env) :: starEach [b, c] env := by intro _; rfl) (hpl : ∀ env, (backTo pos (starEach [b, c] env)).any (·.1) = false := by intro _; rfl) :
    IOk G L ρ (.Tuple elts kk tpos) (.Call (.Name "zip" p) [a, b, c] [] pos) (ms.bind zip3D) := fun X hX =>
  wkI (pi_z3 (gl_of hX hg) (by rw [hX.hm]; exact hm) (ha X hX) (hs _) (hpl _)) fun σ H R ⟨F, ds, em, vr, q⟩ => by
    obtain ⟨xs, exs, es⟩ := Option.bind_eq_some_iff.mp em
    rw [hX.hK]
    refine ⟨F, _, exs, vr, fun vs F' H' x r => ?_⟩
    unfold zip3D at es
    split at es
    · obtain ⟨us, h1, es⟩ := Option.bind_eq_some_iff.mp es
      obtain ⟨ys, h2, es⟩ := Option.bind_eq_some_iff.mp es
      obtain ⟨zs, h3, rfl⟩ := Option.map_eq_some_iff.mp es
      obtain ⟨v, rest, rfl, hv, r⟩ := r.inv
      obtain ⟨v', v'', rfl, hv', hv''⟩ := r.two
      obtain ⟨k1, a1, vs1, o1, rfl, r1, s1⟩ := seq_src h1 hv
      obtain ⟨k2, a2, vs2, o2, rfl, r2, s2⟩ := seq_src h2 hv'
      obtain ⟨k3, a3, vs3, o3, rfl, r3, s3⟩ := seq_src h3 hv''
      exact ⟨k1, k2, k3, a1, a2, a3, vs1, vs2, vs3, o1, o2, o3, rfl, s1 _ _ (fun _ _ h => h) x.sub, s2 _ _ (fun _ _ h => h) x.sub, s3 _ _ (fun _ _ h => h) x.sub, q _ F' H' x (walkD_z3 s1 r1 s2 r2 s3 r3)⟩
    · cases es
theorem i_enum {elts : List Expr} {kk : Nat} {tpos : Pos} (hm : G.mg "enumerate" = none) (h : EOk G L ρ e m) (hg : GlS L "enumerate" := by rfl) (hs : ∀ env, starEach [e] env = (false, eval e env) :: starEach [] env := by intro _; rfl) :
    IOk G L ρ (.Tuple elts kk tpos) (.Call (.Name "enumerate" p) [e] [] pos) ((m.bind seqD).map (enumL 0)) := fun X hX =>
  wkI (pi_en (gl_of hX hg) (by rw [hX.hm]; exact hm) ((a_cons h a_nil hs) X hX) (hs _)) fun σ H R ⟨F, ds, em, vr, q⟩ => by
    obtain ⟨ds', em2, rfl⟩ := Option.map_eq_some_iff.mp em
    obtain ⟨d, ed, es⟩ := Option.bind_eq_some_iff.mp em2
    rw [hX.hK]
    refine ⟨F, [d], by rw [ed]; rfl, vr, fun vs F' H' x r => ?_⟩
    obtain ⟨v, rfl, hv⟩ := r.one
    obtain ⟨k1, a1, vs1, o1, rfl, r1, s1⟩ := seq_src es hv
    exact ⟨k1, a1, vs1, o1, rfl, s1 _ _ (fun _ _ h => h) x.sub, q _ F' H' x (walkD_en s1 r1)⟩
end
end DL
set_option autoImplicit false
set_option maxRecDepth 100000
set_option maxHeartbeats 4000000
namespace DL
open PySem PySem.Spec PySem.SeqAt PyProof.Rows L2

/-! ### targets -/
def setMany (σ : L2.St) : List Nat → List V → L2.St
  | i :: is, v :: vs => setMany (σ.set i (some v)) is vs
  | _, _ => σ
def setAll (ρ : List Sl) : List (Nat × D) → List Sl
  | [] => ρ
  | (i, d) :: r => setAll (setS ρ i (.val d)) r
def wipeS (ρ : List Sl) : List Nat → List Sl
  | [] => ρ
  | v :: vs => setS (wipeS ρ vs) v .no
abbrev TGD := D → Option (List (Nat × D))
def gN (i : Nat) : TGD := fun d => some [(i, d)]
def gAll : List TGD → List D → Option (List (Nat × D))
  | [], [] => some []
  | g :: gs, d :: ds => (g d).bind fun as => (gAll gs ds).bind fun bs => some (as ++ bs)
  | _, _ => none
def gT (gs : List TGD) : TGD := fun d => match d with
  | .tup ds => gAll gs ds
  | _ => none
def tG (K : PySem.W.Frag) (g : TGD) : TG := fun v σ H Q => ∃ F d as, Sub F H ∧ Rep K F d v ∧ g d = some as ∧ ∀ vs, Reps K F (as.map (·.2)) vs → Q (setMany σ (as.map (·.1)) vs) H
def tGs (K : PySem.W.Frag) (gs : List TGD) : TGs := fun vs σ H Q => ∃ F ds as, Sub F H ∧ Reps K F ds vs ∧ gAll gs ds = some as ∧ ∀ ws, Reps K F (as.map (·.2)) ws → Q (setMany σ (as.map (·.1)) ws) H
def GOk (G : GX) (L : LX) (tg : Expr) (g : TGD) : Prop := ∀ X, XOk G L X → PG X tg (tG G.K g)
def GsOk (G : GX) (L : LX) (tgs : List Expr) (gs : List TGD) : Prop := ∀ X, XOk G L X → PGs X tgs (tGs G.K gs)
theorem wkG {X : Cx} {e : Expr} {t t' : TG} (h : PG X e t) (w : ∀ v σ H Q, t' v σ H Q → t v σ H Q) : PG X e t' := ⟨fun pins s σ H v u Q I r q => h.run pins s σ H v u Q I r (w v σ H Q q)⟩
theorem wkGs {X : Cx} {e : List Expr} {t t' : TGs} (h : PGs X e t) (w : ∀ v σ H Q, t' v σ H Q → t v σ H Q) : PGs X e t' := ⟨fun pins s σ H v u Q I r q => h.run pins s σ H v u Q I r (w v σ H Q q)⟩
theorem setMany_length : ∀ (is : List Nat) (vs : List V) (σ : L2.St), (setMany σ is vs).length = σ.length
  | [], _, _ => by unfold setMany; rfl
  | _ :: _, [], _ => by unfold setMany; rfl
  | i :: is, v :: vs, σ => by unfold setMany; rw [setMany_length is vs, List.length_set]
theorem setMany_append : ∀ {is : List Nat} {vs : List V} (σ : L2.St) (js : List Nat) (ws : List V), is.length = vs.length → setMany (setMany σ is vs) js ws = setMany σ (is ++ js) (vs ++ ws)
  | [], [], σ, js, ws, _ => by unfold setMany; rfl
  | i :: is, v :: vs, σ, js, ws, h => by
    show setMany (setMany (σ.set i (some v)) is vs) js ws = setMany (σ.set i (some v)) (is ++ js) (vs ++ ws)
    exact setMany_append _ js ws (by simpa using h)
theorem gAll_len : ∀ (gs : List TGD) (ds : List D) (as : List (Nat × D)), gAll gs ds = some as → gs.length = ds.length
  | [], [], _, _ => rfl
  | [], _ :: _, _, e => by cases e
  | _ :: _, [], _, e => by cases e
  | g :: gs, d :: ds, as, e => by
    unfold gAll at e
    obtain ⟨as1, e1, e⟩ := Option.bind_eq_some_iff.mp e
    obtain ⟨as2, e2, e⟩ := Option.bind_eq_some_iff.mp e
    simp [gAll_len gs ds as2 e2]
section
variable {G : GX} {L : LX} {tg : Expr} {tgs : List Expr} {pos : Pos} {g : TGD} {gs : List TGD}
theorem g_name (i : Nat) {x : Str} (hi : L.N[i]? = some x := by rfl) (hx : Loc L.sc x := by first | exact Or.inl rfl | exact Or.inr rfl) (hf : L.ow x = true ∨ L.sc.names.lookup x = some .local := by first | exact Or.inl rfl | exact Or.inr rfl) : GOk G L (.Name x pos) (gN i) := fun X hX =>
  wkG (pg_name (i := i) (by rw [hX.hN]; exact hX.nd) (by rw [hX.hN]; exact hi) (by rw [hX.hsc]; exact hx) (by rw [hX.hfn, hX.hsc]; exact hf)) fun v σ H Q ⟨F, d, as, s, r, e, q⟩ => by
    cases e
    exact q [v] (.cons r .nil)
theorem gs_nil : GsOk G L [] [] := fun X hX => wkGs pgs_nil fun vs σ H Q ⟨F, ds, as, s, r, e, q⟩ => by
  cases ds with
  | nil => cases e; exact ⟨r.nil_inv, q [] .nil⟩
  | cons _ _ => cases e
theorem gs_cons (h1 : GOk G L tg g) (h2 : GsOk G L tgs gs) (hs : ∀ env, (assignEach (tg :: tgs) env).map (·.2) = assign tg env :: (assignEach tgs env).map (·.2) := by intro _; rfl) : GsOk G L (tg :: tgs) (g :: gs) := fun X hX =>
  wkGs (pgs_cons (h1 X hX) (h2 X hX) (hs _)) fun vs σ H Q ⟨F, ds, as, s, r, e, q⟩ => by
    cases ds with
    | nil => cases e
    | cons d ds =>
      obtain ⟨v, vr, rfl, r1, r2⟩ := r.inv
      obtain ⟨as1, e1, e⟩ := Option.bind_eq_some_iff.mp e
      obtain ⟨as2, e2, e⟩ := Option.bind_eq_some_iff.mp e
      cases e
      refine ⟨v, vr, rfl, F, d, as1, s, r1, e1, fun ws1 hw1 => ⟨F, ds, as2, s, r2, e2, fun ws2 hw2 => ?_⟩⟩
      have hl : (as1.map (·.1)).length = ws1.length := by rw [← hw1.len, List.length_map, List.length_map]
      rw [setMany_append _ _ _ hl, ← List.map_append]
      exact q _ (by rw [List.map_append]; exact hw1.append hw2)
theorem g_tup {k : Nat} (h : GsOk G L tgs gs) (hn : ∀ env, (assignEach tgs env).length = gs.length := by intro _; rfl) (hst : ∀ env, (assignEach tgs env).findIdx? (·.1) = none := by intro _; rfl) : GOk G L (.Tuple tgs k pos) (gT gs) := fun X hX =>
  wkG (pg_tup hX.calm (h X hX) (hn _) (hst _)) fun v σ H Q ⟨F, d, as, s, r, e, q⟩ => by
    unfold gT at e
    split at e
    · rename_i ds
      unfold Rep at r
      obtain ⟨a, vs, rfl, h1, q1⟩ := r
      rw [hX.hK]
      refine ⟨a, vs, rfl, tup_sq h1 s, ?_, F, ds, as, s, q1, e, q⟩
      rw [← q1.len]; exact (gAll_len _ _ _ e).symm
    · cases e
end
section
variable {K : PySem.W.Frag} {F H : Hp}
theorem VR.set {ρ : List Sl} {σ : L2.St} (r : VR K ρ σ F H) {i : Nat} {d : D} {v : V} (h : Rep K F d v) : VR K (setS ρ i (.val d)) (σ.set i (some v)) F H := by
  refine ⟨r.sub, by rw [List.length_set, set_length]; exact r.len, fun j e h' => ?_, fun j e h' => ?_⟩
  · by_cases hj : i = j
    · subst hj
      have hl := nth_lt (ρ := setS ρ i (.val d)) (i := i) (by rw [h']; exact fun z => nomatch z)
      rw [set_length] at hl
      rw [nth_set_self hl] at h'; cases h'
      exact ⟨v, List.getElem?_set_self (by rw [r.len]; exact hl), h⟩
    · rw [nth_set_ne hj] at h'
      rw [List.getElem?_set_ne hj]
      exact r.vals j e h'
  · by_cases hj : i = j
    · subst hj
      have hl := nth_lt (ρ := setS ρ i (.val d)) (i := i) (by rw [h']; exact fun z => nomatch z)
      rw [set_length] at hl
      rw [nth_set_self hl] at h'; cases h'
    · rw [nth_set_ne hj] at h'
      rw [List.getElem?_set_ne hj]
      exact r.owns j e h'
theorem VR.setMany : ∀ (as : List (Nat × D)) (vs : List V) {ρ : List Sl} {σ : L2.St}, VR K ρ σ F H → Reps K F (as.map (·.2)) vs → VR K (setAll ρ as) (setMany σ (as.map (·.1)) vs) F H
  | [], vs, ρ, σ, r, _ => by unfold setAll; exact r
  | (i, d) :: as, vs, ρ, σ, r, q => by
    obtain ⟨v, vr, rfl, r1, r2⟩ := q.inv
    exact VR.setMany as vr (r.set r1) r2
theorem VR.drop {ρ : List Sl} {σ : L2.St} (r : VR K ρ σ F H) (i : Nat) : VR K (setS ρ i .no) (σ.set i none) F H := by
  refine ⟨r.sub, by rw [List.length_set, set_length]; exact r.len, fun j e h' => ?_, fun j e h' => ?_⟩
  all_goals
    have hj : i ≠ j := fun hj => by
      subst hj
      have hl := nth_lt (ρ := setS ρ i .no) (i := i) (by rw [h']; exact fun z => nomatch z)
      rw [set_length] at hl
      rw [nth_set_self hl] at h'; cases h'
    rw [nth_set_ne hj] at h'
    rw [List.getElem?_set_ne hj]
  · exact r.vals j e h'
  · exact r.owns j e h'
theorem VR.wipe {ρ : List Sl} {σ : L2.St} (r : VR K ρ σ F H) : ∀ vs : List Nat, VR K (wipeS ρ vs) (wipe σ vs) F H
  | [] => r
  | v :: vs => (VR.wipe r vs).drop v
theorem wipe_set {σ : L2.St} {i : Nat} {x : Option V} : ∀ {vs : List Nat}, i ∈ vs → wipe (σ.set i x) vs = wipe σ vs
  | [], h => by simp at h
  | v :: vs, h => by
    unfold L2.wipe
    by_cases e : i = v
    · subst e
      by_cases hm : i ∈ vs
      · rw [wipe_set hm]
      · have : ∀ (ws : List Nat), i ∉ ws → wipe (σ.set i x) ws = (wipe σ ws).set i x := by
          intro ws
          induction ws with
          | nil => intro _; rfl
          | cons w ws ih =>
            intro hw
            unfold L2.wipe
            rw [ih (fun z => hw (List.mem_cons_of_mem _ z)), List.set_comm _ _ (fun z => hw (by rw [z]; exact List.mem_cons_self))]
        rw [this vs hm, List.set_set]
    · rw [wipe_set (vs := vs) (by simpa [e] using h)]
theorem wipe_many {vs : List Nat} : ∀ (is : List Nat) (ws : List V) (σ : L2.St), (∀ i ∈ is, i ∈ vs) → wipe (setMany σ is ws) vs = wipe σ vs
  | [], _, _, _ => by unfold DL.setMany; rfl
  | _ :: _, [], _, _ => by unfold DL.setMany; rfl
  | i :: is, w :: ws, σ, h => by
    show wipe (DL.setMany (σ.set i (some w)) is ws) vs = wipe σ vs
    rw [wipe_many is ws _ fun j hj => h j (List.mem_cons_of_mem _ hj), wipe_set (h i List.mem_cons_self)]
theorem wipe_wipe (σ : L2.St) : ∀ vs : List Nat, wipe (wipe σ vs) vs = wipe σ vs := fun vs => by
  have : ∀ ws : List Nat, (∀ w ∈ ws, w ∈ vs) → wipe (wipe σ ws) vs = wipe σ vs := by
    intro ws
    induction ws with
    | nil => intro _; rfl
    | cons w ws ih =>
      intro h
      show wipe ((wipe σ ws).set w none) vs = wipe σ vs
      rw [wipe_set (h w List.mem_cons_self)]
      exact ih fun x hx => h x (List.mem_cons_of_mem _ hx)
  exact this vs fun w hw => hw
end

/-! ### comprehensions -/
def lcD (nt : D → Option Bool) (f : D → Option D) : List D → Option (List D)
  | [] => some []
  | d :: ds => (nt d).bind fun b => if b = true then (f d).bind fun y => (lcD nt f ds).map (y :: ·) else lcD nt f ds
/-- the block of a comprehension -/
def LX.blk (L : LX) (scope : Scope) : LX := { L with sc := relS scope L.sc, ow := fun x => scope.names.lookup x == some .cell }
theorem XOk.blk {G : GX} {L : LX} {X : Cx} (h : XOk G L X) (s : Shared) (H : Hp) (scope : Scope) (C : Addr) (cl : List (Str × Addr)) (fp : List Addr) : XOk G (L.blk scope) (X.blk s H scope (compEnvC scope cl C X.env) fp) :=
  ⟨h.hP, h.hw, h.hK, h.hm, h.hb, h.hN, h.nd, by show relS scope X.env.scope = relS scope L.sc; rw [h.hsc], rfl, h.calm, h.room⟩
section
variable {G : GX} {L : LX} {ρ : List Sl} {tg iter elt : Expr} {ifs : List Expr} {scope : Scope} {own : List (Str × Nat)} {pos : Pos} {g : TGD} {nt : D → Option Bool} {f : D → Option D} {mi : Option (List D)}
def tsD (K : PySem.W.Frag) (ρ : List Sl) (vs : List Nat) (g : TGD) (nt : D → Option Bool) : TT := fun σ H Q => ∃ d as, g d = some as ∧ tT K (setAll (wipeS ρ vs) as) (nt d) σ H Q
def teD (K : PySem.W.Frag) (ρ : List Sl) (vs : List Nat) (g : TGD) (f : D → Option D) : TE := fun σ H Q => ∃ d as, g d = some as ∧ tE K (setAll (wipeS ρ vs) as) (f d) σ H Q
def TsOk (G : GX) (L : LX) (ρ : List Sl) (ifs : List Expr) (m : Option Bool) : Prop := ∀ X, XOk G L X → PTs X ifs (tT G.K ρ m)
theorem ts_nil : TsOk G L ρ [] (some true) := fun X hX => ⟨fun pins s σ H Q I ⟨F, b, e, vr, q⟩ => by cases e; exact pts_nil.run pins s σ H Q I (q F H (.refl vr.sub))⟩
theorem ts_one {c : Expr} {m : Option Bool} (h : TOk G L ρ c m) : TsOk G L ρ [c] m := fun X hX => pts_one (h X hX)
def LC (mi : Option (List D)) (nt : D → Option Bool) (f : D → Option D) : Option D := (mi.bind (lcD nt f)).bind lstD
theorem lcD_cons {d : D} {ds all : List D} (h : lcD nt f (d :: ds) = some all) : ∃ b, nt d = some b ∧ ((b = true ∧ ∃ y ys, f d = some y ∧ lcD nt f ds = some ys ∧ all = y :: ys) ∨ (b = false ∧ lcD nt f ds = some all)) := by
  obtain ⟨b, eb, h⟩ := Option.bind_eq_some_iff.mp h
  refine ⟨b, eb, ?_⟩
  cases b with
  | true =>
    rw [if_pos rfl] at h
    obtain ⟨y, ey, h⟩ := Option.bind_eq_some_iff.mp h
    obtain ⟨ys, eys, rfl⟩ := Option.map_eq_some_iff.mp h
    exact .inl ⟨rfl, y, ys, ey, eys, rfl⟩
  | false =>
    rw [if_neg Bool.false_ne_true] at h
    exact .inr ⟨rfl, h⟩
/-- the reading of a comprehension -/
theorem lc_read {K : PySem.W.Frag} {σ : L2.St} {H : Hp} {Q : VK} {vs : List Nat} (hv : ∀ d as, g d = some as → ∀ i ∈ as.map (·.1), i ∈ vs) (h0 : ∀ d, g d = none → nt d = none) (h : tF K ρ (LC mi nt f) σ H Q) :
    tLc (tI K ρ mi) (tG K g) (tsD K ρ vs g nt) (teD K ρ vs g f) vs σ H Q := by
  obtain ⟨F, d, em, vr, q⟩ := h
  obtain ⟨all, ea, el⟩ := Option.bind_eq_some_iff.mp em
  obtain ⟨ds, emi, ea⟩ := Option.bind_eq_some_iff.mp ea
  unfold lstD at el
  split at el
  · rename_i hlen
    cases el
    refine ⟨F, ds, emi, vr, fun J F1 H1 x1 w D hD => ?_⟩
    have fD : F1 D = none := x1.sub.none hD
    refine ⟨fun i m H2 => m = ds.length - i ∧ i ≤ ds.length ∧ ∃ F2 acc rest vacc, Ext F1 H1 F2 H2 ∧ F2 D = none ∧ H2 D = some (.lst vacc) ∧ Reps K F2 acc vacc ∧ lcD nt f (ds.drop i) = some rest ∧ all = acc ++ rest,
      ⟨_, rfl, Nat.zero_le _, F1, [], all, [], .own x1.sub hD, fD, upd_same, .nil, ea, rfl⟩, ?_⟩
    rintro i m H2 ⟨rfl, hi, F2, acc, rest, vacc, x2, fD2, hD2, rv, er, eall⟩
    by_cases hlt : i < ds.length
    · refine .inr ⟨w.goes i F2 H2 hlt x2.froz x2.sub (.ext x1.sub x2.heap), fun H' => i + 1 ≤ ds.length ∧ ∃ F2 acc rest vacc, Ext F1 H1 F2 H' ∧ F2 D = none ∧ H' D = some (.lst vacc) ∧ Reps K F2 acc vacc ∧ lcD nt f (ds.drop (i + 1)) = some rest ∧ all = acc ++ rest,
        fun H' ⟨h1, h2⟩ => ⟨_, by omega, rfl, h1, h2⟩, fun x H3 y3 => ?_⟩
      have hd : ds[i]? = some ds[i] := List.getElem?_eq_getElem hlt
      rw [List.drop_eq_getElem_cons hlt] at er
      generalize ds[i] = dd at hd er
      obtain ⟨F3, x3, r3⟩ := w.yields i F2 H2 x H3 dd x2.froz x2.sub (.ext x1.sub x2.heap) hd y3
      have hD3 := x3.heap _ _ hD2
      have fD3 : ∀ {F4 H4}, Ext F2 H2 F4 H4 → F4 D = none := fun {F4 H4} x4 => x4.stay fD2 hD2 fun vs z => nomatch z
      obtain ⟨b, eb, cases_⟩ := lcD_cons er
      -- the target
      cases eg : g dd with
      | none => rw [h0 dd eg] at eb; cases eb
      | some as =>
        refine ⟨F3, dd, as, x3.sub, r3, eg, fun ws hw => ⟨?_, ?_⟩⟩
        · rw [wipe_many _ _ _ (hv dd as eg), wipe_wipe]
        · have vr3 : VR K (setAll (wipeS ρ vs) as) (setMany (wipe σ vs) (as.map (·.1)) ws) F3 H3 := VR.setMany as ws ((vr.ext ((x1.trans x2).trans x3)).wipe vs) hw
          refine ⟨dd, as, eg, F3, b, eb, vr3, fun F4 H4 x4 => ?_⟩
          rcases cases_ with ⟨rfl, y, ys, ey, eys, rfl⟩ | ⟨rfl, er⟩
          · rw [if_pos rfl]
            refine ⟨dd, as, eg, F4, y, ey, vr3.ext x4, fun v F5 H5 x5 r5 => ?_⟩
            have xx := (x3.trans x4).trans x5
            have hD5 := xx.heap _ _ hD2
            have fD5 := fD3 xx
            refine ⟨vacc, hD5, ?_, hlt, F5, acc ++ [y], ys, vacc ++ [v], ?_, fD5, upd_same, (Reps.mono xx.froz _ _ rv).append (.cons r5 .nil), eys, by rw [eall, List.append_assoc]; rfl⟩
            · rw [← rv.len, sizeLine_eq]
              rw [eall, List.length_append, List.length_cons] at hlen
              omega
            · have x6 := x2.trans xx
              refine ⟨fun b o e => ?_, x6.froz, fun b o e => ?_, x6.new⟩
              · rw [upd_ne (fun z => by subst z; rw [hD] at e; cases e)]; exact x6.heap b o e
              · rw [upd_ne (fun z => by subst z; rw [fD5] at e; cases e)]; exact x6.sub b o e
          · rw [if_neg Bool.false_ne_true]
            have xx := x3.trans x4
            exact ⟨hlt, F4, acc, rest, vacc, x2.trans xx, fD3 xx, xx.heap _ _ hD2, Reps.mono xx.froz _ _ rv, er, eall⟩
    · have hi' : i = ds.length := by omega
      subst hi'
      rw [List.drop_length] at er
      cases er
      rw [List.append_nil] at eall
      subst eall
      refine .inl ⟨w.stops F2 H2 x2.froz x2.sub (.ext x1.sub x2.heap), ?_⟩
      have x6 := x1.trans x2
      exact q D (.lst vacc) F2 H2 x6 (x1.heap.free hD) hD2 ⟨vacc, rfl, rv⟩ fD2
  · cases el
/-- what the block's premises give, for any target -/
structure LcOk (G : GX) (L : LX) (ρ : List Sl) (tg elt : Expr) (ifs : List Expr) (scope : Scope) (own : List (Str × Nat)) (g : TGD) (nt : D → Option Bool) (f : D → Option D) : Prop where
  blk : blkC L.N L.sc scope own = true
  tgt : GOk G (L.blk scope) tg g
  ins : ∀ d as, g d = some as → ∀ i ∈ as.map (·.1), i ∈ own.map (·.2)
  bad : ∀ d, g d = none → nt d = none
  ifs : ∀ d as, g d = some as → TsOk G (L.blk scope) (setAll (wipeS ρ (own.map (·.2))) as) ifs (nt d)
  elt : ∀ d as, g d = some as → EOk G (L.blk scope) (setAll (wipeS ρ (own.map (·.2))) as) elt (f d)
theorem f_lc (hi : IOk G L ρ tg iter mi) (h : LcOk G L ρ tg elt ifs scope own g nt f) (hs : ∀ env x, foldedSetIterable iter env x = pure x := by intro _ _; rfl) :
    FOk G L ρ (.ListComp elt [⟨tg, iter, ifs, 0⟩] scope pos) (LC mi nt f) := fun X hX =>
  wkE (pe_lc (own := own) (g := tG G.K g) (tt := tsD G.K ρ (own.map (·.2)) g nt) (te := teD G.K ρ (own.map (·.2)) g f) hX.calm (by rw [hX.hN]; exact hX.nd) (hi X hX) (blkOk_by (by rw [hX.hN, hX.hsc]; exact h.blk))
    (fun s H C cl fp => h.tgt _ (hX.blk s H scope C cl fp))
    (fun s H C cl fp => ⟨fun pins s' σ H' Q I ⟨d, as, eg, q⟩ => (h.ifs d as eg _ (hX.blk s H scope C cl fp)).run pins s' σ H' Q I q⟩)
    (fun s H C cl fp => ⟨fun pins s' σ H' Q I ⟨d, as, eg, q⟩ => (h.elt d as eg _ (hX.blk s H scope C cl fp)).run pins s' σ H' Q I q⟩) (hs _)) fun σ H Q q => lc_read h.ins h.bad q
/-- one name -/
theorem lc1 {i : Nat} (blk : blkC L.N L.sc scope own = true) (hg : GOk G (L.blk scope) tg (gN i)) (hi : i ∈ own.map (·.2))
    (ht : ∀ d, TsOk G (L.blk scope) (setS (wipeS ρ (own.map (·.2))) i (.val d)) ifs (nt d)) (he : ∀ d, EOk G (L.blk scope) (setS (wipeS ρ (own.map (·.2))) i (.val d)) elt (f d)) : LcOk G L ρ tg elt ifs scope own (gN i) nt f :=
  ⟨blk, hg, fun d as e j hj => (by cases e; simp at hj; subst hj; exact hi), fun d e => (by cases e), fun d as e => (by cases e; exact ht d), fun d as e => (by cases e; exact he d)⟩
def un2 {α : Type} (f : D → D → Option α) : D → Option α
  | .tup [a, b] => f a b
  | _ => none
def un3 {α : Type} (f : D → D → D → Option α) : D → Option α
  | .tup [a, b, c] => f a b c
  | _ => none
def un4 {α : Type} (f : D → D → D → D → Option α) : D → Option α
  | .tup [a, b, c, d] => f a b c d
  | _ => none
theorem gT2_inv {g1 g2 : TGD} {d : D} {as : List (Nat × D)} (e : gT [g1, g2] d = some as) : ∃ a b as1 as2, d = .tup [a, b] ∧ g1 a = some as1 ∧ g2 b = some as2 ∧ as = as1 ++ as2 := by
  unfold gT at e
  split at e
  · rename_i ds
    match ds, e with
    | [a, b], e =>
      obtain ⟨as1, e1, e⟩ := Option.bind_eq_some_iff.mp e
      obtain ⟨as2, e2, e⟩ := Option.bind_eq_some_iff.mp e
      obtain ⟨as3, e3, e2⟩ := Option.bind_eq_some_iff.mp e2
      obtain ⟨as4, e4, e2⟩ := Option.bind_eq_some_iff.mp e2
      cases e4; cases e2; cases e
      exact ⟨a, b, as1, as3, rfl, e1, e3, by simp⟩
    | [], e => cases e
    | [a], e =>
      obtain ⟨as1, e1, e⟩ := Option.bind_eq_some_iff.mp e
      cases e
    | a :: b :: c :: r, e =>
      obtain ⟨as1, e1, e⟩ := Option.bind_eq_some_iff.mp e
      obtain ⟨as2, e2, e⟩ := Option.bind_eq_some_iff.mp e
      obtain ⟨as3, e3, e2⟩ := Option.bind_eq_some_iff.mp e2
      obtain ⟨as4, e4, e2⟩ := Option.bind_eq_some_iff.mp e2
      cases e4
  · cases e
theorem gT3_inv {g1 g2 g3 : TGD} {d : D} {as : List (Nat × D)} (e : gT [g1, g2, g3] d = some as) : ∃ a b c as1 as2 as3, d = .tup [a, b, c] ∧ g1 a = some as1 ∧ g2 b = some as2 ∧ g3 c = some as3 ∧ as = as1 ++ (as2 ++ as3) := by
  unfold gT at e
  split at e
  · rename_i ds
    have hl := gAll_len _ _ _ e
    match ds, e, hl with
    | [a, b, c], e, _ =>
      obtain ⟨as1, e1, e⟩ := Option.bind_eq_some_iff.mp e
      obtain ⟨as2, e2, e⟩ := Option.bind_eq_some_iff.mp e
      obtain ⟨as3, e3, e2⟩ := Option.bind_eq_some_iff.mp e2
      obtain ⟨as4, e4, e2⟩ := Option.bind_eq_some_iff.mp e2
      obtain ⟨as5, e5, e4⟩ := Option.bind_eq_some_iff.mp e4
      obtain ⟨as6, e6, e4⟩ := Option.bind_eq_some_iff.mp e4
      cases e6; cases e4; cases e2; cases e
      exact ⟨a, b, c, as1, as3, as5, rfl, e1, e3, e5, by simp⟩
  · cases e
theorem gT4_inv {g1 g2 g3 g4 : TGD} {d : D} {as : List (Nat × D)} (e : gT [g1, g2, g3, g4] d = some as) : ∃ a b c u as1 as2 as3 as4, d = .tup [a, b, c, u] ∧ g1 a = some as1 ∧ g2 b = some as2 ∧ g3 c = some as3 ∧ g4 u = some as4 ∧ as = as1 ++ (as2 ++ (as3 ++ as4)) := by
  unfold gT at e
  split at e
  · rename_i ds
    have hl := gAll_len _ _ _ e
    match ds, e, hl with
    | [a, b, c, u], e, _ =>
      obtain ⟨as1, e1, e⟩ := Option.bind_eq_some_iff.mp e
      obtain ⟨as2, e2, e⟩ := Option.bind_eq_some_iff.mp e
      obtain ⟨as3, e3, e2⟩ := Option.bind_eq_some_iff.mp e2
      obtain ⟨as4, e4, e2⟩ := Option.bind_eq_some_iff.mp e2
      obtain ⟨as5, e5, e4⟩ := Option.bind_eq_some_iff.mp e4
      obtain ⟨as6, e6, e4⟩ := Option.bind_eq_some_iff.mp e4
      obtain ⟨as7, e7, e6⟩ := Option.bind_eq_some_iff.mp e6
      obtain ⟨as8, e8, e6⟩ := Option.bind_eq_some_iff.mp e6
      cases e8; cases e6; cases e4; cases e2; cases e
      exact ⟨a, b, c, u, as1, as3, as5, as7, rfl, e1, e3, e5, e7, by simp⟩
  · cases e
theorem lc2 {i j : Nat} {nt : D → D → Option Bool} {f : D → D → Option D} (blk : blkC L.N L.sc scope own = true) (hg : GOk G (L.blk scope) tg (gT [gN i, gN j])) (hi : i ∈ own.map (·.2)) (hj : j ∈ own.map (·.2))
    (ht : ∀ a b, TsOk G (L.blk scope) (setS (setS (wipeS ρ (own.map (·.2))) i (.val a)) j (.val b)) ifs (nt a b)) (he : ∀ a b, EOk G (L.blk scope) (setS (setS (wipeS ρ (own.map (·.2))) i (.val a)) j (.val b)) elt (f a b)) :
    LcOk G L ρ tg elt ifs scope own (gT [gN i, gN j]) (un2 nt) (un2 f) := by
  refine ⟨blk, hg, fun d as e k hk => ?_, fun d e => ?_, fun d as e => ?_, fun d as e => ?_⟩
  · obtain ⟨a, b, as1, as2, rfl, e1, e2, rfl⟩ := gT2_inv e
    cases e1; cases e2
    simp at hk
    rcases hk with rfl | rfl
    · exact hi
    · exact hj
  · unfold un2
    split
    · cases e
    · rfl
  · obtain ⟨a, b, as1, as2, rfl, e1, e2, rfl⟩ := gT2_inv e
    cases e1; cases e2
    exact ht a b
  · obtain ⟨a, b, as1, as2, rfl, e1, e2, rfl⟩ := gT2_inv e
    cases e1; cases e2
    exact he a b
theorem lc3 {i j k : Nat} {nt : D → D → D → Option Bool} {f : D → D → D → Option D} (blk : blkC L.N L.sc scope own = true) (hg : GOk G (L.blk scope) tg (gT [gN i, gN j, gN k])) (hi : i ∈ own.map (·.2)) (hj : j ∈ own.map (·.2)) (hk : k ∈ own.map (·.2))
    (ht : ∀ a b c, TsOk G (L.blk scope) (setS (setS (setS (wipeS ρ (own.map (·.2))) i (.val a)) j (.val b)) k (.val c)) ifs (nt a b c)) (he : ∀ a b c, EOk G (L.blk scope) (setS (setS (setS (wipeS ρ (own.map (·.2))) i (.val a)) j (.val b)) k (.val c)) elt (f a b c)) :
    LcOk G L ρ tg elt ifs scope own (gT [gN i, gN j, gN k]) (un3 nt) (un3 f) := by
  refine ⟨blk, hg, fun d as e k hk => ?_, fun d e => ?_, fun d as e => ?_, fun d as e => ?_⟩
  · obtain ⟨a, b, c, as1, as2, as3, rfl, e1, e2, e3, rfl⟩ := gT3_inv e
    cases e1; cases e2; cases e3
    simp at hk
    rcases hk with rfl | rfl | rfl <;> assumption
  · unfold un3
    split
    · cases e
    · rfl
  · obtain ⟨a, b, c, as1, as2, as3, rfl, e1, e2, e3, rfl⟩ := gT3_inv e
    cases e1; cases e2; cases e3
    exact ht a b c
  · obtain ⟨a, b, c, as1, as2, as3, rfl, e1, e2, e3, rfl⟩ := gT3_inv e
    cases e1; cases e2; cases e3
    exact he a b c
theorem lc4 {i j k l : Nat} {nt : D → D → D → D → Option Bool} {f : D → D → D → D → Option D} (blk : blkC L.N L.sc scope own = true) (hg : GOk G (L.blk scope) tg (gT [gN i, gN j, gN k, gN l])) (hi : i ∈ own.map (·.2)) (hj : j ∈ own.map (·.2)) (hk : k ∈ own.map (·.2)) (hl : l ∈ own.map (·.2))
    (ht : ∀ a b c d, TsOk G (L.blk scope) (setS (setS (setS (setS (wipeS ρ (own.map (·.2))) i (.val a)) j (.val b)) k (.val c)) l (.val d)) ifs (nt a b c d)) (he : ∀ a b c d, EOk G (L.blk scope) (setS (setS (setS (setS (wipeS ρ (own.map (·.2))) i (.val a)) j (.val b)) k (.val c)) l (.val d)) elt (f a b c d)) :
    LcOk G L ρ tg elt ifs scope own (gT [gN i, gN j, gN k, gN l]) (un4 nt) (un4 f) := by
  refine ⟨blk, hg, fun d as e k hk => ?_, fun d e => ?_, fun d as e => ?_, fun d as e => ?_⟩
  · obtain ⟨a, b, c, u, as1, as2, as3, as4, rfl, e1, e2, e3, e4, rfl⟩ := gT4_inv e
    cases e1; cases e2; cases e3; cases e4
    simp at hk
    rcases hk with rfl | rfl | rfl | rfl <;> assumption
  · unfold un4
    split
    · cases e
    · rfl
  · obtain ⟨a, b, c, u, as1, as2, as3, as4, rfl, e1, e2, e3, e4, rfl⟩ := gT4_inv e
    cases e1; cases e2; cases e3; cases e4
    exact ht a b c u
  · obtain ⟨a, b, c, u, as1, as2, as3, as4, rfl, e1, e2, e3, e4, rfl⟩ := gT4_inv e
    cases e1; cases e2; cases e3; cases e4
    exact he a b c u
/-- a list of scalars made by reading what is one's own -/
def flatsG (d : D) : Option D := match d with
  | .lst ds => if ds.all flatD then some d else none
  | _ => none
theorem reps_flat {K : PySem.W.Frag} {F F' : Hp} : ∀ {ds : List D} {vs : List V}, ds.all flatD = true → Reps K F ds vs → Reps K F' ds vs
  | [], _, _, r => by rw [r.nil_inv]; exact .nil
  | d :: ds, vs, h, r => by
    rw [List.all_cons, Bool.and_eq_true] at h
    obtain ⟨v, q, rfl, r1, r2⟩ := r.inv
    exact .cons (rep_flat h.1 r1) (reps_flat h.2 r2)
theorem f_flat {e : Expr} {m : Option D} (h : FOk G L (ρ.map frzS) e m) : FOk G L ρ e (m.bind flatsG) := fun X hX => wkE (h X hX) fun σ H Q ⟨F, d, em, r, q⟩ => by
  obtain ⟨x, ex, em⟩ := Option.bind_eq_some_iff.mp em
  unfold flatsG at em
  split at em
  · split at em
    · rename_i ds hf
      cases em
      obtain ⟨hs, r'⟩ := r.allF
      refine ⟨_, _, ex, r', fun p o F' H' x n ho ow hF => ?_⟩
      obtain ⟨vs, rfl, rv⟩ := ow
      exact q p _ F H' (.heapOnly r.sub x.heap) n ho ⟨vs, rfl, reps_flat hf rv⟩ (r.sub.none n)
    · cases em
  · cases em
end
end DL
set_option autoImplicit false
set_option maxRecDepth 100000
set_option maxHeartbeats 4000000
namespace DL
open PySem PySem.Spec PySem.SeqAt PyProof.Rows L2

/-! ### the state between statements -/
structure RetOk (B F0 F H : Hp) : Prop where
  keep : Same B H
  sub : Sub F H
  ext : Same F0 F
  fresh : ∀ a o, F a = some o → F0 a = none → B a = none ∨ ∃ vs, o = .tup vs
structure ER (K : PySem.W.Frag) (B F0 : Hp) (ρ : List Sl) (σ : L2.St) (F H : Hp) : Prop where
  vr : VR K ρ σ F H
  ret : RetOk B F0 F H
  ownB : ∀ i d p, nthS ρ i = .own d → σ[i]? = some (some (.ref p)) → B p = none
  dist : ∀ i j d e p, nthS ρ i = .own d → nthS ρ j = .own e → σ[i]? = some (some (.ref p)) → σ[j]? = some (some (.ref p)) → i = j
section
variable {K : PySem.W.Frag} {B F0 F H F' H' F1 : Hp} {ρ : List Sl} {σ : L2.St}
theorem RetOk.go (r : RetOk B F0 F H) (e : Ext F H F' H') : RetOk B F0 F' H' :=
  ⟨r.keep.trans e.heap, e.sub, r.ext.trans e.froz, fun a o h n => by
    cases q : F a with
    | some u =>
      have e2 := e.froz a u q
      rw [h] at e2
      cases e2
      exact r.fresh a _ q n
    | none => exact (e.new a o h q).imp r.keep.free id⟩
theorem ER.go (r : ER K B F0 ρ σ F H) (e : Ext F H F' H') : ER K B F0 ρ σ F' H' := ⟨r.vr.ext e, r.ret.go e, r.ownB, r.dist⟩
theorem RetOk.rebase (a : RetOk B F0 F1 H) (b : RetOk B F1 F' H') : RetOk B F0 F' H' :=
  ⟨b.keep, b.sub, a.ext.trans b.ext, fun x o h n => by
    cases q : F1 x with
    | some u =>
      have e2 := b.ext x u q
      rw [h] at e2
      cases e2
      exact a.fresh x _ q n
    | none => exact b.fresh x o h q⟩
theorem ER.rebase (a : RetOk B F0 F1 H) {ρ' : List Sl} {σ' : L2.St} (b : ER K B F1 ρ' σ' F' H') : ER K B F0 ρ' σ' F' H' := ⟨b.vr, a.rebase b.ret, b.ownB, b.dist⟩
theorem nth_set_cases {i j : Nat} {x y : Sl} (h : nthS (setS ρ i x) j = y) (hy : y ≠ .no) : (i = j ∧ x = y ∧ i < ρ.length) ∨ (i ≠ j ∧ nthS ρ j = y) := by
  by_cases e : i = j
  · subst e
    have hl := nth_lt (ρ := setS ρ i x) (i := i) (by rw [h]; exact hy)
    rw [set_length] at hl
    rw [nth_set_self hl] at h
    exact .inl ⟨rfl, h, hl⟩
  · rw [nth_set_ne e] at h
    exact .inr ⟨e, h⟩
theorem ER.set (r : ER K B F0 ρ σ F H) {i : Nat} {d : D} {v : V} (h : Rep K F d v) : ER K B F0 (setS ρ i (.val d)) (σ.set i (some v)) F H := by
  refine ⟨r.vr.set h, r.ret, fun j e p h1 h2 => ?_, fun j k e f p h1 h2 h3 h4 => ?_⟩
  · rcases nth_set_cases h1 (fun z => nomatch z) with ⟨_, z, _⟩ | ⟨ne, h1⟩
    · cases z
    · rw [List.getElem?_set_ne ne] at h2; exact r.ownB j e p h1 h2
  · rcases nth_set_cases h1 (fun z => nomatch z) with ⟨_, z, _⟩ | ⟨ne, h1⟩
    · cases z
    · rcases nth_set_cases h2 (fun z => nomatch z) with ⟨_, z, _⟩ | ⟨ne2, h2⟩
      · cases z
      · rw [List.getElem?_set_ne ne] at h3
        rw [List.getElem?_set_ne ne2] at h4
        exact r.dist j k e f p h1 h2 h3 h4
theorem ER.setMany : ∀ (as : List (Nat × D)) (vs : List V) {ρ : List Sl} {σ : L2.St}, ER K B F0 ρ σ F H → Reps K F (as.map (·.2)) vs → ER K B F0 (setAll ρ as) (DL.setMany σ (as.map (·.1)) vs) F H
  | [], vs, ρ, σ, r, _ => by unfold setAll; exact r
  | (i, d) :: as, vs, ρ, σ, r, q => by
    obtain ⟨v, vr, rfl, r1, r2⟩ := q.inv
    exact ER.setMany as vr (r.set r1) r2
/-- a new object of one's own comes to slot i -/
theorem ER.setOwn (r : ER K B F0 ρ σ F H) {i : Nat} {d : D} {p : Addr} {o : HO} (n : ∀ q u, H q = some u → q ≠ p ∨ True) (ho : H p = some o) (ow : OwnO K F d o) (hF : F p = none) (hB : B p = none)
    (hn : ∀ j e, nthS ρ j = .own e → σ[j]? ≠ some (some (.ref p))) : ER K B F0 (setS ρ i (.own d)) (σ.set i (some (.ref p))) F H := by
  refine ⟨⟨r.vr.sub, by rw [List.length_set, set_length]; exact r.vr.len, fun j e h1 => ?_, fun j e h1 => ?_⟩, r.ret, fun j e q h1 h2 => ?_, fun j k e f q h1 h2 h3 h4 => ?_⟩
  · rcases nth_set_cases h1 (fun z => nomatch z) with ⟨_, z, _⟩ | ⟨ne, h1⟩
    · cases z
    · rw [List.getElem?_set_ne ne]; exact r.vr.vals j e h1
  · rcases nth_set_cases h1 (fun z => nomatch z) with ⟨rfl, z, hl⟩ | ⟨ne, h1⟩
    · cases z
      exact ⟨p, o, List.getElem?_set_self (by rw [r.vr.len]; exact hl), ho, ow, hF⟩
    · rw [List.getElem?_set_ne ne]; exact r.vr.owns j e h1
  · rcases nth_set_cases h1 (fun z => nomatch z) with ⟨rfl, z, hl⟩ | ⟨ne, h1⟩
    · rw [List.getElem?_set_self (by rw [r.vr.len]; exact hl)] at h2; cases h2; exact hB
    · rw [List.getElem?_set_ne ne] at h2; exact r.ownB j e q h1 h2
  · rcases nth_set_cases h1 (fun z => nomatch z) with ⟨rfl, z, hl⟩ | ⟨ne, h1⟩
    · rcases nth_set_cases h2 (fun z => nomatch z) with ⟨e2, z, hl⟩ | ⟨ne2, h2⟩
      · exact e2
      · rw [List.getElem?_set_self (by rw [r.vr.len]; exact hl)] at h3; cases h3
        rw [List.getElem?_set_ne ne2] at h4
        exact absurd h4 (hn k f h2)
    · rcases nth_set_cases h2 (fun z => nomatch z) with ⟨rfl, z, hl⟩ | ⟨ne2, h2⟩
      · rw [List.getElem?_set_self (by rw [r.vr.len]; exact hl)] at h4; cases h4
        rw [List.getElem?_set_ne ne] at h3
        exact absurd h3 (hn j e h1)
      · rw [List.getElem?_set_ne ne] at h3
        rw [List.getElem?_set_ne ne2] at h4
        exact r.dist j k e f q h1 h2 h3 h4
/-- what is one's own at slot i is changed in place -/
theorem ER.upd (r : ER K B F0 ρ σ F H) {i : Nat} {x d : D} {p : Addr} {o : HO} (hi : nthS ρ i = .own x) (hp : σ[i]? = some (some (.ref p))) (ow : OwnO K F d o) : ER K B F0 (setS ρ i (.own d)) σ F (L2.upd H p o) := by
  obtain ⟨p', o', e1, e2, e3, hF⟩ := r.vr.owns i x hi
  rw [hp] at e1; cases e1
  have hB := r.ownB i x p hi hp
  have hi' : i < ρ.length := nth_lt (by rw [hi]; exact fun z => nomatch z)
  have hsub : Sub F (L2.upd H p o) := fun a u h => by
    rw [upd_ne (fun z => by subst z; rw [hF] at h; cases h)]; exact r.vr.sub a u h
  refine ⟨⟨hsub, by rw [set_length]; exact r.vr.len, fun j e h1 => ?_, fun j e h1 => ?_⟩, ⟨fun a u h => ?_, hsub, r.ret.ext, r.ret.fresh⟩, fun j e q h1 h2 => ?_, fun j k e f q h1 h2 h3 h4 => ?_⟩
  · rcases nth_set_cases h1 (fun z => nomatch z) with ⟨_, z, _⟩ | ⟨ne, h1⟩
    · cases z
    · exact r.vr.vals j e h1
  · rcases nth_set_cases h1 (fun z => nomatch z) with ⟨rfl, z, hl⟩ | ⟨ne, h1⟩
    · cases z
      exact ⟨p, o, hp, upd_same, ow, hF⟩
    · obtain ⟨q, u, a1, a2, a3, a4⟩ := r.vr.owns j e h1
      refine ⟨q, u, a1, ?_, a3, a4⟩
      rw [upd_ne (fun z => by subst z; exact ne (r.dist i j x e q hi h1 hp a1))]; exact a2
  · rw [upd_ne (fun z => by subst z; rw [hB] at h; cases h)]; exact r.ret.keep a u h
  · rcases nth_set_cases h1 (fun z => nomatch z) with ⟨rfl, z, hl⟩ | ⟨ne, h1⟩
    · rw [hp] at h2; cases h2; exact hB
    · exact r.ownB j e q h1 h2
  · rcases nth_set_cases h1 (fun z => nomatch z) with ⟨rfl, z, hl⟩ | ⟨ne, h1⟩
    · rcases nth_set_cases h2 (fun z => nomatch z) with ⟨e2, z, hl⟩ | ⟨ne2, h2⟩
      · exact e2
      · exact r.dist i k x f q hi h2 h3 h4
    · rcases nth_set_cases h2 (fun z => nomatch z) with ⟨rfl, z, hl⟩ | ⟨ne2, h2⟩
      · exact r.dist j i e x q h1 hi h3 h4
      · exact r.dist j k e f q h1 h2 h3 h4
/-- what is one's own at slot i is frozen -/
theorem ER.frz (r : ER K B F0 ρ σ F H) {i : Nat} {x : D} (hi : nthS ρ i = .own x) : ∃ F', ER K B F0 (setS ρ i (.val x)) σ F' H ∧ Same F F' := by
  obtain ⟨p, o, e1, e2, e3, hF⟩ := r.vr.owns i x hi
  have hB := r.ownB i x p hi e1
  have hi' : i < ρ.length := nth_lt (by rw [hi]; exact fun z => nomatch z)
  have hs : Same F (L2.upd F p o) := same_new hF
  have hsub : Sub (L2.upd F p o) H := fun a u h => by
    by_cases ha : a = p
    · subst ha; rw [upd_same] at h; cases h; exact .inl e2
    · rw [upd_ne ha] at h; exact r.vr.sub a u h
  refine ⟨L2.upd F p o, ⟨⟨hsub, by rw [set_length]; exact r.vr.len, fun j e h1 => ?_, fun j e h1 => ?_⟩, ⟨r.ret.keep, hsub, r.ret.ext.trans hs, fun a u h n => ?_⟩, fun j e q h1 h2 => ?_, fun j k e f q h1 h2 h3 h4 => ?_⟩, hs⟩
  · rcases nth_set_cases h1 (fun z => nomatch z) with ⟨rfl, z, _⟩ | ⟨ne, h1⟩
    · cases z; exact ⟨_, e1, e3.rep upd_same hs⟩
    · obtain ⟨v, a, b⟩ := r.vr.vals j e h1; exact ⟨v, a, Rep.mono hs _ _ b⟩
  · rcases nth_set_cases h1 (fun z => nomatch z) with ⟨_, z, _⟩ | ⟨ne, h1⟩
    · cases z
    · obtain ⟨q, u, a1, a2, a3, a4⟩ := r.vr.owns j e h1
      refine ⟨q, u, a1, a2, a3.mono hs, ?_⟩
      rw [upd_ne (fun z => by subst z; exact ne (r.dist i j x e q hi h1 e1 a1))]; exact a4
  · by_cases ha : a = p
    · subst ha; exact .inl hB
    · rw [upd_ne ha] at h; exact r.ret.fresh a u h n
  · rcases nth_set_cases h1 (fun z => nomatch z) with ⟨_, z, _⟩ | ⟨ne, h1⟩
    · cases z
    · exact r.ownB j e q h1 h2
  · rcases nth_set_cases h1 (fun z => nomatch z) with ⟨_, z, _⟩ | ⟨ne, h1⟩
    · cases z
    · rcases nth_set_cases h2 (fun z => nomatch z) with ⟨_, z, _⟩ | ⟨ne2, h2⟩
      · cases z
      · exact r.dist j k e f q h1 h2 h3 h4
/-- slots forgotten -/
def leS : List Sl → List Sl → Prop
  | [], [] => True
  | s :: r, t :: q => (s = .no ∨ s = t) ∧ leS r q
  | _, _ => False
theorem leS_len : ∀ {r q : List Sl}, leS r q → r.length = q.length
  | [], [], _ => rfl
  | _ :: r, _ :: q, h => by simp [leS_len h.2]
theorem leS_nth : ∀ {r q : List Sl} {i : Nat} {x : Sl}, leS r q → nthS r i = x → x ≠ .no → nthS q i = x
  | [], [], _, _, _, h, n => by exact absurd h.symm n
  | s :: r, t :: q, 0, x, h, e, n => by
    rcases h.1 with z | z
    · exact absurd (e.symm.trans z) n
    · exact (z.symm.trans e)
  | s :: r, t :: q, i + 1, x, h, e, n => leS_nth (i := i) h.2 e n
theorem ER.le {ρ' : List Sl} (h : leS ρ' ρ) (r : ER K B F0 ρ σ F H) : ER K B F0 ρ' σ F H :=
  ⟨⟨r.vr.sub, by rw [leS_len h]; exact r.vr.len, fun i d e => r.vr.vals i d (leS_nth h e fun z => nomatch z), fun i d e => r.vr.owns i d (leS_nth h e fun z => nomatch z)⟩, r.ret,
    fun i d p e => r.ownB i d p (leS_nth h e fun z => nomatch z), fun i j d e p h1 h2 => r.dist i j d e p (leS_nth h h1 fun z => nomatch z) (leS_nth h h2 fun z => nomatch z)⟩
end

/-! ### blocks -/
abbrev KS (R : Type) := R → Hp → Hp → Ends → Prop
def tS {R : Type} (K : PySem.W.Frag) (ρ : List Sl) (k : KS R) (M : Option R) : TS := fun D σ H => ∃ B F0 F r, M = some r ∧ ER K B F0 ρ σ F H ∧ k r B F0 D
def BOk {R : Type} (G : GX) (L : LX) (ρ : List Sl) (sts : List Stmt) (k : KS R) (M : Option R) : Prop := ∀ X, XOk G L X → PSs X sts (tS G.K ρ k M)
/-- a value is returned -/
def kD (K : PySem.W.Frag) : KS D := fun d B F0 E => ∀ v F H, RetOk B F0 F H → Rep K F d v → E.rt v H
/-- .. or the end is reached (None) -/
def kF (K : PySem.W.Frag) : KS D := fun d B F0 E => kD K d B F0 E ∧ (d = .non → ∀ σ F H, RetOk B F0 F H → E.nx σ H)
/-- a block that goes on -/
def kP {α : Type} (K : PySem.W.Frag) (u : α → List Sl) : KS α := fun a B F0 E => ∀ σ F H, ER K B F0 (u a) σ F H → E.nx σ H
/-- a loop's body: the next turn, a break, a return -/
inductive Lp (S : Type) where
  | go (s : S) | br (s : S) | rt (d : D)
def kC {S : Type} (K : PySem.W.Frag) (v : S → List Sl) : KS (Lp S) := fun r B F0 E => match r with
  | .go s => ∀ σ F H, ER K B F0 (v s) σ F H → E.ct σ H
  | .br s => ∀ σ F H, ER K B F0 (v s) σ F H → E.bk σ H
  | .rt d => kD K d B F0 E
def kL {S : Type} (K : PySem.W.Frag) (v : S → List Sl) : KS (Lp S) := fun r B F0 E => kC K v r B F0 E ∧ match r with
  | .go s => ∀ σ F H, ER K B F0 (v s) σ F H → E.nx σ H
  | _ => True
/-- a block that goes on, or leaves as the one around it does -/
inductive Rs (α R : Type) where
  | nx (a : α) | ex (r : R)
def kJ {α R : Type} (K : PySem.W.Frag) (u : α → List Sl) (k : KS R) : KS (Rs α R) := fun r B F0 E => match r with
  | .nx a => kP K u a B F0 E
  | .ex r => k r B F0 E
theorem wkS {X : Cx} {st : Stmt} {t t' : TS} (h : PS X st t) (w : ∀ D σ H, t' D σ H → t D σ H) : PS X st t' := ⟨fun pins s σ H D I q => h.run pins s σ H D I (w D σ H q)⟩
theorem wkSs {X : Cx} {st : List Stmt} {t t' : TS} (h : PSs X st t) (w : ∀ D σ H, t' D σ H → t D σ H) : PSs X st t' := ⟨fun pins s σ H D I q => h.run pins s σ H D I (w D σ H q)⟩
theorem seqU {ι : Type} {X : Cx} {st : Stmt} {rest : List Stmt} {t : TS} {ur : ι → TS} (h1 : PS X st t) (h2 : ∀ d, PSs X rest (ur d)) : PSs X (st :: rest) (tSeq t fun D σ H => ∃ d, ur d D σ H) :=
  pss_cons h1 ⟨fun pins s σ H D I ⟨d, q⟩ => (h2 d).run pins s σ H D I q⟩

section
variable {R : Type} {G : GX} {L : LX} {ρ : List Sl} {sts rest A Bs : List Stmt} {st : Stmt} {k kA : KS R} {e a c i : Expr} {m : Option D} {nc : Option Bool} {M : D → Option R} {pos pos' : Pos} {x : Str}

/-- the end of a block that goes on -/
theorem b_nil {α : Type} {u : α → List Sl} {a : α} (h : leS (u a) ρ) : BOk G L ρ [] (kP G.K u) (some a) := fun X hX => wkSs pss_nil fun D σ H ⟨B, F0, F, r, e, er, q⟩ => by cases e; exact q σ F H (er.le h)
theorem b_nilJ {α : Type} {u : α → List Sl} {a : α} (h : leS (u a) ρ) : BOk G L ρ [] (kJ G.K u k) (some (.nx a)) := fun X hX => wkSs pss_nil fun D σ H ⟨B, F0, F, r, e, er, q⟩ => by cases e; exact q σ F H (er.le h)
theorem b_nilL {S : Type} {v : S → List Sl} {s : S} (h : leS (v s) ρ) : BOk G L ρ [] (kL G.K v) (some (.go s)) := fun X hX => wkSs pss_nil fun D σ H ⟨B, F0, F, r, e, er, q⟩ => by cases e; exact q.2 σ F H (er.le h)
theorem b_nilF : BOk G L ρ [] (kF G.K) (some .non) := fun X hX => wkSs pss_nil fun D σ H ⟨B, F0, F, r, e, er, q⟩ => by cases e; exact q.2 rfl σ F H er.ret
/-- what a block's end has of a return -/
structure IsRt (K : PySem.W.Frag) (k : KS R) (f : D → R) : Prop where
  rt : ∀ d B F0 E, k (f d) B F0 E → kD K d B F0 E
theorem rtD {K : PySem.W.Frag} : IsRt K (kD K) id := ⟨fun _ _ _ _ h => h⟩
theorem rtF {K : PySem.W.Frag} : IsRt K (kF K) id := ⟨fun _ _ _ _ h => h.1⟩
theorem rtC {S : Type} {K : PySem.W.Frag} {v : S → List Sl} : IsRt K (kC K v) .rt := ⟨fun _ _ _ _ h => h⟩
theorem rtL {S : Type} {K : PySem.W.Frag} {v : S → List Sl} : IsRt K (kL K v) .rt := ⟨fun _ _ _ _ h => h.1⟩
theorem rtJ {α : Type} {K : PySem.W.Frag} {u : α → List Sl} {f : D → R} (h : IsRt K k f) : IsRt K (kJ K u k) (fun d => .ex (f d)) := ⟨fun _ _ _ _ q => h.rt _ _ _ _ q⟩
theorem b_ret {f : D → R} (hk : IsRt G.K k f) (h : EOk G L ρ e m) : BOk G L ρ [.Return (some e) pos] k (m.map f) := fun X hX =>
  wkSs (pss_one (ps_ret (h X hX))) fun D σ H ⟨B, F0, F, r, em, er, q⟩ => by
    obtain ⟨d, ed, rfl⟩ := Option.map_eq_some_iff.mp em
    exact ⟨F, d, ed, er.vr, fun v F' H' x rv => hk.rt d B F0 D q v F' H' (er.ret.go x) rv⟩
/-- at the def's own level -/
theorem b_retD (h : EOk G L ρ e m) : BOk G L ρ [.Return (some e) pos] (kD G.K) m := fun X hX => by have := b_ret (rtD (K := G.K)) h (pos := pos) X hX; rwa [Option.map_id] at this
theorem b_retF (h : EOk G L ρ e m) : BOk G L ρ [.Return (some e) pos] (kF G.K) m := fun X hX => by have := b_ret (rtF (K := G.K)) h (pos := pos) X hX; rwa [Option.map_id] at this
theorem b_cont {S : Type} {v : S → List Sl} {s : S} (h : leS (v s) ρ) : BOk G L ρ [.Continue pos] (kC G.K v) (some (.go s)) := fun X hX => wkSs (pss_one ps_continue) fun D σ H ⟨B, F0, F, r, e, er, q⟩ => by cases e; exact q σ F H (er.le h)
theorem b_break {S : Type} {v : S → List Sl} {s : S} (h : leS (v s) ρ) : BOk G L ρ [.Break pos] (kC G.K v) (some (.br s)) := fun X hX => wkSs (pss_one ps_break) fun D σ H ⟨B, F0, F, r, e, er, q⟩ => by cases e; exact q σ F H (er.le h)

/-- x = e, the value frozen -/
theorem b_set (j : Nat) (h : EOk G L ρ e m) (hr : ∀ d, BOk G L (setS ρ j (.val d)) rest k (M d)) (hj : L.N[j]? = some x := by rfl) (hx : Loc L.sc x := by first | exact Or.inl rfl | exact Or.inr rfl)
    (hf : L.ow x = true ∨ L.sc.names.lookup x = some .local := by first | exact Or.inl rfl | exact Or.inr rfl) (hs : ∀ env, swapsWith e (some (.Name x pos')) pos.line env = pure false := by intro _; rfl) : BOk G L ρ (.Assign [.Name x pos'] e pos :: rest) k (m.bind M) := fun X hX =>
  wkSs (seqU (ps_set (i := j) (by rw [hX.hN]; exact hX.nd) (by rw [hX.hN]; exact hj) (by rw [hX.hsc]; exact hx) (h X hX) (hs _) (by rw [hX.hfn, hX.hsc]; exact hf)) fun d => hr d X hX) fun D σ H ⟨B, F0, F, r, em, er, q⟩ => by
    obtain ⟨d, ed, em⟩ := Option.bind_eq_some_iff.mp em
    exact ⟨F, d, ed, er.vr, fun v F' H' x rv => ⟨d, B, F0, F', r, em, (er.go x).set rv, q⟩⟩
/-- the same where the text asks of the scope whether a comprehension's value is stored ahead -/
theorem b_setS (j : Nat) (h : EOk G L ρ e m) (hr : ∀ d, BOk G L (setS ρ j (.val d)) rest k (M d)) (hs : ∀ env : Env, env.scope = L.sc → swapsWith e (some (.Name x pos')) pos.line env = pure false) (hj : L.N[j]? = some x := by rfl) (hx : Loc L.sc x := by first | exact Or.inl rfl | exact Or.inr rfl)
    (hf : L.ow x = true ∨ L.sc.names.lookup x = some .local := by first | exact Or.inl rfl | exact Or.inr rfl) : BOk G L ρ (.Assign [.Name x pos'] e pos :: rest) k (m.bind M) := fun X hX =>
  wkSs (seqU (ps_set (i := j) (by rw [hX.hN]; exact hX.nd) (by rw [hX.hN]; exact hj) (by rw [hX.hsc]; exact hx) (h X hX) (hs _ hX.hsc) (by rw [hX.hfn, hX.hsc]; exact hf)) fun d => hr d X hX) fun D σ H ⟨B, F0, F, r, em, er, q⟩ => by
    obtain ⟨d, ed, em⟩ := Option.bind_eq_some_iff.mp em
    exact ⟨F, d, ed, er.vr, fun v F' H' x rv => ⟨d, B, F0, F', r, em, (er.go x).set rv, q⟩⟩
theorem own_new {K : PySem.W.Frag} {B F0 F H F' H' : Hp} {σ : L2.St} (er : ER K B F0 ρ σ F H) (x : Ext F H F' H') {p : Addr} {o : HO} {d : D} (n : H p = none) (ho : H' p = some o) (ow : OwnO K F' d o) (hF : F' p = none) (j : Nat) :
    ER K B F0 (setS ρ j (.own d)) (σ.set j (some (.ref p))) F' H' :=
  (er.go x).setOwn (fun _ _ _ => .inr trivial) ho ow hF (er.ret.keep.free n) fun l e h1 h2 => by
    obtain ⟨q, u, a1, a2, _⟩ := er.vr.owns l e h1
    rw [a1] at h2; cases h2
    rw [n] at a2; cases a2
/-- x = e, e makes a new object: it stays one's own -/
theorem b_own (j : Nat) (h : FOk G L ρ e m) (hr : ∀ d, BOk G L (setS ρ j (.own d)) rest k (M d)) (hj : L.N[j]? = some x := by rfl) (hx : Loc L.sc x := by first | exact Or.inl rfl | exact Or.inr rfl)
    (hf : L.ow x = true ∨ L.sc.names.lookup x = some .local := by first | exact Or.inl rfl | exact Or.inr rfl) (hs : ∀ env, swapsWith e (some (.Name x pos')) pos.line env = pure false := by intro _; rfl) : BOk G L ρ (.Assign [.Name x pos'] e pos :: rest) k (m.bind M) := fun X hX =>
  wkSs (seqU (ps_set (i := j) (by rw [hX.hN]; exact hX.nd) (by rw [hX.hN]; exact hj) (by rw [hX.hsc]; exact hx) (h X hX) (hs _) (by rw [hX.hfn, hX.hsc]; exact hf)) fun d => hr d X hX) fun D σ H ⟨B, F0, F, r, em, er, q⟩ => by
    obtain ⟨d, ed, em⟩ := Option.bind_eq_some_iff.mp em
    exact ⟨F, d, ed, er.vr, fun p o F' H' x n ho ow hF => ⟨d, B, F0, F', r, em, own_new er x n ho ow hF j, q⟩⟩
theorem b_ownS (j : Nat) (h : FOk G L ρ e m) (hr : ∀ d, BOk G L (setS ρ j (.own d)) rest k (M d)) (hs : ∀ env : Env, env.scope = L.sc → swapsWith e (some (.Name x pos')) pos.line env = pure false) (hj : L.N[j]? = some x := by rfl) (hx : Loc L.sc x := by first | exact Or.inl rfl | exact Or.inr rfl)
    (hf : L.ow x = true ∨ L.sc.names.lookup x = some .local := by first | exact Or.inl rfl | exact Or.inr rfl) : BOk G L ρ (.Assign [.Name x pos'] e pos :: rest) k (m.bind M) := fun X hX =>
  wkSs (seqU (ps_set (i := j) (by rw [hX.hN]; exact hX.nd) (by rw [hX.hN]; exact hj) (by rw [hX.hsc]; exact hx) (h X hX) (hs _ hX.hsc) (by rw [hX.hfn, hX.hsc]; exact hf)) fun d => hr d X hX) fun D σ H ⟨B, F0, F, r, em, er, q⟩ => by
    obtain ⟨d, ed, em⟩ := Option.bind_eq_some_iff.mp em
    exact ⟨F, d, ed, er.vr, fun p o F' H' x n ho ow hF => ⟨d, B, F0, F', r, em, own_new er x n ho ow hF j, q⟩⟩
/-- x = [..], x a local name: one's own -/
theorem b_lc {tg iter elt : Expr} {ifs : List Expr} {scope : Scope} {own : List (Str × Nat)} {p2 : Pos} {g : TGD} {nt : D → Option Bool} {f : D → Option D} {mi : Option (List D)} (j : Nat) (hi : IOk G L ρ tg iter mi) (h : LcOk G L ρ tg elt ifs scope own g nt f)
    (hr : ∀ d, BOk G L (setS ρ j (.own d)) rest k (M d)) (hj : L.N[j]? = some x := by rfl) (hx : L.sc.names.lookup x = some .local := by rfl) (hk : L.sc.kind = .function := by rfl) (hl : (pos'.line == p2.line) = true := by rfl)
    (ho : (scope.names.any fun (n, k) => n == x && (k == .local || k == .cell)) = false := by decide +kernel) (hs : ∀ env x, foldedSetIterable iter env x = pure x := by intro _ _; rfl) :
    BOk G L ρ (.Assign [.Name x pos'] (.ListComp elt [⟨tg, iter, ifs, 0⟩] scope p2) pos :: rest) k ((LC mi nt f).bind M) := fun X hX =>
  wkSs (seqU (ps_setLc (i := j) (own := own) (g := tG G.K g) (tt := tsD G.K ρ (own.map (·.2)) g nt) (te := teD G.K ρ (own.map (·.2)) g f) hX.calm (by rw [hX.hN]; exact hX.nd) (by rw [hX.hN]; exact hj) (by rw [hX.hsc]; exact hx)
      (sw_true (by rw [hX.hsc]; exact hk) (by rw [hX.hsc]; exact hx) hl ho) (hi X hX) (blkOk_by (by rw [hX.hN, hX.hsc]; exact h.blk))
    (fun s H C cl fp => h.tgt _ (hX.blk s H scope C cl fp))
    (fun s H C cl fp => ⟨fun pins s' σ H' Q I ⟨d, as, eg, q⟩ => (h.ifs d as eg _ (hX.blk s H scope C cl fp)).run pins s' σ H' Q I q⟩)
    (fun s H C cl fp => ⟨fun pins s' σ H' Q I ⟨d, as, eg, q⟩ => (h.elt d as eg _ (hX.blk s H scope C cl fp)).run pins s' σ H' Q I q⟩) (hs _)) fun d => hr d X hX) fun D σ H ⟨B, F0, F, r, em, er, q⟩ => by
    obtain ⟨d, ed, em⟩ := Option.bind_eq_some_iff.mp em
    exact lc_read (Q := fun x H1 => gName j x σ H1 fun σ H => ∃ d, tS G.K (setS ρ j (.own d)) k (M d) D σ H) h.ins h.bad ⟨F, d, ed, er.vr, fun p o F' H' x n ho ow hF => ⟨d, B, F0, F', r, em, own_new er x n ho ow hF j, q⟩⟩
/-- what is one's own is frozen from here on -/
theorem b_frz {M : Option R} (j : Nat) {d : D} (h : nthS ρ j = .own d) (hr : BOk G L (setS ρ j (.val d)) sts k M) : BOk G L ρ sts k M := fun X hX =>
  wkSs (hr X hX) fun D σ H ⟨B, F0, F, r, em, er, q⟩ => by
    obtain ⟨F', er', _⟩ := er.frz h
    exact ⟨B, F0, F', r, em, er', q⟩
theorem b_if (hc : TOk G L ρ c nc) {MA MB : Option R} (hA : BOk G L ρ A kA MA) (hB : BOk G L ρ rest k MB) (hk : ∀ r B F0 D nx, k r B F0 D → kA r B F0 { D with nx := nx }) : BOk G L ρ (.If c A [] pos :: rest) k (nc.bind fun b => if b = true then MA else MB) := fun X hX =>
  wkSs (pss_cons (ps_if (hc X hX) (hA X hX) pss_nil) (hB X hX)) fun D σ H ⟨B, F0, F, r, em, er, q⟩ => by
    obtain ⟨b, eb, em⟩ := Option.bind_eq_some_iff.mp em
    refine ⟨F, b, eb, er.vr, fun F' H' x => ?_⟩
    cases b with
    | true => exact ⟨B, F0, F', r, em, er.go x, hk r B F0 D _ q⟩
    | false => exact ⟨B, F0, F', r, em, er.go x, q⟩
theorem kDD {K : PySem.W.Frag} : ∀ r B F0 D nx, kD K r B F0 D → kD K r B F0 { D with nx := nx } := fun _ _ _ _ _ h => h
theorem kFD {K : PySem.W.Frag} : ∀ r B F0 D nx, kF K r B F0 D → kD K r B F0 { D with nx := nx } := fun _ _ _ _ _ h => h.1
theorem kCC {S : Type} {K : PySem.W.Frag} {v : S → List Sl} : ∀ r B F0 D nx, kC K v r B F0 D → kC K v r B F0 { D with nx := nx } := fun r _ _ _ _ h => by cases r <;> exact h
theorem kLC {S : Type} {K : PySem.W.Frag} {v : S → List Sl} : ∀ r B F0 D nx, kL K v r B F0 D → kC K v r B F0 { D with nx := nx } := fun r _ _ _ _ h => by cases r <;> exact h.1
/-- if c: A else: B, the last of its block, both of the same end -/
theorem b_ife (hc : TOk G L ρ c nc) {MA MB : Option R} (hA : BOk G L ρ A k MA) (hB : BOk G L ρ Bs k MB) : BOk G L ρ [.If c A Bs pos] k (nc.bind fun b => if b = true then MA else MB) := fun X hX =>
  wkSs (pss_one (ps_if (hc X hX) (hA X hX) (hB X hX))) fun D σ H ⟨B, F0, F, r, em, er, q⟩ => by
    obtain ⟨b, eb, em⟩ := Option.bind_eq_some_iff.mp em
    refine ⟨F, b, eb, er.vr, fun F' H' x => ?_⟩
    cases b with
    | true => exact ⟨B, F0, F', r, em, er.go x, q⟩
    | false => exact ⟨B, F0, F', r, em, er.go x, q⟩
/-- if c: A else: B, both go on -/
theorem b_ifp {α : Type} {u : α → List Sl} {M : α → Option R} (hc : TOk G L ρ c nc) {MA MB : Option α} (hA : BOk G L ρ A (kP G.K u) MA) (hB : BOk G L ρ Bs (kP G.K u) MB) (hr : ∀ a, BOk G L (u a) rest k (M a)) :
    BOk G L ρ (.If c A Bs pos :: rest) k ((nc.bind fun b => if b = true then MA else MB).bind M) := fun X hX =>
  wkSs (seqU (ps_if (hc X hX) (hA X hX) (hB X hX)) fun a => hr a X hX) fun D σ H ⟨B, F0, F, r, em, er, q⟩ => by
    obtain ⟨a, ea, em⟩ := Option.bind_eq_some_iff.mp em
    obtain ⟨b, eb, ea⟩ := Option.bind_eq_some_iff.mp ea
    refine ⟨F, b, eb, er.vr, fun F' H' x => ?_⟩
    cases b with
    | true => exact ⟨B, F0, F', a, ea, er.go x, fun σ2 F2 H2 er2 => ⟨a, B, F0, F2, r, em, er2, q⟩⟩
    | false => exact ⟨B, F0, F', a, ea, er.go x, fun σ2 F2 H2 er2 => ⟨a, B, F0, F2, r, em, er2, q⟩⟩
def bindJ {α R : Type} (x : Option (Rs α R)) (M : α → Option R) : Option R := x.bind fun y => match y with
  | .nx a => M a
  | .ex r => some r
/-- if c: A else: B, each goes on or leaves -/
theorem b_ifj {α : Type} {u : α → List Sl} {M : α → Option R} (hc : TOk G L ρ c nc) {MA MB : Option (Rs α R)} (hA : BOk G L ρ A (kJ G.K u kA) MA) (hB : BOk G L ρ Bs (kJ G.K u kA) MB) (hr : ∀ a, BOk G L (u a) rest k (M a))
    (hk : ∀ r B F0 D nx, k r B F0 D → kA r B F0 { D with nx := nx }) : BOk G L ρ (.If c A Bs pos :: rest) k (bindJ (nc.bind fun b => if b = true then MA else MB) M) := fun X hX =>
  wkSs (seqU (ps_if (hc X hX) (hA X hX) (hB X hX)) fun a => hr a X hX) fun D σ H ⟨B, F0, F, r, em, er, q⟩ => by
    obtain ⟨y, ey, em⟩ := Option.bind_eq_some_iff.mp em
    obtain ⟨b, eb, ey⟩ := Option.bind_eq_some_iff.mp ey
    refine ⟨F, b, eb, er.vr, fun F' H' x => ?_⟩
    have key : kJ G.K u kA y B F0 { D with nx := fun σ H => ∃ a, tS G.K (u a) k (M a) D σ H } := by
      cases y with
      | nx a => exact fun σ2 F2 H2 er2 => ⟨a, B, F0, F2, r, em, er2, q⟩
      | ex r' => cases em; exact hk r B F0 D _ q
    cases b with
    | true => exact ⟨B, F0, F', y, ey, er.go x, key⟩
    | false => exact ⟨B, F0, F', y, ey, er.go x, key⟩
end
end DL
set_option autoImplicit false
set_option maxRecDepth 100000
set_option maxHeartbeats 4000000
namespace DL
open PySem PySem.Spec PySem.SeqAt PyProof.Rows L2

section
variable {K : PySem.W.Frag} {B F0 F H F' H' F1 : Hp} {ρ : List Sl} {σ : L2.St}
theorem RetOk.reset (r : RetOk B F0 F H) : RetOk B F F H := ⟨r.keep, r.sub, Same.refl _, fun a o h n => by rw [h] at n; cases n⟩
theorem ER.reset (r : ER K B F0 ρ σ F H) : ER K B F ρ σ F H := ⟨r.vr, r.ret.reset, r.ownB, r.dist⟩
theorem kD_rebase {d : D} {E E' : Ends} (a : RetOk B F0 F1 H) (h : kD K d B F0 E) (e : E'.rt = E.rt) : kD K d B F1 E' := fun v F2 H2 r rv => by
  rw [e]
  exact h v F2 H2 (a.rebase r) rv
end

open Classical in
/-- a base that holds all that is frozen -/
theorem ER.hold {K : PySem.W.Frag} {B F0 F H : Hp} {ρ : List Sl} {σ : L2.St} (er : ER K B F0 ρ σ F H) : ∃ B', ER K B' F ρ σ F H ∧ On F H B' ∧ (∀ p, B' p = none → B p = none) ∧ ∀ F' H', RetOk B' F F' H' → RetOk B F0 F' H' := by
  have hB : ∀ a o, B a = some o → H a = some o := er.ret.keep
  have h1 : ∀ p : Addr, (if F p ≠ none then H p else B p) = none → B p = none := fun p h => by
    cases e : B p with
    | none => rfl
    | some o =>
      split at h
      · rw [hB p o e] at h; cases h
      · rw [e] at h; cases h
  refine ⟨fun a => if F a ≠ none then H a else B a, ⟨er.vr, ⟨fun a o e => ?_, er.ret.sub, Same.refl _, fun a o e n => by rw [e] at n; cases n⟩, fun i d p h1 h2 => ?_, er.dist⟩, fun a o e => ?_, h1, fun F' H' r => ⟨fun a o e => ?_, r.sub, er.ret.ext.trans r.ext, fun a o e n => ?_⟩⟩
  · split at e
    · exact e
    · exact hB a o e
  · obtain ⟨q, u, a1, a2, a3, a4⟩ := er.vr.owns i d h1
    rw [a1] at h2; cases h2
    show (if F _ ≠ none then H _ else B _) = none
    rw [if_neg (by simp [a4])]
    exact er.ownB i d _ h1 a1
  · show (if F a ≠ none then H a else B a) = H a
    rw [if_pos (by rw [e]; simp)]
  · apply r.keep
    show (if F a ≠ none then H a else B a) = some o
    split
    · exact hB a o e
    · exact e
  · cases e2 : F a with
    | none => exact (r.fresh a o e e2).imp (h1 a) id
    | some u =>
      have e3 := r.ext a u e2
      rw [e] at e3
      cases e3
      exact er.ret.fresh a _ e2 n
theorem ER.back {K : PySem.W.Frag} {B B' F0 F : Hp} {ρ : List Sl} {σ : L2.St} {F' H' : Hp} (h1 : ∀ p, B' p = none → B p = none) (h2 : ∀ F' H', RetOk B' F F' H' → RetOk B F0 F' H') (er : ER K B' F ρ σ F' H') : ER K B F0 ρ σ F' H' :=
  ⟨er.vr, h2 _ _ er.ret, fun i d p a b => h1 p (er.ownB i d p a b), er.dist⟩
/-! ### for -/
def forP {S : Type} (f : S → D → Option S) : S → List D → Option S
  | s, [] => some s
  | s, d :: ds => (f s d).bind fun s' => forP f s' ds
def forB {S : Type} (f : S → D → Option (Lp S)) : S → List D → Option S
  | s, [] => some s
  | s, d :: ds => (f s d).bind fun r => match r with
    | .go s' => forB f s' ds
    | .br s' => some s'
    | .rt _ => none
def forR {S : Type} (f : S → D → Option (Lp S)) : S → List D → Option (Rs S D)
  | s, [] => some (.nx s)
  | s, d :: ds => (f s d).bind fun r => match r with
    | .go s' => forR f s' ds
    | .br s' => some (.nx s')
    | .rt d => some (.ex d)
def bindR {α R : Type} (x : Option (Rs α D)) (f : D → R) (M : α → Option R) : Option R := x.bind fun y => match y with
  | .nx a => M a
  | .ex d => some (f d)
section
variable {R S : Type} {G : GX} {L : LX} {ρ : List Sl} {v : S → List Sl} {body rest : List Stmt} {k : KS R} {tg iter c : Expr} {pos : Pos} {g : TGD} {mi : Option (List D)} {s0 : S} {M : S → Option R}
def tbD {R : Type} (K : PySem.W.Frag) (v : S → List Sl) (g : TGD) (kb : KS R) (Bd : S → D → Option R) : TS := fun E σ H => ∃ s d as, g d = some as ∧ tS K (setAll (v s) as) kb (Bd s d) E σ H
theorem XOk.nox {X : Cx} (h : XOk G L X) : XOk G L X.nox := ⟨h.hP, h.hw, h.hK, h.hm, h.hb, h.hN, h.nd, h.hsc, h.hfn, h.calm, h.room⟩
theorem b_for {Bd : S → D → Option S} (hi : IOk G L ρ tg iter mi) (hg : GOk G L tg g) (h0 : leS (v s0) ρ) (bad : ∀ s d, g d = none → Bd s d = none) (hb : ∀ s d as, g d = some as → BOk G L (setAll (v s) as) body (kP G.K v) (Bd s d))
    (hr : ∀ s, BOk G L (v s) rest k (M s)) (hs : ∀ env x, foldedSetIterable iter env x = pure x := by intro _ _; rfl) : BOk G L ρ (.For tg iter body [] pos :: rest) k ((mi.bind fun ds => forP Bd s0 ds).bind M) := fun X hX => PSs.nox <| by
  have hX' := hX.nox
  refine wkSs (seqU (ps_for (tb := tbD G.K v g (kP G.K v) Bd) PassesOwn.never hX'.calm (hi _ hX') (hg _ hX') ⟨fun pins s σ H D I ⟨s1, d, as, eg, q⟩ => (hb s1 d as eg _ hX').run pins s σ H D I q⟩ (hs _)) fun s => hr s _ hX') fun D σ H ⟨B, F0, F, r, em, er, q⟩ => ?_
  obtain ⟨sf, ef, em⟩ := Option.bind_eq_some_iff.mp em
  obtain ⟨ds, ed, ef⟩ := Option.bind_eq_some_iff.mp ef
  refine ⟨F, ds, ed, er.vr, fun J F1 H1 x1 w => ?_⟩
  obtain ⟨B', er1, hon, bk1, bk2⟩ := (er.go x1).hold
  have on : ∀ {F2 H2 : Hp} {s : S} {σ2 : L2.St}, ER G.K B' F1 (v s) σ2 F2 H2 → On F1 H1 H2 := fun {F2 H2 s σ2} e a o h => by
    have h0 := hon a o h
    rcases x1.sub a o h with z | ⟨_, ob, z⟩ <;> rw [z] at h0 <;> rw [e.ret.keep _ _ h0, z]
  refine ⟨fun i m σ H => m = ds.length - i ∧ i ≤ ds.length ∧ ∃ s F2, ER G.K B' F1 (v s) σ F2 H ∧ forP Bd s (ds.drop i) = some sf, ⟨_, rfl, Nat.zero_le _, s0, F1, er1.le h0, ef⟩, ?_⟩
  rintro i m σ2 H2 ⟨rfl, hi, s, F2, er2, ef2⟩
  by_cases hlt : i < ds.length
  · refine .inr ⟨w.goes i F2 H2 hlt er2.ret.ext er2.vr.sub (on er2), fun σ H => i + 1 ≤ ds.length ∧ ∃ s F2, ER G.K B' F1 (v s) σ F2 H ∧ forP Bd s (ds.drop (i + 1)) = some sf, fun σ' H' ⟨a, b⟩ => ⟨_, by omega, rfl, a, b⟩, fun x H3 y => ?_⟩
    have hd : ds[i]? = some ds[i] := List.getElem?_eq_getElem hlt
    rw [List.drop_eq_getElem_cons hlt] at ef2
    generalize ds[i] = dd at hd ef2
    obtain ⟨s', es', ef2⟩ := Option.bind_eq_some_iff.mp ef2
    obtain ⟨F3, x3, r3⟩ := w.yields i F2 H2 x H3 dd er2.ret.ext er2.vr.sub (on er2) hd y
    cases eg : g dd with
    | none => rw [bad s dd eg] at es'; cases es'
    | some as =>
      exact ⟨F3, dd, as, x3.sub, r3, eg, fun ws hw => ⟨s, dd, as, eg, B', F1, F3, s', es', (er2.go x3).setMany as ws hw, fun σ4 F4 H4 er4 => ⟨hlt, s', F4, er4, ef2⟩⟩⟩
  · have : i = ds.length := by omega
    subst this
    rw [List.drop_length] at ef2
    cases ef2
    exact .inl ⟨w.stops F2 H2 er2.ret.ext er2.vr.sub (on er2), _, B, F0, F2, r, em, ER.back bk1 bk2 er2, q⟩
theorem b_forR {Bd : S → D → Option (Lp S)} {f : D → R} (hk : IsRt G.K k f) (hi : IOk G L ρ tg iter mi) (hg : GOk G L tg g) (h0 : leS (v s0) ρ) (bad : ∀ s d, g d = none → Bd s d = none) (hb : ∀ s d as, g d = some as → BOk G L (setAll (v s) as) body (kL G.K v) (Bd s d))
    (hr : ∀ s, BOk G L (v s) rest k (M s)) (hs : ∀ env x, foldedSetIterable iter env x = pure x := by intro _ _; rfl) : BOk G L ρ (.For tg iter body [] pos :: rest) k (bindR (mi.bind fun ds => forR Bd s0 ds) f M) := fun X hX => PSs.nox <| by
  have hX' := hX.nox
  refine wkSs (seqU (ps_for (tb := tbD G.K v g (kL G.K v) Bd) PassesOwn.never hX'.calm (hi _ hX') (hg _ hX') ⟨fun pins s σ H D I ⟨s1, d, as, eg, q⟩ => (hb s1 d as eg _ hX').run pins s σ H D I q⟩ (hs _)) fun s => hr s _ hX') fun D σ H ⟨B, F0, F, r, em, er, q⟩ => ?_
  obtain ⟨sf, ef, em⟩ := Option.bind_eq_some_iff.mp em
  obtain ⟨ds, ed, ef⟩ := Option.bind_eq_some_iff.mp ef
  refine ⟨F, ds, ed, er.vr, fun J F1 H1 x1 w => ?_⟩
  obtain ⟨B', er1, hon, bk1, bk2⟩ := (er.go x1).hold
  have on : ∀ {F2 H2 : Hp} {s : S} {σ2 : L2.St}, ER G.K B' F1 (v s) σ2 F2 H2 → On F1 H1 H2 := fun {F2 H2 s σ2} e a o h => by
    have h0 := hon a o h
    rcases x1.sub a o h with z | ⟨_, ob, z⟩ <;> rw [z] at h0 <;> rw [e.ret.keep _ _ h0, z]
  have nxt : ∀ (s : S) (σ2 : L2.St) (F2 H2 : Hp), sf = .nx s → ER G.K B' F1 (v s) σ2 F2 H2 → ∃ s, tS G.K (v s) k (M s) D σ2 H2 := fun s σ2 F2 H2 e er2 => ⟨s, B, F0, F2, r, by rw [e] at em; exact em, ER.back bk1 bk2 er2, q⟩
  refine ⟨fun i m σ H => m = ds.length - i ∧ i ≤ ds.length ∧ ∃ s F2, ER G.K B' F1 (v s) σ F2 H ∧ forR Bd s (ds.drop i) = some sf, ⟨_, rfl, Nat.zero_le _, s0, F1, er1.le h0, ef⟩, ?_⟩
  rintro i m σ2 H2 ⟨rfl, hi, s, F2, er2, ef2⟩
  by_cases hlt : i < ds.length
  · refine .inr ⟨w.goes i F2 H2 hlt er2.ret.ext er2.vr.sub (on er2), fun σ H => i + 1 ≤ ds.length ∧ ∃ s F2, ER G.K B' F1 (v s) σ F2 H ∧ forR Bd s (ds.drop (i + 1)) = some sf, fun σ' H' ⟨a, b⟩ => ⟨_, by omega, rfl, a, b⟩, fun x H3 y => ?_⟩
    have hd : ds[i]? = some ds[i] := List.getElem?_eq_getElem hlt
    rw [List.drop_eq_getElem_cons hlt] at ef2
    generalize ds[i] = dd at hd ef2
    obtain ⟨s', es', ef2⟩ := Option.bind_eq_some_iff.mp ef2
    obtain ⟨F3, x3, r3⟩ := w.yields i F2 H2 x H3 dd er2.ret.ext er2.vr.sub (on er2) hd y
    cases eg : g dd with
    | none => rw [bad s dd eg] at es'; cases es'
    | some as =>
      refine ⟨F3, dd, as, x3.sub, r3, eg, fun ws hw => ⟨s, dd, as, eg, B', F1, F3, s', es', (er2.go x3).setMany as ws hw, ?_⟩⟩
      cases s' with
      | go s' => exact ⟨fun σ4 F4 H4 er4 => ⟨hlt, s', F4, er4, ef2⟩, fun σ4 F4 H4 er4 => ⟨hlt, s', F4, er4, ef2⟩⟩
      | br s' => cases ef2; exact ⟨fun σ4 F4 H4 er4 => nxt _ _ _ _ rfl er4, trivial⟩
      | rt d => cases ef2; cases em; exact ⟨fun vv F5 H5 r5 rv => (hk.rt _ _ _ _ q) vv F5 H5 (bk2 _ _ r5) rv, trivial⟩
  · have : i = ds.length := by omega
    subst this
    rw [List.drop_length] at ef2
    cases ef2
    exact .inl ⟨w.stops F2 H2 er2.ret.ext er2.vr.sub (on er2), nxt _ _ _ _ rfl er2⟩
theorem forB_R {S : Type} {f : S → D → Option (Lp S)} : ∀ {ds : List D} {s sf : S}, forB f s ds = some sf → forR f s ds = some (.nx sf)
  | [], s, sf, h => by cases h; rfl
  | d :: ds, s, sf, h => by
    obtain ⟨r, er, h⟩ := Option.bind_eq_some_iff.mp h
    unfold forR
    rw [er]
    cases r with
    | go s' => exact forB_R h
    | br s' => cases h; rfl
    | rt d => cases h
theorem b_forB {Bd : S → D → Option (Lp S)} {f : D → R} (hk : IsRt G.K k f) (hi : IOk G L ρ tg iter mi) (hg : GOk G L tg g) (h0 : leS (v s0) ρ) (bad : ∀ s d, g d = none → Bd s d = none) (hb : ∀ s d as, g d = some as → BOk G L (setAll (v s) as) body (kL G.K v) (Bd s d))
    (hr : ∀ s, BOk G L (v s) rest k (M s)) (hs : ∀ env x, foldedSetIterable iter env x = pure x := by intro _ _; rfl) : BOk G L ρ (.For tg iter body [] pos :: rest) k ((mi.bind fun ds => forB Bd s0 ds).bind M) := fun X hX =>
  wkSs (b_forR hk hi hg h0 bad hb hr hs X hX) fun D σ H ⟨B, F0, F, r, em, er, q⟩ => by
    obtain ⟨sf, ef, em⟩ := Option.bind_eq_some_iff.mp em
    obtain ⟨ds, ed, ef⟩ := Option.bind_eq_some_iff.mp ef
    refine ⟨B, F0, F, r, ?_, er, q⟩
    rw [ed]
    show bindR (forR Bd s0 ds) f M = some r
    rw [forB_R ef]
    exact em

/-! ### while -/
def whileF {S : Type} (c : S → Option Bool) (f : S → Option S) : Nat → S → Option S
  | 0, _ => none
  | n + 1, s => (c s).bind fun b => if b = true then (f s).bind (whileF c f n) else some s
theorem whileF_mono {S : Type} {c : S → Option Bool} {f : S → Option S} : ∀ {n m : Nat} {s r : S}, whileF c f n s = some r → n ≤ m → whileF c f m s = some r
  | 0, _, _, _, h, _ => by cases h
  | n + 1, 0, _, _, _, h => by omega
  | n + 1, m + 1, s, r, h, hm => by
    unfold whileF at h ⊢
    obtain ⟨b, eb, h⟩ := Option.bind_eq_some_iff.mp h
    rw [eb]
    show (if b = true then (f s).bind (whileF c f m) else some s) = some r
    cases b with
    | false => exact h
    | true =>
      rw [if_pos rfl] at h ⊢
      obtain ⟨s', e', h⟩ := Option.bind_eq_some_iff.mp h
      rw [e']
      exact whileF_mono h (by omega)
open Classical in
noncomputable def whileD {S : Type} (c : S → Option Bool) (f : S → Option S) (s : S) : Option S := if h : ∃ n, (whileF c f n s).isSome = true then whileF c f (Classical.choose h) s else none
theorem whileD_of {S : Type} {c : S → Option Bool} {f : S → Option S} {n : Nat} {s r : S} (h : whileF c f n s = some r) : whileD c f s = some r := by
  have hx : ∃ n, (whileF c f n s).isSome = true := ⟨n, by rw [h]; rfl⟩
  unfold whileD
  rw [dif_pos hx]
  obtain ⟨r', e'⟩ := Option.isSome_iff_exists.mp (Classical.choose_spec hx)
  rw [e']
  rcases Nat.le_total n (Classical.choose hx) with l | l
  · rw [← e', whileF_mono h l]
  · rw [← h, whileF_mono e' l]
theorem whileD_to {S : Type} {c : S → Option Bool} {f : S → Option S} {s r : S} (h : whileD c f s = some r) : ∃ n, whileF c f n s = some r := by
  unfold whileD at h
  split at h
  · exact ⟨_, h⟩
  · cases h
theorem whileD_eq {S : Type} (c : S → Option Bool) (f : S → Option S) (s : S) : whileD c f s = (c s).bind fun b => if b = true then (f s).bind (whileD c f) else some s := by
  cases h : whileD c f s with
  | some r =>
    obtain ⟨n, hn⟩ := whileD_to h
    cases n with
    | zero => cases hn
    | succ n =>
      unfold whileF at hn
      obtain ⟨b, eb, hn⟩ := Option.bind_eq_some_iff.mp hn
      rw [eb]
      show _ = if b = true then (f s).bind (whileD c f) else some s
      cases b with
      | false => exact hn.symm
      | true =>
        rw [if_pos rfl] at hn ⊢
        obtain ⟨s', e', hn⟩ := Option.bind_eq_some_iff.mp hn
        rw [e']
        exact (whileD_of hn).symm
  | none =>
    cases eb : c s with
    | none => rfl
    | some b =>
      show _ = if b = true then (f s).bind (whileD c f) else some s
      cases b with
      | false =>
        have : whileF c f 1 s = some s := by unfold whileF; rw [eb]; rfl
        rw [whileD_of this] at h; cases h
      | true =>
        rw [if_pos rfl]
        cases es : f s with
        | none => rfl
        | some s' =>
          show none = whileD c f s'
          cases e' : whileD c f s' with
          | none => rfl
          | some r =>
            obtain ⟨n, hn⟩ := whileD_to e'
            have : whileF c f (n + 1) s = some r := by unfold whileF; rw [eb]; show (f s).bind _ = _; rw [es]; exact hn
            rw [whileD_of this] at h; cases h
theorem b_while {ct : S → Option Bool} {Bd : S → Option S} (h0 : leS (v s0) ρ) (hc : ∀ s, TOk G L (v s) c (ct s)) (hb : ∀ s, BOk G L (v s) body (kP G.K v) (Bd s)) (hr : ∀ s, BOk G L (v s) rest k (M s)) :
    BOk G L ρ (.While c body [] pos :: rest) k ((whileD ct Bd s0).bind M) := fun X hX => PSs.nox <| by
  have hX' := hX.nox
  refine wkSs (seqU (ps_while (tc := fun σ H Q => ∃ s, tT G.K (v s) (ct s) σ H Q) (tb := fun E σ H => ∃ s, tS G.K (v s) (kP G.K v) (Bd s) E σ H) PassesOwn.never ⟨fun pins s σ H Q I ⟨s1, q⟩ => (hc s1 _ hX').run pins s σ H Q I q⟩
    ⟨fun pins s σ H D I ⟨s1, q⟩ => (hb s1 _ hX').run pins s σ H D I q⟩) fun s => hr s _ hX') fun D σ H ⟨B, F0, F, r, em, er, q⟩ => ?_
  obtain ⟨sf, ef, em⟩ := Option.bind_eq_some_iff.mp em
  obtain ⟨n, ef⟩ := whileD_to ef
  refine ⟨fun m σ H => ∃ s F2, ER G.K B F (v s) σ F2 H ∧ whileF ct Bd m s = some sf, ⟨n, s0, F, er.reset.le h0, ef⟩, ?_⟩
  rintro m σ2 H2 ⟨s, F2, er2, ef2⟩
  cases m with
  | zero => cases ef2
  | succ m =>
    unfold whileF at ef2
    obtain ⟨b, eb, ef2⟩ := Option.bind_eq_some_iff.mp ef2
    refine ⟨s, F2, b, eb, er2.vr, fun F3 H3 x3 => ?_⟩
    have er3 := er2.go x3
    cases b with
    | true =>
      rw [if_pos rfl] at ef2
      obtain ⟨s', es', ef2⟩ := Option.bind_eq_some_iff.mp ef2
      exact iteT ⟨fun σ H => ∃ s F2, ER G.K B F (v s) σ F2 H ∧ whileF ct Bd m s = some sf, fun σ' H' h => ⟨m, Nat.lt_succ_self m, h⟩, s, B, F, F3, s', es', er3, fun σ4 F4 H4 er4 => ⟨s', F4, er4, ef2⟩⟩
    | false =>
      rw [if_neg Bool.false_ne_true] at ef2
      cases ef2
      exact iteF ⟨_, B, F0, F3, r, em, ER.rebase er.ret er3, q⟩
/-- a while that may break or return -/
def whileRF {S : Type} (c : S → Option Bool) (f : S → Option (Lp S)) : Nat → S → Option (Rs S D)
  | 0, _ => none
  | n + 1, s => (c s).bind fun b => if b = true then (f s).bind fun r => match r with
    | .go s' => whileRF c f n s'
    | .br s' => some (.nx s')
    | .rt d => some (.ex d) else some (.nx s)
theorem whileRF_mono {S : Type} {c : S → Option Bool} {f : S → Option (Lp S)} : ∀ {n m : Nat} {s : S} {r : Rs S D}, whileRF c f n s = some r → n ≤ m → whileRF c f m s = some r
  | 0, _, _, _, h, _ => by cases h
  | n + 1, 0, _, _, _, h => by omega
  | n + 1, m + 1, s, r, h, hm => by
    unfold whileRF at h ⊢
    obtain ⟨b, eb, h⟩ := Option.bind_eq_some_iff.mp h
    rw [eb]
    cases b with
    | false => exact h
    | true =>
      simp only [Option.bind_some, if_true] at h ⊢
      obtain ⟨s', e', h⟩ := Option.bind_eq_some_iff.mp h
      rw [e']
      cases s' with
      | go s' => exact whileRF_mono h (by omega)
      | br s' => exact h
      | rt d => exact h
open Classical in
noncomputable def whileR {S : Type} (c : S → Option Bool) (f : S → Option (Lp S)) (s : S) : Option (Rs S D) := if h : ∃ n, (whileRF c f n s).isSome = true then whileRF c f (Classical.choose h) s else none
theorem whileR_of {S : Type} {c : S → Option Bool} {f : S → Option (Lp S)} {n : Nat} {s : S} {r : Rs S D} (h : whileRF c f n s = some r) : whileR c f s = some r := by
  have hx : ∃ n, (whileRF c f n s).isSome = true := ⟨n, by rw [h]; rfl⟩
  unfold whileR
  rw [dif_pos hx]
  obtain ⟨r', e'⟩ := Option.isSome_iff_exists.mp (Classical.choose_spec hx)
  rw [e']
  rcases Nat.le_total n (Classical.choose hx) with l | l
  · rw [← e', whileRF_mono h l]
  · rw [← h, whileRF_mono e' l]
theorem whileR_to {S : Type} {c : S → Option Bool} {f : S → Option (Lp S)} {s : S} {r : Rs S D} (h : whileR c f s = some r) : ∃ n, whileRF c f n s = some r := by
  unfold whileR at h
  split at h
  · exact ⟨_, h⟩
  · cases h
theorem b_whileR {ct : S → Option Bool} {Bd : S → Option (Lp S)} {f : D → R} (hk : IsRt G.K k f) (h0 : leS (v s0) ρ) (hc : ∀ s, TOk G L (v s) c (ct s)) (hb : ∀ s, BOk G L (v s) body (kL G.K v) (Bd s)) (hr : ∀ s, BOk G L (v s) rest k (M s)) :
    BOk G L ρ (.While c body [] pos :: rest) k (bindR (whileR ct Bd s0) f M) := fun X hX => PSs.nox <| by
  have hX' := hX.nox
  refine wkSs (seqU (ps_while (tc := fun σ H Q => ∃ s, tT G.K (v s) (ct s) σ H Q) (tb := fun E σ H => ∃ s, tS G.K (v s) (kL G.K v) (Bd s) E σ H) PassesOwn.never ⟨fun pins s σ H Q I ⟨s1, q⟩ => (hc s1 _ hX').run pins s σ H Q I q⟩
    ⟨fun pins s σ H D I ⟨s1, q⟩ => (hb s1 _ hX').run pins s σ H D I q⟩) fun s => hr s _ hX') fun D σ H ⟨B, F0, F, r, em, er, q⟩ => ?_
  obtain ⟨sf, ef, em⟩ := Option.bind_eq_some_iff.mp em
  obtain ⟨n, ef⟩ := whileR_to ef
  have nxt : ∀ (s : S) (σ2 : L2.St) (F2 H2 : Hp), sf = .nx s → ER G.K B F (v s) σ2 F2 H2 → ∃ s, tS G.K (v s) k (M s) D σ2 H2 := fun s σ2 F2 H2 e er2 => ⟨s, B, F0, F2, r, by rw [e] at em; exact em, ER.rebase er.ret er2, q⟩
  refine ⟨fun m σ H => ∃ s F2, ER G.K B F (v s) σ F2 H ∧ whileRF ct Bd m s = some sf, ⟨n, s0, F, er.reset.le h0, ef⟩, ?_⟩
  rintro m σ2 H2 ⟨s, F2, er2, ef2⟩
  cases m with
  | zero => cases ef2
  | succ m =>
    unfold whileRF at ef2
    obtain ⟨b, eb, ef2⟩ := Option.bind_eq_some_iff.mp ef2
    refine ⟨s, F2, b, eb, er2.vr, fun F3 H3 x3 => ?_⟩
    have er3 := er2.go x3
    cases b with
    | true =>
      rw [if_pos rfl] at ef2
      obtain ⟨s', es', ef2⟩ := Option.bind_eq_some_iff.mp ef2
      refine iteT ⟨fun σ H => ∃ s F2, ER G.K B F (v s) σ F2 H ∧ whileRF ct Bd m s = some sf, fun σ' H' h => ⟨m, Nat.lt_succ_self m, h⟩, s, B, F, F3, s', es', er3, ?_⟩
      cases s' with
      | go s' => exact ⟨fun σ4 F4 H4 er4 => ⟨s', F4, er4, ef2⟩, fun σ4 F4 H4 er4 => ⟨s', F4, er4, ef2⟩⟩
      | br s' => cases ef2; exact ⟨fun σ4 F4 H4 er4 => nxt _ _ _ _ rfl er4, trivial⟩
      | rt d => cases ef2; cases em; exact ⟨kD_rebase er.ret (hk.rt _ _ _ _ q) rfl, trivial⟩
    | false =>
      rw [if_neg Bool.false_ne_true] at ef2
      cases ef2
      exact iteF (nxt _ _ _ _ rfl er3)
end
end DL
set_option autoImplicit false
set_option maxRecDepth 100000
set_option maxHeartbeats 4000000
namespace DL
open PySem PySem.Spec PySem.SeqAt PyProof.Rows L2

section
variable {R : Type} {G : GX} {L : LX} {ρ : List Sl} {rest : List Stmt} {k : KS R} {e i : Expr} {m mi : Option D} {M : D → Option R} {pos p1 p2 p3 p4 : Pos} {x : Str}

/-! ### what is one's own, changed in place -/
abbrev VisS (L : LX) (x : Str) : Prop := Vis L.sc x
theorem p_own {X : Cx} (hX : XOk G L X) (j : Nat) (hj : L.N[j]? = some x) (hv : Vis L.sc x) (hd : (x == ("__debug__" : Str)) = false) (hcd : (x == ("__classdict__" : Str)) = false) : PE X (.Name x pos) (tVar j) :=
  pe_var (i := j) (by rw [hX.hN]; exact hj) (by rw [hX.hsc]; exact hv) hd hcd
def appD (x d : D) : Option D := match x with
  | .lst xs => if xs.length < 16777216 then some (.lst (xs ++ [d])) else none
  | _ => none
theorem szl {n : Nat} (h : n < 16777216) : n < sizeLine := by rw [sizeLine_eq]; exact h
theorem ER.ext2 {K : PySem.W.Frag} {B F0 F H F' H' : Hp} {σ : L2.St} (r : ER K B F0 ρ σ F H) (e : Ext F H F' H') : ER K B F0 ρ σ F' H' := r.go e
/-- x.append(e) -/
theorem b_app (j : Nat) {y : D} (hy : nthS ρ j = .own y) (he : EOk G L ρ e m) (hr : ∀ d, BOk G L (setS ρ j (.own d)) rest k (M d)) (hj : L.N[j]? = some x := by rfl) (hv : Vis L.sc x := by first | exact Or.inl rfl | exact Or.inr (Or.inl rfl) | exact Or.inr (Or.inr rfl))
    (hd : (x == ("__debug__" : Str)) = false := by decide) (hcd : (x == ("__classdict__" : Str)) = false := by decide)
    (hbase : ∀ env, attributeBase (.Name x p1) "append" env (eval (.Name x p1) env) = eval (.Name x p1) env := by intro _; rfl)
    (hfew : ∀ env, ((backTo p3 (starEach [e] env)).all (fun x => !x.1) && (backToKw p3 (keywordEach [] env)).all (fun x => x.1.isSome) && decide (([e] : List Expr).length + ([] : List Keyword).length + (if ([] : List Keyword).isEmpty then 0 else 1) < 30)) = true := by intro _; rfl)
    (hline : (p2.endLine == p3.line) = true := by rfl) (hs : ∀ env, starEach [e] env = (false, eval e env) :: starEach [] env := by intro _; rfl)
    (hsw : ∀ env, swapsWith (.Call (.Attribute (.Name x p1) "append" p2) [e] [] p3) none p4.line env = pure false := by intro _; rfl) :
    BOk G L ρ (.Expr (.Call (.Attribute (.Name x p1) "append" p2) [e] [] p3) p4 :: rest) k ((m.bind (appD y)).bind M) := fun X hX =>
  wkSs (seqU (ps_expr (pe_bm PySem.F.plainAttrs_list PySem.F.slot_list_append PySem.F.type_list_append mt_append (p_own hX j hj hv hd hcd) (pa_cons (he X hX) pa_nil (hs _)) (hbase _) (hfew _) hline (hs _) rfl) (hsw _)) fun d => hr d X hX) fun D σ H ⟨B, F0, F, r, em, er, q⟩ => by
    obtain ⟨y', ey, em⟩ := Option.bind_eq_some_iff.mp em
    obtain ⟨d, ed, ey⟩ := Option.bind_eq_some_iff.mp ey
    unfold appD at ey
    split at ey
    · split at ey
      · rename_i xs hl
        cases ey
        obtain ⟨p, o, e1, e2, ⟨vs, rfl, rv⟩, hF⟩ := er.vr.owns j _ hy
        refine ⟨.ref p, e1, .inl ⟨rfl, vs, .inl (.inl e2)⟩, F, d, ed, er.vr, fun v F' H' x rd => ?_⟩
        have er' := er.go x
        have e2' := x.heap _ _ e2
        refine ⟨p, vs, v, rfl, rfl, e2', by rw [← rv.len]; exact szl hl, ?_⟩
        exact ⟨_, B, F0, F', r, em, er'.upd hy e1 ⟨_, rfl, (Reps.mono x.froz _ _ rv).append (.cons rd .nil)⟩, q⟩
      · cases ey
    · cases ey
def rExtendR : V → List V → Hp → VK → Prop := fun x vs H Q => ∃ l b xs zs, x = .ref l ∧ vs = [.ref b] ∧ H l = some (.lst xs) ∧ Rd H b (.lst zs) ∧ xs.length + zs.length ≤ sizeLine ∧ Q .non (upd H l (.lst (xs ++ zs)))
theorem mt_extendR {X : Cx} : MtM X "list.extend" rExtendR := by
  intro pins s σ H x vs v us Q I rx rv h
  obtain ⟨l, b, xs, zs, rfl, rfl, hH, hB, hz, q⟩ := h
  cases rx
  obtain ⟨u, rfl, ru⟩ := rv.one
  cases ru
  obtain ⟨z, its, n, r, hl, e⟩ := I.lstM hH
  obtain ⟨z2, its2, n2, r2, e2⟩ := hB.ok I.hok
  have hl2 := r2.length
  have hsz : its.toArray.size + its2.toArray.size ≤ sizeLine := by rw [List.size_toArray, List.size_toArray]; omega
  have hlong : ¬ (!its.toArray.isEmpty && Builtin.List.listTooLong (its.toArray.size + its2.toArray.size)) = true := by
    rw [notLongL hsz, Bool.and_false]
    exact Bool.false_ne_true
  refine call_meets F.slot_list_extend ⟨_, e, rfl⟩ F.entry_list_extend (F.args_list_extend_2 _ _)
    (AutoSeq1.list_extend_list_list_0 l its.toArray n b its2.toArray n2 hlong (by rw [List.size_toArray]; omega) (by omega)) ⟨e, e2, ?_⟩
  refine ⟨.non, _, I.lset (its' := its ++ its2) hH e (by simp) (r.append r2) ?_, rfl, q⟩
  rw [List.length_append]
  omega
def extD (x d : D) : Option D := match x, d with
  | .lst xs, .lst ys => if xs.length + ys.length ≤ 16777216 then some (.lst (xs ++ ys)) else none
  | _, _ => none
/-- x.extend(e), e a list -/
theorem b_ext (j : Nat) {y : D} (hy : nthS ρ j = .own y) (he : EOk G L ρ e m) (hr : ∀ d, BOk G L (setS ρ j (.own d)) rest k (M d)) (hj : L.N[j]? = some x := by rfl) (hv : Vis L.sc x := by first | exact Or.inl rfl | exact Or.inr (Or.inl rfl) | exact Or.inr (Or.inr rfl))
    (hd : (x == ("__debug__" : Str)) = false := by decide) (hcd : (x == ("__classdict__" : Str)) = false := by decide)
    (hbase : ∀ env, attributeBase (.Name x p1) "extend" env (eval (.Name x p1) env) = eval (.Name x p1) env := by intro _; rfl)
    (hfew : ∀ env, ((backTo p3 (starEach [e] env)).all (fun x => !x.1) && (backToKw p3 (keywordEach [] env)).all (fun x => x.1.isSome) && decide (([e] : List Expr).length + ([] : List Keyword).length + (if ([] : List Keyword).isEmpty then 0 else 1) < 30)) = true := by intro _; rfl)
    (hline : (p2.endLine == p3.line) = true := by rfl) (hs : ∀ env, starEach [e] env = (false, eval e env) :: starEach [] env := by intro _; rfl)
    (hsw : ∀ env, swapsWith (.Call (.Attribute (.Name x p1) "extend" p2) [e] [] p3) none p4.line env = pure false := by intro _; rfl) :
    BOk G L ρ (.Expr (.Call (.Attribute (.Name x p1) "extend" p2) [e] [] p3) p4 :: rest) k ((m.bind (extD y)).bind M) := fun X hX =>
  wkSs (seqU (ps_expr (pe_bm PySem.F.plainAttrs_list PySem.F.slot_list_extend PySem.F.type_list_extend mt_extendR (p_own hX j hj hv hd hcd) (pa_cons (he X hX) pa_nil (hs _)) (hbase _) (hfew _) hline (hs _) rfl) (hsw _)) fun d => hr d X hX) fun D σ H ⟨B, F0, F, r, em, er, q⟩ => by
    obtain ⟨y', ey, em⟩ := Option.bind_eq_some_iff.mp em
    obtain ⟨d, ed, ey⟩ := Option.bind_eq_some_iff.mp ey
    unfold extD at ey
    split at ey
    · split at ey
      · rename_i xs ys hl
        cases ey
        obtain ⟨p, o, e1, e2, ⟨vs, rfl, rv⟩, hF⟩ := er.vr.owns j _ hy
        refine ⟨.ref p, e1, .inl ⟨rfl, vs, .inl (.inl e2)⟩, F, _, ed, er.vr, fun v F' H' x rd => ?_⟩
        unfold Rep at rd
        obtain ⟨b, ws, rfl, h1, q1⟩ := rd
        have er' := er.go x
        have e2' := x.heap _ _ e2
        refine ⟨p, b, vs, ws, rfl, rfl, e2', x.sub.rd h1, by rw [← rv.len, ← q1.len]; exact sz hl, ?_⟩
        exact ⟨_, B, F0, F', r, em, er'.upd hy e1 ⟨_, rfl, (Reps.mono x.froz _ _ rv).append q1⟩, q⟩
      · cases ey
    · cases ey
/-- x[i] = e, a list or a dict -/
def setD (x i v : D) : Option D := match x, i with
  | .lst xs, .int i => (ixN xs.length i).map fun j => .lst (xs.set j v)
  | .dI kvs, .int i => if kvs.length < 16777216 then some (.dI (putD kvs i v)) else none
  | .dT kvs, .tup ks => (intsOf ks).bind fun ks => if kvs.length < 16777216 then some (.dT (putD kvs ks v)) else none
  | _, _ => none
theorem set_dict {X : Cx} (hu : X.A.units + 1 < cLine) : PSet X (fun o i v H Q => ∃ a H', o = .ref a ∧ DPut H a i v H' ∧ Q H') := by
  intro pins s σ H o i v ov iv u Q I ro ri rv h
  obtain ⟨a, H', rfl, g, q⟩ := h
  obtain rfl : ov = Value.ref a := ro
  exact d_setItem hu I g ri rv fun s' I' => ⟨H', I', q⟩
theorem PSet.or {X : Cx} {t t' : TSet} (h : PSet X t) (h' : PSet X t') : PSet X (fun o i v H Q => t o i v H Q ∨ t' o i v H Q) := by
  intro pins s σ H o i v ov iv u Q I ro ri rv q
  exact q.elim (h pins s σ H o i v ov iv u Q I ro ri rv) (h' pins s σ H o i v ov iv u Q I ro ri rv)
theorem setD_rule {K : PySem.W.Frag} {B F0 F H : Hp} {σ : L2.St} {j : Nat} {y ik d y' : D} {vi vd : V} {p : Addr} {o : HO} (hy : nthS ρ j = .own y) (er : ER K B F0 ρ σ F H) (ri : Rep K F ik vi) (rd : Rep K F d vd) (h : setD y ik d = some y')
    (e1 : σ[j]? = some (some (.ref p))) {Q : Hp → Prop} (q : ∀ H', ER K B F0 (setS ρ j (.own y')) σ F H' → Q H') :
    rSetL (.ref p) vi vd H Q ∨ ∃ a H', V.ref p = .ref a ∧ DPut H a vi vd H' ∧ Q H' := by
  obtain ⟨p', o, a1, a2, a3, hF⟩ := er.vr.owns j _ hy
  rw [e1] at a1; cases a1
  unfold setD at h
  split at h
  · obtain ⟨l, hl, rfl⟩ := Option.map_eq_some_iff.mp h
    obtain ⟨vs, rfl, rv⟩ := a3
    unfold Rep at ri
    exact .inl ⟨p, vs, _, l, rfl, ri, a2, by rw [← rv.len]; exact hl, q _ (er.upd hy e1 ⟨_, rfl, rv.set rd l⟩)⟩
  · split at h
    · cases h
      obtain ⟨ws, rfl, rv⟩ := a3
      unfold Rep at ri
      exact .inr ⟨p, _, rfl, .inl ⟨ws, Sum.inl _, a2, ri, by rw [← rv.len]; exact szl (by assumption), rfl⟩, q _ (er.upd hy e1 ⟨_, rfl, rv.put rd⟩)⟩
    · cases h
  · obtain ⟨ks, hks, h⟩ := Option.bind_eq_some_iff.mp h
    split at h
    · cases h
      obtain ⟨ws, rfl, rv⟩ := a3
      unfold Rep at ri
      obtain ⟨b, vs, rfl, h1, q1⟩ := ri
      have := intsOf_rep hks q1
      subst this
      exact .inr ⟨p, _, rfl, .inr ⟨ws, _, b, a2, rfl, er.vr.sub.tup h1, by rw [← rv.len]; exact szl (by assumption), rfl⟩, q _ (er.upd hy e1 ⟨_, rfl, rv.put rd⟩)⟩
    · cases h
  · cases h
def setM (m mi : Option D) (y : D) : Option D := m.bind fun d => mi.bind fun i => setD y i d
theorem b_seti (j : Nat) {y : D} (hy : nthS ρ j = .own y) (he : EOk G L ρ e m) (hi : EOk G L ρ i mi) (hr : ∀ d, BOk G L (setS ρ j (.own d)) rest k (M d)) (hj : L.N[j]? = some x := by rfl) (hv : Vis L.sc x := by first | exact Or.inl rfl | exact Or.inr (Or.inl rfl) | exact Or.inr (Or.inr rfl))
    (hd : (x == ("__debug__" : Str)) = false := by decide) (hcd : (x == ("__classdict__" : Str)) = false := by decide)
    (ha : ∀ env v, assign (.Subscript (.Name x p1) i p2) env v = (do
      let ov ← holding [v] (eval (.Name x p1) env)
      let iv ← holding [v, ov] (eval i env)
      standAt p2
      holding [v, ov, iv] (setItem ov iv v)
      release [v, ov, iv] []) := by intro _ _; rfl)
    (hs : ∀ env, swapsWithSole [.Subscript (.Name x p1) i p2] e pos.line env = pure false := by intro _; rfl) (hw : ∀ env, swappedStores [.Subscript (.Name x p1) i p2] e env = pure none := by intro _; rfl) :
    BOk G L ρ (.Assign [.Subscript (.Name x p1) i p2] e pos :: rest) k ((setM m mi y).bind M) := fun X hX =>
  wkSs (seqU (ps_asg (he X hX) (pg_sub (p_own hX j hj hv hd hcd) (hi X hX) (DL.PSet.or set_list (set_dict (by have := hX.room.units; omega))) (ha _)) (hs _) (hw _)) fun d => hr d X hX) fun D σ H ⟨B, F0, F, r, em, er, q⟩ => by
    obtain ⟨y', ey, em⟩ := Option.bind_eq_some_iff.mp em
    obtain ⟨d, ed, ey⟩ := Option.bind_eq_some_iff.mp ey
    obtain ⟨ik, ei, ey⟩ := Option.bind_eq_some_iff.mp ey
    obtain ⟨p, o, e1, e2, _⟩ := er.vr.owns j _ hy
    refine ⟨F, d, ed, er.vr, fun v F1 H1 x1 rd => ⟨.ref p, e1, F1, ik, ei, er.vr.ext x1, fun vi F2 H2 x2 ri => ?_⟩⟩
    exact setD_rule (o := o) hy (er.go (x1.trans x2)) ri (Rep.mono x2.froz _ _ rd) ey e1 fun H' er' => ⟨y', B, F0, F2, r, em, er', q⟩
/-- x[i] op= e -/
theorem get_list {X : Cx} : PGet X (fun o i H Q => ∃ p xs k v, o = .ref p ∧ i = .int k ∧ SqL X.K H p xs ∧ atI xs k = some v ∧ Q v H) := by
  intro pins s σ H o i ov iv Q I ro ri h
  obtain ⟨p, xs, k, z, rfl, rfl, hq, he, q⟩ := h
  cases ro
  obtain ⟨t, rfl⟩ := ri
  obtain ⟨its, r, pl, hz⟩ := I.list hq
  obtain ⟨j, h1, h2, h3, h4, h5⟩ := atI_get he
  obtain ⟨w, ew, rw'⟩ := r.get h2
  have hl := r.length
  have hn := line63
  have fin : EP X pins σ Q w s := ⟨z, H, I, rw', q⟩
  by_cases h0 : 0 ≤ k
  · have hj : k.toNat = j := by
      rw [seqIndex_of h0 h5] at h1
      exact Option.some.inj h1
    exact wpAny_getItem_list pl.isList h0 (by omega) (by rw [hj]; simpa using ew) fin
  · have hj : (k + (its.toArray.size : Int)).toNat = j := by
      rw [seqIndex_neg (by omega) h4] at h1
      rw [List.size_toArray, ← hl]
      exact Option.some.inj h1
    exact wpAny_getItem_list_neg pl.isList (by omega) (by rw [List.size_toArray]; omega) (by omega) (by rw [hj]; simpa using ew) fin
theorem get_dict {X : Cx} (hu : X.A.units + 1 < cLine) : PGet X (fun o i H Q => ∃ a v, o = .ref a ∧ DGet H a i (some v) ∧ Q v H) := by
  intro pins s σ H o i ov iv Q I ro ri h
  obtain ⟨a, v, rfl, g, q⟩ := h
  obtain rfl : ov = Value.ref a := ro
  exact d_getItem hu I g ri fun w' s' I' rw' => ⟨v, H, I', rw', q⟩
theorem PGet.or {X : Cx} {t t' : V → V → Hp → VK → Prop} (h : PGet X t) (h' : PGet X t') : PGet X (fun o i H Q => t o i H Q ∨ t' o i H Q) := by
  intro pins s σ H o i ov iv Q I ro ri q
  exact q.elim (h pins s σ H o i ov iv Q I ro ri) (h' pins s σ H o i ov iv Q I ro ri)
theorem getD_rule {X : Cx} (hX : XOk G L X) {F H : Hp} {y ik d : D} {vi : V} {p : Addr} {o : HO} (ow : OwnO G.K F y o) (ho : H p = some o) (s : Sub F H) (ri : Rep G.K F ik vi) (h : ixD y ik = some d) {Q : VK} (q : ∀ v, Rep G.K F d v → Q v H) :
    (∃ p' xs k v, V.ref p = .ref p' ∧ vi = .int k ∧ SqL X.K H p' xs ∧ atI xs k = some v ∧ Q v H) ∨ ∃ a v, V.ref p = .ref a ∧ DGet H a vi (some v) ∧ Q v H := by
  unfold ixD at h
  split at h
  · obtain ⟨vs, rfl, rv⟩ := ow
    unfold Rep at ri
    obtain ⟨v, hv, r2⟩ := atI_rep rv h
    exact .inl ⟨p, vs, _, v, rfl, ri, .inl (.inl ho), hv, q v r2⟩
  · exact ow.elim
  · exact ow.elim
  · exact ow.elim
  · obtain ⟨ws, rfl, rv⟩ := ow
    unfold Rep at ri
    rcases rv.look with ⟨h2, _⟩ | ⟨d', v, h2, h3, h4⟩
    · rw [h2] at h; cases h
    · rw [h2] at h; cases h
      exact .inr ⟨p, v, rfl, .inl ⟨ws, Sum.inl _, .inl ho, ri, h3.symm⟩, q v h4⟩
  · obtain ⟨ws, rfl, rv⟩ := ow
    unfold Rep at ri
    obtain ⟨p2, ws2, rfl, h2, q2⟩ := ri
    obtain ⟨ks, hks, h⟩ := Option.bind_eq_some_iff.mp h
    have hw := intsOf_rep hks q2
    subst hw
    rcases rv.look with ⟨h3, _⟩ | ⟨d', v, h3, h4, h5⟩
    · rw [h3] at h; cases h
    · rw [h3] at h; cases h
      exact .inr ⟨p, v, rfl, .inr ⟨ws, _, p2, .inl ho, rfl, s.tup h2, h4.symm⟩, q v h5⟩
  · cases h
def augM (f : D → D → Option D) (mi m : Option D) (y : D) : Option D := mi.bind fun i => (ixD y i).bind fun u => m.bind fun d => (f u d).bind fun z => setD y i z
theorem b_augi {op : Operator} {f : D → D → Option D} (ho : OpD G L f (inplaceOp op)) (j : Nat) {y : D} (hy : nthS ρ j = .own y) (hi : EOk G L ρ i mi) (he : EOk G L ρ e m) (hr : ∀ d, BOk G L (setS ρ j (.own d)) rest k (M d)) (hj : L.N[j]? = some x := by rfl) (hv : Vis L.sc x := by first | exact Or.inl rfl | exact Or.inr (Or.inl rfl) | exact Or.inr (Or.inr rfl))
    (hd : (x == ("__debug__" : Str)) = false := by decide) (hcd : (x == ("__classdict__" : Str)) = false := by decide)
    (ha : ∀ ov iv new, augStore i ov iv new = (do holding [new, ov, iv] (setItem ov iv new); release [new, ov, iv] []; pure .next) := by intros; rfl) :
    BOk G L ρ (.AugAssign (.Subscript (.Name x p1) i p2) op e pos :: rest) k ((augM f mi m y).bind M) := fun X hX => by
  obtain ⟨rr, h1, h2⟩ := ho X hX
  refine wkSs (seqU (ps_augS (p_own hX j hj hv hd hcd) (hi X hX) (DL.PGet.or get_list (get_dict (by have := hX.room.units; omega))) (he X hX) h1 (DL.PSet.or set_list (set_dict (by have := hX.room.units; omega))) ha) fun d => hr d X hX) fun D σ H ⟨B, F0, F, r, em, er, q⟩ => ?_
  obtain ⟨y', ey, em⟩ := Option.bind_eq_some_iff.mp em
  obtain ⟨ik, ei, ey⟩ := Option.bind_eq_some_iff.mp ey
  obtain ⟨u, eu, ey⟩ := Option.bind_eq_some_iff.mp ey
  obtain ⟨d, ed, ey⟩ := Option.bind_eq_some_iff.mp ey
  obtain ⟨z, ez, ey⟩ := Option.bind_eq_some_iff.mp ey
  obtain ⟨p, o, e1, e2, ow, _⟩ := er.vr.owns j _ hy
  refine ⟨.ref p, e1, F, ik, ei, er.vr, fun vi F1 H1 x1 ri => ?_⟩
  refine getD_rule (Q := fun x H3 => tE G.K ρ m σ H3 fun y H4 => rr x y H4 fun z H5 => rSetL (.ref p) vi z H5 (fun H6 => ∃ d, tS G.K (setS ρ j (Sl.own d)) k (M d) D σ H6) ∨ ∃ a H', V.ref p = .ref a ∧ DPut H5 a vi z H' ∧ ∃ d, tS G.K (setS ρ j (Sl.own d)) k (M d) D σ H') hX (ow.mono x1.froz) (x1.heap _ _ e2) x1.sub ri eu fun v ru => ⟨F1, d, ed, er.vr.ext x1, fun vd F2 H2 x2 rd => ?_⟩
  refine h2 F2 H2 u d z v vd _ x2.sub (Rep.mono x2.froz _ _ ru) rd ez fun vz F3 H3 x3 rz => ?_
  exact setD_rule (o := o) hy (er.go ((x1.trans x2).trans x3)) (Rep.mono (x2.trans x3).froz _ _ ri) rz ey e1 fun H' er' => ⟨y', B, F0, F3, r, em, er', q⟩
def addI (a b : D) : Option D := match a, b with
  | .int i, .int j => some (.int (i + j))
  | _, _ => none
theorem ipd_addI : OpD G L addI (inplaceOp .Add) := fun X hX => ⟨_, iop_add, fun F H d1 d2 d v1 v2 Q s r1 r2 e q => by
  unfold addI at e
  split at e
  · cases e
    unfold Rep at r1 r2
    exact ⟨_, _, r1, r2, q _ _ _ (.refl s) rep_i⟩
  · cases e⟩
theorem ipd_sub : OpD G L subD (inplaceOp .Sub) := fun X hX => ⟨_, iop_sub, fun F H d1 d2 d v1 v2 Q s r1 r2 e q => by
  unfold subD at e
  split at e
  · cases e
    unfold Rep at r1 r2
    exact ⟨_, _, r1, r2, q _ _ _ (.refl s) rep_i⟩
  · cases e⟩
theorem ipd_mod : OpD G L modD (inplaceOp .Mod) := fun X hX => ⟨_, iop_mod, fun F H d1 d2 d v1 v2 Q s r1 r2 e q => by
  unfold modD at e
  split at e
  · split at e
    · rename_i h
      cases e
      unfold Rep at r1 r2
      exact ⟨_, _, r1, r2, h, q _ _ _ (.refl s) rep_i⟩
    · cases e
  · cases e⟩
/-- x op= e, x a name -/
theorem b_aug {op : Operator} {f : D → D → Option D} (ho : OpD G L f (inplaceOp op)) (j : Nat) {y : D} (hy : nthS ρ j = .val y) (he : EOk G L ρ e m) (hr : ∀ d, BOk G L (setS ρ j (.val d)) rest k (M d)) (hj : L.N[j]? = some x := by rfl) (hx : Loc L.sc x := by first | exact Or.inl rfl | exact Or.inr rfl)
    (hf : L.ow x = true ∨ L.sc.names.lookup x = some .local := by first | exact Or.inl rfl | exact Or.inr rfl) : BOk G L ρ (.AugAssign (.Name x p1) op e pos :: rest) k ((m.bind (f y)).bind M) := fun X hX => by
  obtain ⟨rr, h1, h2⟩ := ho X hX
  refine wkSs (seqU (ps_aug (i := j) (by rw [hX.hN]; exact hX.nd) (by rw [hX.hN]; exact hj) (by rw [hX.hsc]; exact hx) (he X hX) h1 (by rw [hX.hfn, hX.hsc]; exact hf)) fun d => hr d X hX) fun D σ H ⟨B, F0, F, r, em, er, q⟩ => ?_
  obtain ⟨z, ez, em⟩ := Option.bind_eq_some_iff.mp em
  obtain ⟨d, ed, ez⟩ := Option.bind_eq_some_iff.mp ez
  obtain ⟨v, hv, ry⟩ := er.vr.vals j y hy
  refine ⟨v, hv, F, d, ed, er.vr, fun vd F1 H1 x1 rd => ?_⟩
  exact h2 F1 H1 y d z v vd _ x1.sub (Rep.mono x1.froz _ _ ry) rd ez fun vz F2 H2 x2 rz => ⟨z, B, F0, F2, r, em, (er.go (x1.trans x2)).set rz, q⟩
/-- a target of any form takes a value that is frozen -/
theorem b_asg {tg : Expr} {g : TGD} (he : EOk G L ρ e m) (hg : GOk G L tg g) {M : D → Option R} (bad : ∀ d, g d = none → M d = none) (hr : ∀ d as, g d = some as → BOk G L (setAll ρ as) rest k (M d))
    (hs : ∀ env : Env, env.scope = L.sc → swapsWithSole [tg] e pos.line env = pure false := by intro _ _; rfl) (hw : ∀ env : Env, env.scope = L.sc → swappedStores [tg] e env = pure none := by intro _ _; rfl) (h1 : ∀ env, (assignEach [tg] env).map (·.2) = [assign tg env] := by intro _; rfl) :
    BOk G L ρ (.Assign [tg] e pos :: rest) k (m.bind M) := fun X hX =>
  wkSs (seqU (ι := { p : D × List (Nat × D) // g p.1 = some p.2 }) (ps_asg (he X hX) (hg X hX) (hs _ hX.hsc) (hw _ hX.hsc) (h1 _)) fun p => hr p.1.1 p.1.2 p.2 X hX) fun D σ H ⟨B, F0, F, r, em, er, q⟩ => by
    obtain ⟨d, ed, em⟩ := Option.bind_eq_some_iff.mp em
    refine ⟨F, d, ed, er.vr, fun v F1 H1 x1 rv => ?_⟩
    cases eg : g d with
    | none => rw [bad d eg] at em; cases em
    | some as => exact ⟨F1, d, as, x1.sub, rv, eg, fun ws hw => ⟨⟨(d, as), eg⟩, B, F0, F1, r, em, (er.go x1).setMany as ws hw, q⟩⟩
/-- a, b = x, y, two local names -/
theorem b_par {y : Str} {ea eb : Expr} {ma mb : Option D} {M : D → D → Option R} {kt k2 : Nat} {px py pt pt2 : Pos} (ja jb : Nat) (ha : EOk G L ρ ea ma) (hb : EOk G L ρ eb mb) (hr : ∀ u v, BOk G L (setS (setS ρ ja (.val u)) jb (.val v)) rest k (M u v))
    (hw : ∀ env : Env, env.scope = L.sc → swappedStores [.Tuple [.Name x px, .Name y py] kt pt] (.Tuple [ea, eb] k2 pt2) env = pure (some [x, y])) (hij : ja ≠ jb := by decide) (hja : L.N[ja]? = some x := by rfl) (hjb : L.N[jb]? = some y := by rfl)
    (hx : L.sc.names.lookup x = some .local := by rfl) (hy : L.sc.names.lookup y = some .local := by rfl)
    (hs : ∀ env, swapsWithSole [.Tuple [.Name x px, .Name y py] kt pt] (.Tuple [ea, eb] k2 pt2) pos.line env = pure false := by intro _; rfl)
    (hsa : ∀ env, starEach [ea, eb] env = (false, eval ea env) :: starEach [eb] env := by intro _; rfl) (hsb : ∀ env, starEach [eb] env = (false, eval eb env) :: starEach [] env := by intro _; rfl) :
    BOk G L ρ (.Assign [.Tuple [.Name x px, .Name y py] kt pt] (.Tuple [ea, eb] k2 pt2) pos :: rest) k (ma.bind fun u => mb.bind fun v => M u v) := fun X hX =>
  wkSs (seqU (ι := D × D) (ps_par (i := ja) (j := jb) hX.calm (by rw [hX.hN]; exact hX.nd) (by rw [hX.hN]; exact hja) (by rw [hX.hN]; exact hjb) hij (by rw [hX.hsc]; exact hx) (by rw [hX.hsc]; exact hy) (pa_cons (ha X hX) (pa_cons (hb X hX) pa_nil (hsb _)) (hsa _)) (hw _ hX.hsc) (hs _)) fun p => hr p.1 p.2 X hX) fun D σ H ⟨B, F0, F, r, em, er, q⟩ => by
    obtain ⟨u, eu, em⟩ := Option.bind_eq_some_iff.mp em
    obtain ⟨v, ev, em⟩ := Option.bind_eq_some_iff.mp em
    refine ⟨F, u, eu, er.vr, fun vu F1 H1 x1 ru => ⟨F1, v, ev, er.vr.ext x1, fun vv F2 H2 x2 rv => ⟨vu, vv, rfl, (u, v), B, F0, F2, r, em, ?_, q⟩⟩⟩
    exact ((er.go (x1.trans x2)).set (Rep.mono x2.froz _ _ ru)).set rv
/-- the same, both sides new objects that stay one's own -/
theorem b_parOO {y : Str} {ea eb : Expr} {ma mb : Option D} {M : D → D → Option R} {kt k2 : Nat} {px py pt pt2 : Pos} (ja jb : Nat) (ha : FOk G L ρ ea ma) (hb : FOk G L ρ eb mb) (hr : ∀ u v, BOk G L (setS (setS ρ ja (.own u)) jb (.own v)) rest k (M u v))
    (hw : ∀ env : Env, env.scope = L.sc → swappedStores [.Tuple [.Name x px, .Name y py] kt pt] (.Tuple [ea, eb] k2 pt2) env = pure (some [x, y])) (hij : ja ≠ jb := by decide) (hja : L.N[ja]? = some x := by rfl) (hjb : L.N[jb]? = some y := by rfl)
    (hx : L.sc.names.lookup x = some .local := by rfl) (hy : L.sc.names.lookup y = some .local := by rfl)
    (hs : ∀ env, swapsWithSole [.Tuple [.Name x px, .Name y py] kt pt] (.Tuple [ea, eb] k2 pt2) pos.line env = pure false := by intro _; rfl)
    (hsa : ∀ env, starEach [ea, eb] env = (false, eval ea env) :: starEach [eb] env := by intro _; rfl) (hsb : ∀ env, starEach [eb] env = (false, eval eb env) :: starEach [] env := by intro _; rfl) :
    BOk G L ρ (.Assign [.Tuple [.Name x px, .Name y py] kt pt] (.Tuple [ea, eb] k2 pt2) pos :: rest) k (ma.bind fun u => mb.bind fun v => M u v) := fun X hX =>
  wkSs (seqU (ι := D × D) (ps_par (i := ja) (j := jb) hX.calm (by rw [hX.hN]; exact hX.nd) (by rw [hX.hN]; exact hja) (by rw [hX.hN]; exact hjb) hij (by rw [hX.hsc]; exact hx) (by rw [hX.hsc]; exact hy) (pa_cons (ha X hX) (pa_cons (hb X hX) pa_nil (hsb _)) (hsa _)) (hw _ hX.hsc) (hs _)) fun p => hr p.1 p.2 X hX) fun D σ H ⟨B, F0, F, r, em, er, q⟩ => by
    obtain ⟨u, eu, em⟩ := Option.bind_eq_some_iff.mp em
    obtain ⟨v, ev, em⟩ := Option.bind_eq_some_iff.mp em
    refine ⟨F, u, eu, er.vr, fun pu ou F1 H1 x1 n1 ho1 ow1 f1 => ⟨F1, v, ev, er.vr.ext x1, fun pv ov F2 H2 x2 n2 ho2 ow2 f2 => ⟨.ref pu, .ref pv, rfl, (u, v), B, F0, F2, r, em, ?_, q⟩⟩⟩
    have er1 : ER G.K B F0 (setS ρ ja (.own u)) (σ.set ja (some (.ref pu))) F1 H1 := own_new er x1 n1 ho1 ow1 f1 ja
    exact own_new er1 x2 n2 ho2 ow2 f2 jb
/-- pass -/
theorem b_pass {M : Option R} (hr : BOk G L ρ rest k M) : BOk G L ρ (.Pass pos :: rest) k M := fun X hX => wkSs (pss_cons ps_pass (hr X hX)) fun D σ H q => q
end
end DL
set_option autoImplicit false
set_option maxRecDepth 100000
set_option maxHeartbeats 4000000
namespace DL
open PySem PySem.Spec PySem.SeqAt PyProof.Rows L2

/-! ### defs -/
def spD (K : PySem.W.Frag) (n : Nat) (g : List D → Option D) : Sp := fun vs H Q _ => ∃ F ds d, ds.length = n ∧ Sub F H ∧ Reps K F ds vs ∧ g ds = some d ∧ ∀ v F' H', Ext F H F' H' → Rep K F' d v → Q v H'
/-- the def x keeps g, from level k on -/
def FnD (G : GX) (k : Nat) (x : Str) (n : Nat) (g : List D → Option D) : Prop := ∃ (f : Addr) (fd : FuncData) (ps : List Str), ps.length = n ∧ FnOk G.P G.w G.K G.mg G.base CX0 k f fd ps (spD G.K n g) ∧ G.mg x = some (.ref f) ∧ PySem.W.keepIn G.K (.ref f) = true ∧ Binds G.K fd ps []
/-- a def of the text, as it stands behind the top -/
def DefAt (G : GX) (x : Str) (st : Stmt) (ps : List Str) : Prop := ∃ (f : Addr) (fd : FuncData), Fun G.K x x st f fd ∧ G.mg x = some (.ref f) ∧ Binds G.K fd ps []
def rho (N : List Str) (ds : List D) : List Sl := ds.map .val ++ List.replicate (N.length - ds.length) .no
theorem rho_nth {N : List Str} : ∀ {ds : List D} {n i : Nat} {d : D}, nthS (ds.map Sl.val ++ List.replicate n .no) i = .val d → ds[i]? = some d
  | [], n, i, d, h => by
    exfalso
    have : ∀ n i, nthS (List.replicate n Sl.no) i = .no := by
      intro n
      induction n with
      | zero => intro i; rfl
      | succ n ih => intro i; cases i with
        | zero => rfl
        | succ i => exact ih i
    rw [List.map_nil, List.nil_append, this] at h
    cases h
  | e :: ds, n, 0, d, h => by cases h; rfl
  | e :: ds, n, i + 1, d, h => by
    have := rho_nth (N := N) (ds := ds) (n := n) (i := i) h
    simpa using this
theorem rho_own : ∀ {ds : List D} {n i : Nat} {d : D}, nthS (ds.map Sl.val ++ List.replicate n .no) i ≠ .own d
  | [], n, i, d => by
    have : ∀ n i, nthS (List.replicate n Sl.no) i = .no := by
      intro n
      induction n with
      | zero => intro i; rfl
      | succ n ih => intro i; cases i with
        | zero => rfl
        | succ i => exact ih i
    rw [List.map_nil, List.nil_append, this]
    exact fun z => nomatch z
  | e :: ds, n, 0, d => fun z => nomatch z
  | e :: ds, n, i + 1, d => rho_own (ds := ds) (n := n) (i := i)
theorem fn_ok {G : GX} {x : Str} {st : Stmt} {N ps : List Str} {k n : Nat} {g : List D → Option D} (Fd : DefAt G x st ps) (S : FnScope N ps (defScope st)) (hn : ps.length = n)
    (h : ∀ ds, ds.length = n → BOk G ⟨N, k, defScope st, fun _ => true⟩ (rho N ds) (defBody st) (kF G.K) (g ds)) : FnD G (k + 1) x n g := by
  obtain ⟨f, fd, F, hm, hb⟩ := Fd
  have hpl : ps.length ≤ N.length := by have := congrArg List.length S.pre; rw [List.length_take] at this; omega
  refine ⟨f, fd, ps, hn, F.ok S (fun vs H Q E ⟨F, ds, d, hl, s, r, e, q⟩ => by rw [hn, ← hl, r.len]) (fun cdv A outer s H vs Q E hr ⟨F0, ds, d, hl, s0, r, e, q⟩ => ?_), hm, F.kp, hb⟩
  refine ⟨_, h ds hl _ ⟨rfl, rfl, rfl, rfl, rfl, rfl, S.nd, rfl, rfl, rfl, hr⟩, H, F0, F0, d, e, ⟨⟨s0, ?_, fun i d h => ?_, fun i d h => absurd h rho_own⟩, ⟨Same.refl _, s0, Same.refl _, fun a o h n => by rw [h] at n; cases n⟩, fun i d p h => absurd h rho_own, fun i j d e p h => absurd h rho_own⟩, ?_, ?_⟩
  · have := r.len
    simp only [L2.start, rho, List.length_append, List.length_map, List.length_replicate]
    omega
  · have hd : ds[i]? = some d := rho_nth (N := N) h
    obtain ⟨v, hv, rv⟩ := r.get hd
    refine ⟨v, ?_, rv⟩
    have hi : i < vs.length := (List.getElem?_eq_some_iff.mp hv).1
    unfold L2.start
    rw [List.getElem?_append_left (by simpa using hi), List.getElem?_map, hv]; rfl
  · intro v F H' ro rv
    exact q v F H' ⟨ro.keep, ro.ext, ro.sub, ro.fresh⟩ rv
  · intro hd σ F H' ro
    subst hd
    exact q .non F H' ⟨ro.keep, ro.ext, ro.sub, ro.fresh⟩ rep_n
section
variable {G : GX} {L : LX} {ρ : List Sl} {e a b c : Expr} {es : List Expr} {m ma mb mc : Option D} {ms : Option (List D)} {pos p p2 : Pos} {x : Str} {k n : Nat} {g : List D → Option D}
theorem e_call (F : FnD G k x n g) (ha : AOk G L ρ (a :: es) ms) (hn : n = (a :: es).length := by rfl) (hk : k ≤ L.k := by decide) (hg : GlS L x := by rfl) (hdb : (x == ("__debug__" : Str)) = false := by decide)
    (hlen : ∀ ds, ms = some ds → ds.length = (a :: es).length) (he : ∀ env, starEach (a :: es) env = (false, eval a env) :: starEach es env := by intro _; rfl) (hpl : ∀ env, (backTo pos (starEach es env)).any (·.1) = false := by intro _; rfl) : EOk G L ρ (.Call (.Name x p) (a :: es) [] pos) (ms.bind g) := fun X hX => by
  obtain ⟨f, fd, ps, hps, hF, hm, hkp, hb⟩ := F
  have hF' : FnOk X.prog X.w X.K X.mg X.base CX0 k f fd ps (spD G.K n g) := by rw [hX.hP, hX.hw, hX.hK, hX.hm, hX.hb]; exact hF
  refine wkE (pe_call hF' (hX.room.mono hk) (gl_of hX hg) (by rw [hX.hm]; exact hm) (by rw [hX.hK]; exact hkp) (by rw [hX.hK]; exact hb) .nil (pass0 (X := X)) (ha X hX) hdb (he _) (hpl _)) fun σ H Q ⟨F, d, em, vr, q⟩ => ?_
  obtain ⟨ds, ed, em⟩ := Option.bind_eq_some_iff.mp em
  refine ⟨F, ds, ed, vr, fun vs F1 H1 x1 r1 => ?_⟩
  show spD G.K n g (vs ++ []) H1 Q E0
  rw [List.append_nil]
  exact ⟨F1, ds, d, by rw [hn]; exact hlen ds ed, x1.sub, r1, em, fun v F2 H2 x2 r2 => q v F2 H2 (x1.trans x2) r2⟩
theorem EOk.to {e : Expr} {m m' : Option D} (h : EOk G L ρ e m) (q : m = m') : EOk G L ρ e m' := q ▸ h
def ap1 (f : D → Option D) : List D → Option D
  | [a] => f a
  | _ => none
def ap2 (f : D → D → Option D) : List D → Option D
  | [a, b] => f a b
  | _ => none
def ap3 (f : D → D → D → Option D) : List D → Option D
  | [a, b, c] => f a b c
  | _ => none
def ap4 (f : D → D → D → D → Option D) : List D → Option D
  | [a, b, c, d] => f a b c d
  | _ => none
def ap5 (f : D → D → D → D → D → Option D) : List D → Option D
  | [a, b, c, d, e] => f a b c d e
  | _ => none
def ap6 (f : D → D → D → D → D → D → Option D) : List D → Option D
  | [a, b, c, d, e, u] => f a b c d e u
  | _ => none
def ap7 (f : D → D → D → D → D → D → D → Option D) : List D → Option D
  | [a, b, c, d, e, u, v] => f a b c d e u v
  | _ => none
def E1 (f : D → Option D) (ma : Option D) : Option D := ma.bind f
def E3 (f : D → D → D → Option D) (ma mb mc : Option D) : Option D := ma.bind fun x => mb.bind fun y => mc.bind fun z => f x y z
def E4 (f : D → D → D → D → Option D) (m1 m2 m3 m4 : Option D) : Option D := m1.bind fun x => m2.bind fun y => m3.bind fun z => m4.bind fun u => f x y z u
def E5 (f : D → D → D → D → D → Option D) (m1 m2 m3 m4 m5 : Option D) : Option D := m1.bind fun x => m2.bind fun y => m3.bind fun z => m4.bind fun u => m5.bind fun v => f x y z u v
def E6 (f : D → D → D → D → D → D → Option D) (m1 m2 m3 m4 m5 m6 : Option D) : Option D := m1.bind fun x => m2.bind fun y => m3.bind fun z => m4.bind fun u => m5.bind fun v => m6.bind fun w => f x y z u v w
def E7 (f : D → D → D → D → D → D → D → Option D) (m1 m2 m3 m4 m5 m6 m7 : Option D) : Option D := m1.bind fun x => m2.bind fun y => m3.bind fun z => m4.bind fun u => m5.bind fun v => m6.bind fun w => m7.bind fun t => f x y z u v w t
theorem aC_len {m : Option D} {ms : Option (List D)} {n : Nat} (h : ∀ ds, ms = some ds → ds.length = n) : ∀ ds, aC m ms = some ds → ds.length = n + 1 := fun ds e => by
  obtain ⟨x, ex, e⟩ := Option.bind_eq_some_iff.mp e
  obtain ⟨xs, exs, e⟩ := Option.bind_eq_some_iff.mp e
  cases e
  simp [h xs exs]
theorem nil_len : ∀ ds : List D, (some [] : Option (List D)) = some ds → ds.length = 0 := fun ds e => by cases e; rfl
section
variable {e1 e2 e3 e4 e5 e6 e7 : Expr} {m1 m2 m3 m4 m5 m6 m7 : Option D}
theorem e_call1 {f : D → Option D} (F : FnD G k x 1 (ap1 f)) (h1 : EOk G L ρ e1 m1) (hk : k ≤ L.k := by decide) (hg : GlS L x := by rfl) (hdb : (x == ("__debug__" : Str)) = false := by decide)
    (s1 : ∀ env, starEach [e1] env = (false, eval e1 env) :: starEach [] env := by intro _; rfl) : EOk G L ρ (.Call (.Name x p) [e1] [] pos) (E1 f m1) := by
  have := e_call F (p := p) (pos := pos) (a_cons h1 a_nil s1) rfl hk hg hdb (aC_len nil_len) s1 (fun _ => rfl)
  refine this.to ?_
  unfold aC E1
  cases m1 <;> rfl
theorem e_call2 {f : D → D → Option D} (F : FnD G k x 2 (ap2 f)) (h1 : EOk G L ρ e1 m1) (h2 : EOk G L ρ e2 m2) (hk : k ≤ L.k := by decide) (hg : GlS L x := by rfl) (hdb : (x == ("__debug__" : Str)) = false := by decide)
    (s1 : ∀ env, starEach [e1, e2] env = (false, eval e1 env) :: starEach [e2] env := by intro _; rfl) (s2 : ∀ env, starEach [e2] env = (false, eval e2 env) :: starEach [] env := by intro _; rfl)
    (hpl : ∀ env, (backTo pos (starEach [e2] env)).any (·.1) = false := by intro _; rfl) : EOk G L ρ (.Call (.Name x p) [e1, e2] [] pos) (E2 f m1 m2) := by
  have := e_call F (p := p) (pos := pos) (a_cons h1 (a_cons h2 a_nil s2) s1) rfl hk hg hdb (aC_len (aC_len nil_len)) s1 hpl
  refine this.to ?_
  unfold aC E2
  cases m1 <;> cases m2 <;> rfl
theorem e_call3 {f : D → D → D → Option D} (F : FnD G k x 3 (ap3 f)) (h1 : EOk G L ρ e1 m1) (h2 : EOk G L ρ e2 m2) (h3 : EOk G L ρ e3 m3) (hk : k ≤ L.k := by decide) (hg : GlS L x := by rfl) (hdb : (x == ("__debug__" : Str)) = false := by decide)
    (s1 : ∀ env, starEach [e1, e2, e3] env = (false, eval e1 env) :: starEach [e2, e3] env := by intro _; rfl) (s2 : ∀ env, starEach [e2, e3] env = (false, eval e2 env) :: starEach [e3] env := by intro _; rfl) (s3 : ∀ env, starEach [e3] env = (false, eval e3 env) :: starEach [] env := by intro _; rfl)
    (hpl : ∀ env, (backTo pos (starEach [e2, e3] env)).any (·.1) = false := by intro _; rfl) : EOk G L ρ (.Call (.Name x p) [e1, e2, e3] [] pos) (E3 f m1 m2 m3) := by
  have := e_call F (p := p) (pos := pos) (a_cons h1 (a_cons h2 (a_cons h3 a_nil s3) s2) s1) rfl hk hg hdb (aC_len (aC_len (aC_len nil_len))) s1 hpl
  refine this.to ?_
  unfold aC E3
  cases m1 <;> cases m2 <;> cases m3 <;> rfl
theorem e_call4 {f : D → D → D → D → Option D} (F : FnD G k x 4 (ap4 f)) (h1 : EOk G L ρ e1 m1) (h2 : EOk G L ρ e2 m2) (h3 : EOk G L ρ e3 m3) (h4 : EOk G L ρ e4 m4) (hk : k ≤ L.k := by decide) (hg : GlS L x := by rfl) (hdb : (x == ("__debug__" : Str)) = false := by decide)
    (s1 : ∀ env, starEach [e1, e2, e3, e4] env = (false, eval e1 env) :: starEach [e2, e3, e4] env := by intro _; rfl) (s2 : ∀ env, starEach [e2, e3, e4] env = (false, eval e2 env) :: starEach [e3, e4] env := by intro _; rfl) (s3 : ∀ env, starEach [e3, e4] env = (false, eval e3 env) :: starEach [e4] env := by intro _; rfl) (s4 : ∀ env, starEach [e4] env = (false, eval e4 env) :: starEach [] env := by intro _; rfl)
    (hpl : ∀ env, (backTo pos (starEach [e2, e3, e4] env)).any (·.1) = false := by intro _; rfl) : EOk G L ρ (.Call (.Name x p) [e1, e2, e3, e4] [] pos) (E4 f m1 m2 m3 m4) := by
  have := e_call F (p := p) (pos := pos) (a_cons h1 (a_cons h2 (a_cons h3 (a_cons h4 a_nil s4) s3) s2) s1) rfl hk hg hdb (aC_len (aC_len (aC_len (aC_len nil_len)))) s1 hpl
  refine this.to ?_
  unfold aC E4
  cases m1 <;> cases m2 <;> cases m3 <;> cases m4 <;> rfl
theorem e_call5 {f : D → D → D → D → D → Option D} (F : FnD G k x 5 (ap5 f)) (h1 : EOk G L ρ e1 m1) (h2 : EOk G L ρ e2 m2) (h3 : EOk G L ρ e3 m3) (h4 : EOk G L ρ e4 m4) (h5 : EOk G L ρ e5 m5) (hk : k ≤ L.k := by decide) (hg : GlS L x := by rfl) (hdb : (x == ("__debug__" : Str)) = false := by decide)
    (s1 : ∀ env, starEach [e1, e2, e3, e4, e5] env = (false, eval e1 env) :: starEach [e2, e3, e4, e5] env := by intro _; rfl) (s2 : ∀ env, starEach [e2, e3, e4, e5] env = (false, eval e2 env) :: starEach [e3, e4, e5] env := by intro _; rfl) (s3 : ∀ env, starEach [e3, e4, e5] env = (false, eval e3 env) :: starEach [e4, e5] env := by intro _; rfl) (s4 : ∀ env, starEach [e4, e5] env = (false, eval e4 env) :: starEach [e5] env := by intro _; rfl) (s5 : ∀ env, starEach [e5] env = (false, eval e5 env) :: starEach [] env := by intro _; rfl)
    (hpl : ∀ env, (backTo pos (starEach [e2, e3, e4, e5] env)).any (·.1) = false := by intro _; rfl) : EOk G L ρ (.Call (.Name x p) [e1, e2, e3, e4, e5] [] pos) (E5 f m1 m2 m3 m4 m5) := by
  have := e_call F (p := p) (pos := pos) (a_cons h1 (a_cons h2 (a_cons h3 (a_cons h4 (a_cons h5 a_nil s5) s4) s3) s2) s1) rfl hk hg hdb (aC_len (aC_len (aC_len (aC_len (aC_len nil_len))))) s1 hpl
  refine this.to ?_
  unfold aC E5
  cases m1 <;> cases m2 <;> cases m3 <;> cases m4 <;> cases m5 <;> rfl
theorem e_call6 {f : D → D → D → D → D → D → Option D} (F : FnD G k x 6 (ap6 f)) (h1 : EOk G L ρ e1 m1) (h2 : EOk G L ρ e2 m2) (h3 : EOk G L ρ e3 m3) (h4 : EOk G L ρ e4 m4) (h5 : EOk G L ρ e5 m5) (h6 : EOk G L ρ e6 m6) (hk : k ≤ L.k := by decide) (hg : GlS L x := by rfl) (hdb : (x == ("__debug__" : Str)) = false := by decide)
    (s1 : ∀ env, starEach [e1, e2, e3, e4, e5, e6] env = (false, eval e1 env) :: starEach [e2, e3, e4, e5, e6] env := by intro _; rfl) (s2 : ∀ env, starEach [e2, e3, e4, e5, e6] env = (false, eval e2 env) :: starEach [e3, e4, e5, e6] env := by intro _; rfl) (s3 : ∀ env, starEach [e3, e4, e5, e6] env = (false, eval e3 env) :: starEach [e4, e5, e6] env := by intro _; rfl) (s4 : ∀ env, starEach [e4, e5, e6] env = (false, eval e4 env) :: starEach [e5, e6] env := by intro _; rfl) (s5 : ∀ env, starEach [e5, e6] env = (false, eval e5 env) :: starEach [e6] env := by intro _; rfl) (s6 : ∀ env, starEach [e6] env = (false, eval e6 env) :: starEach [] env := by intro _; rfl)
    (hpl : ∀ env, (backTo pos (starEach [e2, e3, e4, e5, e6] env)).any (·.1) = false := by intro _; rfl) : EOk G L ρ (.Call (.Name x p) [e1, e2, e3, e4, e5, e6] [] pos) (E6 f m1 m2 m3 m4 m5 m6) := by
  have := e_call F (p := p) (pos := pos) (a_cons h1 (a_cons h2 (a_cons h3 (a_cons h4 (a_cons h5 (a_cons h6 a_nil s6) s5) s4) s3) s2) s1) rfl hk hg hdb (aC_len (aC_len (aC_len (aC_len (aC_len (aC_len nil_len)))))) s1 hpl
  refine this.to ?_
  unfold aC E6
  cases m1 <;> cases m2 <;> cases m3 <;> cases m4 <;> cases m5 <;> cases m6 <;> rfl
theorem e_call7 {f : D → D → D → D → D → D → D → Option D} (F : FnD G k x 7 (ap7 f)) (h1 : EOk G L ρ e1 m1) (h2 : EOk G L ρ e2 m2) (h3 : EOk G L ρ e3 m3) (h4 : EOk G L ρ e4 m4) (h5 : EOk G L ρ e5 m5) (h6 : EOk G L ρ e6 m6) (h7 : EOk G L ρ e7 m7) (hk : k ≤ L.k := by decide) (hg : GlS L x := by rfl) (hdb : (x == ("__debug__" : Str)) = false := by decide)
    (s1 : ∀ env, starEach [e1, e2, e3, e4, e5, e6, e7] env = (false, eval e1 env) :: starEach [e2, e3, e4, e5, e6, e7] env := by intro _; rfl) (s2 : ∀ env, starEach [e2, e3, e4, e5, e6, e7] env = (false, eval e2 env) :: starEach [e3, e4, e5, e6, e7] env := by intro _; rfl) (s3 : ∀ env, starEach [e3, e4, e5, e6, e7] env = (false, eval e3 env) :: starEach [e4, e5, e6, e7] env := by intro _; rfl) (s4 : ∀ env, starEach [e4, e5, e6, e7] env = (false, eval e4 env) :: starEach [e5, e6, e7] env := by intro _; rfl) (s5 : ∀ env, starEach [e5, e6, e7] env = (false, eval e5 env) :: starEach [e6, e7] env := by intro _; rfl) (s6 : ∀ env, starEach [e6, e7] env = (false, eval e6 env) :: starEach [e7] env := by intro _; rfl) (s7 : ∀ env, starEach [e7] env = (false, eval e7 env) :: starEach [] env := by intro _; rfl)
    (hpl : ∀ env, (backTo pos (starEach [e2, e3, e4, e5, e6, e7] env)).any (·.1) = false := by intro _; rfl) : EOk G L ρ (.Call (.Name x p) [e1, e2, e3, e4, e5, e6, e7] [] pos) (E7 f m1 m2 m3 m4 m5 m6 m7) := by
  have := e_call F (p := p) (pos := pos) (a_cons h1 (a_cons h2 (a_cons h3 (a_cons h4 (a_cons h5 (a_cons h6 (a_cons h7 a_nil s7) s6) s5) s4) s3) s2) s1) rfl hk hg hdb (aC_len (aC_len (aC_len (aC_len (aC_len (aC_len (aC_len nil_len))))))) s1 hpl
  refine this.to ?_
  unfold aC E7
  cases m1 <;> cases m2 <;> cases m3 <;> cases m4 <;> cases m5 <;> cases m6 <;> cases m7 <;> rfl
end

/-! ### in, not in -/
def isTup : D → Bool
  | .tup _ => true
  | _ => false
def memD (x y : D) : Option Bool := match y with
  | .dI kvs => (getI x).map fun i => (lookK kvs i).isSome
  | .dT kvs => (match x with | .tup ks => intsOf ks | _ => none).map fun ks => (lookK kvs ks).isSome
  | .lst ds => if okD x && okD (.lst ds) then some (ds.any fun z => deq z x) else none
  | .tup ds => if okD x && okD (.tup ds) then some (ds.any fun z => deq z x) else none
  | .str z => match x with
    | .str c => some (!(Builtin.Str.occurrences z c 0 z.length 1).isEmpty)
    | _ => none
  | _ => none
def inD (x y : D) : Option D := (memD x y).map .bl
def notInD (x y : D) : Option D := (memD x y).map fun b => .bl (!b)
def rInT (K : PySem.W.Frag) : R2 := fun x y H Q => ∃ d ds, Dp K H x d ∧ Dp K H y (.tuple ds) ∧ SeqAt.shaped d = true ∧ SeqAt.shaped (.tuple ds) = true ∧ Q (.bl (ds.any fun z => PyData.eqv z d)) H
def rNotInT (K : PySem.W.Frag) : R2 := fun x y H Q => ∃ d ds, Dp K H x d ∧ Dp K H y (.tuple ds) ∧ SeqAt.shaped d = true ∧ SeqAt.shaped (.tuple ds) = true ∧ Q (.bl (!ds.any fun z => PyData.eqv z d)) H
theorem op_inT {X : Cx} (hu : X.A.units + 65 < cLine) : OpR X (compareOp .In) (rInT X.K) := by
  intro pins s σ H x y v u Q I rx ry h
  obtain ⟨d, ds, hd, he, sd, se, q⟩ := h
  obtain ⟨as, r1⟩ := Dp.reads I d x v hd rx
  obtain ⟨bs, r2⟩ := Dp.reads I (.tuple ds) y u he ry
  exact SeqAt.in_tuple_reads r2 r1 (SeqAt.canLay_of_shaped se) (SeqAt.canLay_of_shaped sd) (room_in_shaped sd hu) ⟨.bl _, H, I, rfl, q⟩
theorem op_notInT {X : Cx} (hu : X.A.units + 65 < cLine) : OpR X (compareOp .NotIn) (rNotInT X.K) := by
  intro pins s σ H x y v u Q I rx ry h
  obtain ⟨d, ds, hd, he, sd, se, q⟩ := h
  obtain ⟨as, r1⟩ := Dp.reads I d x v hd rx
  obtain ⟨bs, r2⟩ := Dp.reads I (.tuple ds) y u he ry
  exact SeqAt.notIn_tuple_reads r2 r1 (SeqAt.canLay_of_shaped se) (SeqAt.canLay_of_shaped sd) (room_in_shaped sd hu) ⟨.bl _, H, I, rfl, q⟩
def rInDict (neg : Bool) : R2 := fun x y H Q => ∃ a o, y = .ref a ∧ DGet H a x o ∧ Q (.bl (if neg then !o.isSome else o.isSome)) H
theorem op_inDict {X : Cx} (hu : X.A.units + 1 < cLine) : OpR X (compareOp .In) (rInDict false) := by
  intro pins s σ H x y v u Q I rx ry h
  obtain ⟨a, o, rfl, g, q⟩ := h
  obtain rfl : u = Value.ref a := ry
  exact d_in hu I g rx fun s' I' => ⟨.bl o.isSome, H, I', rfl, q⟩
theorem op_notInDict {X : Cx} (hu : X.A.units + 1 < cLine) : OpR X (compareOp .NotIn) (rInDict true) := by
  intro pins s σ H x y v u Q I rx ry h
  obtain ⟨a, o, rfl, g, q⟩ := h
  obtain rfl : u = Value.ref a := ry
  exact d_notIn hu I g rx fun s' I' => ⟨.bl (!o.isSome), H, I', rfl, q⟩
theorem any_py {x : D} : ∀ ds : List D, ((toPys ds).any fun z => PyData.eqv z (toPy x)) = ds.any fun z => deq z x
  | [] => by unfold toPys; rfl
  | d :: ds => by unfold toPys; rw [List.any_cons, List.any_cons, any_py ds]; rfl
theorem dget_of {K : PySem.W.Frag} {F H : Hp} (s : Sub F H) {kvs : List (Int × D)} {vx vy : V} {i : Int} {x : D} (hi : getI x = some i) (rx : Rep K F x vx) (ry : Rep K F (.dI kvs) vy) : ∃ a o, vy = .ref a ∧ DGet H a vx o ∧ o.isSome = (lookK kvs i).isSome := by
  unfold Rep at ry
  obtain ⟨a, ws, rfl, h1, q1⟩ := ry
  have e := rep_int hi rx
  refine ⟨a, valV ws (Sum.inl i), rfl, .inl ⟨ws, Sum.inl i, s.rd h1, e, rfl⟩, ?_⟩
  rcases q1.look (k := i) with ⟨h2, h3⟩ | ⟨d, v, h2, h3, _⟩ <;> rw [h2, h3] <;> rfl
theorem dgetT_of {K : PySem.W.Frag} {F H : Hp} (s : Sub F H) {kvs : List (List Int × D)} {vx vy : V} {ks : List Int} {ds : List D} (hi : intsOf ds = some ks) (rx : Rep K F (.tup ds) vx) (ry : Rep K F (.dT kvs) vy) : ∃ a o, vy = .ref a ∧ DGet H a vx o ∧ o.isSome = (lookK kvs ks).isSome := by
  unfold Rep at ry rx
  obtain ⟨a, ws, rfl, h1, q1⟩ := ry
  obtain ⟨b, vs, rfl, h2, q2⟩ := rx
  have e := intsOf_rep hi q2
  subst e
  refine ⟨a, valV ws (ks.map Sum.inl), rfl, .inr ⟨ws, _, b, s.rd h1, rfl, s.tup h2, rfl⟩, ?_⟩
  rcases q1.look (k := ks) with ⟨h2, h3⟩ | ⟨d, v, h2, h3, _⟩ <;> rw [h2, h3] <;> rfl
theorem u65 {X : Cx} (hX : XOk G L X) : X.A.units + 65 < cLine := by have := hX.room.un; omega
theorem opd_in : OpD G L inD (compareOp .In) := fun X hX => ⟨_, (op_inD (u65 hX)).or ((op_inT (u65 hX)).or ((op_inDict (by have := u65 hX; omega)).or op_in_str)), fun F H d1 d2 d v1 v2 Q s r1 r2 e q => by
  obtain ⟨b, eb, rfl⟩ := Option.map_eq_some_iff.mp e
  have q := q _ _ _ (.refl s) rep_b
  rw [hX.hK]
  unfold memD at eb
  split at eb
  · obtain ⟨i, ei, rfl⟩ := Option.map_eq_some_iff.mp eb
    obtain ⟨a, o, rfl, g, ho⟩ := dget_of s ei r1 r2
    exact .inr (.inr (.inl ⟨a, o, rfl, g, by rw [← ho] at q; exact q⟩))
  · obtain ⟨ks, ei, rfl⟩ := Option.map_eq_some_iff.mp eb
    split at ei
    · obtain ⟨a, o, rfl, g, ho⟩ := dgetT_of s ei r1 r2
      exact .inr (.inr (.inl ⟨a, o, rfl, g, by rw [← ho] at q; exact q⟩))
    · cases ei
  · split at eb
    · rename_i ds h
      cases eb
      rw [Bool.and_eq_true] at h
      obtain ⟨p1, q1⟩ := okD_iff h.1
      obtain ⟨p2, q2⟩ := okD_iff h.2
      have e2 : toPy (.lst ds) = .list (toPys ds) := by rw [toPy]
      exact .inl ⟨toPy d1, toPys ds, dp_of s _ _ p1 r1, e2 ▸ dp_of s _ _ p2 r2, shaped_of p1 q1, e2 ▸ shaped_of p2 q2, by rw [any_py]; exact q⟩
    · cases eb
  · split at eb
    · rename_i ds h
      cases eb
      rw [Bool.and_eq_true] at h
      obtain ⟨p1, q1⟩ := okD_iff h.1
      obtain ⟨p2, q2⟩ := okD_iff h.2
      have e2 : toPy (.tup ds) = .tuple (toPys ds) := by rw [toPy]
      exact .inr (.inl ⟨toPy d1, toPys ds, dp_of s _ _ p1 r1, e2 ▸ dp_of s _ _ p2 r2, shaped_of p1 q1, e2 ▸ shaped_of p2 q2, by rw [any_py]; exact q⟩)
    · cases eb
  · split at eb
    · cases eb
      unfold Rep at r1 r2
      exact .inr (.inr (.inr ⟨_, _, r1, r2, q⟩))
    · cases eb
  · cases eb⟩
theorem opd_notIn : OpD G L notInD (compareOp .NotIn) := fun X hX => ⟨_, (op_notInD (u65 hX)).or ((op_notInT (u65 hX)).or ((op_notInDict (by have := u65 hX; omega)).or op_notin_str)), fun F H d1 d2 d v1 v2 Q s r1 r2 e q => by
  obtain ⟨b, eb, rfl⟩ := Option.map_eq_some_iff.mp e
  have q := q _ _ _ (.refl s) rep_b
  rw [hX.hK]
  unfold memD at eb
  split at eb
  · obtain ⟨i, ei, rfl⟩ := Option.map_eq_some_iff.mp eb
    obtain ⟨a, o, rfl, g, ho⟩ := dget_of s ei r1 r2
    exact .inr (.inr (.inl ⟨a, o, rfl, g, by rw [← ho] at q; exact q⟩))
  · obtain ⟨ks, ei, rfl⟩ := Option.map_eq_some_iff.mp eb
    split at ei
    · obtain ⟨a, o, rfl, g, ho⟩ := dgetT_of s ei r1 r2
      exact .inr (.inr (.inl ⟨a, o, rfl, g, by rw [← ho] at q; exact q⟩))
    · cases ei
  · split at eb
    · rename_i ds h
      cases eb
      rw [Bool.and_eq_true] at h
      obtain ⟨p1, q1⟩ := okD_iff h.1
      obtain ⟨p2, q2⟩ := okD_iff h.2
      have e2 : toPy (.lst ds) = .list (toPys ds) := by rw [toPy]
      exact .inl ⟨toPy d1, toPys ds, dp_of s _ _ p1 r1, e2 ▸ dp_of s _ _ p2 r2, shaped_of p1 q1, e2 ▸ shaped_of p2 q2, by rw [any_py]; exact q⟩
    · cases eb
  · split at eb
    · rename_i ds h
      cases eb
      rw [Bool.and_eq_true] at h
      obtain ⟨p1, q1⟩ := okD_iff h.1
      obtain ⟨p2, q2⟩ := okD_iff h.2
      have e2 : toPy (.tup ds) = .tuple (toPys ds) := by rw [toPy]
      exact .inr (.inl ⟨toPy d1, toPys ds, dp_of s _ _ p1 r1, e2 ▸ dp_of s _ _ p2 r2, shaped_of p1 q1, e2 ▸ shaped_of p2 q2, by rw [any_py]; exact q⟩)
    · cases eb
  · split at eb
    · cases eb
      unfold Rep at r1 r2
      exact .inr (.inr (.inr ⟨_, _, r1, r2, q⟩))
    · cases eb
  · cases eb⟩
end
end DL
set_option autoImplicit false
set_option maxRecDepth 100000
set_option maxHeartbeats 4000000
namespace DL
open PySem PySem.Spec PySem.SeqAt PyProof.Rows L2

/-! ### isinstance(x, T), T a built-in type -/
def isIntD : D → Bool
  | .int _ => true | .bl _ => true | _ => false
def isBlD : D → Bool
  | .bl _ => true | _ => false
def isStrD : D → Bool
  | .str _ => true | _ => false
def isTupD : D → Bool
  | .tup _ => true | _ => false
def isLstD : D → Bool
  | .lst _ => true | .scr _ => true | _ => false
def isiG (f : D → Bool) (d : D) : Option D := match d with
  | .rg _ _ => none
  | .dT _ => none
  | d => some (.bl (f d))
def tyN : D → String
  | .non => "NoneType" | .bl _ => "bool" | .int _ => "int" | .str _ => "str" | .tup _ => "tuple" | .lst _ => "list" | .scr _ => "list" | .dI _ => "dict" | .dT _ => "dict" | .rg _ _ => "range"
def isRg : D → Bool
  | .rg _ _ => true | _ => false
def IsiOk (T : String) (f : D → Bool) : Prop := ∀ d : D, isRg d = false → kitB (tyN d) T = some (f d)
theorem isi_int : IsiOk "int" isIntD := fun d h => by cases d <;> first | (simp only [tyN, isIntD]; decide +kernel) | cases h
theorem isi_bool : IsiOk "bool" isBlD := fun d h => by cases d <;> first | (simp only [tyN, isBlD]; decide +kernel) | cases h
theorem isi_str : IsiOk "str" isStrD := fun d h => by cases d <;> first | (simp only [tyN, isStrD]; decide +kernel) | cases h
theorem isi_tuple : IsiOk "tuple" isTupD := fun d h => by cases d <;> first | (simp only [tyN, isTupD]; decide +kernel) | cases h
theorem isi_list : IsiOk "list" isLstD := fun d h => by cases d <;> first | (simp only [tyN, isLstD]; decide +kernel) | cases h
theorem tyX_of {K : PySem.W.Frag} {F H : Hp} (s : Sub F H) {d : D} {v : V} {f : D → Bool} {r : D} (h : isiG f d = some r) (rv : Rep K F d v) : TyX K H v (.type (tyN d)) := by
  cases d <;> unfold Rep at rv
  case non => subst rv; exact .base .non
  case bl => subst rv; exact .base (.bl _)
  case int => subst rv; exact .base (.int _)
  case str => subst rv; exact .base (.str _)
  case tup => obtain ⟨a, vs, rfl, h1, _⟩ := rv; exact .base (.tup (s.tup h1))
  case lst =>
    obtain ⟨a, vs, rfl, h1, _⟩ := rv
    rcases s.rd h1 with e | ⟨o, e⟩
    · exact .base (.lst e)
    · exact .base (.frz e)
  case dI =>
    obtain ⟨a, vs, rfl, h1, _⟩ := rv
    rcases s.rd h1 with e | ⟨o, e⟩
    · exact .base (.dK e)
    · exact .fDict e
  case dT => cases h
  case rg => cases h
  case scr =>
    obtain ⟨a, rfl, h1⟩ := rv
    rcases h1 with h1 | ⟨o, its, n, e, c, _⟩
    · rcases s.rd h1 with e | ⟨o, e⟩
      · exact .base (.lst e)
      · exact .base (.frz e)
    · exact .kList e c
section
variable {G : GX} {L : LX} {ρ : List Sl} {e a b c : Expr} {es : List Expr} {m ma mb mc : Option D} {ms : Option (List D)} {pos p p1 p2 : Pos} {x : Str}
theorem e_isi {f : D → Bool} {T : Str} {tn : String} (hT : IsiOk tn f) (hv : bootBuiltins T = some (.type tn)) (hm : G.mg "isinstance" = none) (hmT : G.mg T = none) (h : EOk G L ρ e m) (hg : GlS L "isinstance" := by rfl) (hgT : GlS L T := by rfl)
    (hn : T ≠ "__name__" := by decide) (hdb : (T == ("__debug__" : Str)) = false := by decide)
    (he : ∀ env, starEach [e, .Name T p1] env = (false, eval e env) :: starEach [.Name T p1] env := by intro _; rfl) : EOk G L ρ (.Call (.Name "isinstance" p) [e, .Name T p1] [] pos) (m.bind (isiG f)) := fun X hX =>
  wkE (pe_callB (call_isi (X := X)) (gl_of hX hg) (by rw [hX.hm]; exact hm) PyProof.Rows.boot_isinstance (pa_cons (h X hX) (pa_cons (pe_bltn (v := .ty tn) (u := .type tn) (gl_of hX hgT) (by rw [hX.hm]; exact hmT) hv rfl hn hdb) pa_nil) (he _))
    (by decide) (by decide) (he _) rfl) fun σ H Q ⟨F, d, em, vr, q⟩ => by
    obtain ⟨y, ey, em⟩ := Option.bind_eq_some_iff.mp em
    refine ⟨F, y, ey, vr, fun v F' H' x r => ?_⟩
    rw [hX.hK]
    have hq : ∀ r', isiG f y = some r' → r' = .bl (f y) ∧ kitB (tyN y) tn = some (f y) := fun r' h' => by
      have hh := hT y
      cases y <;> first | (cases h'; exact ⟨rfl, hh rfl⟩) | cases h'
    obtain ⟨rfl, hk⟩ := hq _ em
    exact ⟨v, .ty tn, .type (tyN y), .type tn, f y, rfl, .ty tn, tyX_of x.sub em r, kit_ty hk, q _ F' H' x rep_b⟩

/-! ### lists: times an int, one behind the other -/
def rRepR (K : PySem.W.Frag) : R2 := fun x y H Q => ∃ l k xs, x = .ref l ∧ y = .int k ∧ H l = some (.lst xs) ∧ -(2 ^ 63) ≤ k ∧ k < 2 ^ 63 ∧ xs.length * k.toNat ≤ sizeLine ∧ ∀ p, H p = none → Q (.ref p) (upd H p (.lst (List.replicate k.toNat xs).flatten))
def repD (x y : D) : Option D := match x, y with
  | .lst xs, .int k => if -(2 ^ 63) ≤ k ∧ k < 2 ^ 63 ∧ xs.length * k.toNat ≤ 16777216 then some (.lst (List.replicate k.toNat xs).flatten) else none
  | _, _ => none
/-- [a, ..] * n -/
theorem f_rep (ha : AOk G L ρ es ms) (hb : EOk G L ρ b mb) : FOk G L ρ (.BinOp (.List es p1) .Mult b pos) (E2 repD (ms.bind lstD) mb) := fun X hX =>
  wkE (pe_op op_rep (f_lst (pos := p1) ha X hX) (hb X hX)) fun σ H Q ⟨F, d, em, vr, q⟩ => by
    obtain ⟨x, y, ex, ey, em⟩ := E2_some em
    refine ⟨F, x, ex, vr, fun p1 o F1 H1 x1 n1 ho ow hF => ⟨F1, y, ey, vr.ext x1, fun v2 F2 H2 x2 r2 => ?_⟩⟩
    unfold repD at em
    split at em
    · split at em
      · rename_i xs k h
        cases em
        obtain ⟨vs, rfl, rv⟩ := ow
        unfold Rep at r2
        refine ⟨p1, k, vs, rfl, r2, x2.heap _ _ ho, h.1, h.2.1, by rw [← rv.len]; exact sz h.2.2, fun p' hp => ?_⟩
        have xx := x1.trans x2
        exact q p' _ F2 _ (xx.trans (.own xx.sub hp)) (xx.heap.free hp) upd_same ⟨_, rfl, (Reps.mono x2.froz _ _ rv).rep _⟩ (xx.sub.none hp)
      · cases em
    · cases em
def catD (x y : D) : Option D := match x, y with
  | .lst xs, .lst ys => if xs.length + ys.length ≤ 16777216 then some (.lst (xs ++ ys)) else none
  | _, _ => none
/-- xs + ys, a new list -/
theorem f_cat (ha : EOk G L ρ a ma) (hb : EOk G L ρ b mb) : FOk G L ρ (.BinOp a .Add b pos) (E2 catD ma mb) := fun X hX =>
  wkE (pe_op op_catL (ha X hX) (hb X hX)) fun σ H Q ⟨F, d, em, vr, q⟩ => by
    obtain ⟨x, y, ex, ey, em⟩ := E2_some em
    refine ⟨F, x, ex, vr, fun v1 F1 H1 x1 r1 => ⟨F1, y, ey, vr.ext x1, fun v2 F2 H2 x2 r2 => ?_⟩⟩
    unfold catD at em
    split at em
    · split at em
      · rename_i xs ys h
        cases em
        have r1' := Rep.mono x2.froz _ _ r1
        unfold Rep at r1' r2
        obtain ⟨a, vs, rfl, h1, q1⟩ := r1'
        obtain ⟨b, ws, rfl, h2, q2⟩ := r2
        refine ⟨a, b, vs, ws, rfl, rfl, x2.sub.rd h1, x2.sub.rd h2, by rw [← q1.len, ← q2.len]; exact sz h, fun p' hp => ?_⟩
        have xx := x1.trans x2
        exact q p' _ F2 _ (xx.trans (.own xx.sub hp)) (xx.heap.free hp) upd_same ⟨_, rfl, q1.append q2⟩ (xx.sub.none hp)
      · cases em
    · cases em
/-- xs[lo:hi], a new list -/
theorem f_sl {lo hi : Option Expr} {nl nh : Option (Option Int)} (ha : EOk G L ρ a ma) (hl : OOk G L ρ lo nl) (hh : OOk G L ρ hi nh) :
    FOk G L ρ (.Subscript a (.Slice lo hi none p2) pos) (SL (ma.bind fun d => match d with | .lst xs => some (.lst xs) | _ => none) nl nh) := fun X hX =>
  wkE (pe_slice sl_list (ha X hX) (hl X hX) (hh X hX)) fun σ H Q ⟨F, d, em, vr, q⟩ => by
    obtain ⟨y, ey, em⟩ := Option.bind_eq_some_iff.mp em
    obtain ⟨l, el, em⟩ := Option.bind_eq_some_iff.mp em
    obtain ⟨h, eh, em⟩ := Option.bind_eq_some_iff.mp em
    obtain ⟨y', ey', ey⟩ := Option.bind_eq_some_iff.mp ey
    refine ⟨F, y', ey', vr, fun v F1 H1 x1 r1 => ⟨F1, l, el, vr.ext x1, fun F2 H2 x2 => ⟨F2, h, eh, vr.ext (x1.trans x2), fun F3 H3 x3 => ?_⟩⟩⟩
    rw [hX.hK]
    have xx := (x1.trans x2).trans x3
    have r3 := Rep.mono (x2.trans x3).froz _ _ r1
    split at ey
    · cases ey
      cases em
      unfold Rep at r3
      obtain ⟨p, vs, rfl, h1, q1⟩ := r3
      exact ⟨p, vs, rfl, lst_sq h1 xx.sub, fun p' hp => q p' _ F3 _ (xx.trans (.own xx.sub hp)) (xx.heap.free hp) upd_same ⟨_, rfl, q1.cut l h⟩ (xx.sub.none hp)⟩
    · cases ey

/-! ### sorted, min, max of lists of ints -/
def isort (ns : List Int) : List Int := ns.mergeSort fun a b => decide (a ≤ b)
theorem isort_perm (ns : List Int) : (isort ns).Perm ns := List.mergeSort_perm _ _
theorem isort_sorted (ns : List Int) : (isort ns).Pairwise (· ≤ ·) := by
  have := List.pairwise_mergeSort (le := fun a b : Int => decide (a ≤ b)) (fun a b c h1 h2 => by simp at *; omega) (fun a b => by simp; omega) ns
  exact this.imp fun h => by simpa using h
theorem sorted_unique : ∀ {l m : List Int}, l.Perm m → l.Pairwise (· ≤ ·) → m.Pairwise (· ≤ ·) → l = m := fun {l m} p hl hm => List.Perm.eq_of_pairwise (le := (· ≤ ·)) (fun a b _ _ h1 h2 => by omega) hl hm p
end
end DL
namespace DL
open PySem PySem.Spec PySem.SeqAt PyProof.Rows L2
open PySem.W (dataLt alike EachIs AllAlike Sortable dataLe)
/-! ### sorted, of data that are alike -/
theorem each_zip {R : Value → V × D → Prop} : ∀ {xs : List V} {us : List Value} {ds : List D}, Vals xs us → xs.length = ds.length → (∀ x u d, RelV x u → (x, d) ∈ xs.zip ds → R u (x, d)) → EachIs R us (xs.zip ds)
  | [], us, ds, r, _, _ => by
    cases r
    cases ds <;> exact .nil
  | x :: xs, us, ds, r, hl, h => by
    cases r with
    | cons r1 r2 =>
      cases ds with
      | nil => simp at hl
      | cons d ds => exact .cons (h _ _ _ r1 (by simp)) (each_zip r2 (by simpa using hl) fun x u d rx hm => h x u d rx (by simp [hm]))
theorem vals_of_each {R : Value → V × D → Prop} (hR : ∀ u p, R u p → RelV p.1 u) : ∀ {us : List Value} {ps : List (V × D)}, EachIs R us ps → Vals (ps.map (·.1)) us
  | _, _, .nil => .nil
  | _, _, .cons h t => .cons (hR _ _ h) (vals_of_each hR t)
def rSortedDt (K : PySem.W.Frag) (u : Nat) : List V → Hp → VK → Prop := fun vs H Q => ∃ (a : Addr) (xs : List V) (ds : List D), vs = [V.ref a] ∧ SqL K H a xs ∧ xs.length = ds.length ∧ (∀ p ∈ xs.zip ds, Dp K H p.1 (toPy p.2)) ∧ AllAlike (ds.map toPy) ∧ Sortable (ds.map toPy) ∧ (∀ d ∈ ds, u + 2 + (toPy d).depth < cLine) ∧
  ∀ p, H p = none → Q (.ref p) (upd H p (.lst (((xs.zip ds).mergeSort (dataLe false fun p => toPy p.2)).map (·.1))))
theorem zip_snd {xs : List V} {ds : List D} (hl : xs.length = ds.length) : (xs.zip ds).map (fun p => toPy p.2) = ds.map toPy := by
  have : (xs.zip ds).map Prod.snd = ds := List.map_snd_zip (by omega)
  have h2 := congrArg (List.map toPy) this
  rw [List.map_map] at h2
  exact h2
theorem cr_sortedDt {X : Cx} : CallR X (.builtin "sorted") (rSortedDt X.K X.A.units) := by
  intro pins s σ H vs us Q I r h
  obtain ⟨a, xs, ds, rfl, hs, hlen, hd, hal, hso, hu, q⟩ := h
  obtain ⟨its, rv, hl, hz⟩ := I.list hs
  rw [Vals.ref1 r]
  have hzl : (xs.zip ds).length = xs.length := by rw [List.length_zip, hlen, Nat.min_self]
  refine PySem.W.sorted_data (β := V × D) (enc := fun p => toPy p.2) (R := fun u p => RelV p.1 u) hl.isList (each_zip rv hlen fun x u d rx _ => rx) (each_zip rv hlen fun x u d rx hm => Dp.reads I _ _ _ (hd (x, d) hm) rx)
    (by rw [zip_snd hlen]; exact hal) (by rw [zip_snd hlen]; exact hso) (by rw [hzl]; exact hz) (fun p hp => hu _ (List.of_mem_zip hp).2) fun out hol he => ?_
  obtain ⟨ep, he'⟩ := PyProof.Rows.sortedAll_at s.heap its out.toArray
  have hv := vals_of_each (fun _ _ h => h) he
  have hlen2 : (((xs.zip ds).mergeSort (dataLe false fun p => toPy p.2)).map (·.1)).length ≤ sizeLine := by
    rw [List.length_map, List.length_mergeSort, hzl]; exact hz
  exact ⟨.ref _, upd H (s.heap.objs.size + 1) (.lst (((xs.zip ds).mergeSort (dataLe false fun p => toPy p.2)).map (·.1))), I.laid (t' := s.toks) (fun _ _ => PyProof.Rows.sortedAll_old) (Nat.le_succ _) ⟨hlen2, out, ep, hv, he'⟩, rfl, q _ (I.hok.fresh (Nat.le_succ _))⟩
/-- by the order of data -/
def sortT (ds : List D) : List D := ds.mergeSort fun a b => !dlt b a
def allAlike (ds : List D) : Bool := ds.all fun a => ds.all fun b => alike (toPy a) (toPy b)
def sortable (ds : List D) : Bool := (ds.all fun d => match d with | .tup (_ :: _) => true | _ => false) || ds.all fun d => match d with | .tup _ => false | .non => false | .int _ => true | .bl _ => true | .str _ => true | .lst _ => true | _ => false
def sortTD (ds : List D) : Option D := if ds.all okD && allAlike ds && sortable ds then some (.lst (sortT ds)) else none
theorem alike_of {ds : List D} (h : allAlike ds = true) : AllAlike (ds.map toPy) := by
  intro x hx y hy
  obtain ⟨a, ha, rfl⟩ := List.mem_map.mp hx
  obtain ⟨b, hb, rfl⟩ := List.mem_map.mp hy
  exact List.all_eq_true.mp (List.all_eq_true.mp h a ha) b hb
theorem sortable_of {ds : List D} (h : sortable ds = true) : Sortable (ds.map toPy) := by
  unfold sortable at h
  rw [Bool.or_eq_true] at h
  rcases h with h | h
  · refine .inl fun x hx => ?_
    obtain ⟨d, hd, rfl⟩ := List.mem_map.mp hx
    have := List.all_eq_true.mp h d hd
    split at this
    · rename_i e es
      exact ⟨toPy e, toPys es, by simp [toPy, toPys]⟩
    · cases this
  · refine .inr fun x hx => ?_
    obtain ⟨d, hd, rfl⟩ := List.mem_map.mp hx
    have := List.all_eq_true.mp h d hd
    cases d <;> simp at this <;> exact ⟨by simp [toPy], by simp [toPy]⟩
theorem reps_zip {K : PySem.W.Frag} {F : Hp} : ∀ {ps : List (V × D)}, (∀ p ∈ ps, Rep K F p.2 p.1) → Reps K F (ps.map (·.2)) (ps.map (·.1))
  | [], _ => .nil
  | p :: ps, h => .cons (h p List.mem_cons_self) (reps_zip fun q hq => h q (List.mem_cons_of_mem _ hq))
theorem zip_reps {K : PySem.W.Frag} {F : Hp} : ∀ {ds : List D} {vs : List V}, Reps K F ds vs → ∀ p ∈ vs.zip ds, Rep K F p.2 p.1
  | [], vs, r, p, h => by simp at h
  | d :: ds, vs, r, p, h => by
    obtain ⟨v, q, rfl, r1, r2⟩ := r.inv
    simp at h
    rcases h with rfl | h
    · exact r1
    · exact zip_reps r2 p h
def sortLD : List D → Option D
  | [.lst ds] => sortTD ds
  | _ => none
theorem cf_sortedT {G : GX} {L : LX} : CallF G L sortLD (.builtin "sorted") := fun X hX => ⟨_, cr_sortedDt, fun F H ds vs d Q s r e q => by
  rw [hX.hK]
  unfold sortLD at e
  split at e
  · rename_i xs
    unfold sortTD at e
    split at e
    · rename_i hc
      cases e
      rw [Bool.and_eq_true, Bool.and_eq_true] at hc
      obtain ⟨⟨hok, hal⟩, hso⟩ := hc
      obtain ⟨v, rfl, h⟩ := r.one
      unfold Rep at h
      obtain ⟨p, us, rfl, h1, q1⟩ := h
      have hlen : us.length = xs.length := q1.len.symm
      have hz := zip_reps q1
      have hsnd : (us.zip xs).map Prod.snd = xs := List.map_snd_zip (by omega)
      refine ⟨p, us, xs, rfl, lst_sq h1 s, hlen, fun y hy => ?_, alike_of hal, sortable_of hso, fun d hd => ?_, fun p' hp => ?_⟩
      · have := okD_iff (List.all_eq_true.mp hok y.2 (List.of_mem_zip hy).2)
        exact dp_of s _ _ this.1 (hz y hy)
      · have h2 := okD_iff (List.all_eq_true.mp hok d hd)
        have := (plain_py d h2.1).2
        have := hX.room.units
        omega
      · have e1 : ((us.zip xs).mergeSort (dataLe false fun p => toPy p.2)).map (·.2) = sortT xs := by
          refine (List.map_mergeSort (r := dataLe false fun p : V × D => toPy p.2) (s := fun a b => !dlt b a) (f := Prod.snd) (l := us.zip xs) (fun a _ b _ => rfl)).trans ?_
          rw [hsnd]; rfl
        refine q p' _ F _ (.own s hp) hp upd_same ⟨_, rfl, ?_⟩ (s.none hp)
        rw [← e1]
        exact reps_zip fun y hy => hz y (List.mem_mergeSort.mp hy)
    · cases e
  · cases e⟩
end DL
namespace DL
open PySem PySem.Spec PySem.SeqAt PyProof.Rows L2
section
variable {G : GX} {L : LX} {ρ : List Sl} {e a b c : Expr} {es : List Expr} {m ma mb mc : Option D} {ms : Option (List D)} {pos p p1 p2 : Pos} {x : Str}
/-- sorted(d), d a dict with ints as its keys -/
theorem cr_sortedK {X : Cx} (hcalm : X.calm = true) : CallR X (.builtin "sorted") (fun xs H Q => ∃ (a : Addr) (kvs : List (Key × V)) (ks : List Int), xs = [.ref a] ∧ Rd H a (.dK kvs) ∧ kvs.map (·.1) = ks.map Sum.inl ∧
    ∀ (ys : List Int) (p : Addr), ys.Perm ks → ys.Pairwise (· ≤ ·) → H p = none → Q (.ref p) (upd H p (.lst (ys.map V.int)))) := by
  intro pins s σ H xs us Q I r q
  obtain ⟨a, kvs, ks, rfl, hd, hks, q⟩ := q
  rw [Vals.ref1 r]
  obtain ⟨z, lo, vs, rel, dd⟩ := dk_rd I.hok hd
  obtain ⟨ep, hat⟩ := dd.dictAt
  have hkeys : vs.map (·.1) = ks.map Sum.inl := rel.keys.symm.trans hks
  have hl : vs.length = ks.length := by simpa using congrArg List.length hkeys
  have h16 : vs.length ≤ sizeLine := by rw [← rel.length]; exact z
  refine Calls.call_function_entry PyProof.Rows.kind_sorted PyProof.Rows.plain_sorted PyProof.Rows.entry_sorted (PyProof.Rows.args_sorted1 _) ?_
  unfold Builtin.«sorted»
  refine wpAny_bind (m := checkCount "sorted" 1 1 _) (wpAny_pure ?_)
  refine wpAny_bind (PySem.W.kdu_collect (A := X.A.in1) (PySem.W.kdl_dict (knd := mixKind X.prog X.w) (kvs := vs) (ep := ep) lo) (I.ok.hd hcalm) hat h16 fun h' tk acc hk hacc => ?_)
  have hal : acc.toList.length = vs.length := by rw [Array.length_toList, hacc.1]
  have rv : Vals (vs.map fun p => kV p.1) acc.toList := L2.keys_at hal fun j v e => by
    obtain ⟨k, x, e1, e2⟩ := hacc.2 j v (by rw [← Array.getElem?_toList]; exact e)
    exact ⟨k, x, e1, e2⟩
  have ev : (vs.map fun p => kV p.1) = ks.map V.int := by
    have e1 : (vs.map fun p => kV p.1) = (vs.map (·.1)).map kV := by rw [List.map_map]; rfl
    rw [e1, hkeys, List.map_map]; rfl
  rw [ev] at rv
  have hi := rv.ints
  have I1 : Inv X pins σ H { s with heap := h', toks := tk } := I.kept hk
  refine wpAny_bind (wpAny_newList ?_ (by rw [hal]; exact h16))
  have hoL : (h'.push (seqObj "list" acc.toList.toArray 0)).get? h'.objs.size = some (seqObj "list" acc.toList.toArray 0) := Heap.get?_push_size _ rfl
  show wpAny _ _ _ _ _ { s with heap := h'.push (seqObj "list" acc.toList.toArray 0), toks := tk }
  refine wpAny_bind (wpAny_holding (wpAny_call_entry PyProof.Rows.slot_list_sort ⟨_, hoL, rfl⟩ PyProof.Rows.entry_list_sort
    (SrtO.list_sort_ord SrtO.swo_int (s := { s with heap := h'.push (seqObj "list" acc.toList.toArray 0), toks := tk }) hoL (by rw [hal]; exact h16) (fun h2 => SrtO.ints_sortable hi h2) fun out h1 h2 => ⟨_, rfl, ?_⟩) (PyProof.Rows.args_list_sort _)))
  obtain ⟨k1, k2, k3⟩ := SrtO.ints_out hi h1 h2
  obtain ⟨e', he'⟩ := PyProof.Rows.sortedHeap_at (vs := acc.toList) (out := out.toArray) hoL
  have hlen : ((out.map SrtO.iv).map V.int).length ≤ sizeLine := by
    rw [List.length_map, k2.length_eq, ← hl]; exact h16
  refine wpAny_pure ⟨_, rfl, .ref h'.objs.size, upd H h'.objs.size (.lst ((out.map SrtO.iv).map V.int)), I1.laid (t' := tk) (fun b u e => ?_) (Nat.le_refl _)
    (show ObjOk X.prog X.w _ _ _ (.lst ((out.map SrtO.iv).map V.int)) from ⟨hlen, out, e', vals_of_ints k1, he'⟩), rfl, q _ _ k2 k3 (I1.hok.fresh (Nat.le_refl _))⟩
  have hb : b < h'.objs.size := Heap.lt_size e
  rw [PyProof.Rows.sortedHeap_old (Nat.ne_of_lt hb) (by rw [size_push']; exact Nat.lt_succ_of_lt hb)]
  exact Heap.get?_push_of_some _ e
theorem repI_keys {K : PySem.W.Frag} {F : Hp} : ∀ {kvs : List (Int × D)} {ws : List (Key × V)}, RepI K F kvs ws → ws.map (·.1) = (kvs.map (·.1)).map Sum.inl
  | [], ws, r => by unfold RepI at r; subst r; rfl
  | (j, d) :: kvs, ws, r => by
    unfold RepI at r
    obtain ⟨v, q, rfl, r1, r2⟩ := r
    simp only [List.map_cons, repI_keys r2]
def sortedD : List D → Option D
  | [.lst xs] => match intsOf xs with
    | some ns => some (.lst ((isort ns).map .int))
    | none => sortTD xs
  | [.dI kvs] => some (.lst ((isort (kvs.map (·.1))).map .int))
  | _ => none
theorem cf_sorted : CallF G L sortedD (.builtin "sorted") := fun X hX => by
  obtain ⟨r2, c2, h2⟩ := cf_sortedT (G := G) (L := L) X hX
  refine ⟨_, cr_sortedI.or (c2.or (cr_sortedK hX.calm)), fun F H ds vs d Q s r e q => ?_⟩
  unfold sortedD at e
  split at e
  · rename_i xs
    cases hn : intsOf xs with
    | none =>
      rw [hn] at e
      exact .inr (.inl (h2 F H _ vs d Q s r e q))
    | some ns =>
      rw [hn] at e
      cases e
      left
      rw [hX.hK]
      obtain ⟨v, rfl, h⟩ := r.one
      unfold Rep at h
      obtain ⟨p, vs, rfl, h1, q1⟩ := h
      rw [intsOf_eq hn] at q1
      have := q1.ints
      subst this
      refine ⟨p, ns, rfl, lst_sq h1 s, fun ns' p' hp hs hn' => ?_⟩
      have : ns' = isort ns := sorted_unique (hp.trans (isort_perm ns).symm) hs (isort_sorted ns)
      subst this
      exact q p' _ _ _ (.own s hn') hn' upd_same ⟨_, rfl, Reps.ofInts _⟩ (s.none hn')
  · rename_i kvs
    cases e
    refine .inr (.inr ?_)
    obtain ⟨v, rfl, h⟩ := r.one
    unfold Rep at h
    obtain ⟨p, ws, rfl, h1, q1⟩ := h
    refine ⟨p, ws, kvs.map (·.1), rfl, s.rd h1, repI_keys q1, fun ys p' hp hs hn' => ?_⟩
    have : ys = isort (kvs.map (·.1)) := sorted_unique (hp.trans (isort_perm _).symm) hs (isort_sorted _)
    subst this
    exact q p' _ _ _ (.own s hn') hn' upd_same ⟨_, rfl, Reps.ofInts _⟩ (s.none hn')
  · cases e
def lmax : Int → List Int → Int
  | m, [] => m
  | m, n :: ns => lmax (if n > m then n else m) ns
def lmin : Int → List Int → Int
  | m, [] => m
  | m, n :: ns => lmin (if n < m then n else m) ns
theorem lmax_spec : ∀ (ns : List Int) (m : Int), lmax m ns ∈ m :: ns ∧ ∀ y ∈ m :: ns, y ≤ lmax m ns
  | [], m => by simp [lmax]
  | n :: ns, m => by
    obtain ⟨h1, h2⟩ := lmax_spec ns (if n > m then n else m)
    unfold lmax
    constructor
    · rcases List.mem_cons.mp h1 with e | e
      · rw [e]; split <;> simp
      · simp [e]
    · intro y hy
      have h3 := h2 _ List.mem_cons_self
      simp only [List.mem_cons] at hy
      rcases hy with rfl | rfl | hy
      · split at h3 <;> split <;> omega
      · split at h3 <;> split <;> omega
      · exact h2 y (List.mem_cons_of_mem _ hy)
theorem lmin_spec : ∀ (ns : List Int) (m : Int), lmin m ns ∈ m :: ns ∧ ∀ y ∈ m :: ns, lmin m ns ≤ y
  | [], m => by simp [lmin]
  | n :: ns, m => by
    obtain ⟨h1, h2⟩ := lmin_spec ns (if n < m then n else m)
    unfold lmin
    constructor
    · rcases List.mem_cons.mp h1 with e | e
      · rw [e]; split <;> simp
      · simp [e]
    · intro y hy
      have h3 := h2 _ List.mem_cons_self
      simp only [List.mem_cons] at hy
      rcases hy with rfl | rfl | hy
      · split at h3 <;> split <;> omega
      · split at h3 <;> split <;> omega
      · exact h2 y (List.mem_cons_of_mem _ hy)
def maxLD : List D → Option D
  | [.lst xs] => (intsOf xs).bind fun ns => match ns with
    | [] => none
    | n :: ns => some (.int (lmax n ns))
  | _ => none
def minLD : List D → Option D
  | [.lst xs] => (intsOf xs).bind fun ns => match ns with
    | [] => none
    | n :: ns => some (.int (lmin n ns))
  | _ => none
theorem cd_maxL : CallD G L maxLD (.builtin "max") := fun X hX => ⟨_, cr_max hX.calm, fun F H ds vs d Q s r e q => by
  rw [hX.hK]
  unfold maxLD at e
  split at e
  · obtain ⟨ns, hn, e⟩ := Option.bind_eq_some_iff.mp e
    cases ns with
    | nil => cases e
    | cons n ns =>
      cases e
      obtain ⟨v, rfl, h⟩ := r.one
      unfold Rep at h
      obtain ⟨p, vs, rfl, h1, q1⟩ := h
      rw [intsOf_eq hn] at q1
      have := q1.ints
      subst this
      refine ⟨p, _, rfl, lst_sq h1 s, by simp, fun m hm hle => ?_⟩
      obtain ⟨k1, k2⟩ := lmax_spec ns n
      have : m = lmax n ns := by have := k2 m hm; have := hle _ k1; omega
      subst this
      exact q _ _ _ (.refl s) rep_i
  · cases e⟩
theorem cd_minL : CallD G L minLD (.builtin "min") := fun X hX => ⟨_, cr_min hX.calm, fun F H ds vs d Q s r e q => by
  rw [hX.hK]
  unfold minLD at e
  split at e
  · obtain ⟨ns, hn, e⟩ := Option.bind_eq_some_iff.mp e
    cases ns with
    | nil => cases e
    | cons n ns =>
      cases e
      obtain ⟨v, rfl, h⟩ := r.one
      unfold Rep at h
      obtain ⟨p, vs, rfl, h1, q1⟩ := h
      rw [intsOf_eq hn] at q1
      have := q1.ints
      subst this
      refine ⟨p, _, rfl, lst_sq h1 s, by simp, fun m hm hle => ?_⟩
      obtain ⟨k1, k2⟩ := lmin_spec ns n
      have : m = lmin n ns := by have := k2 m hm; have := hle _ k1; omega
      subst this
      exact q _ _ _ (.refl s) rep_i
  · cases e⟩
end
end DL
set_option autoImplicit false
set_option maxRecDepth 100000
set_option maxHeartbeats 4000000
namespace DL
open PySem PySem.Spec PySem.SeqAt PyProof.Rows L2
def iteO {R : Type} (nc : Option Bool) (A B : Option R) : Option R := nc.bind fun b => if b = true then A else B
section
variable {R S : Type} {G : GX} {L : LX} {ρ : List Sl} {v : S → List Sl} {body rest A Bs : List Stmt} {k kA : KS R} {tg iter c : Expr} {pos : Pos} {g : TGD} {mi : Option (List D)} {s0 : S} {M : S → Option R} {nc : Option Bool}
theorem c_if (hc : TOk G L ρ c nc) {MA MB : Option R} (hA : BOk G L ρ A kA MA) (hB : BOk G L ρ rest k MB) (hk : ∀ r B F0 D nx, k r B F0 D → kA r B F0 { D with nx := nx }) : BOk G L ρ (.If c A [] pos :: rest) k (iteO nc MA MB) := b_if hc hA hB hk
theorem c_ife (hc : TOk G L ρ c nc) {MA MB : Option R} (hA : BOk G L ρ A k MA) (hB : BOk G L ρ Bs k MB) : BOk G L ρ [.If c A Bs pos] k (iteO nc MA MB) := b_ife hc hA hB
theorem c_ifp {α : Type} {u : α → List Sl} {M : α → Option R} (hc : TOk G L ρ c nc) {MA MB : Option α} (hA : BOk G L ρ A (kP G.K u) MA) (hB : BOk G L ρ Bs (kP G.K u) MB) (hr : ∀ a, BOk G L (u a) rest k (M a)) :
    BOk G L ρ (.If c A Bs pos :: rest) k ((iteO nc MA MB).bind M) := b_ifp hc hA hB hr
theorem c_ifj {α : Type} {u : α → List Sl} {M : α → Option R} (hc : TOk G L ρ c nc) {MA MB : Option (Rs α R)} (hA : BOk G L ρ A (kJ G.K u kA) MA) (hB : BOk G L ρ Bs (kJ G.K u kA) MB) (hr : ∀ a, BOk G L (u a) rest k (M a))
    (hk : ∀ r B F0 D nx, k r B F0 D → kA r B F0 { D with nx := nx }) : BOk G L ρ (.If c A Bs pos :: rest) k (bindJ (iteO nc MA MB) M) := b_ifj hc hA hB hr hk
theorem c_forP1 {i : Nat} {Bd : S → D → Option (S)} (hi : IOk G L ρ tg iter mi) (hg : GOk G L tg (gN i)) (h0 : leS (v s0) ρ) (hb : ∀ s a, BOk G L (setS (v s) i (.val a)) body (kP G.K v) (Bd s a)) (hr : ∀ s, BOk G L (v s) rest k (M s)) (hs : ∀ env x, foldedSetIterable iter env x = pure x := by intro _ _; rfl) : BOk G L ρ (.For tg iter body [] pos :: rest) k ((mi.bind fun ds => forP Bd s0 ds).bind M) :=
  b_for hi hg h0 (fun s d h => nomatch h) (fun s d as e => by cases e; exact hb s d) hr hs
theorem c_forB1 {i : Nat} {Bd : S → D → Option (Lp S)} {f : D → R} (hk : IsRt G.K k f) (hi : IOk G L ρ tg iter mi) (hg : GOk G L tg (gN i)) (h0 : leS (v s0) ρ) (hb : ∀ s a, BOk G L (setS (v s) i (.val a)) body (kL G.K v) (Bd s a)) (hr : ∀ s, BOk G L (v s) rest k (M s)) (hs : ∀ env x, foldedSetIterable iter env x = pure x := by intro _ _; rfl) : BOk G L ρ (.For tg iter body [] pos :: rest) k ((mi.bind fun ds => forB Bd s0 ds).bind M) :=
  b_forB hk hi hg h0 (fun s d h => nomatch h) (fun s d as e => by cases e; exact hb s d) hr hs
theorem c_forR1 {i : Nat} {Bd : S → D → Option (Lp S)} {f : D → R} (hk : IsRt G.K k f) (hi : IOk G L ρ tg iter mi) (hg : GOk G L tg (gN i)) (h0 : leS (v s0) ρ) (hb : ∀ s a, BOk G L (setS (v s) i (.val a)) body (kL G.K v) (Bd s a)) (hr : ∀ s, BOk G L (v s) rest k (M s)) (hs : ∀ env x, foldedSetIterable iter env x = pure x := by intro _ _; rfl) : BOk G L ρ (.For tg iter body [] pos :: rest) k (bindR (mi.bind fun ds => forR Bd s0 ds) f M) :=
  b_forR hk hi hg h0 (fun s d h => nomatch h) (fun s d as e => by cases e; exact hb s d) hr hs
theorem c_forP2 {i j : Nat} {Bd : S → D → D → Option (S)} (hi : IOk G L ρ tg iter mi) (hg : GOk G L tg (gT [gN i, gN j])) (h0 : leS (v s0) ρ) (hb : ∀ s a b, BOk G L (setS (setS (v s) i (.val a)) j (.val b)) body (kP G.K v) (Bd s a b)) (hr : ∀ s, BOk G L (v s) rest k (M s)) (hs : ∀ env x, foldedSetIterable iter env x = pure x := by intro _ _; rfl) : BOk G L ρ (.For tg iter body [] pos :: rest) k ((mi.bind fun ds => forP (fun s => un2 (Bd s)) s0 ds).bind M) :=
  b_for hi hg h0 (fun s d h => by unfold un2; split <;> first | cases h | rfl) (fun s d as e => by obtain ⟨a, b, as1, as2, rfl, e1, e2, rfl⟩ := gT2_inv e; cases e1; cases e2; exact hb s a b) hr hs
theorem c_forB2 {i j : Nat} {Bd : S → D → D → Option (Lp S)} {f : D → R} (hk : IsRt G.K k f) (hi : IOk G L ρ tg iter mi) (hg : GOk G L tg (gT [gN i, gN j])) (h0 : leS (v s0) ρ) (hb : ∀ s a b, BOk G L (setS (setS (v s) i (.val a)) j (.val b)) body (kL G.K v) (Bd s a b)) (hr : ∀ s, BOk G L (v s) rest k (M s)) (hs : ∀ env x, foldedSetIterable iter env x = pure x := by intro _ _; rfl) : BOk G L ρ (.For tg iter body [] pos :: rest) k ((mi.bind fun ds => forB (fun s => un2 (Bd s)) s0 ds).bind M) :=
  b_forB hk hi hg h0 (fun s d h => by unfold un2; split <;> first | cases h | rfl) (fun s d as e => by obtain ⟨a, b, as1, as2, rfl, e1, e2, rfl⟩ := gT2_inv e; cases e1; cases e2; exact hb s a b) hr hs
theorem c_forR2 {i j : Nat} {Bd : S → D → D → Option (Lp S)} {f : D → R} (hk : IsRt G.K k f) (hi : IOk G L ρ tg iter mi) (hg : GOk G L tg (gT [gN i, gN j])) (h0 : leS (v s0) ρ) (hb : ∀ s a b, BOk G L (setS (setS (v s) i (.val a)) j (.val b)) body (kL G.K v) (Bd s a b)) (hr : ∀ s, BOk G L (v s) rest k (M s)) (hs : ∀ env x, foldedSetIterable iter env x = pure x := by intro _ _; rfl) : BOk G L ρ (.For tg iter body [] pos :: rest) k (bindR (mi.bind fun ds => forR (fun s => un2 (Bd s)) s0 ds) f M) :=
  b_forR hk hi hg h0 (fun s d h => by unfold un2; split <;> first | cases h | rfl) (fun s d as e => by obtain ⟨a, b, as1, as2, rfl, e1, e2, rfl⟩ := gT2_inv e; cases e1; cases e2; exact hb s a b) hr hs
theorem c_forP3 {i j l : Nat} {Bd : S → D → D → D → Option (S)} (hi : IOk G L ρ tg iter mi) (hg : GOk G L tg (gT [gN i, gN j, gN l])) (h0 : leS (v s0) ρ) (hb : ∀ s a b c, BOk G L (setS (setS (setS (v s) i (.val a)) j (.val b)) l (.val c)) body (kP G.K v) (Bd s a b c)) (hr : ∀ s, BOk G L (v s) rest k (M s)) (hs : ∀ env x, foldedSetIterable iter env x = pure x := by intro _ _; rfl) : BOk G L ρ (.For tg iter body [] pos :: rest) k ((mi.bind fun ds => forP (fun s => un3 (Bd s)) s0 ds).bind M) :=
  b_for hi hg h0 (fun s d h => by unfold un3; split <;> first | cases h | rfl) (fun s d as e => by obtain ⟨a, b, c, as1, as2, as3, rfl, e1, e2, e3, rfl⟩ := gT3_inv e; cases e1; cases e2; cases e3; exact hb s a b c) hr hs
theorem c_forB3 {i j l : Nat} {Bd : S → D → D → D → Option (Lp S)} {f : D → R} (hk : IsRt G.K k f) (hi : IOk G L ρ tg iter mi) (hg : GOk G L tg (gT [gN i, gN j, gN l])) (h0 : leS (v s0) ρ) (hb : ∀ s a b c, BOk G L (setS (setS (setS (v s) i (.val a)) j (.val b)) l (.val c)) body (kL G.K v) (Bd s a b c)) (hr : ∀ s, BOk G L (v s) rest k (M s)) (hs : ∀ env x, foldedSetIterable iter env x = pure x := by intro _ _; rfl) : BOk G L ρ (.For tg iter body [] pos :: rest) k ((mi.bind fun ds => forB (fun s => un3 (Bd s)) s0 ds).bind M) :=
  b_forB hk hi hg h0 (fun s d h => by unfold un3; split <;> first | cases h | rfl) (fun s d as e => by obtain ⟨a, b, c, as1, as2, as3, rfl, e1, e2, e3, rfl⟩ := gT3_inv e; cases e1; cases e2; cases e3; exact hb s a b c) hr hs
theorem c_forR3 {i j l : Nat} {Bd : S → D → D → D → Option (Lp S)} {f : D → R} (hk : IsRt G.K k f) (hi : IOk G L ρ tg iter mi) (hg : GOk G L tg (gT [gN i, gN j, gN l])) (h0 : leS (v s0) ρ) (hb : ∀ s a b c, BOk G L (setS (setS (setS (v s) i (.val a)) j (.val b)) l (.val c)) body (kL G.K v) (Bd s a b c)) (hr : ∀ s, BOk G L (v s) rest k (M s)) (hs : ∀ env x, foldedSetIterable iter env x = pure x := by intro _ _; rfl) : BOk G L ρ (.For tg iter body [] pos :: rest) k (bindR (mi.bind fun ds => forR (fun s => un3 (Bd s)) s0 ds) f M) :=
  b_forR hk hi hg h0 (fun s d h => by unfold un3; split <;> first | cases h | rfl) (fun s d as e => by obtain ⟨a, b, c, as1, as2, as3, rfl, e1, e2, e3, rfl⟩ := gT3_inv e; cases e1; cases e2; cases e3; exact hb s a b c) hr hs
theorem c_forP4 {i j l q : Nat} {Bd : S → D → D → D → D → Option (S)} (hi : IOk G L ρ tg iter mi) (hg : GOk G L tg (gT [gN i, gN j, gN l, gN q])) (h0 : leS (v s0) ρ) (hb : ∀ s a b c d, BOk G L (setS (setS (setS (setS (v s) i (.val a)) j (.val b)) l (.val c)) q (.val d)) body (kP G.K v) (Bd s a b c d)) (hr : ∀ s, BOk G L (v s) rest k (M s)) (hs : ∀ env x, foldedSetIterable iter env x = pure x := by intro _ _; rfl) : BOk G L ρ (.For tg iter body [] pos :: rest) k ((mi.bind fun ds => forP (fun s => un4 (Bd s)) s0 ds).bind M) :=
  b_for hi hg h0 (fun s d h => by unfold un4; split <;> first | cases h | rfl) (fun s d as e => by obtain ⟨a, b, c, d, as1, as2, as3, as4, rfl, e1, e2, e3, e4, rfl⟩ := gT4_inv e; cases e1; cases e2; cases e3; cases e4; exact hb s a b c d) hr hs
theorem c_forB4 {i j l q : Nat} {Bd : S → D → D → D → D → Option (Lp S)} {f : D → R} (hk : IsRt G.K k f) (hi : IOk G L ρ tg iter mi) (hg : GOk G L tg (gT [gN i, gN j, gN l, gN q])) (h0 : leS (v s0) ρ) (hb : ∀ s a b c d, BOk G L (setS (setS (setS (setS (v s) i (.val a)) j (.val b)) l (.val c)) q (.val d)) body (kL G.K v) (Bd s a b c d)) (hr : ∀ s, BOk G L (v s) rest k (M s)) (hs : ∀ env x, foldedSetIterable iter env x = pure x := by intro _ _; rfl) : BOk G L ρ (.For tg iter body [] pos :: rest) k ((mi.bind fun ds => forB (fun s => un4 (Bd s)) s0 ds).bind M) :=
  b_forB hk hi hg h0 (fun s d h => by unfold un4; split <;> first | cases h | rfl) (fun s d as e => by obtain ⟨a, b, c, d, as1, as2, as3, as4, rfl, e1, e2, e3, e4, rfl⟩ := gT4_inv e; cases e1; cases e2; cases e3; cases e4; exact hb s a b c d) hr hs
theorem c_forR4 {i j l q : Nat} {Bd : S → D → D → D → D → Option (Lp S)} {f : D → R} (hk : IsRt G.K k f) (hi : IOk G L ρ tg iter mi) (hg : GOk G L tg (gT [gN i, gN j, gN l, gN q])) (h0 : leS (v s0) ρ) (hb : ∀ s a b c d, BOk G L (setS (setS (setS (setS (v s) i (.val a)) j (.val b)) l (.val c)) q (.val d)) body (kL G.K v) (Bd s a b c d)) (hr : ∀ s, BOk G L (v s) rest k (M s)) (hs : ∀ env x, foldedSetIterable iter env x = pure x := by intro _ _; rfl) : BOk G L ρ (.For tg iter body [] pos :: rest) k (bindR (mi.bind fun ds => forR (fun s => un4 (Bd s)) s0 ds) f M) :=
  b_forR hk hi hg h0 (fun s d h => by unfold un4; split <;> first | cases h | rfl) (fun s d as e => by obtain ⟨a, b, c, d, as1, as2, as3, as4, rfl, e1, e2, e3, e4, rfl⟩ := gT4_inv e; cases e1; cases e2; cases e3; cases e4; exact hb s a b c d) hr hs
theorem c_asg2 {i j : Nat} {e : Expr} {m : Option D} {M : D → D → Option R} (he : EOk G L ρ e m) (hg : GOk G L tg (gT [gN i, gN j])) (hr : ∀ a b, BOk G L (setS (setS ρ i (.val a)) j (.val b)) rest k (M a b))
    (hs : ∀ env : Env, env.scope = L.sc → swapsWithSole [tg] e pos.line env = pure false := by intro _ _; rfl) (hw : ∀ env : Env, env.scope = L.sc → swappedStores [tg] e env = pure none := by intro _ _; rfl) (h1 : ∀ env, (assignEach [tg] env).map (·.2) = [assign tg env] := by intro _; rfl) :
    BOk G L ρ (.Assign [tg] e pos :: rest) k (m.bind (un2 M)) := b_asg he hg (fun d h => by unfold un2; split <;> first | cases h | rfl) (fun d as e => by obtain ⟨a, b, as1, as2, rfl, e1, e2, rfl⟩ := gT2_inv e; cases e1; cases e2; exact hr a b) hs hw h1
theorem c_asg3 {i j l : Nat} {e : Expr} {m : Option D} {M : D → D → D → Option R} (he : EOk G L ρ e m) (hg : GOk G L tg (gT [gN i, gN j, gN l])) (hr : ∀ a b c, BOk G L (setS (setS (setS ρ i (.val a)) j (.val b)) l (.val c)) rest k (M a b c))
    (hs : ∀ env : Env, env.scope = L.sc → swapsWithSole [tg] e pos.line env = pure false := by intro _ _; rfl) (hw : ∀ env : Env, env.scope = L.sc → swappedStores [tg] e env = pure none := by intro _ _; rfl) (h1 : ∀ env, (assignEach [tg] env).map (·.2) = [assign tg env] := by intro _; rfl) :
    BOk G L ρ (.Assign [tg] e pos :: rest) k (m.bind (un3 M)) := b_asg he hg (fun d h => by unfold un3; split <;> first | cases h | rfl) (fun d as e => by obtain ⟨a, b, c, as1, as2, as3, rfl, e1, e2, e3, rfl⟩ := gT3_inv e; cases e1; cases e2; cases e3; exact hr a b c) hs hw h1
theorem c_asg4 {i j l q : Nat} {e : Expr} {m : Option D} {M : D → D → D → D → Option R} (he : EOk G L ρ e m) (hg : GOk G L tg (gT [gN i, gN j, gN l, gN q])) (hr : ∀ a b c d, BOk G L (setS (setS (setS (setS ρ i (.val a)) j (.val b)) l (.val c)) q (.val d)) rest k (M a b c d))
    (hs : ∀ env : Env, env.scope = L.sc → swapsWithSole [tg] e pos.line env = pure false := by intro _ _; rfl) (hw : ∀ env : Env, env.scope = L.sc → swappedStores [tg] e env = pure none := by intro _ _; rfl) (h1 : ∀ env, (assignEach [tg] env).map (·.2) = [assign tg env] := by intro _; rfl) :
    BOk G L ρ (.Assign [tg] e pos :: rest) k (m.bind (un4 M)) := b_asg he hg (fun d h => by unfold un4; split <;> first | cases h | rfl) (fun d as e => by obtain ⟨a, b, c, d, as1, as2, as3, as4, rfl, e1, e2, e3, e4, rfl⟩ := gT4_inv e; cases e1; cases e2; cases e3; cases e4; exact hr a b c d) hs hw h1
end
end DL
set_option autoImplicit false
set_option maxRecDepth 100000
set_option maxHeartbeats 4000000
namespace DL
open PySem PySem.Spec PySem.SeqAt PyProof.Rows L2
theorem le_nil : leS [] [] := trivial
theorem le_no {r q : List Sl} {t : Sl} (h : leS r q) : leS (.no :: r) (t :: q) := ⟨.inl rfl, h⟩
theorem le_eq {r q : List Sl} {s : Sl} (h : leS r q) : leS (s :: r) (s :: q) := ⟨.inr rfl, h⟩
section
variable {R : Type} {G : GX} {L : LX} {ρ : List Sl} {sts : List Stmt} {k k0 : KS R} {e a b : Expr} {ma mb m : Option D} {pos p p1 : Pos} {x : Str}
theorem b_weak {k' : KS R} {M : Option R} (h : BOk G L ρ sts k M) (w : ∀ r B F0 E, k' r B F0 E → k r B F0 E) : BOk G L ρ sts k' M := fun X hX =>
  wkSs (h X hX) fun D σ H ⟨B, F0, F, r, em, er, q⟩ => ⟨B, F0, F, r, em, er, w _ _ _ _ q⟩
theorem b_CL {S : Type} {v : S → List Sl} {M : Option (Lp S)} (h : BOk G L ρ sts (kC G.K v) M) : BOk G L ρ sts (kL G.K v) M := b_weak h fun _ _ _ _ q => q.1
theorem b_DF {M : Option D} (h : BOk G L ρ sts (kD G.K) M) : BOk G L ρ sts (kF G.K) M := b_weak h fun _ _ _ _ q => q.1
/-- a block that leaves, where a block may go on or leave -/
theorem b_J {α : Type} {u : α → List Sl} {M : Option R} (h : BOk G L ρ sts k M) : BOk G L ρ sts (kJ G.K u k) (M.map Rs.ex) := fun X hX =>
  wkSs (h X hX) fun D σ H ⟨B, F0, F, r, em, er, q⟩ => by
    obtain ⟨r', e1, e2⟩ := Option.map_eq_some_iff.mp em
    subst e2
    exact ⟨B, F0, F, r', e1, er, q⟩
def kX {α R : Type} (k : KS R) : KS (Rs α R) := fun r B F0 E => match r with
  | .nx _ => True
  | .ex r => k r B F0 E
theorem b_X {α : Type} {M : Option R} (h : BOk G L ρ sts k M) : BOk G L ρ sts (kX (α := α) k) (M.map Rs.ex) := fun X hX =>
  wkSs (h X hX) fun D σ H ⟨B, F0, F, r, em, er, q⟩ => by
    obtain ⟨r', e1, e2⟩ := Option.map_eq_some_iff.mp em
    subst e2
    exact ⟨B, F0, F, r', e1, er, q⟩
theorem kJX {α : Type} {K : PySem.W.Frag} {u : α → List Sl} (h : ∀ r B F0 D nx, k r B F0 D → k r B F0 { D with nx := nx }) : ∀ r B F0 D nx, kJ K u k r B F0 D → kX (α := α) k r B F0 { D with nx := nx } := fun r B F0 D nx q => by
  cases r with
  | nx a => trivial
  | ex r => exact h _ _ _ _ _ q
theorem kXX {α : Type} (h : ∀ r B F0 D nx, k r B F0 D → k r B F0 { D with nx := nx }) : ∀ r B F0 D nx, kX (α := α) k r B F0 D → kX (α := α) k r B F0 { D with nx := nx } := fun r B F0 D nx q => by
  cases r with
  | nx a => trivial
  | ex r => exact h _ _ _ _ _ q
theorem rtX {α : Type} {K : PySem.W.Frag} {f : D → R} (h : IsRt K k f) : IsRt K (kX (α := α) k) (fun d => .ex (f d)) := ⟨fun _ _ _ _ q => h.rt _ _ _ _ q⟩
def negD : D → Option D
  | .int i => some (.int (-i))
  | _ => none
theorem e_ng (ha : EOk G L ρ a ma) : EOk G L ρ (.UnaryOp .USub a pos) (E1 negD ma) := (e_neg ha).to (by
  unfold E1
  congr 1)
/-- an element of an object of one's own -/
theorem e_ixo (j : Nat) {y : D} (h : nthS ρ j = .own y := by rfl) (hb : EOk G L ρ b mb) (hN : L.N[j]? = some x := by rfl) (hv : Vis L.sc x := by first | exact Or.inl rfl | exact Or.inr (Or.inl rfl) | exact Or.inr (Or.inr rfl))
    (hd : (x == ("__debug__" : Str)) = false := by decide) (hcd : (x == ("__classdict__" : Str)) = false := by decide) (hs : PlainIx b := by intro _ _; rfl) : EOk G L ρ (.Subscript (.Name x p) b pos) (E1 (ixD y) mb) := fun X hX =>
  wkE (pe_ix (ix_seq.or (ix_dict (by have := hX.room.units; omega))) (p_own hX j hN hv hd hcd) (hb X hX) hs) fun σ H Q ⟨F, d, em, vr, q⟩ => by
    obtain ⟨ik, ei, em⟩ := Option.bind_eq_some_iff.mp em
    obtain ⟨p', o, e1, e2, ow, hF⟩ := vr.owns j y h
    refine ⟨.ref p', e1, F, ik, ei, vr, fun vi F1 H1 x1 ri => ?_⟩
    rcases getD_rule hX (Q := fun v H => Q v H) (ow.mono x1.froz) (x1.heap _ _ e2) x1.sub ri em (fun v ru => q v F1 H1 x1 ru) with ⟨p2, xs, k, v, h1, h2, h3, h4, h5⟩ | ⟨a2, v, h1, h2, h3⟩
    · exact .inl (.inl ⟨p2, xs, k, v, h1, h2, h3, h4, h5⟩)
    · exact .inr ⟨a2, v, h1, h2, h3⟩
end
section
variable {G : GX} {L : LX} {ρ : List Sl} {e a b c : Expr} {ma mb : Option D} {pos p p2 : Pos}
theorem e_none {ρ : List Sl} {e : Expr} {m : Option D} (h : m = none) : EOk G L ρ e m := fun X hX => ⟨fun pins s σ H Q I ⟨F, d, em, r, q⟩ => by rw [h] at em; cases em⟩
theorem t_none {ρ : List Sl} {e : Expr} {m : Option Bool} (h : m = none) : TOk G L ρ e m := fun X hX => ⟨fun pins s σ H Q I ⟨F, d, em, r, q⟩ => by rw [h] at em; cases em⟩
theorem b_none {R : Type} {ρ : List Sl} {sts : List Stmt} {k : KS R} {m : Option R} (h : m = none) : BOk G L ρ sts k m := fun X hX => ⟨fun pins s σ H D I ⟨B, F0, F, r, em, q⟩ => by rw [h] at em; cases em⟩
theorem e_rec2 {x : Str} {k : Nat} {f : D → D → Option D} (F : FnD G k x 2 (ap2 f) ∨ ∀ a b, f a b = none) (ha : EOk G L ρ a ma) (hb : EOk G L ρ b mb) (hk : k ≤ L.k) (hg : GlS L x := by rfl) (hdb : (x == ("__debug__" : Str)) = false := by decide)
    (s1 : ∀ env, starEach [a, b] env = (false, eval a env) :: starEach [b] env := by intro _; rfl) (s2 : ∀ env, starEach [b] env = (false, eval b env) :: starEach [] env := by intro _; rfl)
    (hpl : ∀ env, (backTo pos (starEach [b] env)).any (·.1) = false := by intro _; rfl) : EOk G L ρ (.Call (.Name x p) [a, b] [] pos) (E2 f ma mb) := by
  rcases F with F | F
  · exact e_call2 F ha hb hk hg hdb s1 s2 hpl
  · refine e_none ?_
    cases h : E2 f ma mb with
    | none => rfl
    | some d => obtain ⟨u, v, _, _, e⟩ := E2_some h; rw [F] at e; cases e
def o1 (f : List D → Option D) (a : D) : Option D := f [a]
def o2 (f : List D → Option D) (a b : D) : Option D := f [a, b]
theorem aC1 {m : Option D} {f : List D → Option D} : (aC m (some [])).bind f = E1 (o1 f) m := by cases m <;> rfl
theorem aC2 {m n : Option D} {f : List D → Option D} : (aC m (aC n (some []))).bind f = E2 (o2 f) m n := by cases m <;> cases n <;> rfl
theorem e_len1 (hm : G.mg "len" = none) (ha : EOk G L ρ a ma) (hg : GlS L "len" := by rfl) (s1 : ∀ env, starEach [a] env = (false, eval a env) :: starEach [] env := by intro _; rfl) :
    EOk G L ρ (.Call (.Name "len" p) [a] [] pos) (E1 (o1 lenD) ma) := aC1 ▸ (e_cb cd_len hm PySem.boot_len (a_cons ha a_nil s1) hg (by decide) (by decide) s1)
theorem e_abs1 (hm : G.mg "abs" = none) (ha : EOk G L ρ a ma) (hg : GlS L "abs" := by rfl) (s1 : ∀ env, starEach [a] env = (false, eval a env) :: starEach [] env := by intro _; rfl) :
    EOk G L ρ (.Call (.Name "abs" p) [a] [] pos) (E1 (o1 absD) ma) := aC1 ▸ (e_cb cd_abs hm PyProof.Rows.boot_abs (a_cons ha a_nil s1) hg (by decide) (by decide) s1)
theorem e_sum1 (hm : G.mg "sum" = none) (ha : EOk G L ρ a ma) (hg : GlS L "sum" := by rfl) (s1 : ∀ env, starEach [a] env = (false, eval a env) :: starEach [] env := by intro _; rfl) :
    EOk G L ρ (.Call (.Name "sum" p) [a] [] pos) (E1 (o1 sumD) ma) := aC1 ▸ (e_cb cd_sum hm PyProof.Rows.boot_sum (a_cons ha a_nil s1) hg (by decide) (by decide) s1)
theorem e_all1 (hm : G.mg "all" = none) (ha : EOk G L ρ a ma) (hg : GlS L "all" := by rfl) (s1 : ∀ env, starEach [a] env = (false, eval a env) :: starEach [] env := by intro _; rfl) :
    EOk G L ρ (.Call (.Name "all" p) [a] [] pos) (E1 (o1 allD) ma) := aC1 ▸ (e_cb cd_all hm PyProof.Rows.boot_all (a_cons ha a_nil s1) hg (by decide) (by decide) s1)
theorem e_any1 (hm : G.mg "any" = none) (ha : EOk G L ρ a ma) (hg : GlS L "any" := by rfl) (s1 : ∀ env, starEach [a] env = (false, eval a env) :: starEach [] env := by intro _; rfl) :
    EOk G L ρ (.Call (.Name "any" p) [a] [] pos) (E1 (o1 anyD) ma) := aC1 ▸ (e_cb cd_any hm PyProof.Rows.boot_any (a_cons ha a_nil s1) hg (by decide) (by decide) s1)
theorem e_int1 (hm : G.mg "int" = none) (ha : EOk G L ρ a ma) (hg : GlS L "int" := by rfl) (s1 : ∀ env, starEach [a] env = (false, eval a env) :: starEach [] env := by intro _; rfl) :
    EOk G L ρ (.Call (.Name "int" p) [a] [] pos) (E1 (o1 intD) ma) := aC1 ▸ (e_ct cd_int hm PyProof.Rows.boot_int (a_cons ha a_nil s1) hg (by decide) (by decide) s1)
theorem e_tuple1 (hm : G.mg "tuple" = none) (ha : EOk G L ρ a ma) (hg : GlS L "tuple" := by rfl) (s1 : ∀ env, starEach [a] env = (false, eval a env) :: starEach [] env := by intro _; rfl) :
    EOk G L ρ (.Call (.Name "tuple" p) [a] [] pos) (E1 (o1 tupleD) ma) := aC1 ▸ (e_ct cd_tuple hm PyProof.Rows.boot_tuple (a_cons ha a_nil s1) hg (by decide) (by decide) s1)
theorem boot_max : bootBuiltins "max" = some (.builtin "max") := by decide +kernel
theorem boot_min : bootBuiltins "min" = some (.builtin "min") := by decide +kernel
theorem e_maxL (hm : G.mg "max" = none) (ha : EOk G L ρ a ma) (hg : GlS L "max" := by rfl) (s1 : ∀ env, starEach [a] env = (false, eval a env) :: starEach [] env := by intro _; rfl) :
    EOk G L ρ (.Call (.Name "max" p) [a] [] pos) (E1 (o1 maxLD) ma) := aC1 ▸ (e_cb cd_maxL hm boot_max (a_cons ha a_nil s1) hg (by decide) (by decide) s1)
theorem e_minL (hm : G.mg "min" = none) (ha : EOk G L ρ a ma) (hg : GlS L "min" := by rfl) (s1 : ∀ env, starEach [a] env = (false, eval a env) :: starEach [] env := by intro _; rfl) :
    EOk G L ρ (.Call (.Name "min" p) [a] [] pos) (E1 (o1 minLD) ma) := aC1 ▸ (e_cb cd_minL hm boot_min (a_cons ha a_nil s1) hg (by decide) (by decide) s1)
theorem e_max2 (hm : G.mg "max" = none) (ha : EOk G L ρ a ma) (hb : EOk G L ρ b mb) (hg : GlS L "max" := by rfl) (s1 : ∀ env, starEach [a, b] env = (false, eval a env) :: starEach [b] env := by intro _; rfl) (s2 : ∀ env, starEach [b] env = (false, eval b env) :: starEach [] env := by intro _; rfl) (hpl : ∀ env, (backTo pos (starEach [b] env)).any (·.1) = false := by intro _; rfl) :
    EOk G L ρ (.Call (.Name "max" p) [a, b] [] pos) (E2 (o2 max2D) ma mb) := aC2 ▸ (e_cb cd_max2 hm boot_max (a_cons ha (a_cons hb a_nil s2) s1) hg (by decide) (by decide) s1 hpl)
theorem e_min2 (hm : G.mg "min" = none) (ha : EOk G L ρ a ma) (hb : EOk G L ρ b mb) (hg : GlS L "min" := by rfl) (s1 : ∀ env, starEach [a, b] env = (false, eval a env) :: starEach [b] env := by intro _; rfl) (s2 : ∀ env, starEach [b] env = (false, eval b env) :: starEach [] env := by intro _; rfl) (hpl : ∀ env, (backTo pos (starEach [b] env)).any (·.1) = false := by intro _; rfl) :
    EOk G L ρ (.Call (.Name "min" p) [a, b] [] pos) (E2 (o2 min2D) ma mb) := aC2 ▸ (e_cb cd_min2 hm boot_min (a_cons ha (a_cons hb a_nil s2) s1) hg (by decide) (by decide) s1 hpl)
theorem f_list1 (hm : G.mg "list" = none) (ha : EOk G L ρ a ma) (hg : GlS L "list" := by rfl) (s1 : ∀ env, starEach [a] env = (false, eval a env) :: starEach [] env := by intro _; rfl) :
    FOk G L ρ (.Call (.Name "list" p) [a] [] pos) (E1 (o1 listD) ma) := aC1 ▸ (f_ct cf_list hm PyProof.Rows.boot_list (a_cons ha a_nil s1) hg (by decide) (by decide) s1)
theorem f_sorted1 (hm : G.mg "sorted" = none) (ha : EOk G L ρ a ma) (hg : GlS L "sorted" := by rfl) (s1 : ∀ env, starEach [a] env = (false, eval a env) :: starEach [] env := by intro _; rfl) :
    FOk G L ρ (.Call (.Name "sorted" p) [a] [] pos) (E1 (o1 sortedD) ma) := aC1 ▸ (f_cb cf_sorted hm PyProof.Rows.boot_sorted (a_cons ha a_nil s1) hg (by decide) (by decide) s1)
theorem e_is_int (hm : G.mg "isinstance" = none) (hmT : G.mg "int" = none) (h : EOk G L ρ e ma) (hg : GlS L "isinstance" := by rfl) (hgT : GlS L "int" := by rfl) (he : ∀ env, starEach [e, .Name "int" p2] env = (false, eval e env) :: starEach [.Name "int" p2] env := by intro _; rfl) :
    EOk G L ρ (.Call (.Name "isinstance" p) [e, .Name "int" p2] [] pos) (E1 (isiG isIntD) ma) := e_isi isi_int PyProof.Rows.boot_int hm hmT h hg hgT (by decide) (by decide) he
theorem e_is_bool (hm : G.mg "isinstance" = none) (hmT : G.mg "bool" = none) (h : EOk G L ρ e ma) (hg : GlS L "isinstance" := by rfl) (hgT : GlS L "bool" := by rfl) (he : ∀ env, starEach [e, .Name "bool" p2] env = (false, eval e env) :: starEach [.Name "bool" p2] env := by intro _; rfl) :
    EOk G L ρ (.Call (.Name "isinstance" p) [e, .Name "bool" p2] [] pos) (E1 (isiG isBlD) ma) := e_isi isi_bool PyProof.Rows.boot_bool hm hmT h hg hgT (by decide) (by decide) he
theorem e_is_str (hm : G.mg "isinstance" = none) (hmT : G.mg "str" = none) (h : EOk G L ρ e ma) (hg : GlS L "isinstance" := by rfl) (hgT : GlS L "str" := by rfl) (he : ∀ env, starEach [e, .Name "str" p2] env = (false, eval e env) :: starEach [.Name "str" p2] env := by intro _; rfl) :
    EOk G L ρ (.Call (.Name "isinstance" p) [e, .Name "str" p2] [] pos) (E1 (isiG isStrD) ma) := e_isi isi_str PyProof.Rows.boot_str hm hmT h hg hgT (by decide) (by decide) he
theorem e_is_tuple (hm : G.mg "isinstance" = none) (hmT : G.mg "tuple" = none) (h : EOk G L ρ e ma) (hg : GlS L "isinstance" := by rfl) (hgT : GlS L "tuple" := by rfl) (he : ∀ env, starEach [e, .Name "tuple" p2] env = (false, eval e env) :: starEach [.Name "tuple" p2] env := by intro _; rfl) :
    EOk G L ρ (.Call (.Name "isinstance" p) [e, .Name "tuple" p2] [] pos) (E1 (isiG isTupD) ma) := e_isi isi_tuple PyProof.Rows.boot_tuple hm hmT h hg hgT (by decide) (by decide) he
theorem e_is_list (hm : G.mg "isinstance" = none) (hmT : G.mg "list" = none) (h : EOk G L ρ e ma) (hg : GlS L "isinstance" := by rfl) (hgT : GlS L "list" := by rfl) (he : ∀ env, starEach [e, .Name "list" p2] env = (false, eval e env) :: starEach [.Name "list" p2] env := by intro _; rfl) :
    EOk G L ρ (.Call (.Name "isinstance" p) [e, .Name "list" p2] [] pos) (E1 (isiG isLstD) ma) := e_isi isi_list PyProof.Rows.boot_list hm hmT h hg hgT (by decide) (by decide) he
end
theorem fn_ok1 {G : GX} {x : Str} {st : Stmt} {N ps : List Str} {k : Nat} {g : D → Option D} (Fd : DefAt G x st ps) (S : FnScope N ps (defScope st)) (hn : ps.length = 1)
    (h : ∀ a0, BOk G ⟨N, k, defScope st, fun _ => true⟩ (rho N [a0]) (defBody st) (kF G.K) (g a0)) : FnD G (k + 1) x 1 (ap1 g) := fn_ok Fd S hn fun ds hds => by
  match ds, hds with
  | [a0], _ => exact h a0
theorem fn_ok2 {G : GX} {x : Str} {st : Stmt} {N ps : List Str} {k : Nat} {g : D → D → Option D} (Fd : DefAt G x st ps) (S : FnScope N ps (defScope st)) (hn : ps.length = 2)
    (h : ∀ a0 a1, BOk G ⟨N, k, defScope st, fun _ => true⟩ (rho N [a0, a1]) (defBody st) (kF G.K) (g a0 a1)) : FnD G (k + 1) x 2 (ap2 g) := fn_ok Fd S hn fun ds hds => by
  match ds, hds with
  | [a0, a1], _ => exact h a0 a1
theorem fn_ok3 {G : GX} {x : Str} {st : Stmt} {N ps : List Str} {k : Nat} {g : D → D → D → Option D} (Fd : DefAt G x st ps) (S : FnScope N ps (defScope st)) (hn : ps.length = 3)
    (h : ∀ a0 a1 a2, BOk G ⟨N, k, defScope st, fun _ => true⟩ (rho N [a0, a1, a2]) (defBody st) (kF G.K) (g a0 a1 a2)) : FnD G (k + 1) x 3 (ap3 g) := fn_ok Fd S hn fun ds hds => by
  match ds, hds with
  | [a0, a1, a2], _ => exact h a0 a1 a2
theorem fn_ok4 {G : GX} {x : Str} {st : Stmt} {N ps : List Str} {k : Nat} {g : D → D → D → D → Option D} (Fd : DefAt G x st ps) (S : FnScope N ps (defScope st)) (hn : ps.length = 4)
    (h : ∀ a0 a1 a2 a3, BOk G ⟨N, k, defScope st, fun _ => true⟩ (rho N [a0, a1, a2, a3]) (defBody st) (kF G.K) (g a0 a1 a2 a3)) : FnD G (k + 1) x 4 (ap4 g) := fn_ok Fd S hn fun ds hds => by
  match ds, hds with
  | [a0, a1, a2, a3], _ => exact h a0 a1 a2 a3
theorem fn_ok5 {G : GX} {x : Str} {st : Stmt} {N ps : List Str} {k : Nat} {g : D → D → D → D → D → Option D} (Fd : DefAt G x st ps) (S : FnScope N ps (defScope st)) (hn : ps.length = 5)
    (h : ∀ a0 a1 a2 a3 a4, BOk G ⟨N, k, defScope st, fun _ => true⟩ (rho N [a0, a1, a2, a3, a4]) (defBody st) (kF G.K) (g a0 a1 a2 a3 a4)) : FnD G (k + 1) x 5 (ap5 g) := fn_ok Fd S hn fun ds hds => by
  match ds, hds with
  | [a0, a1, a2, a3, a4], _ => exact h a0 a1 a2 a3 a4
theorem fn_ok6 {G : GX} {x : Str} {st : Stmt} {N ps : List Str} {k : Nat} {g : D → D → D → D → D → D → Option D} (Fd : DefAt G x st ps) (S : FnScope N ps (defScope st)) (hn : ps.length = 6)
    (h : ∀ a0 a1 a2 a3 a4 a5, BOk G ⟨N, k, defScope st, fun _ => true⟩ (rho N [a0, a1, a2, a3, a4, a5]) (defBody st) (kF G.K) (g a0 a1 a2 a3 a4 a5)) : FnD G (k + 1) x 6 (ap6 g) := fn_ok Fd S hn fun ds hds => by
  match ds, hds with
  | [a0, a1, a2, a3, a4, a5], _ => exact h a0 a1 a2 a3 a4 a5
theorem fn_ok7 {G : GX} {x : Str} {st : Stmt} {N ps : List Str} {k : Nat} {g : D → D → D → D → D → D → D → Option D} (Fd : DefAt G x st ps) (S : FnScope N ps (defScope st)) (hn : ps.length = 7)
    (h : ∀ a0 a1 a2 a3 a4 a5 a6, BOk G ⟨N, k, defScope st, fun _ => true⟩ (rho N [a0, a1, a2, a3, a4, a5, a6]) (defBody st) (kF G.K) (g a0 a1 a2 a3 a4 a5 a6)) : FnD G (k + 1) x 7 (ap7 g) := fn_ok Fd S hn fun ds hds => by
  match ds, hds with
  | [a0, a1, a2, a3, a4, a5, a6], _ => exact h a0 a1 a2 a3 a4 a5 a6
end DL
set_option autoImplicit false
set_option maxRecDepth 100000
set_option maxHeartbeats 4000000
namespace DL
open PySem PySem.Spec PySem.SeqAt PyProof.Rows L2
theorem fn_okF {G : GX} {x : Str} {f : Addr} {fd : FuncData} {st : Stmt} {N ps : List Str} {k n : Nat} {g : List D → Option D} (F : Fun G.K x x st f fd) (S : FnScope N ps (defScope st)) (hn : ps.length = n)
    (h : ∀ ds, ds.length = n → BOk G ⟨N, k, defScope st, fun _ => true⟩ (rho N ds) (defBody st) (kF G.K) (g ds)) : FnOk G.P G.w G.K G.mg G.base CX0 (k + 1) f fd ps (spD G.K n g) := by
  have hpl : ps.length ≤ N.length := by have := congrArg List.length S.pre; rw [List.length_take] at this; omega
  refine F.ok S (fun vs H Q E ⟨F, ds, d, hl, s, r, e, q⟩ => by rw [hn, ← hl, r.len]) (fun cdv A outer s H vs Q E hr ⟨F0, ds, d, hl, s0, r, e, q⟩ => ?_)
  refine ⟨_, h ds hl _ ⟨rfl, rfl, rfl, rfl, rfl, rfl, S.nd, rfl, rfl, rfl, hr⟩, H, F0, F0, d, e, ⟨⟨s0, ?_, fun i d h => ?_, fun i d h => absurd h rho_own⟩, ⟨Same.refl _, s0, Same.refl _, fun a o h n => by rw [h] at n; cases n⟩, fun i d p h => absurd h rho_own, fun i j d e p h => absurd h rho_own⟩, ?_, ?_⟩
  · have := r.len
    simp only [L2.start, rho, List.length_append, List.length_map, List.length_replicate]
    omega
  · have hd : ds[i]? = some d := rho_nth (N := N) h
    obtain ⟨v, hv, rv⟩ := r.get hd
    refine ⟨v, ?_, rv⟩
    have hi : i < vs.length := (List.getElem?_eq_some_iff.mp hv).1
    unfold L2.start
    rw [List.getElem?_append_left (by simpa using hi), List.getElem?_map, hv]; rfl
  · intro v F H' ro rv
    exact q v F H' ⟨ro.keep, ro.ext, ro.sub, ro.fresh⟩ rv
  · intro hd σ F H' ro
    subst hd
    exact q .non F H' ⟨ro.keep, ro.ext, ro.sub, ro.fresh⟩ rep_n
theorem fn_okF1 {G : GX} {x : Str} {f : Addr} {fd : FuncData} {st : Stmt} {N ps : List Str} {k : Nat} {g : D → Option D} (F : Fun G.K x x st f fd) (S : FnScope N ps (defScope st)) (hn : ps.length = 1)
    (h : ∀ a, BOk G ⟨N, k, defScope st, fun _ => true⟩ (rho N [a]) (defBody st) (kF G.K) (g a)) : FnOk G.P G.w G.K G.mg G.base CX0 (k + 1) f fd ps (spD G.K 1 (ap1 g)) := fn_okF F S hn fun ds hds => by
  match ds, hds with
  | [a], _ => exact h a
/-- the law's own promise -/
theorem sp_law {K : PySem.W.Frag} {H : Hp} {a : Addr} {ns : List Int} {f : D → Option D} (h : f (.scr ns) = some (.bl true)) (hS : SqL K H a (ns.map V.int)) {E : XK} : spD K 1 (ap1 f) [.ref a] H (fun v _ => v = .bl true) E := by
  rcases hS with hS | hS
  · refine ⟨upd (fun _ => none) a (.lst (ns.map V.int)), [.scr ns], .bl true, rfl, fun b o e => ?_, .cons ?_ .nil, h, fun v F' H' x r => ?_⟩
    · by_cases hb : b = a
      · subst hb
        rw [upd_same] at e; cases e
        rcases hS with hS | ⟨ob, hS⟩
        · exact .inl hS
        · exact .inr ⟨(fun vs => by intro z; cases z), ob, hS⟩
      · rw [upd_ne hb] at e; cases e
    · unfold Rep; exact ⟨a, rfl, .inl upd_same⟩
    · unfold Rep at r; exact r
  · refine ⟨fun _ => none, [.scr ns], .bl true, rfl, (fun b o e => by cases e), .cons ?_ .nil, h, fun v F' H' x r => ?_⟩
    · unfold Rep; exact ⟨a, rfl, .inr hS⟩
    · unfold Rep at r; exact r
end DL
set_option autoImplicit false
set_option maxRecDepth 100000
set_option maxHeartbeats 4000000
namespace DL
open PySem PySem.Spec PySem.SeqAt PyProof.Rows L2
/-! ### a loop that may stop early, in any block -/
section
variable {R S : Type} {G : GX} {L : LX} {ρ : List Sl} {v : S → List Sl} {body rest : List Stmt} {k : KS R} {tg iter c : Expr} {pos : Pos} {g : TGD} {mi : Option (List D)} {s0 : S} {M : S → Option R}
def kB (K : PySem.W.Frag) (k : KS R) : KS (Rs R D) := fun r B F0 E => match r with
  | .nx r => k r B F0 E
  | .ex d => kD K d B F0 E
theorem rtB {K : PySem.W.Frag} : IsRt K (kB K k) Rs.ex := ⟨fun _ _ _ _ q => q⟩
theorem to_kB {sts : List Stmt} {m : Option R} (h : BOk G L ρ sts k m) : BOk G L ρ sts (kB G.K k) (m.map Rs.nx) := fun X hX =>
  wkSs (h X hX) fun D σ H ⟨B, F0, F, r, em, er, q⟩ => by
    obtain ⟨r', e1, e2⟩ := Option.map_eq_some_iff.mp em
    subst e2
    exact ⟨B, F0, F, r', e1, er, q⟩
theorem of_kB {sts : List Stmt} {m : Option R} (h : BOk G L ρ sts (kB G.K k) (m.map Rs.nx)) : BOk G L ρ sts k m := fun X hX =>
  wkSs (h X hX) fun D σ H ⟨B, F0, F, r, em, er, q⟩ => ⟨B, F0, F, .nx r, by rw [em]; rfl, er, q⟩
theorem BOk.to {sts : List Stmt} {m m' : Option R} (h : BOk G L ρ sts k m) (q : m = m') : BOk G L ρ sts k m' := q ▸ h
theorem b_forN {Bd : S → D → Option (Lp S)} (hi : IOk G L ρ tg iter mi) (hg : GOk G L tg g) (h0 : leS (v s0) ρ) (bad : ∀ s d, g d = none → Bd s d = none) (hb : ∀ s d as, g d = some as → BOk G L (setAll (v s) as) body (kL G.K v) (Bd s d))
    (hr : ∀ s, BOk G L (v s) rest k (M s)) (hs : ∀ env x, foldedSetIterable iter env x = pure x := by intro _ _; rfl) : BOk G L ρ (.For tg iter body [] pos :: rest) k ((mi.bind fun ds => forB Bd s0 ds).bind M) :=
  of_kB ((b_forB (k := kB G.K k) rtB hi hg h0 bad hb (M := fun s => (M s).map Rs.nx) (fun s => to_kB (hr s)) hs).to (by
    cases (mi.bind fun ds => forB Bd s0 ds) <;> rfl))
/-- a while with breaks alone -/
noncomputable def whileB {S : Type} (c : S → Option Bool) (f : S → Option (Lp S)) (s : S) : Option S := (whileR c f s).bind fun r => match r with
  | .nx s => some s
  | .ex _ => none
theorem b_whileN {ct : S → Option Bool} {Bd : S → Option (Lp S)} (h0 : leS (v s0) ρ) (hc : ∀ s, TOk G L (v s) c (ct s)) (hb : ∀ s, BOk G L (v s) body (kL G.K v) (Bd s)) (hr : ∀ s, BOk G L (v s) rest k (M s)) :
    BOk G L ρ (.While c body [] pos :: rest) k ((whileB ct Bd s0).bind M) := by
  have h := b_whileR (k := kB G.K k) (f := Rs.ex) (pos := pos) rtB h0 hc hb (M := fun s => (M s).map Rs.nx) (fun s => to_kB (hr s))
  refine of_kB (fun X hX => wkSs (h X hX) fun D σ H ⟨B, F0, F, r, em, er, q⟩ => ⟨B, F0, F, r, ?_, er, q⟩)
  obtain ⟨r', e1, e2⟩ := Option.map_eq_some_iff.mp em
  subst e2
  obtain ⟨s, e3, e4⟩ := Option.bind_eq_some_iff.mp e1
  unfold whileB at e3
  obtain ⟨u, e5, e6⟩ := Option.bind_eq_some_iff.mp e3
  rw [e5]
  cases u with
  | nx z => cases e6; show (M s).map Rs.nx = _; rw [e4]; rfl
  | ex d => cases e6
end
/-! ### tuple(reversed(..)), tuple(range(..)), list(range(..)) -/
section
variable {G : GX} {L : LX} {ρ : List Sl} {e a b : Expr} {m ma mb : Option D} {pos p p2 pos2 : Pos}
def tupRevD : D → Option D
  | .lst xs => some (.tup xs.reverse)
  | _ => none
theorem e_tupRev (hm : G.mg "tuple" = none) (hm2 : G.mg "reversed" = none) (he : EOk G L ρ e m) (hg : GlS L "tuple" := by rfl) (hg2 : GlS L "reversed" := by rfl) (hs : ∀ env, starEach [e] env = (false, eval e env) :: starEach [] env := by intro _; rfl)
    (hs2 : ∀ env, starEach [.Call (.Name "reversed" p2) [e] [] pos2] env = (false, eval (.Call (.Name "reversed" p2) [e] [] pos2) env) :: starEach [] env := by intro _; rfl) :
    EOk G L ρ (.Call (.Name "tuple" p) [.Call (.Name "reversed" p2) [e] [] pos2] [] pos) (E1 tupRevD m) := fun X hX =>
  wkE (RT.pe_tupRev hX.calm (gl_of hX hg) (by rw [hX.hm]; exact hm) (gl_of hX hg2) (by rw [hX.hm]; exact hm2) (he X hX) (hs _) (hs2 _)) fun σ H Q ⟨F, d, em, vr, q⟩ => by
    obtain ⟨y, ey, em⟩ := Option.bind_eq_some_iff.mp em
    refine ⟨F, y, ey, vr, fun v F1 H1 x1 r1 => ?_⟩
    unfold tupRevD at em
    split at em
    · cases em
      unfold Rep at r1
      obtain ⟨p', vs, rfl, h1, q1⟩ := r1
      rw [hX.hK]
      refine ⟨p', vs, rfl, lst_sq h1 x1.sub, fun q' hq => ?_⟩
      have x2 := Ext.frz (o := .tup vs.reverse) x1.sub hq
      exact q _ _ _ (x1.trans x2) (by unfold Rep; exact ⟨q', _, rfl, upd_same, (Reps.mono x2.froz _ _ q1).reverse⟩)
    · cases em
def okR (i j : Int) : Bool := decide (-(2 ^ 62) ≤ i) && decide (i < 2 ^ 62) && decide (-(2 ^ 62) ≤ j) && decide (j < 2 ^ 62) && decide ((j - i).toNat ≤ 16777216)
theorem okR_iff {i j : Int} (h : okR i j = true) : RgOk i j := by
  unfold okR at h
  simp only [Bool.and_eq_true, decide_eq_true_eq] at h
  exact ⟨h.1.1.1.1, h.1.1.1.2, h.1.1.2, h.1.2, h.2⟩
theorem rgV_eq {i j : Int} : rgV i j = (rangeI i j).map V.int := by unfold rgV rangeI; rw [List.map_map]; rfl
def tupR1 : D → Option D
  | .int j => if okR 0 j then some (.tup ((rangeI 0 j).map .int)) else none
  | _ => none
def lstR1 : D → Option D
  | .int j => if okR 0 j then some (.lst ((rangeI 0 j).map .int)) else none
  | _ => none
def lstR2 : D → D → Option D
  | .int i, .int j => if okR i j then some (.lst ((rangeI i j).map .int)) else none
  | _, _ => none
theorem e_tupR1 (hm : G.mg "tuple" = none) (hm2 : G.mg "range" = none) (he : EOk G L ρ e m) (hg : GlS L "tuple" := by rfl) (hg2 : GlS L "range" := by rfl) (hs : ∀ env, starEach [e] env = (false, eval e env) :: starEach [] env := by intro _; rfl)
    (hs2 : ∀ env, starEach [.Call (.Name "range" p2) [e] [] pos2] env = (false, eval (.Call (.Name "range" p2) [e] [] pos2) env) :: starEach [] env := by intro _; rfl) :
    EOk G L ρ (.Call (.Name "tuple" p) [.Call (.Name "range" p2) [e] [] pos2] [] pos) (E1 tupR1 m) := fun X hX =>
  wkE (pe_tupRg hX.calm (gl_of hX hg) (by rw [hX.hm]; exact hm) (prg_1 (gl_of hX hg2) (by rw [hX.hm]; exact hm2) (he X hX) (hs _)) (hs2 _)) fun σ H Q ⟨F, d, em, vr, q⟩ => by
    obtain ⟨y, ey, em⟩ := Option.bind_eq_some_iff.mp em
    refine ⟨F, y, ey, vr, fun v F1 H1 x1 r1 => ?_⟩
    unfold tupR1 at em
    split at em
    · split at em
      · cases em
        unfold Rep at r1
        refine ⟨_, r1, okR_iff (by assumption), fun q' hq => ?_⟩
        rw [rgV_eq]
        exact q _ _ _ (x1.trans (Ext.frz x1.sub hq)) (by unfold Rep; exact ⟨q', _, rfl, upd_same, Reps.ofInts _⟩)
      · cases em
    · cases em
theorem f_lstR1 (hm : G.mg "list" = none) (hm2 : G.mg "range" = none) (he : EOk G L ρ e m) (hg : GlS L "list" := by rfl) (hg2 : GlS L "range" := by rfl) (hs : ∀ env, starEach [e] env = (false, eval e env) :: starEach [] env := by intro _; rfl)
    (hs2 : ∀ env, starEach [.Call (.Name "range" p2) [e] [] pos2] env = (false, eval (.Call (.Name "range" p2) [e] [] pos2) env) :: starEach [] env := by intro _; rfl) :
    FOk G L ρ (.Call (.Name "list" p) [.Call (.Name "range" p2) [e] [] pos2] [] pos) (E1 lstR1 m) := fun X hX =>
  wkE (pe_listRg hX.calm (gl_of hX hg) (by rw [hX.hm]; exact hm) (prg_1 (gl_of hX hg2) (by rw [hX.hm]; exact hm2) (he X hX) (hs _)) (hs2 _)) fun σ H Q ⟨F, d, em, vr, q⟩ => by
    obtain ⟨y, ey, em⟩ := Option.bind_eq_some_iff.mp em
    refine ⟨F, y, ey, vr, fun v F1 H1 x1 r1 => ?_⟩
    unfold lstR1 at em
    split at em
    · split at em
      · cases em
        unfold Rep at r1
        refine ⟨_, r1, okR_iff (by assumption), fun q' hq => ?_⟩
        rw [rgV_eq]
        exact q q' _ _ _ (x1.trans (.own x1.sub hq)) (x1.heap.free hq) upd_same ⟨_, rfl, Reps.ofInts _⟩ (x1.sub.none hq)
      · cases em
    · cases em
theorem f_lstR2 (hm : G.mg "list" = none) (hm2 : G.mg "range" = none) (ha : EOk G L ρ a ma) (hb : EOk G L ρ b mb) (hg : GlS L "list" := by rfl) (hg2 : GlS L "range" := by rfl) (hs : ∀ env, starEach [a, b] env = (false, eval a env) :: starEach [b] env := by intro _; rfl)
    (hsb : ∀ env, starEach [b] env = (false, eval b env) :: starEach [] env := by intro _; rfl) (hpl : ∀ env, (backTo pos2 (starEach [b] env)).any (·.1) = false := by intro _; rfl)
    (hs2 : ∀ env, starEach [.Call (.Name "range" p2) [a, b] [] pos2] env = (false, eval (.Call (.Name "range" p2) [a, b] [] pos2) env) :: starEach [] env := by intro _; rfl) :
    FOk G L ρ (.Call (.Name "list" p) [.Call (.Name "range" p2) [a, b] [] pos2] [] pos) (E2 lstR2 ma mb) := fun X hX =>
  wkE (pe_listRg hX.calm (gl_of hX hg) (by rw [hX.hm]; exact hm) (prg_2 (gl_of hX hg2) (by rw [hX.hm]; exact hm2) (ha X hX) (hb X hX) (hs _) (hsb _) (hpl _)) (hs2 _)) fun σ H Q ⟨F, d, em, vr, q⟩ => by
    obtain ⟨x, y, ex, ey, em⟩ := E2_some em
    refine ⟨F, x, ex, vr, fun v F1 H1 x1 r1 => ⟨F1, y, ey, vr.ext x1, fun v2 F2 H2 x2 r2 => ?_⟩⟩
    unfold lstR2 at em
    split at em
    · split at em
      · cases em
        unfold Rep at r1 r2
        refine ⟨_, _, r1, r2, okR_iff (by assumption), fun q' hq => ?_⟩
        rw [rgV_eq]
        have xx := x1.trans x2
        exact q q' _ _ _ (xx.trans (.own xx.sub hq)) (xx.heap.free hq) upd_same ⟨_, rfl, Reps.ofInts _⟩ (xx.sub.none hq)
      · cases em
    · cases em
end
/-! ### comprehensions of two clauses -/
def lc2D (nt : D → Option Bool) (mi : D → Option (List D)) (nt1 : D → D → Option Bool) (f : D → D → Option D) : List D → Option (List D)
  | [] => some []
  | d :: ds => (nt d).bind fun b => if b = true then (mi d).bind fun es => (lcD (nt1 d) (f d) es).bind fun ys => (lc2D nt mi nt1 f ds).map (ys ++ ·) else lc2D nt mi nt1 f ds
def LC2 (mi0 : Option (List D)) (nt : D → Option Bool) (mi : D → Option (List D)) (nt1 : D → D → Option Bool) (f : D → D → Option D) : Option D := (mi0.bind (lc2D nt mi nt1 f)).bind lstD
section
variable {G : GX} {L : LX} {ρ : List Sl} {tg iter elt tg1 iter1 : Expr} {ifs ifs1 : List Expr} {scope : Scope} {own : List (Str × Nat)} {pos : Pos} {g g1 : TGD} {nt : D → Option Bool} {mi : D → Option (List D)} {nt1 : D → D → Option Bool} {f : D → D → Option D} {mi0 : Option (List D)} {vs1 : List Nat}
def rho2 (ρ : List Sl) (vs vs1 : List Nat) (as as1 : List (Nat × D)) : List Sl := setAll (wipeS (setAll (wipeS ρ vs) as) vs1) as1
def tiD (K : PySem.W.Frag) (ρ : List Sl) (vs : List Nat) (g : TGD) (mi : D → Option (List D)) : TI := fun σ H R => ∃ d as, g d = some as ∧ tI K (setAll (wipeS ρ vs) as) (mi d) σ H R
def ts2D (K : PySem.W.Frag) (ρ : List Sl) (vs vs1 : List Nat) (g g1 : TGD) (nt1 : D → D → Option Bool) : TT := fun σ H Q => ∃ d as e as1, g d = some as ∧ g1 e = some as1 ∧ tT K (rho2 ρ vs vs1 as as1) (nt1 d e) σ H Q
def te2D (K : PySem.W.Frag) (ρ : List Sl) (vs vs1 : List Nat) (g g1 : TGD) (f : D → D → Option D) : TE := fun σ H Q => ∃ d as e as1, g d = some as ∧ g1 e = some as1 ∧ tE K (rho2 ρ vs vs1 as as1) (f d e) σ H Q
theorem lc2_read {K : PySem.W.Frag} {σ : L2.St} {H : Hp} {Q : VK} {vs : List Nat} (hv : ∀ d as, g d = some as → ∀ i ∈ as.map (·.1), i ∈ vs) (h0 : ∀ d, g d = none → nt d = none)
    (hv1 : ∀ d as, g1 d = some as → ∀ i ∈ as.map (·.1), i ∈ vs1) (h01 : ∀ d e, g1 e = none → nt1 d e = none) (h : tF K ρ (LC2 mi0 nt mi nt1 f) σ H Q) :
    tLc2 (tI K ρ mi0) (tG K g) (tsD K ρ vs g nt) (tiD K ρ vs g mi) (tG K g1) (ts2D K ρ vs vs1 g g1 nt1) (te2D K ρ vs vs1 g g1 f) vs vs1 σ H Q := by
  obtain ⟨F, d, em, vr, q⟩ := h
  obtain ⟨all, ea, el⟩ := Option.bind_eq_some_iff.mp em
  obtain ⟨ds, emi, ea⟩ := Option.bind_eq_some_iff.mp ea
  unfold lstD at el
  split at el
  · rename_i hlen
    cases el
    refine ⟨F, ds, emi, vr, fun J F1 H1 x1 w D hD => ?_⟩
    have fD : F1 D = none := x1.sub.none hD
    refine ⟨fun i m H2 => m = ds.length - i ∧ i ≤ ds.length ∧ ∃ F2 acc rest vacc, Ext F1 H1 F2 H2 ∧ F2 D = none ∧ H2 D = some (.lst vacc) ∧ Reps K F2 acc vacc ∧ lc2D nt mi nt1 f (ds.drop i) = some rest ∧ all = acc ++ rest,
      ⟨_, rfl, Nat.zero_le _, F1, [], all, [], .own x1.sub hD, fD, upd_same, .nil, ea, rfl⟩, ?_⟩
    rintro i m H2 ⟨rfl, hi, F2, acc, rest, vacc, x2, fD2, hD2, rv, er, eall⟩
    by_cases hlt : i < ds.length
    · refine .inr ⟨w.goes i F2 H2 hlt x2.froz x2.sub (.ext x1.sub x2.heap), fun H' => i + 1 ≤ ds.length ∧ ∃ F2 acc rest vacc, Ext F1 H1 F2 H' ∧ F2 D = none ∧ H' D = some (.lst vacc) ∧ Reps K F2 acc vacc ∧ lc2D nt mi nt1 f (ds.drop (i + 1)) = some rest ∧ all = acc ++ rest,
        fun H' ⟨h1, h2⟩ => ⟨_, by omega, rfl, h1, h2⟩, fun x H3 y3 => ?_⟩
      have hd : ds[i]? = some ds[i] := List.getElem?_eq_getElem hlt
      rw [List.drop_eq_getElem_cons hlt] at er
      generalize ds[i] = dd at hd er
      obtain ⟨F3, x3, r3⟩ := w.yields i F2 H2 x H3 dd x2.froz x2.sub (.ext x1.sub x2.heap) hd y3
      have fDx : ∀ {Fa Ha Fb Hb : Hp} {va : List V}, Fa D = none → Ha D = some (.lst va) → Ext Fa Ha Fb Hb → Fb D = none := fun {Fa Ha Fb Hb va} h1 h2 xx => xx.stay h1 h2 fun vs z => nomatch z
      have hD3 := x3.heap _ _ hD2
      have fD3 := fDx fD2 hD2 x3
      obtain ⟨b, eb, er⟩ := Option.bind_eq_some_iff.mp er
      cases eg : g dd with
      | none => rw [h0 dd eg] at eb; cases eb
      | some as =>
        refine ⟨F3, dd, as, x3.sub, r3, eg, fun ws hw => ⟨?_, ?_⟩⟩
        · rw [wipe_many _ _ _ (hv dd as eg), wipe_wipe]
        · have vr2 : ∀ {Fb Hb : Hp}, Ext F1 H1 Fb Hb → Same F3 Fb → VR K (setAll (wipeS ρ vs) as) (setMany (wipe σ vs) (as.map (·.1)) ws) Fb Hb := fun {Fb Hb} xx sm => VR.setMany as ws ((vr.ext (x1.trans xx)).wipe vs) (Reps.mono sm _ _ hw)
          have x23 := x2.trans x3
          refine ⟨dd, as, eg, F3, b, eb, vr2 x23 (Same.refl _), fun F4 H4 x4 => ?_⟩
          have hD4 := x4.heap _ _ hD3
          have fD4 := fDx fD3 hD3 x4
          have x24 := x23.trans x4
          cases b with
          | false =>
            rw [if_neg Bool.false_ne_true] at er
            refine Eq.mpr (if_neg Bool.false_ne_true) ?_
            exact ⟨hlt, F4, acc, rest, vacc, x24, fD4, hD4, Reps.mono (x3.trans x4).froz _ _ rv, er, eall⟩
          | true =>
            rw [if_pos rfl] at er
            refine Eq.mpr (if_pos rfl) ?_
            obtain ⟨es, ees, er⟩ := Option.bind_eq_some_iff.mp er
            obtain ⟨ys, eys, er⟩ := Option.bind_eq_some_iff.mp er
            obtain ⟨rest2, er2, rfl⟩ := Option.map_eq_some_iff.mp er
            refine ⟨dd, as, eg, F4, es, ees, vr2 x24 x4.froz, fun J1 F5 H5 x5 w1 => ?_⟩
            have x25 := x24.trans x5
            refine ⟨fun j k H6 => k = es.length - j ∧ j ≤ es.length ∧ ∃ F6 acc2 ys2 vacc2, Ext F1 H1 F6 H6 ∧ (Same F5 F6 ∧ On F5 H5 H6) ∧ F6 D = none ∧ H6 D = some (.lst vacc2) ∧ Reps K F6 acc2 vacc2 ∧ lcD (nt1 dd) (f dd) (es.drop j) = some ys2 ∧ all = acc2 ++ (ys2 ++ rest2),
              ⟨_, rfl, Nat.zero_le _, F5, acc, ys, vacc, x25, ⟨Same.refl _, .refl⟩, fDx fD4 hD4 x5, x5.heap _ _ hD4, Reps.mono ((x3.trans x4).trans x5).froz _ _ rv, eys, eall⟩, ?_⟩
            rintro j k H6 ⟨rfl, hj, F6, acc2, ys2, vacc2, x6, ⟨s6, o6⟩, fD6, hD6, rv6, ey6, eall6⟩
            by_cases hjl : j < es.length
            · refine .inr ⟨w1.goes j F6 H6 hjl s6 x6.sub o6, fun H' => j + 1 ≤ es.length ∧ ∃ F6 acc2 ys2 vacc2, Ext F1 H1 F6 H' ∧ (Same F5 F6 ∧ On F5 H5 H') ∧ F6 D = none ∧ H' D = some (.lst vacc2) ∧ Reps K F6 acc2 vacc2 ∧ lcD (nt1 dd) (f dd) (es.drop (j + 1)) = some ys2 ∧ all = acc2 ++ (ys2 ++ rest2),
                fun H' ⟨h1, h2⟩ => ⟨_, by omega, rfl, h1, h2⟩, fun x' H7 y7 => ?_⟩
              have he : es[j]? = some es[j] := List.getElem?_eq_getElem hjl
              rw [List.drop_eq_getElem_cons hjl] at ey6
              generalize es[j] = ee at he ey6
              obtain ⟨F7, x7, r7⟩ := w1.yields j F6 H6 x' H7 ee s6 x6.sub o6 he y7
              obtain ⟨b1, eb1, cases_⟩ := lcD_cons ey6
              have hD7 := x7.heap _ _ hD6
              have fD7 := fDx fD6 hD6 x7
              cases eg1 : g1 ee with
              | none => rw [h01 dd ee eg1] at eb1; cases eb1
              | some as1 =>
                refine ⟨F7, ee, as1, x7.sub, r7, eg1, fun ws1 hw1 => ⟨?_, ?_⟩⟩
                · rw [wipe_many _ _ _ (hv1 ee as1 eg1), wipe_wipe]
                · have s37 : Same F3 F6 := (x4.froz.trans x5.froz).trans s6
                  have vr3 : VR K (rho2 ρ vs vs1 as as1) (setMany (wipe (setMany (wipe σ vs) (as.map (·.1)) ws) vs1) (as1.map (·.1)) ws1) F7 H7 := VR.setMany as1 ws1 ((vr2 (x6.trans x7) (s37.trans x7.froz)).wipe vs1) hw1
                  refine ⟨dd, as, ee, as1, eg, eg1, F7, b1, eb1, vr3, fun F8 H8 x8 => ?_⟩
                  have hD8 := x8.heap _ _ hD7
                  have fD8 := fDx fD7 hD7 x8
                  rcases cases_ with ⟨rfl, y, ys3, ey, eys3, rfl⟩ | ⟨rfl, er3⟩
                  · refine Eq.mpr (if_pos rfl) ?_
                    refine ⟨dd, as, ee, as1, eg, eg1, F8, y, ey, vr3.ext x8, fun v F9 H9 x9 r9 => ?_⟩
                    have xx := (x7.trans x8).trans x9
                    have hD9 := x9.heap _ _ hD8
                    have fD9 := fDx fD8 hD8 x9
                    refine ⟨vacc2, hD9, ?_, hjl, F9, acc2 ++ [y], ys3, vacc2 ++ [v], ?_, ⟨s6.trans xx.froz, ?_⟩, fD9, upd_same, (Reps.mono xx.froz _ _ rv6).append (.cons r9 .nil), eys3, by rw [eall6]; simp⟩
                    · rw [← rv6.len, sizeLine_eq]
                      rw [eall6, List.length_append, List.length_append, List.length_cons] at hlen
                      omega
                    · have xa := x6.trans xx
                      refine ⟨fun b o e => ?_, xa.froz, fun b o e => ?_, xa.new⟩
                      · rw [upd_ne (fun z => by subst z; rw [hD] at e; cases e)]; exact xa.heap b o e
                      · rw [upd_ne (fun z => by subst z; rw [fD9] at e; cases e)]; exact xa.sub b o e
                    · intro a o e
                      have hne : a ≠ D := fun z => by
                        subst z
                        have := s6 _ _ e
                        rw [fD6] at this; cases this
                      rw [upd_ne hne]
                      exact (On.ext x6.sub xx.heap a o (s6 _ _ e)).trans (o6 a o e)
                  · refine Eq.mpr (if_neg Bool.false_ne_true) ?_
                    have xx := x7.trans x8
                    exact ⟨hjl, F8, acc2, ys2, vacc2, x6.trans xx, ⟨s6.trans xx.froz, fun a o e => (On.ext x6.sub xx.heap a o (s6 _ _ e)).trans (o6 a o e)⟩, fD8, hD8, Reps.mono xx.froz _ _ rv6, er3, eall6⟩
            · have hj' : j = es.length := by omega
              subst hj'
              rw [List.drop_length] at ey6
              cases ey6
              exact .inl ⟨w1.stops F6 H6 s6 x6.sub o6, hlt, F6, acc2, rest2, vacc2, x6, fD6, hD6, rv6, er2, by rw [eall6]; rfl⟩
    · have hi' : i = ds.length := by omega
      subst hi'
      rw [List.drop_length] at er
      cases er
      rw [List.append_nil] at eall
      subst eall
      refine .inl ⟨w.stops F2 H2 x2.froz x2.sub (.ext x1.sub x2.heap), ?_⟩
      have x6 := x1.trans x2
      exact q D (.lst vacc) F2 H2 x6 (x1.heap.free hD) hD2 ⟨vacc, rfl, rv⟩ fD2
  · cases el
structure Lc2Ok (G : GX) (L : LX) (ρ : List Sl) (tg tg1 iter1 elt : Expr) (ifs ifs1 : List Expr) (scope : Scope) (own : List (Str × Nat)) (vs1 : List Nat) (g g1 : TGD) (nt : D → Option Bool) (mi : D → Option (List D)) (nt1 : D → D → Option Bool) (f : D → D → Option D) : Prop where
  blk : blkC L.N L.sc scope own = true
  tgt : GOk G (L.blk scope) tg g
  tgt1 : GOk G (L.blk scope) tg1 g1
  ins : ∀ d as, g d = some as → ∀ i ∈ as.map (·.1), i ∈ own.map (·.2)
  ins1 : ∀ d as, g1 d = some as → ∀ i ∈ as.map (·.1), i ∈ vs1
  sub : ∀ i ∈ vs1, i ∈ own.map (·.2)
  bad : ∀ d, g d = none → nt d = none
  bad1 : ∀ d e, g1 e = none → nt1 d e = none
  ifs : ∀ d as, g d = some as → TsOk G (L.blk scope) (setAll (wipeS ρ (own.map (·.2))) as) ifs (nt d)
  it1 : ∀ d as, g d = some as → IOk G (L.blk scope) (setAll (wipeS ρ (own.map (·.2))) as) tg1 iter1 (mi d)
  ifs1 : ∀ d as e as1, g d = some as → g1 e = some as1 → TsOk G (L.blk scope) (rho2 ρ (own.map (·.2)) vs1 as as1) ifs1 (nt1 d e)
  elt : ∀ d as e as1, g d = some as → g1 e = some as1 → EOk G (L.blk scope) (rho2 ρ (own.map (·.2)) vs1 as as1) elt (f d e)
theorem f_lc2 (hi : IOk G L ρ tg iter mi0) (h : Lc2Ok G L ρ tg tg1 iter1 elt ifs ifs1 scope own vs1 g g1 nt mi nt1 f) (hs : ∀ env x, foldedSetIterable iter env x = pure x := by intro _ _; rfl) (hs1 : ∀ env x, foldedSetIterable iter1 env x = pure x := by intro _ _; rfl) :
    FOk G L ρ (.ListComp elt [⟨tg, iter, ifs, 0⟩, ⟨tg1, iter1, ifs1, 0⟩] scope pos) (LC2 mi0 nt mi nt1 f) := fun X hX =>
  wkE (pe_lc2 (own := own) (g := tG G.K g) (g1 := tG G.K g1) (tt := tsD G.K ρ (own.map (·.2)) g nt) (wi1 := tiD G.K ρ (own.map (·.2)) g mi) (tt1 := ts2D G.K ρ (own.map (·.2)) vs1 g g1 nt1) (te := te2D G.K ρ (own.map (·.2)) vs1 g g1 f) hX.calm (by rw [hX.hN]; exact hX.nd) (hi X hX) (blkOk_by (by rw [hX.hN, hX.hsc]; exact h.blk)) h.sub
    (fun s H C cl fp => h.tgt _ (hX.blk s H scope C cl fp))
    (fun s H C cl fp => ⟨fun pins s' σ H' Q I ⟨d, as, eg, q⟩ => (h.ifs d as eg _ (hX.blk s H scope C cl fp)).run pins s' σ H' Q I q⟩)
    (fun s H C cl fp => ⟨fun pins s' σ H' R I ⟨d, as, eg, q⟩ => (h.it1 d as eg _ (hX.blk s H scope C cl fp)).run pins s' σ H' R I q⟩)
    (fun s H C cl fp => h.tgt1 _ (hX.blk s H scope C cl fp))
    (fun s H C cl fp => ⟨fun pins s' σ H' Q I ⟨d, as, e, as1, eg, eg1, q⟩ => (h.ifs1 d as e as1 eg eg1 _ (hX.blk s H scope C cl fp)).run pins s' σ H' Q I q⟩)
    (fun s H C cl fp => ⟨fun pins s' σ H' Q I ⟨d, as, e, as1, eg, eg1, q⟩ => (h.elt d as e as1 eg eg1 _ (hX.blk s H scope C cl fp)).run pins s' σ H' Q I q⟩) (hs _) hs1) fun σ H Q q => lc2_read h.ins h.bad h.ins1 h.bad1 q
theorem l2_11 {i j : Nat} (blk : blkC L.N L.sc scope own = true) (hg : GOk G (L.blk scope) tg (gN i)) (hg1 : GOk G (L.blk scope) tg1 (gN j)) (hi : i ∈ own.map (·.2)) (hj : j ∈ vs1) (hs : ∀ x ∈ vs1, x ∈ own.map (·.2))
    (ht : ∀ d, TsOk G (L.blk scope) (setS (wipeS ρ (own.map (·.2))) i (.val d)) ifs (nt d)) (hit : ∀ d, IOk G (L.blk scope) (setS (wipeS ρ (own.map (·.2))) i (.val d)) tg1 iter1 (mi d))
    (ht1 : ∀ d e, TsOk G (L.blk scope) (setS (wipeS (setS (wipeS ρ (own.map (·.2))) i (.val d)) vs1) j (.val e)) ifs1 (nt1 d e)) (he : ∀ d e, EOk G (L.blk scope) (setS (wipeS (setS (wipeS ρ (own.map (·.2))) i (.val d)) vs1) j (.val e)) elt (f d e)) :
    Lc2Ok G L ρ tg tg1 iter1 elt ifs ifs1 scope own vs1 (gN i) (gN j) nt mi nt1 f :=
  ⟨blk, hg, hg1, fun d as e k hk => (by cases e; simp at hk; subst hk; exact hi), fun d as e k hk => (by cases e; simp at hk; subst hk; exact hj), hs, fun d e => (by cases e), fun d e h => (by cases h), fun d as e => (by cases e; exact ht d), fun d as e => (by cases e; exact hit d),
    fun d as e as1 h h1 => (by cases h; cases h1; exact ht1 d e), fun d as e as1 h h1 => (by cases h; cases h1; exact he d e)⟩
def un21 {α : Type} (f : D → D → D → Option α) (d e : D) : Option α := un2 (fun a b => f a b e) d
theorem l2_21 {i i2 j : Nat} {nt : D → D → Option Bool} {mi : D → D → Option (List D)} {nt1 : D → D → D → Option Bool} {f : D → D → D → Option D} (blk : blkC L.N L.sc scope own = true) (hg : GOk G (L.blk scope) tg (gT [gN i, gN i2])) (hg1 : GOk G (L.blk scope) tg1 (gN j)) (hi : i ∈ own.map (·.2)) (hi2 : i2 ∈ own.map (·.2)) (hj : j ∈ vs1) (hs : ∀ x ∈ vs1, x ∈ own.map (·.2))
    (ht : ∀ a b, TsOk G (L.blk scope) (setS (setS (wipeS ρ (own.map (·.2))) i (.val a)) i2 (.val b)) ifs (nt a b)) (hit : ∀ a b, IOk G (L.blk scope) (setS (setS (wipeS ρ (own.map (·.2))) i (.val a)) i2 (.val b)) tg1 iter1 (mi a b))
    (ht1 : ∀ a b e, TsOk G (L.blk scope) (setS (wipeS (setS (setS (wipeS ρ (own.map (·.2))) i (.val a)) i2 (.val b)) vs1) j (.val e)) ifs1 (nt1 a b e)) (he : ∀ a b e, EOk G (L.blk scope) (setS (wipeS (setS (setS (wipeS ρ (own.map (·.2))) i (.val a)) i2 (.val b)) vs1) j (.val e)) elt (f a b e)) :
    Lc2Ok G L ρ tg tg1 iter1 elt ifs ifs1 scope own vs1 (gT [gN i, gN i2]) (gN j) (un2 nt) (un2 mi) (un21 nt1) (un21 f) := by
  refine ⟨blk, hg, hg1, fun d as e k hk => ?_, fun d as e k hk => (by cases e; simp at hk; subst hk; exact hj), hs, fun d e => ?_, fun d e h => (by cases h), fun d as e => ?_, fun d as e => ?_, fun d as e as1 h h1 => ?_, fun d as e as1 h h1 => ?_⟩
  · obtain ⟨a, b, as1, as2, rfl, e1, e2, rfl⟩ := gT2_inv e
    cases e1; cases e2
    simp at hk
    rcases hk with rfl | rfl
    · exact hi
    · exact hi2
  · unfold un2
    split
    · cases e
    · rfl
  · obtain ⟨a, b, as1, as2, rfl, e1, e2, rfl⟩ := gT2_inv e
    cases e1; cases e2
    exact ht a b
  · obtain ⟨a, b, as1, as2, rfl, e1, e2, rfl⟩ := gT2_inv e
    cases e1; cases e2
    exact hit a b
  · obtain ⟨a, b, as2, as3, rfl, e1, e2, rfl⟩ := gT2_inv h
    cases e1; cases e2; cases h1
    exact ht1 a b e
  · obtain ⟨a, b, as2, as3, rfl, e1, e2, rfl⟩ := gT2_inv h
    cases e1; cases e2; cases h1
    exact he a b e
/-- x = [.. for .. for ..] on the comprehension's own line -/
theorem b_lc2 {R : Type} {rest : List Stmt} {k : KS R} {M : D → Option R} {x : Str} {pos' p2 : Pos} (j : Nat) (hi : IOk G L ρ tg iter mi0) (h : Lc2Ok G L ρ tg tg1 iter1 elt ifs ifs1 scope own vs1 g g1 nt mi nt1 f)
    (hr : ∀ d, BOk G L (setS ρ j (.own d)) rest k (M d)) (hj : L.N[j]? = some x := by rfl) (hx : L.sc.names.lookup x = some .local := by rfl) (hk : L.sc.kind = .function := by rfl) (hl : (pos'.line == p2.line) = true := by rfl)
    (ho : (scope.names.any fun (n, k) => n == x && (k == .local || k == .cell)) = false := by decide +kernel) (hs : ∀ env x, foldedSetIterable iter env x = pure x := by intro _ _; rfl) (hs1 : ∀ env x, foldedSetIterable iter1 env x = pure x := by intro _ _; rfl) :
    BOk G L ρ (.Assign [.Name x pos'] (.ListComp elt [⟨tg, iter, ifs, 0⟩, ⟨tg1, iter1, ifs1, 0⟩] scope p2) pos :: rest) k ((LC2 mi0 nt mi nt1 f).bind M) := fun X hX =>
  wkSs (seqU (ps_setLc2 (i := j) (own := own) (g := tG G.K g) (g1 := tG G.K g1) (tt := tsD G.K ρ (own.map (·.2)) g nt) (wi1 := tiD G.K ρ (own.map (·.2)) g mi) (tt1 := ts2D G.K ρ (own.map (·.2)) vs1 g g1 nt1) (te := te2D G.K ρ (own.map (·.2)) vs1 g g1 f) hX.calm (by rw [hX.hN]; exact hX.nd) (by rw [hX.hN]; exact hj) (by rw [hX.hsc]; exact hx)
      (sw_true (by rw [hX.hsc]; exact hk) (by rw [hX.hsc]; exact hx) hl ho) (hi X hX) (blkOk_by (by rw [hX.hN, hX.hsc]; exact h.blk)) h.sub
    (fun s H C cl fp => h.tgt _ (hX.blk s H scope C cl fp))
    (fun s H C cl fp => ⟨fun pins s' σ H' Q I ⟨d, as, eg, q⟩ => (h.ifs d as eg _ (hX.blk s H scope C cl fp)).run pins s' σ H' Q I q⟩)
    (fun s H C cl fp => ⟨fun pins s' σ H' R I ⟨d, as, eg, q⟩ => (h.it1 d as eg _ (hX.blk s H scope C cl fp)).run pins s' σ H' R I q⟩)
    (fun s H C cl fp => h.tgt1 _ (hX.blk s H scope C cl fp))
    (fun s H C cl fp => ⟨fun pins s' σ H' Q I ⟨d, as, e, as1, eg, eg1, q⟩ => (h.ifs1 d as e as1 eg eg1 _ (hX.blk s H scope C cl fp)).run pins s' σ H' Q I q⟩)
    (fun s H C cl fp => ⟨fun pins s' σ H' Q I ⟨d, as, e, as1, eg, eg1, q⟩ => (h.elt d as e as1 eg eg1 _ (hX.blk s H scope C cl fp)).run pins s' σ H' Q I q⟩) (hs _) hs1) fun d => hr d X hX) fun D σ H ⟨B, F0, F, r, em, er, q⟩ => by
    obtain ⟨d, ed, em⟩ := Option.bind_eq_some_iff.mp em
    exact lc2_read (Q := fun x H1 => gName j x σ H1 fun σ H => ∃ d, tS G.K (setS ρ j (.own d)) k (M d) D σ H) h.ins h.bad h.ins1 h.bad1 ⟨F, d, ed, er.vr, fun p o F' H' x n ho ow hF => ⟨d, B, F0, F', r, em, own_new er x n ho ow hF j, q⟩⟩
end
section
variable {R S : Type} {G : GX} {L : LX} {ρ : List Sl} {v : S → List Sl} {body rest : List Stmt} {k : KS R} {tg iter : Expr} {pos : Pos} {mi : Option (List D)} {s0 : S} {M : S → Option R}
theorem c_forN1 {i : Nat} {Bd : S → D → Option (Lp S)} (hi : IOk G L ρ tg iter mi) (hg : GOk G L tg (gN i)) (h0 : leS (v s0) ρ) (hb : ∀ s a, BOk G L (setS (v s) i (.val a)) body (kL G.K v) (Bd s a)) (hr : ∀ s, BOk G L (v s) rest k (M s)) (hs : ∀ env x, foldedSetIterable iter env x = pure x := by intro _ _; rfl) : BOk G L ρ (.For tg iter body [] pos :: rest) k ((mi.bind fun ds => forB Bd s0 ds).bind M) :=
  b_forN hi hg h0 (fun s d h => nomatch h) (fun s d as e => by cases e; exact hb s d) hr hs
theorem c_forN2 {i j : Nat} {Bd : S → D → D → Option (Lp S)} (hi : IOk G L ρ tg iter mi) (hg : GOk G L tg (gT [gN i, gN j])) (h0 : leS (v s0) ρ) (hb : ∀ s a b, BOk G L (setS (setS (v s) i (.val a)) j (.val b)) body (kL G.K v) (Bd s a b)) (hr : ∀ s, BOk G L (v s) rest k (M s)) (hs : ∀ env x, foldedSetIterable iter env x = pure x := by intro _ _; rfl) : BOk G L ρ (.For tg iter body [] pos :: rest) k ((mi.bind fun ds => forB (fun s => un2 (Bd s)) s0 ds).bind M) :=
  b_forN hi hg h0 (fun s d h => by unfold un2; split <;> first | cases h | rfl) (fun s d as e => by obtain ⟨a, b, as1, as2, rfl, e1, e2, rfl⟩ := gT2_inv e; cases e1; cases e2; exact hb s a b) hr hs
theorem c_forN3 {i j l : Nat} {Bd : S → D → D → D → Option (Lp S)} (hi : IOk G L ρ tg iter mi) (hg : GOk G L tg (gT [gN i, gN j, gN l])) (h0 : leS (v s0) ρ) (hb : ∀ s a b c, BOk G L (setS (setS (setS (v s) i (.val a)) j (.val b)) l (.val c)) body (kL G.K v) (Bd s a b c)) (hr : ∀ s, BOk G L (v s) rest k (M s)) (hs : ∀ env x, foldedSetIterable iter env x = pure x := by intro _ _; rfl) : BOk G L ρ (.For tg iter body [] pos :: rest) k ((mi.bind fun ds => forB (fun s => un3 (Bd s)) s0 ds).bind M) :=
  b_forN hi hg h0 (fun s d h => by unfold un3; split <;> first | cases h | rfl) (fun s d as e => by obtain ⟨a, b, c, as1, as2, as3, rfl, e1, e2, e3, rfl⟩ := gT3_inv e; cases e1; cases e2; cases e3; exact hb s a b c) hr hs
theorem c_forN4 {i j l q : Nat} {Bd : S → D → D → D → D → Option (Lp S)} (hi : IOk G L ρ tg iter mi) (hg : GOk G L tg (gT [gN i, gN j, gN l, gN q])) (h0 : leS (v s0) ρ) (hb : ∀ s a b c d, BOk G L (setS (setS (setS (setS (v s) i (.val a)) j (.val b)) l (.val c)) q (.val d)) body (kL G.K v) (Bd s a b c d)) (hr : ∀ s, BOk G L (v s) rest k (M s)) (hs : ∀ env x, foldedSetIterable iter env x = pure x := by intro _ _; rfl) : BOk G L ρ (.For tg iter body [] pos :: rest) k ((mi.bind fun ds => forB (fun s => un4 (Bd s)) s0 ds).bind M) :=
  b_forN hi hg h0 (fun s d h => by unfold un4; split <;> first | cases h | rfl) (fun s d as e => by obtain ⟨a, b, c, d, as1, as2, as3, as4, rfl, e1, e2, e3, e4, rfl⟩ := gT4_inv e; cases e1; cases e2; cases e3; cases e4; exact hb s a b c d) hr hs
end
/-! ### a module's constants -/
theorem e_gI {G : GX} {L : LX} {ρ : List Sl} {x : Str} {i : Int} {pos : Pos} (h : ∃ u, G.mg x = some u ∧ RelV (.int i) u) (hg : L.sc.names.lookup x = some .globalImplicit := by rfl) (hd : (x == ("__debug__" : Str)) = false := by decide) : EOk G L ρ (.Name x pos) (some (.int i)) := by
  obtain ⟨u, h1, h2⟩ := h
  exact e_glob hg h1 h2 (fun _ _ => rep_i) hd
theorem e_gS {G : GX} {L : LX} {ρ : List Sl} {x s : Str} {pos : Pos} (h : ∃ u, G.mg x = some u ∧ RelV (.str s) u) (hg : L.sc.names.lookup x = some .globalImplicit := by rfl) (hd : (x == ("__debug__" : Str)) = false := by decide) : EOk G L ρ (.Name x pos) (some (.str s)) := by
  obtain ⟨u, h1, h2⟩ := h
  exact e_glob hg h1 h2 (fun _ _ => rep_s) hd
end DL
set_option autoImplicit false
set_option maxRecDepth 100000
set_option maxHeartbeats 4000000
namespace DL
open PySem PySem.Spec PySem.SeqAt PyProof.Rows L2
/-! ### a loop, over any walk -/
section
variable {R S : Type} {G : GX} {L : LX} {ρ : List Sl} {v : S → List Sl} {body rest : List Stmt} {k : KS R} {tg iter c : Expr} {pos p1 : Pos} {g : TGD} {mi : Option (List D)} {s0 : S} {M : S → Option R} {x : Str}
theorem forR_core {K : PySem.W.Frag} {wi : TI} {B F0 F H : Hp} {σ : L2.St} {E : Ends} {ds : List D} {Bd : S → D → Option (Lp S)} {sf : Rs S D} (hw : ∀ R', (∀ J F1 H1, Ext F H F1 H1 → WalkD K J F1 H1 ds → R' J H1) → wi σ H R')
    (er : ER K B F0 ρ σ F H) (h0 : leS (v s0) ρ) (bad : ∀ s d, g d = none → Bd s d = none) (ef : forR Bd s0 ds = some sf) (nx : ∀ s σ2 F2 H2, sf = .nx s → ER K B F0 (v s) σ2 F2 H2 → E.nx σ2 H2) (rt : ∀ d, sf = .ex d → kD K d B F0 E) :
    tFor wi (tG K g) (tbD K v g (kL K v) Bd) E σ H := by
  refine hw _ fun J F1 H1 x1 w => ?_
  obtain ⟨B', er1, hon, bk1, bk2⟩ := (er.go x1).hold
  have on : ∀ {F2 H2 : Hp} {s : S} {σ2 : L2.St}, ER K B' F1 (v s) σ2 F2 H2 → On F1 H1 H2 := fun {F2 H2 s σ2} e a o h => by
    have h0 := hon a o h
    rcases x1.sub a o h with z | ⟨_, ob, z⟩ <;> rw [z] at h0 <;> rw [e.ret.keep _ _ h0, z]
  have nxt : ∀ (s : S) (σ2 : L2.St) (F2 H2 : Hp), sf = .nx s → ER K B' F1 (v s) σ2 F2 H2 → E.nx σ2 H2 := fun s σ2 F2 H2 e er2 => nx s σ2 F2 H2 e (ER.back bk1 bk2 er2)
  refine ⟨fun i m σ H => m = ds.length - i ∧ i ≤ ds.length ∧ ∃ s F2, ER K B' F1 (v s) σ F2 H ∧ forR Bd s (ds.drop i) = some sf, ⟨_, rfl, Nat.zero_le _, s0, F1, er1.le h0, ef⟩, ?_⟩
  rintro i m σ2 H2 ⟨rfl, hi, s, F2, er2, ef2⟩
  by_cases hlt : i < ds.length
  · refine .inr ⟨w.goes i F2 H2 hlt er2.ret.ext er2.vr.sub (on er2), fun σ H => i + 1 ≤ ds.length ∧ ∃ s F2, ER K B' F1 (v s) σ F2 H ∧ forR Bd s (ds.drop (i + 1)) = some sf, fun σ' H' ⟨a, b⟩ => ⟨_, by omega, rfl, a, b⟩, fun x H3 y => ?_⟩
    have hd : ds[i]? = some ds[i] := List.getElem?_eq_getElem hlt
    rw [List.drop_eq_getElem_cons hlt] at ef2
    generalize ds[i] = dd at hd ef2
    obtain ⟨s', es', ef2⟩ := Option.bind_eq_some_iff.mp ef2
    obtain ⟨F3, x3, r3⟩ := w.yields i F2 H2 x H3 dd er2.ret.ext er2.vr.sub (on er2) hd y
    cases eg : g dd with
    | none => rw [bad s dd eg] at es'; cases es'
    | some as =>
      refine ⟨F3, dd, as, x3.sub, r3, eg, fun ws hw => ⟨s, dd, as, eg, B', F1, F3, s', es', (er2.go x3).setMany as ws hw, ?_⟩⟩
      cases s' with
      | go s' => exact ⟨fun σ4 F4 H4 er4 => ⟨hlt, s', F4, er4, ef2⟩, fun σ4 F4 H4 er4 => ⟨hlt, s', F4, er4, ef2⟩⟩
      | br s' => cases ef2; exact ⟨fun σ4 F4 H4 er4 => nxt _ _ _ _ rfl er4, trivial⟩
      | rt d => cases ef2; exact ⟨fun vv F5 H5 r5 rv => rt _ rfl vv F5 H5 (bk2 _ _ r5) rv, trivial⟩
  · have : i = ds.length := by omega
    subst this
    rw [List.drop_length] at ef2
    cases ef2
    exact .inl ⟨w.stops F2 H2 er2.ret.ext er2.vr.sub (on er2), nxt _ _ _ _ rfl er2⟩
/-! ### the keys of a dict -/
def keysD : D → Option (List D)
  | .dI kvs => some (kvs.map fun kv => .int kv.1)
  | .dT kvs => some (kvs.map fun kv => .tup (kv.1.map .int))
  | _ => none
theorem keysT_at {K : PySem.W.Frag} {F : Hp} : ∀ {kvs : List (List Int × D)} {ws : List (List Key × V)} {i : Nat} {kx : List Key} {vx : V}, RepT K F kvs ws → ws[i]? = some (kx, vx) → ∃ kv, kvs[i]? = some kv ∧ kx = kv.1.map Sum.inl
  | [], ws, i, kx, vx, r, h => by unfold RepT at r; subst r; simp at h
  | (j, d) :: kvs, ws, i, kx, vx, r, h => by
    unfold RepT at r
    obtain ⟨w, q, rfl, r1, r2⟩ := r
    cases i with
    | zero => simp at h; exact ⟨(j, d), rfl, h.1.symm⟩
    | succ i =>
      obtain ⟨kv, h1, h2⟩ := keysT_at (i := i) r2 (by simpa using h)
      exact ⟨kv, by simpa using h1, h2⟩
theorem repT_len {K : PySem.W.Frag} {F : Hp} : ∀ {kvs : List (List Int × D)} {ws : List (List Key × V)}, RepT K F kvs ws → ws.length = kvs.length
  | [], ws, r => by unfold RepT at r; subst r; rfl
  | (j, d) :: kvs, ws, r => by
    unfold RepT at r
    obtain ⟨w, q, rfl, r1, r2⟩ := r
    simp [repT_len r2]
/-- a tuple that stands is tracked from here on -/
theorem track {K : PySem.W.Frag} {F H : Hp} {q : Addr} {ks : List Int} (s : Sub F H) (h : H q = some (.tup ((ks.map Sum.inl : List Key).map kV))) : ∃ F3, Ext F H F3 H ∧ Rep K F3 (.tup (ks.map .int)) (.ref q) := by
  have hm : ((ks.map Sum.inl : List Key).map kV) = ks.map V.int := by rw [List.map_map]; rfl
  rw [hm] at h
  cases e : F q with
  | some o =>
    have e2 : o = .tup (ks.map V.int) := by
      rcases s q o e with h1 | ⟨_, ob, h1⟩
      · rw [h] at h1; exact (Option.some.inj h1).symm
      · rw [h] at h1; cases h1
    subst e2
    exact ⟨F, .refl s, by unfold Rep; exact ⟨q, _, rfl, e, Reps.ofInts _⟩⟩
  | none =>
    refine ⟨L2.upd F q (.tup (ks.map V.int)), ⟨Same.refl _, same_new e, fun a o ea => ?_, fun a o ea en => ?_⟩, ?_⟩
    · by_cases ha : a = q
      · subst ha
        rw [upd_same] at ea
        cases ea
        exact .inl h
      · rw [upd_ne ha] at ea
        exact s a o ea
    · by_cases ha : a = q
      · subst ha
        rw [upd_same] at ea
        cases ea
        exact .inr ⟨_, rfl⟩
      · rw [upd_ne ha, en] at ea
        cases ea
    · unfold Rep
      exact ⟨q, _, rfl, upd_same, Reps.ofInts _⟩
theorem keys_at {K : PySem.W.Frag} {F : Hp} : ∀ {kvs : List (Int × D)} {ws : List (Key × V)} {i : Nat} {kx : Key} {vx : V}, RepI K F kvs ws → ws[i]? = some (kx, vx) → ∃ kv, kvs[i]? = some kv ∧ kx = Sum.inl kv.1
  | [], ws, i, kx, vx, r, h => by unfold RepI at r; subst r; simp at h
  | (j, d) :: kvs, ws, i, kx, vx, r, h => by
    unfold RepI at r
    obtain ⟨w, q, rfl, r1, r2⟩ := r
    cases i with
    | zero => simp at h; exact ⟨(j, d), rfl, h.1.symm⟩
    | succ i =>
      obtain ⟨kv, h1, h2⟩ := keys_at (i := i) r2 (by simpa using h)
      exact ⟨kv, by simpa using h1, h2⟩
theorem repI_len {K : PySem.W.Frag} {F : Hp} : ∀ {kvs : List (Int × D)} {ws : List (Key × V)}, RepI K F kvs ws → ws.length = kvs.length
  | [], ws, r => by unfold RepI at r; subst r; rfl
  | (j, d) :: kvs, ws, r => by
    unfold RepI at r
    obtain ⟨w, q, rfl, r1, r2⟩ := r
    simp [repI_len r2]
theorem walkD_keys {K : PySem.W.Frag} {F H0 : Hp} {kvs : List (Int × D)} {ws : List (Key × V)} {a : Addr} {od : Obj} (h : F a = some (.dK ws)) (r : RepI K F kvs ws) (hH : H0 a = some (.frz od (.dK ws))) : WalkD K (Itk a od ws) F H0 (kvs.map fun kv => .int kv.1) :=
  walkD_ofO walk_keys (by rw [repI_len r, List.length_map]) (fun F2 H hs s o => by rw [o a _ h, hH]) fun i F2 H x H' d hs s hd ⟨e, kx, vx, h1, h2⟩ => by
    subst e
    obtain ⟨kv, h3, h4⟩ := keys_at r h1
    rw [List.getElem?_map, h3] at hd
    cases hd
    rw [h2, h4]
    exact ⟨F2, .refl s, rep_i⟩
theorem walkD_keysT {K : PySem.W.Frag} {F H0 : Hp} {kvs : List (List Int × D)} {ws : List (List Key × V)} {a : Addr} {od : Obj} (h : F a = some (.dT ws)) (r : RepT K F kvs ws) (hH : H0 a = some (.frz od (.dT ws))) : WalkD K (Itkt a od ws) F H0 (kvs.map fun kv => .tup (kv.1.map .int)) :=
  walkD_ofO walk_keysT (by rw [repT_len r, List.length_map]) (fun F2 H hs s o => by rw [o a _ h, hH]) fun i F2 H x H' d hs s hd ⟨e, kx, vx, q, h1, h2, h5⟩ => by
    subst e
    obtain ⟨kv, h3, h4⟩ := keysT_at r h1
    rw [List.getElem?_map, h3] at hd
    cases hd
    rw [h2]
    rw [h4] at h5
    exact track s h5
open Classical in
/-- an ER over a heap in which a frozen dict is locked -/
theorem ER.lock {K : PySem.W.Frag} {B F0 F H : Hp} {σ : L2.St} {a : Addr} {u : HO} {od : Obj} (er : ER K B F0 ρ σ F H) (hF : F a = some u) (hH : H a = some u) (hu : ∀ vs, u ≠ .tup vs) :
    ∃ B', ER K B' F ρ σ F (L2.upd H a (.frz od u)) ∧ (∀ p, B' p = none → B p = none) ∧ ∀ F' H', RetOk B' F F' H' → H' a = some (.frz od u) ∧ RetOk B F0 F' (L2.upd H' a u) := by
  have hB : ∀ b o, B b = some o → H b = some o := er.ret.keep
  have h1 : ∀ p : Addr, (if F p ≠ none then L2.upd H a (.frz od u) p else B p) = none → B p = none := fun p h => by
    cases e : B p with
    | none => rfl
    | some o =>
      split at h
      · by_cases hp : p = a
        · subst hp; rw [upd_same] at h; cases h
        · rw [upd_ne hp, hB p o e] at h; cases h
      · rw [e] at h; cases h
  have hs : Sub F (L2.upd H a (.frz od u)) := fun b o e => by
    by_cases hb : b = a
    · subst hb
      rw [hF] at e; cases e
      exact .inr ⟨hu, od, upd_same⟩
    · rw [upd_ne hb]; exact er.ret.sub b o e
  refine ⟨fun p => if F p ≠ none then L2.upd H a (.frz od u) p else B p, ⟨⟨hs, er.vr.len, er.vr.vals, fun i d h => ?_⟩, ⟨fun b o e => ?_, hs, Same.refl _, fun b o e n => by rw [e] at n; cases n⟩, fun i d p h2 h3 => ?_, er.dist⟩, h1, fun F' H' r => ?_⟩
  · obtain ⟨p, o, a1, a2, a3, a4⟩ := er.vr.owns i d h
    have : p ≠ a := fun z => by subst z; rw [hF] at a4; cases a4
    exact ⟨p, o, a1, by rw [upd_ne this]; exact a2, a3, a4⟩
  · split at e
    · exact e
    · have : b ≠ a := fun z => by subst z; rename_i hn; exact hn (by rw [hF]; simp)
      rw [upd_ne this]; exact hB b o e
  · obtain ⟨p', o, a1, a2, a3, a4⟩ := er.vr.owns i d h2
    rw [a1] at h3; cases h3
    show (if F _ ≠ none then L2.upd H a (.frz od u) _ else B _) = none
    rw [if_neg (by simp [a4])]
    exact er.ownB i d _ h2 a1
  · have ha : H' a = some (.frz od u) := by
      apply r.keep
      show (if F a ≠ none then L2.upd H a (.frz od u) a else B a) = _
      rw [if_pos (by rw [hF]; simp), upd_same]
    refine ⟨ha, ⟨fun b o e => ?_, fun b o e => ?_, er.ret.ext.trans r.ext, fun b o e n => ?_⟩⟩
    · by_cases hb : b = a
      · subst hb
        rw [upd_same]
        have := hB b o e
        rw [hH] at this; exact this
      · rw [upd_ne hb]
        apply r.keep
        show (if F b ≠ none then L2.upd H a (.frz od u) b else B b) = some o
        split
        · rw [upd_ne hb]; exact hB b o e
        · exact e
    · by_cases hb : b = a
      · subst hb
        rw [r.ext _ _ hF] at e; cases e
        exact .inl upd_same
      · rw [upd_ne hb]; exact r.sub b o e
    · cases e2 : F b with
      | none => exact (r.fresh b o e e2).imp (h1 b) id
      | some w =>
        have e3 := r.ext b w e2
        rw [e] at e3
        cases e3
        exact er.ret.fresh b _ e2 n
theorem ER.unlock {K : PySem.W.Frag} {B B' F0 F : Hp} {ρ' : List Sl} {σ : L2.St} {a : Addr} {u : HO} {F' H' : Hp} (hF : F a = some u) (h1 : ∀ p, B' p = none → B p = none) (h2 : RetOk B F0 F' (L2.upd H' a u)) (er : ER K B' F ρ' σ F' H') : ER K B F0 ρ' σ F' (L2.upd H' a u) :=
  ⟨⟨h2.sub, er.vr.len, er.vr.vals, fun i d h => by
    obtain ⟨p, o, a1, a2, a3, a4⟩ := er.vr.owns i d h
    have : p ≠ a := fun z => by subst z; rw [er.ret.ext _ _ hF] at a4; cases a4
    exact ⟨p, o, a1, by rw [upd_ne this]; exact a2, a3, a4⟩⟩, h2, fun i d p a b => h1 p (er.ownB i d p a b), er.dist⟩
theorem ps_or {X : Cx} {st : Stmt} {t t' : TS} (h : PS X st t) (h' : PS X st t') : PS X st (fun D σ H => t D σ H ∨ t' D σ H) := ⟨fun pins s σ H D I q => q.elim (h.run pins s σ H D I) (h'.run pins s σ H D I)⟩
theorem b_forRK (i : Nat) {y : D} (hy : nthS ρ i = .val y) {Bd : S → D → Option (Lp S)} {f : D → R} (hk : IsRt G.K k f) (hg : GOk G L tg g) (h0 : leS (v s0) ρ) (bad : ∀ s d, g d = none → Bd s d = none) (hb : ∀ s d as, g d = some as → BOk G L (setAll (v s) as) body (kL G.K v) (Bd s d))
    (hr : ∀ s, BOk G L (v s) rest k (M s)) (hj : L.N[i]? = some x := by rfl) (hv : Vis L.sc x := by first | exact Or.inl rfl | exact Or.inr (Or.inl rfl) | exact Or.inr (Or.inr rfl)) (hd : (x == ("__debug__" : Str)) = false := by decide) (hcd : (x == ("__classdict__" : Str)) = false := by decide)
    (hs : ∀ env z, foldedSetIterable (.Name x p1) env z = pure z := by intro _ _; rfl) : BOk G L ρ (.For tg (.Name x p1) body [] pos :: rest) k (bindR ((keysD y).bind fun ds => forR Bd s0 ds) f M) := fun X hX => PSs.nox <| by
  have hX' := hX.nox
  have hf := ps_for (pos := pos) (tb := tbD G.K v g (kL G.K v) Bd) PassesOwn.never hX'.calm (pi_keys (tg := tg) (p_own hX' (pos := p1) i hj hv hd hcd)) (hg _ hX') ⟨fun pins s σ H D I ⟨s1, d, as, eg, q⟩ => (hb s1 d as eg _ hX').run pins s σ H D I q⟩ (hs _)
  refine wkSs (seqU (ps_or hf (ps_lock hf)) fun s => hr s _ hX') fun D σ H ⟨B, F0, F, r, em, er, q⟩ => ?_
  obtain ⟨sf, ef, em⟩ := Option.bind_eq_some_iff.mp em
  obtain ⟨ds, ed, ef⟩ := Option.bind_eq_some_iff.mp ef
  have nxt : ∀ (s : S) (σ2 : L2.St) (F2 H2 : Hp), sf = .nx s → ER G.K B F0 (v s) σ2 F2 H2 → ∃ s, tS G.K (v s) k (M s) D σ2 H2 := fun s σ2 F2 H2 e er2 => ⟨s, B, F0, F2, r, by rw [e] at em; exact em, er2, q⟩
  have rtt : ∀ d, sf = .ex d → kD G.K d B F0 D := fun d e => by
    rw [e] at em
    cases em
    exact hk.rt _ _ _ _ q
  cases y with
  | dI kvs =>
    cases ed
    obtain ⟨vv, hσ, rv⟩ := er.vr.vals i _ hy
    unfold Rep at rv
    obtain ⟨a, ws, rfl, hF, rI⟩ := rv
    rcases er.vr.sub a _ hF with hH | ⟨_, od, hH⟩
    · refine .inr ⟨a, .dK ws, hH, trivial, fun od => ?_⟩
      obtain ⟨B', er2, bk1, bk2⟩ := er.lock (od := od) hF hH (fun vs z => by cases z)
      refine forR_core (ds := kvs.map fun kv => .int kv.1) (sf := sf) (fun R' hR => ?_) er2 h0 bad ef (fun s σ2 F2 H2 e er3 => ?_) (fun d e vv F5 H5 r5 rv5 => ?_)
      · exact ⟨.ref a, hσ, a, od, rfl, .inl ⟨ws, upd_same, hR _ F _ (.refl er2.ret.sub) (walkD_keys hF rI upd_same)⟩⟩
      · obtain ⟨e1, e2⟩ := bk2 F2 H2 er3.ret
        exact ⟨e1, nxt s σ2 F2 _ e (ER.unlock hF bk1 e2 er3)⟩
      · obtain ⟨e1, e2⟩ := bk2 F5 H5 r5
        exact ⟨e1, rtt d e vv F5 _ e2 rv5⟩
    · refine .inl (forR_core (ds := kvs.map fun kv => .int kv.1) (sf := sf) (fun R' hR => ?_) er h0 bad ef (fun s σ2 F2 H2 e er3 => nxt s σ2 F2 H2 e er3) (fun d e => rtt d e))
      exact ⟨.ref a, hσ, a, od, rfl, .inl ⟨ws, hH, hR _ F _ (.refl er.ret.sub) (walkD_keys hF rI hH)⟩⟩
  | dT kvs =>
    cases ed
    obtain ⟨vv, hσ, rv⟩ := er.vr.vals i _ hy
    unfold Rep at rv
    obtain ⟨a, ws, rfl, hF, rI⟩ := rv
    rcases er.vr.sub a _ hF with hH | ⟨_, od, hH⟩
    · refine .inr ⟨a, .dT ws, hH, trivial, fun od => ?_⟩
      obtain ⟨B', er2, bk1, bk2⟩ := er.lock (od := od) hF hH (fun vs z => by cases z)
      refine forR_core (ds := kvs.map fun kv => .tup (kv.1.map .int)) (sf := sf) (fun R' hR => ?_) er2 h0 bad ef (fun s σ2 F2 H2 e er3 => ?_) (fun d e vv F5 H5 r5 rv5 => ?_)
      · exact ⟨.ref a, hσ, a, od, rfl, .inr ⟨ws, upd_same, hR _ F _ (.refl er2.ret.sub) (walkD_keysT hF rI upd_same)⟩⟩
      · obtain ⟨e1, e2⟩ := bk2 F2 H2 er3.ret
        exact ⟨e1, nxt s σ2 F2 _ e (ER.unlock hF bk1 e2 er3)⟩
      · obtain ⟨e1, e2⟩ := bk2 F5 H5 r5
        exact ⟨e1, rtt d e vv F5 _ e2 rv5⟩
    · refine .inl (forR_core (ds := kvs.map fun kv => .tup (kv.1.map .int)) (sf := sf) (fun R' hR => ?_) er h0 bad ef (fun s σ2 F2 H2 e er3 => nxt s σ2 F2 H2 e er3) (fun d e => rtt d e))
      exact ⟨.ref a, hσ, a, od, rfl, .inr ⟨ws, hH, hR _ F _ (.refl er.ret.sub) (walkD_keysT hF rI hH)⟩⟩
  | _ => cases ed
end
end DL
set_option autoImplicit false
set_option maxRecDepth 100000
set_option maxHeartbeats 4000000
namespace DL
open PySem PySem.Spec PySem.SeqAt PyProof.Rows L2
/-! ### d.get(k) -/
def getKD (x y : D) : Option D := match x, y with
  | .dI kvs, .int i => some ((lookK kvs i).getD .non)
  | .dT kvs, .tup ks => (intsOf ks).map fun ks => (lookK kvs ks).getD .non
  | _, _ => none
section
variable {G : GX} {L : LX} {ρ : List Sl} {o e : Expr} {mo m : Option D} {apos cpos p1 : Pos} {x : Str}
theorem getK_rule {X : Cx} {F2 H2 : Hp} {d0 y d : D} {a : Addr} {ob : HO} {vi : V} (ow : OwnO G.K F2 d0 ob) (hr : Rd H2 a ob) (s : Sub F2 H2) (ri : Rep G.K F2 y vi) (h : getKD d0 y = some d) {Q : VK} (q : ∀ v, Rep G.K F2 d v → Q v H2) :
    ∃ ov, DGet H2 a vi ov ∧ Q (ov.getD .non) H2 := by
  unfold getKD at h
  split at h
  · cases h
    obtain ⟨ws, rfl, rv⟩ := ow
    unfold Rep at ri
    rename_i kvs i
    refine ⟨valV ws (Sum.inl i), .inl ⟨ws, Sum.inl i, hr, ri, rfl⟩, ?_⟩
    rcases rv.look (k := i) with ⟨h2, h3⟩ | ⟨d', v, h2, h3, h4⟩
    · rw [h2] at q; rw [h3]
      exact q .non (by unfold Rep; rfl)
    · rw [h2] at q; rw [h3]
      exact q v h4
  · obtain ⟨ws, rfl, rv⟩ := ow
    unfold Rep at ri
    obtain ⟨p2, ws2, rfl, h2, q2⟩ := ri
    obtain ⟨ks, hks, rfl⟩ := Option.map_eq_some_iff.mp h
    have hw := intsOf_rep hks q2
    subst hw
    refine ⟨valV ws (ks.map Sum.inl), .inr ⟨ws, _, p2, hr, rfl, s.tup h2, rfl⟩, ?_⟩
    rcases rv.look (k := ks) with ⟨h3, h4⟩ | ⟨d', v, h3, h4, h5⟩
    · rw [h3] at q; rw [h4]
      exact q .non (by unfold Rep; rfl)
    · rw [h3] at q; rw [h4]
      exact q v h5
  · cases h
theorem isD_of {F H : Hp} {d0 y d : D} {a : Addr} {ob : HO} (ow : OwnO G.K F d0 ob) (hr : Rd H a ob) (h : getKD d0 y = some d) : IsD H a := by
  unfold getKD at h
  split at h
  · obtain ⟨ws, rfl, _⟩ := ow; exact .inl ⟨ws, hr⟩
  · obtain ⟨ws, rfl, _⟩ := ow; exact .inr ⟨ws, hr⟩
  · cases h
theorem e_get (ho : EOk G L ρ o mo) (he : EOk G L ρ e m)
    (hb : ∀ env, attributeBase o "get" env (eval o env) = eval o env := by intro _; rfl)
    (hf : ∀ env, ((backTo cpos (starEach [e] env)).all (fun x => !x.1) && (backToKw cpos (keywordEach [] env)).all (fun x => x.1.isSome)
      && decide (([e] : List Expr).length + ([] : List Keyword).length + (if ([] : List Keyword).isEmpty then 0 else 1) < 30)) = true := by intro _; rfl)
    (hl : (apos.endLine == cpos.line) = true := by rfl) (ht : ∀ env, backTo cpos (starEach [e] env) = [(false, eval e env)] := by intro _; rfl) :
    EOk G L ρ (.Call (.Attribute o "get" apos) [e] [] cpos) (E2 getKD mo m) := fun X hX =>
  wkE (pe_dget1 (by have := hX.room.units; omega) (ho X hX) (he X hX) ⟨hb _, hf _, hl, ht _⟩) fun σ H Q ⟨F, d, em, vr, q⟩ => by
    obtain ⟨d0, y, ex, ey, h⟩ := E2_some em
    refine ⟨F, d0, ex, vr, fun v1 F1 H1 x1 r1 => ?_⟩
    obtain ⟨a, ob, rfl, h1, ow⟩ : ∃ a ob, v1 = .ref a ∧ F1 a = some ob ∧ OwnO G.K F1 d0 ob := by
      unfold getKD at h
      split at h
      · unfold Rep at r1
        obtain ⟨a, ws, rfl, h1, q1⟩ := r1
        exact ⟨a, _, rfl, h1, ws, rfl, q1⟩
      · unfold Rep at r1
        obtain ⟨a, ws, rfl, h1, q1⟩ := r1
        exact ⟨a, _, rfl, h1, ws, rfl, q1⟩
      · cases h
    refine ⟨a, rfl, isD_of ow (x1.sub.rd h1) h, F1, y, ey, vr.ext x1, fun v2 F2 H2 x2 r2 => ?_⟩
    exact getK_rule (X := X) (ow.mono x2.froz) (x2.sub.rd (x2.froz _ _ h1)) x2.sub r2 h fun v rv => q v F2 H2 (x1.trans x2) rv
theorem e_geto (j : Nat) {y : D} (hy : nthS ρ j = .own y := by rfl) (he : EOk G L ρ e m) (hN : L.N[j]? = some x := by rfl) (hv : Vis L.sc x := by first | exact Or.inl rfl | exact Or.inr (Or.inl rfl) | exact Or.inr (Or.inr rfl))
    (hd : (x == ("__debug__" : Str)) = false := by decide) (hcd : (x == ("__classdict__" : Str)) = false := by decide)
    (hb : ∀ env, attributeBase (.Name x p1) "get" env (eval (.Name x p1) env) = eval (.Name x p1) env := by intro _; rfl)
    (hf : ∀ env, ((backTo cpos (starEach [e] env)).all (fun x => !x.1) && (backToKw cpos (keywordEach [] env)).all (fun x => x.1.isSome)
      && decide (([e] : List Expr).length + ([] : List Keyword).length + (if ([] : List Keyword).isEmpty then 0 else 1) < 30)) = true := by intro _; rfl)
    (hl : (apos.endLine == cpos.line) = true := by rfl) (ht : ∀ env, backTo cpos (starEach [e] env) = [(false, eval e env)] := by intro _; rfl) :
    EOk G L ρ (.Call (.Attribute (.Name x p1) "get" apos) [e] [] cpos) (E1 (getKD y) m) := fun X hX =>
  wkE (pe_dget1 (by have := hX.room.units; omega) (p_own hX j hN hv hd hcd) (he X hX) ⟨hb _, hf _, hl, ht _⟩) fun σ H Q ⟨F, d, em, vr, q⟩ => by
    obtain ⟨ik, ei, em⟩ := Option.bind_eq_some_iff.mp em
    obtain ⟨p', ob, e1, e2, ow, hF⟩ := vr.owns j y hy
    refine ⟨.ref p', e1, p', rfl, isD_of ow (.inl e2) em, F, ik, ei, vr, fun vi F1 H1 x1 ri => ?_⟩
    exact getK_rule (X := X) (ow.mono x1.froz) (.inl (x1.heap _ _ e2)) x1.sub ri em fun v rv => q v F1 H1 x1 rv
end
/-! ### loops over a dict's keys: plain ones, those that may stop early -/
section
variable {R S : Type} {G : GX} {L : LX} {ρ : List Sl} {v : S → List Sl} {body rest : List Stmt} {k : KS R} {tg iter c : Expr} {pos p1 : Pos} {s0 : S} {M : S → Option R} {x : Str}
theorem to_kL {sts : List Stmt} {m : Option S} (h : BOk G L ρ sts (kP G.K v) m) : BOk G L ρ sts (kL G.K v) (m.map Lp.go) := fun X hX =>
  wkSs (h X hX) fun D σ H ⟨B, F0, F, r, em, er, q⟩ => by
    obtain ⟨s, e1, e2⟩ := Option.map_eq_some_iff.mp em
    subst e2
    exact ⟨B, F0, F, s, e1, er, q.2⟩
theorem forR_go {Bd : S → D → Option S} : ∀ (ds : List D) (s : S), forR (fun s d => (Bd s d).map Lp.go) s ds = (forP Bd s ds).map Rs.nx
  | [], s => rfl
  | d :: ds, s => by
    unfold forR forP
    cases Bd s d with
    | none => rfl
    | some s' => exact forR_go ds s'
theorem c_forRK1 (i : Nat) {j : Nat} {y : D} (hy : nthS ρ i = .val y) {Bd : S → D → Option (Lp S)} {f : D → R} (hk : IsRt G.K k f) (hg : GOk G L tg (gN j)) (h0 : leS (v s0) ρ) (hb : ∀ s a, BOk G L (setS (v s) j (.val a)) body (kL G.K v) (Bd s a))
    (hr : ∀ s, BOk G L (v s) rest k (M s)) (hj : L.N[i]? = some x := by rfl) (hv : Vis L.sc x := by first | exact Or.inl rfl | exact Or.inr (Or.inl rfl) | exact Or.inr (Or.inr rfl)) (hd : (x == ("__debug__" : Str)) = false := by decide) (hcd : (x == ("__classdict__" : Str)) = false := by decide)
    (hs : ∀ env z, foldedSetIterable (.Name x p1) env z = pure z := by intro _ _; rfl) : BOk G L ρ (.For tg (.Name x p1) body [] pos :: rest) k (bindR ((keysD y).bind fun ds => forR Bd s0 ds) f M) :=
  b_forRK i hy hk hg h0 (fun s d h => nomatch h) (fun s d as e => by cases e; exact hb s d) hr hj hv hd hcd hs
theorem c_forNK1 (i : Nat) {j : Nat} {y : D} (hy : nthS ρ i = .val y) {Bd : S → D → Option (Lp S)} (hg : GOk G L tg (gN j)) (h0 : leS (v s0) ρ) (hb : ∀ s a, BOk G L (setS (v s) j (.val a)) body (kL G.K v) (Bd s a))
    (hr : ∀ s, BOk G L (v s) rest k (M s)) (hj : L.N[i]? = some x := by rfl) (hv : Vis L.sc x := by first | exact Or.inl rfl | exact Or.inr (Or.inl rfl) | exact Or.inr (Or.inr rfl)) (hd : (x == ("__debug__" : Str)) = false := by decide) (hcd : (x == ("__classdict__" : Str)) = false := by decide)
    (hs : ∀ env z, foldedSetIterable (.Name x p1) env z = pure z := by intro _ _; rfl) : BOk G L ρ (.For tg (.Name x p1) body [] pos :: rest) k (((keysD y).bind fun ds => forB Bd s0 ds).bind M) := by
  have h := c_forRK1 (k := kB G.K k) (f := Rs.ex) (M := fun s => (M s).map Rs.nx) (pos := pos) (p1 := p1) i hy rtB hg h0 hb (fun s => to_kB (hr s)) hj hv hd hcd hs
  refine of_kB (fun X hX => wkSs (h X hX) fun D σ H ⟨B, F0, F, r, em, er, q⟩ => ⟨B, F0, F, r, ?_, er, q⟩)
  obtain ⟨r', e1, e2⟩ := Option.map_eq_some_iff.mp em
  subst e2
  obtain ⟨s, e3, e4⟩ := Option.bind_eq_some_iff.mp e1
  obtain ⟨ds, e5, e6⟩ := Option.bind_eq_some_iff.mp e3
  rw [e5]
  show bindR (forR Bd s0 ds) Rs.ex (fun s => (M s).map Rs.nx) = _
  rw [forB_R e6]
  show (M s).map Rs.nx = _
  rw [e4]; rfl
theorem c_forPK1 (i : Nat) {j : Nat} {y : D} (hy : nthS ρ i = .val y) {Bd : S → D → Option S} (hg : GOk G L tg (gN j)) (h0 : leS (v s0) ρ) (hb : ∀ s a, BOk G L (setS (v s) j (.val a)) body (kP G.K v) (Bd s a))
    (hr : ∀ s, BOk G L (v s) rest k (M s)) (hj : L.N[i]? = some x := by rfl) (hv : Vis L.sc x := by first | exact Or.inl rfl | exact Or.inr (Or.inl rfl) | exact Or.inr (Or.inr rfl)) (hd : (x == ("__debug__" : Str)) = false := by decide) (hcd : (x == ("__classdict__" : Str)) = false := by decide)
    (hs : ∀ env z, foldedSetIterable (.Name x p1) env z = pure z := by intro _ _; rfl) : BOk G L ρ (.For tg (.Name x p1) body [] pos :: rest) k (((keysD y).bind fun ds => forP Bd s0 ds).bind M) := by
  have h := c_forRK1 (k := kB G.K k) (f := Rs.ex) (Bd := fun s d => (Bd s d).map Lp.go) (M := fun s => (M s).map Rs.nx) (pos := pos) (p1 := p1) i hy rtB hg h0 (fun s a => to_kL (hb s a)) (fun s => to_kB (hr s)) hj hv hd hcd hs
  refine of_kB (fun X hX => wkSs (h X hX) fun D σ H ⟨B, F0, F, r, em, er, q⟩ => ⟨B, F0, F, r, ?_, er, q⟩)
  obtain ⟨r', e1, e2⟩ := Option.map_eq_some_iff.mp em
  subst e2
  obtain ⟨s, e3, e4⟩ := Option.bind_eq_some_iff.mp e1
  obtain ⟨ds, e5, e6⟩ := Option.bind_eq_some_iff.mp e3
  rw [e5]
  show bindR (forR (fun s d => (Bd s d).map Lp.go) s0 ds) Rs.ex (fun s => (M s).map Rs.nx) = _
  rw [forR_go, e6]
  show (M s).map Rs.nx = _
  rw [e4]; rfl
end
end DL
set_option autoImplicit false
set_option maxRecDepth 100000
set_option maxHeartbeats 4000000
namespace DL
open PySem PySem.Spec PySem.SeqAt PyProof.Rows L2
/-! ### a comprehension over the keys of a dict: the dict is locked while it runs -/
section
variable {X : Cx} {tg e : Expr} {td : TE}
def iKeysL (X : Cx) (td : TE) : TI := fun σ H R => td σ H fun x H1 => (∃ d kvs, x = .ref d ∧ ((∃ o, H1 d = some (.frz o (.dK kvs)) ∧ R (Itk d o kvs) H1) ∨
  (H1 d = some (.dK kvs) ∧ ((∀ o' u', X.H_0 d ≠ some (.frz o' u')) → ∀ od, R (Itk d od kvs) (L2.upd H1 d (.frz od (.dK kvs))))))) ∨
  (∃ d kvs, x = .ref d ∧ ((∃ o, H1 d = some (.frz o (.dT kvs)) ∧ R (Itkt d o kvs) H1) ∨
  (H1 d = some (.dT kvs) ∧ ((∀ o' u', X.H_0 d ≠ some (.frz o' u')) → ∀ od, R (Itkt d od kvs) (L2.upd H1 d (.frz od (.dT kvs)))))))
theorem pi_keysL (he : PE X e td) : PI X tg e (iKeysL X td) := by
  refine ⟨fun pins s σ H R I h => ?_⟩
  refine thn (he.run pins s σ H _ I h) fun u s1 ⟨x, H1, I1, rx, q0⟩ => ?_
  rcases q0 with ⟨d, kvs, ex, q⟩ | ⟨d, kvs, ex, q⟩
  · subst ex
    obtain rfl : u = Value.ref d := rx
    have fin : ∀ (o : Obj) (H2 : Hp), Inv X pins σ H2 s1 → H2 d = some (.frz o (.dK kvs)) → R (Itk d o kvs) H2 → wpAny (model X.prog X.w) X.A (pyIter (.ref d)) (PIE X pins σ tg R) X.xe s1 := fun o H2 I2 hd q => by
      obtain ⟨hs, hgd, hx, es, ep, vs, hdt, hsz, kv, hm⟩ := I2.frzK hd
      refine iter_keys hs hgd hx hdt (pi_one (tk := s1.toks) I2 _ (turn_keys _ hdt) ⟨_, Heap.get?_push_size _ rfl, rfl, ?_⟩ q)
      rw [hsz] <;> rfl
    rcases q with ⟨o, hd, q⟩ | ⟨hd, q⟩
    · exact fin o H1 I1 hd q
    · obtain ⟨od, I2⟩ := I1.lock hd trivial
      exact fin od _ I2 upd_same (q (I1.nofrz hd trivial) od)
  · subst ex
    obtain rfl : u = Value.ref d := rx
    have fin : ∀ (o : Obj) (H2 : Hp), Inv X pins σ H2 s1 → H2 d = some (.frz o (.dT kvs)) → R (Itkt d o kvs) H2 → wpAny (model X.prog X.w) X.A (pyIter (.ref d)) (PIE X pins σ tg R) X.xe s1 := fun o H2 I2 hd q => by
      obtain ⟨hs, hgd, hx, es, ep, hdt, hsz, ent⟩ := I2.frzT hd
      refine iter_keys hs hgd hx hdt (pi_one (tk := s1.toks) I2 _ (turn_keysT _ hdt) ⟨_, Heap.get?_push_size _ rfl, rfl, ?_⟩ q)
      rw [hsz] <;> rfl
    rcases q with ⟨o, hd, q⟩ | ⟨hd, q⟩
    · exact fin o H1 I1 hd q
    · obtain ⟨od, I2⟩ := I1.lock hd trivial
      exact fin od _ I2 upd_same (q (I1.nofrz hd trivial) od)
def tUnl (X : Cx) (t : TE) : TE := fun σ H Q => t σ H fun v H' => Q v H' ∨ ∃ d od u, H' d = some (.frz od u) ∧ (∀ o' u', X.H_0 d ≠ some (.frz o' u')) ∧ Q v (L2.upd H' d u)
theorem pe_unl {t : TE} (h : PE X e t) : PE X e (tUnl X t) := by
  refine ⟨fun pins s σ H Q I hw => ?_⟩
  refine thn (h.run pins s σ H _ I hw) fun v s1 ⟨x, H1, I2, r, q⟩ => ?_
  rcases q with q | ⟨d, od, u, e2, hn, q⟩
  · exact ⟨x, _, I2, r, q⟩
  · exact ⟨x, _, I2.unlock e2 hn, r, q⟩
end
section
variable {G : GX} {L : LX} {ρ : List Sl} {tg iter elt : Expr} {ifs : List Expr} {scope : Scope} {own : List (Str × Nat)} {pos : Pos} {g : TGD} {nt : D → Option Bool} {f : D → Option D} {md : Option D}
/-- the reading of a comprehension from where its iterator stands -/
theorem lc_tail {K : PySem.W.Frag} {σ : L2.St} {F H : Hp} {Q : VK} {vs : List Nat} {J : It} {ds : List D} {d : D} (hv : ∀ d as, g d = some as → ∀ i ∈ as.map (·.1), i ∈ vs) (h0 : ∀ d, g d = none → nt d = none) (vr : VR K ρ σ F H) (w : WalkD K J F H ds) (h : LC (some ds) nt f = some d)
    (q : ∀ p o F' H', Ext F H F' H' → H p = none → H' p = some o → OwnO K F' d o → F' p = none → Q (.ref p) H') :
    ∀ D, H D = none → ∃ W : Nat → Nat → Hp → Prop, (∃ m, W 0 m (L2.upd H D (.lst []))) ∧ ∀ i m H, W i m H →
      (J.stop i H ∧ Q (.ref D) H) ∨ (J.go i H ∧ ∃ Nx : Hp → Prop, (∀ H', Nx H' → ∃ m', m' < m ∧ W (i + 1) m' H') ∧ ∀ x H', J.yld i H x H' → tG K g x (wipe σ vs) H' fun σ2 H2 => wipe σ2 vs = wipe σ vs ∧ tsD K ρ vs g nt σ2 H2 fun b H3 =>
        if b = true then teD K ρ vs g f σ2 H3 fun y H4 => ∃ acc, H4 D = some (.lst acc) ∧ acc.length < sizeLine ∧ Nx (L2.upd H4 D (.lst (acc ++ [y]))) else Nx H3) := by
  obtain ⟨all, ea, el⟩ := Option.bind_eq_some_iff.mp h
  have ea : lcD nt f ds = some all := ea
  unfold lstD at el
  split at el
  rotate_left
  · cases el
  rename_i hlen
  cases el
  intro D hD
  have x1 : Ext F H F H := .refl vr.sub
  have fD : F D = none := x1.sub.none hD
  refine ⟨fun i m H2 => m = ds.length - i ∧ i ≤ ds.length ∧ ∃ F2 acc rest vacc, Ext F H F2 H2 ∧ F2 D = none ∧ H2 D = some (.lst vacc) ∧ Reps K F2 acc vacc ∧ lcD nt f (ds.drop i) = some rest ∧ all = acc ++ rest,
    ⟨_, rfl, Nat.zero_le _, F, [], all, [], .own x1.sub hD, fD, upd_same, .nil, ea, rfl⟩, ?_⟩
  rintro i m H2 ⟨rfl, hi, F2, acc, rest, vacc, x2, fD2, hD2, rv, er, eall⟩
  by_cases hlt : i < ds.length
  · refine .inr ⟨w.goes i F2 H2 hlt x2.froz x2.sub (.ext x1.sub x2.heap), fun H' => i + 1 ≤ ds.length ∧ ∃ F2 acc rest vacc, Ext F H F2 H' ∧ F2 D = none ∧ H' D = some (.lst vacc) ∧ Reps K F2 acc vacc ∧ lcD nt f (ds.drop (i + 1)) = some rest ∧ all = acc ++ rest,
      fun H' ⟨h1, h2⟩ => ⟨_, by omega, rfl, h1, h2⟩, fun x H3 y3 => ?_⟩
    have hd : ds[i]? = some ds[i] := List.getElem?_eq_getElem hlt
    rw [List.drop_eq_getElem_cons hlt] at er
    generalize ds[i] = dd at hd er
    obtain ⟨F3, x3, r3⟩ := w.yields i F2 H2 x H3 dd x2.froz x2.sub (.ext x1.sub x2.heap) hd y3
    have hD3 := x3.heap _ _ hD2
    have fD3 : ∀ {F4 H4}, Ext F2 H2 F4 H4 → F4 D = none := fun {F4 H4} x4 => x4.stay fD2 hD2 fun vs z => nomatch z
    obtain ⟨b, eb, cases_⟩ := lcD_cons er
    -- the target
    cases eg : g dd with
    | none => rw [h0 dd eg] at eb; cases eb
    | some as =>
      refine ⟨F3, dd, as, x3.sub, r3, eg, fun ws hw => ⟨?_, ?_⟩⟩
      · rw [wipe_many _ _ _ (hv dd as eg), wipe_wipe]
      · have vr3 : VR K (setAll (wipeS ρ vs) as) (setMany (wipe σ vs) (as.map (·.1)) ws) F3 H3 := VR.setMany as ws ((vr.ext ((x1.trans x2).trans x3)).wipe vs) hw
        refine ⟨dd, as, eg, F3, b, eb, vr3, fun F4 H4 x4 => ?_⟩
        rcases cases_ with ⟨rfl, y, ys, ey, eys, rfl⟩ | ⟨rfl, er⟩
        · rw [if_pos rfl]
          refine ⟨dd, as, eg, F4, y, ey, vr3.ext x4, fun v F5 H5 x5 r5 => ?_⟩
          have xx := (x3.trans x4).trans x5
          have hD5 := xx.heap _ _ hD2
          have fD5 := fD3 xx
          refine ⟨vacc, hD5, ?_, hlt, F5, acc ++ [y], ys, vacc ++ [v], ?_, fD5, upd_same, (Reps.mono xx.froz _ _ rv).append (.cons r5 .nil), eys, by rw [eall, List.append_assoc]; rfl⟩
          · rw [← rv.len, sizeLine_eq]
            rw [eall, List.length_append, List.length_cons] at hlen
            omega
          · have x6 := x2.trans xx
            refine ⟨fun b o e => ?_, x6.froz, fun b o e => ?_, x6.new⟩
            · rw [upd_ne (fun z => by subst z; rw [hD] at e; cases e)]; exact x6.heap b o e
            · rw [upd_ne (fun z => by subst z; rw [fD5] at e; cases e)]; exact x6.sub b o e
        · rw [if_neg Bool.false_ne_true]
          have xx := x3.trans x4
          exact ⟨hlt, F4, acc, rest, vacc, x2.trans xx, fD3 xx, xx.heap _ _ hD2, Reps.mono xx.froz _ _ rv, er, eall⟩
  · have hi' : i = ds.length := by omega
    subst hi'
    rw [List.drop_length] at er
    cases er
    rw [List.append_nil] at eall
    subst eall
    refine .inl ⟨w.stops F2 H2 x2.froz x2.sub (.ext x1.sub x2.heap), ?_⟩
    have x6 := x1.trans x2
    exact q D (.lst vacc) F2 H2 x6 (x1.heap.free hD) hD2 ⟨vacc, rfl, rv⟩ fD2
theorem vr_lock {K : PySem.W.Frag} {σ : L2.St} {F H : Hp} {a : Addr} {u : HO} {od : Obj} (vr : VR K ρ σ F H) (hF : F a = some u) (hu : ∀ vs, u ≠ .tup vs) : VR K ρ σ F (L2.upd H a (.frz od u)) := by
  refine ⟨fun b o e => ?_, vr.len, vr.vals, fun i d h => ?_⟩
  · by_cases hb : b = a
    · subst hb
      rw [hF] at e; cases e
      exact .inr ⟨hu, od, upd_same⟩
    · rw [upd_ne hb]; exact vr.sub b o e
  · obtain ⟨p, o, a1, a2, a3, a4⟩ := vr.owns i d h
    have : p ≠ a := fun z => by subst z; rw [hF] at a4; cases a4
    exact ⟨p, o, a1, by rw [upd_ne this]; exact a2, a3, a4⟩
theorem ext_unl {F H F' H' : Hp} {a : Addr} {u : HO} {od : Obj} (hF : F a = some u) (hH : H a = some u) (x : Ext F (L2.upd H a (.frz od u)) F' H') : Ext F H F' (L2.upd H' a u) := by
  refine ⟨fun b o e => ?_, x.froz, fun b o e => ?_, fun b o e n => ?_⟩
  · by_cases hb : b = a
    · subst hb
      rw [hH] at e; cases e; exact upd_same
    · rw [upd_ne hb]; exact x.heap b o (by rw [upd_ne hb]; exact e)
  · by_cases hb : b = a
    · subst hb
      rw [x.froz _ _ hF] at e; cases e
      exact .inl upd_same
    · rw [upd_ne hb]; exact x.sub b o e
  · have hb : b ≠ a := fun z => by subst z; rw [hF] at n; cases n
    have := x.new b o e n
    rwa [upd_ne hb] at this
theorem f_lck (he : EOk G L ρ iter md) (h : LcOk G L ρ tg elt ifs scope own g nt f) (hs : ∀ env x, foldedSetIterable iter env x = pure x := by intro _ _; rfl) :
    FOk G L ρ (.ListComp elt [⟨tg, iter, ifs, 0⟩] scope pos) (LC (md.bind keysD) nt f) := fun X hX =>
  wkE (pe_unl (pe_lc (own := own) (g := tG G.K g) (tt := tsD G.K ρ (own.map (·.2)) g nt) (te := teD G.K ρ (own.map (·.2)) g f) hX.calm (by rw [hX.hN]; exact hX.nd) (pi_keysL (he X hX)) (blkOk_by (by rw [hX.hN, hX.hsc]; exact h.blk))
    (fun s H C cl fp => h.tgt _ (hX.blk s H scope C cl fp))
    (fun s H C cl fp => ⟨fun pins s' σ H' Q I ⟨d, as, eg, q⟩ => (h.ifs d as eg _ (hX.blk s H scope C cl fp)).run pins s' σ H' Q I q⟩)
    (fun s H C cl fp => ⟨fun pins s' σ H' Q I ⟨d, as, eg, q⟩ => (h.elt d as eg _ (hX.blk s H scope C cl fp)).run pins s' σ H' Q I q⟩) (hs _))) fun σ H Q ⟨F, dd, em, vr, q⟩ => by
    obtain ⟨all, ea, el⟩ := Option.bind_eq_some_iff.mp em
    obtain ⟨ds, emi, ea⟩ := Option.bind_eq_some_iff.mp ea
    obtain ⟨y, ey, ek⟩ := Option.bind_eq_some_iff.mp emi
    have em' : LC (some ds) nt f = some dd := by
      show ((some ds).bind (lcD nt f)).bind lstD = _
      rw [Option.bind_some, ea]; exact el
    cases y with
    | dI kvs =>
      cases ek
      refine ⟨F, _, ey, vr, fun v F1 H1 x1 r1 => ?_⟩
      unfold Rep at r1
      obtain ⟨a, ws, rfl, hF, rI⟩ := r1
      rcases x1.sub a _ hF with hH | ⟨_, od, hH⟩
      · refine .inl ⟨a, ws, rfl, .inr ⟨hH, fun hn od => ?_⟩⟩
        refine lc_tail (Q := fun v H' => Q v H' ∨ ∃ d od u, H' d = some (.frz od u) ∧ (∀ o' u', X.H_0 d ≠ some (.frz o' u')) ∧ Q v (L2.upd H' d u)) h.ins h.bad (vr_lock (vr.ext x1) hF fun vs z => by cases z) (walkD_keys hF rI upd_same) em' fun p o F' H' x2 hp hp' ow fp => .inr ⟨a, od, .dK ws, x2.heap _ _ upd_same, hn, ?_⟩
        have hpa : p ≠ a := fun z => by subst z; rw [upd_same] at hp; cases hp
        rw [upd_ne hpa] at hp
        exact q p o F' _ (x1.trans (ext_unl hF hH x2)) (x1.heap.free hp) (by rw [upd_ne hpa]; exact hp') ow fp
      · refine .inl ⟨a, ws, rfl, .inl ⟨od, hH, ?_⟩⟩
        exact lc_tail (Q := fun v H' => Q v H' ∨ ∃ d od u, H' d = some (.frz od u) ∧ (∀ o' u', X.H_0 d ≠ some (.frz o' u')) ∧ Q v (L2.upd H' d u)) h.ins h.bad (vr.ext x1) (walkD_keys hF rI hH) em' fun p o F' H' x2 hp hp' ow fp => .inl (q p o F' H' (x1.trans x2) (x1.heap.free hp) hp' ow fp)
    | dT kvs =>
      cases ek
      refine ⟨F, _, ey, vr, fun v F1 H1 x1 r1 => ?_⟩
      unfold Rep at r1
      obtain ⟨a, ws, rfl, hF, rI⟩ := r1
      rcases x1.sub a _ hF with hH | ⟨_, od, hH⟩
      · refine .inr ⟨a, ws, rfl, .inr ⟨hH, fun hn od => ?_⟩⟩
        refine lc_tail (Q := fun v H' => Q v H' ∨ ∃ d od u, H' d = some (.frz od u) ∧ (∀ o' u', X.H_0 d ≠ some (.frz o' u')) ∧ Q v (L2.upd H' d u)) h.ins h.bad (vr_lock (vr.ext x1) hF fun vs z => by cases z) (walkD_keysT hF rI upd_same) em' fun p o F' H' x2 hp hp' ow fp => .inr ⟨a, od, .dT ws, x2.heap _ _ upd_same, hn, ?_⟩
        have hpa : p ≠ a := fun z => by subst z; rw [upd_same] at hp; cases hp
        rw [upd_ne hpa] at hp
        exact q p o F' _ (x1.trans (ext_unl hF hH x2)) (x1.heap.free hp) (by rw [upd_ne hpa]; exact hp') ow fp
      · refine .inr ⟨a, ws, rfl, .inl ⟨od, hH, ?_⟩⟩
        exact lc_tail (Q := fun v H' => Q v H' ∨ ∃ d od u, H' d = some (.frz od u) ∧ (∀ o' u', X.H_0 d ≠ some (.frz o' u')) ∧ Q v (L2.upd H' d u)) h.ins h.bad (vr.ext x1) (walkD_keysT hF rI hH) em' fun p o F' H' x2 hp hp' ow fp => .inl (q p o F' H' (x1.trans x2) (x1.heap.free hp) hp' ow fp)
    | _ => cases ek
end
/-! ### defs that return a new list of the caller's own -/
def spO (K : PySem.W.Frag) (n : Nat) (g : List D → Option D) : Sp := fun vs H Q _ => ∃ F ds d, ds.length = n ∧ Sub F H ∧ Reps K F ds vs ∧ g ds = some d ∧ ∀ p o F' H', Ext F H F' H' → H p = none → H' p = some o → OwnO K F' d o → F' p = none → Q (.ref p) H'
def FnO (G : GX) (k : Nat) (x : Str) (n : Nat) (g : List D → Option D) : Prop := ∃ (f : Addr) (fd : FuncData) (ps : List Str), ps.length = n ∧ FnOk G.P G.w G.K G.mg G.base CX0 k f fd ps (spO G.K n g) ∧ G.mg x = some (.ref f) ∧ PySem.W.keepIn G.K (.ref f) = true ∧ Binds G.K fd ps []
def kO (K : PySem.W.Frag) : KS D := fun d B F0 E => ∀ p o F H, RetOk B F0 F H → B p = none → H p = some o → OwnO K F d o → F p = none → E.rt (.ref p) H
theorem fn_okO {G : GX} {x : Str} {st : Stmt} {N ps : List Str} {k n : Nat} {g : List D → Option D} (Fd : DefAt G x st ps) (S : FnScope N ps (defScope st)) (hn : ps.length = n)
    (h : ∀ ds, ds.length = n → BOk G ⟨N, k, defScope st, fun _ => true⟩ (rho N ds) (defBody st) (kO G.K) (g ds)) : FnO G (k + 1) x n g := by
  obtain ⟨f, fd, F, hm, hb⟩ := Fd
  have hpl : ps.length ≤ N.length := by have := congrArg List.length S.pre; rw [List.length_take] at this; omega
  refine ⟨f, fd, ps, hn, F.ok S (fun vs H Q E ⟨F, ds, d, hl, s, r, e, q⟩ => by rw [hn, ← hl, r.len]) (fun cdv A outer s H vs Q E hr ⟨F0, ds, d, hl, s0, r, e, q⟩ => ?_), hm, F.kp, hb⟩
  refine ⟨_, h ds hl _ ⟨rfl, rfl, rfl, rfl, rfl, rfl, S.nd, rfl, rfl, rfl, hr⟩, H, F0, F0, d, e, ⟨⟨s0, ?_, fun i d h => ?_, fun i d h => absurd h rho_own⟩, ⟨Same.refl _, s0, Same.refl _, fun a o h n => by rw [h] at n; cases n⟩, fun i d p h => absurd h rho_own, fun i j d e p h => absurd h rho_own⟩, ?_⟩
  · have := r.len
    simp only [L2.start, rho, List.length_append, List.length_map, List.length_replicate]
    omega
  · have hd : ds[i]? = some d := rho_nth (N := N) h
    obtain ⟨v, hv, rv⟩ := r.get hd
    refine ⟨v, ?_, rv⟩
    have hi : i < vs.length := (List.getElem?_eq_some_iff.mp hv).1
    unfold L2.start
    rw [List.getElem?_append_left (by simpa using hi), List.getElem?_map, hv]; rfl
  · intro p o F H' ro hB hH ow hF
    exact q p o F H' ⟨ro.keep, ro.ext, ro.sub, ro.fresh⟩ hB hH ow hF
section
variable {G : GX} {L : LX} {ρ : List Sl} {e a : Expr} {es : List Expr} {m : Option D} {ms : Option (List D)} {pos p p1 : Pos} {x : Str} {k n : Nat} {g : List D → Option D}
theorem b_retO (j : Nat) {y : D} (hy : nthS ρ j = .own y) (hN : L.N[j]? = some x := by rfl) (hv : Vis L.sc x := by first | exact Or.inl rfl | exact Or.inr (Or.inl rfl) | exact Or.inr (Or.inr rfl))
    (hd : (x == ("__debug__" : Str)) = false := by decide) (hcd : (x == ("__classdict__" : Str)) = false := by decide) : BOk G L ρ [.Return (some (.Name x p1)) pos] (kO G.K) (some y) := fun X hX =>
  wkSs (pss_one (ps_ret (p_own hX j hN hv hd hcd))) fun D σ H ⟨B, F0, F, r, em, er, q⟩ => by
    cases em
    obtain ⟨p', o, a1, a2, a3, a4⟩ := er.vr.owns j y hy
    exact ⟨.ref p', a1, q p' o F H er.ret (er.ownB j y p' hy a1) a2 a3 a4⟩
theorem f_callO (F : FnO G k x n g) (ha : AOk G L ρ (a :: es) ms) (hn : n = (a :: es).length := by rfl) (hk : k ≤ L.k := by decide) (hg : GlS L x := by rfl) (hdb : (x == ("__debug__" : Str)) = false := by decide)
    (hlen : ∀ ds, ms = some ds → ds.length = (a :: es).length) (he : ∀ env, starEach (a :: es) env = (false, eval a env) :: starEach es env := by intro _; rfl) (hpl : ∀ env, (backTo pos (starEach es env)).any (·.1) = false := by intro _; rfl) : FOk G L ρ (.Call (.Name x p) (a :: es) [] pos) (ms.bind g) := fun X hX => by
  obtain ⟨f, fd, ps, hps, hF, hm, hkp, hb⟩ := F
  have hF' : FnOk X.prog X.w X.K X.mg X.base CX0 k f fd ps (spO G.K n g) := by rw [hX.hP, hX.hw, hX.hK, hX.hm, hX.hb]; exact hF
  refine wkE (pe_call hF' (hX.room.mono hk) (gl_of hX hg) (by rw [hX.hm]; exact hm) (by rw [hX.hK]; exact hkp) (by rw [hX.hK]; exact hb) .nil (pass0 (X := X)) (ha X hX) hdb (he _) (hpl _)) fun σ H Q ⟨F, d, em, vr, q⟩ => ?_
  obtain ⟨ds, ed, em⟩ := Option.bind_eq_some_iff.mp em
  refine ⟨F, ds, ed, vr, fun vs F1 H1 x1 r1 => ?_⟩
  show spO G.K n g (vs ++ []) H1 Q E0
  rw [List.append_nil]
  exact ⟨F1, ds, d, by rw [hn]; exact hlen ds ed, x1.sub, r1, em, fun p o F2 H2 x2 n1 n2 n3 n4 => q p o F2 H2 (x1.trans x2) (x1.heap.free n1) n2 n3 n4⟩
theorem FOk.to {e : Expr} {m m' : Option D} (h : FOk G L ρ e m) (q : m = m') : FOk G L ρ e m' := q ▸ h
end
section
variable {G : GX} {L : LX} {ρ : List Sl} {e1 e2 e3 e4 e5 : Expr} {m1 m2 m3 m4 m5 : Option D} {pos p : Pos} {x : Str} {k : Nat}
theorem f_callO5 {f : D → D → D → D → D → Option D} (F : FnO G k x 5 (ap5 f)) (h1 : EOk G L ρ e1 m1) (h2 : EOk G L ρ e2 m2) (h3 : EOk G L ρ e3 m3) (h4 : EOk G L ρ e4 m4) (h5 : EOk G L ρ e5 m5) (hk : k ≤ L.k := by decide) (hg : GlS L x := by rfl) (hdb : (x == ("__debug__" : Str)) = false := by decide)
    (s1 : ∀ env, starEach [e1, e2, e3, e4, e5] env = (false, eval e1 env) :: starEach [e2, e3, e4, e5] env := by intro _; rfl) (s2 : ∀ env, starEach [e2, e3, e4, e5] env = (false, eval e2 env) :: starEach [e3, e4, e5] env := by intro _; rfl) (s3 : ∀ env, starEach [e3, e4, e5] env = (false, eval e3 env) :: starEach [e4, e5] env := by intro _; rfl) (s4 : ∀ env, starEach [e4, e5] env = (false, eval e4 env) :: starEach [e5] env := by intro _; rfl) (s5 : ∀ env, starEach [e5] env = (false, eval e5 env) :: starEach [] env := by intro _; rfl)
    (hpl : ∀ env, (backTo pos (starEach [e2, e3, e4, e5] env)).any (·.1) = false := by intro _; rfl) : FOk G L ρ (.Call (.Name x p) [e1, e2, e3, e4, e5] [] pos) (E5 f m1 m2 m3 m4 m5) := by
  have := f_callO F (p := p) (pos := pos) (a_cons h1 (a_cons h2 (a_cons h3 (a_cons h4 (a_cons h5 a_nil s5) s4) s3) s2) s1) rfl hk hg hdb (aC_len (aC_len (aC_len (aC_len (aC_len nil_len))))) s1 hpl
  refine FOk.to this ?_
  unfold aC E5
  cases m1 <;> cases m2 <;> cases m3 <;> cases m4 <;> cases m5 <;> rfl
end
theorem fn_okO5 {G : GX} {x : Str} {st : Stmt} {N ps : List Str} {k : Nat} {g : D → D → D → D → D → Option D} (Fd : DefAt G x st ps) (S : FnScope N ps (defScope st)) (hn : ps.length = 5)
    (h : ∀ a0 a1 a2 a3 a4, BOk G ⟨N, k, defScope st, fun _ => true⟩ (rho N [a0, a1, a2, a3, a4]) (defBody st) (kO G.K) (g a0 a1 a2 a3 a4)) : FnO G (k + 1) x 5 (ap5 g) := fn_okO Fd S hn fun ds hds => by
  match ds, hds with
  | [a0, a1, a2, a3, a4], _ => exact h a0 a1 a2 a3 a4
end DL
set_option autoImplicit false
set_option maxRecDepth 100000
set_option maxHeartbeats 4000000
namespace DL
open PySem PySem.Spec PySem.SeqAt PyProof.Rows L2
/-! ### sorted of a tuple of ints -/
section
variable {P : Program} {w : World} {A : Around} {E : Value → Shared → Prop} {s : Shared}
theorem sorted_tupI {l : Addr} {vs : List Value} {ns : List Int} {o : Obj} {n : Nat} {Q : Value → Shared → Prop} (ho : s.heap.get? l = some o) (hc : o.cls = .type "tuple") (hd : o.data = .seq vs.toArray n) (hI : IntsAre vs ns) (h64 : vs.length < 64)
    (hQ : ∀ (h1 h' : Heap) (out : Array Value) (c : Nat) (ns' : List Int), (∀ b u, s.heap.get? b = some u → h1.get? b = some u) → (∀ b u, h1.get? b = some u → h'.get? b = some u) → h'.get? h1.objs.size = some (seqObj "list" out c) → IntsAre out.toList ns' → ns'.Perm ns → ns'.Pairwise (· ≤ ·) → Q (.ref h1.objs.size) { s with heap := h' }) :
    wpAny (model P w) A (call (.builtin "sorted") [.ref l]) Q E s := by
  refine Calls.call_function_entry kind_sorted plain_sorted entry_sorted (args_sorted1 _) ?_
  unfold Builtin.«sorted»
  refine wpAny_bind (m := checkCount "sorted" 1 1 _) (wpAny_pure ?_)
  refine wpAny_bind (wpAny_collect_seq (A := A.in1) l (.inr rfl) ho hc hd (fun h1 k1 => ?_) (by rw [List.size_toArray, sizeLine_eq]; omega))
  refine wpAny_bind (wpAny_newList ?_ (by rw [sizeLine_eq]; simp; omega))
  show wpAny _ _ _ _ _ { s with heap := h1.push (seqObj "list" vs.toArray 0) }
  have hoL : (h1.push (seqObj "list" vs.toArray 0)).get? h1.objs.size = some (seqObj "list" vs.toArray 0) := Heap.get?_push_size _ rfl
  refine wpAny_bind (wpAny_holding (wpAny_call_entry slot_list_sort ⟨_, hoL, rfl⟩ entry_list_sort (list_sort_tree hoL hI h64 fun out ns' a1 a2 a3 => ⟨_, rfl, ?_⟩) (args_list_sort _)))
  obtain ⟨c, hc'⟩ := sortedHeap_at (vs := vs) (out := out) hoL
  refine wpAny_pure ⟨_, rfl, hQ h1 _ out c ns' k1 (fun b u q => ?_) hc' a1 a2 a3⟩
  have hlt := Heap.lt_size q
  show (sortedHeap (h1.push (seqObj "list" vs.toArray 0)) h1.objs.size vs out).get? b = some u
  rw [sortedHeap_old (Nat.ne_of_lt hlt) (by rw [size_push']; exact Nat.lt_succ_of_lt hlt)]
  exact Heap.get?_push_of_some _ q
end
def rSortedTI (K : PySem.W.Frag) : List V → Hp → VK → Prop := fun vs H Q => ∃ (a : Addr) (ns : List Int), vs = [V.ref a] ∧ SqT K H a (ns.map V.int) ∧ ns.length < 64 ∧
  ∀ (ns' : List Int) (p : Addr), ns'.Perm ns → ns'.Pairwise (· ≤ ·) → H p = none → Q (.ref p) (L2.upd H p (.lst (ns'.map V.int)))
theorem cr_sortedTI {X : Cx} : CallR X (.builtin "sorted") (rSortedTI X.K) := by
  intro pins s σ H vs us Q I r h
  obtain ⟨a, ns, rfl, hs, h64, q⟩ := h
  obtain ⟨its, rv, ⟨o, ho, hc, n, hd⟩, _⟩ := I.tuple hs
  rw [Vals.ref1 r]
  have hi := rv.ints
  refine sorted_tupI ho hc hd hi (by rw [hi.length]; exact h64) fun h1 h' out c ns' k1 k2 he a1 a2 a3 => ?_
  have hn : H h1.objs.size = none := (I.hok.kept k1).fresh (Nat.le_refl _)
  have hp : s.heap.get? h1.objs.size = none := by
    cases e : s.heap.get? h1.objs.size with
    | none => rfl
    | some u => exact absurd (Heap.lt_size (k1 _ _ e)) (Nat.lt_irrefl _)
  have hlen : (ns'.map V.int).length ≤ sizeLine := by rw [List.length_map, a2.length_eq]; exact small64 h64
  exact ⟨.ref _, L2.upd H h1.objs.size (.lst (ns'.map V.int)), I.laidN (t' := s.toks) (fun b u e => k2 b u (k1 b u e)) hp hn ⟨hlen, out.toList, c, vals_of_ints a1, he⟩, rfl, q ns' _ a2 a3 hn⟩
def sortTupD : List D → Option D
  | [.tup xs] => (intsOf xs).bind fun ns => if ns.length < 64 then some (.lst ((isort ns).map .int)) else none
  | _ => none
section
variable {G : GX} {L : LX} {ρ : List Sl} {e a : Expr} {m ma : Option D} {pos p : Pos}
theorem cf_sortTup : CallF G L sortTupD (.builtin "sorted") := fun X hX => ⟨_, cr_sortedTI, fun F H ds vs d Q s r e q => by
  unfold sortTupD at e
  split at e
  · rename_i xs
    obtain ⟨ns, hn, e⟩ := Option.bind_eq_some_iff.mp e
    split at e
    · rename_i h64
      cases e
      rw [hX.hK]
      obtain ⟨v, rfl, h⟩ := r.one
      unfold Rep at h
      obtain ⟨p, vs, rfl, h1, q1⟩ := h
      rw [intsOf_eq hn] at q1
      have := q1.ints
      subst this
      refine ⟨p, ns, rfl, tup_sq h1 s, h64, fun ns' p' hp hs hn' => ?_⟩
      have : ns' = isort ns := sorted_unique (hp.trans (isort_perm ns).symm) hs (isort_sorted ns)
      subst this
      exact q p' _ _ _ (.own s hn') hn' upd_same ⟨_, rfl, Reps.ofInts _⟩ (s.none hn')
    · cases e
  · cases e⟩
theorem f_sortTup1 (hm : G.mg "sorted" = none) (ha : EOk G L ρ a ma) (hg : GlS L "sorted" := by rfl) (s1 : ∀ env, starEach [a] env = (false, eval a env) :: starEach [] env := by intro _; rfl) :
    FOk G L ρ (.Call (.Name "sorted" p) [a] [] pos) (E1 (o1 sortTupD) ma) := aC1 ▸ (f_cb cf_sortTup hm PyProof.Rows.boot_sorted (a_cons ha a_nil s1) hg (by decide) (by decide) s1)
end
/-! ### unpacking a list -/
def gL (gs : List TGD) : TGD := fun d => match d with
  | .lst ds => gAll gs ds
  | _ => none
def un2L {α : Type} (f : D → D → Option α) : D → Option α
  | .lst [a, b] => f a b
  | _ => none
section
variable {R : Type} {G : GX} {L : LX} {ρ : List Sl} {tgs : List Expr} {gs : List TGD} {tg : Expr} {pos p : Pos} {rest : List Stmt} {k : KS R}
theorem g_lst {k : Nat} (h : GsOk G L tgs gs) (hn : ∀ env, (assignEach tgs env).length = gs.length := by intro _; rfl) (hst : ∀ env, (assignEach tgs env).findIdx? (·.1) = none := by intro _; rfl) : GOk G L (.Tuple tgs k pos) (gL gs) := fun X hX =>
  wkG (pg_unl hX.calm (h X hX) (hn _) (hst _)) fun v σ H Q ⟨F, d, as, s, r, e, q⟩ => by
    unfold gL at e
    split at e
    · rename_i ds
      unfold Rep at r
      obtain ⟨a, vs, rfl, h1, q1⟩ := r
      rw [hX.hK]
      refine ⟨a, vs, rfl, lst_sq h1 s, ?_, F, ds, as, s, q1, e, q⟩
      rw [← q1.len]; exact (gAll_len _ _ _ e).symm
    · cases e
theorem c_asgL2 {i j : Nat} {e : Expr} {m : Option D} {M : D → D → Option R} (he : EOk G L ρ e m) (hg : GOk G L tg (gL [gN i, gN j])) (hr : ∀ a b, BOk G L (setS (setS ρ i (.val a)) j (.val b)) rest k (M a b))
    (hs : ∀ env : Env, env.scope = L.sc → swapsWithSole [tg] e pos.line env = pure false := by intro _ _; rfl) (hw : ∀ env : Env, env.scope = L.sc → swappedStores [tg] e env = pure none := by intro _ _; rfl) (h1 : ∀ env, (assignEach [tg] env).map (·.2) = [assign tg env] := by intro _; rfl) :
    BOk G L ρ (.Assign [tg] e pos :: rest) k (m.bind (un2L M)) := b_asg he hg (fun d h => by
      unfold un2L
      split
      · cases h
      · rfl) (fun d as e => by
      unfold gL at e
      split at e
      · rename_i ds
        obtain ⟨a, b, as1, as2, e0, e1, e2, rfl⟩ := gT2_inv (d := .tup ds) e
        cases e0; cases e1; cases e2
        exact hr a b
      · cases e) hs hw h1
end
end DL
set_option autoImplicit false
set_option maxRecDepth 100000
set_option maxHeartbeats 4000000
/-! texts: split, join, str(..), int(text), signs of a text; unpacking a list of four; a raise that is not reached -/
namespace DL
open PySem PySem.Spec PySem.SeqAt PyProof.Rows L2
def strsOf : List D → Option (List Str)
  | [] => some []
  | .str x :: ds => (strsOf ds).map (x :: ·)
  | _ => none
def splitD : D → D → Option D
  | .str a, .str b => if (b.length == 0) = false ∧ a.length + 2 ≤ 16777216 then some (.lst ((Txt.split a b).map .str)) else none
  | _, _ => none
def joinD : D → D → Option D
  | .str a, .lst ds => (strsOf ds).bind fun ys => if (ys.map (·.length)).sum + ys.length * a.length ≤ 16777216 then some (.str (Txt.join a ys)) else none
  | _, _ => none
def strD : List D → Option D
  | [.int i] => if i.natAbs.log2 < 1920 then some (.str (Str.ofString (toString i))) else none
  | [.str a] => some (.str a)
  | _ => none
def intSD : List D → Option D
  | [.str a] => if a.length ≤ 640 then (PySem.intText? a).map .int else none
  | _ => none
def un4L {α : Type} (f : D → D → D → D → Option α) : D → Option α
  | .lst [a, b, c, d] => f a b c d
  | _ => none
def signsD : D → Option (List D)
  | .str z => some (z.cps.toList.map fun c => .str ⟨#[c]⟩)
  | _ => none
theorem reps_str {K : PySem.W.Frag} {F : Hp} : ∀ ys : List Str, Reps K F (ys.map .str) (ys.map V.str)
  | [] => by rw [List.map_nil, List.map_nil, Reps]
  | y :: ys => by
    rw [List.map_cons, List.map_cons, Reps]
    exact ⟨_, _, rfl, rep_s, reps_str ys⟩
theorem strsOf_rep {K : PySem.W.Frag} {F : Hp} : ∀ {ds : List D} {ys : List Str} {vs : List V}, strsOf ds = some ys → Reps K F ds vs → vs = ys.map V.str
  | [], ys, vs, h, r => by
    cases h
    rw [Reps] at r
    exact r
  | d :: ds, ys, vs, h, r => by
    cases d with
    | str x =>
      obtain ⟨zs, hz, rfl⟩ := Option.map_eq_some_iff.mp (show (strsOf ds).map (x :: ·) = some ys from h)
      rw [Reps] at r
      obtain ⟨v, q, rfl, h1, h2⟩ := r
      unfold Rep at h1
      rw [h1, strsOf_rep hz h2]; rfl
    | _ => cases h
section
variable {G : GX} {L : LX} {ρ : List Sl} {o e a : Expr} {mo me ma : Option D} {apos pos p : Pos}
theorem f_split (ho : EOk G L ρ o mo) (he : EOk G L ρ e me) (hs : ∀ env, starEach [e] env = [(false, eval e env)] := by intro _; rfl) (hb : ∀ env, attributeBase o "split" env (eval o env) = eval o env := by intro _; rfl) (hl : (apos.endLine == pos.line) = true := by rfl) :
    FOk G L ρ (.Call (.Attribute o "split" apos) [e] [] pos) (E2 splitD mo me) := fun X hX =>
  wkE (pe_split (ho X hX) (he X hX) (hs _) (hb _) hl) fun σ H Q ⟨F, d, em, vr, q⟩ => by
    obtain ⟨x, y, ex, ey, em⟩ := E2_some em
    refine ⟨F, x, ex, vr, fun v1 F1 H1 x1 r1 => ?_⟩
    unfold splitD at em
    split at em
    · split at em
      · cases em
        rename_i a b h
        unfold Rep at r1
        refine ⟨⟨_, r1⟩, F1, _, ey, vr.ext x1, fun v2 F2 H2 x2 r2 => ?_⟩
        unfold Rep at r2
        refine ⟨_, _, r1, by rw [r2], h.1, sz h.2, fun p hp => ?_⟩
        have xx := x1.trans x2
        exact q p _ _ _ (xx.trans (.own xx.sub hp)) (xx.heap.free hp) upd_same ⟨_, rfl, reps_str _⟩ (xx.sub.none hp)
      · cases em
    · cases em
theorem e_join (ho : EOk G L ρ o mo) (he : EOk G L ρ e me) (hs : ∀ env, starEach [e] env = [(false, eval e env)] := by intro _; rfl) (hb : ∀ env, attributeBase o "join" env (eval o env) = eval o env := by intro _; rfl) (hl : (apos.endLine == pos.line) = true := by rfl) :
    EOk G L ρ (.Call (.Attribute o "join" apos) [e] [] pos) (E2 joinD mo me) := fun X hX =>
  wkE (pe_join (ho X hX) (he X hX) (hs _) (hb _) hl) fun σ H Q ⟨F, d, em, vr, q⟩ => by
    obtain ⟨x, y, ex, ey, em⟩ := E2_some em
    refine ⟨F, x, ex, vr, fun v1 F1 H1 x1 r1 => ?_⟩
    unfold joinD at em
    split at em
    · obtain ⟨ys, ez, em⟩ := Option.bind_eq_some_iff.mp em
      split at em
      · cases em
        unfold Rep at r1
        refine ⟨⟨_, r1⟩, F1, _, ey, vr.ext x1, fun v2 F2 H2 x2 r2 => ?_⟩
        unfold Rep at r2
        obtain ⟨p, vs, rfl, h1, q1⟩ := r2
        have e3 := strsOf_rep ez q1
        subst e3
        have xx := x1.trans x2
        rw [hX.hK]
        exact ⟨_, p, ys, r1, rfl, .inl (lst_sq h1 xx.sub), by assumption, q _ F2 H2 xx rep_s⟩
      · cases em
    · cases em
theorem cd_str : CallD G L strD (.type "str") := fun X hX => ⟨_, call_str_int.or SkE.call_str_str, fun F H ds vs d Q s r e q => by
  unfold strD at e
  split at e
  · split at e
    · cases e
      obtain ⟨v, rfl, h⟩ := r.one
      unfold Rep at h
      exact .inl ⟨_, by rw [h], by assumption, q _ F H (.refl s) rep_s⟩
    · cases e
  · cases e
    obtain ⟨v, rfl, h⟩ := r.one
    unfold Rep at h
    exact .inr ⟨_, by rw [h], q _ F H (.refl s) rep_s⟩
  · cases e⟩
theorem cd_intS : CallD G L intSD (.type "int") := fun X hX => ⟨_, call_int_str, fun F H ds vs d Q s r e q => by
  unfold intSD at e
  split at e
  · split at e
    · obtain ⟨n, en, rfl⟩ := Option.map_eq_some_iff.mp e
      obtain ⟨v, rfl, h⟩ := r.one
      unfold Rep at h
      exact ⟨_, n, by rw [h], en, by assumption, q _ F H (.refl s) rep_i⟩
    · cases e
  · cases e⟩
theorem e_str1 (hm : G.mg "str" = none) (ha : EOk G L ρ a ma) (hg : GlS L "str" := by rfl) (s1 : ∀ env, starEach [a] env = (false, eval a env) :: starEach [] env := by intro _; rfl) :
    EOk G L ρ (.Call (.Name "str" p) [a] [] pos) (E1 (o1 strD) ma) := aC1 ▸ (e_ct cd_str hm PyProof.Rows.boot_str (a_cons ha a_nil s1) hg (by decide) (by decide) s1)
theorem e_intS1 (hm : G.mg "int" = none) (ha : EOk G L ρ a ma) (hg : GlS L "int" := by rfl) (s1 : ∀ env, starEach [a] env = (false, eval a env) :: starEach [] env := by intro _; rfl) :
    EOk G L ρ (.Call (.Name "int" p) [a] [] pos) (E1 (o1 intSD) ma) := aC1 ▸ (e_ct cd_intS hm PyProof.Rows.boot_int (a_cons ha a_nil s1) hg (by decide) (by decide) s1)
theorem i_signs {tg : Expr} (h : EOk G L ρ e me) : IOk G L ρ tg e (me.bind signsD) := fun X hX => wkI (pi_str (h X hX)) fun σ H R ⟨F, ds, em, vr, q⟩ => by
  obtain ⟨d, ed, es⟩ := Option.bind_eq_some_iff.mp em
  unfold signsD at es
  split at es
  · cases es
    rename_i z
    refine ⟨F, _, ed, vr, fun v F' H' x r => ?_⟩
    unfold Rep at r
    refine ⟨z, r, q _ F' H' x (walkD_of walk_str (by rw [List.length_map, Array.length_toList]) (fun _ _ _ _ => trivial) fun i F2 H x H' d hs s hd ⟨e, c, hc, hx⟩ => ?_)⟩
    subst e hx
    rw [List.getElem?_map, Array.getElem?_toList, hc] at hd
    cases hd
    exact ⟨F2, .refl s, rep_s⟩
  · cases es
end
section
variable {R : Type} {G : GX} {L : LX} {ρ : List Sl} {tg : Expr} {pos : Pos} {rest : List Stmt} {k : KS R}
/-- a raise; nothing is said of it -/
theorem b_raise {st : Stmt} : BOk G L ρ (st :: rest) k none := b_none rfl
theorem c_asgL4 {i j l q : Nat} {e : Expr} {m : Option D} {M : D → D → D → D → Option R} (he : EOk G L ρ e m) (hg : GOk G L tg (gL [gN i, gN j, gN l, gN q])) (hr : ∀ a b c d, BOk G L (setS (setS (setS (setS ρ i (.val a)) j (.val b)) l (.val c)) q (.val d)) rest k (M a b c d))
    (hs : ∀ env : Env, env.scope = L.sc → swapsWithSole [tg] e pos.line env = pure false := by intro _ _; rfl) (hw : ∀ env : Env, env.scope = L.sc → swappedStores [tg] e env = pure none := by intro _ _; rfl) (h1 : ∀ env, (assignEach [tg] env).map (·.2) = [assign tg env] := by intro _; rfl) :
    BOk G L ρ (.Assign [tg] e pos :: rest) k (m.bind (un4L M)) := by
  refine b_asg he hg (fun d h => by
      unfold un4L
      split
      · cases h
      · rfl) (fun d as e => by
      unfold gL at e
      split at e
      · rename_i ds
        obtain ⟨a, b, c, d, as1, as2, as3, as4, e0, e1, e2, e3, e4, rfl⟩ := gT4_inv (d := .tup ds) e
        cases e0; cases e1; cases e2; cases e3; cases e4
        exact hr a b c d
      · cases e) hs hw h1
end
/-! ### new lists: a slice, a slice times an int -/
def lstOnly : D → Option D
  | .lst xs => some (.lst xs)
  | _ => none
section
variable {G : GX} {L : LX} {ρ : List Sl} {a b : Expr} {ma mb : Option D} {p2 pos : Pos}
theorem f_sl2 {lo hi : Option Expr} {nl nh : Option (Option Int)} (ha : EOk G L ρ a ma) (hl : OOk G L ρ lo nl) (hh : OOk G L ρ hi nh) : FOk G L ρ (.Subscript a (.Slice lo hi none p2) pos) (SL (ma.bind lstOnly) nl nh) := fun X hX =>
  wkE (pe_slice sl_list (ha X hX) (hl X hX) (hh X hX)) fun σ H Q ⟨F, d, em, vr, q⟩ => by
    obtain ⟨y, ey, em⟩ := Option.bind_eq_some_iff.mp em
    obtain ⟨y0, ey0, ey⟩ := Option.bind_eq_some_iff.mp ey
    obtain ⟨l, el, em⟩ := Option.bind_eq_some_iff.mp em
    obtain ⟨h, eh, em⟩ := Option.bind_eq_some_iff.mp em
    refine ⟨F, y0, ey0, vr, fun v F1 H1 x1 r1 => ⟨F1, l, el, vr.ext x1, fun F2 H2 x2 => ⟨F2, h, eh, vr.ext (x1.trans x2), fun F3 H3 x3 => ?_⟩⟩⟩
    rw [hX.hK]
    have xx := (x1.trans x2).trans x3
    have r3 := Rep.mono (x2.trans x3).froz _ _ r1
    cases y0 with
    | lst ds =>
      cases ey
      cases em
      unfold Rep at r3
      obtain ⟨p, vs, rfl, h1, q1⟩ := r3
      exact ⟨p, vs, rfl, lst_sq h1 xx.sub, fun p' hp => q p' _ _ _ (xx.trans (.own xx.sub hp)) (xx.heap.free hp) upd_same ⟨_, rfl, q1.cut l h⟩ (xx.sub.none hp)⟩
    | _ => cases ey
theorem f_repF (ha : FOk G L ρ a ma) (hb : EOk G L ρ b mb) : FOk G L ρ (.BinOp a .Mult b pos) (E2 repD ma mb) := fun X hX =>
  wkE (pe_op op_rep (ha X hX) (hb X hX)) fun σ H Q ⟨F, d, em, vr, q⟩ => by
    obtain ⟨x, y, ex, ey, em⟩ := E2_some em
    refine ⟨F, x, ex, vr, fun p1 o F1 H1 x1 n1 ho ow hF => ⟨F1, y, ey, vr.ext x1, fun v2 F2 H2 x2 r2 => ?_⟩⟩
    unfold repD at em
    split at em
    · split at em
      · rename_i xs k h
        cases em
        obtain ⟨vs, rfl, rv⟩ := ow
        unfold Rep at r2
        refine ⟨p1, k, vs, rfl, r2, x2.heap _ _ ho, h.1, h.2.1, by rw [← rv.len]; exact sz h.2.2, fun p' hp => ?_⟩
        have xx := x1.trans x2
        exact q p' _ F2 _ (xx.trans (.own xx.sub hp)) (xx.heap.free hp) upd_same ⟨_, rfl, (Reps.mono x2.froz _ _ rv).rep _⟩ (xx.sub.none hp)
      · cases em
    · cases em
end
end DL
set_option autoImplicit false
set_option maxRecDepth 100000
set_option maxHeartbeats 4000000
namespace DL
open PySem PySem.Spec PySem.SeqAt PyProof.Rows L2
open PySem.W (dataLt alike)
section
variable {α β R S : Type} {f1 : D → Option D} {f2 : D → D → Option D} {a b c d : D} {m n : Option D} {i j : Int} {p q : Bool} {x y : Str}
@[simp] theorem E1_s : E1 f1 (some a) = f1 a := id rfl
@[simp] theorem E1_n : E1 f1 none = none := id rfl
@[simp] theorem E2_s : E2 f2 (some a) (some b) = f2 a b := id rfl
@[simp] theorem E2_n : E2 f2 none m = none := id rfl
@[simp] theorem E3_s {f : D → D → D → Option D} : E3 f (some a) (some b) (some c) = f a b c := id rfl
@[simp] theorem E4_s {f : D → D → D → D → Option D} : E4 f (some a) (some b) (some c) (some d) = f a b c d := id rfl
@[simp] theorem E5_s {f : D → D → D → D → D → Option D} {e : D} : E5 f (some a) (some b) (some c) (some d) (some e) = f a b c d e := id rfl
@[simp] theorem E6_s {f : D → D → D → D → D → D → Option D} {e g : D} : E6 f (some a) (some b) (some c) (some d) (some e) (some g) = f a b c d e g := id rfl
@[simp] theorem E7_s {f : D → D → D → D → D → D → D → Option D} {e g h : D} : E7 f (some a) (some b) (some c) (some d) (some e) (some g) (some h) = f a b c d e g h := id rfl
@[simp] theorem aC_s {l : List D} : aC (some a) (some l) = some (a :: l) := id rfl
@[simp] theorem o1_s {f : List D → Option D} : o1 f a = f [a] := id rfl
@[simp] theorem o2_s {f : List D → Option D} : o2 f a b = f [a, b] := id rfl
@[simp] theorem iteO_s {A B : Option R} : iteO (some p) A B = if p = true then A else B := id rfl
@[simp] theorem iteO_n {A B : Option R} : iteO none A B = none := id rfl
@[simp] theorem ifD_s : ifD (some p) m n = if p = true then m else n := id rfl
@[simp] theorem andT_s {n : Option Bool} : andT (some p) n = if p = true then n else some false := id rfl
@[simp] theorem orT_s {n : Option Bool} : orT (some p) n = if p = true then some true else n := id rfl
@[simp] theorem notT_s : notT (some p) = some (!p) := id rfl
@[simp] theorem andV_s : andV (some (.bl p)) n = if p = true then n else some (.bl false) := id rfl
@[simp] theorem orV_s : orV (some (.bl p)) n = if p = true then some (.bl true) else n := id rfl
@[simp] theorem notV_s : notV (some (.bl p)) = some (.bl (!p)) := id rfl
@[simp] theorem ifB {A B : Prop} [Decidable A] : (if A then some true else some false) = some (decide A) := by split <;> simp [*]
@[simp] theorem getB_b : getB (.bl p) = some p := id rfl
@[simp] theorem truD_b : truD (.bl p) = some p := id rfl
@[simp] theorem truD_i : truD (.int i) = some (i != 0) := id rfl
@[simp] theorem truD_n : truD .non = some false := id rfl
@[simp] theorem truD_l {ds : List D} : truD (.lst ds) = some (!ds.isEmpty) := id rfl
@[simp] theorem truD_t {ds : List D} : truD (.tup ds) = some (!ds.isEmpty) := id rfl
@[simp] theorem getI_i : getI (.int i) = some i := id rfl
@[simp] theorem negD_i : negD (.int i) = some (.int (-i)) := id rfl
@[simp] theorem addD_i : addD (.int i) (.int j) = some (.int (i + j)) := id rfl
@[simp] theorem addI_i : addI (.int i) (.int j) = some (.int (i + j)) := id rfl
@[simp] theorem subD_i : subD (.int i) (.int j) = some (.int (i - j)) := id rfl
theorem mulD_i (h : i.natAbs < 2 ^ 64 ∨ j.natAbs < 2 ^ 64 ∨ (i.natAbs < wideN ∧ j.natAbs < wideN)) : mulD (.int i) (.int j) = some (.int (i * j)) := by simp only [mulD]; rw [if_pos h]
theorem mulD_l (h : -9223372036854775808 ≤ i ∧ i ≤ 9223372036854775807) : mulD (.int i) (.int j) = some (.int (i * j)) := mulD_i (.inl (by omega))
theorem mulD_r (h : -9223372036854775808 ≤ j ∧ j ≤ 9223372036854775807) : mulD (.int i) (.int j) = some (.int (i * j)) := mulD_i (.inr (.inl (by omega)))
theorem le_wide {n : Nat} (h : n < 2 ^ 64) : n < wideN := Nat.lt_of_lt_of_le h (by unfold wideN; exact Nat.pow_le_pow_right (by omega) (by omega))
theorem fdivD_i (h : 0 < j) (h2 : j ≤ 9223372036854775807) : fdivD (.int i) (.int j) = some (.int (i / j)) := by
  simp only [fdivD]
  rw [if_pos ⟨h, le_wide (by omega)⟩]
theorem modD_i (h : 0 < j) : modD (.int i) (.int j) = some (.int (i % j)) := by simp only [modD]; rw [if_pos h]
theorem powD_i (h : 0 ≤ j ∧ j ≤ 1000000) (h2 : -9223372036854775808 ≤ i ∧ i ≤ 9223372036854775807) : powD (.int i) (.int j) = some (.int (i ^ j.toNat))   := by simp only [powD]; rw [if_pos ⟨h.1, h.2, by omega⟩]
/-! ### equality, order -/
@[simp] theorem ok_i : okD (.int i) = true := by simp [okD, plain, dep]
@[simp] theorem ok_b : okD (.bl p) = true := by simp [okD, plain, dep]
@[simp] theorem ok_n : okD .non = true := by simp [okD, plain, dep]
theorem ok_s : okD (.str x) = PyData.strOk x := by simp [okD, plain, dep]
theorem ok_t {ds : List D} : okD (.tup ds) = (plains ds && decide (deps ds + 1 ≤ 60)) := by simp [okD, plain, dep]
theorem ok_l {ds : List D} : okD (.lst ds) = (plains ds && decide (deps ds + 1 ≤ 60)) := by simp [okD, plain, dep]
@[simp] theorem deq_ii : deq (.int i) (.int j) = decide (i = j) := by simp only [deq, toPy, PyData.eqv]; by_cases h : i = j <;> simp [h]
@[simp] theorem deq_in : deq (.int i) .non = false := by simp [deq, toPy, PyData.eqv]
@[simp] theorem deq_ni : deq .non (.int i) = false := by simp [deq, toPy, PyData.eqv]
@[simp] theorem deq_nn : deq .non .non = true := by simp [deq, toPy, PyData.eqv]
@[simp] theorem deq_bb : deq (.bl p) (.bl q) = (p == q) := by simp [deq, toPy, PyData.eqv]
@[simp] theorem deq_ss : deq (.str x) (.str y) = (x == y) := by simp [deq, toPy, PyData.eqv]
@[simp] theorem deq_t {xs ys : List D} : deq (.tup xs) (.tup ys) = PyData.eqvAll (toPys xs) (toPys ys) := by simp [deq, toPy, PyData.eqv]
@[simp] theorem deq_l {xs ys : List D} : deq (.lst xs) (.lst ys) = PyData.eqvAll (toPys xs) (toPys ys) := by simp [deq, toPy, PyData.eqv]
@[simp] theorem eqvs_nil : PyData.eqvAll (toPys []) (toPys []) = true := by simp [toPys, PyData.eqvAll]
@[simp] theorem eqvs_cons {xs ys : List D} : PyData.eqvAll (toPys (a :: xs)) (toPys (b :: ys)) = (deq a b && PyData.eqvAll (toPys xs) (toPys ys)) := by simp [toPys, PyData.eqvAll, deq]
@[simp] theorem eqvs_n1 {xs : List D} : PyData.eqvAll (toPys (a :: xs)) (toPys []) = false := by simp [toPys, PyData.eqvAll]
@[simp] theorem eqvs_n2 {xs : List D} : PyData.eqvAll (toPys []) (toPys (a :: xs)) = false := by simp [toPys, PyData.eqvAll]
@[simp] theorem plains_nil : plains [] = true := by simp [plains]
@[simp] theorem plains_cons {ds : List D} : plains (d :: ds) = (plain d && plains ds) := by simp [plains]
@[simp] theorem deps_nil : deps [] = 0 := by simp [deps]
@[simp] theorem deps_cons {ds : List D} : deps (d :: ds) = max (dep d) (deps ds) := by simp [deps]
@[simp] theorem plain_i : plain (.int i) = true := by simp [plain]
@[simp] theorem dep_i : dep (.int i) = 0 := by simp [dep]
@[simp] theorem plain_n : plain .non = true := by simp [plain]
@[simp] theorem dep_n : dep .non = 0 := by simp [dep]
@[simp] theorem plain_b : plain (.bl p) = true := by simp [plain]
@[simp] theorem dep_b : dep (.bl p) = 0 := by simp [dep]
@[simp] theorem dep_s : dep (.str x) = 0 := by simp [dep]
@[simp] theorem plain_t {ds : List D} : plain (.tup ds) = plains ds := by simp [plain]
@[simp] theorem dep_t {ds : List D} : dep (.tup ds) = deps ds + 1 := by simp [dep]
@[simp] theorem plain_l {ds : List D} : plain (.lst ds) = plains ds := by simp [plain]
@[simp] theorem dep_l {ds : List D} : dep (.lst ds) = deps ds + 1 := by simp [dep]
@[simp] theorem plains_ints {ns : List Int} : plains (ns.map D.int) = true := by induction ns <;> simp [*]
@[simp] theorem deps_ints {ns : List Int} : deps (ns.map D.int) = 0 := by induction ns <;> simp [*]
@[simp] theorem eqvs_ints {ns ms : List Int} : PyData.eqvAll (toPys (ns.map D.int)) (toPys (ms.map D.int)) = decide (ns = ms) := by
  induction ns generalizing ms with
  | nil => cases ms <;> simp
  | cons n ns ih => cases ms with
    | nil => simp
    | cons m ms => simp [ih, Bool.decide_and]
@[simp] theorem eqD_i : eqD (.int i) (.int j) = some (.bl (decide (i = j))) := by simp [eqD]
@[simp] theorem neD_i : neD (.int i) (.int j) = some (.bl (decide (i ≠ j))) := by simp [neD]
@[simp] theorem eqD_b : eqD (.bl p) (.bl q) = some (.bl (p == q)) := by simp [eqD]
@[simp] theorem neD_b : neD (.bl p) (.bl q) = some (.bl (!(p == q))) := by simp [neD]
theorem eqD_s (h : PyData.strOk x = true) (h2 : PyData.strOk y = true) : eqD (.str x) (.str y) = some (.bl (x == y)) := by simp [eqD, ok_s, h, h2]
theorem dlt_i : dlt (.int i) (.int j) = decide (i < j) := by simp only [dlt, toPy]; exact PySem.W.dataLt_int i j
theorem cmp_i : cmpOk (.int i) (.int j) = true := by simp [cmpOk, toPy, alike]
@[simp] theorem ltD_i : ltD (.int i) (.int j) = some (.bl (decide (i < j))) := by simp [ltD, cmp_i, dlt_i]
@[simp] theorem gtD_i : gtD (.int i) (.int j) = some (.bl (decide (j < i))) := by simp [gtD, cmp_i, dlt_i]
@[simp] theorem leD_i : leD (.int i) (.int j) = some (.bl (decide (i ≤ j))) := by simp [leD, cmp_i, dlt_i, ← Int.not_lt]
@[simp] theorem geD_i : geD (.int i) (.int j) = some (.bl (decide (j ≤ i))) := by simp [geD, cmp_i, dlt_i, ← Int.not_lt]
@[simp] theorem isD_n : isD .non .non = some (.bl true) := id rfl
@[simp] theorem isD_i : isD (.int i) .non = some (.bl false) := id rfl
@[simp] theorem isD_t {ds : List D} : isD (.tup ds) .non = some (.bl false) := id rfl
@[simp] theorem isD_l {ds : List D} : isD (.lst ds) .non = some (.bl false) := id rfl
@[simp] theorem isD_b : isD (.bl p) .non = some (.bl false) := id rfl
@[simp] theorem isD_s : isD (.str x) .non = some (.bl false) := id rfl
@[simp] theorem isNotD_n : isNotD .non .non = some (.bl false) := id rfl
@[simp] theorem isNotD_i : isNotD (.int i) .non = some (.bl true) := id rfl
@[simp] theorem isNotD_t {ds : List D} : isNotD (.tup ds) .non = some (.bl true) := id rfl
@[simp] theorem isNotD_l {ds : List D} : isNotD (.lst ds) .non = some (.bl true) := id rfl
/-! ### builtins -/
@[simp] theorem intD_i : intD [.int i] = some (.int i) := id rfl
@[simp] theorem intD_b : intD [.bl p] = some (.int (if p = true then 1 else 0)) := id rfl
@[simp] theorem absD_i : absD [.int i] = some (.int (if i < 0 then -i else i)) := id rfl
@[simp] theorem max2D_i : max2D [.int i, .int j] = some (.int (max i j)) := by
  show some (D.int (if j > i then j else i)) = _
  congr 2; split <;> omega
@[simp] theorem min2D_i : min2D [.int i, .int j] = some (.int (min i j)) := by
  show some (D.int (if j < i then j else i)) = _
  congr 2; split <;> omega
@[simp] theorem lenD_t {ds : List D} : lenD [.tup ds] = some (.int ds.length) := id rfl
@[simp] theorem lenD_l {ds : List D} : lenD [.lst ds] = some (.int ds.length) := id rfl
@[simp] theorem lenD_c {ns : List Int} : lenD [.scr ns] = some (.int ns.length) := id rfl
@[simp] theorem lenD_d {ns : List (Int × D)} : lenD [.dI ns] = some (.int ns.length) := id rfl
@[simp] theorem blsOf_map {bs : List Bool} : blsOf (bs.map .bl) = some bs := by induction bs <;> simp [blsOf, *]
@[simp] theorem intsOf_map {ns : List Int} : intsOf (ns.map .int) = some ns := by induction ns <;> simp [intsOf, *]
@[simp] theorem intsOf_nil : intsOf [] = some [] := id rfl
@[simp] theorem intsOf_cons {ds : List D} : intsOf (.int i :: ds) = (intsOf ds).map (i :: ·) := id rfl
@[simp] theorem allD_bs {bs : List Bool} : allD [.lst (bs.map .bl)] = some (.bl (bs.all fun b => b)) := by simp [allD]
@[simp] theorem anyD_bs {bs : List Bool} : anyD [.lst (bs.map .bl)] = some (.bl (bs.any fun b => b)) := by simp [anyD]
@[simp] theorem sumD_ns {ns : List Int} : sumD [.lst (ns.map .int)] = some (.int ns.sum) := by simp [sumD]
@[simp] theorem sumD_nt {ns : List Int} : sumD [.tup (ns.map .int)] = some (.int ns.sum) := by simp [sumD]
@[simp] theorem tupleD_l {ds : List D} : tupleD [.lst ds] = some (.tup ds) := id rfl
@[simp] theorem tupleD_t {ds : List D} : tupleD [.tup ds] = some (.tup ds) := id rfl
@[simp] theorem listD_l {ds : List D} : listD [.lst ds] = some (.lst ds) := id rfl
@[simp] theorem listD_t {ds : List D} : listD [.tup ds] = some (.lst ds) := id rfl
@[simp] theorem sortedD_ns {ns : List Int} : sortedD [.lst (ns.map .int)] = some (.lst ((isort ns).map .int)) := by simp only [sortedD, intsOf_map]
@[simp] theorem seqD_l {ds : List D} : seqD (.lst ds) = some ds := id rfl
@[simp] theorem seqD_t {ds : List D} : seqD (.tup ds) = some ds := id rfl
theorem rg1_i (h : -4611686018427387904 ≤ i ∧ i < 4611686018427387904) : rg1D [.int i] = some ((rangeI 0 i).map .int) := by
  simp only [rg1D]; rw [if_pos]
  simp [okI]; omega
theorem rg2_i (h : -4611686018427387904 ≤ i ∧ i < 4611686018427387904) (h2 : -4611686018427387904 ≤ j ∧ j < 4611686018427387904) : rg2D [.int i, .int j] = some ((rangeI i j).map .int) := by
  simp only [rg2D]; rw [if_pos]
  simp [okI]; omega
theorem tupD_i {ds : List D} (h : ds.length ≤ 16777216) : tupD ds = some (.tup ds) := by unfold tupD; rw [if_pos h]
theorem lstD_i {ds : List D} (h : ds.length ≤ 16777216) : lstD ds = some (.lst ds) := by unfold lstD; rw [if_pos h]
theorem appD_i {ds : List D} (h : ds.length < 16777216) : appD (.lst ds) d = some (.lst (ds ++ [d])) := by simp only [appD]; rw [if_pos h]
@[simp] theorem un2_s {f : D → D → Option α} : un2 f (.tup [a, b]) = f a b := id rfl
@[simp] theorem un3_s {f : D → D → D → Option α} : un3 f (.tup [a, b, c]) = f a b c := id rfl
@[simp] theorem un4_s {f : D → D → D → D → Option α} : un4 f (.tup [a, b, c, d]) = f a b c d := id rfl
@[simp] theorem bindJ_n {f : α → Option R} {x : α} : bindJ (some (.nx x)) f = f x := id rfl
@[simp] theorem bindJ_e {f : α → Option R} {x : R} : bindJ (some (.ex x)) f = some x := id rfl
@[simp] theorem bindR_n {f : D → R} {M : α → Option R} {x : α} : bindR (some (.nx x)) f M = M x := id rfl
@[simp] theorem bindR_e {f : D → R} {M : α → Option R} : bindR (some (.ex d)) f M = some (f d) := id rfl
@[simp] theorem tupRev_l {ds : List D} : tupRevD (.lst ds) = some (.tup ds.reverse) := id rfl
theorem tupR1_i (h : i ≤ 16777216 ∧ -4611686018427387904 ≤ i) : tupR1 (.int i) = some (.tup ((rangeI 0 i).map .int)) := by
  simp only [tupR1]; rw [if_pos]; simp [okR]; omega
theorem lstR1_i (h : i ≤ 16777216 ∧ -4611686018427387904 ≤ i) : lstR1 (.int i) = some (.lst ((rangeI 0 i).map .int)) := by
  simp only [lstR1]; rw [if_pos]; simp [okR]; omega
theorem lstR2_i (h : -16777216 ≤ i ∧ i ≤ 16777216) (h2 : -16777216 ≤ j ∧ j ≤ 16777216) (h3 : j - i ≤ 16777216) : lstR2 (.int i) (.int j) = some (.lst ((rangeI i j).map .int)) := by
  simp only [lstR2]; rw [if_pos]; simp [okR]; omega
@[simp] theorem un21_s {f : D → D → D → Option α} : un21 f (.tup [a, b]) c = f a b c := id rfl
/-! ### subscripts -/
theorem atI_pos {xs : List α} {i : Int} (h : 0 ≤ i) : atI xs i = xs[i.toNat]? := by
  unfold atI ixN
  rw [if_pos h]
  by_cases h2 : i < xs.length
  · rw [if_pos h2]; rfl
  · rw [if_neg h2, List.getElem?_eq_none (by omega)]; rfl
theorem atI_neg {xs : List α} {i : Int} (h : i < 0) (h2 : -(xs.length : Int) ≤ i) : atI xs i = xs[(i + xs.length).toNat]? := by
  unfold atI ixN
  rw [if_neg (by omega), if_pos h2]; rfl
/-- the number at a place of a row -/
def at0 (ns : List Int) (i : Int) : Int := ns.getD i.toNat 0
theorem at0_get {ns : List Int} {i : Int} (h : 0 ≤ i ∧ i < ns.length) : ns[i.toNat]? = some (at0 ns i) := by
  have : i.toNat < ns.length := by omega
  simp [at0, List.getD, this]
theorem ixD_row {ns : List Int} {i : Int} (h : 0 ≤ i ∧ i < ns.length) : ixD (.lst (ns.map .int)) (.int i) = some (.int (at0 ns i)) := by
  simp only [ixD]; rw [atI_pos h.1, List.getElem?_map, at0_get h]; rfl
theorem ixD_rowT {ns : List Int} {i : Int} (h : 0 ≤ i ∧ i < ns.length) : ixD (.tup (ns.map .int)) (.int i) = some (.int (at0 ns i)) := by
  simp only [ixD]; rw [atI_pos h.1, List.getElem?_map, at0_get h]; rfl
theorem ixD_scr {ns : List Int} {i : Int} (h : 0 ≤ i ∧ i < ns.length) : ixD (.scr ns) (.int i) = some (.int (at0 ns i)) := by
  simp only [ixD]; rw [atI_pos h.1, at0_get h]; rfl
theorem ixD_l {ds : List D} (h : 0 ≤ i) : ixD (.lst ds) (.int i) = ds[i.toNat]? := by simp only [ixD]; exact atI_pos h
theorem ixD_t {ds : List D} (h : 0 ≤ i) : ixD (.tup ds) (.int i) = ds[i.toNat]? := by simp only [ixD]; exact atI_pos h
theorem at0_mem {ns : List Int} {i : Int} (h : 0 ≤ i ∧ i < ns.length) : at0 ns i ∈ ns := List.mem_of_getElem? (at0_get h)
end
/-! ### ranges -/
theorem rangeI_len (i j : Int) : (rangeI i j).length = (j - i).toNat := by simp [rangeI]
theorem rangeI_mem {i j x : Int} : x ∈ rangeI i j ↔ i ≤ x ∧ x < j := by
  simp only [rangeI, List.mem_map, List.mem_range]
  constructor
  · rintro ⟨k, h, rfl⟩; omega
  · intro h; exact ⟨(x - i).toNat, by omega, by omega⟩
theorem rangeI_nil {i j : Int} (h : j ≤ i) : rangeI i j = [] := by
  have : (j - i).toNat = 0 := by omega
  simp [rangeI, this]
theorem rangeI_succ {i j : Int} (h : i ≤ j) : rangeI i (j + 1) = rangeI i j ++ [j] := by
  have : (j + 1 - i).toNat = (j - i).toNat + 1 := by omega
  simp only [rangeI, this, List.range_succ, List.map_append, List.map_cons, List.map_nil]
  congr 2; omega
theorem rangeI_cons {i j : Int} (h : i < j) : rangeI i j = i :: rangeI (i + 1) j := by
  have : (j - i).toNat = (j - (i + 1)).toNat + 1 := by omega
  simp only [rangeI, this, List.range_succ_eq_map, List.map_cons, List.map_map]
  congr 1
  · omega
  · apply List.map_congr_left; intro k _; simp; omega
/-! ### steps -/
section
variable {α β : Type} {m : Option α} {M : α → Option β} {x : α} {r : β}
theorem bstep (h : m = some x) (h2 : M x = some r) : m.bind M = some r := by rw [h]; exact h2
theorem bstepE {P : α → Prop} (h : ∃ x, m = some x ∧ P x) (h2 : ∀ x, P x → M x = some r) : m.bind M = some r := by
  obtain ⟨x, e, p⟩ := h
  rw [e]; exact h2 x p
theorem bstepX {P : α → Prop} {Q : β → Prop} (h : ∃ x, m = some x ∧ P x) (h2 : ∀ x, P x → ∃ y, M x = some y ∧ Q y) : ∃ y, m.bind M = some y ∧ Q y := by
  obtain ⟨x, e, p⟩ := h
  rw [e]; exact h2 x p
theorem bstepY {Q : β → Prop} (h : m = some x) (h2 : ∃ y, M x = some y ∧ Q y) : ∃ y, m.bind M = some y ∧ Q y := by rw [h]; exact h2
end
section
variable {β : Type} {M : D → Option β} {x a1 a2 a3 a4 a5 a6 a7 : D} {r : β} {P : D → Prop} {Q : β → Prop}
theorem bs1 {f : D → Option D} (h : f a1 = some x) (h2 : M x = some r) : (E1 f (some a1)).bind M = some r := by
  have : E1 f (some a1) = f a1 := rfl
  rw [this, h]; exact h2
theorem bx1 {f : D → Option D} (h : f a1 = some x) (h2 : ∃ y, M x = some y ∧ Q y) : ∃ y, (E1 f (some a1)).bind M = some y ∧ Q y := by
  have : E1 f (some a1) = f a1 := rfl
  rw [this, h]; exact h2
theorem bs2 {f : D → D → Option D} (h : f a1 a2 = some x) (h2 : M x = some r) : (E2 f (some a1) (some a2)).bind M = some r := by
  have : E2 f (some a1) (some a2) = f a1 a2 := rfl
  rw [this, h]; exact h2
theorem bx2 {f : D → D → Option D} (h : f a1 a2 = some x) (h2 : ∃ y, M x = some y ∧ Q y) : ∃ y, (E2 f (some a1) (some a2)).bind M = some y ∧ Q y := by
  have : E2 f (some a1) (some a2) = f a1 a2 := rfl
  rw [this, h]; exact h2
theorem bs3 {f : D → D → D → Option D} (h : f a1 a2 a3 = some x) (h2 : M x = some r) : (E3 f (some a1) (some a2) (some a3)).bind M = some r := by
  have : E3 f (some a1) (some a2) (some a3) = f a1 a2 a3 := rfl
  rw [this, h]; exact h2
theorem bx3 {f : D → D → D → Option D} (h : f a1 a2 a3 = some x) (h2 : ∃ y, M x = some y ∧ Q y) : ∃ y, (E3 f (some a1) (some a2) (some a3)).bind M = some y ∧ Q y := by
  have : E3 f (some a1) (some a2) (some a3) = f a1 a2 a3 := rfl
  rw [this, h]; exact h2
theorem bs4 {f : D → D → D → D → Option D} (h : f a1 a2 a3 a4 = some x) (h2 : M x = some r) : (E4 f (some a1) (some a2) (some a3) (some a4)).bind M = some r := by
  have : E4 f (some a1) (some a2) (some a3) (some a4) = f a1 a2 a3 a4 := rfl
  rw [this, h]; exact h2
theorem bx4 {f : D → D → D → D → Option D} (h : f a1 a2 a3 a4 = some x) (h2 : ∃ y, M x = some y ∧ Q y) : ∃ y, (E4 f (some a1) (some a2) (some a3) (some a4)).bind M = some y ∧ Q y := by
  have : E4 f (some a1) (some a2) (some a3) (some a4) = f a1 a2 a3 a4 := rfl
  rw [this, h]; exact h2
theorem bs5 {f : D → D → D → D → D → Option D} (h : f a1 a2 a3 a4 a5 = some x) (h2 : M x = some r) : (E5 f (some a1) (some a2) (some a3) (some a4) (some a5)).bind M = some r := by
  have : E5 f (some a1) (some a2) (some a3) (some a4) (some a5) = f a1 a2 a3 a4 a5 := rfl
  rw [this, h]; exact h2
theorem bx5 {f : D → D → D → D → D → Option D} (h : f a1 a2 a3 a4 a5 = some x) (h2 : ∃ y, M x = some y ∧ Q y) : ∃ y, (E5 f (some a1) (some a2) (some a3) (some a4) (some a5)).bind M = some y ∧ Q y := by
  have : E5 f (some a1) (some a2) (some a3) (some a4) (some a5) = f a1 a2 a3 a4 a5 := rfl
  rw [this, h]; exact h2
theorem bs6 {f : D → D → D → D → D → D → Option D} (h : f a1 a2 a3 a4 a5 a6 = some x) (h2 : M x = some r) : (E6 f (some a1) (some a2) (some a3) (some a4) (some a5) (some a6)).bind M = some r := by
  have : E6 f (some a1) (some a2) (some a3) (some a4) (some a5) (some a6) = f a1 a2 a3 a4 a5 a6 := rfl
  rw [this, h]; exact h2
theorem bx6 {f : D → D → D → D → D → D → Option D} (h : f a1 a2 a3 a4 a5 a6 = some x) (h2 : ∃ y, M x = some y ∧ Q y) : ∃ y, (E6 f (some a1) (some a2) (some a3) (some a4) (some a5) (some a6)).bind M = some y ∧ Q y := by
  have : E6 f (some a1) (some a2) (some a3) (some a4) (some a5) (some a6) = f a1 a2 a3 a4 a5 a6 := rfl
  rw [this, h]; exact h2
theorem bs7 {f : D → D → D → D → D → D → D → Option D} (h : f a1 a2 a3 a4 a5 a6 a7 = some x) (h2 : M x = some r) : (E7 f (some a1) (some a2) (some a3) (some a4) (some a5) (some a6) (some a7)).bind M = some r := by
  have : E7 f (some a1) (some a2) (some a3) (some a4) (some a5) (some a6) (some a7) = f a1 a2 a3 a4 a5 a6 a7 := rfl
  rw [this, h]; exact h2
theorem bx7 {f : D → D → D → D → D → D → D → Option D} (h : f a1 a2 a3 a4 a5 a6 a7 = some x) (h2 : ∃ y, M x = some y ∧ Q y) : ∃ y, (E7 f (some a1) (some a2) (some a3) (some a4) (some a5) (some a6) (some a7)).bind M = some y ∧ Q y := by
  have : E7 f (some a1) (some a2) (some a3) (some a4) (some a5) (some a6) (some a7) = f a1 a2 a3 a4 a5 a6 a7 := rfl
  rw [this, h]; exact h2
end
theorem emod_bd (x y : Int) (h : 0 < y) : 0 ≤ x % y ∧ x % y < y := ⟨Int.emod_nonneg _ (by omega), Int.emod_lt_of_pos _ h⟩
/-! ### loops and comprehensions -/
section
variable {α S : Type}
theorem lcD_map {f : D → Option D} {g h : α → D} : ∀ {xs : List α}, (∀ x ∈ xs, f (g x) = some (h x)) → lcD (fun _ => some true) f (xs.map g) = some (xs.map h)
  | [], _ => rfl
  | x :: xs, H => by
    simp only [List.map_cons, lcD]
    rw [H x List.mem_cons_self, lcD_map fun y hy => H y (List.mem_cons_of_mem _ hy)]
    rfl
theorem LC_map {f : D → Option D} {g h : α → D} {xs : List α} (H : ∀ x ∈ xs, f (g x) = some (h x)) (hl : xs.length ≤ 16777216) : LC (some (xs.map g)) (fun _ => some true) f = some (.lst (xs.map h)) := by
  unfold LC
  simp only [Option.bind_some, lcD_map H]
  exact lstD_i (by simpa using hl)
theorem lcD_filter {nt : D → Option Bool} {f : D → Option D} {g h : α → D} {p : α → Bool} : ∀ {xs : List α}, (∀ x ∈ xs, nt (g x) = some (p x)) → (∀ x ∈ xs, p x = true → f (g x) = some (h x)) → lcD nt f (xs.map g) = some ((xs.filter p).map h)
  | [], _, _ => rfl
  | x :: xs, H, H2 => by
    simp only [List.map_cons, lcD]
    rw [H x List.mem_cons_self, lcD_filter (fun y hy => H y (List.mem_cons_of_mem _ hy)) fun y hy => H2 y (List.mem_cons_of_mem _ hy)]
    simp only [Option.bind_some]
    by_cases hp : p x = true
    · rw [if_pos hp, H2 x List.mem_cons_self hp, List.filter_cons_of_pos hp]; rfl
    · rw [if_neg hp, List.filter_cons_of_neg hp]
theorem LC_filter {nt : D → Option Bool} {f : D → Option D} {g h : α → D} {p : α → Bool} {xs : List α} (H : ∀ x ∈ xs, nt (g x) = some (p x)) (H2 : ∀ x ∈ xs, p x = true → f (g x) = some (h x)) (hl : xs.length ≤ 16777216) : LC (some (xs.map g)) nt f = some (.lst ((xs.filter p).map h)) := by
  unfold LC
  simp only [Option.bind_some, lcD_filter H H2]
  exact lstD_i (by rw [List.length_map]; exact Nat.le_trans (List.length_filter_le _ _) hl)
/-- a loop by its invariant over what is done -/
theorem forP_inv {f : S → D → Option S} {g : α → D} (I : List α → S → Prop) : ∀ {xs : List α} {s : S} {ys : List α}, I ys s → (∀ zs x ws s, ys ++ xs = zs ++ x :: ws → I zs s → ∃ s', f s (g x) = some s' ∧ I (zs ++ [x]) s') → ∃ s', forP f s (xs.map g) = some s' ∧ I (ys ++ xs) s'
  | [], s, ys, h, _ => ⟨s, rfl, by simpa using h⟩
  | x :: xs, s, ys, h, H => by
    obtain ⟨s1, e1, h1⟩ := H ys x xs s rfl h
    obtain ⟨s2, e2, h2⟩ := forP_inv I (xs := xs) (s := s1) (ys := ys ++ [x]) h1 (fun zs y ws s e i => H zs y ws s (by simpa using e) i)
    refine ⟨s2, ?_, by simpa using h2⟩
    simp only [List.map_cons, forP, e1, Option.bind_some, e2]
/-- a loop that computes a fold -/
theorem forP_fold {f : S → D → Option S} {g : α → D} {T : Type} {emb : T → S} {st : T → α → T} (P : T → Prop) : ∀ {xs : List α} {t : T}, P t → (∀ x ∈ xs, ∀ t, P t → f (emb t) (g x) = some (emb (st t x)) ∧ P (st t x)) → forP f (emb t) (xs.map g) = some (emb (xs.foldl st t)) ∧ P (xs.foldl st t)
  | [], t, h, _ => ⟨rfl, h⟩
  | x :: xs, t, h, H => by
    obtain ⟨e, h'⟩ := H x List.mem_cons_self t h
    have := forP_fold P (xs := xs) h' (fun y hy => H y (List.mem_cons_of_mem _ hy))
    simp only [List.map_cons, forP, e, Option.bind_some, List.foldl_cons]
    exact this
/-- a loop of tests: all go on -/
theorem forR_all {f : S → D → Option (Lp S)} {g : α → D} {s : S} : ∀ {xs : List α}, (∀ x ∈ xs, f s (g x) = some (.go s)) → forR f s (xs.map g) = some (.nx s)
  | [], _ => rfl
  | x :: xs, H => by
    simp only [List.map_cons, forR, H x List.mem_cons_self, Option.bind_some]
    exact forR_all fun y hy => H y (List.mem_cons_of_mem _ hy)
end
end DL
set_option autoImplicit false
set_option pp.maxSteps 40
set_option maxRecDepth 100000
set_option maxHeartbeats 4000000
namespace DL
noncomputable section
def f__law_mixed_D (x_script : D) (x_k : D) : Option D :=
  ((some (D.int 0)).bind fun x_cell => ((iteO ((E2 gtD (E1 (o1 lenD) (some x_script)) (some (D.int 0))).bind getB)
  ((E2 ixD (some x_script) (E2 modD (some x_k) (E1 (o1 lenD) (some x_script)))).bind fun x_cell => (some x_cell))
  (some x_cell)).bind fun (a1 : D) => ((E2 modD (E1 (o1 intD) (E2 addD (E2 addD (E2 mulD (some a1) (some (D.int 48271))) (E2 mulD (some x_k) (some (D.int 69621)))) (some (D.int 8191)))) (some (D.int 2147483647))).bind fun x_first => ((E2 modD (E1 (o1 intD) (E2 addD (E2 addD (E2 mulD (some x_first) (some x_first)) (E2 fdivD (some x_first) (some (D.int 7)))) (E2 mulD (some x_k) (some (D.int 16807))))) (some (D.int 2147483629))).bind fun x_second => ((E2 modD (E1 (o1 intD) (E2 addD (E2 addD (E2 mulD (some x_second) (some x_second)) (E2 fdivD (some x_second) (some (D.int 11)))) (some (D.int 40692)))) (some (D.int 2147483563))).bind fun x_third => (E2 modD (E2 fdivD (some x_third) (some (D.int 5))) (some (D.int 1000003))))))))
def f__law_row_L1 (x_script : D) (s2 : D × D) (x_k : D) : Option (D × D) :=
  (iteO ((E2 gtD (some s2.1) (some (D.int 0))).bind getB)
    (((E2 modD (E1 (o1 intD) (some s2.1)) (some (D.int 1000))).bind (appD s2.2)).bind fun x_row => ((E2 fdivD (some s2.1) (some (D.int 1000))).bind fun x_big => (some (x_big, x_row))))
    (((E2 f__law_mixed_D (some x_script) (some x_k)).bind (appD s2.2)).bind fun x_row => (some (s2.1, x_row))))
def f__law_row_D (x_script : D) (x_many : D) : Option D :=
  ((some (D.int 0)).bind fun x_big => ((iteO (andT ((E2 gtD (E1 (o1 lenD) (some x_script)) (some (D.int 0))).bind getB) ((E2 geD (E2 ixD (some x_script) (some (D.int 0))) (E2 powD (some (D.int 10)) (some (D.int 18)))).bind getB))
  ((E2 ixD (some x_script) (some (D.int 0))).bind fun x_big => (some x_big))
  (some x_big)).bind fun (a1 : D) => (((some []).bind lstD).bind fun x_row => ((((aC (some x_many) (some [])).bind rg1D).bind fun ds => forP (f__law_row_L1 x_script) (a1, x_row) ds).bind fun (s3 : D × D) => (some s3.2)))))
def f__law_is_int_D (x_value : D) : Option D :=
  (andV (E1 (isiG isIntD) (some x_value)) (notV (E1 (isiG isBlD) (some x_value))))
def f__law_like_D_B (rec : D → D → Option D) (x_value : D) (x_due : D) : Option D :=
  (iteO ((E2 isD (some x_due) (some D.non)).bind getB)
  (E2 isD (some x_value) (some D.non))
  (iteO ((E1 (isiG isBlD) (some x_due)).bind truD)
  (andV (E1 (isiG isBlD) (some x_value)) (E2 eqD (some x_value) (some x_due)))
  (iteO ((E1 (isiG isTupD) (some x_due)).bind truD)
  (iteO (orT (notT ((E1 (isiG isTupD) (some x_value)).bind truD)) ((E2 neD (E1 (o1 lenD) (some x_value)) (E1 (o1 lenD) (some x_due))).bind getB))
    (some (D.bl false))
    (E1 (o1 allD) (LC ((aC (E1 (o1 lenD) (some x_due)) (some [])).bind rg1D) (fun x_k => (some true)) (fun x_k => (E2 rec (E2 ixD (some x_value) (some x_k)) (E2 ixD (some x_due) (some x_k)))))))
  (iteO ((E1 (isiG isStrD) (some x_due)).bind truD)
  (andV (E1 (isiG isStrD) (some x_value)) (E2 eqD (some x_value) (some x_due)))
  (andV (E1 f__law_is_int_D (some x_value)) (E2 eqD (some x_value) (some x_due)))))))
def f__law_like_D_R : Nat → D → D → Option D
  | 0 => f__law_like_D_B fun _ _ => none
  | n + 1 => f__law_like_D_B (f__law_like_D_R n)
abbrev f__law_like_D : D → D → Option D := f__law_like_D_R 4
end
end DL
set_option autoImplicit false
set_option pp.maxSteps 40
set_option maxRecDepth 100000
set_option maxHeartbeats 4000000
namespace DL
noncomputable section
def f_is_number_D (x_value : D) (x_least : D) (x_most : D) : Option D :=
  (iteO (orT (notT ((E1 (isiG isIntD) (some x_value)).bind truD)) (orT ((E1 (isiG isBlD) (some x_value)).bind truD) ((E2 ltD (some x_value) (some x_least)).bind getB)))
  (some (D.bl false))
  (orV (E2 isD (some x_most) (some D.non)) (E2 leD (some x_value) (some x_most))))
def f_is_row_D (x_value : D) (x_length : D) : Option D :=
  (andV (E1 (isiG isTupD) (some x_value)) (E2 eqD (E1 (o1 lenD) (some x_value)) (some x_length)))
def f_judge_prices_D (x_n : D) (x_offers : D) (x_value : D) : Option D :=
  (iteO (orT (notT ((E2 f_is_row_D (some x_value) (some x_n)).bind truD)) (notT ((E1 (o1 allD) (LC ((some x_value).bind seqD) (fun x_price => (some true)) (fun x_price => (E3 f_is_number_D (some x_price) (some (D.int 1)) (some D.non))))).bind truD)))
  (some (D.bl false))
  (E1 (o1 allD) (LC ((some x_offers).bind seqD) (un4 (fun x_x x_y x_a x_b => (some true))) (un4 (fun x_x x_y x_a x_b => (E2 leD (E2 mulD (some x_b) (E2 ixD (some x_value) (some x_y))) (E2 mulD (some x_a) (E2 ixD (some x_value) (some x_x)))))))))
def f__law_are_prices_D (x_n : D) (x_offers : D) (x_value : D) : Option D :=
  (iteO (orT (notT ((E1 (isiG isTupD) (some x_value)).bind truD)) ((E2 neD (E1 (o1 lenD) (some x_value)) (some x_n)).bind getB))
  (some (D.bl false))
  (iteO (notT ((E1 (o1 allD) (LC ((some x_value).bind seqD) (fun x_price => (some true)) (fun x_price => (andV (E1 f__law_is_int_D (some x_price)) (E2 geD (some x_price) (some (D.int 1))))))).bind truD))
  (some (D.bl false))
  (E1 (o1 allD) (LC ((some x_offers).bind seqD) (fun x_offer => (some true)) (fun x_offer => (E2 leD (E2 mulD (E2 ixD (some x_offer) (some (D.int 3))) (E2 ixD (some x_value) (E2 ixD (some x_offer) (some (D.int 1))))) (E2 mulD (E2 ixD (some x_offer) (some (D.int 2))) (E2 ixD (some x_value) (E2 ixD (some x_offer) (some (D.int 0)))))))))))
end
end DL
set_option autoImplicit false
set_option pp.maxSteps 40
set_option maxRecDepth 100000
set_option maxHeartbeats 4000000
namespace DL
noncomputable section
def f__law_coinage_L1 (x_row : D) (x_at : D) (x_top : D) (s1 : D) (x_k : D) : Option (D) :=
  ((E2 addD (some (D.int 1)) (E2 modD (E1 (o1 intD) (E2 ixD (some x_row) (E2 addD (E2 addD (some x_at) (some (D.int 1))) (some x_k)))) (some x_top))).bind fun x_value => (iteO ((E2 notInD (some x_value) (some s1)).bind getB)
    (((some x_value).bind (appD s1)).bind fun x_found => (some x_found))
    (some s1)))
def f__law_coinage_D (x_row : D) (x_at : D) (x_most : D) (x_top : D) : Option D :=
  (((some []).bind lstD).bind fun x_found => ((((aC (E2 addD (some (D.int 1)) (E2 modD (E1 (o1 intD) (E2 ixD (some x_row) (some x_at))) (some x_most))) (some [])).bind rg1D).bind fun ds => forP (f__law_coinage_L1 x_row x_at x_top) x_found ds).bind fun (s2 : D) => (E1 (o1 tupleD) (E1 (o1 sortedD) (some s2)))))
def f__law_coins_D (x_row : D) (x_at : D) : Option D :=
  ((E2 modD (E1 (o1 intD) (E2 ixD (some x_row) (some x_at))) (some (D.int 8))).bind fun x_kind => (iteO ((E2 ltD (some x_kind) (some (D.int 2))).bind getB)
  (E4 f__law_coinage_D (some x_row) (E2 addD (some x_at) (some (D.int 1))) (some (D.int 8)) (some (D.int 60)))
  (iteO ((E2 eqD (some x_kind) (some (D.int 2))).bind getB)
  ((E2 addD (some (D.int 2)) (E2 modD (E1 (o1 intD) (E2 ixD (some x_row) (E2 addD (some x_at) (some (D.int 10))))) (some (D.int 5)))).bind fun x_by => (E1 (o1 tupleD) (LC ((E4 f__law_coinage_D (some x_row) (E2 addD (some x_at) (some (D.int 1))) (some (D.int 5)) (E2 fdivD (some (D.int 60)) (some x_by))).bind seqD) (fun x_value => (some true)) (fun x_value => (E2 mulD (some x_by) (some x_value))))))
  (iteO ((E2 eqD (some x_kind) (some (D.int 3))).bind getB)
  (E1 (o1 tupleD) (LC ((E4 f__law_coinage_D (some x_row) (E2 addD (some x_at) (some (D.int 1))) (some (D.int 4)) (some (D.int 30))).bind seqD) (fun x_value => (some true)) (fun x_value => (E2 addD (some (D.int 30)) (some x_value)))))
  (iteO ((E2 eqD (some x_kind) (some (D.int 4))).bind getB)
  (E2 addD ((aC (some (D.int 1)) (some [])).bind tupD) (E1 (o1 tupleD) (LC ((E4 f__law_coinage_D (some x_row) (E2 addD (some x_at) (some (D.int 1))) (some (D.int 5)) (some (D.int 30))).bind seqD) (fun x_value => (some true)) (fun x_value => (E2 addD (some (D.int 1)) (some x_value))))))
  (E4 f__law_coinage_D (some x_row) (E2 addD (some x_at) (some (D.int 1))) (some (D.int 4)) (some (D.int 14))))))))
def f__law_amount_D (x_row : D) (x_at : D) : Option D :=
  ((E2 modD (E1 (o1 intD) (E2 ixD (some x_row) (some x_at))) (some (D.int 250))).bind fun x_amount => ((iteO ((E2 eqD (E2 modD (E1 (o1 intD) (E2 ixD (some x_row) (E2 addD (some x_at) (some (D.int 1))))) (some (D.int 6))) (some (D.int 2))).bind getB)
  ((E2 modD (E2 addD (E2 mulD (E2 modD (E1 (o1 intD) (E2 ixD (some x_row) (some x_at))) (some (D.int 1000))) (some (D.int 5))) (E2 modD (E1 (o1 intD) (E2 ixD (some x_row) (E2 addD (some x_at) (some (D.int 2))))) (some (D.int 5)))) (some (D.int 4001))).bind fun x_amount => (some x_amount))
  (some x_amount)).bind fun (a1 : D) => ((iteO ((E2 eqD (E2 modD (E1 (o1 intD) (E2 ixD (some x_row) (E2 addD (some x_at) (some (D.int 1))))) (some (D.int 36))) (some (D.int 8))).bind getB)
  ((some (D.int 4000)).bind fun x_amount => (some x_amount))
  (some a1)).bind fun (a2 : D) => (some a2))))
end
end DL
set_option autoImplicit false
set_option pp.maxSteps 40
set_option maxRecDepth 100000
set_option maxHeartbeats 4000000
namespace DL
noncomputable section
def f_least_numbers_L1 (x_coinage : D) (s1 : D) (x_amount : D) : Option (D) :=
  ((LC ((some x_coinage).bind seqD) (fun x_value => ((E2 leD (some x_value) (some x_amount)).bind getB)) (fun x_value => (E1 (ixD s1) (E2 subD (some x_amount) (some x_value))))).bind fun x_before => ((LC ((some x_before).bind seqD) (fun x_number => ((E2 isNotD (some x_number) (some D.non)).bind getB)) (fun x_number => (some x_number))).bind fun x_before => (iteO ((some x_before).bind truD)
    ((setM (E2 addD (some (D.int 1)) (E1 (o1 minLD) (some x_before))) (some x_amount) s1).bind fun x_found => (some x_found))
    (some s1))))
def f_least_numbers_D (x_coinage : D) (x_most : D) : Option D :=
  ((E2 catD ((aC (some (D.int 0)) (some [])).bind lstD) (E2 repD ((aC (some D.non) (some [])).bind lstD) (some x_most))).bind fun x_found => ((((aC (some (D.int 1)) (aC (E2 addD (some x_most) (some (D.int 1))) (some []))).bind rg2D).bind fun ds => forP (f_least_numbers_L1 x_coinage) x_found ds).bind fun (s2 : D) => (some s2)))
def f_least_number_D (x_coinage : D) (x_amount : D) : Option D :=
  (E2 ixD (E2 f_least_numbers_D (some x_coinage) (some x_amount)) (some x_amount))
def f__law_numbers_L1 (x_amount : D) (s1 : D) (s2 : D) (x_value : D) : Option (D) :=
  (iteO (andT ((E2 leD (some x_value) (some x_amount)).bind getB) ((E2 isNotD (E1 (ixD s1) (E2 subD (some x_amount) (some x_value))) (some D.non)).bind getB))
      (iteO (orT ((E2 isD (some s2) (some D.non)).bind getB) ((E2 ltD (E1 (ixD s1) (E2 subD (some x_amount) (some x_value))) (some s2)).bind getB))
        ((E1 (ixD s1) (E2 subD (some x_amount) (some x_value))).bind fun x_best => (some x_best))
        (some s2))
      (some s2))
def f__law_numbers_L2 (x_coinage : D) (s1 : D) (x_amount : D) : Option (D) :=
  ((some D.non).bind fun x_best => ((((some x_coinage).bind seqD).bind fun ds => forP (f__law_numbers_L1 x_amount s1) x_best ds).bind fun (s3 : D) => (iteO ((E2 isNotD (some s3) (some D.non)).bind getB)
    ((setM (E2 addD (some s3) (some (D.int 1))) (some x_amount) s1).bind fun x_found => (some x_found))
    (some s1))))
def f__law_numbers_D (x_coinage : D) (x_top : D) : Option D :=
  ((E2 catD ((aC (some (D.int 0)) (some [])).bind lstD) (E2 repD ((aC (some D.non) (some [])).bind lstD) (some x_top))).bind fun x_found => ((((aC (some (D.int 1)) (aC (E2 addD (some x_top) (some (D.int 1))) (some []))).bind rg2D).bind fun ds => forP (f__law_numbers_L2 x_coinage) x_found ds).bind fun (s4 : D) => (some s4)))
end
end DL
set_option autoImplicit false
set_option pp.maxSteps 40
set_option maxRecDepth 100000
set_option maxHeartbeats 4000000
namespace DL
noncomputable section
def f_sum_of_D (x_coinage : D) (x_purse : D) : Option D :=
  (E1 (o1 sumD) (LC ((aC (some x_coinage) (aC (some x_purse) (some []))).bind zipD) (un2 (fun x_value x_count => (some true))) (un2 (fun x_value x_count => (E2 mulD (some x_value) (some x_count))))))
def f__law_worth_D (x_coinage : D) (x_payment : D) : Option D :=
  (E1 (o1 sumD) (LC ((aC (E1 (o1 lenD) (some x_coinage)) (some [])).bind rg1D) (fun x_k => (some true)) (fun x_k => (E2 mulD (E2 ixD (some x_coinage) (some x_k)) (E2 ixD (some x_payment) (some x_k))))))
end
end DL
set_option autoImplicit false
set_option pp.maxSteps 40
set_option maxRecDepth 100000
set_option maxHeartbeats 4000000
namespace DL
noncomputable section
def f_due_of_D (x_shop : D) (x_kind : D) : Option D :=
  ((some x_shop).bind (un3 fun x_coinage x_caps x_kinds => ((E2 ixD (some x_kinds) (some x_kind)).bind (un2 fun x_given x_price => (E2 subD (E2 f_sum_of_D (some x_coinage) (some x_given)) (some x_price))))))
def f_with_given_D (x_shop : D) (x_content : D) (x_kind : D) : Option D :=
  (E1 (o1 tupleD) (LC ((aC (some x_content) (aC (E2 ixD (E2 ixD (E2 ixD (some x_shop) (some (D.int 2))) (some x_kind)) (some (D.int 0))) (some []))).bind zipD) (un2 (fun x_have x_more => (some true))) (un2 (fun x_have x_more => (E2 addD (some x_have) (some x_more))))))
def f__law_purse_D (x_row : D) (x_at : D) (x_places : D) (x_most : D) : Option D :=
  (E1 (o1 tupleD) (LC ((aC (some x_places) (some [])).bind rg1D) (fun x_k => (some true)) (fun x_k => (E2 modD (E1 (o1 intD) (E2 ixD (some x_row) (E2 addD (some x_at) (some x_k)))) (E2 addD (some x_most) (some (D.int 1)))))))
def f__law_worth_k29_D (x_coinage : D) (x_purse : D) : Option D :=
  (E1 (o1 sumD) (LC ((aC (E1 (o1 lenD) (some x_coinage)) (some [])).bind rg1D) (fun x_k => (some true)) (fun x_k => (E2 mulD (E2 ixD (some x_coinage) (some x_k)) (E2 ixD (some x_purse) (some x_k))))))
def f__law_full_shop_L1 (x_row : D) (x_at : D) (x_top : D) (s1 : D) (x_k : D) : Option (D) :=
  ((E2 addD (some (D.int 1)) (E2 modD (E1 (o1 intD) (E2 ixD (some x_row) (E2 addD (E2 addD (some x_at) (some (D.int 1))) (some x_k)))) (some x_top))).bind fun x_value => (iteO ((E2 notInD (some x_value) (some s1)).bind getB)
    (((some x_value).bind (appD s1)).bind fun x_found => (some x_found))
    (some s1)))
def f__law_full_shop_L2 (x_row : D) (x_at : D) (x_coinage : D) (s3 : D) (x_k : D) : Option (D) :=
  ((E4 f__law_purse_D (some x_row) (E2 addD (E2 addD (some x_at) (some (D.int 11))) (E2 mulD (some (D.int 10)) (some x_k))) (E1 (o1 lenD) (some x_coinage)) (some (D.int 3))).bind fun x_given => ((E1 (o1 tupleD) (LC ((aC (E1 (o1 lenD) (some x_coinage)) (some [])).bind rg1D) (fun x_j => (some true)) (fun x_j => (E2 modD (E1 (o1 intD) (E2 ixD (some x_row) (E2 addD (E2 addD (E2 addD (some x_at) (some (D.int 16))) (E2 mulD (some (D.int 10)) (some x_k))) (some x_j)))) (E2 addD (E2 ixD (some x_given) (some x_j)) (some (D.int 1))))))).bind fun x_back => ((E2 subD (E2 f__law_worth_k29_D (some x_coinage) (some x_given)) (E2 f__law_worth_k29_D (some x_coinage) (some x_back))).bind fun x_price => ((iteO (andT ((E2 gtD (some x_k) (some (D.int 0))).bind getB) ((E2 eqD (E2 modD (E1 (o1 intD) (E2 ixD (some x_row) (E2 addD (E2 addD (some x_at) (some (D.int 15))) (E2 mulD (some (D.int 10)) (some x_k))))) (some (D.int 3))) (some (D.int 1))).bind getB))
    ((E2 modD (E1 (o1 intD) (E2 ixD (some x_row) (E2 addD (E2 addD (some x_at) (some (D.int 20))) (E2 mulD (some (D.int 10)) (some x_k))))) (E2 addD (E2 f__law_worth_k29_D (some x_coinage) (some x_given)) (some (D.int 1)))).bind fun x_price => (some x_price))
    (some x_price)).bind fun (a4 : D) => ((((aC (some x_given) (aC (some a4) (some []))).bind tupD).bind (appD s3)).bind fun x_kinds => (some x_kinds))))))
def f__law_full_shop_D (x_row : D) (x_at : D) : Option D :=
  ((E2 ixD ((aC (some (D.int 8)) (aC (some (D.int 60)) (some []))).bind lstD) (E2 modD (E1 (o1 intD) (E2 ixD (some x_row) (E2 addD (some x_at) (some (D.int 5))))) (some (D.int 2)))).bind fun x_top => (((some []).bind lstD).bind fun x_found => ((((aC (E2 addD (some (D.int 1)) (E2 modD (E1 (o1 intD) (E2 ixD (some x_row) (some x_at))) (some (D.int 4)))) (some [])).bind rg1D).bind fun ds => forP (f__law_full_shop_L1 x_row x_at x_top) x_found ds).bind fun (s2 : D) => ((E1 (o1 tupleD) (E1 (o1 sortedD) (some s2))).bind fun x_coinage => ((E4 f__law_purse_D (some x_row) (E2 addD (some x_at) (some (D.int 6))) (E1 (o1 lenD) (some x_coinage)) (some (D.int 3))).bind fun x_caps => (((some []).bind lstD).bind fun x_kinds => ((((aC (E2 addD (some (D.int 1)) (E2 modD (E1 (o1 intD) (E2 ixD (some x_row) (E2 addD (some x_at) (some (D.int 10))))) (some (D.int 5)))) (some [])).bind rg1D).bind fun ds => forP (f__law_full_shop_L2 x_row x_at x_coinage) x_kinds ds).bind fun (s5 : D) => ((aC (some x_coinage) (aC (some x_caps) (aC (E1 (o1 tupleD) (some s5)) (some [])))).bind tupD))))))))
def f__law_content_D (x_row : D) (x_at : D) (x_caps : D) : Option D :=
  (E1 (o1 tupleD) (LC ((aC (E1 (o1 lenD) (some x_caps)) (some [])).bind rg1D) (fun x_k => (some true)) (fun x_k => (E2 modD (E1 (o1 intD) (E2 ixD (some x_row) (E2 addD (some x_at) (some x_k)))) (E2 addD (E2 ixD (some x_caps) (some x_k)) (some (D.int 1)))))))
def f__law_payments_L1 (x_coinage : D) (x_k : D) (x_left : D) (x_taken : D) (s3 : D) (x_count : D) : Option (Lp (D)) :=
  (iteO ((E2 gtD (E2 mulD (some x_count) (E2 ixD (some x_coinage) (some x_k))) (some x_left)).bind getB)
        (some (Lp.br s3))
        ((((aC (E2 addD (some x_taken) ((aC (some x_count) (some [])).bind tupD)) (aC (E2 subD (some x_left) (E2 mulD (some x_count) (E2 ixD (some x_coinage) (some x_k)))) (some []))).bind tupD).bind (appD s3)).bind fun x_longer => (some (Lp.go x_longer))))
def f__law_payments_L2 (x_there : D) (x_k : D) (x_coinage : D) (s2 : D) (x_taken : D) (x_left : D) : Option (D) :=
  ((((aC (E2 addD (E2 ixD (some x_there) (some x_k)) (some (D.int 1))) (some [])).bind rg1D).bind fun ds => forB (f__law_payments_L1 x_coinage x_k x_left x_taken) s2 ds).bind fun (s4 : D) => (some s4))
def f__law_payments_L3 (x_there : D) (x_coinage : D) (s1 : D) (x_k : D) : Option (D) :=
  (((some []).bind lstD).bind fun x_longer => ((((some s1).bind seqD).bind fun ds => forP (fun s2 => un2 ((f__law_payments_L2 x_there x_k x_coinage) s2)) x_longer ds).bind fun (s5 : D) => ((some s5).bind fun x_found => (some x_found))))
def f__law_payments_D (x_coinage : D) (x_there : D) (x_due : D) : Option D :=
  (((aC ((aC ((some []).bind tupD) (aC (some x_due) (some []))).bind tupD) (some [])).bind lstD).bind fun x_found => ((((aC (E1 (o1 lenD) (some x_coinage)) (some [])).bind rg1D).bind fun ds => forP (f__law_payments_L3 x_there x_coinage) x_found ds).bind fun (s6 : D) => (LC ((some s6).bind seqD) (fun x_pair => ((E2 eqD (E2 ixD (some x_pair) (some (D.int 1))) (some (D.int 0))).bind getB)) (fun x_pair => (E2 ixD (some x_pair) (some (D.int 0)))))))
def f__law_there_D (x_shop : D) (x_content : D) (x_kind : D) : Option D :=
  (E1 (o1 tupleD) (LC ((aC (E1 (o1 lenD) (some x_content)) (some [])).bind rg1D) (fun x_k => (some true)) (fun x_k => (E2 addD (E2 ixD (some x_content) (some x_k)) (E2 ixD (E2 ixD (E2 ixD (E2 ixD (some x_shop) (some (D.int 2))) (some x_kind)) (some (D.int 0))) (some x_k))))))
def f__law_due_D (x_shop : D) (x_kind : D) : Option D :=
  (E2 subD (E2 f__law_worth_k29_D (E2 ixD (some x_shop) (some (D.int 0))) (E2 ixD (E2 ixD (E2 ixD (some x_shop) (some (D.int 2))) (some x_kind)) (some (D.int 0)))) (E2 ixD (E2 ixD (E2 ixD (some x_shop) (some (D.int 2))) (some x_kind)) (some (D.int 1))))
end
end DL
set_option autoImplicit false
set_option pp.maxSteps 40
set_option maxRecDepth 100000
set_option maxHeartbeats 4000000
namespace DL
noncomputable section
def f_is_coinage_D (x_value : D) (x_most : D) : Option D :=
  (iteO (orT (notT ((E1 (isiG isTupD) (some x_value)).bind truD)) (notT ((chD leD leD (some (D.int 1)) (E1 (o1 lenD) (some x_value)) (some x_most)).bind getB)))
  (some (D.bl false))
  (iteO (notT ((E1 (o1 allD) (LC ((some x_value).bind seqD) (fun x_part => (some true)) (fun x_part => (E3 f_is_number_D (some x_part) (some (D.int 1)) (some (D.int 60)))))).bind truD))
  (some (D.bl false))
  (E1 (o1 allD) (LC ((aC (some x_value) (aC (SL (some x_value) (((some (D.int 1)).bind getI).map some) (some none)) (some []))).bind zipD) (un2 (fun x_less x_more => (some true))) (un2 (fun x_less x_more => (E2 ltD (some x_less) (some x_more))))))))
def f_are_caps_D (x_coinage : D) (x_value : D) : Option D :=
  (andV (E2 f_is_row_D (some x_value) (E1 (o1 lenD) (some x_coinage))) (E1 (o1 allD) (LC ((some x_value).bind seqD) (fun x_cap => (some true)) (fun x_cap => (E3 f_is_number_D (some x_cap) (some (D.int 0)) (some (D.int 3)))))))
def f_is_kind_D (x_coinage : D) (x_value : D) : Option D :=
  (iteO (orT (notT ((E2 f_is_row_D (some x_value) (some (D.int 2))).bind truD)) (notT ((E2 f_is_row_D (E2 ixD (some x_value) (some (D.int 0))) (E1 (o1 lenD) (some x_coinage))).bind truD)))
  (some (D.bl false))
  (iteO (notT ((E1 (o1 allD) (LC ((E2 ixD (some x_value) (some (D.int 0))).bind seqD) (fun x_count => (some true)) (fun x_count => (E3 f_is_number_D (some x_count) (some (D.int 0)) (some (D.int 3)))))).bind truD))
  (some (D.bl false))
  (E3 f_is_number_D (E2 ixD (some x_value) (some (D.int 1))) (some (D.int 0)) (E2 f_sum_of_D (some x_coinage) (E2 ixD (some x_value) (some (D.int 0)))))))
end
end DL
set_option autoImplicit false
set_option pp.maxSteps 40
set_option maxRecDepth 100000
set_option maxHeartbeats 4000000
namespace DL
noncomputable section
def f__law_rises_D (x_items : D) : Option D :=
  (E1 (o1 allD) (LC ((aC (E2 subD (E1 (o1 lenD) (some x_items)) (some (D.int 1))) (some [])).bind rg1D) (fun x_k => (some true)) (fun x_k => (E2 ltD (E2 ixD (some x_items) (some x_k)) (E2 ixD (some x_items) (E2 addD (some x_k) (some (D.int 1))))))))
def f__law_is_coinage_D (x_value : D) : Option D :=
  (iteO (orT (notT ((E1 (isiG isTupD) (some x_value)).bind truD)) (notT ((chD leD leD (some (D.int 1)) (E1 (o1 lenD) (some x_value)) (some (D.int 8))).bind getB)))
  (some (D.bl false))
  (iteO (notT ((E1 (o1 allD) (LC ((some x_value).bind seqD) (fun x_part => (some true)) (fun x_part => (andV (E1 f__law_is_int_D (some x_part)) (chD leD leD (some (D.int 1)) (some x_part) (some (D.int 60))))))).bind truD))
  (some (D.bl false))
  (E1 f__law_rises_D (some x_value))))
def f__law_placed_D (x_good : D) (x_place : D) (x_part : D) : Option D :=
  (E2 addD (E2 addD (SL (some x_good) (some none) (((some x_place).bind getI).map some)) ((aC (some x_part) (some [])).bind tupD)) (SL (some x_good) (((E2 addD (some x_place) (some (D.int 1))).bind getI).map some) (some none)))
def f__law_part_k00_D (x_kind : D) (x_value : D) : Option D :=
  (iteO ((E2 eqD (some x_kind) (some (D.int 0))).bind getB)
  (some (D.bl true))
  (iteO ((E2 eqD (some x_kind) (some (D.int 1))).bind getB)
  (some (D.bl false))
  (iteO ((E2 eqD (some x_kind) (some (D.int 2))).bind getB)
  (some D.non)
  (iteO ((E2 eqD (some x_kind) (some (D.int 3))).bind getB)
  (E1 (o1 strD) (some x_value))
  (iteO ((E2 eqD (some x_kind) (some (D.int 4))).bind getB)
  ((aC (some x_value) (some [])).bind tupD)
  ((aC (some x_value) (some [])).bind lstD))))))
def f__law_spoiled_D (x_good : D) (x_row : D) (x_at : D) : Option D :=
  ((E2 modD (E1 (o1 intD) (E2 ixD (some x_row) (some x_at))) (some (D.int 22))).bind fun x_kind => ((E2 modD (E1 (o1 intD) (E2 ixD (some x_row) (E2 addD (some x_at) (some (D.int 1))))) (E1 (o1 lenD) (some x_good))).bind fun x_place => ((E2 modD (E1 (o1 intD) (E2 ixD (some x_row) (E2 addD (some x_at) (some (D.int 2))))) (some (D.int 500))).bind fun x_more => (iteO ((E2 ltD (some x_kind) (some (D.int 6))).bind getB)
  (E3 f__law_placed_D (some x_good) (some x_place) (E2 f__law_part_k00_D (some x_kind) (E2 ixD (some x_good) (some x_place))))
  (iteO ((E2 eqD (some x_kind) (some (D.int 6))).bind getB)
  (E2 addD ((aC (some (D.bl true)) (some [])).bind tupD) (SL (some x_good) (((some (D.int 1)).bind getI).map some) (some none)))
  (iteO ((E2 eqD (some x_kind) (some (D.int 7))).bind getB)
  (E2 addD ((aC (some (D.int 0)) (some [])).bind tupD) (SL (some x_good) (((some (D.int 1)).bind getI).map some) (some none)))
  (iteO ((E2 eqD (some x_kind) (some (D.int 8))).bind getB)
  (E2 addD ((aC (E2 subD (E1 negD (E2 ixD (some x_good) (some (D.int 0)))) (some x_more)) (some [])).bind tupD) (SL (some x_good) (((some (D.int 1)).bind getI).map some) (some none)))
  (iteO ((E2 eqD (some x_kind) (some (D.int 9))).bind getB)
  (E2 addD (SL (some x_good) (some none) (((E1 negD (some (D.int 1))).bind getI).map some)) ((aC (some (D.int 61)) (some [])).bind tupD))
  (iteO ((E2 eqD (some x_kind) (some (D.int 10))).bind getB)
  (E2 addD (SL (some x_good) (some none) (((E1 negD (some (D.int 1))).bind getI).map some)) ((aC (E2 addD (some (D.int 61)) (some x_more)) (some [])).bind tupD))
  (iteO ((E2 eqD (some x_kind) (some (D.int 11))).bind getB)
  (E3 f__law_placed_D (some x_good) (some x_place) (E2 addD (E2 powD (some (D.int 10)) (some (D.int 30))) (some x_more)))
  (iteO ((E2 eqD (some x_kind) (some (D.int 12))).bind getB)
  (E2 addD (SL (some x_good) (some none) (((E2 addD (some x_place) (some (D.int 1))).bind getI).map some)) (SL (some x_good) (((some x_place).bind getI).map some) (some none)))
  (iteO ((E2 eqD (some x_kind) (some (D.int 13))).bind getB)
  (E2 addD (E2 addD (SL (some x_good) (((some x_place).bind getI).map some) (some none)) (SL (some x_good) (some none) (((some x_place).bind getI).map some))) (SL (some x_good) (some none) (((E1 (o1 intD) (E2 eqD (some x_place) (some (D.int 0)))).bind getI).map some)))
  (iteO ((E2 ltD (some x_kind) (some (D.int 16))).bind getB)
  (E1 (o1 tupleD) (LC ((aC (some (D.int 9)) (some [])).bind rg1D) (fun x_k => (some true)) (fun x_k => (E2 addD (E2 addD (some (D.int 1)) (E2 modD (some x_more) (some (D.int 10)))) (E2 mulD (E2 addD (some (D.int 1)) (E2 modD (E2 fdivD (some x_more) (some (D.int 10))) (some (D.int 6)))) (some x_k))))))
  (iteO ((E2 eqD (some x_kind) (some (D.int 16))).bind getB)
  ((some []).bind tupD)
  (iteO ((E2 eqD (some x_kind) (some (D.int 17))).bind getB)
  ((aC (some x_good) (some [])).bind tupD)
  (iteO ((E2 eqD (some x_kind) (some (D.int 18))).bind getB)
  (E2 addD (some x_good) ((aC ((some []).bind lstD) (some [])).bind tupD))
  (E2 ixD ((aC (E2 ixD (some x_good) (some (D.int 0))) (aC (some D.non) (aC (some (D.bl true)) (aC (some (D.str "1 2 5")) (aC ((some []).bind lstD) (aC (some (D.str "")) (some []))))))).bind lstD) (E2 modD (E1 (o1 intD) (E2 ixD (some x_row) (E2 addD (some x_at) (some (D.int 3))))) (some (D.int 6))))))))))))))))))))
def f__law_edge_D (x_row : D) (x_at : D) : Option D :=
  ((E2 modD (E1 (o1 intD) (E2 ixD (some x_row) (some x_at))) (some (D.int 4))).bind fun x_kind => ((E2 addD (some (D.int 1)) (E2 modD (E1 (o1 intD) (E2 ixD (some x_row) (E2 addD (some x_at) (some (D.int 1))))) (some (D.int 8)))).bind fun x_step => (iteO ((E2 eqD (some x_kind) (some (D.int 0))).bind getB)
  ((aC (some (D.int 1)) (some [])).bind tupD)
  (iteO ((E2 eqD (some x_kind) (some (D.int 1))).bind getB)
  ((aC (some (D.int 60)) (some [])).bind tupD)
  (E1 (o1 tupleD) (LC ((aC (some (D.int 8)) (some [])).bind rg1D) (fun x_k => (some true)) (fun x_k => (E2 subD (some (D.int 60)) (E2 mulD (some x_step) (E2 subD (some (D.int 7)) (some x_k)))))))))))
end
end DL
set_option autoImplicit false
set_option maxRecDepth 100000
set_option maxHeartbeats 4000000
/-! errors of the text: raise in a def, try in another -/
namespace DL
open PySem PySem.Spec PySem.SeqAt PyProof.Rows L2
/-- an error class of the text, at C -/
structure ExCls (G : GX) (x : Str) (C : Addr) : Prop where
  gC : G.mg x = some (.ref C)
  xC : PySem.W.excIn G.K C [.type "ValueError", .type "Exception", .type "BaseException", .type "object"] "ValueError.__new__" = true
  kC : PySem.W.keepIn G.K (.ref C) = true
  bC : PySem.W.subIn G.K (.ref C) (.type "BaseException") = some true
  tC : PySem.W.typeIn G.K (.ref C) = some (.type "type")
  hC : PySem.W.hasDictIn G.K C = true
  sC : PySem.W.subIn G.K (.ref C) (.ref C) = some true
  ex : ExcC G.K C
/-- behind a suite the clause's name goes -/
def afterS (i : Nat) (Dn : Ends) : Ends where
  nx := fun (σ1 : L2.St) H1 => Dn.nx (List.set σ1 i none) H1
  rt := Dn.rt
  bk := fun (σ1 : L2.St) H1 => Dn.bk (List.set σ1 i none) H1
  ct := fun (σ1 : L2.St) H1 => Dn.ct (List.set σ1 i none) H1
/-- what an except clause with a name wishes, where it takes all that may come -/
def wNamed (K : PySem.W.Frag) (c : Value) (i : Nat) (ts : Addr → Value → Option Addr → TS) (Dn : Ends) : WX := fun cls d σ H =>
  PySem.W.exmOne K cls c = some true ∧ ∀ a, H a = none → ts a cls d (afterS i Dn) (List.set σ i (some (.ref a))) H
/-- from the frame's note to the clauses -/
def caught (X : Cx) (pins : List (Addr × Obj)) (Dn : Ends) (cl : List ExceptHandler) (u : Value) (s1 : Shared) : Prop :=
  wpAny (model X.prog X.w) X.A (noteFrame u X.env)
    (fun _ s2 => wpAny (model X.prog X.w) X.A (setFlight u none)
      (fun _ s3 => wpAny (model X.prog X.w) X.A (handleBy u X.env cl) (SP X pins Dn) X.xe s3) X.xe s2) X.xe s1
section
variable {X : Cx} {xn n : Str} {c : Value} {i : Nat} {body suite : List Stmt} {b0 : Stmt} {np pos pos' : Pos} {more : List ExceptHandler} {tb : WX → TS} {ts : Addr → Value → Option Addr → TS}
theorem not_frame {B h : Heap} {l : List Env} {a : Addr} {o : Obj} {vs : Array Value} (ff : h.FunFrames B l) (e : h.get? a = some o) (dd : o.data = .fields vs) : a ∉ frs l := fun hm => by
  obtain ⟨_, o2, e2, hn⟩ := ff.mem hm
  have := e.symm.trans e2
  cases this
  exact hn _ dd
theorem ps_tryNamed (hs : X.stack = X.env :: X.outer) (hf : X.env.frame = some X.env.locals) (hN : X.N.Nodup) (hi : X.N[i]? = some n) (hln : X.env.kindOf n = some .local) (hg : Gl X xn) (hdb : (xn == ("__debug__" : Str)) = false) (hm : X.mg xn = some c)
    (hb : ∀ (W : WX) (pn : List (Addr × Obj)) (xe : Value → Shared → Prop), Takes (X.tr pn xe) W → PSs (X.tr pn xe) body (tb W))
    (hsu : ∀ (a : Addr) (oe : Obj) (cls : Value) (d : Option Addr) (pn : List (Addr × Obj)), Zc cls d oe → (∃ vs, oe.data = .fields vs) → PSs (X.suite a ((a, oe) :: pn)) (b0 :: suite) (ts a cls d)) :
    PS X (.Try body (.ExceptHandler (some (.Name xn np)) (some n) (b0 :: suite) pos' :: more) [] [] pos) (fun Dn σ H => tb (wNamed X.K c i ts Dn) Dn σ H) := by
  refine ⟨fun pins s σ H Dn I q => ?_⟩
  have hframes : X.A.frames = some (X.env :: X.outer) := I.ok.frames.trans (congrArg some hs)
  refine wpAny_Try_except (wpAny_mono ((hb (wNamed X.K c i ts Dn) (X.pn ++ pins) (caught X pins Dn (.ExceptHandler (some (.Name xn np)) (some n) (b0 :: suite) pos' :: more)) ?C).run [] s σ H Dn (I.toTry _) q) ?N ?T)
  case T => exact fun _ _ z => z
  case N =>
    intro f s1 sp
    cases f with
    | next => obtain ⟨σ1, H1, J, w⟩ := sp; exact wpAny_execs_nil ⟨σ1, H1, J.ofTry I.ok, w⟩
    | brk => obtain ⟨σ1, H1, J, w⟩ := sp; exact ⟨σ1, H1, J.ofTry I.ok, w⟩
    | cont => obtain ⟨σ1, H1, J, w⟩ := sp; exact ⟨σ1, H1, J.ofTry I.ok, w⟩
    | ret u => obtain ⟨v, σ1, H1, J, r, w⟩ := sp; exact ⟨v, σ1, H1, J.ofTry I.ok, r, w⟩
  case C =>
    rintro _ s2 ⟨a, B, sI, pins2, σ2, H2, cls, d, rfl, J0, nb, up, sky, na, os, ag, hmatch, hsuite⟩
    have J : Inv X pins σ2 H2 sI := J0.ofTry I.ok
    have sky2 : Sky B (X.env :: X.outer) a (Zc cls d) X.env.locals s2.heap := hs ▸ sky
    unfold caught
    refine sky2.land Zc.steady hframes hf fun h3 fl3 up3 => ?_
    have J3 : Inv X pins σ2 H2 { s2 with heap := h3 } := J.landed nb fl3.1 (up.trans up3) os ag
    obtain ⟨o3, vs3, g3, z3, d3⟩ := fl3.there
    have hnf := not_frame fl3.2.2.1 g3 d3
    have hne : a ≠ X.env.locals := by
      rintro rfl
      exact hnf (List.mem_filterMap.mpr ⟨X.env, by simp, hf⟩)
    have hnfs : a ∉ X.fs := fun hx => by
      obtain ⟨e1, he1, q1⟩ := List.mem_filterMap.mp hx
      exact hnf (List.mem_filterMap.mpr ⟨e1, by simp [he1], q1⟩)
    have S3 := J3.suite g3 d3 na hne hnfs
    refine wpAny_handleBy_cons (codeAny_handlers_test ?_) (by rintro ⟨⟩)
    have hty : PySem.W.Looks (model X.prog X.w) h3 (typeOf (.ref a)) cls := fun _ _ _ _ kk w => wpAny_typeOf_ref (kk _ _ g3) (by rw [z3.1]; exact w)
    refine ld_glob (X := X.suite a ((a, o3) :: (X.pn ++ pins))) S3 hg hm ((PySem.W.exm_one J3.kIn hty hmatch).here ?_) hdb
    refine codeAny_handlers_suite_as (HandSPX.lands_againZ fl3 fun h4 fl4 up4 => ?_)
    have J4 : Inv X pins σ2 H2 { s2 with heap := h4 } := J.landed nb fl4.1 ((up.trans up3).trans up4) os ag
    obtain ⟨o4, vs4, g4, z4, d4⟩ := fl4.there
    have S4 := J4.suite g4 d4 na hne hnfs
    refine store_ok (v := .ref a) (X := X.suite a ((a, o4) :: (X.pn ++ pins))) S4 hN hi (.inl hln) rfl (fun s5 S5 => ?_) (.inr hln)
    refine wpAny_mono ((hsu a o4 cls d (X.pn ++ pins) z4 ⟨_, d4⟩).run [] s5 _ H2 _ S5 (hsuite a na)) (fun f s6 sp => ?_) (fun _ _ z => z.elim)
    cases f with
    | next => obtain ⟨σ6, H6, S6, w⟩ := sp; exact gone_ok (S6.unsuite I.ok) hN hi hln fun s7 J7 => ⟨_, _, J7, w⟩
    | brk => obtain ⟨σ6, H6, S6, w⟩ := sp; exact gone_ok (S6.unsuite I.ok) hN hi hln fun s7 J7 => ⟨_, _, J7, w⟩
    | cont => obtain ⟨σ6, H6, S6, w⟩ := sp; exact gone_ok (S6.unsuite I.ok) hN hi hln fun s7 J7 => ⟨_, _, J7, w⟩
    | ret u => obtain ⟨v6, σ6, H6, S6, r6, w⟩ := sp; exact gone_ok (S6.unsuite I.ok) hN hi hln fun s7 J7 => ⟨_, _, _, J7, r6, w⟩
end
/-! ### a def that raises -/
/-- f(v): None, or an error of the class at C where g tells it -/
def spR (K : PySem.W.Frag) (g : D → Option Bool) (C : Addr) : Sp := fun vs H Q E => ∃ (F : Hp) (d : D) (v : V) (b : Bool), vs = [v] ∧ Sub F H ∧ Rep K F d v ∧ g d = some b ∧
  (b = false → ∀ F' H', Ext F H F' H' → Q .non H') ∧ (b = true → ∀ F' H', Ext F H F' H' → E (.ref C) none H')
def FnR (G : GX) (k : Nat) (x : Str) (g : D → Option Bool) (C : Addr) : Prop := ∃ (f : Addr) (fd : FuncData) (a : Str), FnOk G.P G.w G.K G.mg G.base (L2.CX G.P G.w) k f fd [a] (spR G.K g C) ∧ G.mg x = some (.ref f) ∧ PySem.W.keepIn G.K (.ref f) = true ∧ Binds G.K fd [a] []
section
variable {G : GX}
theorem fn_raise {x xn a msg : Str} {st : Stmt} {N : List Str} {k j : Nat} {C : Addr} {e : Expr} {p p2 pos pos2 pos3 : Pos} {g : D → Option Bool} (Fd : DefAt G x st [a]) (S : FnScope N [a] (defScope st))
    (hbody : defBody st = [.If e [.Raise (some (.Call (.Name xn p) [.Constant (.str msg) j p2] [] pos)) none pos2] [] pos3]) (T : ExCls G xn C)
    (hgl : GlS ⟨N, k, defScope st, fun _ => true⟩ xn) (hdb : (xn == ("__debug__" : Str)) = false) (ht : ∀ d, TOk G ⟨N, k, defScope st, fun _ => true⟩ (rho N [d]) e (g d)) : FnR G (k + 1) x g C := by
  obtain ⟨f, fd, F, hm, hb⟩ := Fd
  have hpl : 1 ≤ N.length := by have := congrArg List.length S.pre; rw [List.length_take] at this; simp at this; omega
  refine ⟨f, fd, a, F.okX S (fun vs H Q E ⟨F, d, v, b, ev, _⟩ => by rw [ev]; rfl) (fun cdv A outer s H vs Q E hr sp => ?_), hm, F.kp, hb⟩
  obtain ⟨F0, d, v, b, rfl, s0, r, eg, q1, q2⟩ := sp
  have hX : XOk G ⟨N, k, defScope st, fun _ => true⟩ (cxOf (L2.CX G.P G.w) G.P G.w G.K G.mg G.base N x (defScope st) f cdv A outer s H E) := ⟨rfl, rfl, rfl, rfl, rfl, rfl, S.nd, rfl, rfl, rfl, hr⟩
  rw [hbody]
  refine ⟨_, pss_one (ps_if (ht d _ hX) (pss_one (ps_raise rfl (takes_of rfl rfl rfl rfl) (pmk_own PySem.F.excBase_ValueError T.xC T.gC T.kC (raises_own T.bC T.tC) (gl_of hX hgl) hdb))) pss_nil), ?_⟩
  refine ⟨F0, b, eg, ⟨s0, ?_, fun i d' h => ?_, fun i d' h => absurd h rho_own⟩, fun F' H' x1 => ?_⟩
  · simp only [L2.start, rho, List.length_append, List.length_map, List.length_replicate, List.length_singleton]
  · have hd : ([d] : List D)[i]? = some d' := rho_nth (N := N) h
    cases i with
    | zero =>
      simp at hd
      subst hd
      exact ⟨v, rfl, r⟩
    | succ i => simp at hd
  · cases b with
    | true => exact q2 rfl F' H' x1
    | false => exact q1 rfl F' H' x1
/-! ### a def that tries it -/
theorem cxOf_stack {CX : CXT} {P : Program} {w : World} {K : PySem.W.Frag} {mg : Str → Option Value} {base : Heap} {N : List Str} {x : Str} {sc : Scope} {f : Addr} {cdv : Value} {A : Around} {outer : List Env} {s : Shared} {H : Hp} {E : XK} :
    (cxOf CX P w K mg base N x sc f cdv A outer s H E).stack = (cxOf CX P w K mg base N x sc f cdv A outer s H E).env :: (cxOf CX P w K mg base N x sc f cdv A outer s H E).outer := rfl
theorem xok_tr {L : LX} {X : Cx} {pn : List (Addr × Obj)} {xe : Value → Shared → Prop} (h : XOk G L X) : XOk G L (X.tr pn xe) := ⟨h.hP, h.hw, h.hK, h.hm, h.hb, h.hN, h.nd, h.hsc, h.hfn, h.calm, h.room⟩
theorem fn_try {x a y n hn xn : Str} {st : Stmt} {k : Nat} {C : Addr} {p1 p2 p3 p4 p5 np pos pos' : Pos} {g : D → Option Bool} {b0 : Stmt} {suite rest : List Stmt} {more : List ExceptHandler} {r1 : Int} {m2 : D → Option D} {ts : Addr → TS}
    (Fd : DefAt G x st [a]) (S : FnScope [a, y, n] [a] (defScope st))
    (hbody : defBody st = .Try [.Assign [.Name y p1] (.Call (.Name hn p2) [.Name a p3] [] p4) p5] (.ExceptHandler (some (.Name xn np)) (some n) (b0 :: suite) pos' :: more) [] [] pos :: rest)
    (R : FnR G k hn g C) (T : ExCls G xn C) (hexm : PySem.W.exmOne G.K (.ref C) (.ref C) = some true)
    (hgh : GlS ⟨[a, y, n], k, defScope st, fun _ => true⟩ hn) (hgx : GlS ⟨[a, y, n], k, defScope st, fun _ => true⟩ xn) (hdx : (xn == ("__debug__" : Str)) = false) (hdh : (hn == ("__debug__" : Str)) = false) (hda : (a == ("__debug__" : Str)) = false) (hca : (a == ("__classdict__" : Str)) = false)
    (hva : Vis (defScope st) a) (hly : Loc (defScope st) y) (hln : (defScope st).names.lookup n = some .local)
    (hsw : ∀ env, swapsWith (.Call (.Name hn p2) [.Name a p3] [] p4) (some (.Name y p1)) p5.line env = pure false)
    (hsu : ∀ X, XOk G ⟨[a, y, n], k, defScope st, fun _ => true⟩ X → ∀ (b : Addr) (oe : Obj) (pn : List (Addr × Obj)), Zc (.ref C) none oe → (∃ vs, oe.data = .fields vs) → PSs (X.suite b ((b, oe) :: pn)) (b0 :: suite) (ts b))
    (hts : ∀ (b : Addr) (Dn : Ends) (σ : L2.St) (H : Hp), σ[2]? = some (some (.ref b)) → Dn.rt (.int r1) H → ts b Dn σ H)
    (hrest : ∀ d, BOk G ⟨[a, y, n], k, defScope st, fun _ => true⟩ [.val d, .val .non, .no] rest (kF G.K) (m2 d)) :
    FnD G (k + 1) x 1 (ap1 fun d => (g d).bind fun b => if b = true then some (.int r1) else m2 d) := by
  obtain ⟨f, fd, F, hm, hb⟩ := Fd
  obtain ⟨f2, fd2, a2, GT, hm2, hk2, hb2⟩ := R
  refine ⟨f, fd, [a], rfl, F.ok S (fun vs H Q E ⟨F, ds, d, hl, s, r, e, q⟩ => by rw [← r.len, hl]; rfl) (fun cdv A outer s H vs Q E hr sp => ?_), hm, F.kp, hb⟩
  obtain ⟨F0, ds, d, hl, s0, r, e, q⟩ := sp
  match ds, hl with
  | [d0], _ =>
  obtain ⟨v, rfl, rv⟩ := r.one
  obtain ⟨b, eb, em⟩ := Option.bind_eq_some_iff.mp (show ((g d0).bind fun b => if b = true then some (D.int r1) else m2 d0) = some d from e)
  have hX : XOk G ⟨[a, y, n], k, defScope st, fun _ => true⟩ (cxOf CX0 G.P G.w G.K G.mg G.base [a, y, n] x (defScope st) f cdv A outer s H E).nox := ⟨rfl, rfl, rfl, rfl, rfl, rfl, S.nd, rfl, rfl, rfl, hr⟩
  rw [hbody]
  refine ⟨_, pss_cons (ps_tryNamed (c := .ref C) (i := 2) (tb := fun W => tAsg (tCallS (spR G.K g C) (WE W) (tCons (tVar 0) tNil)) (gName 1)) (ts := fun b cls dd Dn σ H => cls = .ref C ∧ dd = none ∧ ts b Dn σ H) rfl rfl S.nd rfl hln (gl_of hX hgx) hdx T.gC
    (fun W pn xe tk => pss_one (ps_set (i := 1) S.nd rfl hly (pe_callS GT hr (gl_of (xok_tr hX) hgh) hm2 hk2 hb2 (fun σ => passAt tk σ) (pa_cons (pe_var (i := 0) rfl hva hda hca) pa_nil) hdh) (hsw _)))
    (fun b oe cls dd pn hz hf => ⟨fun pins s2 σ2 H2 D2 I2 ⟨e1, e2, w⟩ => ?_⟩)) (hrest d0 _ hX), ?_⟩
  · subst e1
    subst e2
    exact (hsu _ hX b oe pn hz hf).run pins s2 σ2 H2 D2 I2 w
  · refine ⟨v, rfl, F0, d0, v, b, rfl, s0, rv, eb, fun hbf F' H' x1 => ?_, fun hbt F' H' x1 => ⟨hexm, fun e0 he0 => ⟨rfl, rfl, hts _ _ _ _ rfl ?_⟩⟩⟩
    · subst hbf
      have em' : m2 d0 = some d := em
      have rv' := Rep.mono x1.froz _ _ rv
      refine ⟨H', F', F', d, em', ⟨⟨x1.sub, rfl, fun i d' h => ?_, fun i d' h => ?_⟩, ⟨Same.refl _, x1.sub, Same.refl _, fun a o h n => by rw [h] at n; cases n⟩, fun i d' p h => ?_, fun i j d' e' p h => ?_⟩, ?_, ?_⟩
      · match i with
        | 0 => cases h; exact ⟨v, rfl, rv'⟩
        | 1 => cases h; exact ⟨.non, rfl, rep_n⟩
        | 2 => cases h
        | i + 3 => cases h
      · match i with
        | 0 => cases h
        | 1 => cases h
        | 2 => cases h
        | i + 3 => cases h
      · match i with
        | 0 => cases h
        | 1 => cases h
        | 2 => cases h
        | i + 3 => cases h
      · match i with
        | 0 => cases h
        | 1 => cases h
        | 2 => cases h
        | i + 3 => cases h
      · intro v2 F2 H2 ro rv2
        exact q v2 F2 H2 (x1.trans ⟨ro.keep, ro.ext, ro.sub, ro.fresh⟩) rv2
      · intro hd σ2 F2 H2 ro
        subst hd
        exact q .non F2 H2 (x1.trans ⟨ro.keep, ro.ext, ro.sub, ro.fresh⟩) rep_n
    · subst hbt
      have : d = .int r1 := (Option.some.inj em).symm
      subst this
      exact q (.int r1) F' H' x1 (by unfold Rep; rfl)
end
/-! ### the suite: isinstance of the error -/
section
variable {G : GX} {L : LX} {X : Cx} {n xn : Str} {C C2 b : Addr} {oe : Obj} {pn : List (Addr × Obj)} {p p2 p3 pos : Pos} {i : Nat} {r : Bool}
def tIsE (K : PySem.W.Frag) (C b C2 : Addr) (i : Nat) : TT := L2.tB (tCB (rIsE K C b) (tCons (tVar i) (tCons (tC (.ref C2)) tNil)))
theorem pt_isE (hX : XOk G L X) (Ce : ExcC G.K C) (hz : Zc (.ref C) none oe) (hf : ∃ vs, oe.data = .fields vs) (hmi : G.mg "isinstance" = none) (hm2 : G.mg xn = some (.ref C2)) (hN : L.N[i]? = some n := by rfl) (hvn : Vis L.sc n := by exact Or.inl rfl)
    (hgi : GlS L "isinstance" := by rfl) (hgx : GlS L xn := by rfl) (hdx : (xn == ("__debug__" : Str)) = false := by decide) (hdn : (n == ("__debug__" : Str)) = false := by decide) (hcn : (n == ("__classdict__" : Str)) = false := by decide) :
    PT (X.suite b ((b, oe) :: pn)) (.Call (.Name "isinstance" p) [.Name n p2, .Name xn p3] [] pos) (tIsE G.K C b C2 i) := by
  have hK := hX.hK
  unfold tIsE
  rw [← hK] at Ce ⊢
  refine pt_val (pe_callB (call_isE Ce hz hf) (gl_of hX hgi) (by show X.mg _ = none; rw [hX.hm]; exact hmi) boot_isinstance (pa_cons (pe_var (X := X.suite b ((b, oe) :: pn)) (by show X.N[i]? = some n; rw [hX.hN]; exact hN) (by show Vis X.env.scope n; rw [hX.hsc]; exact hvn) hdn hcn) (pa_cons (pe_glob (v := .ref C2) (gl_of hX hgx) (by show X.mg xn = _; rw [hX.hm]; exact hm2) rfl hdx) pa_nil)))
theorem isE_go {K : PySem.W.Frag} {σ : L2.St} {H : Hp} {Q : Bool → Hp → Prop} (hk : PySem.W.kitOne K (.ref C) (.ref C2) = some r) (hσ : σ[i]? = some (some (.ref b))) (q : Q r H) : tIsE K C b C2 i σ H Q :=
  ⟨.ref b, hσ, .ref C2, .ref C2, r, rfl, fun u h => h, hk, r, rfl, q⟩
end
/-- an error of one class is not of another -/
theorem kit_ne {K : PySem.W.Frag} {C C2 : Addr} (h1 : (Value.ref C == Value.ref C2) = false) (h2 : PySem.W.hasDictIn K C2 = true) (h3 : PySem.W.typeIn K (.ref C2) = some (.type "type")) (h4 : PySem.W.subIn K (.ref C) (.ref C2) = some false) : PySem.W.kitOne K (.ref C) (.ref C2) = some false := by
  obtain ⟨cd, hc, _⟩ := PySem.W.any_some h2
  unfold PySem.W.kitOne PySem.W.kitCls
  rw [if_neg (by rw [h1]; simp)]
  simp only
  rw [if_pos (by rw [hc, h3]; rfl), h4]
end DL
set_option autoImplicit false
set_option pp.maxSteps 40
set_option maxRecDepth 100000
set_option maxHeartbeats 4000000
namespace DL.k00
open PySem PySem.Spec PySem.SeqAt PyProof.Rows L2 DL
def topS (i : Nat) : Stmt := PySem.Challenge.pw_changeforall_k00_check_coinage.main.body.getD i (.Pass ⟨0, 0, 0, 0⟩)
abbrev s_is_number : Stmt := topS 8
abbrev s_is_coinage : Stmt := topS 13
abbrev s_check_coinage : Stmt := topS 12
abbrev s__law_mixed : Stmt := topS 15
abbrev s__law_row : Stmt := topS 16
abbrev s__law_is_int : Stmt := topS 17
abbrev s__law_rises : Stmt := topS 18
abbrev s__law_coinage : Stmt := topS 19
abbrev s__law_is_coinage : Stmt := topS 20
abbrev s__law_only : Stmt := topS 21
abbrev s__law_right : Stmt := topS 22
abbrev s__law_placed : Stmt := topS 23
abbrev s__law_part : Stmt := topS 24
abbrev s__law_spoiled : Stmt := topS 25
abbrev s__law_edge : Stmt := topS 26
abbrev s_law : Stmt := topS 27
theorem sc_is_number : FnScope ["value", "least", "most"] ["value", "least", "most"] (defScope s_is_number) := ⟨rfl, rfl, rfl, by decide +kernel, rfl, by decide +kernel, by decide +kernel⟩
theorem sc_is_coinage : FnScope ["value", "most", "less", "more", "part"] ["value", "most"] (defScope s_is_coinage) := ⟨rfl, rfl, rfl, by decide +kernel, rfl, by decide +kernel, by decide +kernel⟩
theorem sc_check_coinage : FnScope ["value"] ["value"] (defScope s_check_coinage) := ⟨rfl, rfl, rfl, by decide +kernel, rfl, by decide +kernel, by decide +kernel⟩
theorem sc__law_mixed : FnScope ["script", "k", "cell", "first", "second", "third"] ["script", "k"] (defScope s__law_mixed) := ⟨rfl, rfl, rfl, by decide +kernel, rfl, by decide +kernel, by decide +kernel⟩
theorem sc__law_row : FnScope ["script", "many", "big", "row", "k"] ["script", "many"] (defScope s__law_row) := ⟨rfl, rfl, rfl, by decide +kernel, rfl, by decide +kernel, by decide +kernel⟩
theorem sc__law_is_int : FnScope ["value"] ["value"] (defScope s__law_is_int) := ⟨rfl, rfl, rfl, by decide +kernel, rfl, by decide +kernel, by decide +kernel⟩
theorem sc__law_rises : FnScope ["items", "k"] ["items"] (defScope s__law_rises) := ⟨rfl, rfl, rfl, by decide +kernel, rfl, by decide +kernel, by decide +kernel⟩
theorem sc__law_coinage : FnScope ["row", "at", "most", "top", "found", "k", "value"] ["row", "at", "most", "top"] (defScope s__law_coinage) := ⟨rfl, rfl, rfl, by decide +kernel, rfl, by decide +kernel, by decide +kernel⟩
theorem sc__law_is_coinage : FnScope ["value", "part"] ["value"] (defScope s__law_is_coinage) := ⟨rfl, rfl, rfl, by decide +kernel, rfl, by decide +kernel, by decide +kernel⟩
theorem sc__law_only : FnScope ["e"] ["e"] (defScope s__law_only) := ⟨rfl, rfl, rfl, by decide +kernel, rfl, by decide +kernel, by decide +kernel⟩
theorem sc__law_right : FnScope ["value", "due", "answer", "e"] ["value"] (defScope s__law_right) := ⟨rfl, rfl, rfl, by decide +kernel, rfl, by decide +kernel, by decide +kernel⟩
theorem sc__law_placed : FnScope ["good", "place", "part"] ["good", "place", "part"] (defScope s__law_placed) := ⟨rfl, rfl, rfl, by decide +kernel, rfl, by decide +kernel, by decide +kernel⟩
theorem sc__law_part : FnScope ["kind", "value"] ["kind", "value"] (defScope s__law_part) := ⟨rfl, rfl, rfl, by decide +kernel, rfl, by decide +kernel, by decide +kernel⟩
theorem sc__law_spoiled : FnScope ["good", "row", "at", "kind", "place", "more", "k"] ["good", "row", "at"] (defScope s__law_spoiled) := ⟨rfl, rfl, rfl, by decide +kernel, rfl, by decide +kernel, by decide +kernel⟩
theorem sc__law_edge : FnScope ["row", "at", "kind", "step", "k"] ["row", "at"] (defScope s__law_edge) := ⟨rfl, rfl, rfl, by decide +kernel, rfl, by decide +kernel, by decide +kernel⟩
theorem sc_law : FnScope ["script", "row", "good", "handed", "e", "first", "second", "value"] ["script"] (defScope s_law) := ⟨rfl, rfl, rfl, by decide +kernel, rfl, by decide +kernel, by decide +kernel⟩
structure Top (G : GX) : Prop where
  z_ValueError : G.mg "ValueError" = none
  z_all : G.mg "all" = none
  z_bool : G.mg "bool" = none
  z_int : G.mg "int" = none
  z_isinstance : G.mg "isinstance" = none
  z_len : G.mg "len" = none
  z_list : G.mg "list" = none
  z_range : G.mg "range" = none
  z_sorted : G.mg "sorted" = none
  z_str : G.mg "str" = none
  z_tuple : G.mg "tuple" = none
  z_zip : G.mg "zip" = none
  g_MOST_VALUE : ∃ u, G.mg "MOST_VALUE" = some u ∧ RelV (.int 60) u
  g_MOST_VALUES : ∃ u, G.mg "MOST_VALUES" = some u ∧ RelV (.int 8) u
  x_InvalidCoinage : ∃ C, ExCls G "InvalidCoinage" C ∧ PySem.W.exmOne G.K (.ref C) (.ref C) = some true ∧ (∃ C2, G.mg "InvalidShop" = some (.ref C2) ∧ PySem.W.kitOne G.K (.ref C) (.ref C2) = some false) ∧ (∃ C2, G.mg "BadText" = some (.ref C2) ∧ PySem.W.kitOne G.K (.ref C) (.ref C2) = some false) ∧ (∃ C2, G.mg "NoChange" = some (.ref C2) ∧ PySem.W.kitOne G.K (.ref C) (.ref C2) = some false) ∧ (∃ C2, G.mg "NoHistory" = some (.ref C2) ∧ PySem.W.kitOne G.K (.ref C) (.ref C2) = some false) ∧ (∃ C2, G.mg "ChangeError" = some (.ref C2) ∧ PySem.W.kitOne G.K (.ref C) (.ref C2) = some true) ∧ PySem.W.kitOne G.K (.ref C) (.type "ValueError") = some true
  t_is_number : DefAt G "is_number" s_is_number ["value", "least", "most"]
  t_is_coinage : DefAt G "is_coinage" s_is_coinage ["value", "most"]
  t_check_coinage : DefAt G "check_coinage" s_check_coinage ["value"]
  t__law_mixed : DefAt G "_law_mixed" s__law_mixed ["script", "k"]
  t__law_row : DefAt G "_law_row" s__law_row ["script", "many"]
  t__law_is_int : DefAt G "_law_is_int" s__law_is_int ["value"]
  t__law_rises : DefAt G "_law_rises" s__law_rises ["items"]
  t__law_coinage : DefAt G "_law_coinage" s__law_coinage ["row", "at", "most", "top"]
  t__law_is_coinage : DefAt G "_law_is_coinage" s__law_is_coinage ["value"]
  t__law_only : DefAt G "_law_only" s__law_only ["e"]
  t__law_right : DefAt G "_law_right" s__law_right ["value"]
  t__law_placed : DefAt G "_law_placed" s__law_placed ["good", "place", "part"]
  t__law_part : DefAt G "_law_part" s__law_part ["kind", "value"]
  t__law_spoiled : DefAt G "_law_spoiled" s__law_spoiled ["good", "row", "at"]
  t__law_edge : DefAt G "_law_edge" s__law_edge ["row", "at"]
theorem ok_is_number {G : GX} (T : Top G) : FnD G 1 "is_number" 3 (ap3 f_is_number_D) := by
  refine fn_ok3 (k := 0) T.t_is_number sc_is_number rfl fun x_value x_least x_most => ?_
  show BOk _ _ [.val x_value, .val x_least, .val x_most] _ _ _
  delta f_is_number_D
  refine c_if (t_w (w_or (t_not (t_tru (e_is_int T.z_isinstance T.z_int (e_var 0)))) (w_or (t_tru (e_is_bool T.z_isinstance T.z_bool (e_var 0))) (w_or1 (t_cmp opd_lt (e_var 0) (e_var 1)))))) ?_ ?_ kFD
  · exact b_retD e_bl
  exact b_retF (e_or (e_cmp opd_is (e_var 2) e_non) (e_one (e_cmp opd_le (e_var 0) (e_var 2))))
theorem ok_is_coinage {G : GX} (T : Top G) : FnD G 2 "is_coinage" 2 (ap2 f_is_coinage_D) := by
  refine fn_ok2 (k := 1) T.t_is_coinage sc_is_coinage rfl fun x_value x_most => ?_
  show BOk _ _ [.val x_value, .val x_most, .no, .no, .no] _ _ _
  delta f_is_coinage_D
  refine c_if (t_w (w_or (t_not (t_tru (e_is_tuple T.z_isinstance T.z_tuple (e_var 0)))) (w_or1 (t_not (t_chain opd_le opd_le e_int (e_len1 T.z_len (e_var 0)) (e_var 1)))))) ?_ ?_ kFD
  · exact b_retD e_bl
  refine c_if (t_not (t_tru (e_all1 T.z_all (e_new (f_lc (i_seq (e_var 0)) (lc1 (own := [("part", 4)]) (by decide +kernel) (g_name 4) (by decide) (fun x_part => ts_nil) (fun x_part => (e_call3 (ok_is_number T) (e_var 4) e_int (e_gI T.g_MOST_VALUE))))))))) ?_ ?_ kFD
  · exact b_retD e_bl
  exact b_retF (e_all1 T.z_all (e_new (f_lc (i_zip T.z_zip (a_cons (e_var 0) (a_cons (e_sl (e_var 0) (o_some e_int) o_none) a_nil))) (lc2 (own := [("less", 2), ("more", 3)]) (by decide +kernel) (g_tup (gs_cons (g_name 2) (gs_cons (g_name 3) gs_nil))) (by decide) (by decide) (fun x_less x_more => ts_nil) (fun x_less x_more => (e_cmp opd_lt (e_var 2) (e_var 3)))))))
theorem ok__law_mixed {G : GX} (T : Top G) : FnD G 1 "_law_mixed" 2 (ap2 f__law_mixed_D) := by
  refine fn_ok2 (k := 0) T.t__law_mixed sc__law_mixed rfl fun x_script x_k => ?_
  show BOk _ _ [.val x_script, .val x_k, .no, .no, .no, .no] _ _ _
  delta f__law_mixed_D
  refine b_set 2 e_int (fun x_cell => ?_)
  refine c_ifp (u := (fun (a1 : D) => [.val x_script, .val x_k, .val a1, .no, .no, .no])) (t_cmp opd_gt (e_len1 T.z_len (e_var 0)) e_int) ?_ ?_ (fun a1 => ?_)
  · refine b_set 2 (e_ix (e_var 0) (e_op opd_mod (e_var 1) (e_len1 T.z_len (e_var 0)))) (fun x_cell => ?_)
    exact b_nil (le_eq (le_eq (le_eq (le_no (le_no (le_no le_nil))))))
  · exact b_nil (le_eq (le_eq (le_eq (le_no (le_no (le_no le_nil))))))
  refine b_set 3 (e_op opd_mod (e_int1 T.z_int (e_op opd_add (e_op opd_add (e_op opd_mul (e_var 2) e_int) (e_op opd_mul (e_var 1) e_int)) e_int)) e_int) (fun x_first => ?_)
  refine b_set 4 (e_op opd_mod (e_int1 T.z_int (e_op opd_add (e_op opd_add (e_op opd_mul (e_var 3) (e_var 3)) (e_op opd_fdiv (e_var 3) e_int)) (e_op opd_mul (e_var 1) e_int))) e_int) (fun x_second => ?_)
  refine b_set 5 (e_op opd_mod (e_int1 T.z_int (e_op opd_add (e_op opd_add (e_op opd_mul (e_var 4) (e_var 4)) (e_op opd_fdiv (e_var 4) e_int)) e_int)) e_int) (fun x_third => ?_)
  exact b_retF (e_op opd_mod (e_op opd_fdiv (e_var 5) e_int) e_int)
theorem ok__law_row {G : GX} (T : Top G) : FnD G 2 "_law_row" 2 (ap2 f__law_row_D) := by
  refine fn_ok2 (k := 1) T.t__law_row sc__law_row rfl fun x_script x_many => ?_
  show BOk _ _ [.val x_script, .val x_many, .no, .no, .no] _ _ _
  delta f__law_row_D
  refine b_set 2 e_int (fun x_big => ?_)
  refine c_ifp (u := (fun (a1 : D) => [.val x_script, .val x_many, .val a1, .no, .no])) (t_w (w_and (t_cmp opd_gt (e_len1 T.z_len (e_var 0)) e_int) (w_and1 (t_cmp opd_ge (e_ix (e_var 0) e_int) (e_op opd_pow e_int e_int))))) ?_ ?_ (fun a1 => ?_)
  · refine b_set 2 (e_ix (e_var 0) e_int) (fun x_big => ?_)
    exact b_nil (le_eq (le_eq (le_eq (le_no (le_no le_nil)))))
  · exact b_nil (le_eq (le_eq (le_eq (le_no (le_no le_nil)))))
  refine b_own 3 (f_lst a_nil) (fun x_row => ?_)
  refine c_forP1 (v := (fun (s2 : D × D) => [.val x_script, .val x_many, .val s2.1, .own s2.2, .no])) (i_range1 T.z_range (a_cons (e_var 1) a_nil)) (g_name 4) (le_eq (le_eq (le_eq (le_eq (le_no le_nil))))) ?_ ?_
  · intro s2 x_k
    refine c_ife (t_cmp opd_gt (e_var 2) e_int) ?_ ?_
    · refine b_app 3 rfl (e_op opd_mod (e_int1 T.z_int (e_var 2)) e_int) (fun x_row => ?_)
      refine b_set 2 (e_op opd_fdiv (e_var 2) e_int) (fun x_big => ?_)
      exact b_nil (le_eq (le_eq (le_eq (le_eq (le_no le_nil)))))
    · refine b_app 3 rfl (e_call2 (ok__law_mixed T) (e_var 0) (e_var 4)) (fun x_row => ?_)
      exact b_nil (le_eq (le_eq (le_eq (le_eq (le_no le_nil)))))
  intro s3
  refine b_frz 3 rfl ?_
  exact b_retF (e_var 3)
theorem ok__law_coinage {G : GX} (T : Top G) : FnD G 1 "_law_coinage" 4 (ap4 f__law_coinage_D) := by
  refine fn_ok4 (k := 0) T.t__law_coinage sc__law_coinage rfl fun x_row x_at x_most x_top => ?_
  show BOk _ _ [.val x_row, .val x_at, .val x_most, .val x_top, .no, .no, .no] _ _ _
  delta f__law_coinage_D
  refine b_own 4 (f_lst a_nil) (fun x_found => ?_)
  refine c_forP1 (v := (fun (s1 : D) => [.val x_row, .val x_at, .val x_most, .val x_top, .own s1, .no, .no])) (i_range1 T.z_range (a_cons (e_op opd_add e_int (e_op opd_mod (e_int1 T.z_int (e_ix (e_var 0) (e_var 1))) (e_var 2))) a_nil)) (g_name 5) (le_eq (le_eq (le_eq (le_eq (le_eq (le_no (le_no le_nil))))))) ?_ ?_
  · intro s1 x_k
    refine b_set 6 (e_op opd_add e_int (e_op opd_mod (e_int1 T.z_int (e_ix (e_var 0) (e_op opd_add (e_op opd_add (e_var 1) e_int) (e_var 5)))) (e_var 3))) (fun x_value => ?_)
    refine c_ife (t_frz (t_cmp opd_notIn (e_var 6) (e_var 4))) ?_ ?_
    · refine b_app 4 rfl (e_var 6) (fun x_found => ?_)
      exact b_nil (le_eq (le_eq (le_eq (le_eq (le_eq (le_no (le_no le_nil)))))))
    · exact b_nil (le_eq (le_eq (le_eq (le_eq (le_eq (le_no (le_no le_nil)))))))
  intro s2
  refine b_frz 4 rfl ?_
  exact b_retF (e_tuple1 T.z_tuple (e_new (f_sorted1 T.z_sorted (e_var 4))))
end DL.k00
set_option autoImplicit false
set_option maxRecDepth 100000
set_option maxHeartbeats 4000000
/-! an instance with a list of its own (k66's Till): what stands of it, expressions that read it -/
namespace DL
open PySem PySem.Spec PySem.SeqAt PyProof.Rows L2
structure TlS where
  shop : D
  held : D
  earned : D
  past : List D
  paper : D
def fsT (v1 v2 v3 vp v5 : V) : List (Str × V) := [("shop", v1), ("held", v2), ("earned", v3), ("past", vp), ("paper", v5)]
section
variable {v1 v2 v3 vp v5 v : V}
theorem put_held : putF "held" v (fsT v1 v2 v3 vp v5) = fsT v1 v v3 vp v5 := by with_unfolding_all rfl
theorem put_earned : putF "earned" v (fsT v1 v2 v3 vp v5) = fsT v1 v2 v vp v5 := by with_unfolding_all rfl
theorem put_past : putF "past" v (fsT v1 v2 v3 vp v5) = fsT v1 v2 v3 v v5 := by with_unfolding_all rfl
theorem put_all : putF "paper" v5 (putF "past" vp (putF "earned" v3 (putF "held" v2 (putF "shop" v1 [])))) = fsT v1 v2 v3 vp v5 := by with_unfolding_all rfl
theorem look_shop : (fsT v1 v2 v3 vp v5).lookup ("shop" : Str) = some v1 := by with_unfolding_all rfl
theorem look_held : (fsT v1 v2 v3 vp v5).lookup ("held" : Str) = some v2 := by with_unfolding_all rfl
theorem look_earned : (fsT v1 v2 v3 vp v5).lookup ("earned" : Str) = some v3 := by with_unfolding_all rfl
theorem look_past : (fsT v1 v2 v3 vp v5).lookup ("past" : Str) = some vp := by with_unfolding_all rfl
theorem look_paper : (fsT v1 v2 v3 vp v5).lookup ("paper" : Str) = some v5 := by with_unfolding_all rfl
end
/-- no field bears the name -/
def NoF (m : Str) : Prop := ∀ v1 v2 v3 vp v5, (fsT v1 v2 v3 vp v5).lookup m = none
/-- a till stands at a, its list at b -/
def TillAt (K : PySem.W.Frag) (C : Addr) (F H : Hp) (a b : Addr) (st : TlS) : Prop := ∃ dx v1 v2 v3 vs v5, H a = some (.ins C dx (fsT v1 v2 v3 (.ref b) v5)) ∧ H b = some (.lst vs) ∧ F a = none ∧ F b = none ∧
  Rep K F st.shop v1 ∧ Rep K F st.held v2 ∧ Rep K F st.earned v3 ∧ Reps K F st.past vs ∧ Rep K F st.paper v5
section
variable {K : PySem.W.Frag} {C a b b1 b2 : Addr} {F H F' H' F1 H1 B F0 : Hp} {st st' st1 : TlS} {σ : L2.St} {ρ : List Sl}
theorem TillAt.ext (t : TillAt K C F H a b st) (e : Ext F H F' H') : TillAt K C F' H' a b st := by
  obtain ⟨dx, v1, v2, v3, vs, v5, h1, h2, n1, n2, r1, r2, r3, r4, r5⟩ := t
  exact ⟨dx, v1, v2, v3, vs, v5, e.heap _ _ h1, e.heap _ _ h2, e.stay n1 h1 (fun vs z => nomatch z), e.stay n2 h2 (fun vs z => nomatch z), Rep.mono e.froz _ _ r1, Rep.mono e.froz _ _ r2, Rep.mono e.froz _ _ r3, Reps.mono e.froz _ _ r4, Rep.mono e.froz _ _ r5⟩
theorem TillAt.ne (t : TillAt K C F H a b st) : b ≠ a := by
  obtain ⟨dx, v1, v2, v3, vs, v5, h1, h2, _⟩ := t
  rintro rfl
  rw [h1] at h2; cases h2
/-- all but the till is kept -/
structure Chg (a b : Addr) (F H F' H' : Hp) : Prop where
  heap : ∀ p o, p ≠ a → p ≠ b → H p = some o → H' p = some o
  froz : Same F F'
  sub : Sub F' H'
  new : ∀ p o, F' p = some o → F p = none → H p = none ∨ ∃ vs, o = .tup vs
  free : ∀ p, H' p = none → H p = none
  lb : ∀ vs, H b = some (.lst vs) → ∃ vs', H' b = some (.lst vs')
theorem Chg.of (e : Ext F H F' H') : Chg a b F H F' H' := ⟨fun p o _ _ h => e.heap p o h, e.froz, e.sub, e.new, fun p h => e.heap.free h, fun vs h => ⟨vs, e.heap _ _ h⟩⟩
theorem Chg.trans (c1 : Chg a b F H F1 H1) (c2 : Chg a b F1 H1 F' H') : Chg a b F H F' H' := ⟨fun p o n1 n2 h => c2.heap p o n1 n2 (c1.heap p o n1 n2 h), c1.froz.trans c2.froz, c2.sub, fun x o h n => by
  cases q : F1 x with
  | some u =>
    have z := c2.froz x u q
    rw [h] at z
    cases z
    exact c1.new x _ q n
  | none => exact (c2.new x o h q).imp (c1.free x) id, fun p h => c1.free p (c2.free p h), fun vs h => let ⟨vs', h'⟩ := c1.lb vs h; c2.lb vs' h'⟩
theorem Chg.pre (e : Ext F H F1 H1) (c : Chg a b F1 H1 F' H') : Chg a b F H F' H' := (Chg.of e).trans c
theorem Chg.post (c : Chg a b F H F1 H1) (e : Ext F1 H1 F' H') : Chg a b F H F' H' := c.trans (.of e)
/-- what a call with the till leaves: an answer and (if it changes) the till's new state -/
def PostZ (K : PySem.W.Frag) (C a b : Addr) (F H : Hp) : D × Option TlS → VK → Prop
  | (d, none), Q => ∀ v F' H', Ext F H F' H' → Rep K F' d v → Q v H'
  | (d, some st'), Q => ∀ v F' H' b', Chg a b F H F' H' → TillAt K C F' H' a b' st' → (b' = b ∨ H b' = none) → Rep K F' d v → Q v H'
theorem PostZ.pre {r : D × Option TlS} {Q : VK} (e : Ext F H F1 H1) (h : PostZ K C a b F H r Q) : PostZ K C a b F1 H1 r Q := by
  obtain ⟨d, o⟩ := r
  cases o with
  | none => exact fun v F' H' x rv => h v F' H' (e.trans x) rv
  | some st' => exact fun v F' H' b' c t hb rv => h v F' H' b' (.pre e c) t (hb.imp id e.heap.free) rv
/-! ### expressions that read a till in slot j -/
def RP (K : PySem.W.Frag) (C : Addr) (a : Addr) (j : Nat) (st : TlS) (σ : L2.St) (F H : Hp) : Prop := σ[j]? = some (some (.ref a)) ∧ ∃ b, TillAt K C F H a b st
theorem RP.ext {j : Nat} (r : RP K C a j st σ F H) (e : Ext F H F' H') : RP K C a j st σ F' H' := ⟨r.1, let ⟨b, t⟩ := r.2; ⟨b, t.ext e⟩⟩
end
def tZr (K : PySem.W.Frag) (C : Addr) (j : Nat) (st : TlS) (ρ : List Sl) (m : Option D) : TE := fun σ H Q => ∃ F a d, m = some d ∧ VR K ρ σ F H ∧ RP K C a j st σ F H ∧ ∀ v F' H', Ext F H F' H' → Rep K F' d v → Q v H'
def tZT (K : PySem.W.Frag) (C : Addr) (j : Nat) (st : TlS) (ρ : List Sl) (m : Option Bool) : TT := fun σ H Q => ∃ F a b, m = some b ∧ VR K ρ σ F H ∧ RP K C a j st σ F H ∧ ∀ F' H', Ext F H F' H' → Q b H'
def tZA (K : PySem.W.Frag) (C : Addr) (j : Nat) (st : TlS) (ρ : List Sl) (m : Option (List D)) : TA := fun σ H Q => ∃ F a ds, m = some ds ∧ VR K ρ σ F H ∧ RP K C a j st σ F H ∧ ∀ vs F' H', Ext F H F' H' → Reps K F' ds vs → Q vs H'
/-- .. or change it -/
def tW (K : PySem.W.Frag) (C : Addr) (j : Nat) (st : TlS) (ρ : List Sl) (m : Option (D × Option TlS)) : TE := fun σ H Q => ∃ F a b r, m = some r ∧ VR K ρ σ F H ∧ σ[j]? = some (some (.ref a)) ∧ TillAt K C F H a b st ∧ PostZ K C a b F H r Q
def ZE (G : GX) (L : LX) (C : Addr) (j : Nat) (st : TlS) (ρ : List Sl) (e : Expr) (m : Option D) : Prop := ∀ X, XOk G L X → PE X e (tZr G.K C j st ρ m)
def ZT (G : GX) (L : LX) (C : Addr) (j : Nat) (st : TlS) (ρ : List Sl) (e : Expr) (m : Option Bool) : Prop := ∀ X, XOk G L X → PT X e (tZT G.K C j st ρ m)
def ZW (G : GX) (L : LX) (C : Addr) (j : Nat) (st : TlS) (ρ : List Sl) (e : Expr) (m : Option Bool) : Prop := ∀ X, XOk G L X → PW X e (tZT G.K C j st ρ m)
def ZA (G : GX) (L : LX) (C : Addr) (j : Nat) (st : TlS) (ρ : List Sl) (es : List Expr) (m : Option (List D)) : Prop := ∀ X, XOk G L X → PA X es (tZA G.K C j st ρ m)
def WE' (G : GX) (L : LX) (C : Addr) (j : Nat) (st : TlS) (ρ : List Sl) (e : Expr) (m : Option (D × Option TlS)) : Prop := ∀ X, XOk G L X → PE X e (tW G.K C j st ρ m)
/-- a call that leaves the till as it is -/
def calm1 (r : D × Option TlS) : Option D := match r with
  | (d, none) => some d
  | _ => none
/-! ### calls -/
def spZ (K : PySem.W.Frag) (C : Addr) (n : Nat) (g : TlS → List D → Option (D × Option TlS)) : Sp := fun vs H Q _ => ∃ F a b st us ds r, vs = .ref a :: us ∧ ds.length = n ∧ Sub F H ∧ TillAt K C F H a b st ∧ Reps K F ds us ∧ g st ds = some r ∧ PostZ K C a b F H r Q
def FnZ (G : GX) (C : Addr) (k : Nat) (x : Str) (n : Nat) (g : TlS → List D → Option (D × Option TlS)) : Prop := ∃ (f : Addr) (fd : FuncData) (ps : List Str), ps.length = n + 1 ∧ FnOk G.P G.w G.K G.mg G.base CX0 k f fd ps (spZ G.K C n g) ∧ G.mg x = some (.ref f) ∧ PySem.W.keepIn G.K (.ref f) = true ∧ Binds G.K fd ps []
def MeZ (G : GX) (C : Addr) (k : Nat) (m : Str) (n : Nat) (g : TlS → List D → Option (D × Option TlS)) : Prop := ∃ (f : Addr) (fd : FuncData) (ps : List Str), ps.length = n + 1 ∧ FnOk G.P G.w G.K G.mg G.base CX0 k f fd ps (spZ G.K C n g) ∧ Meth G.K C m f ∧ Binds G.K fd ps []
section
variable {G : GX} {L : LX} {C : Addr} {j : Nat} {st : TlS} {ρ : List Sl} {e a b : Expr} {es rest : List Expr} {m ma mb : Option D} {na nb : Option Bool} {ms : Option (List D)} {pos apos p p2 : Pos} {x t : Str} {k n : Nat}
theorem z_of (h : EOk G L ρ e m) : ZE G L C j st ρ e m := fun X hX => wkE (h X hX) fun σ H Q ⟨F, a, d, em, vr, rp, q⟩ => ⟨F, d, em, vr, q⟩
theorem zt_of {m : Option Bool} (h : TOk G L ρ e m) : ZT G L C j st ρ e m := fun X hX => wkT (h X hX) fun σ H Q ⟨F, a, d, em, vr, rp, q⟩ => ⟨F, d, em, vr, q⟩
theorem ZE.to {m' : Option D} (h : ZE G L C j st ρ e m) (q : m = m') : ZE G L C j st ρ e m' := q ▸ h
theorem WE'.to {m m' : Option (D × Option TlS)} (h : WE' G L C j st ρ e m) (q : m = m') : WE' G L C j st ρ e m' := q ▸ h
/-- self.f -/
theorem z_fld {f : Str} {sel : TlS → D} (T : Cls G.K C) (hn : NoAttr G.K C f) (hs : ∀ K F st v1 v2 v3 vp v5, Rep K F st.shop v1 → Rep K F st.held v2 → Rep K F st.earned v3 → Rep K F st.paper v5 → ∃ v, (fsT v1 v2 v3 vp v5).lookup f = some v ∧ Rep K F (sel st) v)
    (hj : L.N[j]? = some x := by rfl) (hv : Vis L.sc x := by first | exact Or.inl rfl | exact Or.inr (Or.inl rfl) | exact Or.inr (Or.inr rfl)) (hd : (x == ("__debug__" : Str)) = false := by decide) (hcd : (x == ("__classdict__" : Str)) = false := by decide)
    (hb : ∀ env, attributeBase (.Name x p) f env (eval (.Name x p) env) = eval (.Name x p) env := by intro _; rfl) : ZE G L C j st ρ (.Attribute (.Name x p) f pos) (some (sel st)) := fun X hX =>
  wkE (pe_fld (p_own hX j hj hv hd hcd) (hb _)) fun σ H Q ⟨F, a, d, em, vr, ⟨hσ, b, dx, v1, v2, v3, vs, v5, h1, h2, f1, f2, r1, r2, r3, r4, r5⟩, q⟩ => by
    cases em
    obtain ⟨v, hl, rv⟩ := hs G.K F st v1 v2 v3 (.ref b) v5 r1 r2 r3 r5
    refine ⟨.ref a, hσ, a, C, dx, _, v, rfl, h1, ?_, ?_, hl, q v F H (.refl vr.sub) rv⟩
    · rw [hX.hK]; exact T
    · rw [hX.hK]; exact hn
theorem s_shop : ∀ K F (st : TlS) v1 v2 v3 vp v5, Rep K F st.shop v1 → Rep K F st.held v2 → Rep K F st.earned v3 → Rep K F st.paper v5 → ∃ v, (fsT v1 v2 v3 vp v5).lookup ("shop" : Str) = some v ∧ Rep K F st.shop v := fun _ _ _ _ _ _ _ _ r1 _ _ _ => ⟨_, look_shop, r1⟩
theorem s_held : ∀ K F (st : TlS) v1 v2 v3 vp v5, Rep K F st.shop v1 → Rep K F st.held v2 → Rep K F st.earned v3 → Rep K F st.paper v5 → ∃ v, (fsT v1 v2 v3 vp v5).lookup ("held" : Str) = some v ∧ Rep K F st.held v := fun _ _ _ _ _ _ _ _ _ r1 _ _ => ⟨_, look_held, r1⟩
theorem s_earned : ∀ K F (st : TlS) v1 v2 v3 vp v5, Rep K F st.shop v1 → Rep K F st.held v2 → Rep K F st.earned v3 → Rep K F st.paper v5 → ∃ v, (fsT v1 v2 v3 vp v5).lookup ("earned" : Str) = some v ∧ Rep K F st.earned v := fun _ _ _ _ _ _ _ _ _ _ r1 _ => ⟨_, look_earned, r1⟩
theorem s_paper : ∀ K F (st : TlS) v1 v2 v3 vp v5, Rep K F st.shop v1 → Rep K F st.held v2 → Rep K F st.earned v3 → Rep K F st.paper v5 → ∃ v, (fsT v1 v2 v3 vp v5).lookup ("paper" : Str) = some v ∧ Rep K F st.paper v := fun _ _ _ _ _ _ _ _ _ _ _ r1 => ⟨_, look_paper, r1⟩
theorem twoZ {X : Cx} {K : PySem.W.Frag} {d : D} {f : D → D → Option D} {σ : L2.St} {H F : Hp} {a : Addr} {Q : VK} {r : R2} (h : E2 f ma mb = some d) (vr : VR K ρ σ F H) (rp : RP K C a j st σ F H) (q : ∀ v F' H', Ext F H F' H' → Rep K F' d v → Q v H')
    (rule : ∀ F H d1 d2 d v1 v2 Q, Sub F H → Rep K F d1 v1 → Rep K F d2 v2 → f d1 d2 = some d → (∀ v F' H', Ext F H F' H' → Rep K F' d v → Q v H') → r v1 v2 H Q) : tOp r (tZr K C j st ρ ma) (tZr K C j st ρ mb) σ H Q := by
  obtain ⟨x, y, ex, ey, h⟩ := E2_some h
  refine ⟨F, a, x, ex, vr, rp, fun v1 F1 H1 x1 r1 => ⟨F1, a, y, ey, vr.ext x1, rp.ext x1, fun v2 F2 H2 x2 r2 => ?_⟩⟩
  exact rule F2 H2 x y d v1 v2 Q x2.sub (Rep.mono x2.froz _ _ r1) r2 h fun v F3 H3 x3 r3 => q v F3 H3 ((x1.trans x2).trans x3) r3
theorem z_op {op : Operator} {f : D → D → Option D} (ho : OpD G L f (binaryOp op)) (ha : ZE G L C j st ρ a ma) (hb : ZE G L C j st ρ b mb) : ZE G L C j st ρ (.BinOp a op b pos) (E2 f ma mb) := fun X hX => by
  obtain ⟨r, h1, h2⟩ := ho X hX
  exact wkE (pe_op h1 (ha X hX) (hb X hX)) fun σ H Q ⟨F, a, d, em, vr, rp, q⟩ => twoZ (X := X) em vr rp q h2
theorem z_cmp {op : CmpOp} {f : D → D → Option D} (ho : OpD G L f (compareOp op)) (ha : ZE G L C j st ρ a ma) (hb : ZE G L C j st ρ b mb) (hm : behindInMarks op b = false := by first | exact nomark _ | with_unfolding_all rfl) : ZE G L C j st ρ (.Compare a [op] [b] pos) (E2 f ma mb) := fun X hX => by
  obtain ⟨r, h1, h2⟩ := ho X hX
  exact wkE (pe_cmpR h1 (ha X hX) (hb X hX) hm) fun σ H Q ⟨F, a, d, em, vr, rp, q⟩ => twoZ (X := X) em vr rp q h2
theorem zt_cmp {op : CmpOp} {f : D → D → Option D} (ho : OpD G L f (compareOp op)) (ha : ZE G L C j st ρ a ma) (hb : ZE G L C j st ρ b mb) (hm : behindInMarks op b = false := by first | exact nomark _ | with_unfolding_all rfl) : ZT G L C j st ρ (.Compare a [op] [b] pos) ((E2 f ma mb).bind getB) := fun X hX => by
  obtain ⟨r, h1, h2⟩ := ho X hX
  refine wkT (pt_cmpR h1 (ha X hX) (hb X hX) hm) fun σ H Q ⟨F, a, d, em, vr, rp, q⟩ => ?_
  obtain ⟨y, ey, eb⟩ := Option.bind_eq_some_iff.mp em
  exact twoZ (X := X) ey vr rp (fun v F' H' x rr => ⟨d, rep_bl eb rr, q F' H' x⟩) h2
theorem zt_not (ha : ZT G L C j st ρ a na) : ZT G L C j st ρ (.UnaryOp .Not a pos) (notT na) := fun X hX =>
  wkT (pt_not (ha X hX)) fun σ H Q ⟨F, a, d, em, vr, rp, q⟩ => by
    obtain ⟨y, ey, eb⟩ := Option.bind_eq_some_iff.mp em
    cases eb
    exact ⟨F, a, y, ey, vr, rp, fun F' H' x => q F' H' x⟩
theorem zt_tru (h : ZE G L C j st ρ e m) (he : ∀ env whole, isTrue e env whole = (do let v ← whole; standAt e.pos; holding [v] (truthy v)) := by intro _ _; rfl) : ZT G L C j st ρ e (m.bind getB) := fun X hX =>
  wkT (pt_truth (h X hX) (he _)) fun σ H Q ⟨F, a, d, em, vr, rp, q⟩ => by
    obtain ⟨y, ey, eb⟩ := Option.bind_eq_some_iff.mp em
    refine ⟨F, a, y, ey, vr, rp, fun v F' H' x rr => ⟨d, ?_, q F' H' x⟩⟩
    have := rep_bl eb rr
    subst this
    rfl
theorem zw_or1 (ha : ZT G L C j st ρ a na) : ZW G L C j st ρ (.BoolOp .Or [a] pos) na := fun X hX => pw_or1 (ha X hX)
theorem wkWZ {X : Cx} {e : Expr} {t t' : TT} (h : PW X e t) (w : ∀ σ H Q, t' σ H Q → t σ H Q) : PW X e t' := wkW h w
theorem zw_or {b : Expr} (ha : ZT G L C j st ρ a na) (hb : ZW G L C j st ρ (.BoolOp .Or (b :: rest) pos) nb) : ZW G L C j st ρ (.BoolOp .Or (a :: b :: rest) pos) (orT na nb) := fun X hX =>
  wkW (pw_or (ha X hX) (hb X hX)) fun σ H Q ⟨F, a, d, em, vr, rp, q⟩ => by
    obtain ⟨y, ey, eb⟩ := Option.bind_eq_some_iff.mp em
    refine ⟨F, a, y, ey, vr, rp, fun F' H' x => ?_⟩
    cases y with
    | true => cases eb; exact iteT (q F' H' x)
    | false => exact iteF ⟨F', a, d, eb, vr.ext x, rp.ext x, fun F2 H2 x2 => q F2 H2 (x.trans x2)⟩
theorem zt_w (h : ZW G L C j st ρ e na) : ZT G L C j st ρ e na := fun X hX => (h X hX).pt
theorem z_one {op : BoolOp} (ha : ZE G L C j st ρ a ma) : ZE G L C j st ρ (.BoolOp op [a] pos) ma := fun X hX => pe_one (ha X hX)
theorem z_and {b : Expr} (ha : ZE G L C j st ρ a ma) (hb : ZE G L C j st ρ (.BoolOp .And (b :: rest) pos) mb) : ZE G L C j st ρ (.BoolOp .And (a :: b :: rest) pos) (andV ma mb) := fun X hX =>
  wkE (pe_and (ha X hX) (hb X hX)) fun σ H Q ⟨F, a, d, em, vr, rp, q⟩ => by
    obtain ⟨y, ey, eb⟩ := Option.bind_eq_some_iff.mp em
    obtain ⟨z, ez, ey⟩ := Option.bind_eq_some_iff.mp ey
    refine ⟨F, a, z, ez, vr, rp, fun v F' H' x r => ⟨y, rep_bl ey r, ?_⟩⟩
    cases y with
    | true => exact ⟨F', a, d, eb, vr.ext x, rp.ext x, fun v F2 H2 x2 => q v F2 H2 (x.trans x2)⟩
    | false => cases eb; exact q _ F' H' x rep_b
theorem za_nil : ZA G L C j st ρ [] (some []) := fun X hX => wkA pa_nil fun σ H Q ⟨F, a, ds, em, vr, rp, q⟩ => by cases em; exact q _ F H (.refl vr.sub) .nil
theorem za_cons (ha : ZE G L C j st ρ a ma) (hr : ZA G L C j st ρ es ms) (hs : ∀ env, starEach (a :: es) env = (false, eval a env) :: starEach es env := by intro _; rfl) : ZA G L C j st ρ (a :: es) (aC ma ms) := fun X hX =>
  wkA (pa_cons (ha X hX) (hr X hX) (hs _)) fun σ H Q ⟨F, a, ds, em, vr, rp, q⟩ => by
    obtain ⟨y, ey, em⟩ := Option.bind_eq_some_iff.mp em
    obtain ⟨ys, eys, em⟩ := Option.bind_eq_some_iff.mp em
    cases em
    exact ⟨F, a, y, ey, vr, rp, fun v F1 H1 x1 r1 => ⟨F1, a, ys, eys, vr.ext x1, rp.ext x1, fun vs F2 H2 x2 r2 => q _ _ _ (x1.trans x2) (.cons (Rep.mono x2.froz _ _ r1) r2)⟩⟩
/-- a plain def, arguments that read the till -/
theorem z_callD {g : List D → Option D} (F : FnD G k x n g) (ha : ZA G L C j st ρ (a :: es) ms) (hn : n = (a :: es).length := by rfl) (hk : k ≤ L.k := by decide) (hg : GlS L x := by rfl) (hdb : (x == ("__debug__" : Str)) = false := by decide)
    (hlen : ∀ ds, ms = some ds → ds.length = (a :: es).length) (he : ∀ env, starEach (a :: es) env = (false, eval a env) :: starEach es env := by intro _; rfl) (hpl : ∀ env, (backTo pos (starEach es env)).any (·.1) = false := by intro _; rfl) : ZE G L C j st ρ (.Call (.Name x p) (a :: es) [] pos) (ms.bind g) := fun X hX => by
  obtain ⟨f, fd, ps, hps, hF, hm, hkp, hb⟩ := F
  have hF' : FnOk X.prog X.w X.K X.mg X.base CX0 k f fd ps (spD G.K n g) := by rw [hX.hP, hX.hw, hX.hK, hX.hm, hX.hb]; exact hF
  refine wkE (pe_call hF' (hX.room.mono hk) (gl_of hX hg) (by rw [hX.hm]; exact hm) (by rw [hX.hK]; exact hkp) (by rw [hX.hK]; exact hb) .nil (pass0 (X := X)) (ha X hX) hdb (he _) (hpl _)) fun σ H Q ⟨F, a, d, em, vr, rp, q⟩ => ?_
  obtain ⟨ds, ed, em⟩ := Option.bind_eq_some_iff.mp em
  refine ⟨F, a, ds, ed, vr, rp, fun vs F1 H1 x1 r1 => ?_⟩
  show spD G.K n g (vs ++ []) H1 Q E0
  rw [List.append_nil]
  exact ⟨F1, ds, d, by rw [hn]; exact hlen ds ed, x1.sub, r1, em, fun v F2 H2 x2 r2 => q v F2 H2 (x1.trans x2) r2⟩
/-- a def of the text with the till for its first argument -/
theorem w_callT {g : TlS → List D → Option (D × Option TlS)} (F : FnZ G C k x n g) (ha : AOk G L ρ es ms) (hlen : ∀ ds, ms = some ds → ds.length = n) (hk : k ≤ L.k := by decide) (hg : GlS L x := by rfl) (hdb : (x == ("__debug__" : Str)) = false := by decide)
    (hj : L.N[j]? = some t := by rfl) (hv : Vis L.sc t := by first | exact Or.inl rfl | exact Or.inr (Or.inl rfl) | exact Or.inr (Or.inr rfl)) (hd : (t == ("__debug__" : Str)) = false := by decide) (hcd : (t == ("__classdict__" : Str)) = false := by decide)
    (he : ∀ env, starEach (.Name t p2 :: es) env = (false, eval (.Name t p2) env) :: starEach es env := by intro _; rfl) (hpl : ∀ env, (backTo pos (starEach es env)).any (·.1) = false := by intro _; rfl) :
    WE' G L C j st ρ (.Call (.Name x p) (.Name t p2 :: es) [] pos) (ms.bind (g st)) := fun X hX => by
  obtain ⟨f, fd, ps, hps, hF, hm, hkp, hb⟩ := F
  have hF' : FnOk X.prog X.w X.K X.mg X.base CX0 k f fd ps (spZ G.K C n g) := by rw [hX.hP, hX.hw, hX.hK, hX.hm, hX.hb]; exact hF
  refine wkE (pe_call hF' (hX.room.mono hk) (gl_of hX hg) (by rw [hX.hm]; exact hm) (by rw [hX.hK]; exact hkp) (by rw [hX.hK]; exact hb) .nil (pass0 (X := X)) (pa_cons (p_own hX j hj hv hd hcd) (ha X hX) (he _)) hdb (he _) (hpl _)) fun σ H Q ⟨F, a, b, r, em, vr, hσ, ti, q⟩ => ?_
  obtain ⟨ds, ed, em⟩ := Option.bind_eq_some_iff.mp em
  refine ⟨.ref a, hσ, F, ds, ed, vr, fun vs F1 H1 x1 r1 => ?_⟩
  show spZ G.K C n g ((.ref a :: vs) ++ []) H1 Q E0
  rw [List.append_nil]
  exact ⟨F1, a, b, st, vs, ds, r, rfl, hlen ds ed, x1.sub, ti.ext x1, r1, em, q.pre x1⟩
/-- a method -/
theorem w_meth {g : TlS → List D → Option (D × Option TlS)} {m0 : Str} (T : Cls G.K C) (F : MeZ G C k m0 n g) (hno : NoF m0) (ha : ZA G L C j st ρ (a :: es) ms) (hlen : ∀ ds, ms = some ds → ds.length = n) (hk : k ≤ L.k := by decide)
    (hj : L.N[j]? = some t := by rfl) (hv : Vis L.sc t := by first | exact Or.inl rfl | exact Or.inr (Or.inl rfl) | exact Or.inr (Or.inr rfl)) (hd : (t == ("__debug__" : Str)) = false := by decide) (hcd : (t == ("__classdict__" : Str)) = false := by decide)
    {pl : Env → Sem Bool} (he : ∀ env, starEach (a :: es) env = (false, eval a env) :: starEach es env := by intro _; rfl) (hpl : ∀ env, (backTo pos (starEach es env)).any (·.1) = false := by intro _; rfl)
    (ht : ∀ env, eval (.Call (.Attribute (.Name t p) m0 apos) (a :: es) [] pos) env = (do
      let ov ← eval (.Name t p) env
      standAt apos.atName
      let (f, first) ← holding [ov] (getMethod ov m0 (pl env))
      callWith pos f first (backTo pos (starEach (a :: es) env)) (backToKw pos (keywordEach [] env))) := by intro _; rfl) :
    WE' G L C j st ρ (.Call (.Attribute (.Name t p) m0 apos) (a :: es) [] pos) (ms.bind (g st)) := fun X hX => by
  obtain ⟨f, fd, ps, hps, hF, hm, hb⟩ := F
  have hF' : FnOk X.prog X.w X.K X.mg X.base CX0 k f fd ps (spZ G.K C n g) := by rw [hX.hP, hX.hw, hX.hK, hX.hm, hX.hb]; exact hF
  refine wkE (pe_meth (p_own hX j hj hv hd hcd) (C := C) (by rw [hX.hK]; exact T) (by rw [hX.hK]; exact hm) hF' (hX.room.mono hk) (by rw [hX.hK]; exact hb) .nil (pass0 (X := X)) (ha X hX) (he _) (hpl _) (ht _)) fun σ H Q ⟨F, a, b, r, em, vr, hσ, ti, q⟩ => ?_
  obtain ⟨ds, ed, em⟩ := Option.bind_eq_some_iff.mp em
  have ti' := ti
  obtain ⟨dx, v1, v2, v3, vs, v5, h1, _⟩ := ti
  refine ⟨.ref a, hσ, a, dx, _, rfl, h1, hno _ _ _ _ _, F, a, ds, ed, vr, ⟨hσ, b, ti'⟩, fun vs F1 H1 x1 r1 => ?_⟩
  show spZ G.K C n g (.ref a :: (vs ++ [])) H1 Q E0
  rw [List.append_nil]
  exact ⟨F1, a, b, st, vs, ds, r, rfl, hlen ds ed, x1.sub, ti'.ext x1, r1, em, q.pre x1⟩
theorem w_meth0 {g : TlS → List D → Option (D × Option TlS)} {m0 : Str} (T : Cls G.K C) (F : MeZ G C k m0 0 g) (hno : NoF m0) (hk : k ≤ L.k := by decide)
    (hj : L.N[j]? = some t := by rfl) (hv : Vis L.sc t := by first | exact Or.inl rfl | exact Or.inr (Or.inl rfl) | exact Or.inr (Or.inr rfl)) (hd : (t == ("__debug__" : Str)) = false := by decide) (hcd : (t == ("__classdict__" : Str)) = false := by decide)
    {pl : Env → Sem Bool} (ht : ∀ env, eval (.Call (.Attribute (.Name t p) m0 apos) [] [] pos) env = (do
      let ov ← eval (.Name t p) env
      standAt apos.atName
      let (f, first) ← holding [ov] (getMethod ov m0 (pl env))
      callWith pos f first (backTo pos (starEach [] env)) (backToKw pos (keywordEach [] env))) := by intro _; rfl) :
    WE' G L C j st ρ (.Call (.Attribute (.Name t p) m0 apos) [] [] pos) (g st []) := fun X hX => by
  obtain ⟨f, fd, ps, hps, hF, hm, hb⟩ := F
  have hF' : FnOk X.prog X.w X.K X.mg X.base CX0 k f fd ps (spZ G.K C 0 g) := by rw [hX.hP, hX.hw, hX.hK, hX.hm, hX.hb]; exact hF
  refine wkE (pe_meth0 (p_own hX j hj hv hd hcd) (C := C) (by rw [hX.hK]; exact T) (by rw [hX.hK]; exact hm) hF' (hX.room.mono hk) (by rw [hX.hK]; exact hb) .nil (pass0 (X := X)) (ht _)) fun σ H Q ⟨F, a, b, r, em, vr, hσ, ti, q⟩ => ?_
  have ti' := ti
  obtain ⟨dx, v1, v2, v3, vs, v5, h1, _⟩ := ti
  exact ⟨.ref a, hσ, a, dx, _, rfl, h1, hno _ _ _ _ _, F, a, b, st, [], [], r, rfl, rfl, vr.sub, ti', .nil, em, q⟩
/-- what leaves the till as it is -/
theorem z_calm {m : Option (D × Option TlS)} (h : WE' G L C j st ρ e m) : ZE G L C j st ρ e (m.bind calm1) := fun X hX => wkE (h X hX) fun σ H Q ⟨F, a, d, em, vr, ⟨hσ, b, ti⟩, q⟩ => by
  obtain ⟨⟨d', o⟩, er, em⟩ := Option.bind_eq_some_iff.mp em
  cases o with
  | some st' => cases em
  | none => cases em; exact ⟨F, a, b, _, er, vr, hσ, ti, q⟩
end
end DL
set_option autoImplicit false
set_option maxRecDepth 100000
set_option maxHeartbeats 4000000
/-! blocks beside a till -/
namespace DL
open PySem PySem.Spec PySem.SeqAt PyProof.Rows L2
/-- a second slot that stays as it is -/
def fxO (ox : Option (Nat × Addr)) (σ : L2.St) : Prop := match ox with
  | none => True
  | some p => σ[p.1]? = some (some (.ref p.2))
def offO (ox : Option (Nat × Addr)) (i : Nat) : Bool := match ox with
  | none => true
  | some p => decide (i ≠ p.1)
def offJ (ox : Option (Nat × Addr)) (j i : Nat) : Bool := decide (i ≠ j) && offO ox i
theorem offJ_ne {ox : Option (Nat × Addr)} {j i : Nat} (h : offJ ox j i = true) : i ≠ j := by
  unfold offJ at h
  rw [Bool.and_eq_true] at h
  exact of_decide_eq_true h.1
theorem fxO_set {ox : Option (Nat × Addr)} {j i : Nat} {σ : L2.St} {x : Option V} (h : offJ ox j i = true) (f : fxO ox σ) : fxO ox (σ.set i x) := by
  unfold offJ at h
  rw [Bool.and_eq_true] at h
  cases ox with
  | none => exact trivial
  | some p =>
    show (σ.set i x)[p.1]? = _
    rw [List.getElem?_set_ne (of_decide_eq_true h.2)]
    exact f
/-- the till in slot j stands at a in state st (z: it is no part of the base) -/
def SZ (K : PySem.W.Frag) (C : Addr) (z : Bool) (a b0 : Addr) (j : Nat) (ox : Option (Nat × Addr)) (st : TlS) (B : Hp) (σ : L2.St) (F H : Hp) : Prop := (σ[j]? = some (some (.ref a)) ∧ fxO ox σ) ∧ (F b0 = none ∧ ∃ o, H b0 = some (.lst o)) ∧ ∃ b, TillAt K C F H a b st ∧ (z = true → B a = none ∧ B b = none)
section
variable {K : PySem.W.Frag} {C a b b0 : Addr} {F H F' H' F1 H1 B F0 : Hp} {st st' st1 : TlS} {σ : L2.St} {ρ : List Sl} {z : Bool} {j : Nat} {ox : Option (Nat × Addr)}
theorem SZ.go (s : SZ K C z a b0 j ox st B σ F H) (e : Ext F H F' H') : SZ K C z a b0 j ox st B σ F' H' := by
  obtain ⟨h1, ⟨hf, o, ho⟩, b, t, hz⟩ := s
  exact ⟨h1, ⟨e.stay hf ho (fun vs z => nomatch z), o, e.heap _ _ ho⟩, b, t.ext e, hz⟩
theorem SZ.set (s : SZ K C z a b0 j ox st B σ F H) {i : Nat} {x : Option V} (h : offJ ox j i = true) : SZ K C z a b0 j ox st B (σ.set i x) F H := by
  obtain ⟨h1, h2⟩ := s
  exact ⟨⟨by rw [List.getElem?_set_ne (offJ_ne h)]; exact h1.1, fxO_set h h1.2⟩, h2⟩
theorem SZ.rp (s : SZ K C z a b0 j ox st B σ F H) : RP K C a j st σ F H := ⟨s.1.1, let ⟨b, t, _⟩ := s.2.2; ⟨b, t⟩⟩
theorem SZ.setMany : ∀ (as : List (Nat × D)) (vs : List V) {σ : L2.St}, SZ K C z a b0 j ox st B σ F H → (∀ i ∈ as.map (·.1), offJ ox j i = true) → vs.length = as.length → SZ K C z a b0 j ox st B (DL.setMany σ (as.map (·.1)) vs) F H
  | [], vs, σ, s, _, h => by
    have : vs = [] := List.eq_nil_of_length_eq_zero (by simpa using h)
    subst this
    exact s
  | (i, d) :: as, [], σ, s, _, h => by simp at h
  | (i, d) :: as, v :: vs, σ, s, hi, h => SZ.setMany as vs (s.set (hi i (by simp))) (fun q hq => hi q (by simp at hq ⊢; exact .inr hq)) (by simpa using h)
theorem SZ.base (s : SZ K C z a b0 j ox st B σ F H) {B' : Hp} (h : ∀ p, F p = none → B p = none → B' p = none) : SZ K C z a b0 j ox st B' σ F H := by
  obtain ⟨h1, h2, b, t, hz⟩ := s
  refine ⟨h1, h2, b, t, fun e => ?_⟩
  obtain ⟨dx, v1, v2, v3, vs, v5, g1, g2, n1, n2, _⟩ := t
  exact ⟨h a n1 (hz e).1, h b n2 (hz e).2⟩
def noOwn (ρ : List Sl) : Prop := ∀ i d, nthS ρ i ≠ .own d
theorem ER.chg (hρ : noOwn ρ) (r : ER K B F0 ρ σ F H) (c : Chg a b F H F' H') (ha : B a = none) (hb : B b = none) : ER K B F0 ρ σ F' H' := by
  refine ⟨⟨c.sub, r.vr.len, fun i d h => ?_, fun i d h => absurd h (hρ i d)⟩, ⟨fun p o h => ?_, c.sub, r.ret.ext.trans c.froz, fun x o h n => ?_⟩, fun i d p h => absurd h (hρ i d), fun i j d e p h => absurd h (hρ i d)⟩
  · obtain ⟨v, h1, h2⟩ := r.vr.vals i d h
    exact ⟨v, h1, Rep.mono c.froz _ _ h2⟩
  · exact c.heap p o (fun e => by subst e; rw [ha] at h; cases h) (fun e => by subst e; rw [hb] at h; cases h) (r.ret.keep _ _ h)
  · cases q : F x with
    | some u =>
      have e := c.froz x u q
      rw [h] at e
      cases e
      exact r.ret.fresh x _ q n
    | none => exact (c.new x o h q).imp r.ret.keep.free id
theorem Chg.live {b : Addr} (c : Chg a b F H F' H') (t : TillAt K C F H a b st) (h0 : F b0 = none ∧ ∃ o, H b0 = some (.lst o)) : F' b0 = none ∧ ∃ o, H' b0 = some (.lst o) := by
  obtain ⟨hf, vs, h⟩ := h0
  have h1 : ∃ o, H' b0 = some (.lst o) := by
    by_cases e : b0 = b
    · subst e; exact c.lb vs h
    · refine ⟨vs, c.heap _ _ (fun e => ?_) e h⟩
      subst e
      obtain ⟨dx, v1, v2, v3, vs, v5, g1, _⟩ := t
      rw [g1] at h; cases h
  refine ⟨?_, h1⟩
  obtain ⟨ws, h1⟩ := h1
  cases q : F' b0 with
  | none => rfl
  | some o =>
    rcases c.new _ _ q hf with z | ⟨us, rfl⟩
    · rw [h] at z; cases z
    · have := c.sub.tup q
      rw [h1] at this; cases this
theorem post_of (hρ : noOwn ρ) (er : ER K B F0 ρ σ F H) {b : Addr} (hσ : σ[j]? = some (some (.ref a)) ∧ fxO ox σ) (h0 : F b0 = none ∧ ∃ o, H b0 = some (.lst o)) (t : TillAt K C F H a b st) (ha : B a = none) (hb : B b = none) {d : D} {o : Option TlS} {Q : VK}
    (q : ∀ v F' H', ER K B F0 ρ σ F' H' → SZ K C true a b0 j ox (o.getD st) B σ F' H' → Rep K F' d v → Q v H') : PostZ K C a b F H (d, o) Q := by
  cases o with
  | none => exact fun v F' H' x rv => q v F' H' (er.go x) ⟨hσ, let ⟨hf, o, h⟩ := h0; ⟨x.stay hf h (fun vs z => nomatch z), o, x.heap _ _ h⟩, b, t.ext x, fun _ => ⟨ha, hb⟩⟩ rv
  | some st' => exact fun v F' H' b' c t' hb' rv => q v F' H' (er.chg hρ c ha hb) ⟨hσ, by
      exact c.live t h0, b', t', fun _ => ⟨ha, by
      rcases hb' with rfl | hn
      · exact hb
      · exact er.ret.keep.free hn⟩⟩ rv
end
def tSZ {R : Type} (K : PySem.W.Frag) (C : Addr) (z : Bool) (a b0 : Addr) (j : Nat) (ox : Option (Nat × Addr)) (ρ : List Sl) (st : TlS) (k : KS R) (M : Option R) : TS := fun D σ H => ∃ B F0 F r, M = some r ∧ ER K B F0 ρ σ F H ∧ SZ K C z a b0 j ox st B σ F H ∧ k r B F0 D
def BZ {R : Type} (G : GX) (L : LX) (C : Addr) (z : Bool) (a b0 : Addr) (j : Nat) (ox : Option (Nat × Addr)) (ρ : List Sl) (st : TlS) (sts : List Stmt) (k : KS R) (M : Option R) : Prop := ∀ X, XOk G L X → PSs X sts (tSZ G.K C z a b0 j ox ρ st k M)
/-- what is walked, read off the till -/
def tZI (K : PySem.W.Frag) (C : Addr) (j : Nat) (st : TlS) (ρ : List Sl) (m : Option (List D)) : TI := fun σ H R => ∃ F a ds, m = some ds ∧ VR K ρ σ F H ∧ RP K C a j st σ F H ∧ ∀ J F' H', Ext F H F' H' → WalkD K J F' H' ds → R J H'
def IZ (G : GX) (L : LX) (C : Addr) (j : Nat) (st : TlS) (ρ : List Sl) (tg iter : Expr) (m : Option (List D)) : Prop := ∀ X, XOk G L X → PI X tg iter (tZI G.K C j st ρ m)
/-- a loop's body beside the till -/
def kZL {S : Type} (K : PySem.W.Frag) (C : Addr) (z : Bool) (a b0 : Addr) (j : Nat) (ox : Option (Nat × Addr)) (v : S → List Sl) (w : S → TlS) : KS (Lp S) := fun r B F0 E => match r with
  | .go s => ∀ σ F H, ER K B F0 (v s) σ F H → SZ K C z a b0 j ox (w s) B σ F H → E.nx σ H
  | .br _ => True
  | .rt d => kD K d B F0 E
/-- an answer and the till's state behind a def -/
def kT (K : PySem.W.Frag) (C a b0 : Addr) : KS (D × TlS) := fun r B F0 E => (∀ v F H b, RetOk B F0 F H → TillAt K C F H a b r.2 → B b = none → (F b0 = none ∧ ∃ o, H b0 = some (.lst o)) → Rep K F r.1 v → E.rt v H) ∧
  (r.1 = .non → ∀ σ F H b, RetOk B F0 F H → TillAt K C F H a b r.2 → B b = none → (F b0 = none ∧ ∃ o, H b0 = some (.lst o)) → E.nx σ H)
/-- .. within a branch -/
def kTR (K : PySem.W.Frag) (C a b0 : Addr) : KS (D × TlS) := fun r B F0 E => ∀ v F H b, RetOk B F0 F H → TillAt K C F H a b r.2 → B b = none → (F b0 = none ∧ ∃ o, H b0 = some (.lst o)) → Rep K F r.1 v → E.rt v H
section
variable {R S : Type} {G : GX} {L : LX} {C a b0 : Addr} {z : Bool} {j : Nat} {ox : Option (Nat × Addr)} {st : TlS} {ρ : List Sl} {sts rest A body : List Stmt} {k kA : KS R} {e c tg iter : Expr} {m : Option D} {nc : Option Bool} {M : D → Option R} {pos pos' : Pos} {x : Str} {mw : Option (D × Option TlS)}
theorem bz_set (i : Nat) (h : ZE G L C j st ρ e m) (hr : ∀ d, BZ G L C z a b0 j ox (setS ρ i (.val d)) st rest k (M d)) (hij : offJ ox j i = true := by rfl) (hi : L.N[i]? = some x := by rfl) (hx : Loc L.sc x := by first | exact Or.inl rfl | exact Or.inr rfl)
    (hf : L.ow x = true ∨ L.sc.names.lookup x = some .local := by first | exact Or.inl rfl | exact Or.inr rfl) (hs : ∀ env, swapsWith e (some (.Name x pos')) pos.line env = pure false := by intro _; rfl) : BZ G L C z a b0 j ox ρ st (.Assign [.Name x pos'] e pos :: rest) k (m.bind M) := fun X hX =>
  wkSs (seqU (ps_set (i := i) (by rw [hX.hN]; exact hX.nd) (by rw [hX.hN]; exact hi) (by rw [hX.hsc]; exact hx) (h X hX) (hs _) (by rw [hX.hfn, hX.hsc]; exact hf)) fun d => hr d X hX) fun D σ H ⟨B, F0, F, r, em, er, sz, q⟩ => by
    obtain ⟨d, ed, em⟩ := Option.bind_eq_some_iff.mp em
    exact ⟨F, a, d, ed, er.vr, sz.rp, fun v F' H' x rv => ⟨d, B, F0, F', r, em, (er.go x).set rv, (sz.go x).set hij, q⟩⟩
theorem bz_setS (i : Nat) (h : ZE G L C j st ρ e m) (hr : ∀ d, BZ G L C z a b0 j ox (setS ρ i (.val d)) st rest k (M d)) (hs : ∀ env : Env, env.scope = L.sc → swapsWith e (some (.Name x pos')) pos.line env = pure false) (hij : offJ ox j i = true := by rfl) (hi : L.N[i]? = some x := by rfl) (hx : Loc L.sc x := by first | exact Or.inl rfl | exact Or.inr rfl)
    (hf : L.ow x = true ∨ L.sc.names.lookup x = some .local := by first | exact Or.inl rfl | exact Or.inr rfl) : BZ G L C z a b0 j ox ρ st (.Assign [.Name x pos'] e pos :: rest) k (m.bind M) := fun X hX =>
  wkSs (seqU (ps_set (i := i) (by rw [hX.hN]; exact hX.nd) (by rw [hX.hN]; exact hi) (by rw [hX.hsc]; exact hx) (h X hX) (hs _ hX.hsc) (by rw [hX.hfn, hX.hsc]; exact hf)) fun d => hr d X hX) fun D σ H ⟨B, F0, F, r, em, er, sz, q⟩ => by
    obtain ⟨d, ed, em⟩ := Option.bind_eq_some_iff.mp em
    exact ⟨F, a, d, ed, er.vr, sz.rp, fun v F' H' x rv => ⟨d, B, F0, F', r, em, (er.go x).set rv, (sz.go x).set hij, q⟩⟩
theorem bz_if (hc : ZT G L C j st ρ c nc) {MA MB : Option R} (hA : BZ G L C z a b0 j ox ρ st A kA MA) (hB : BZ G L C z a b0 j ox ρ st rest k MB) (hk : ∀ r B F0 D nx, k r B F0 D → kA r B F0 { D with nx := nx }) : BZ G L C z a b0 j ox ρ st (.If c A [] pos :: rest) k (iteO nc MA MB) := fun X hX =>
  wkSs (pss_cons (ps_if (hc X hX) (hA X hX) pss_nil) (hB X hX)) fun D σ H ⟨B, F0, F, r, em, er, sz, q⟩ => by
    obtain ⟨b, eb, em⟩ := Option.bind_eq_some_iff.mp em
    refine ⟨F, a, b, eb, er.vr, sz.rp, fun F' H' x => ?_⟩
    cases b with
    | true => exact ⟨B, F0, F', r, em, er.go x, sz.go x, hk r B F0 D _ q⟩
    | false => exact ⟨B, F0, F', r, em, er.go x, sz.go x, q⟩
theorem bz_ret {f : D → R} (hk : IsRt G.K k f) (h : ZE G L C j st ρ e m) : BZ G L C z a b0 j ox ρ st [.Return (some e) pos] k (m.map f) := fun X hX =>
  wkSs (pss_one (ps_ret (h X hX))) fun D σ H ⟨B, F0, F, r, em, er, sz, q⟩ => by
    obtain ⟨d, ed, rfl⟩ := Option.map_eq_some_iff.mp em
    exact ⟨F, a, d, ed, er.vr, sz.rp, fun v F' H' x rv => hk.rt d B F0 D q v F' H' (er.ret.go x) rv⟩
theorem bz_retD {k' : KS D} (hk : IsRt G.K k' id) (h : ZE G L C j st ρ e m) : BZ G L C z a b0 j ox ρ st [.Return (some e) pos] k' m := fun X hX => by have := bz_ret (z := z) (a := a) (b0 := b0) (ox := ox) hk h (pos := pos) X hX; rwa [Option.map_id] at this
theorem bz_retT {k' : KS (D × TlS)} (hk : ∀ r B F0 E, k' r B F0 E → kTR G.K C a b0 r B F0 E) (h : ZE G L C j st ρ e m) : BZ G L C true a b0 j ox ρ st [.Return (some e) pos] k' (m.map fun d => (d, st)) := fun X hX =>
  wkSs (pss_one (ps_ret (h X hX))) fun D σ H ⟨B, F0, F, r, em, er, sz, q⟩ => by
    obtain ⟨d, ed, rfl⟩ := Option.map_eq_some_iff.mp em
    refine ⟨F, a, d, ed, er.vr, sz.rp, fun v F' H' x rv => ?_⟩
    obtain ⟨_, h0, b, t, hz⟩ := sz.go x
    exact hk _ _ _ _ q v F' H' b (er.ret.go x) t (hz rfl).2 h0 rv
theorem kT_R {K : PySem.W.Frag} : ∀ r B F0 E, kT K C a b0 r B F0 E → kTR K C a b0 r B F0 E := fun _ _ _ _ h => h.1
theorem kT_D {K : PySem.W.Frag} : ∀ r B F0 D nx, kT K C a b0 r B F0 D → kTR K C a b0 r B F0 { D with nx := nx } := fun _ _ _ _ _ h => h.1
theorem bz_nilT : BZ G L C true a b0 j ox ρ st [] (kT G.K C a b0) (some (.non, st)) := fun X hX => wkSs pss_nil fun D σ H ⟨B, F0, F, r, e, er, sz, q⟩ => by
  cases e
  obtain ⟨_, h0, b, t, hz⟩ := sz
  exact q.2 rfl σ F H b er.ret t (hz rfl).2 h0
/-- x = e, e may change the till -/
theorem bz_setW (i : Nat) (h : WE' G L C j st ρ e mw) (hρ : noOwn ρ) {Mw : D → TlS → Option R} (hr : ∀ d st', BZ G L C true a b0 j ox (setS ρ i (.val d)) st' rest k (Mw d st')) (hij : offJ ox j i = true := by rfl) (hi : L.N[i]? = some x := by rfl) (hx : Loc L.sc x := by first | exact Or.inl rfl | exact Or.inr rfl)
    (hf : L.ow x = true ∨ L.sc.names.lookup x = some .local := by first | exact Or.inl rfl | exact Or.inr rfl) (hs : ∀ env, swapsWith e (some (.Name x pos')) pos.line env = pure false := by intro _; rfl) : BZ G L C true a b0 j ox ρ st (.Assign [.Name x pos'] e pos :: rest) k (mw.bind fun r => Mw r.1 (r.2.getD st)) := fun X hX =>
  wkSs (seqU (ι := D × TlS) (ps_set (i := i) (by rw [hX.hN]; exact hX.nd) (by rw [hX.hN]; exact hi) (by rw [hX.hsc]; exact hx) (h X hX) (hs _) (by rw [hX.hfn, hX.hsc]; exact hf)) fun d => hr d.1 d.2 X hX) fun D σ H ⟨B, F0, F, r, em, er, sz, q⟩ => by
    obtain ⟨⟨d, o⟩, ed, em⟩ := Option.bind_eq_some_iff.mp em
    obtain ⟨hσ, h0, b, t, hz⟩ := sz
    exact ⟨F, a, b, _, ed, er.vr, hσ.1, t, post_of hρ er hσ h0 t (hz rfl).1 (hz rfl).2 fun v F' H' er' sz' rv => ⟨(d, o.getD st), B, F0, F', r, em, er'.set rv, sz'.set hij, q⟩⟩
/-- e alone -/
theorem bz_exprW (h : WE' G L C j st ρ e mw) (hρ : noOwn ρ) {Mw : TlS → Option R} (hr : ∀ st', BZ G L C true a b0 j ox ρ st' rest k (Mw st')) (hs : ∀ env, swapsWith e none pos.line env = pure false := by intro _; rfl) : BZ G L C true a b0 j ox ρ st (.Expr e pos :: rest) k (mw.bind fun r => Mw (r.2.getD st)) := fun X hX =>
  wkSs (seqU (ι := TlS) (ps_expr (h X hX) (hs _)) fun d => hr d X hX) fun D σ H ⟨B, F0, F, r, em, er, sz, q⟩ => by
    obtain ⟨⟨d, o⟩, ed, em⟩ := Option.bind_eq_some_iff.mp em
    obtain ⟨hσ, h0, b, t, hz⟩ := sz
    exact ⟨F, a, b, _, ed, er.vr, hσ.1, t, post_of hρ er hσ h0 t (hz rfl).1 (hz rfl).2 fun v F' H' er' sz' rv => ⟨o.getD st, B, F0, F', r, em, er', sz', q⟩⟩
/-- a target of any form takes what may change the till -/
theorem bz_asgW {g : TGD} (h : WE' G L C j st ρ e mw) (hρ : noOwn ρ) (hg : GOk G L tg g) {Mw : D → TlS → Option R} (bad : ∀ d st', g d = none → Mw d st' = none) (hgj : ∀ d as, g d = some as → ∀ i ∈ as.map (·.1), offJ ox j i = true) (hr : ∀ d as st', g d = some as → BZ G L C true a b0 j ox (setAll ρ as) st' rest k (Mw d st'))
    (hs : ∀ env : Env, env.scope = L.sc → swapsWithSole [tg] e pos.line env = pure false := by intro _ _; rfl) (hw : ∀ env : Env, env.scope = L.sc → swappedStores [tg] e env = pure none := by intro _ _; rfl) (h1 : ∀ env, (assignEach [tg] env).map (·.2) = [assign tg env] := by intro _; rfl) :
    BZ G L C true a b0 j ox ρ st (.Assign [tg] e pos :: rest) k (mw.bind fun r => Mw r.1 (r.2.getD st)) := fun X hX =>
  wkSs (seqU (ι := { p : (D × TlS) × List (Nat × D) // g p.1.1 = some p.2 }) (ps_asg (h X hX) (hg X hX) (hs _ hX.hsc) (hw _ hX.hsc) (h1 _)) fun p => hr p.1.1.1 p.1.2 p.1.1.2 p.2 X hX) fun D σ H ⟨B, F0, F, r, em, er, sz, q⟩ => by
    obtain ⟨⟨d, o⟩, ed, em⟩ := Option.bind_eq_some_iff.mp em
    obtain ⟨hσ, h0, b, t, hz⟩ := sz
    refine ⟨F, a, b, _, ed, er.vr, hσ.1, t, post_of hρ er hσ h0 t (hz rfl).1 (hz rfl).2 fun v F' H' er' sz' rv => ?_⟩
    cases eg : g d with
    | none => rw [bad d _ eg] at em; cases em
    | some as => exact ⟨F', d, as, er'.vr.sub, rv, eg, fun ws hw => ⟨⟨((d, o.getD st), as), eg⟩, B, F0, F', r, em, er'.setMany as ws hw, sz'.setMany as ws (hgj d as eg) (by have := hw.len; simpa using this.symm), q⟩⟩
/-- the same for a value that leaves the till as it is -/
theorem bz_asgP {g : TGD} (h : ZE G L C j st ρ e m) (hg : GOk G L tg g) (bad : ∀ d, g d = none → M d = none) (hgj : ∀ d as, g d = some as → ∀ i ∈ as.map (·.1), offJ ox j i = true) (hr : ∀ d as, g d = some as → BZ G L C z a b0 j ox (setAll ρ as) st rest k (M d))
    (hs : ∀ env : Env, env.scope = L.sc → swapsWithSole [tg] e pos.line env = pure false := by intro _ _; rfl) (hw : ∀ env : Env, env.scope = L.sc → swappedStores [tg] e env = pure none := by intro _ _; rfl) (h1 : ∀ env, (assignEach [tg] env).map (·.2) = [assign tg env] := by intro _; rfl) :
    BZ G L C z a b0 j ox ρ st (.Assign [tg] e pos :: rest) k (m.bind M) := fun X hX =>
  wkSs (seqU (ι := { p : D × List (Nat × D) // g p.1 = some p.2 }) (ps_asg (h X hX) (hg X hX) (hs _ hX.hsc) (hw _ hX.hsc) (h1 _)) fun p => hr p.1.1 p.1.2 p.2 X hX) fun D σ H ⟨B, F0, F, r, em, er, sz, q⟩ => by
    obtain ⟨d, ed, em⟩ := Option.bind_eq_some_iff.mp em
    refine ⟨F, a, d, ed, er.vr, sz.rp, fun v F' H' y rv => ?_⟩
    cases eg : g d with
    | none => rw [bad d eg] at em; cases em
    | some as => exact ⟨F', d, as, y.sub, rv, eg, fun ws hw => ⟨⟨(d, as), eg⟩, B, F0, F', r, em, (er.go y).setMany as ws hw, (sz.go y).setMany as ws (hgj d as eg) (by have := hw.len; simpa using this.symm), q⟩⟩
theorem BZ.to {M' M'' : Option R} (h : BZ G L C z a b0 j ox ρ st sts k M') (q : M' = M'') : BZ G L C z a b0 j ox ρ st sts k M'' := q ▸ h
/-- an if that leaves the loop's body, and its end -/
theorem bz_nilL {v : S → List Sl} {w : S → TlS} {s : S} (h : leS (v s) ρ) (hw : w s = st) : BZ G L C z a b0 j ox ρ st [] (kZL G.K C z a b0 j ox v w) (some (.go s)) := fun X hX => wkSs pss_nil fun D σ H ⟨B, F0, F, r, e, er, sz, q⟩ => by cases e; exact q σ F H (er.le h) (by rw [hw]; exact sz)
theorem kZL_D {v : S → List Sl} {w : S → TlS} {K : PySem.W.Frag} : IsRt K (kZL K C z a b0 j ox v w) .rt := ⟨fun _ _ _ _ h => h⟩
theorem kZL_C {v : S → List Sl} {w : S → TlS} {K : PySem.W.Frag} (d : D) : ∀ B F0 D nx, kZL K C z a b0 j ox v w (.rt d) B F0 D → kZL K C z a b0 j ox v w (.rt d) B F0 { D with nx := nx } := fun _ _ _ _ h => h
/-- if c: return e, in a loop's body -/
theorem bz_ifL {v : S → List Sl} {w : S → TlS} {p : Pos} (hc : ZT G L C j st ρ c nc) (hA : ZE G L C j st ρ e m) {MB : Option (Lp S)} (hB : BZ G L C z a b0 j ox ρ st rest (kZL G.K C z a b0 j ox v w) MB) : BZ G L C z a b0 j ox ρ st (.If c [.Return (some e) p] [] pos :: rest) (kZL G.K C z a b0 j ox v w) (iteO nc (m.map .rt) MB) := fun X hX =>
  wkSs (pss_cons (ps_if (hc X hX) (pss_one (ps_ret (hA X hX))) pss_nil) (hB X hX)) fun D σ H ⟨B, F0, F, r, em, er, sz, q⟩ => by
    obtain ⟨b, eb, em⟩ := Option.bind_eq_some_iff.mp em
    refine ⟨F, a, b, eb, er.vr, sz.rp, fun F' H' x => ?_⟩
    cases b with
    | true =>
      obtain ⟨d, ed, rfl⟩ := Option.map_eq_some_iff.mp (show m.map Lp.rt = some r from em)
      exact ⟨F', a, d, ed, (er.go x).vr, (sz.go x).rp, fun v F2 H2 x2 rv => q v F2 H2 (er.ret.go (x.trans x2)) rv⟩
    | false => exact ⟨B, F0, F', r, em, er.go x, sz.go x, q⟩
theorem iz_of {ms : Option (List D)} (h : IOk G L ρ tg iter ms) : IZ G L C j st ρ tg iter ms := fun X hX => wkI (h X hX) fun σ H R ⟨F, a, ds, em, vr, rp, q⟩ => ⟨F, ds, em, vr, q⟩
theorem iz_seq (h : ZE G L C j st ρ e m) : IZ G L C j st ρ tg e (m.bind seqD) := fun X hX => wkI (PI.or (pi_list (h X hX)) (pi_tup (h X hX))) fun σ H R ⟨F, a, ds, em, vr, rp, q⟩ => by
  obtain ⟨d, ed, es⟩ := Option.bind_eq_some_iff.mp em
  unfold seqD at es
  split at es
  · cases es
    refine .inl ⟨F, a, _, ed, vr, rp, fun v F' H' x r => ?_⟩
    unfold Rep at r
    obtain ⟨p, vs, rfl, h1, q1⟩ := r
    rw [hX.hK]
    exact ⟨p, rfl, ⟨vs, lst_sq h1 x.sub⟩, q _ F' H' x (walkD_list h1 q1)⟩
  · cases es
    refine .inr ⟨F, a, _, ed, vr, rp, fun v F' H' x r => ?_⟩
    unfold Rep at r
    obtain ⟨p, vs, rfl, h1, q1⟩ := r
    rw [hX.hK]
    exact ⟨p, rfl, ⟨vs, tup_sq h1 x.sub⟩, q _ F' H' x (walkD_tup h1 q1)⟩
  · cases es
open Classical in
/-- a base that holds all that is frozen, and no more -/
theorem ER.hold2 {K : PySem.W.Frag} {B F0 F H : Hp} {σ : L2.St} (er : ER K B F0 ρ σ F H) : ∃ B', ER K B' F ρ σ F H ∧ On F H B' ∧ (∀ p, F p = none → B p = none → B' p = none) ∧ (∀ p, B' p = none → B p = none) ∧ ∀ F' H', RetOk B' F F' H' → RetOk B F0 F' H' := by
  have hB : ∀ a o, B a = some o → H a = some o := er.ret.keep
  have h1 : ∀ p : Addr, (if F p ≠ none then H p else B p) = none → B p = none := fun p h => by
    cases e : B p with
    | none => rfl
    | some o =>
      split at h
      · rw [hB p o e] at h; cases h
      · rw [e] at h; cases h
  refine ⟨fun a => if F a ≠ none then H a else B a, ⟨er.vr, ⟨fun a o e => ?_, er.ret.sub, Same.refl _, fun a o e n => by rw [e] at n; cases n⟩, fun i d p h1 h2 => ?_, er.dist⟩, fun a o e => ?_, fun p n1 n2 => ?_, h1, fun F' H' r => ⟨fun a o e => ?_, r.sub, er.ret.ext.trans r.ext, fun a o e n => ?_⟩⟩
  · split at e
    · exact e
    · exact hB a o e
  · obtain ⟨q, u, a1, a2, a3, a4⟩ := er.vr.owns i d h1
    rw [a1] at h2; cases h2
    show (if F _ ≠ none then H _ else B _) = none
    rw [if_neg (by simp [a4])]
    exact er.ownB i d _ h1 a1
  · show (if F a ≠ none then H a else B a) = H a
    rw [if_pos (by rw [e]; simp)]
  · show (if F p ≠ none then H p else B p) = none
    rw [if_neg (by simp [n1])]; exact n2
  · apply r.keep
    show (if F a ≠ none then H a else B a) = some o
    split
    · exact hB a o e
    · exact e
  · cases e2 : F a with
    | none => exact (r.fresh a o e e2).imp (h1 a) id
    | some u =>
      have e3 := r.ext a u e2
      rw [e] at e3
      cases e3
      exact er.ret.fresh a _ e2 n
theorem bz_forR {v : S → List Sl} {w : S → TlS} {g : TGD} {mi : Option (List D)} {s0 : S} {Bd : S → D → Option (Lp S)} {f : D → R} {M : S → Option R} (hk : IsRt G.K k f) (hi : IZ G L C j st ρ tg iter mi) (hg : GOk G L tg g) (h0 : leS (v s0) ρ) (hw0 : w s0 = st) (bad : ∀ s d, g d = none → Bd s d = none)
    (hgj : ∀ d as, g d = some as → ∀ i ∈ as.map (·.1), offJ ox j i = true) (hb : ∀ s d as, g d = some as → BZ G L C z a b0 j ox (setAll (v s) as) (w s) body (kZL G.K C z a b0 j ox v w) (Bd s d)) (hr : ∀ s, BZ G L C z a b0 j ox (v s) (w s) rest k (M s)) (hs : ∀ env x, foldedSetIterable iter env x = pure x := by intro _ _; rfl) :
    BZ G L C z a b0 j ox ρ st (.For tg iter body [] pos :: rest) k (bindR (mi.bind fun ds => forR Bd s0 ds) f M) := fun X hX => PSs.nox <| by
  have hX' := hX.nox
  refine wkSs (seqU (ps_for (tb := fun E σ H => ∃ s d as, g d = some as ∧ tSZ G.K C z a b0 j ox (setAll (v s) as) (w s) (kZL G.K C z a b0 j ox v w) (Bd s d) E σ H) PassesOwn.never hX'.calm (hi _ hX') (hg _ hX') ⟨fun pins s σ H D I ⟨s1, d, as, eg, q⟩ => (hb s1 d as eg _ hX').run pins s σ H D I q⟩ (hs _)) fun s => hr s _ hX') fun D σ H ⟨B, F0, F, r, em, er, sz, q⟩ => ?_
  obtain ⟨sf, ef, em⟩ := Option.bind_eq_some_iff.mp em
  obtain ⟨ds, ed, ef⟩ := Option.bind_eq_some_iff.mp ef
  refine ⟨F, a, ds, ed, er.vr, sz.rp, fun J F1 H1 x1 w1 => ?_⟩
  obtain ⟨B', er1, hon, up1, bk1, bk2⟩ := (er.go x1).hold2
  have sz1 := (sz.go x1).base up1
  have on : ∀ {F2 H2 : Hp} {s : S} {σ2 : L2.St}, ER G.K B' F1 (v s) σ2 F2 H2 → On F1 H1 H2 := fun {F2 H2 s σ2} e a o h => by
    have h0 := hon a o h
    rcases x1.sub a o h with z | ⟨_, ob, z⟩ <;> rw [z] at h0 <;> rw [e.ret.keep _ _ h0, z]
  have nxt : ∀ (s : S) (σ2 : L2.St) (F2 H2 : Hp), sf = .nx s → ER G.K B' F1 (v s) σ2 F2 H2 → SZ G.K C z a b0 j ox (w s) B' σ2 F2 H2 → ∃ s, tSZ G.K C z a b0 j ox (v s) (w s) k (M s) D σ2 H2 := fun s σ2 F2 H2 e er2 sz2 => ⟨s, B, F0, F2, r, by rw [e] at em; exact em, ER.back bk1 bk2 er2, sz2.base fun p _ h => bk1 p h, q⟩
  refine ⟨fun i m σ H => m = ds.length - i ∧ i ≤ ds.length ∧ ∃ s F2, ER G.K B' F1 (v s) σ F2 H ∧ SZ G.K C z a b0 j ox (w s) B' σ F2 H ∧ forR Bd s (ds.drop i) = some sf, ⟨_, rfl, Nat.zero_le _, s0, F1, er1.le h0, by rw [hw0]; exact sz1, ef⟩, ?_⟩
  rintro i m σ2 H2 ⟨rfl, hi, s, F2, er2, sz2, ef2⟩
  by_cases hlt : i < ds.length
  · refine .inr ⟨w1.goes i F2 H2 hlt er2.ret.ext er2.vr.sub (on er2), fun σ H => i + 1 ≤ ds.length ∧ ∃ s F2, ER G.K B' F1 (v s) σ F2 H ∧ SZ G.K C z a b0 j ox (w s) B' σ F2 H ∧ forR Bd s (ds.drop (i + 1)) = some sf, fun σ' H' ⟨a, b⟩ => ⟨_, by omega, rfl, a, b⟩, fun x H3 y => ?_⟩
    have hd : ds[i]? = some ds[i] := List.getElem?_eq_getElem hlt
    rw [List.drop_eq_getElem_cons hlt] at ef2
    generalize ds[i] = dd at hd ef2
    obtain ⟨s', es', ef2⟩ := Option.bind_eq_some_iff.mp ef2
    obtain ⟨F3, x3, r3⟩ := w1.yields i F2 H2 x H3 dd er2.ret.ext er2.vr.sub (on er2) hd y
    cases eg : g dd with
    | none => rw [bad s dd eg] at es'; cases es'
    | some as =>
      refine ⟨F3, dd, as, x3.sub, r3, eg, fun ws hw => ⟨s, dd, as, eg, B', F1, F3, s', es', (er2.go x3).setMany as ws hw, (sz2.go x3).setMany as ws (hgj dd as eg) (by have := hw.len; simpa using this.symm), ?_⟩⟩
      cases s' with
      | go s' => exact fun σ4 F4 H4 er4 sz4 => ⟨hlt, s', F4, er4, sz4, ef2⟩
      | br s' => trivial
      | rt d => cases ef2; cases em; exact fun vv F5 H5 r5 rv => (hk.rt _ _ _ _ q) vv F5 H5 (bk2 _ _ r5) rv
  · have : i = ds.length := by omega
    subst this
    rw [List.drop_length] at ef2
    cases ef2
    exact .inl ⟨w1.stops F2 H2 er2.ret.ext er2.vr.sub (on er2), nxt _ _ _ _ rfl er2 sz2⟩
end
end DL
set_option autoImplicit false
set_option maxRecDepth 100000
set_option maxHeartbeats 4000000
/-! defs and methods with a till; a store to a field as a target; a def called in an except suite that asks of the error -/
namespace DL
open PySem PySem.Spec PySem.SeqAt PyProof.Rows L2
def MethAt (G : GX) (C : Addr) (m q : Str) (st : Stmt) (ps : List Str) : Prop := ∃ (f : Addr) (fd : FuncData), Fun G.K m q st f fd ∧ Meth G.K C m f ∧ Binds G.K fd ps []
def rhoZ (N : List Str) (ds : List D) : List Sl := .no :: (ds.map .val ++ List.replicate (N.length - 1 - ds.length) .no)
theorem rhoZ_nth {N : List Str} {ds : List D} {i : Nat} {d : D} (h : nthS (rhoZ N ds) (i + 1) = .val d) : ds[i]? = some d := rho_nth (N := N) (show nthS (ds.map Sl.val ++ List.replicate (N.length - 1 - ds.length) .no) i = .val d from h)
theorem rhoZ_own {N : List Str} {ds : List D} : noOwn (rhoZ N ds) := fun i d => by
  cases i with
  | zero => exact fun z => nomatch z
  | succ i => exact rho_own (ds := ds)
/-- the heap without the till -/
def less (H : Hp) (a b : Addr) : Hp := fun p => if p = a ∨ p = b then none else H p
section
variable {K : PySem.W.Frag} {C a b b' b0 : Addr} {F H F' H' B F0 : Hp} {st st' : TlS}
theorem less_same : Same (less H a b) H := fun p o h => by
  unfold less at h
  split at h
  · cases h
  · exact h
theorem less_a : less H a b a = none := if_pos (.inl rfl)
theorem less_b : less H a b b = none := if_pos (.inr rfl)
theorem less_of {p : Addr} (h : less H a b p = none) : p = a ∨ p = b ∨ H p = none := by
  unfold less at h
  split at h
  · rename_i q; rcases q with q | q
    · exact .inl q
    · exact .inr (.inl q)
  · exact .inr (.inr h)
theorem er_startZ {N : List Str} {ds : List D} {us : List V} (hB : Same B H) (s : Sub F H) (r : Reps K F ds us) (hN : ds.length + 1 ≤ N.length) : ER K B F (rhoZ N ds) (L2.start N (.ref a :: us)) F H := by
  refine ⟨⟨s, ?_, fun i d h => ?_, fun i d h => absurd h (rhoZ_own i d)⟩, ⟨hB, s, Same.refl _, fun x o h n => by rw [h] at n; cases n⟩, fun i d p h => absurd h (rhoZ_own i d), fun i j d e p h => absurd h (rhoZ_own i d)⟩
  · have := r.len
    simp only [L2.start, rhoZ, List.length_append, List.length_map, List.length_replicate, List.length_cons]
    omega
  · cases i with
    | zero => cases h
    | succ i =>
      obtain ⟨v, hv, rv⟩ := r.get (rhoZ_nth (N := N) h)
      refine ⟨v, ?_, rv⟩
      have hi : i < us.length := (List.getElem?_eq_some_iff.mp hv).1
      unfold L2.start
      rw [List.getElem?_append_left (by simp; omega), List.getElem?_map, List.getElem?_cons_succ, hv]; rfl
theorem start0 {N : List Str} {us : List V} : (L2.start N (.ref a :: us))[0]? = some (some (.ref a)) := rfl
theorem chg_of (r : RetOk (less H a b) F F' H') (t : TillAt K C F' H' a b' st') (h0 : F' b = none ∧ ∃ o, H' b = some (.lst o)) : Chg a b F H F' H' := by
  obtain ⟨hf, ws, hw⟩ := h0
  refine ⟨fun p o n1 n2 h => r.keep p o ?_, r.ext, r.sub, fun x o h n => ?_, fun p h => ?_, fun vs h => ⟨ws, hw⟩⟩
  · unfold less
    rw [if_neg (by rintro (e | e) <;> contradiction)]
    exact h
  · rcases r.fresh x o h n with z | z
    · rcases less_of z with rfl | rfl | z
      · obtain ⟨dx, v1, v2, v3, vs, v5, g1, g2, n1, n2, _⟩ := t
        rw [n1] at h; cases h
      · rw [hf] at h; cases h
      · exact .inl z
    · exact .inr z
  · cases e : H p with
    | none => rfl
    | some o =>
      by_cases h1 : p = a
      · subst h1
        obtain ⟨dx, v1, v2, v3, vs, v5, g1, _⟩ := t
        rw [g1] at h; cases h
      · by_cases h2 : p = b
        · subst h2
          rw [hw] at h; cases h
        · have := r.keep p o (by unfold less; rw [if_neg (by rintro (e | e) <;> contradiction)]; exact e)
          rw [h] at this; cases this
theorem b_new (r : less H a b b' = none) (t : TillAt K C F' H' a b' st') : b' = b ∨ H b' = none := by
  rcases less_of r with z | z | z
  · exact absurd z t.ne
  · exact .inl z
  · exact .inr z
end
section
variable {G : GX} {C : Addr} {x q : Str} {s : Stmt} {N ps : List Str} {k n : Nat} {f : Addr} {fd : FuncData}
/-- a def that may change the till -/
theorem okZ {g' : TlS → List D → Option (D × TlS)} (F : Fun G.K x q s f fd) (S : FnScope N ps (defScope s)) (hn : ps.length = n + 1)
    (h : ∀ a b0 ti ds, ds.length = n → BZ G ⟨N, k, defScope s, fun _ => true⟩ C true a b0 0 none (rhoZ N ds) ti (defBody s) (kT G.K C a b0) (g' ti ds)) : FnOk G.P G.w G.K G.mg G.base CX0 (k + 1) f fd ps (spZ G.K C n (fun ti ds => (g' ti ds).map fun r => (r.1, some r.2))) := by
  have hpl : ps.length ≤ N.length := by have := congrArg List.length S.pre; rw [List.length_take] at this; omega
  refine F.ok S (fun vs H Q E ⟨F, a, b, ti, us, ds, r, ev, hl, s, t, rr, e, q⟩ => by rw [ev, hn, ← hl, rr.len]; rfl) (fun cdv A outer sh H vs Q E hr sp => ?_)
  obtain ⟨F0, a, b, ti, us, ds, r, rfl, hl, s0, t, rr, e, q⟩ := sp
  obtain ⟨⟨d, st'⟩, er, rfl⟩ := Option.map_eq_some_iff.mp e
  have t0 := t
  obtain ⟨dx, v1, v2, v3, vs, v5, g1, g2, n1, n2, _⟩ := t0
  refine ⟨_, h a b ti ds hl _ ⟨rfl, rfl, rfl, rfl, rfl, rfl, S.nd, rfl, rfl, rfl, hr⟩, less H a b, F0, F0, _, er, er_startZ less_same s0 rr (by omega), ⟨⟨start0, trivial⟩, ⟨n2, vs, g2⟩, b, t, fun _ => ⟨less_a, less_b⟩⟩, fun v F' H' b' ro t' hb h0 rv => ?_, fun hd σ F' H' b' ro t' hb h0 => ?_⟩
  · exact q v F' H' b' (chg_of ro t' h0) t' (b_new hb t') rv
  · have hd' : d = .non := hd
    subst hd'
    exact q .non F' H' b' (chg_of ro t' h0) t' (b_new hb t') rep_n
/-- a def that leaves it -/
theorem okP {g' : TlS → List D → Option D} (F : Fun G.K x q s f fd) (S : FnScope N ps (defScope s)) (hn : ps.length = n + 1)
    (h : ∀ a b0 ti ds, ds.length = n → BZ G ⟨N, k, defScope s, fun _ => true⟩ C false a b0 0 none (rhoZ N ds) ti (defBody s) (kF G.K) (g' ti ds)) : FnOk G.P G.w G.K G.mg G.base CX0 (k + 1) f fd ps (spZ G.K C n (fun ti ds => (g' ti ds).map fun d => (d, none))) := by
  have hpl : ps.length ≤ N.length := by have := congrArg List.length S.pre; rw [List.length_take] at this; omega
  refine F.ok S (fun vs H Q E ⟨F, a, b, ti, us, ds, r, ev, hl, s, t, rr, e, q⟩ => by rw [ev, hn, ← hl, rr.len]; rfl) (fun cdv A outer sh H vs Q E hr sp => ?_)
  obtain ⟨F0, a, b, ti, us, ds, r, rfl, hl, s0, t, rr, e, q⟩ := sp
  obtain ⟨d, er, rfl⟩ := Option.map_eq_some_iff.mp e
  have t0 := t
  obtain ⟨dx, v1, v2, v3, vs, v5, g1, g2, n1, n2, _⟩ := t0
  refine ⟨_, h a b ti ds hl _ ⟨rfl, rfl, rfl, rfl, rfl, rfl, S.nd, rfl, rfl, rfl, hr⟩, H, F0, F0, _, er, er_startZ (Same.refl _) s0 rr (by omega), ⟨⟨start0, trivial⟩, ⟨n2, vs, g2⟩, b, t, fun z => nomatch z⟩, fun v F' H' ro rv => ?_, fun hd σ F' H' ro => ?_⟩
  · exact q v F' H' ⟨ro.keep, ro.ext, ro.sub, ro.fresh⟩ rv
  · subst hd
    exact q .non F' H' ⟨ro.keep, ro.ext, ro.sub, ro.fresh⟩ rep_n
theorem fnz_ok {g' : TlS → List D → Option (D × TlS)} (Fd : DefAt G x s ps) (S : FnScope N ps (defScope s)) (hn : ps.length = n + 1)
    (h : ∀ a b0 ti ds, ds.length = n → BZ G ⟨N, k, defScope s, fun _ => true⟩ C true a b0 0 none (rhoZ N ds) ti (defBody s) (kT G.K C a b0) (g' ti ds)) : FnZ G C (k + 1) x n (fun ti ds => (g' ti ds).map fun r => (r.1, some r.2)) := by
  obtain ⟨f, fd, F, hm, hb⟩ := Fd
  exact ⟨f, fd, ps, hn, okZ F S hn h, hm, F.kp, hb⟩
theorem fnp_ok {g' : TlS → List D → Option D} (Fd : DefAt G x s ps) (S : FnScope N ps (defScope s)) (hn : ps.length = n + 1)
    (h : ∀ a b0 ti ds, ds.length = n → BZ G ⟨N, k, defScope s, fun _ => true⟩ C false a b0 0 none (rhoZ N ds) ti (defBody s) (kF G.K) (g' ti ds)) : FnZ G C (k + 1) x n (fun ti ds => (g' ti ds).map fun d => (d, none)) := by
  obtain ⟨f, fd, F, hm, hb⟩ := Fd
  exact ⟨f, fd, ps, hn, okP F S hn h, hm, F.kp, hb⟩
theorem mez_ok {g' : TlS → List D → Option (D × TlS)} (Fd : MethAt G C x q s ps) (S : FnScope N ps (defScope s)) (hn : ps.length = n + 1)
    (h : ∀ a b0 ti ds, ds.length = n → BZ G ⟨N, k, defScope s, fun _ => true⟩ C true a b0 0 none (rhoZ N ds) ti (defBody s) (kT G.K C a b0) (g' ti ds)) : MeZ G C (k + 1) x n (fun ti ds => (g' ti ds).map fun r => (r.1, some r.2)) := by
  obtain ⟨f, fd, F, hm, hb⟩ := Fd
  exact ⟨f, fd, ps, hn, okZ F S hn h, hm, hb⟩
theorem mep_ok {g' : TlS → List D → Option D} (Fd : MethAt G C x q s ps) (S : FnScope N ps (defScope s)) (hn : ps.length = n + 1)
    (h : ∀ a b0 ti ds, ds.length = n → BZ G ⟨N, k, defScope s, fun _ => true⟩ C false a b0 0 none (rhoZ N ds) ti (defBody s) (kF G.K) (g' ti ds)) : MeZ G C (k + 1) x n (fun ti ds => (g' ti ds).map fun d => (d, none)) := by
  obtain ⟨f, fd, F, hm, hb⟩ := Fd
  exact ⟨f, fd, ps, hn, okP F S hn h, hm, hb⟩
end
/-! ### o.f as a target -/
def gFld (K : PySem.W.Frag) (ta : TE) (f : Str) : TG := fun v σ H Q => ta σ H fun x G => ∃ a C dx fs, x = .ref a ∧ G a = some (.ins C dx fs) ∧ Cls K C ∧ NoAttr K C f ∧ fs.length < 1000 ∧ Q σ (upd G a (.ins C dx (putF f v fs)))
theorem pg_fld {X : Cx} {o : Expr} {f : Str} {ta : TE} {pos : Pos} (ho : PE X o ta) : PG X (.Attribute o f pos) (gFld X.K ta f) := ⟨fun ps s σ H v u Q I rv w => by
  rw [assign_Attribute]
  refine wpAny_bind (wpAny_holding (thn (ho.run ps s σ H _ I w) fun ov t ⟨x, G, J, ro, a, C, dx, fs, ex, ga, cl, na, hl, q⟩ => ?_))
  subst ex
  have eo : ov = Value.ref a := ro
  subst eo
  exact wpAny_bind (wpAny_standAt (wpAny_bind (wpAny_holding (setattr_ok J ga cl na hl rv fun t2 J2 => wpAny_release ⟨σ, _, J2, q⟩))))⟩
/-! ### a def that asks of the error that is handled -/
structure FnE (P : Program) (w : World) (K : PySem.W.Frag) (mg : Str → Option Value) (base : Heap) (CX : CXT) (k : Nat) (f : Addr) (fd : FuncData) (ps : List Str) (sp : Addr × Obj → Sp) : Prop where
  len : ∀ p vs H Q E, sp p vs H Q E → vs.length = ps.length
  run : ∀ {A : Around} {outer : List Env} {s : Shared} {H : Hp} {args : Args} {us : List Value} {vs : List V} {Q : VK} {E : XK} {p : Addr × Obj}, L2H.RoomH k A → L2H.PinOk outer H s p → Env0 P w K mg base A outer s H → BindsTo s fd args (ps.zip us) → Vals vs us → sp p vs H Q E → codeAny (model P w) A (.call (.ref f) args) (CR CX outer P w H s Q E) s
theorem fn_ofE {CX : CXT} {P : Program} {w : World} {K : PySem.W.Frag} {mg : Str → Option Value} {base : Heap} {k : Nat} {f : Addr} {name qual : Str} {pr : Arguments} {body : List Stmt} {sc : Scope} {dV kV doc pm cdv ct oc : Value} {an od : Option Addr} {sl : Array (Option Value)} {N ps : List Str} {sp : Addr × Obj → Sp}
    (lk : K.lookup f = some ⟨oc, od, .func (PySem.W.fnOf name qual pr body sc dV kV doc pm an cdv ct), sl⟩) (hcd : PySem.W.codeIn K cdv qual = true) (S : FnScope N ps sc) (len : ∀ p vs H Q E, sp p vs H Q E → vs.length = ps.length)
    (hbody : ∀ (A : Around) (outer : List Env) (s : Shared) (H : Hp) (vs : List V) (Q : VK) (E : XK) (p : Addr × Obj), L2H.RoomH k (A.deeper (envOfC qual sc s.heap.objs.size f cdv)) → sp p vs H Q E → ∃ t, PSs (L2H.cxH CX P w K mg base N qual sc f cdv A outer s H E p) body t ∧ t { nx := fun _ G => Q .non G, rt := Q } (L2.start N vs) H) :
    FnE P w K mg base CX (k + 1) f (PySem.W.fnOf name qual pr body sc dV kV doc pm an cdv ct) ps sp := ⟨len, fun {A outer s H args us vs Q E p} room pin e0 bt rv w0 => by
  have up : ∀ b o, base.get? b = some o → s.heap.get? b = some o := fun b o g => (e0.bs b o g).1
  have kin := e0.mod.kin.keeps up
  refine codeAny_call_function room.depth (kin _ _ lk) rfl S.co S.gen rfl (PySem.W.codeRec_of kin hcd) (bt _ _ _ _ (wpAny_newFunctionEnv_cells S.kind (fun z hz => ?_) fun env ee t x => ?_))
  · exact (S.par z.1 (List.of_mem_zip (show (z.1, z.2) ∈ _ from hz)).1).imp id fun c => ⟨c, PySem.W.cellsFrom_some _ _ _ (.inl c)⟩
  · subst ee
    obtain ⟨tt, h1, h2⟩ := hbody A outer s H vs Q E p (room.deeper _) w0
    refine ⟨(e0.mod.nolimit.keeps up).keeps x.toInCall.keep, codeAny_func (wpAny_mono (h1.run [] t _ H _ (L2H.inv_startH S pin e0 (len _ _ _ _ _ w0) rv x) h2) (fun fl t2 out => ?_) fun _ _ z => z)⟩
    match fl, out with
    | .ret u, ⟨v, τ, G, J, ru, z⟩ => exact ⟨v, G, J.os, J.bare, J.base, J.hok, ru, z⟩
    | .next, ⟨τ, G, J, z⟩ => exact ⟨V.non, G, J.os, J.bare, J.base, J.hok, rfl, z⟩
    | .brk, ⟨_, _, _, z⟩ => exact z.elim
    | .cont, ⟨_, _, _, z⟩ => exact z.elim⟩
section
variable {X : Cx} {k : Nat} {f : Addr} {fd : FuncData} {ps : List Str} {sp : Addr × Obj → Sp} {x : Str} {q pos : Pos} {e : Expr} {es : List Expr} {ta : TA} {p : Addr × Obj}
theorem pe_callE (Fn : FnE X.prog X.w X.K X.mg X.base CX0 k f fd ps sp) (room : L2H.RoomH k X.A) (hp : p ∈ X.pn) (hg : Gl X x) (hm : X.mg x = some (.ref f)) (hk : PySem.W.keepIn X.K (.ref f) = true) (hb : Binds X.K fd ps []) (ha : PA X (e :: es) ta)
    (hdb : (x == ("__debug__" : Str)) = false := by decide) (he : starEach (e :: es) X.env = (false, eval e X.env) :: starEach es X.env := by rfl) (hpl : (backTo pos (starEach es X.env)).any (·.1) = false := by rfl) : PE X (.Call (.Name x q) (e :: es) [] pos) (tCallS (sp p) (fun _ => E0) ta) := ⟨fun pins s σ H Q I w => by
  refine wpAny_Call_Name_kw (ld_glob I hg hm (PySem.W.callWith_K (h₀ := X.base) I.ok.mod.kin hk (thn (ha.run pos pins s σ H _ I w) fun us t ⟨vs, G, J, rv, z⟩ => ⟨J.kIn, ?_⟩) he hpl) hdb)
  have hl : us.length = ps.length := rv.length.symm.trans (Fn.len _ _ _ _ _ z)
  have bt := hb t us J.kIn (by rw [List.append_nil]; exact hl)
  rw [List.append_nil] at bt
  obtain ⟨g1, g2, g3, g4, g5⟩ := J.pin p (List.mem_append_left _ hp)
  have pin : L2H.PinOk X.stack G t p := ⟨g1, g2, fun m => (List.mem_cons.mp (J.stkSub p.1 m)).elim g3 g4, g5⟩
  refine wpAny_call (codeAny_mono (Fn.run (args := ⟨us, []⟩) room pin J.env0 bt rv z) fun r t2 out => ?_)
  match r, out with
  | .error _, out => exact out.elim
  | .ok (.ret _), out => exact J.after out
  | .ok .next, out => exact out.elim
  | .ok .brk, out => exact out.elim
  | .ok .cont, out => exact out.elim⟩
/-- isinstance of an error that is pinned -/
theorem call_isEp {a D : Addr} {oe : Obj} (hp : (a, oe) ∈ X.pn) (C : ExcC X.K D) (hz : Zc (.ref D) none oe) (hf : ∃ vs, oe.data = .fields vs) : CallR X (.builtin "isinstance") (rIsE X.K D a) := fun pins s σ H xs us Q I r ⟨c, cv, b, ex, hcv, hk, w⟩ => by
  subst ex
  obtain ⟨vs, hv⟩ := hf
  have g := (I.pin (a, oe) (List.mem_append_left _ hp)).1
  have J : PySem.W.InstAt s.heap a oe D none := ⟨g, hz.1, by simp [PySem.W.notCls, hv], by rw [show oe.dict = none from hz.2]; trivial⟩
  obtain rfl : us = [.ref a, cv] := by
    cases r with
    | cons r1 r2 =>
      cases r2 with
      | cons r2 r3 =>
        cases r3
        cases r1
        rw [hcv _ r2]
  exact PySem.W.kia_one (PySem.W.handS_kitx_exc C.hg C.hk C.hs C.hd C.ha C.hn C.ht C.hm) I.kIn J hk nofun fun tk => ⟨.bl b, H, I.kept (t' := tk) fun _ _ z => z, rfl, w⟩
end
/-- is the error of one of the classes? -/
def spOth (K : PySem.W.Frag) (CE : Addr) : Addr × Obj → Sp := fun p vs H Q _ => vs = [.ref p.1] ∧ Zc (.ref CE) none p.2 ∧ (∃ vs, p.2.data = .fields vs) ∧ Q (.bl false) H
/-- no other class -/
def NoKin (G : GX) (CE : Addr) (x : Str) : Prop := ∃ C2, G.mg x = some (.ref C2) ∧ PySem.W.kitOne G.K (.ref CE) (.ref C2) = some false
def FnO3 (G : GX) (CE : Addr) (k : Nat) (x : Str) : Prop := ∃ (f : Addr) (fd : FuncData) (ps : List Str), FnE G.P G.w G.K G.mg G.base CX0 k f fd ps (spOth G.K CE) ∧ G.mg x = some (.ref f) ∧ PySem.W.keepIn G.K (.ref f) = true ∧ Binds G.K fd ps []
theorem fn_other {G : GX} {CE : Addr} {x n c1 c2 c3 : Str} {st : Stmt} {k : Nat} {p1 p2 p3 p4 p5 p6 p7 p8 p9 q1 q2 q3 pos pos2 : Pos} (Fd : DefAt G x st [n]) (S : FnScope [n] [n] (defScope st))
    (hbody : defBody st = [.Return (some (.BoolOp .Or [.Call (.Name "isinstance" p1) [.Name n p2, .Name c1 p3] [] q1, .Call (.Name "isinstance" p4) [.Name n p5, .Name c2 p6] [] q2, .Call (.Name "isinstance" p7) [.Name n p8, .Name c3 p9] [] q3] pos)) pos2])
    (Ce : ExcC G.K CE) (hmi : G.mg "isinstance" = none) (h1 : NoKin G CE c1) (h2 : NoKin G CE c2) (h3 : NoKin G CE c3) (hvn : Vis (defScope st) n) (hgi : GlS ⟨[n], k, defScope st, fun _ => true⟩ "isinstance")
    (hg1 : GlS ⟨[n], k, defScope st, fun _ => true⟩ c1) (hg2 : GlS ⟨[n], k, defScope st, fun _ => true⟩ c2) (hg3 : GlS ⟨[n], k, defScope st, fun _ => true⟩ c3) (hd1 : (c1 == ("__debug__" : Str)) = false) (hd2 : (c2 == ("__debug__" : Str)) = false) (hd3 : (c3 == ("__debug__" : Str)) = false)
    (hdn : (n == ("__debug__" : Str)) = false) (hcn : (n == ("__classdict__" : Str)) = false) : FnO3 G CE (k + 1) x := by
  obtain ⟨f, fd, F, hm, hb⟩ := Fd
  obtain ⟨D1, m1, k1⟩ := h1
  obtain ⟨D2, m2, k2⟩ := h2
  obtain ⟨D3, m3, k3⟩ := h3
  have kp := F.kp
  obtain ⟨oc, od, kV, doc, pm, an, cdv, ct, osl, rfl, lk, hcd⟩ := F.ex
  refine ⟨f, _, [n], fn_ofE lk hcd S (fun p vs H Q E h => by rw [h.1]; rfl) (fun A outer s H vs Q E p hr h => ?_), hm, kp, hb⟩
  obtain ⟨rfl, hz, hf, q⟩ := h
  rw [hbody]
  have hp : (p.1, p.2) ∈ (L2H.cxH CX0 G.P G.w G.K G.mg G.base [n] x (defScope st) f cdv A outer s H E p).pn := List.mem_singleton.mpr rfl
  refine ⟨_, pss_one (ps_ret (pe_or (pe_callB (call_isEp hp Ce hz hf) hgi hmi boot_isinstance (pa_cons (pe_var (i := 0) rfl hvn hdn hcn) (pa_cons (pe_glob (v := .ref D1) hg1 m1 rfl hd1) pa_nil)))
    (pe_or (pe_callB (call_isEp hp Ce hz hf) hgi hmi boot_isinstance (pa_cons (pe_var (i := 0) rfl hvn hdn hcn) (pa_cons (pe_glob (v := .ref D2) hg2 m2 rfl hd2) pa_nil)))
    (pe_one (pe_callB (call_isEp hp Ce hz hf) hgi hmi boot_isinstance (pa_cons (pe_var (i := 0) rfl hvn hdn hcn) (pa_cons (pe_glob (v := .ref D3) hg3 m3 rfl hd3) pa_nil))))))), ?_⟩
  exact ⟨.ref p.1, rfl, .ref D1, .ref D1, false, rfl, fun u h => h, k1, false, rfl, .ref p.1, rfl, .ref D2, .ref D2, false, rfl, fun u h => h, k2, false, rfl, .ref p.1, rfl, .ref D3, .ref D3, false, rfl, fun u h => h, k3, q⟩
end DL
set_option autoImplicit false
set_option maxRecDepth 100000
set_option maxHeartbeats 4000000
/-! where an iterator ends while an exception is handled -/
namespace DL
namespace H
open PySem PySem.Spec PyProof.Rows L2 HotX
/-- StopIteration flies, new; what stood stands -/
def Flies (h : Heap) (E : Value → Shared → Prop) (s : Shared) : Prop := ∀ (h2 : Heap) (a : Addr), (∀ b u, h.get? b = some u → h2.get? b = some u) → (∃ u, h2.get? a = some u ∧ u.cls = .type "StopIteration") → E (.ref a) { s with heap := h2 }
section
variable {P : Program} {w : World} {A : Around} {E : Value → Shared → Prop} {s : Shared} {x1 it l : Addr}
theorem hot_else {h : Heap} {f : Obj → Obj} (hot : HotAt A x1 h) (n : x1 ≠ it) : HotAt A x1 (h.update it f) := by
  obtain ⟨e, u, ws, g, d, c⟩ := hot
  exact ⟨e, u, ws, (Heap.get?_update_other _ _ n.symm).trans g, d, c⟩
theorem hot_keep {h h2 : Heap} (hot : HotAt A x1 h) (k : ∀ u, h.get? x1 = some u → h2.get? x1 = some u) : HotAt A x1 h2 := by
  obtain ⟨e, u, ws, g, d, c⟩ := hot
  exact ⟨e, u, ws, k _ g, d, c⟩
theorem stop_hot {α : Type} {Q : α → Shared → Prop} (hot : HotAt A x1 s.heap) (hE : Flies s.heap E s) : wpAny (model P w) A (newExc (.type "StopIteration") [] >>= fun e => (raiseNew e : Sem α)) Q E s := by
  obtain ⟨e, u, ws, g, d, c⟩ := hot
  simp only [newExc, newTuple, firstArgMember]
  have up : ∀ {y z : Obj} {b : Addr} {v : Obj}, s.heap.get? b = some v → ((s.heap.push y).push z).get? b = some v := fun q => Heap.get?_push_of_some _ (Heap.get?_push_of_some _ q)
  refine wpAny_bind (wpAny_bind (wpAny_newObj_type (wpAny_bind (wpAny_pure (wpAny_newObj_type (raiseNew_hot ⟨e, u, ws, up g, d, c⟩ ?_ (Heap.get?_push_size _ rfl) rfl ?_ (hE _ _ (fun b v q => ?_) ⟨_, Heap.get?_update_self _ (Heap.get?_push_size _ rfl) rfl, rfl⟩)) ?_))) ?_))
  · exact Nat.ne_of_lt (Heap.lt_size (Heap.get?_push_of_some _ g))
  · simp; omega
  · exact (Heap.get?_update_other _ _ (Nat.ne_of_gt (Heap.lt_size (Heap.get?_push_of_some _ q)))).trans (up q)
  · size_fits
  · size_fits
/-- the code of both walks behind their last item -/
theorem code_end {b : Builtin} (hb : b = Builtin.«list_iterator.__next__» ∨ b = Builtin.«tuple_iterator.__next__») {o ol : Obj} {i n : Nat} {xs : Array Value} {Q : Fin → Shared → Prop} (ho : s.heap.get? it = some o) (hd : o.data = .fields #[.ref l, .int i 0]) (hol : s.heap.get? l = some ol) (hdl : ol.data = .seq xs n) (hx : xs[i]? = none)
    (hot : HotAt A x1 s.heap) (ne : x1 ≠ it) (hE : ∀ (h2 : Heap) (a : Addr), Heap.ExtBut it s.heap h2 → (∃ u, h2.get? a = some u ∧ u.cls = .type "StopIteration") → E (.ref a) { s with heap := h2 }) : wpAny (model P w) A (b ⟨[.ref it], []⟩) Q E s := by
  have fin : ∀ {α : Type} {Q : α → Shared → Prop}, wpAny (model P w) A (setField (.ref it) 0 .none >>= fun _ => (Builtin.SmallTypes.stopIteration : Sem α)) Q E s := fun {α Q} =>
    wpAny_bind (wpAny_setField ho hd (by simp) (stop_hot (s := { s with heap := _ }) (hot_else hot ne) fun h2 a k e => hE h2 a (fun c v nc q => k c v ((Heap.SameBut.update ..).extBut c v nc q)) e))
  have f0 : ∀ {β : Type} {g : Value → Sem β} {Q : β → Shared → Prop}, wpAny (model P w) A (g (.ref l)) Q E s → wpAny (model P w) A (field (.ref it) 0 >>= g) Q E s := fun q => wpAny_bind (wpAny_field ho hd rfl q)
  have f1 : ∀ {β : Type} {g : Value → Sem β} {Q : β → Shared → Prop}, wpAny (model P w) A (g (.int i 0)) Q E s → wpAny (model P w) A (field (.ref it) 1 >>= g) Q E s := fun q => wpAny_bind (wpAny_field ho hd rfl q)
  have fs : ∀ {β : Type} {g : Option (Array Value) → Sem β} {Q : β → Shared → Prop}, wpAny (model P w) A (g (some xs)) Q E s → wpAny (model P w) A (seqItems? (.ref l) >>= g) Q E s := fun q => wpAny_bind (wpAny_seqItems hol hdl q)
  rcases hb with rfl | rfl <;> refine f0 (f1 (fs ?_)) <;> simp only [Int.toNat_natCast, hx] <;> exact wpAny_bind (wpAny_rule fin)
/-- the iterator at it has no more -/
def Over (P : Program) (w : World) (A : Around) (it : Addr) (s : Shared) : Prop := ∀ (Q : Option Value → Shared → Prop) (E : Value → Shared → Prop),
  (∀ (h2 : Heap) (a : Addr), Heap.ExtBut it s.heap h2 → (∃ u, h2.get? a = some u ∧ u.cls = .type "StopIteration") → E (.ref a) { s with heap := h2 }) → wpAny (model P w) A (callSpecial? (.ref it) (Str.ofString "__next__")) Q E s
theorem Over.next {Q : Option Value → Shared → Prop} (o : Over P w A it s) (q : ∀ h2, Heap.ExtBut it s.heap h2 → Q none { s with heap := h2 }) : wpAny (model P w) A (pyNext (.ref it)) Q E s :=
  wpAny_bind (wpAny_attempt (o _ _ fun h2 a k ⟨u, g, c⟩ => wpAny_bind (wpAny_isInstance (T := "StopIteration") (b := true) ⟨u, g, c⟩ isSubtype_stop (wpAny_pure (q h2 k)))))
theorem Over.draw {Q : Value → Shared → Prop} (o : Over P w A it s) (q : ∀ (h2 : Heap) (a : Addr), Heap.ExtBut it s.heap h2 → (∃ u, h2.get? a = some u ∧ u.cls = .type "StopIteration") → E (.ref a) { s with heap := h2 }) : wpAny (model P w) A (Builtin.SmallTypes.nextOf (.ref it)) Q E s := wpAny_bind (o _ _ q)
theorem over_list {i : Nat} {xs : Array Value} (hot : HotAt A x1 s.heap) (ne : x1 ≠ it) (st : s.heap.IsListIter it l i) (hl : s.heap.IsList l xs) (hx : xs[i]? = none) : Over P w A it s := fun Q E q => by
  obtain ⟨o, ho, _, hd⟩ := id st
  obtain ⟨ol, hol, _, n, hdl⟩ := hl
  exact wpAny_callSpecial?_slot st.typeIs slot_listiter_next (wpAny_call_entry slot_listiter_next st.typeIs entry_listiter_next (code_end (A := A.in1) (.inl rfl) ho hd hol hdl hx hot ne q) (args_listiter_next _))
theorem over_tuple {i : Nat} {xs : Array Value} (hot : HotAt A x1 s.heap) (ne : x1 ≠ it) (st : s.heap.IsTupleIter it l i) (hl : s.heap.IsTuple l xs) (hx : xs[i]? = none) : Over P w A it s := fun Q E q => by
  obtain ⟨o, ho, _, hd⟩ := id st
  obtain ⟨ol, hol, _, n, hdl⟩ := hl
  exact wpAny_callSpecial?_slot st.typeIs F.slot_tuple_iterator_next (wpAny_call_entry F.slot_tuple_iterator_next st.typeIs F.entry_tuple_iterator_next (code_end (A := A.in1) (.inr rfl) ho hd hol hdl hx hot ne q) (F.args_tuple_iterator_next_1 _))
/-- a tuple into as many targets -/
theorem asg_tup_hot {env : Env} {tgs : List Expr} {k : _} {pos : Pos} {xs : Array Value} {Q : Unit → Shared → Prop} (hot : HotAt A x1 s.heap) (ht : IsTup s.heap l xs) (hn : (assignEach tgs env).length = xs.size) (hst : (assignEach tgs env).findIdx? (·.1) = none)
    (q : ∀ h2, Heap.ExtBut s.heap.objs.size s.heap h2 → wpAny (model P w) A (assignInOrder ((assignEach tgs env).map (·.2)) xs.toList) Q E { s with heap := h2 }) : wpAny (model P w) A (assign (.Tuple tgs k pos) env (.ref l)) Q E s := by
  have nl : l ≠ s.heap.objs.size := by
    obtain ⟨u, g, _⟩ := ht
    exact Nat.ne_of_lt (Heap.lt_size g)
  have nx : x1 ≠ s.heap.objs.size := by
    obtain ⟨_, u, _, g, _⟩ := hot
    exact Nat.ne_of_lt (Heap.lt_size g)
  have hall : (xs.toList.drop 0).take xs.size = xs.toList := by rw [List.drop_zero, ← Array.length_toList, List.take_length]
  rw [assign_Tuple]
  unfold unpack unpackItems notIterableAtAll
  rw [hn, hst]
  refine wpAny_bind (wpAny_standAt (wpAny_bind (wpAny_holding (wpAny_bind (wpAny_bind (wpAny_specialOf ht.typeIs PyProof.Rows.slot_tuple_iter.lookup (wpAny_pure ?_)))))))
  simp only [Bool.false_eq_true, if_false]
  refine wpAny_bind (wpAny_holding (iter_tuple ht (wpAny_bind (wpAny_holding (draw_tuple nl xs.size 0 _ _ ⟨_, Heap.get?_push_size _ rfl, rfl, rfl⟩ (ht.push _) (by omega) fun h1 i1 sb => ?_)))))
  rw [hall, if_neg (by simp)]
  have up : ∀ b u, b ≠ s.heap.objs.size → s.heap.get? b = some u → h1.get? b = some u := fun b u n g => sb.extBut b u n (Heap.get?_push_of_some _ g)
  have ov : Over P w A s.heap.objs.size { s with heap := h1 } := over_tuple (s := { s with heap := h1 }) (hot_keep hot fun u g => up _ u nx g) nx i1 ((ht.push _).extBut sb.extBut nl) (by simp)
  refine wpAny_bind (wpAny_holding (ov.next fun h2 k => ?_))
  simp only [Option.isSome_none, Bool.false_eq_true, if_false]
  exact wpAny_pure (q h2 fun b u n g => k b u n (up b u n g))
end
end H
end DL
set_option autoImplicit false
set_option maxRecDepth 100000
set_option maxHeartbeats 4000000
/-! contexts where an exception is handled, and what is walked there -/
namespace DL
namespace H
open PySem PySem.Spec PyProof.Rows L2 HotX
/-- an exception is handled, its context is None; it stands in each state -/
def HotI (X : Cx) : Prop := ∃ p : Addr × Obj, L2H.Hot1 X.A p ∧ ∀ (pins : List (Addr × Obj)) (σ : L2.St) (H : Hp) (s : Shared), Inv X pins σ H s → L2H.PinOk X.stack H s p
section
variable {X : Cx} {pins : List (Addr × Obj)} {σ : L2.St} {H : Hp} {s : Shared}
theorem HotI.of_pin {p : Addr × Obj} (h : L2H.Hot1 X.A p) (hp : p ∈ X.pn) : HotI X := ⟨p, h, fun ps τ G t J => by
  obtain ⟨a1, a2, a3, a4, a5⟩ := J.pin p (List.mem_append_left ps hp)
  refine ⟨a1, a2, fun m => ?_, a5⟩
  rcases List.mem_cons.mp (J.stkSub p.1 m) with e | e
  · exact a3 e
  · exact a4 e⟩
theorem HotI.at (c : HotI X) (I : Inv X pins σ H s) : ∃ x1 u ws, X.A.handled = some (.ref x1) ∧ s.heap.get? x1 = some u ∧ u.data = .fields ws ∧ ws[2]? = some .none ∧ HotAt X.A x1 s.heap := by
  obtain ⟨p, ⟨e, ws, d, n⟩, hp⟩ := c
  have g := (hp _ _ _ _ I).get
  exact ⟨p.1, p.2, ws, e, g, d, n, e, p.2, ws, g, d, n⟩
/-- none of these records is an exception whose context is None -/
def NoX (fp : List Addr) (h : Heap) : Prop := ∀ b ∈ fp, ∀ u ws, h.get? b = some u → u.data = .fields ws → ws[2]? ≠ some .none
theorem NoX.ne {fp : List Addr} {h : Heap} {x1 : Addr} {u : Obj} {ws : Array Value} (n : NoX fp h) (g : h.get? x1 = some u) (d : u.data = .fields ws) (c : ws[2]? = some .none) {b : Addr} (hb : b ∈ fp) : x1 ≠ b := fun e => n b hb u ws (e ▸ g) d c
/-- a comprehension's block -/
theorem HotI.blk {scope : Scope} {cenv : Env} {fp : List Addr} (c : HotI X) (I : Inv X pins σ H s) (n : NoX fp s.heap) : HotI (X.blk s H scope cenv fp) := by
  obtain ⟨p, h1, hp⟩ := c
  obtain ⟨g, fr, nf, nc⟩ := hp _ _ _ _ I
  have hn : p.1 ∉ fp := fun m => by
    obtain ⟨_, ws, d, e⟩ := id h1
    exact n.ne g d e m rfl
  exact ⟨p, h1, fun _ _ _ _ J => ⟨J.base.keep _ _ g fr nf hn, J.base.free _ _ g fr hn, nf, nc⟩⟩
end
/-! ### walks -/
/-- as the library's, an exception is handled -/
structure TurnU (P : Program) (w : World) (K : PySem.W.Frag) (tg : Expr) (J : It) (fp : List Addr) (it : Addr) (St : Nat → Heap → Prop) : Prop where
  has : ∀ {i h}, St i h → ∀ b ∈ fp, ∃ u, h.get? b = some u ∧ ∀ v, u.data ≠ .cell v
  nox : ∀ {i h}, St i h → NoX fp h
  mov : ∀ {i h h2}, St i h → (∀ b ∈ fp, ∀ u, h.get? b = some u → h2.get? b = some u) → St i h2
  more : ∀ {X : Cx} {i : Nat} {pins : List (Addr × Obj)} {s : Shared} {σ : L2.St} {H : Hp} {E : Value → Shared → Prop}, X.prog = P → X.w = w → X.K = K → HotI X → Inv X pins σ H s → (∀ b ∈ fp, FpOk X pins H b) → St i s.heap → J.go i H →
    wpAny (model P w) X.A (pyNext (.ref it)) (fun r t => ∃ u, r = some u ∧ wpAny (model P w) X.A (letOwnedTupleGo tg (.ref it) u) (fun _ t2 => ∃ x G, Inv X pins σ G t2 ∧ RelV x u ∧ J.yld i H x G ∧ St (i + 1) t2.heap ∧ ∀ b ∈ fp, G b = none) E t) E s
  stop : ∀ {X : Cx} {i : Nat} {pins : List (Addr × Obj)} {s : Shared} {σ : L2.St} {H : Hp} {E : Value → Shared → Prop}, X.prog = P → X.w = w → X.K = K → HotI X → Inv X pins σ H s → (∀ b ∈ fp, FpOk X pins H b) → St i s.heap → J.stop i H →
    wpAny (model P w) X.A (pyNext (.ref it)) (fun r t => r = none ∧ Inv X pins σ H t) E s
  self : ∀ {A : Around} {i : Nat} {s : Shared} {Q E : Value → Shared → Prop}, St i s.heap → Q (.ref it) s → wpAny (model P w) A (pyIter (.ref it)) Q E s
theorem nox2 {it : Addr} {h : Heap} {u : Obj} {a b : Value} (g : h.get? it = some u) (d : u.data = .fields #[a, b]) : NoX [it] h := by
  rintro c hc v ws gv dv z
  rw [List.mem_singleton] at hc
  rw [hc, g, Option.some.injEq] at gv
  subst gv
  rw [d, Data.fields.injEq] at dv
  subst dv
  simp at z
/-- the one record of an iterator may have turned -/
theorem one_turned {X : Cx} {pins : List (Addr × Obj)} {σ : L2.St} {H : Hp} {s : Shared} {it : Addr} {h2 : Heap} {tk : Nat} (I : Inv X pins σ H s) (f : FpOk X pins H it) (k : Heap.ExtBut it s.heap h2) : Inv X pins σ H { s with heap := h2, toks := tk } :=
  I.turned (t' := tk) (fun b u n g => k b u n g) f.1 f.2.1 f.2.2.2.1 f.2.2.2.2.1 f.2.2.2.2.2
/-- what is asked of a kind of sequence -/
structure SrcHot (k : SrcK) : Prop where
  rec2 : ∀ {h : Heap} {it l : Addr} {i : Nat}, k.it h it l i → ∃ (u : Obj) (n : String) (a b : Value), h.get? it = some u ∧ u.cls = .type n ∧ u.data = .fields #[a, b] ∧ ["enumerate", "zip", "dict_itemiterator", "dict_reverseitemiterator", "odict_iterator", "itertools.zip_longest", "itertools.pairwise"].contains n = false
  nxt : ∀ {P : Program} {w : World} {A : Around} {s : Shared} {it l : Addr} {i : Nat} {xs : Array Value} {x : Value} {Q : Option Value → Shared → Prop} {E : Value → Shared → Prop}, k.it s.heap it l i → k.is s.heap l xs → xs[i]? = some x → (∀ h2, k.it h2 it l (i + 1) → Heap.SameBut it s.heap h2 → Q (some x) { s with heap := h2 }) → wpAny (model P w) A (pyNext (.ref it)) Q E s
  ovr : ∀ {P : Program} {w : World} {A : Around} {s : Shared} {it l x1 : Addr} {i : Nat} {xs : Array Value}, HotAt A x1 s.heap → x1 ≠ it → k.it s.heap it l i → k.is s.heap l xs → xs[i]? = none → Over P w A it s
  slf : ∀ {P : Program} {w : World} {A : Around} {s : Shared} {it l : Addr} {i : Nat} {Q E : Value → Shared → Prop}, k.it s.heap it l i → Q (.ref it) s → wpAny (model P w) A (pyIter (.ref it)) Q E s
theorem srcL_hot : SrcHot srcL where
  rec2 := fun st => by
    obtain ⟨u, g, c, d⟩ := st
    exact ⟨u, _, _, _, g, c, d, by decide⟩
  nxt := fun st p e q => wpAny_pyNext_list_item st p e q
  ovr := fun hot n st p e => over_list hot n st p e
  slf := fun st q => wpAny_pyIter_listiter st q
theorem srcT_hot : SrcHot srcT where
  rec2 := fun st => by
    obtain ⟨u, g, c, d⟩ := st
    exact ⟨u, _, _, _, g, c, d, by decide⟩
  nxt := fun st p e q => wpAny_pyNext_tuple_item st p e q
  ovr := fun hot n st p e => over_tuple hot n st p e
  slf := fun st q => wpAny_pyIter_tupleiter st q
/-- the sequence at a as it stands -/
def Js (K : PySem.W.Frag) (k : SrcK) (a : Addr) : It :=
  ⟨fun i H => ∃ xs x, k.sq K H a xs ∧ xs[i]? = some x, fun i H x G => G = H ∧ ∀ xs, k.sq K H a xs → xs[i]? = some x, fun i H => ∃ xs, k.sq K H a xs ∧ xs.length ≤ i⟩
theorem turn_src {P : Program} {w : World} {K : PySem.W.Frag} {tg : Expr} {k : SrcK} (o : SrcOk k) (t : SrcHot k) (a it : Addr) : TurnU P w K tg (Js K k a) [it] it (fun i h => k.it h it a i) where
  has := fun st b hb => by
    rw [List.mem_singleton] at hb
    exact hb ▸ o.cel st
  nox := fun st => by
    obtain ⟨u, n, x, y, g, _, d, _⟩ := t.rec2 st
    exact nox2 g d
  mov := fun st m => o.mov st (m it (by simp))
  more := by
    rintro X i pins s σ H E rfl rfl rfl hot I hf st ⟨xs, x, q, e⟩
    obtain ⟨us, rv, p⟩ := o.get I q
    obtain ⟨u, hu, ru⟩ := rv.get e
    refine t.nxt st p (x := u) (by simpa using hu) fun h2 st2 sb => ?_
    obtain ⟨v, n, y, z, g, c, d, nn⟩ := t.rec2 st2
    exact ⟨u, rfl, go_of (s := { s with heap := h2 }) g c d nn ⟨x, H, one_turned (tk := s.toks) I (hf it (by simp)) sb.extBut, ru, ⟨rfl, fun ys hy => by rw [o.inj I hy q]; exact e⟩, st2, fun b hb => (hf b hb).1⟩⟩
  stop := by
    rintro X i pins s σ H E rfl rfl rfl hot I hf st ⟨xs, q, e⟩
    obtain ⟨us, rv, p⟩ := o.get I q
    obtain ⟨x1, u, ws, _, g, d, c, ht⟩ := hot.at I
    obtain ⟨v, n, y, z, g2, _, d2, _⟩ := t.rec2 st
    have hl := rv.length
    exact (t.ovr ht ((nox2 g2 d2).ne g d c (by simp)) st p (by simp; omega)).next fun h2 m => ⟨rfl, one_turned (tk := s.toks) I (hf it (by simp)) m⟩
  self := fun st q => t.slf st q
theorem turn_rng {P : Program} {w : World} {K : PySem.W.Frag} {tg : Expr} (it : Addr) (lo : Int) (n : Nat) : TurnU P w K tg (Itr lo n) [it] it (fun i h => IsRangeIter h it (lo + (i : Nat) * 1) ((n : Int) - (i : Nat)) 1) where
  has := fun st b hb => by
    rw [List.mem_singleton] at hb
    exact ⟨_, hb ▸ st, fun v z => by cases (show Data.fields _ = Data.cell v from z)⟩
  nox := fun st b hb u ws g d z => by
    rw [List.mem_singleton] at hb
    have g2 := (congrArg _ hb).trans st |>.symm.trans g
    cases g2
    cases d
    simp [rawInt] at z
  mov := fun st m => m it (by simp) _ st
  more := by
    rintro X i pins s σ H E rfl rfl rfl hot I hf st (hlt : i < n)
    refine wpAny_pyNext_range_item st (by omega) fun h2 st2 sb => ?_
    have nx : IsRangeIter h2 it (lo + ((i + 1 : Nat) : Int) * 1) ((n : Int) - ((i + 1 : Nat) : Int)) 1 := by
      rw [show lo + ((i + 1 : Nat) : Int) * 1 = lo + ((i : Nat) : Int) * 1 + 1 by omega, show (n : Int) - ((i + 1 : Nat) : Int) = (n : Int) - ((i : Nat) : Int) - 1 by omega]
      exact st2
    exact ⟨_, rfl, go_of (s := { s with heap := h2, toks := s.toks + 1 }) (n := "range_iterator") nx rfl rfl (by decide) ⟨.int (lo + i), H, one_turned I (hf it (by simp)) sb.extBut, ⟨s.toks, by rw [Int.mul_one]⟩, ⟨rfl, rfl⟩, nx, fun b hb => (hf b hb).1⟩⟩
  stop := by
    rintro X i pins s σ H E rfl rfl rfl hot I hf st (hle : n ≤ i)
    obtain ⟨x1, _, _, _, _, _, _, ht⟩ := hot.at I
    exact pyNext_range_end_hot ht st (by omega) fun h2 m => ⟨rfl, one_turned (tk := s.toks) I (hf it (by simp)) fun b u _ g => m b u g⟩
  self := fun st q => wpAny_pyIter_rangeiter st q
/-! ### zip of two tuples -/
theorem draws_hot {P : Program} {w : World} {A : Around} {it l x1 : Addr} {u : Obj} {ws xs : Array Value} (hh : A.handled = some (.ref x1)) (d : u.data = .fields ws) (c : ws[2]? = some .none) (nl : l ≠ it) (nx : x1 ≠ it) :
    Draws P w A it [it, l, x1] xs.size (fun i v => xs[i]? = some v) (fun i h => h.IsTupleIter it l i ∧ h.IsTuple l xs ∧ h.get? x1 = some u) where
  live := fun _ _ ⟨⟨v, g, _⟩, _⟩ => ⟨v, g⟩
  frame := fun _ _ _ ⟨a, b, g⟩ m => ⟨a.at fun v q => m it (by simp) v q, b.at fun v q => m l (by simp) v q, m x1 (by simp) u g⟩
  item := fun i s Q E hi ⟨a, b, g⟩ q => RZ.nextOf_tuple_item a b (x := xs[i]) (by simp [hi]) fun h2 a2 sb => q _ h2 s.toks (by simp [hi]) ⟨a2, b.extBut sb.extBut nl, sb.extBut _ _ nx g⟩ sb
  done := fun s Q E ⟨a, b, g⟩ q => (over_tuple (s := s) ⟨hh, u, ws, g, d, c⟩ nx a b (by simp)).draw q
section
variable {P : Program} {w : World} {K : PySem.W.Frag} {tgs : List Expr} {kk : Nat} {tp : Pos} {a b z TI TO i1 i2 : Addr}
/-- the records of a zip of two tuples -/
def ZipSt (a b z TI TO i1 i2 : Addr) (i : Nat) (h : Heap) : Prop := IsZip h z TI TO .none ∧ IsTupOf2 h TI (.ref i1) (.ref i2) ∧ (∃ x y, IsTupOf2 h TO x y) ∧ h.IsTupleIter i1 a i ∧ h.IsTupleIter i2 b i
theorem zip_five {c : Addr} (h : c ∈ [z, TI, TO, i1, i2]) : c = z ∨ c = TI ∨ c = TO ∨ c = i1 ∨ c = i2 := by simpa using h
theorem zip_nox {i : Nat} {h : Heap} (st : ZipSt a b z TI TO i1 i2 i h) : NoX [z, TI, TO, i1, i2] h := by
  obtain ⟨hz, hI, ⟨x, y, hO⟩, ⟨u1, g1, _, d1⟩, ⟨u2, g2, _, d2⟩⟩ := st
  intro c hc u ws g d q
  rcases zip_five hc with e | e | e | e | e <;> subst e
  · have := (show h.get? c = some _ from hz).symm.trans g
    cases this
    cases d
    simp at q
  · have := (show h.get? c = some _ from hI).symm.trans g
    cases this
    cases d
  · have := (show h.get? c = some _ from hO).symm.trans g
    cases this
    cases d
  · exact nox2 g1 d1 c (by simp) u ws g d q
  · exact nox2 g2 d2 c (by simp) u ws g d q
theorem zip_sep (D : ZipApart z TI TO i1 i2 a b) {x1 : Addr} (n : ∀ c ∈ [z, TI, TO, i1, i2], x1 ≠ c) : ZipSep2 z TI TO i1 i2 [i1, a, x1] [i2, b, x1] := by
  have nz := n z (by simp)
  have nO := n TO (by simp)
  have n1 := n i1 (by simp)
  have n2 := n i2 (by simp)
  refine ⟨D.TIz, D.TOz, D.TITO, D.TIi1, by simp, ?_, ?_, D.TIi2, by simp, ?_, ?_, ?_, ?_⟩ <;> simp only [List.mem_cons, List.not_mem_nil, or_false, not_or]
  · exact ⟨D.i1z.symm, D.l1z.symm, nz.symm⟩
  · exact ⟨D.TOi1, D.l1TO.symm, nO.symm⟩
  · exact ⟨D.i2z.symm, D.l2z.symm, nz.symm⟩
  · exact ⟨D.TOi2, D.l2TO.symm, nO.symm⟩
  · exact ⟨D.i12, D.l2i1.symm, n1.symm⟩
  · exact ⟨D.i12.symm, D.l1i2.symm, n2.symm⟩
theorem turn_zip (D : ZipApart z TI TO i1 i2 a b) : TurnU P w K (.Tuple tgs kk tp) (Jz2 K srcT srcT a b) [z, TI, TO, i1, i2] z (ZipSt a b z TI TO i1 i2) where
  has := fun st c hc => by
    obtain ⟨hz, hI, ⟨x, y, hO⟩, h1, h2⟩ := st
    rcases zip_five hc with e | e | e | e | e <;> subst e
    · exact ⟨_, hz, fun v z => nomatch z⟩
    · exact ⟨_, hI, fun v z => nomatch z⟩
    · exact ⟨_, hO, fun v z => nomatch z⟩
    · exact srcT_ok.cel h1
    · exact srcT_ok.cel h2
  nox := zip_nox
  mov := fun ⟨hz, hI, ⟨x, y, hO⟩, h1, h2⟩ m => ⟨m z (by simp) _ hz, m TI (by simp) _ hI, ⟨x, y, m TO (by simp) _ hO⟩, h1.at fun v g => m i1 (by simp) v g, h2.at fun v g => m i2 (by simp) v g⟩
  more := by
    rintro X i pins s σ H E rfl rfl rfl hot I hf st ⟨xs, ys, x, y, q1, q2, e1, e2⟩
    obtain ⟨x1, u, ws, hh, g, d, c, ht⟩ := hot.at I
    have nn : ∀ c' ∈ [z, TI, TO, i1, i2], x1 ≠ c' := fun c' hc => (zip_nox st).ne g d c hc
    have S := zip_sep D nn
    obtain ⟨hz, hI, ⟨x0, y0, hO⟩, h1, h2⟩ := st
    obtain ⟨s1, r1, p1⟩ := srcT_ok.get I q1
    obtain ⟨s2, r2, p2⟩ := srcT_ok.get I q2
    obtain ⟨w1, hw1, rw1⟩ := r1.get e1
    obtain ⟨w2, hw2, rw2⟩ := r2.get e2
    have D1 := draws_hot (P := X.prog) (w := X.w) (A := X.A.in1) (it := i1) (l := a) (xs := s1.toArray) hh d c D.l1i1 (nn i1 (by simp))
    have D2 := draws_hot (P := X.prog) (w := X.w) (A := X.A.in1) (it := i2) (l := b) (xs := s2.toArray) hh d c D.l2i2 (nn i2 (by simp))
    refine wpAny_pyNext_zipD2_item S D1 D2 hz hI hO ⟨h1, p1, g⟩ ⟨h2, p2, g⟩ (by simpa using (List.getElem?_eq_some_iff.mp hw1).1) (by simpa using (List.getElem?_eq_some_iff.mp hw2).1) fun v1 v2 hh2 tk y1 y2 zz oo d1 d2 pr _ kp => ?_
    obtain rfl : w1 = v1 := by simpa [hw1] using y1
    obtain rfl : w2 = v2 := by simpa [hw2] using y2
    have zl : z < s.heap.objs.size := Heap.lt_size hz
    refine ⟨_, rfl, wpAny_letOwnedTupleGo_zip (s := { s with heap := hh2, toks := tk }) zz fun h3 z3 sb => ?_⟩
    have up : ∀ m v, m ≠ z → hh2.get? m = some v → h3.get? m = some v := fun m v n q => (sb.2 m n).trans q
    have keep : ∀ m v, m ∉ [z, TI, TO, i1, i2] → s.heap.get? m = some v → h3.get? m = some v := fun m v n q => by
      simp only [List.mem_cons, List.not_mem_nil, or_false, not_or] at n
      exact up m v n.1 (kp m v n.1 n.2.2.1 n.2.2.2.1 n.2.2.2.2 q)
    have nw : ObjOk X.prog X.w (upd H s.heap.objs.size (.tup [x, y])) h3 s.heap.objs.size (.tup [x, y]) := ⟨by show 2 ≤ sizeLine; decide, [w1, w2], .cons rw1 (.cons rw2 .nil), ⟨_, up _ _ (Nat.ne_of_gt zl) pr, rfl, _, rfl⟩⟩
    refine ⟨.ref s.heap.objs.size, _, I.turnedNew (t' := tk) (ch := [z, TI, TO, i1, i2]) keep hf (Nat.le_refl _) nw, rfl, ⟨_, x, y, rfl, I.hok.fresh (Nat.le_refl _), rfl, fun l hl => ?_, fun l hl => ?_⟩, ⟨z3, up _ _ D.TIz (kp _ _ D.TIz D.TITO D.TIi1 D.TIi2 hI), ⟨w1, w2, up _ _ D.TOz oo⟩, d1.1.at fun v q => up _ v D.i1z q, d2.1.at fun v q => up _ v D.i2z q⟩, fun m hm => ?_⟩
    · rw [srcT_ok.inj I hl q1]; exact e1
    · rw [srcT_ok.inj I hl q2]; exact e2
    · have lt : m < s.heap.objs.size := by
        obtain ⟨u1, g1, _⟩ := h1
        obtain ⟨u2, g2, _⟩ := h2
        rcases zip_five hm with e | e | e | e | e <;> subst e
        · exact zl
        · exact Heap.lt_size hI
        · exact Heap.lt_size hO
        · exact Heap.lt_size g1
        · exact Heap.lt_size g2
      rw [upd_ne (Nat.ne_of_lt lt)]
      exact (hf m hm).1
  stop := by
    rintro X i pins s σ H E rfl rfl rfl hot I hf st ⟨xs, ys, q1, q2, he⟩
    obtain ⟨x1, u, ws, hh, g, d, c, ht⟩ := hot.at I
    have nn : ∀ c' ∈ [z, TI, TO, i1, i2], x1 ≠ c' := fun c' hc => (zip_nox st).ne g d c hc
    obtain ⟨hz, hI, ⟨x0, y0, hO⟩, h1, h2⟩ := st
    obtain ⟨s1, r1, p1⟩ := srcT_ok.get I q1
    obtain ⟨s2, r2, p2⟩ := srcT_ok.get I q2
    have D1 := draws_hot (P := X.prog) (w := X.w) (A := X.A.in1) (it := i1) (l := a) (xs := s1.toArray) hh d c D.l1i1 (nn i1 (by simp))
    have D2 := draws_hot (P := X.prog) (w := X.w) (A := X.A.in1) (it := i2) (l := b) (xs := s2.toArray) hh d c D.l2i2 (nn i2 (by simp))
    have m1 : xs.length = s1.toArray.size := by rw [r1.length]; simp
    have m2 : ys.length = s2.toArray.size := by rw [r2.length]; simp
    exact wpAny_pyNext_zipD2_end (zip_sep D nn) D1 D2 hz hI hO ⟨h1, p1, g⟩ ⟨h2, p2, g⟩ (by omega) (by omega) (by omega) fun h3 tk kp => ⟨rfl, I.turnedL (t' := tk) (ch := [z, TI, TO, i1, i2]) (fun m v n q => by
      simp only [List.mem_cons, List.not_mem_nil, or_false, not_or] at n
      exact kp m v n.1 n.2.2.1 n.2.2.2.1 n.2.2.2.2 q) hf⟩
  self := fun st q => wpAny_pyIter_zip st.1 q
end
/-! ### what a loop's head gives -/
def Come (X : Cx) (pins : List (Addr × Obj)) (σ : L2.St) (tg : Expr) (R : It → Hp → Prop) (v : Value) (t : Shared) : Prop :=
  ∃ (it : Addr) (fp : List Addr) (St : Nat → Heap → Prop) (J : It) (G : Hp), v = .ref it ∧ Inv X pins σ G t ∧ TurnU X.prog X.w X.K tg J fp it St ∧ St 0 t.heap ∧ (∀ b ∈ fp, FpOk X pins G b) ∧ R J G
structure PI (X : Cx) (tg iter : Expr) (wi : TI) : Prop where
  run : ∀ {pins : List (Addr × Obj)} {s : Shared} {σ : L2.St} {H : Hp} {R : It → Hp → Prop}, Inv X pins σ H s → wi σ H R → wpAny (model X.prog X.w) X.A (eval iter X.env) (fun v t => wpAny (model X.prog X.w) X.A (pyIter v) (Come X pins σ tg R) X.xe t) X.xe s
section
variable {X : Cx} {tg e e2 : Expr}
/-- a new record, one -/
theorem come_new {pins : List (Addr × Obj)} {σ : L2.St} {H : Hp} {s : Shared} {tk : Nat} {u : Obj} {St : Nat → Heap → Prop} {J : It} {R : It → Hp → Prop} (I : Inv X pins σ H s) (T : TurnU X.prog X.w X.K tg J [s.heap.objs.size] s.heap.objs.size St) (st : St 0 (s.heap.push u)) (r : R J H) :
    Come X pins σ tg R (.ref s.heap.objs.size) { s with heap := s.heap.push u, toks := tk } :=
  ⟨_, _, St, J, H, rfl, I.kept (t' := tk) fun b v g => Heap.get?_push_of_some _ g, T, st, fun b hb => by
    rw [List.mem_singleton] at hb
    rw [hb]
    exact I.fpOk (Nat.le_refl _) (I.hok.fresh (Nat.le_refl _)), r⟩
theorem pi_list {tl : TE} (hl : PE X e tl) : PI X tg e (iList X.K tl) := ⟨fun {pins s σ H R} I q => thn (hl.run pins s σ H _ I q) fun v t ⟨x, G, J, rv, a, ex, ⟨xs, hx⟩, r⟩ => by
  subst ex
  obtain rfl : v = Value.ref a := rv
  obtain ⟨us, _, p, _⟩ := J.list hx
  exact wpAny_pyIter_list p.isList (come_new (tk := t.toks) J (turn_src srcL_ok srcL_hot a _) ⟨_, Heap.get?_push_size _ rfl, rfl, rfl⟩ r)⟩
theorem pi_tup {tl : TE} (hl : PE X e tl) : PI X tg e (iTup X.K tl) := ⟨fun {pins s σ H R} I q => thn (hl.run pins s σ H _ I q) fun v t ⟨x, G, J, rv, a, ex, ⟨xs, hx⟩, r⟩ => by
  subst ex
  obtain rfl : v = Value.ref a := rv
  obtain ⟨us, _, p, _⟩ := J.tuple hx
  exact wpAny_pyIter_tuple (show t.heap.IsTuple a us.toArray from p) (come_new (tk := t.toks) J (turn_src srcT_ok srcT_hot a _) ⟨_, Heap.get?_push_size _ rfl, rfl, rfl⟩ r)⟩
theorem pi_range1 {ta : TA} {p pos : Pos} (hg : Gl X "range") (hm : X.mg "range" = none) (ha : PA X [e] ta) (hs : starEach [e] X.env = [(false, eval e X.env)] := by rfl) : PI X tg (.Call (.Name "range" p) [e] [] pos) (iRng1 ta) :=
  ⟨fun {pins s σ H R} I q => Call_ (ld_blt I hg hm boot_range (PyProof.Rows.callWith_type1 (thn (ha.run pos pins s σ H _ I q) fun us t ⟨vs, G, J, rs, j, ev, lo, hi, r⟩ => by
    subst ev
    obtain ⟨k, rfl⟩ : ∃ k, us = [Value.int j k] := by
      cases rs with
      | cons r1 r2 =>
        cases r2
        obtain ⟨k, rfl⟩ := r1
        exact ⟨k, rfl⟩
    refine call_range_1 (wpAny_pyIter_range (IsRange.new ..) (small_one (by omega) (by omega) lo hi) ?_)
    refine come_new (tk := _) (s := { t with heap := t.heap.push _, toks := _ }) (J.kept fun b v g => Heap.get?_push_of_some _ g) (turn_rng _ 0 j.toNat) ?_ r
    have e1 : (0 : Int) + ((0 : Nat) : Int) * 1 = 0 := rfl
    have e2 : ((j.toNat : Nat) : Int) - ((0 : Nat) : Int) = Builtin.Range.rangeSize 0 j 1 := by rw [rangeSize_one]; split <;> omega
    show IsRangeIter _ _ ((0 : Int) + ((0 : Nat) : Int) * 1) (((j.toNat : Nat) : Int) - ((0 : Nat) : Int)) 1
    rw [e1, e2]
    exact Heap.get?_push_size _ rfl) hs rfl))⟩
def iZipT (K : PySem.W.Frag) (ta : TA) : TI := fun σ H R => ta σ H fun vs G => ∃ a b xs ys, vs = [.ref a, .ref b] ∧ SqT K G a xs ∧ SqT K G b ys ∧ R (Jz2 K srcT srcT a b) G
theorem pi_zipT {ta : TA} {p pos tp : Pos} {tgs : List Expr} {kk : Nat} (hg : Gl X "zip") (hm : X.mg "zip" = none) (ha : PA X [e, e2] ta)
    (hs : starEach [e, e2] X.env = (false, eval e X.env) :: starEach [e2] X.env := by rfl) (hpl : (backTo pos (starEach [e2] X.env)).any (·.1) = false := by rfl) : PI X (.Tuple tgs kk tp) (.Call (.Name "zip" p) [e, e2] [] pos) (iZipT X.K ta) :=
  ⟨fun {pins s σ H R} I q => Call_ (ld_blt I hg hm PyProof.Rows.boot_zip (PyProof.Rows.callWith_type1 (thn (ha.run pos pins s σ H _ I q) fun us t ⟨vs, G, J, rs, a, b, xs, ys, ev, qa, qb, r⟩ => by
    subst ev
    obtain rfl : us = [Value.ref a, Value.ref b] := by
      cases rs with
      | cons r1 r2 =>
        cases r2 with
        | cons r2 r3 =>
          cases r1
          cases r2
          cases r3
          rfl
    obtain ⟨u1, _, p1⟩ := srcT_ok.get J (show srcT.sq X.K G a xs from qa)
    obtain ⟨u2, _, p2⟩ := srcT_ok.get J (show srcT.sq X.K G b ys from qb)
    refine RZ.call_zipT p1 p2 fun h2 hz hI hO h1 h2' _ kp => wpAny_pyIter_zip hz ⟨_, _, _, _, G, rfl, J.kept (t' := t.toks) kp, turn_zip (PySem.W.ktu_apart t.heap.objs.size a b (srcT_ok.lts p1) (srcT_ok.lts p2)), ⟨hz, hI, ⟨_, _, hO⟩, h1, h2'⟩, fun c hc => ?_, r⟩
    have le : t.heap.objs.size ≤ c := by
      rcases zip_five hc with e | e | e | e | e <;> rw [e] <;> first | exact Nat.le_refl _ | exact Nat.le_add_right _ _
    exact J.fpOk le (J.hok.fresh le)) hs hpl))⟩
end
end H
end DL
set_option autoImplicit false
set_option maxRecDepth 100000
set_option maxHeartbeats 4000000
/-! comprehensions, targets, all, calls while an exception is handled -/
namespace DL
namespace H
open PySem PySem.Spec PyProof.Rows L2 HotX
section
variable {X : Cx} {pins : List (Addr × Obj)} {σ τ : L2.St} {H G : Hp} {s t : Shared} {scope : Scope} {fp : List Addr}
/-- the environment of a block that starts at s -/
abbrev bEnv (X : Cx) (s : Shared) (scope : Scope) : Env := compEnvC scope (cellsFrom (s.heap.objs.size + 1) scope.names (cloFrom X.env.cells scope.names [])) s.heap.objs.size X.env
/-- the iterator's records, seen from the block -/
theorem fp_in (J : Inv (X.blk s H scope (bEnv X s scope) fp) [] τ G t) (n : ∀ b ∈ fp, G b = none) : ∀ b ∈ fp, FpOk (X.blk s H scope (bEnv X s scope) fp) [] G b := fun b hb => by
  obtain ⟨e1, e2⟩ := J.ok.exf b hb
  exact ⟨n b hb, e1, J.ok.exfs b hb, .inl hb, fun x c q => e2 x c q, fun p hp => by cases hp⟩
/-- from the block back to the def -/
theorem blk_out (I : Inv X pins σ H s) (f : ∀ b ∈ fp, FpOk X pins H b) (J : Inv (X.blk s H scope (bEnv X s scope) fp) [] τ G t) : Inv X pins σ G t ∧ FpOk X pins G s.heap.objs.size ∧ ∃ m, t.heap.Ns s.heap.objs.size m := by
  obtain ⟨m, ns, _⟩ := J.loc
  refine ⟨I.call' (ch := fp) J.os J.base J.hok J.bare fun b hb => ?_, I.fpOk (Nat.le_refl _) (show G (bEnv X s scope).locals = none from J.free), m, ns⟩
  obtain ⟨_, a2, _, a4, a5, a6⟩ := f b hb
  exact ⟨a4, a2, a5, a6⟩
/-- what is pinned for one turn still stands behind it -/
theorem after_pins {Y : Cx} {h : Heap} (J : Inv Y ([] ++ pinsAt fp h) τ G t) {b : Addr} (hb : b ∈ fp) {u : Obj} (g : h.get? b = some u) : t.heap.get? b = some u ∧ G b = none := by
  have := J.pin (b, u) (List.mem_append_right _ (List.mem_append_right _ (mem_pinsAt hb g)))
  exact ⟨this.1, this.2.1⟩
variable {tg elt iter : Expr} {ifs : List Expr} {own : List (Str × Nat)} {g : TG} {tt : TT} {te : TE} {pos : Pos}
/-- the turns of a list comprehension -/
theorem lc_turns {J : It} {it D : Addr} {St : Nat → Heap → Prop} {W : Nat → Nat → Hp → Prop} {Q : VK} {R : Result → Shared → Prop} {m0 : Nat} (hot : HotI X) (hN : X.N.Nodup) (ok : BlkOk X.N X.env.scope scope own) (I : Inv X pins σ H s) (T : TurnU X.prog X.w X.K tg J fp it St) (st : St 0 s.heap)
    (f : ∀ b ∈ fp, FpOk X pins H b ∧ b < s.heap.objs.size) (pg : PG (X.blk s H scope (bEnv X s scope) fp) tg g) (pt : PTs (X.blk s H scope (bEnv X s scope) fp) ifs tt) (pe : PE (X.blk s H scope (bEnv X s scope) fp) elt te) (w0 : W 0 m0 H)
    (step : ∀ i m G, W i m G → (J.stop i G ∧ Q (.ref D) G) ∨ (J.go i G ∧ ∃ Nx : Hp → Prop, (∀ G2, Nx G2 → ∃ m2, m2 < m ∧ W (i + 1) m2 G2) ∧ ∀ x G2, J.yld i G x G2 → g x (wipe σ (own.map (·.2))) G2 fun σ2 G3 => wipe σ2 (own.map (·.2)) = wipe σ (own.map (·.2)) ∧ tt σ2 G3 fun b G4 =>
      if b = true then te σ2 G4 fun y G5 => ∃ acc, G5 D = some (.lst acc) ∧ acc.length < sizeLine ∧ Nx (upd G5 D (.lst (acc ++ [y]))) else Nx G4))
    (fin : ∀ {G t m}, Inv X pins σ G t → Q (.ref D) G → t.heap.Ns s.heap.objs.size m → FpOk X pins G s.heap.objs.size → R (.ok .next) t) :
    codeAny (model X.prog X.w) X.A (.compStart (.ListComp elt [⟨tg, iter, ifs, 0⟩] scope pos) 0 (.ref it) (.ref D) (bEnv X s scope)) R { s with heap := pushCells (s.heap.push { cls := .type "dict", data := .dict #[] }) scope.names } := by
  have hotB : HotI (X.blk s H scope (bEnv X s scope) fp) := hot.blk I (T.nox st)
  have J0 := block_start I ok hN f
  have st0 : St 0 ({ s with heap := pushCells (s.heap.push { cls := .type "dict", data := .dict #[] }) scope.names } : Shared).heap := T.mov st fun b _ u q => pushCells_keeps _ _ _ _ (Heap.get?_push_of_some _ q)
  generalize ({ s with heap := pushCells (s.heap.push { cls := .type "dict", data := .dict #[] }) scope.names } : Shared) = t0 at J0 st0 ⊢
  have loop : codeAny (model X.prog X.w) X.A (.compLoop (.ListComp elt [⟨tg, iter, ifs, 0⟩] scope pos) 0 (.ref it) (.ref D) (bEnv X s scope)) R t0 := by
    refine compLoop_any (fun n t => ∃ i G, Inv (X.blk s H scope (bEnv X s scope) fp) [] (wipe σ (own.map (·.2))) G t ∧ St i t.heap ∧ (∀ b ∈ fp, G b = none) ∧ W i n G) (fun n t ⟨i, G, J, sti, no, w⟩ => ?_) m0 ⟨0, H, J0, st0, fun b hb => (f b hb).1.1, w0⟩
    rcases step i n G w with ⟨sp, q⟩ | ⟨go, Nx, hx, nx⟩
    · refine thnF (T.stop (X := X.blk s H scope (bEnv X s scope) fp) rfl rfl rfl hotB J (fp_in J no) sti sp) fun r t1 ⟨hr, J1⟩ => ?_
      subst hr
      obtain ⟨K, fC, m, ns⟩ := blk_out I (fun b hb => (f b hb).1) J1
      exact fin K q ns fC
    · refine thnF (T.more (X := X.blk s H scope (bEnv X s scope) fp) rfl rfl rfl hotB J (fp_in J no) sti go) fun r t1 ⟨u, hr, nt⟩ => ?_
      subst hr
      refine thnF nt fun _ t2 ⟨x, G2, J2, rx, yd, st2, no2⟩ => ?_
      refine thnF (pg.run _ t2 _ G2 x u _ (J2.pinned (fp_in J2 no2) (T.has st2)) rx (nx x G2 yd)) fun _ t3 ⟨σ3, G3, J3, hw, q3⟩ => ?_
      refine thnF (pt.run _ t3 σ3 G3 _ J3 q3) fun b t4 ⟨G4, J4, q4⟩ => ?_
      have next : ∀ {t5 : Shared} {G5 : Hp}, Inv (X.blk s H scope (bEnv X s scope) fp) ([] ++ pinsAt fp t2.heap) σ3 G5 t5 → Nx G5 → ∃ m, m < n ∧ ∃ i G, Inv (X.blk s H scope (bEnv X s scope) fp) [] (wipe σ (own.map (·.2))) G t5 ∧ St i t5.heap ∧ (∀ b ∈ fp, G b = none) ∧ W i m G := fun {t5 G5} J5 z => by
        obtain ⟨m2, lt, w2⟩ := hx _ z
        refine ⟨m2, lt, i + 1, G5, J5.unpinned.weak (by rw [← hw, wipe_length]) (fun j v e => (wipe_some (hw ▸ e)).1), T.mov st2 fun b hb v q => (after_pins J5 hb q).1, fun b hb => ?_, w2⟩
        obtain ⟨v, q, _⟩ := T.has st2 b hb
        exact (after_pins J5 hb q).2
      cases b with
      | false => exact next J4 q4
      | true => exact thnF (pe.run _ t4 σ3 G4 _ J4 q4) fun z t5 ⟨y, G5, J5, ry, acc, hD, lt, z5⟩ => app_ok (X := X.blk s H scope (bEnv X s scope) fp) J5 hD lt ry fun t6 J6 => next J6 z5
  exact codeAny_compStart_list loop (T.self st0 loop)
theorem pe_lc {wi : TI} (hot : HotI X) (hN : X.N.Nodup) (hi : DL.H.PI X tg iter wi) (ok : BlkOk X.N X.env.scope scope own)
    (hg : ∀ (s : Shared) (H : Hp) (C : Addr) (cl : List (Str × Addr)) (fp : List Addr), HotI (X.blk s H scope (compEnvC scope cl C X.env) fp) → PG (X.blk s H scope (compEnvC scope cl C X.env) fp) tg g)
    (ht : ∀ (s : Shared) (H : Hp) (C : Addr) (cl : List (Str × Addr)) (fp : List Addr), HotI (X.blk s H scope (compEnvC scope cl C X.env) fp) → PTs (X.blk s H scope (compEnvC scope cl C X.env) fp) ifs tt)
    (he : ∀ (s : Shared) (H : Hp) (C : Addr) (cl : List (Str × Addr)) (fp : List Addr), HotI (X.blk s H scope (compEnvC scope cl C X.env) fp) → PE (X.blk s H scope (compEnvC scope cl C X.env) fp) elt te)
    (hs : ∀ x, foldedSetIterable iter X.env x = pure x := by intro _; rfl) : PE X (.ListComp elt [⟨tg, iter, ifs, 0⟩] scope pos) (tLc wi g tt te (own.map (·.2))) := ⟨fun pins s σ H Q I q => by
  have fr : ∀ y ∈ scope.names, y.2 = .free → ∃ c, X.env.cells.lookup y.1 = some c := fun y hy e => (ok.free y hy e).elim (fun z => I.ok.has _ (.inl z)) fun z => I.ok.has _ (.inr z)
  rw [eval_ListComp]
  refine wpAny_comprehension_free (use := none) rfl hs (closure_ok fr) ok.kind (fun y hy e => (ok.uniq y hy).trans (by rw [e])) (thn (hi.run I q) fun _ s1 c1 => thn c1 fun v s2 ⟨it, fp, SS, J, G, ev, I2, T, st2, f2, rest⟩ => ?_)
  subst ev
  refine wpAny_newObj_type (newEnv_comp ?_) (Nat.zero_le _)
  obtain ⟨W, ⟨m0, w0⟩, step⟩ := rest s2.heap.objs.size (I2.hok.fresh (Nat.le_refl _))
  have I3 := I2.laid (t' := s2.toks) (h' := s2.heap.push { cls := .type "list", data := .seq ([] : List Value).toArray }) (a := s2.heap.objs.size) (o := .lst []) (fun b u g => Heap.get?_push_of_some _ g) (Nat.le_refl _) ⟨Nat.zero_le _, [], 0, .nil, Heap.get?_push_size _ rfl⟩
  have lt2 : ∀ b ∈ fp, b < s2.heap.objs.size := fun b hb => by
    obtain ⟨u, g, _⟩ := T.has st2 b hb
    exact Heap.lt_size g
  have up2 : ∀ b u, s2.heap.get? b = some u → (s2.heap.push { cls := .type "list", data := .seq ([] : List Value).toArray }).get? b = some u := fun b u g => Heap.get?_push_of_some _ g
  have st3 : SS 0 (s2.heap.push { cls := .type "list", data := .seq ([] : List Value).toArray }) := T.mov st2 fun b _ u g => up2 b u g
  have hotB := hot.blk (scope := scope) (cenv := bEnv X { s2 with heap := s2.heap.push { cls := .type "list", data := .seq ([] : List Value).toArray } } scope) I3 (T.nox st3)
  refine lc_turns (s := { s2 with heap := s2.heap.push { cls := .type "list", data := .seq ([] : List Value).toArray } }) hot hN ok I3 T st3 (fun b hb => ⟨⟨?_, (f2 b hb).2⟩, ?_⟩) (hg _ _ _ _ _ hotB) (ht _ _ _ _ _ hotB) (he _ _ _ _ _ hotB) w0 step fun {G2 t m} K q ns fC => ⟨m, ns, fun h2 sb => ⟨.ref s2.heap.objs.size, G2, one_turned (tk := t.toks) K fC sb.extBut, rfl, q⟩⟩
  · rw [upd_ne (Nat.ne_of_lt (lt2 b hb))]
    exact (f2 b hb).1
  · rw [Heap.size_push]
    exact Nat.lt_succ_of_lt (lt2 b hb)⟩
/-- a tuple as a target -/
theorem pg_tup {es : List Expr} {k : Nat} {gs : TGs} {n : Nat} (c : HotI X) (h : PGs X es gs) (hn : (assignEach es X.env).length = n := by rfl) (hst : (assignEach es X.env).findIdx? (·.1) = none := by rfl) : PG X (.Tuple es k pos) (gTup X.K n gs) := ⟨fun pins s σ H v u Q I r ⟨a, xs, e, hx, hl, q⟩ => by
  subst e
  obtain rfl : u = Value.ref a := r
  obtain ⟨us, rv, p, _⟩ := I.tuple hx
  obtain ⟨x1, _, _, _, _, _, _, ht⟩ := c.at I
  have hlen := rv.length
  refine asg_tup_hot ht p (by rw [List.size_toArray]; omega) hst fun h2 m => ?_
  exact h.run pins _ σ H xs us Q (I.kept (t' := s.toks) fun b v g => m b v (Nat.ne_of_lt (Heap.lt_size g)) g) rv q⟩
/-- all of a list of bools -/
theorem cr_all (c : HotI X) : CallR X (.builtin "all") (rAll X.K) := fun pins s σ H vs us Q I r ⟨a, bs, ev, hx, q⟩ => by
  subst ev
  obtain ⟨its, rv, p, _⟩ := I.list hx
  obtain ⟨x1, u, ws, hh, g, d, n, _⟩ := c.at I
  have nx : x1 ≠ s.heap.objs.size := Nat.ne_of_lt (Heap.lt_size g)
  have W : ∀ {na : a ≠ s.heap.objs.size}, Walks X.prog X.w X.A.in1 s.heap.objs.size [s.heap.objs.size, a, x1] [s.heap.objs.size] its.toArray.size (fun i v => its.toArray[i]? = some v) (fun i h => h.IsListIter s.heap.objs.size a i ∧ h.IsList a its.toArray ∧ h.get? x1 = some u) := fun {na} =>
    { sub := fun b hb => by rw [List.mem_singleton] at hb; simp [hb]
      frame := fun _ _ _ ⟨s1, s2, s3⟩ m => ⟨s1.at fun v e => m _ (by simp) v e, s2.at fun v e => m _ (by simp) v e, m x1 (by simp) u s3⟩
      item := fun i t _ _ hi ⟨s1, s2, s3⟩ k => wpAny_pyNext_list_item s1 s2 (x := its.toArray[i]) (by simp [hi]) fun h2 i2 sb => k _ h2 t.toks (by simp [hi]) ⟨i2, s2.extBut sb.extBut na, sb.extBut _ _ nx s3⟩ fun b v hb e => sb.extBut b v (fun z => hb (by simp [z])) e
      done := fun t _ _ ⟨s1, s2, s3⟩ k => (over_list (A := X.A.in1) (s := t) ⟨hh, u, ws, s3, d, n⟩ nx s1 s2 (by simp)).next fun h2 m => k h2 t.toks fun b v hb e => m b v (fun z => hb (by simp [z])) e
      self := fun _ _ _ _ ⟨s1, _⟩ k => wpAny_pyIter_listiter s1 k }
  rw [Vals.ref1 r]
  refine call_all_walk (iter_any p.isList fun t et ⟨j1, j2⟩ na => ?_)
  subst et
  refine ⟨_, _, _, _, _, _, _, rfl, W (na := na), ⟨j1, j2, Heap.get?_push_of_some _ g⟩, truth_bools rv.bls, fun h2 tk m => ⟨.bl _, H, I.kept fun b v e => m b v (fun hb => ?_) (Heap.get?_push_of_some _ e), ?_, q⟩⟩
  · rw [List.mem_singleton] at hb
    exact Nat.lt_irrefl _ (hb ▸ Heap.lt_size e)
  · show Value.bool _ = Value.bool _
    rw [← L2.all_range, rv.bls, List.size_toArray, List.length_map]
/-! ### defs and calls -/
structure Room (k : Nat) (A : Around) : Prop where
  dp : A.depth + 3 * k + 5 < recursionLimit
  un : A.units + 16 * k + 200 < cLine
theorem Room.mono {j k : Nat} {A : Around} (r : Room k A) (h : j ≤ k) : Room j A := by
  obtain ⟨a, b⟩ := r
  exact ⟨by omega, by omega⟩
theorem Room.units {k : Nat} {A : Around} (r : Room k A) : A.units + 64 < cLine := by
  obtain ⟨_, b⟩ := r
  omega
theorem Room.up {k : Nat} {A : Around} (r : Room k A) : L2H.RoomH k A := ⟨r.1, r.2⟩
theorem fn_of {CX : CXT} {P : Program} {w : World} {K : PySem.W.Frag} {mg : Str → Option Value} {base : Heap} {k : Nat} {f : Addr} {name qual : Str} {pr : Arguments} {body : List Stmt} {sc : Scope} {dV kV doc pm cdv ct oc : Value} {an od : Option Addr} {sl : Array (Option Value)} {N ps : List Str} {sp : Sp}
    (lk : K.lookup f = some ⟨oc, od, .func (PySem.W.fnOf name qual pr body sc dV kV doc pm an cdv ct), sl⟩) (hcd : PySem.W.codeIn K cdv qual = true) (S : FnScope N ps sc) (len : ∀ vs H Q E, sp vs H Q E → vs.length = ps.length)
    (hb : ∀ (A : Around) (outer : List Env) (s : Shared) (H : Hp) (vs : List V) (Q : VK) (E : XK) (p : Addr × Obj), HotI (L2H.cxH CX P w K mg base N qual sc f cdv A outer s H E p) → L2H.HotC (L2H.cxH CX P w K mg base N qual sc f cdv A outer s H E p) → Room k (A.deeper (envOfC qual sc s.heap.objs.size f cdv)) → sp vs H Q E →
      ∃ t, PSs (L2H.cxH CX P w K mg base N qual sc f cdv A outer s H E p) body t ∧ t { nx := fun _ G => Q .non G, rt := Q } (L2.start N vs) H) :
    L2H.FnH P w K mg base CX (k + 1) f (PySem.W.fnOf name qual pr body sc dV kV doc pm an cdv ct) ps sp :=
  L2H.fn_ofH lk hcd S len fun A outer s H vs Q E p h1 r w1 => hb A outer s H vs Q E p (.of_pin h1 (List.mem_singleton.mpr rfl)) ⟨p, h1, List.mem_singleton.mpr rfl⟩ ⟨r.dp, r.un⟩ w1
section
variable {CX : CXT} {k : Nat} {f : Addr} {fd : FuncData} {ps : List Str} {sp : Sp} {E : L2.St → XK} {x : Str} {q : Pos} {e : Expr} {es : List Expr} {ta : TA}
/-- a call of a def that is known to run there -/
theorem pe_call (Fn : L2H.FnH X.prog X.w X.K X.mg X.base CX k f fd ps sp) (room : Room k X.A) (c : HotI X) (hg : Gl X x) (hm : X.mg x = some (.ref f)) (hk : PySem.W.keepIn X.K (.ref f) = true) (hb : Binds X.K fd ps []) (hx : ∀ σ, PassesAt CX X σ (E σ)) (ha : PA X (e :: es) ta)
    (hdb : (x == ("__debug__" : Str)) = false := by decide) (he : starEach (e :: es) X.env = (false, eval e X.env) :: starEach es X.env := by rfl) (hpl : (backTo pos (starEach es X.env)).any (·.1) = false := by rfl) : PE X (.Call (.Name x q) (e :: es) [] pos) (tCallS sp E ta) := ⟨fun pins s σ H Q I w => by
  obtain ⟨p, hot, hp⟩ := c
  refine wpAny_Call_Name_kw (ld_glob I hg hm (PySem.W.callWith_K (h₀ := X.base) I.ok.mod.kin hk (thn (ha.run pos pins s σ H _ I w) fun us t ⟨vs, G, J, rv, z⟩ => ⟨J.kIn, ?_⟩) he hpl) hdb)
  have hl : us.length = ps.length := rv.length.symm.trans (Fn.len _ _ _ _ z)
  have bt := hb t us J.kIn (by rw [List.append_nil]; exact hl)
  rw [List.append_nil] at bt
  refine wpAny_call (codeAny_mono (Fn.run X.A X.stack t G ⟨us, []⟩ us vs Q (E σ) p room.up hot (hp _ _ _ _ J) J.env0 bt rv z) fun r t2 out => ?_)
  match r, out with
  | .error u, out => exact hx σ pins G t u t2 J out
  | .ok (.ret u), out => exact J.after out
  | .ok .next, out => exact out.elim
  | .ok .brk, out => exact out.elim
  | .ok .cont, out => exact out.elim⟩
end
end
end H
end DL
set_option autoImplicit false
set_option maxRecDepth 100000
set_option maxHeartbeats 4000000
/-! printed by hotcopy.py: rules of the layer, for contexts where an exception is handled -/
namespace DL
namespace H
open PySem PySem.Spec PyProof.Rows L2 HotX
/-! ### where one stands: as in DLb, an exception is handled -/
structure XOk (G : GX) (L : LX) (X : Cx) : Prop where
  hP : X.prog = G.P
  hw : X.w = G.w
  hK : X.K = G.K
  hm : X.mg = G.mg
  hb : X.base = G.base
  hN : X.N = L.N
  nd : L.N.Nodup
  hsc : X.env.scope = L.sc
  hfn : X.fn = L.ow
  hot : HotI X
  room : Room L.k X.A
theorem XOk.blk {G : GX} {L : LX} {X : Cx} (h : XOk G L X) (s : Shared) (H : Hp) (scope : Scope) (C : Addr) (cl : List (Str × Addr)) (fp : List Addr) (hot : HotI (X.blk s H scope (compEnvC scope cl C X.env) fp)) : XOk G (L.blk scope) (X.blk s H scope (compEnvC scope cl C X.env) fp) :=
  ⟨h.hP, h.hw, h.hK, h.hm, h.hb, h.hN, h.nd, by show relS scope X.env.scope = relS scope L.sc; rw [h.hsc], rfl, hot, h.room⟩
theorem wkI {X : Cx} {tg iter : Expr} {t t' : TI} (h : PI X tg iter t) (w : ∀ σ H R, t' σ H R → t σ H R) : PI X tg iter t' := ⟨fun I q => h.run I (w _ _ _ q)⟩
theorem PI.or {X : Cx} {tg iter : Expr} {t t' : TI} (h : PI X tg iter t) (h' : PI X tg iter t') : PI X tg iter (fun σ H R => t σ H R ∨ t' σ H R) := ⟨fun I q => q.elim (h.run I) (h'.run I)⟩
def FnD (G : GX) (k : Nat) (x : Str) (n : Nat) (g : List D → Option D) : Prop := ∃ (f : Addr) (fd : FuncData) (ps : List Str), ps.length = n ∧ L2H.FnH G.P G.w G.K G.mg G.base CX0 k f fd ps (spD G.K n g) ∧ G.mg x = some (.ref f) ∧ PySem.W.keepIn G.K (.ref f) = true ∧ Binds G.K fd ps []
def zipTD : List D → Option (List D)
  | [.tup xs, .tup ys] => some (zip2 xs ys)
  | _ => none

section
open PySem PySem.Spec PyProof.Rows L2
section
variable {K : PySem.W.Frag} {F F' H H' H1 H2 F1 F2 B F0 : Hp}
end
def EOk (G : GX) (L : LX) (ρ : List Sl) (e : Expr) (m : Option D) : Prop := ∀ X, XOk G L X → PE X e (tE G.K ρ m)
def FOk (G : GX) (L : LX) (ρ : List Sl) (e : Expr) (m : Option D) : Prop := ∀ X, XOk G L X → PE X e (tF G.K ρ m)
def TOk (G : GX) (L : LX) (ρ : List Sl) (e : Expr) (m : Option Bool) : Prop := ∀ X, XOk G L X → PT X e (tT G.K ρ m)
def WOk (G : GX) (L : LX) (ρ : List Sl) (e : Expr) (m : Option Bool) : Prop := ∀ X, XOk G L X → PW X e (tT G.K ρ m)
def AOk (G : GX) (L : LX) (ρ : List Sl) (es : List Expr) (m : Option (List D)) : Prop := ∀ X, XOk G L X → PA X es (tA G.K ρ m)
section
variable {G : GX} {L : LX} {ρ : List Sl} {e a b : Expr} {m ma mb : Option D} {pos : Pos}
theorem e_new (h : FOk G L ρ e m) : EOk G L ρ e m := fun X hX => wkE (h X hX) fun σ H Q ⟨F, d, em, r, q⟩ => ⟨F, d, em, r, fun p o F' H' x n ho r' hF => by
  have s2 : Same F' (upd F' p o) := fun b u e => by
    by_cases hb : b = p
    · subst hb; rw [hF] at e; cases e
    · rw [upd_ne hb]; exact e
  have e2 : Ext F H (upd F' p o) H' := ⟨x.heap, x.froz.trans s2, fun b u e => by
    by_cases hb : b = p
    · subst hb; rw [upd_same] at e; cases e; exact .inl ho
    · rw [upd_ne hb] at e; exact x.sub b u e, fun b u e z => by
    by_cases hb : b = p
    · subst hb; exact .inl n
    · rw [upd_ne hb] at e; exact x.new b u e z⟩
  exact q _ _ _ e2 (r'.rep upd_same s2)⟩
theorem e_var (i : Nat) {x : Str} {d : D} (h : nthS ρ i = .val d := by rfl) (hN : L.N[i]? = some x := by rfl) (hv : Vis L.sc x := by first | exact Or.inl rfl | exact Or.inr (Or.inl rfl) | exact Or.inr (Or.inr rfl))
    (hd : (x == ("__debug__" : Str)) = false := by decide) (hcd : (x == ("__classdict__" : Str)) = false := by decide) : EOk G L ρ (.Name x pos) (some d) := fun X hX =>
  wkE (pe_var (i := i) (by rw [hX.hN]; exact hN) (by rw [hX.hsc]; exact hv) hd hcd) fun σ H Q ⟨F, d', em, r, q⟩ => by
    cases em
    obtain ⟨v, e1, e2⟩ := r.vals i d h
    exact ⟨v, e1, q v F H (.refl r.sub) e2⟩
theorem e_const {v : V} {d : D} (h : ∀ X, XOk G L X → PE X e (tC v)) (hr : ∀ K F, Rep K F d v) : EOk G L ρ e (some d) := fun X hX =>
  wkE (h X hX) fun σ H Q ⟨F, d', em, r, q⟩ => by cases em; exact q v F H (.refl r.sub) (hr _ _)
theorem e_int {i j} : EOk G L ρ (.Constant (.int i) j pos) (some (.int i)) := e_const (fun _ _ => pe_int) fun _ _ => by unfold Rep; rfl
theorem e_bl {i j} : EOk G L ρ (.Constant (.bool i) j pos) (some (.bl i)) := e_const (fun _ _ => pe_bl) fun _ _ => by unfold Rep; rfl
theorem e_non {j} : EOk G L ρ (.Constant .none j pos) (some .non) := e_const (fun _ _ => pe_non) fun _ _ => by unfold Rep; rfl
theorem e_str {x j} : EOk G L ρ (.Constant (.str x) j pos) (some (.str x)) := e_const (fun _ _ => pe_str) fun _ _ => by unfold Rep; rfl
theorem e_glob {x : Str} {v : V} {d : D} {u : Value} (hg : L.sc.names.lookup x = some .globalImplicit) (hm : G.mg x = some u) (r : RelV v u) (hr : ∀ K F, Rep K F d v) (hd : (x == ("__debug__" : Str)) = false := by decide) : EOk G L ρ (.Name x pos) (some d) :=
  e_const (fun X hX => pe_glob (by show X.env.scope.names.lookup x = _; rw [hX.hsc]; exact hg) (by rw [hX.hm]; exact hm) r hd) hr

def OpD (G : GX) (L : LX) (f : D → D → Option D) (g : Value → Value → Sem Value) : Prop := ∀ X, XOk G L X → ∃ r : R2, OpR X g r ∧
  ∀ F H d1 d2 d v1 v2 Q, Sub F H → Rep G.K F d1 v1 → Rep G.K F d2 v2 → f d1 d2 = some d → (∀ v F' H', Ext F H F' H' → Rep G.K F' d v → Q v H') → r v1 v2 H Q
theorem e_op {op : Operator} {f : D → D → Option D} (ho : OpD G L f (binaryOp op)) (ha : EOk G L ρ a ma) (hb : EOk G L ρ b mb) : EOk G L ρ (.BinOp a op b pos) (E2 f ma mb) := fun X hX => by
  obtain ⟨r, h1, h2⟩ := ho X hX
  exact wkE (pe_op h1 (ha X hX) (hb X hX)) fun σ H Q ⟨F, d, em, vr, q⟩ => two (X := X) em vr q h2
theorem e_cmp {op : CmpOp} {f : D → D → Option D} (ho : OpD G L f (compareOp op)) (ha : EOk G L ρ a ma) (hb : EOk G L ρ b mb) (hm : behindInMarks op b = false := by first | exact nomark _ | with_unfolding_all rfl) : EOk G L ρ (.Compare a [op] [b] pos) (E2 f ma mb) := fun X hX => by
  obtain ⟨r, h1, h2⟩ := ho X hX
  exact wkE (pe_cmpR h1 (ha X hX) (hb X hX) hm) fun σ H Q ⟨F, d, em, vr, q⟩ => two (X := X) em vr q h2
theorem t_cmp {op : CmpOp} {f : D → D → Option D} (ho : OpD G L f (compareOp op)) (ha : EOk G L ρ a ma) (hb : EOk G L ρ b mb) (hm : behindInMarks op b = false := by first | exact nomark _ | with_unfolding_all rfl) : TOk G L ρ (.Compare a [op] [b] pos) ((E2 f ma mb).bind getB) := fun X hX => by
  obtain ⟨r, h1, h2⟩ := ho X hX
  refine wkT (pt_cmpR h1 (ha X hX) (hb X hX) hm) fun σ H Q ⟨F, d, em, vr, q⟩ => ?_
  obtain ⟨y, ey, eb⟩ := Option.bind_eq_some_iff.mp em
  exact two (X := X) ey vr (fun v F' H' x rr => ⟨d, rep_bl eb rr, q F' H' x⟩) h2
theorem e_neg (ha : EOk G L ρ a ma) : EOk G L ρ (.UnaryOp .USub a pos) (ma.bind fun d => match d with | .int i => some (.int (-i)) | _ => none) := fun X hX =>
  wkE (pe_un un_neg (ha X hX)) fun σ H Q ⟨F, d, em, vr, q⟩ => by
    obtain ⟨y, ey, eb⟩ := Option.bind_eq_some_iff.mp em
    refine ⟨F, y, ey, vr, fun v F' H' x rr => ?_⟩
    cases y with
    | int i => cases eb; unfold Rep at rr; exact ⟨i, rr, q _ F' H' x (by unfold Rep; rfl)⟩
    | _ => cases eb

theorem t_tru (h : EOk G L ρ e m) (he : ∀ env whole, isTrue e env whole = (do let v ← whole; standAt e.pos; holding [v] (truthy v)) := by intro _ _; rfl) : TOk G L ρ e (m.bind truD) := fun X hX =>
  wkT (pt_truth (h X hX) (he _)) fun σ H Q ⟨F, d, em, vr, q⟩ => by
    obtain ⟨y, ey, eb⟩ := Option.bind_eq_some_iff.mp em
    refine ⟨F, y, ey, vr, fun v F' H' x rr => ⟨d, ?_, q F' H' x⟩⟩
    rw [hX.hK]
    cases y with
    | non => cases eb; unfold Rep at rr; subst rr; rfl
    | bl b => cases eb; unfold Rep at rr; subst rr; rfl
    | int b => cases eb; unfold Rep at rr; subst rr; rfl
    | lst ds =>
      cases eb
      unfold Rep at rr
      obtain ⟨p, vs, rfl, hl, hr⟩ := rr
      exact .inl ⟨vs, lst_sq hl x.sub, by rw [isEmpty_reps hr]⟩
    | tup ds =>
      cases eb
      unfold Rep at rr
      obtain ⟨p, vs, rfl, hl, hr⟩ := rr
      exact .inr (.inl ⟨vs, tup_sq hl x.sub, by rw [isEmpty_reps hr]⟩)
    | str => cases eb
    | dI => cases eb
    | dT => cases eb
    | rg => cases eb
    | scr => cases eb
end
end
section
open PySem PySem.Spec PySem.SeqAt PyProof.Rows L2
open PySem.W (dataLt alike alikeAll lt_data gt_data le_data ge_data)
section
variable {K : PySem.W.Frag} {F H : Hp}
end
section
variable {G : GX} {L : LX}
theorem opd_eq : OpD G L eqD (compareOp .Eq) := fun X hX => ⟨_, op_eqD hX.room.units, fun F H d1 d2 d v1 v2 Q s r1 r2 e q => by
  unfold eqD at e
  split at e
  · rename_i h
    cases e
    rw [Bool.and_eq_true] at h
    obtain ⟨p1, q1⟩ := okD_iff h.1
    obtain ⟨p2, q2⟩ := okD_iff h.2
    rw [hX.hK]
    exact ⟨toPy d1, toPy d2, dp_of s _ _ p1 r1, dp_of s _ _ p2 r2, shaped_of p1 q1, shaped_of p2 q2, q _ _ _ (.refl s) rep_b⟩
  · cases e⟩
theorem opd_ne : OpD G L neD (compareOp .NotEq) := fun X hX => ⟨_, op_neD hX.room.units, fun F H d1 d2 d v1 v2 Q s r1 r2 e q => by
  unfold neD at e
  split at e
  · rename_i h
    cases e
    rw [Bool.and_eq_true] at h
    obtain ⟨p1, q1⟩ := okD_iff h.1
    obtain ⟨p2, q2⟩ := okD_iff h.2
    rw [hX.hK]
    exact ⟨toPy d1, toPy d2, dp_of s _ _ p1 r1, dp_of s _ _ p2 r2, shaped_of p1 q1, shaped_of p2 q2, q _ _ _ (.refl s) rep_b⟩
  · cases e⟩
theorem cmp_rule {X : Cx} (hX : XOk G L X) {g : PyData → PyData → Bool} {F H : Hp} {d1 d2 d : D} {v1 v2 : V} {Q : VK} (s : Sub F H) (r1 : Rep G.K F d1 v1) (r2 : Rep G.K F d2 v2)
    (e : (if cmpOk d1 d2 then some (D.bl (g (toPy d1) (toPy d2))) else none) = some d) (q : ∀ v F' H', Ext F H F' H' → Rep G.K F' d v → Q v H') : rCmpD X.K X.A.units g v1 v2 H Q := by
  split at e
  · rename_i h
    cases e
    obtain ⟨a, b, c, d, h3, h4⟩ := cmpOk_iff h
    rw [hX.hK]
    refine ⟨toPy d1, toPy d2, dp_of s _ _ a r1, dp_of s _ _ c r2, h3, h4, ?_, q _ _ _ (.refl s) rep_b⟩
    rw [(plain_py _ a).2, (plain_py _ c).2]
    have := hX.room.units
    omega
  · cases e
theorem opd_lt : OpD G L ltD (compareOp .Lt) := fun X hX => ⟨_, op_ltDt, fun F H d1 d2 d v1 v2 Q s r1 r2 e q => cmp_rule hX s r1 r2 e q⟩
theorem opd_le : OpD G L leD (compareOp .LtE) := fun X hX => ⟨_, op_leDt, fun F H d1 d2 d v1 v2 Q s r1 r2 e q => cmp_rule (g := fun d e => !dataLt e d) hX s r1 r2 e q⟩
theorem opd_is : OpD G L isD (compareOp .Is) := fun X hX => ⟨_, op_isN, fun F H d1 d2 d v1 v2 Q s r1 r2 e q => by
  unfold isD at e
  split at e
  · rename_i h
    cases e
    have := rep_none r2
    rw [h] at this
    refine ⟨of_decide_eq_true this, ?_⟩
    rw [rep_none r1]
    exact q _ _ _ (.refl s) rep_b
  · cases e⟩
theorem opd_add : OpD G L addD (binaryOp .Add) := fun X hX => ⟨_, op_add.or (op_add_str.or (op_catA.or op_catL)), fun F H d1 d2 d v1 v2 Q s r1 r2 e q => by
  unfold addD at e
  split at e
  · cases e
    unfold Rep at r1 r2
    exact .inl ⟨_, _, r1, r2, q _ _ _ (.refl s) rep_i⟩
  · split at e
    · cases e
      unfold Rep at r1 r2
      exact .inr (.inl ⟨_, _, r1, r2, sz (by assumption), q _ _ _ (.refl s) rep_s⟩)
    · cases e
  · split at e
    · cases e
      rename_i xs ys hl
      unfold Rep at r1 r2
      obtain ⟨a, vs, rfl, h1, q1⟩ := r1
      obtain ⟨b, ws, rfl, h2, q2⟩ := r2
      rw [hX.hK]
      refine .inr (.inr (.inl ⟨a, b, vs, ws, rfl, rfl, tup_sq h1 s, tup_sq h2 s, by rw [← q1.len, ← q2.len]; exact sz hl, fun hv => ?_, fun _ hw => ?_, fun _ _ p hp => ?_⟩))
      · subst hv
        have : xs = [] := List.eq_nil_of_length_eq_zero (by rw [q1.len]; rfl)
        subst this
        exact q _ _ _ (.refl s) (by unfold Rep; exact ⟨b, ws, rfl, h2, q2⟩)
      · subst hw
        have : ys = [] := List.eq_nil_of_length_eq_zero (by rw [q2.len]; rfl)
        subst this
        rw [List.append_nil] at q
        exact q _ _ _ (.refl s) (by unfold Rep; exact ⟨a, vs, rfl, h1, q1⟩)
      · have hf := s.none hp
        exact q _ _ _ (.frz s hp) (by unfold Rep; exact ⟨p, _, rfl, upd_same, (Reps.mono (same_new hf) _ _ q1).append (Reps.mono (same_new hf) _ _ q2)⟩)
    · cases e
  · split at e
    · cases e
      rename_i xs ys hl
      unfold Rep at r1 r2
      obtain ⟨a, vs, rfl, h1, q1⟩ := r1
      obtain ⟨b, ws, rfl, h2, q2⟩ := r2
      refine .inr (.inr (.inr ⟨a, b, vs, ws, rfl, rfl, s.rd h1, s.rd h2, by rw [← q1.len, ← q2.len]; exact sz hl, fun p hp => ?_⟩))
      have hf := s.none hp
      exact q _ _ _ (.frz s hp) (by unfold Rep; exact ⟨p, _, rfl, upd_same, (Reps.mono (same_new hf) _ _ q1).append (Reps.mono (same_new hf) _ _ q2)⟩)
    · cases e
  · cases e⟩
theorem opd_sub : OpD G L subD (binaryOp .Sub) := fun X hX => ⟨_, op_sub, fun F H d1 d2 d v1 v2 Q s r1 r2 e q => by
  unfold subD at e
  split at e
  · cases e
    unfold Rep at r1 r2
    exact ⟨_, _, r1, r2, q _ _ _ (.refl s) rep_i⟩
  · cases e⟩
theorem opd_mul : OpD G L mulD (binaryOp .Mult) := fun X hX => ⟨_, op_mul.or op_mulW, fun F H d1 d2 d v1 v2 Q s r1 r2 e q => by
  unfold mulD at e
  split at e
  · split at e
    · rename_i h
      cases e
      unfold Rep at r1 r2
      rcases h with h | h | h
      · exact .inl ⟨_, _, r1, r2, .inl (by omega), q _ _ _ (.refl s) rep_i⟩
      · exact .inl ⟨_, _, r1, r2, .inr (by omega), q _ _ _ (.refl s) rep_i⟩
      · refine .inr ⟨_, _, r1, r2, ?_, q _ _ _ (.refl s) rep_i⟩
        have h1 := wide_log h.1
        have h2 := wide_log h.2
        unfold CMulW
        omega
    · cases e
  · cases e⟩
theorem opd_fdiv : OpD G L fdivD (binaryOp .FloorDiv) := fun X hX => ⟨_, op_fdivW, fun F H d1 d2 d v1 v2 Q s r1 r2 e q => by
  unfold fdivD at e
  split at e
  · split at e
    · rename_i h
      cases e
      unfold Rep at r1 r2
      exact ⟨_, _, r1, r2, ⟨h.1, Nat.lt_trans (wide_log h.2) (by decide)⟩, q _ _ _ (.refl s) rep_i⟩
    · cases e
  · cases e⟩
theorem opd_mod : OpD G L modD (binaryOp .Mod) := fun X hX => ⟨_, op_mod, fun F H d1 d2 d v1 v2 Q s r1 r2 e q => by
  unfold modD at e
  split at e
  · split at e
    · rename_i h
      cases e
      unfold Rep at r1 r2
      exact ⟨_, _, r1, r2, h, q _ _ _ (.refl s) rep_i⟩
    · cases e
  · cases e⟩
theorem opd_pow : OpD G L powD (binaryOp .Pow) := fun X hX => ⟨_, op_pow, fun F H d1 d2 d v1 v2 Q s r1 r2 e q => by
  unfold powD at e
  split at e
  · split at e
    · rename_i h
      cases e
      unfold Rep at r1 r2
      exact ⟨_, _, r1, r2, h, q _ _ _ (.refl s) rep_i⟩
    · cases e
  · cases e⟩
end
end
section
open PySem PySem.Spec PySem.SeqAt PyProof.Rows L2
section
variable {G : GX} {L : LX} {ρ : List Sl} {e a b c : Expr} {rest : List Expr} {m ma mb mc mr : Option D} {na nb nr : Option Bool} {pos : Pos}
theorem w_or1 (ha : TOk G L ρ a na) : WOk G L ρ (.BoolOp .Or [a] pos) na := fun X hX => pw_or1 (ha X hX)
theorem w_or (ha : TOk G L ρ a na) (hb : WOk G L ρ (.BoolOp .Or (b :: rest) pos) nb) : WOk G L ρ (.BoolOp .Or (a :: b :: rest) pos) (orT na nb) := fun X hX =>
  wkW (pw_or (ha X hX) (hb X hX)) fun σ H Q ⟨F, d, em, vr, q⟩ => by
    obtain ⟨y, ey, eb⟩ := Option.bind_eq_some_iff.mp em
    refine ⟨F, y, ey, vr, fun F' H' x => ?_⟩
    cases y with
    | false => exact ⟨F', d, eb, vr.ext x, fun F2 H2 x2 => q F2 H2 (x.trans x2)⟩
    | true => cases eb; exact q F' H' x
theorem t_w (h : WOk G L ρ e na) : TOk G L ρ e na := fun X hX => (h X hX).pt
theorem t_not (ha : TOk G L ρ a na) : TOk G L ρ (.UnaryOp .Not a pos) (notT na) := fun X hX =>
  wkT (pt_not (ha X hX)) fun σ H Q ⟨F, d, em, vr, q⟩ => by
    obtain ⟨y, ey, eb⟩ := Option.bind_eq_some_iff.mp em
    cases eb
    exact ⟨F, y, ey, vr, fun F' H' x => q F' H' x⟩
theorem e_one {op : BoolOp} (ha : EOk G L ρ a ma) : EOk G L ρ (.BoolOp op [a] pos) ma := fun X hX => pe_one (ha X hX)
theorem e_and (ha : EOk G L ρ a ma) (hb : EOk G L ρ (.BoolOp .And (b :: rest) pos) mb) : EOk G L ρ (.BoolOp .And (a :: b :: rest) pos) (andV ma mb) := fun X hX =>
  wkE (pe_and (ha X hX) (hb X hX)) fun σ H Q ⟨F, d, em, vr, q⟩ => by
    obtain ⟨y, ey, eb⟩ := Option.bind_eq_some_iff.mp em
    obtain ⟨z, ez, ey⟩ := Option.bind_eq_some_iff.mp ey
    refine ⟨F, z, ez, vr, fun v F' H' x r => ⟨y, rep_bl ey r, ?_⟩⟩
    cases y with
    | true => exact ⟨F', d, eb, vr.ext x, fun v F2 H2 x2 => q v F2 H2 (x.trans x2)⟩
    | false => cases eb; exact q _ F' H' x rep_b
theorem e_or (ha : EOk G L ρ a ma) (hb : EOk G L ρ (.BoolOp .Or (b :: rest) pos) mb) : EOk G L ρ (.BoolOp .Or (a :: b :: rest) pos) (orV ma mb) := fun X hX =>
  wkE (pe_or (ha X hX) (hb X hX)) fun σ H Q ⟨F, d, em, vr, q⟩ => by
    obtain ⟨y, ey, eb⟩ := Option.bind_eq_some_iff.mp em
    obtain ⟨z, ez, ey⟩ := Option.bind_eq_some_iff.mp ey
    refine ⟨F, z, ez, vr, fun v F' H' x r => ⟨y, rep_bl ey r, ?_⟩⟩
    cases y with
    | false => exact ⟨F', d, eb, vr.ext x, fun v F2 H2 x2 => q v F2 H2 (x.trans x2)⟩
    | true => cases eb; exact q _ F' H' x rep_b
theorem e_not (ha : EOk G L ρ a ma) : EOk G L ρ (.UnaryOp .Not a pos) (notV ma) := fun X hX =>
  wkE (pe_not (ha X hX)) fun σ H Q ⟨F, d, em, vr, q⟩ => by
    obtain ⟨y, ey, eb⟩ := Option.bind_eq_some_iff.mp em
    obtain ⟨z, ez, ey⟩ := Option.bind_eq_some_iff.mp ey
    cases eb
    exact ⟨F, z, ez, vr, fun v F' H' x r => ⟨y, rep_bl ey r, q _ F' H' x rep_b⟩⟩
theorem e_chain {op op' : CmpOp} {f f' : D → D → Option D} (ho : OpD G L f (compareOp op)) (ho' : OpD G L f' (compareOp op')) (ha : EOk G L ρ a ma) (hb : EOk G L ρ b mb) (hc : EOk G L ρ c mc)
    (hm : lastMarks [op, op'] [b, c] = false := by with_unfolding_all rfl) : EOk G L ρ (.Compare a [op, op'] [b, c] pos) (chD f f' ma mb mc) := fun X hX => by
  obtain ⟨r, h1, h2⟩ := ho X hX
  obtain ⟨r', h1', h2'⟩ := ho' X hX
  exact wkE (pe_chain h1 h1' (ha X hX) (hb X hX) (hc X hX) hm) fun σ H Q ⟨F, d, em, vr, q⟩ => chain_rule (X := X) em vr q h2 h2'
theorem t_chain {op op' : CmpOp} {f f' : D → D → Option D} (ho : OpD G L f (compareOp op)) (ho' : OpD G L f' (compareOp op')) (ha : EOk G L ρ a ma) (hb : EOk G L ρ b mb) (hc : EOk G L ρ c mc)
    (hm : lastMarks [op, op'] [b, c] = false := by with_unfolding_all rfl) : TOk G L ρ (.Compare a [op, op'] [b, c] pos) ((chD f f' ma mb mc).bind getB) := fun X hX => by
  obtain ⟨r, h1, h2⟩ := ho X hX
  obtain ⟨r', h1', h2'⟩ := ho' X hX
  refine wkT (pt_chain h1 h1' (ha X hX) (hb X hX) (hc X hX) hm) fun σ H Q ⟨F, d, em, vr, q⟩ => ?_
  obtain ⟨y, ey, eb⟩ := Option.bind_eq_some_iff.mp em
  exact chain_rule (X := X) ey vr (fun v F' H' x rr => ⟨d, rep_bl eb rr, q F' H' x⟩) h2 h2'

theorem e_ix (ha : EOk G L ρ a ma) (hb : EOk G L ρ b mb) (hs : PlainIx b := by intro _ _; rfl) : EOk G L ρ (.Subscript a b pos) (E2 ixD ma mb) := fun X hX =>
  wkE (pe_ix (ix_seq.or (ix_dict (by have := hX.room.units; omega))) (ha X hX) (hb X hX) hs) fun σ H Q ⟨F, d, em, vr, q⟩ => two (X := X) em vr q fun F H d1 d2 d v1 v2 Q s r1 r2 e q => by
    rw [hX.hK]
    unfold ixD at e
    split at e
    · unfold Rep at r1 r2
      obtain ⟨p, vs, rfl, h1, q1⟩ := r1
      obtain ⟨v, hv, rv⟩ := atI_rep q1 e
      exact .inl (.inl ⟨p, vs, _, v, rfl, r2, lst_sq h1 s, hv, q _ _ _ (.refl s) rv⟩)
    · unfold Rep at r1 r2
      obtain ⟨p, vs, rfl, h1, q1⟩ := r1
      obtain ⟨v, hv, rv⟩ := atI_rep q1 e
      exact .inl (.inr (.inl ⟨p, vs, _, v, rfl, r2, tup_sq h1 s, hv, q _ _ _ (.refl s) rv⟩))
    · unfold Rep at r1 r2
      obtain ⟨p, rfl, h1⟩ := r1
      obtain ⟨n, hn, rfl⟩ := Option.map_eq_some_iff.mp e
      exact .inl (.inl ⟨p, _, _, .int n, rfl, r2, scr_sq h1 s, by rw [atI_map, hn]; rfl, q _ _ _ (.refl s) rep_i⟩)
    · split at e
      · unfold Rep at r1 r2
        obtain ⟨n, hn, rfl⟩ := Option.map_eq_some_iff.mp e
        exact .inl (.inr (.inr ⟨_, _, n, r1, r2, sz (by assumption), hn, q _ _ _ (.refl s) rep_s⟩))
      · cases e
    · unfold Rep at r1 r2
      obtain ⟨p, ws, rfl, h1, q1⟩ := r1
      rcases q1.look with ⟨h2, _⟩ | ⟨d', v, h2, h3, h4⟩
      · rw [h2] at e; cases e
      · rw [h2] at e; cases e
        exact .inr ⟨p, v, rfl, .inl ⟨ws, Sum.inl _, s.rd h1, r2, h3.symm⟩, q _ _ _ (.refl s) h4⟩
    · unfold Rep at r1 r2
      obtain ⟨p, ws, rfl, h1, q1⟩ := r1
      obtain ⟨p2, ws2, rfl, h2, q2⟩ := r2
      obtain ⟨ks, hks, e⟩ := Option.bind_eq_some_iff.mp e
      have hw := intsOf_rep hks q2
      subst hw
      rcases q1.look with ⟨h3, _⟩ | ⟨d', v, h3, h4, h5⟩
      · rw [h3] at e; cases e
      · rw [h3] at e; cases e
        exact .inr ⟨p, v, rfl, .inr ⟨ws, _, p2, s.rd h1, rfl, s.tup h2, h4.symm⟩, q _ _ _ (.refl s) h5⟩
    · cases e
end
end
section
open PySem PySem.Spec PySem.SeqAt PyProof.Rows L2
section
variable {G : GX} {L : LX} {ρ : List Sl} {e a b c : Expr} {es : List Expr} {m ma mb mc mr : Option D} {ms : Option (List D)} {pos p2 : Pos}
def OOk (G : GX) (L : LX) (ρ : List Sl) (e : Option Expr) (m : Option (Option Int)) : Prop := ∀ X, XOk G L X → PO X e (tO G.K ρ m)
theorem o_none : OOk G L ρ none (some none) := fun X hX => wkO po_none fun σ H Q ⟨F, o, em, vr, q⟩ => by cases em; exact q F H (.refl vr.sub)
theorem o_some (h : EOk G L ρ e m) : OOk G L ρ (some e) ((m.bind getI).map some) := fun X hX => wkO (po_some (h X hX)) fun σ H Q ⟨F, o, em, vr, q⟩ => by
  obtain ⟨i, ei, rfl⟩ := Option.map_eq_some_iff.mp em
  obtain ⟨y, ey, eb⟩ := Option.bind_eq_some_iff.mp ei
  exact ⟨F, y, ey, vr, fun v F' H' x r => ⟨i, rep_int eb r, q F' H' x⟩⟩
theorem e_sl {lo hi : Option Expr} {nl nh : Option (Option Int)} (ha : EOk G L ρ a ma) (hl : OOk G L ρ lo nl) (hh : OOk G L ρ hi nh) : EOk G L ρ (.Subscript a (.Slice lo hi none p2) pos) (SL ma nl nh) := fun X hX =>
  wkE (pe_slice (sl_tupA.or (sl_list.or sl_str)) (ha X hX) (hl X hX) (hh X hX)) fun σ H Q ⟨F, d, em, vr, q⟩ => by
    obtain ⟨y, ey, em⟩ := Option.bind_eq_some_iff.mp em
    obtain ⟨l, el, em⟩ := Option.bind_eq_some_iff.mp em
    obtain ⟨h, eh, em⟩ := Option.bind_eq_some_iff.mp em
    refine ⟨F, y, ey, vr, fun v F1 H1 x1 r1 => ⟨F1, l, el, vr.ext x1, fun F2 H2 x2 => ⟨F2, h, eh, vr.ext (x1.trans x2), fun F3 H3 x3 => ?_⟩⟩⟩
    rw [hX.hK]
    have xx := (x1.trans x2).trans x3
    have r3 := Rep.mono (x2.trans x3).froz _ _ r1
    unfold slD at em
    split at em
    · cases em
      rename_i ds
      unfold Rep at r3
      obtain ⟨p, vs, rfl, h1, q1⟩ := r3
      refine .inl ⟨p, vs, rfl, tup_sq h1 xx.sub, fun hw => ?_, fun _ p' hp => ?_⟩
      · rw [← q1.len] at hw
        refine q _ _ _ xx (by unfold Rep; exact ⟨p, vs, rfl, h1, by rw [cut_whole hw]; exact q1⟩)
      · exact q _ _ _ (xx.trans (.frz xx.sub hp)) (by unfold Rep; exact ⟨p', _, rfl, upd_same, Reps.mono (same_new (xx.sub.none hp)) _ _ (q1.cut l h)⟩)
    · cases em
      rename_i ds
      unfold Rep at r3
      obtain ⟨p, vs, rfl, h1, q1⟩ := r3
      refine .inr (.inl ⟨p, vs, rfl, lst_sq h1 xx.sub, fun p' hp => ?_⟩)
      exact q _ _ _ (xx.trans (.frz xx.sub hp)) (by unfold Rep; exact ⟨p', _, rfl, upd_same, Reps.mono (same_new (xx.sub.none hp)) _ _ (q1.cut l h)⟩)
    · split at em
      · cases em
        unfold Rep at r3
        exact .inr (.inr ⟨_, r3, sz (by assumption), q _ _ _ xx rep_s⟩)
      · cases em
    · cases em

theorem a_nil : AOk G L ρ [] (some []) := fun X hX => wkA pa_nil fun σ H Q ⟨F, ds, em, vr, q⟩ => by cases em; exact q _ F H (.refl vr.sub) .nil
theorem a_cons (ha : EOk G L ρ a ma) (hr : AOk G L ρ es ms) (hs : ∀ env, starEach (a :: es) env = (false, eval a env) :: starEach es env := by intro _; rfl) : AOk G L ρ (a :: es) (aC ma ms) := fun X hX =>
  wkA (pa_cons (ha X hX) (hr X hX) (hs _)) fun σ H Q ⟨F, ds, em, vr, q⟩ => by
    obtain ⟨y, ey, em⟩ := Option.bind_eq_some_iff.mp em
    obtain ⟨ys, eys, em⟩ := Option.bind_eq_some_iff.mp em
    cases em
    exact ⟨F, y, ey, vr, fun v F1 H1 x1 r1 => ⟨F1, ys, eys, vr.ext x1, fun vs F2 H2 x2 r2 => q _ _ _ (x1.trans x2) (.cons (Rep.mono x2.froz _ _ r1) r2)⟩⟩
theorem e_tup {k : Nat} (h : AOk G L ρ es ms) : EOk G L ρ (.Tuple es k pos) (ms.bind tupD) := fun X hX =>
  wkE (pe_tup (h X hX)) fun σ H Q ⟨F, d, em, vr, q⟩ => by
    obtain ⟨ds, eds, em⟩ := Option.bind_eq_some_iff.mp em
    unfold tupD at em
    split at em
    · cases em
      refine ⟨F, ds, eds, vr, fun vs F1 H1 x1 r1 => ⟨by rw [← r1.len]; exact sz (by assumption), fun p hp => ?_⟩⟩
      exact q _ _ _ (x1.trans (.frz x1.sub hp)) (by unfold Rep; exact ⟨p, _, rfl, upd_same, Reps.mono (same_new (x1.sub.none hp)) _ _ r1⟩)
    · cases em
theorem f_lst (h : AOk G L ρ es ms) : FOk G L ρ (.List es pos) (ms.bind lstD) := fun X hX =>
  wkE (pe_lst (h X hX)) fun σ H Q ⟨F, d, em, vr, q⟩ => by
    obtain ⟨ds, eds, em⟩ := Option.bind_eq_some_iff.mp em
    unfold lstD at em
    split at em
    · cases em
      refine ⟨F, ds, eds, vr, fun vs F1 H1 x1 r1 => ⟨by rw [← r1.len]; exact sz (by assumption), fun p hp => ?_⟩⟩
      exact q p _ _ _ (x1.trans (.own x1.sub hp)) (x1.heap.free hp) upd_same ⟨vs, rfl, r1⟩ (x1.sub.none hp)
    · cases em
def CallD (G : GX) (L : LX) (f : List D → Option D) (v : Value) : Prop := ∀ X, XOk G L X → ∃ r, CallR X v r ∧
  ∀ F H ds vs d Q, Sub F H → Reps G.K F ds vs → f ds = some d → (∀ v F' H', Ext F H F' H' → Rep G.K F' d v → Q v H') → r vs H Q
def CallF (G : GX) (L : LX) (f : List D → Option D) (v : Value) : Prop := ∀ X, XOk G L X → ∃ r, CallR X v r ∧
  ∀ F H ds vs d Q, Sub F H → Reps G.K F ds vs → f ds = some d → (∀ p o F' H', Ext F H F' H' → H p = none → H' p = some o → OwnO G.K F' d o → F' p = none → Q (.ref p) H') → r vs H Q
theorem gl_of {X : Cx} (hX : XOk G L X) {x : Str} (h : GlS L x) : Gl X x := by show X.env.scope.names.lookup x = _; rw [hX.hsc]; exact h
variable {f : List D → Option D} {idn T : String} {x : Str} {p : Pos}
theorem e_cb (hc : CallD G L f (.builtin idn)) (hm : G.mg x = none) (hv : bootBuiltins x = some (.builtin idn)) (ha : AOk G L ρ (a :: es) ms) (hg : GlS L x := by rfl)
    (hn : x ≠ "__name__" := by decide) (hdb : (x == ("__debug__" : Str)) = false := by decide)
    (he : ∀ env, starEach (a :: es) env = (false, eval a env) :: starEach es env := by intro _; rfl) (hpl : ∀ env, (backTo pos (starEach es env)).any (·.1) = false := by intro _; rfl) : EOk G L ρ (.Call (.Name x p) (a :: es) [] pos) (ms.bind f) := fun X hX => by
  obtain ⟨r, h1, h2⟩ := hc X hX
  refine wkE (pe_callB h1 (gl_of hX hg) (by rw [hX.hm]; exact hm) hv (ha X hX) hn hdb (he _) (hpl _)) fun σ H Q ⟨F, d, em, vr, q⟩ => ?_
  obtain ⟨ds, eds, em⟩ := Option.bind_eq_some_iff.mp em
  exact ⟨F, ds, eds, vr, fun vs F1 H1 x1 r1 => h2 F1 H1 ds vs d Q x1.sub r1 em fun v F2 H2 x2 r2 => q v F2 H2 (x1.trans x2) r2⟩
theorem e_ct (hc : CallD G L f (.type T)) (hm : G.mg x = none) (hv : bootBuiltins x = some (.type T)) (ha : AOk G L ρ (a :: es) ms) (hg : GlS L x := by rfl)
    (hn : x ≠ "__name__" := by decide) (hdb : (x == ("__debug__" : Str)) = false := by decide)
    (he : ∀ env, starEach (a :: es) env = (false, eval a env) :: starEach es env := by intro _; rfl) (hpl : ∀ env, (backTo pos (starEach es env)).any (·.1) = false := by intro _; rfl) : EOk G L ρ (.Call (.Name x p) (a :: es) [] pos) (ms.bind f) := fun X hX => by
  obtain ⟨r, h1, h2⟩ := hc X hX
  refine wkE (pe_callTy h1 (gl_of hX hg) (by rw [hX.hm]; exact hm) hv (ha X hX) hn hdb (he _) (hpl _)) fun σ H Q ⟨F, d, em, vr, q⟩ => ?_
  obtain ⟨ds, eds, em⟩ := Option.bind_eq_some_iff.mp em
  exact ⟨F, ds, eds, vr, fun vs F1 H1 x1 r1 => h2 F1 H1 ds vs d Q x1.sub r1 em fun v F2 H2 x2 r2 => q v F2 H2 (x1.trans x2) r2⟩
theorem f_ct (hc : CallF G L f (.type T)) (hm : G.mg x = none) (hv : bootBuiltins x = some (.type T)) (ha : AOk G L ρ (a :: es) ms) (hg : GlS L x := by rfl)
    (hn : x ≠ "__name__" := by decide) (hdb : (x == ("__debug__" : Str)) = false := by decide)
    (he : ∀ env, starEach (a :: es) env = (false, eval a env) :: starEach es env := by intro _; rfl) (hpl : ∀ env, (backTo pos (starEach es env)).any (·.1) = false := by intro _; rfl) : FOk G L ρ (.Call (.Name x p) (a :: es) [] pos) (ms.bind f) := fun X hX => by
  obtain ⟨r, h1, h2⟩ := hc X hX
  refine wkE (pe_callTy h1 (gl_of hX hg) (by rw [hX.hm]; exact hm) hv (ha X hX) hn hdb (he _) (hpl _)) fun σ H Q ⟨F, d, em, vr, q⟩ => ?_
  obtain ⟨ds, eds, em⟩ := Option.bind_eq_some_iff.mp em
  exact ⟨F, ds, eds, vr, fun vs F1 H1 x1 r1 => h2 F1 H1 ds vs d Q x1.sub r1 em fun p o F2 H2 x2 n2 o2 r2 f2 => q p o F2 H2 (x1.trans x2) (x1.heap.free n2) o2 r2 f2⟩

theorem cd_int : CallD G L intD (.type "int") := fun X hX => ⟨_, call_int1, fun F H ds vs d Q s r e q => by
  unfold intD at e
  split at e
  · cases e
    obtain ⟨v, rfl, h⟩ := r.one
    unfold Rep at h; subst h
    exact .inl ⟨_, rfl, q _ _ _ (.refl s) rep_i⟩
  · cases e
    obtain ⟨v, rfl, h⟩ := r.one
    unfold Rep at h; subst h
    exact .inr ⟨_, rfl, q _ _ _ (.refl s) rep_i⟩
  · cases e⟩
theorem cd_len : CallD G L lenD (.builtin "len") := fun X hX => ⟨_, call_len.or d_lenR, fun F H ds vs d Q s r e q => by
  rw [hX.hK]
  unfold lenD at e
  split at e
  · cases e
    obtain ⟨v, rfl, h⟩ := r.one
    unfold Rep at h
    obtain ⟨p, vs, rfl, h1, q1⟩ := h
    exact .inl ⟨_, _, rfl, .inr ⟨vs, tup_sq h1 s, rfl⟩, by rw [← q1.len]; exact q _ _ _ (.refl s) rep_i⟩
  · cases e
    obtain ⟨v, rfl, h⟩ := r.one
    unfold Rep at h
    obtain ⟨p, vs, rfl, h1, q1⟩ := h
    exact .inl ⟨_, _, rfl, .inl ⟨vs, lst_sq h1 s, rfl⟩, by rw [← q1.len]; exact q _ _ _ (.refl s) rep_i⟩
  · cases e
    obtain ⟨v, rfl, h⟩ := r.one
    unfold Rep at h
    obtain ⟨p, rfl, h1⟩ := h
    exact .inl ⟨_, _, rfl, .inl ⟨_, scr_sq h1 s, rfl⟩, by rw [List.length_map]; exact q _ _ _ (.refl s) rep_i⟩
  · cases e
    obtain ⟨v, rfl, h⟩ := r.one
    unfold Rep at h
    obtain ⟨p, ws, rfl, h1, q1⟩ := h
    exact .inr ⟨_, ws, rfl, s.rd h1, by rw [← q1.len]; exact q _ _ _ (.refl s) rep_i⟩
  · split at e
    · cases e
      obtain ⟨v, rfl, h⟩ := r.one
      unfold Rep at h; subst h
      exact .inl ⟨_, _, rfl, ⟨sz (by assumption), rfl⟩, q _ _ _ (.refl s) rep_i⟩
    · cases e
  · cases e⟩
theorem cd_all : CallD G L allD (.builtin "all") := fun X hX => ⟨_, cr_all hX.hot, fun F H ds vs d Q s r e q => by
  unfold allD at e
  split at e
  · obtain ⟨bs, hb, rfl⟩ := Option.map_eq_some_iff.mp e
    obtain ⟨v, rfl, h⟩ := r.one
    unfold Rep at h
    obtain ⟨p, vs, rfl, h1, q1⟩ := h
    rw [blsOf_eq hb] at q1
    have := q1.bls
    subst this
    exact ⟨p, bs, rfl, lst_sq h1 s, q _ _ _ (.refl s) rep_b⟩
  · cases e⟩
theorem cd_tuple : CallD G L tupleD (.type "tuple") := fun X hX => ⟨_, call_tuple_of, fun F H ds vs d Q s r e q => by
  rw [hX.hK]
  unfold tupleD at e
  split at e
  · cases e
    obtain ⟨v, rfl, h⟩ := r.one
    unfold Rep at h
    obtain ⟨p, vs, rfl, h1, q1⟩ := h
    refine ⟨p, vs, rfl, .inl ⟨lst_sq h1 s, fun l hl => ?_⟩⟩
    exact q _ _ _ (.frz s hl) (by unfold Rep; exact ⟨l, vs, rfl, upd_same, Reps.mono (same_new (s.none hl)) _ _ q1⟩)
  · cases e
    obtain ⟨v, rfl, h⟩ := r.one
    have h' := h
    unfold Rep at h
    obtain ⟨p, vs, rfl, h1, q1⟩ := h
    exact ⟨p, vs, rfl, .inr ⟨tup_sq h1 s, q _ _ _ (.refl s) h'⟩⟩
  · cases e⟩
theorem cf_list : CallF G L listD (.type "list") := fun X hX => ⟨_, call_list_of, fun F H ds vs d Q s r e q => by
  rw [hX.hK]
  unfold listD at e
  split at e
  · cases e
    obtain ⟨v, rfl, h⟩ := r.one
    unfold Rep at h
    obtain ⟨p, vs, rfl, h1, q1⟩ := h
    exact ⟨p, vs, rfl, .inl (lst_sq h1 s), fun l hl => q l _ _ _ (.own s hl) hl upd_same ⟨vs, rfl, q1⟩ (s.none hl)⟩
  · cases e
    obtain ⟨v, rfl, h⟩ := r.one
    unfold Rep at h
    obtain ⟨p, vs, rfl, h1, q1⟩ := h
    exact ⟨p, vs, rfl, .inr (tup_sq h1 s), fun l hl => q l _ _ _ (.own s hl) hl upd_same ⟨vs, rfl, q1⟩ (s.none hl)⟩
  · cases e⟩
end
end
section
open PySem PySem.Spec PySem.SeqAt PyProof.Rows L2
section
variable {G : GX} {L : LX} {ρ : List Sl} {e a b c tg iter elt : Expr} {es : List Expr} {m ma mb mc mr : Option D} {ms : Option (List D)} {pos p p2 : Pos}
variable {H0 : Hp}
def IOk (G : GX) (L : LX) (ρ : List Sl) (tg iter : Expr) (m : Option (List D)) : Prop := ∀ X, XOk G L X → PI X tg iter (tI G.K ρ m)
theorem i_seq (h : EOk G L ρ e m) : IOk G L ρ tg e (m.bind seqD) := fun X hX => wkI (PI.or (pi_list (h X hX)) (pi_tup (h X hX))) fun σ H R ⟨F, ds, em, vr, q⟩ => by
  obtain ⟨d, ed, es⟩ := Option.bind_eq_some_iff.mp em
  unfold seqD at es
  split at es
  · cases es
    refine .inl ⟨F, _, ed, vr, fun v F' H' x r => ?_⟩
    unfold Rep at r
    obtain ⟨p, vs, rfl, h1, q1⟩ := r
    rw [hX.hK]
    exact ⟨p, rfl, ⟨vs, lst_sq h1 x.sub⟩, q _ F' H' x (walkD_list h1 q1)⟩
  · cases es
    refine .inr ⟨F, _, ed, vr, fun v F' H' x r => ?_⟩
    unfold Rep at r
    obtain ⟨p, vs, rfl, h1, q1⟩ := r
    rw [hX.hK]
    exact ⟨p, rfl, ⟨vs, tup_sq h1 x.sub⟩, q _ F' H' x (walkD_tup h1 q1)⟩
  · cases es
theorem i_range1 (hm : G.mg "range" = none) (ha : AOk G L ρ [a] ms) (hg : GlS L "range" := by rfl) (hs : ∀ env, starEach [a] env = [(false, eval a env)] := by intro _; rfl) : IOk G L ρ tg (.Call (.Name "range" p) [a] [] pos) (ms.bind rg1D) := fun X hX =>
  wkI (pi_range1 (gl_of hX hg) (by rw [hX.hm]; exact hm) (ha X hX) (hs _)) fun σ H R ⟨F, ds, em, vr, q⟩ => by
    obtain ⟨xs, exs, es⟩ := Option.bind_eq_some_iff.mp em
    unfold rg1D at es
    split at es
    · split at es
      · rename_i j h
        cases es
        refine ⟨F, _, exs, vr, fun vs F' H' x r => ?_⟩
        obtain ⟨v, rfl, hv⟩ := r.one
        unfold Rep at hv; subst hv
        obtain ⟨h1, h2⟩ := okI_iff h
        refine ⟨j, rfl, h1, h2, ?_⟩
        have := q (Itr 0 (j - 0).toNat) F' H' x walkD_range
        simpa using this
      · cases es
    · cases es
theorem i_zip {elts : List Expr} {kk : Nat} {tpos : Pos} (hm : G.mg "zip" = none) (ha : AOk G L ρ [a, b] ms) (hg : GlS L "zip" := by rfl)
    (hs : ∀ env, starEach [a, b] env = (false, eval a env) :: starEach [b] env := by intro _; rfl) (hpl : ∀ env, (backTo pos (starEach [b] env)).any (·.1) = false := by intro _; rfl) :
    IOk G L ρ (.Tuple elts kk tpos) (.Call (.Name "zip" p) [a, b] [] pos) (ms.bind zipTD) := fun X hX =>
  wkI (pi_zipT (gl_of hX hg) (by rw [hX.hm]; exact hm) (ha X hX) (hs _) (hpl _)) fun σ H R ⟨F, ds, em, vr, q⟩ => by
    obtain ⟨xs, exs, es⟩ := Option.bind_eq_some_iff.mp em
    rw [hX.hK]
    refine ⟨F, _, exs, vr, fun vs F' H' x r => ?_⟩
    obtain ⟨d, e, rfl⟩ : ∃ d e, xs = [.tup d, .tup e] := by
      unfold zipTD at es
      split at es <;> first | (cases es; done) | exact ⟨_, _, rfl⟩
    cases es
    obtain ⟨v, v', rfl, hv, hv'⟩ := r.two
    unfold Rep at hv hv'
    obtain ⟨a1, vs1, rfl, h1, r1⟩ := hv
    obtain ⟨a2, vs2, rfl, h2, r2⟩ := hv'
    exact ⟨a1, a2, vs1, vs2, rfl, tup_sq h1 x.sub, tup_sq h2 x.sub, q _ F' H' x (walkD_z2 (k1 := srcT) (k2 := srcT) (fun F2 H hs s => tup_sq (hs _ _ h1) s) r1 (fun F2 H hs s => tup_sq (hs _ _ h2) s) r2)⟩
end
end
section
open PySem PySem.Spec PySem.SeqAt PyProof.Rows L2
def GOk (G : GX) (L : LX) (tg : Expr) (g : TGD) : Prop := ∀ X, XOk G L X → PG X tg (tG G.K g)
def GsOk (G : GX) (L : LX) (tgs : List Expr) (gs : List TGD) : Prop := ∀ X, XOk G L X → PGs X tgs (tGs G.K gs)
section
variable {G : GX} {L : LX} {tg : Expr} {tgs : List Expr} {pos : Pos} {g : TGD} {gs : List TGD}
theorem g_name (i : Nat) {x : Str} (hi : L.N[i]? = some x := by rfl) (hx : Loc L.sc x := by first | exact Or.inl rfl | exact Or.inr rfl) (hf : L.ow x = true ∨ L.sc.names.lookup x = some .local := by first | exact Or.inl rfl | exact Or.inr rfl) : GOk G L (.Name x pos) (gN i) := fun X hX =>
  wkG (pg_name (i := i) (by rw [hX.hN]; exact hX.nd) (by rw [hX.hN]; exact hi) (by rw [hX.hsc]; exact hx) (by rw [hX.hfn, hX.hsc]; exact hf)) fun v σ H Q ⟨F, d, as, s, r, e, q⟩ => by
    cases e
    exact q [v] (.cons r .nil)
theorem gs_nil : GsOk G L [] [] := fun X hX => wkGs pgs_nil fun vs σ H Q ⟨F, ds, as, s, r, e, q⟩ => by
  cases ds with
  | nil => cases e; exact ⟨r.nil_inv, q [] .nil⟩
  | cons _ _ => cases e
theorem gs_cons (h1 : GOk G L tg g) (h2 : GsOk G L tgs gs) (hs : ∀ env, (assignEach (tg :: tgs) env).map (·.2) = assign tg env :: (assignEach tgs env).map (·.2) := by intro _; rfl) : GsOk G L (tg :: tgs) (g :: gs) := fun X hX =>
  wkGs (pgs_cons (h1 X hX) (h2 X hX) (hs _)) fun vs σ H Q ⟨F, ds, as, s, r, e, q⟩ => by
    cases ds with
    | nil => cases e
    | cons d ds =>
      obtain ⟨v, vr, rfl, r1, r2⟩ := r.inv
      obtain ⟨as1, e1, e⟩ := Option.bind_eq_some_iff.mp e
      obtain ⟨as2, e2, e⟩ := Option.bind_eq_some_iff.mp e
      cases e
      refine ⟨v, vr, rfl, F, d, as1, s, r1, e1, fun ws1 hw1 => ⟨F, ds, as2, s, r2, e2, fun ws2 hw2 => ?_⟩⟩
      have hl : (as1.map (·.1)).length = ws1.length := by rw [← hw1.len, List.length_map, List.length_map]
      rw [setMany_append _ _ _ hl, ← List.map_append]
      exact q _ (by rw [List.map_append]; exact hw1.append hw2)
theorem g_tup {k : Nat} (h : GsOk G L tgs gs) (hn : ∀ env, (assignEach tgs env).length = gs.length := by intro _; rfl) (hst : ∀ env, (assignEach tgs env).findIdx? (·.1) = none := by intro _; rfl) : GOk G L (.Tuple tgs k pos) (gT gs) := fun X hX =>
  wkG (pg_tup hX.hot (h X hX) (hn _) (hst _)) fun v σ H Q ⟨F, d, as, s, r, e, q⟩ => by
    unfold gT at e
    split at e
    · rename_i ds
      unfold Rep at r
      obtain ⟨a, vs, rfl, h1, q1⟩ := r
      rw [hX.hK]
      refine ⟨a, vs, rfl, tup_sq h1 s, ?_, F, ds, as, s, q1, e, q⟩
      rw [← q1.len]; exact (gAll_len _ _ _ e).symm
    · cases e
end
section
variable {K : PySem.W.Frag} {F H : Hp}
end
section
variable {G : GX} {L : LX} {ρ : List Sl} {tg iter elt : Expr} {ifs : List Expr} {scope : Scope} {own : List (Str × Nat)} {pos : Pos} {g : TGD} {nt : D → Option Bool} {f : D → Option D} {mi : Option (List D)}
def TsOk (G : GX) (L : LX) (ρ : List Sl) (ifs : List Expr) (m : Option Bool) : Prop := ∀ X, XOk G L X → PTs X ifs (tT G.K ρ m)
theorem ts_nil : TsOk G L ρ [] (some true) := fun X hX => ⟨fun pins s σ H Q I ⟨F, b, e, vr, q⟩ => by cases e; exact pts_nil.run pins s σ H Q I (q F H (.refl vr.sub))⟩
structure LcOk (G : GX) (L : LX) (ρ : List Sl) (tg elt : Expr) (ifs : List Expr) (scope : Scope) (own : List (Str × Nat)) (g : TGD) (nt : D → Option Bool) (f : D → Option D) : Prop where
  blk : blkC L.N L.sc scope own = true
  tgt : GOk G (L.blk scope) tg g
  ins : ∀ d as, g d = some as → ∀ i ∈ as.map (·.1), i ∈ own.map (·.2)
  bad : ∀ d, g d = none → nt d = none
  ifs : ∀ d as, g d = some as → TsOk G (L.blk scope) (setAll (wipeS ρ (own.map (·.2))) as) ifs (nt d)
  elt : ∀ d as, g d = some as → EOk G (L.blk scope) (setAll (wipeS ρ (own.map (·.2))) as) elt (f d)
theorem f_lc (hi : IOk G L ρ tg iter mi) (h : LcOk G L ρ tg elt ifs scope own g nt f) (hs : ∀ env x, foldedSetIterable iter env x = pure x := by intro _ _; rfl) :
    FOk G L ρ (.ListComp elt [⟨tg, iter, ifs, 0⟩] scope pos) (LC mi nt f) := fun X hX =>
  wkE (pe_lc (own := own) (g := tG G.K g) (tt := tsD G.K ρ (own.map (·.2)) g nt) (te := teD G.K ρ (own.map (·.2)) g f) hX.hot (by rw [hX.hN]; exact hX.nd) (hi X hX) (blkOk_by (by rw [hX.hN, hX.hsc]; exact h.blk))
    (fun s H C cl fp hot => h.tgt _ (hX.blk s H scope C cl fp hot))
    (fun s H C cl fp hot => ⟨fun pins s' σ H' Q I ⟨d, as, eg, q⟩ => (h.ifs d as eg _ (hX.blk s H scope C cl fp hot)).run pins s' σ H' Q I q⟩)
    (fun s H C cl fp hot => ⟨fun pins s' σ H' Q I ⟨d, as, eg, q⟩ => (h.elt d as eg _ (hX.blk s H scope C cl fp hot)).run pins s' σ H' Q I q⟩) (hs _)) fun σ H Q q => lc_read h.ins h.bad q
theorem lc1 {i : Nat} (blk : blkC L.N L.sc scope own = true) (hg : GOk G (L.blk scope) tg (gN i)) (hi : i ∈ own.map (·.2))
    (ht : ∀ d, TsOk G (L.blk scope) (setS (wipeS ρ (own.map (·.2))) i (.val d)) ifs (nt d)) (he : ∀ d, EOk G (L.blk scope) (setS (wipeS ρ (own.map (·.2))) i (.val d)) elt (f d)) : LcOk G L ρ tg elt ifs scope own (gN i) nt f :=
  ⟨blk, hg, fun d as e j hj => (by cases e; simp at hj; subst hj; exact hi), fun d e => (by cases e), fun d as e => (by cases e; exact ht d), fun d as e => (by cases e; exact he d)⟩
theorem lc2 {i j : Nat} {nt : D → D → Option Bool} {f : D → D → Option D} (blk : blkC L.N L.sc scope own = true) (hg : GOk G (L.blk scope) tg (gT [gN i, gN j])) (hi : i ∈ own.map (·.2)) (hj : j ∈ own.map (·.2))
    (ht : ∀ a b, TsOk G (L.blk scope) (setS (setS (wipeS ρ (own.map (·.2))) i (.val a)) j (.val b)) ifs (nt a b)) (he : ∀ a b, EOk G (L.blk scope) (setS (setS (wipeS ρ (own.map (·.2))) i (.val a)) j (.val b)) elt (f a b)) :
    LcOk G L ρ tg elt ifs scope own (gT [gN i, gN j]) (un2 nt) (un2 f) := by
  refine ⟨blk, hg, fun d as e k hk => ?_, fun d e => ?_, fun d as e => ?_, fun d as e => ?_⟩
  · obtain ⟨a, b, as1, as2, rfl, e1, e2, rfl⟩ := gT2_inv e
    cases e1; cases e2
    simp at hk
    rcases hk with rfl | rfl
    · exact hi
    · exact hj
  · unfold un2
    split
    · cases e
    · rfl
  · obtain ⟨a, b, as1, as2, rfl, e1, e2, rfl⟩ := gT2_inv e
    cases e1; cases e2
    exact ht a b
  · obtain ⟨a, b, as1, as2, rfl, e1, e2, rfl⟩ := gT2_inv e
    cases e1; cases e2
    exact he a b
end
end
section
open PySem PySem.Spec PySem.SeqAt PyProof.Rows L2
section
variable {K : PySem.W.Frag} {B F0 F H F' H' F1 : Hp} {ρ : List Sl} {σ : L2.St}
end
def BOk {R : Type} (G : GX) (L : LX) (ρ : List Sl) (sts : List Stmt) (k : KS R) (M : Option R) : Prop := ∀ X, XOk G L X → PSs X sts (tS G.K ρ k M)
section
variable {R : Type} {G : GX} {L : LX} {ρ : List Sl} {sts rest A Bs : List Stmt} {st : Stmt} {k kA : KS R} {e a c i : Expr} {m : Option D} {nc : Option Bool} {M : D → Option R} {pos pos' : Pos} {x : Str}
theorem b_ret {f : D → R} (hk : IsRt G.K k f) (h : EOk G L ρ e m) : BOk G L ρ [.Return (some e) pos] k (m.map f) := fun X hX =>
  wkSs (pss_one (ps_ret (h X hX))) fun D σ H ⟨B, F0, F, r, em, er, q⟩ => by
    obtain ⟨d, ed, rfl⟩ := Option.map_eq_some_iff.mp em
    exact ⟨F, d, ed, er.vr, fun v F' H' x rv => hk.rt d B F0 D q v F' H' (er.ret.go x) rv⟩
theorem b_retD (h : EOk G L ρ e m) : BOk G L ρ [.Return (some e) pos] (kD G.K) m := fun X hX => by have := b_ret (rtD (K := G.K)) h (pos := pos) X hX; rwa [Option.map_id] at this
theorem b_retF (h : EOk G L ρ e m) : BOk G L ρ [.Return (some e) pos] (kF G.K) m := fun X hX => by have := b_ret (rtF (K := G.K)) h (pos := pos) X hX; rwa [Option.map_id] at this
theorem b_set (j : Nat) (h : EOk G L ρ e m) (hr : ∀ d, BOk G L (setS ρ j (.val d)) rest k (M d)) (hj : L.N[j]? = some x := by rfl) (hx : Loc L.sc x := by first | exact Or.inl rfl | exact Or.inr rfl)
    (hf : L.ow x = true ∨ L.sc.names.lookup x = some .local := by first | exact Or.inl rfl | exact Or.inr rfl) (hs : ∀ env, swapsWith e (some (.Name x pos')) pos.line env = pure false := by intro _; rfl) : BOk G L ρ (.Assign [.Name x pos'] e pos :: rest) k (m.bind M) := fun X hX =>
  wkSs (seqU (ps_set (i := j) (by rw [hX.hN]; exact hX.nd) (by rw [hX.hN]; exact hj) (by rw [hX.hsc]; exact hx) (h X hX) (hs _) (by rw [hX.hfn, hX.hsc]; exact hf)) fun d => hr d X hX) fun D σ H ⟨B, F0, F, r, em, er, q⟩ => by
    obtain ⟨d, ed, em⟩ := Option.bind_eq_some_iff.mp em
    exact ⟨F, d, ed, er.vr, fun v F' H' x rv => ⟨d, B, F0, F', r, em, (er.go x).set rv, q⟩⟩
theorem b_if (hc : TOk G L ρ c nc) {MA MB : Option R} (hA : BOk G L ρ A kA MA) (hB : BOk G L ρ rest k MB) (hk : ∀ r B F0 D nx, k r B F0 D → kA r B F0 { D with nx := nx }) : BOk G L ρ (.If c A [] pos :: rest) k (nc.bind fun b => if b = true then MA else MB) := fun X hX =>
  wkSs (pss_cons (ps_if (hc X hX) (hA X hX) pss_nil) (hB X hX)) fun D σ H ⟨B, F0, F, r, em, er, q⟩ => by
    obtain ⟨b, eb, em⟩ := Option.bind_eq_some_iff.mp em
    refine ⟨F, b, eb, er.vr, fun F' H' x => ?_⟩
    cases b with
    | true => exact ⟨B, F0, F', r, em, er.go x, hk r B F0 D _ q⟩
    | false => exact ⟨B, F0, F', r, em, er.go x, q⟩
end
end
section
open PySem PySem.Spec PySem.SeqAt PyProof.Rows L2
theorem fn_ok {G : GX} {x : Str} {st : Stmt} {N ps : List Str} {k n : Nat} {g : List D → Option D} (Fd : DefAt G x st ps) (S : FnScope N ps (defScope st)) (hn : ps.length = n)
    (h : ∀ ds, ds.length = n → BOk G ⟨N, k, defScope st, fun _ => true⟩ (rho N ds) (defBody st) (kF G.K) (g ds)) : FnD G (k + 1) x n g := by
  obtain ⟨f, fd, F, hm, hb⟩ := Fd
  have hpl : ps.length ≤ N.length := by have := congrArg List.length S.pre; rw [List.length_take] at this; omega
  have kp := F.kp
  obtain ⟨oc, od, kV, doc, pm, an, cdv, ct, osl, rfl, lk, hcd⟩ := F.ex
  refine ⟨f, _, ps, hn, fn_of lk hcd S (fun vs H Q E ⟨F, ds, d, hl, s, r, e, q⟩ => by rw [hn, ← hl, r.len]) (fun A outer s H vs Q E p hot hc hr ⟨F0, ds, d, hl, s0, r, e, q⟩ => ?_), hm, kp, hb⟩
  refine ⟨_, h ds hl _ ⟨rfl, rfl, rfl, rfl, rfl, rfl, S.nd, rfl, rfl, hot, hr⟩, H, F0, F0, d, e, ⟨⟨s0, ?_, fun i d h => ?_, fun i d h => absurd h rho_own⟩, ⟨Same.refl _, s0, Same.refl _, fun a o h n => by rw [h] at n; cases n⟩, fun i d p h => absurd h rho_own, fun i j d e p h => absurd h rho_own⟩, ?_, ?_⟩
  · have := r.len
    simp only [L2.start, rho, List.length_append, List.length_map, List.length_replicate]
    omega
  · have hd : ds[i]? = some d := rho_nth (N := N) h
    obtain ⟨v, hv, rv⟩ := r.get hd
    refine ⟨v, ?_, rv⟩
    have hi : i < vs.length := (List.getElem?_eq_some_iff.mp hv).1
    unfold L2.start
    rw [List.getElem?_append_left (by simpa using hi), List.getElem?_map, hv]; rfl
  · intro v F H' ro rv
    exact q v F H' ⟨ro.keep, ro.ext, ro.sub, ro.fresh⟩ rv
  · intro hd σ F H' ro
    subst hd
    exact q .non F H' ⟨ro.keep, ro.ext, ro.sub, ro.fresh⟩ rep_n
section
variable {G : GX} {L : LX} {ρ : List Sl} {e a b c : Expr} {es : List Expr} {m ma mb mc : Option D} {ms : Option (List D)} {pos p p2 : Pos} {x : Str} {k n : Nat} {g : List D → Option D}
theorem e_call (F : FnD G k x n g) (ha : AOk G L ρ (a :: es) ms) (hn : n = (a :: es).length := by rfl) (hk : k ≤ L.k := by decide) (hg : GlS L x := by rfl) (hdb : (x == ("__debug__" : Str)) = false := by decide)
    (hlen : ∀ ds, ms = some ds → ds.length = (a :: es).length) (he : ∀ env, starEach (a :: es) env = (false, eval a env) :: starEach es env := by intro _; rfl) (hpl : ∀ env, (backTo pos (starEach es env)).any (·.1) = false := by intro _; rfl) : EOk G L ρ (.Call (.Name x p) (a :: es) [] pos) (ms.bind g) := fun X hX => by
  obtain ⟨f, fd, ps, hps, hF, hm, hkp, hb⟩ := F
  have hF' : L2H.FnH X.prog X.w X.K X.mg X.base CX0 k f fd ps (spD G.K n g) := by rw [hX.hP, hX.hw, hX.hK, hX.hm, hX.hb]; exact hF
  refine wkE (pe_call (E := fun _ => E0) hF' (hX.room.mono hk) hX.hot (gl_of hX hg) (by rw [hX.hm]; exact hm) (by rw [hX.hK]; exact hkp) (by rw [hX.hK]; exact hb) (fun σ pins H s e s' I h => False.elim h) (ha X hX) hdb (he _) (hpl _)) fun σ H Q ⟨F, d, em, vr, q⟩ => ?_
  obtain ⟨ds, ed, em⟩ := Option.bind_eq_some_iff.mp em
  refine ⟨F, ds, ed, vr, fun vs F1 H1 x1 r1 => ?_⟩
  exact ⟨F1, ds, d, by rw [hn]; exact hlen ds ed, x1.sub, r1, em, fun v F2 H2 x2 r2 => q v F2 H2 (x1.trans x2) r2⟩
theorem EOk.to {e : Expr} {m m' : Option D} (h : EOk G L ρ e m) (q : m = m') : EOk G L ρ e m' := q ▸ h
section
variable {e1 e2 e3 e4 e5 e6 e7 : Expr} {m1 m2 m3 m4 m5 m6 m7 : Option D}
theorem e_call1 {f : D → Option D} (F : FnD G k x 1 (ap1 f)) (h1 : EOk G L ρ e1 m1) (hk : k ≤ L.k := by decide) (hg : GlS L x := by rfl) (hdb : (x == ("__debug__" : Str)) = false := by decide)
    (s1 : ∀ env, starEach [e1] env = (false, eval e1 env) :: starEach [] env := by intro _; rfl) : EOk G L ρ (.Call (.Name x p) [e1] [] pos) (E1 f m1) := by
  have := e_call F (p := p) (pos := pos) (a_cons h1 a_nil s1) rfl hk hg hdb (aC_len nil_len) s1 (fun _ => rfl)
  refine this.to ?_
  unfold aC E1
  cases m1 <;> rfl
theorem e_call2 {f : D → D → Option D} (F : FnD G k x 2 (ap2 f)) (h1 : EOk G L ρ e1 m1) (h2 : EOk G L ρ e2 m2) (hk : k ≤ L.k := by decide) (hg : GlS L x := by rfl) (hdb : (x == ("__debug__" : Str)) = false := by decide)
    (s1 : ∀ env, starEach [e1, e2] env = (false, eval e1 env) :: starEach [e2] env := by intro _; rfl) (s2 : ∀ env, starEach [e2] env = (false, eval e2 env) :: starEach [] env := by intro _; rfl)
    (hpl : ∀ env, (backTo pos (starEach [e2] env)).any (·.1) = false := by intro _; rfl) : EOk G L ρ (.Call (.Name x p) [e1, e2] [] pos) (E2 f m1 m2) := by
  have := e_call F (p := p) (pos := pos) (a_cons h1 (a_cons h2 a_nil s2) s1) rfl hk hg hdb (aC_len (aC_len nil_len)) s1 hpl
  refine this.to ?_
  unfold aC E2
  cases m1 <;> cases m2 <;> rfl
theorem e_call3 {f : D → D → D → Option D} (F : FnD G k x 3 (ap3 f)) (h1 : EOk G L ρ e1 m1) (h2 : EOk G L ρ e2 m2) (h3 : EOk G L ρ e3 m3) (hk : k ≤ L.k := by decide) (hg : GlS L x := by rfl) (hdb : (x == ("__debug__" : Str)) = false := by decide)
    (s1 : ∀ env, starEach [e1, e2, e3] env = (false, eval e1 env) :: starEach [e2, e3] env := by intro _; rfl) (s2 : ∀ env, starEach [e2, e3] env = (false, eval e2 env) :: starEach [e3] env := by intro _; rfl) (s3 : ∀ env, starEach [e3] env = (false, eval e3 env) :: starEach [] env := by intro _; rfl)
    (hpl : ∀ env, (backTo pos (starEach [e2, e3] env)).any (·.1) = false := by intro _; rfl) : EOk G L ρ (.Call (.Name x p) [e1, e2, e3] [] pos) (E3 f m1 m2 m3) := by
  have := e_call F (p := p) (pos := pos) (a_cons h1 (a_cons h2 (a_cons h3 a_nil s3) s2) s1) rfl hk hg hdb (aC_len (aC_len (aC_len nil_len))) s1 hpl
  refine this.to ?_
  unfold aC E3
  cases m1 <;> cases m2 <;> cases m3 <;> rfl
end
end
end
section
open PySem PySem.Spec PySem.SeqAt PyProof.Rows L2
section
variable {G : GX} {L : LX} {ρ : List Sl} {e a b c : Expr} {es : List Expr} {m ma mb mc : Option D} {ms : Option (List D)} {pos p p1 p2 : Pos} {x : Str}
theorem e_isi {f : D → Bool} {T : Str} {tn : String} (hT : IsiOk tn f) (hv : bootBuiltins T = some (.type tn)) (hm : G.mg "isinstance" = none) (hmT : G.mg T = none) (h : EOk G L ρ e m) (hg : GlS L "isinstance" := by rfl) (hgT : GlS L T := by rfl)
    (hn : T ≠ "__name__" := by decide) (hdb : (T == ("__debug__" : Str)) = false := by decide)
    (he : ∀ env, starEach [e, .Name T p1] env = (false, eval e env) :: starEach [.Name T p1] env := by intro _; rfl) : EOk G L ρ (.Call (.Name "isinstance" p) [e, .Name T p1] [] pos) (m.bind (isiG f)) := fun X hX =>
  wkE (pe_callB (call_isi (X := X)) (gl_of hX hg) (by rw [hX.hm]; exact hm) PyProof.Rows.boot_isinstance (pa_cons (h X hX) (pa_cons (pe_bltn (v := .ty tn) (u := .type tn) (gl_of hX hgT) (by rw [hX.hm]; exact hmT) hv rfl hn hdb) pa_nil) (he _))
    (by decide) (by decide) (he _) rfl) fun σ H Q ⟨F, d, em, vr, q⟩ => by
    obtain ⟨y, ey, em⟩ := Option.bind_eq_some_iff.mp em
    refine ⟨F, y, ey, vr, fun v F' H' x r => ?_⟩
    rw [hX.hK]
    have hq : ∀ r', isiG f y = some r' → r' = .bl (f y) ∧ kitB (tyN y) tn = some (f y) := fun r' h' => by
      have hh := hT y
      cases y <;> first | (cases h'; exact ⟨rfl, hh rfl⟩) | cases h'
    obtain ⟨rfl, hk⟩ := hq _ em
    exact ⟨v, .ty tn, .type (tyN y), .type tn, f y, rfl, .ty tn, tyX_of x.sub em r, kit_ty hk, q _ F' H' x rep_b⟩

end
end
section
open PySem PySem.Spec PySem.SeqAt PyProof.Rows L2
open PySem.W (dataLt alike EachIs AllAlike Sortable dataLe)
end
section
open PySem PySem.Spec PySem.SeqAt PyProof.Rows L2
section
variable {G : GX} {L : LX} {ρ : List Sl} {e a b c : Expr} {es : List Expr} {m ma mb mc : Option D} {ms : Option (List D)} {pos p p1 p2 : Pos} {x : Str}
end
end
section
open PySem PySem.Spec PySem.SeqAt PyProof.Rows L2
section
variable {R S : Type} {G : GX} {L : LX} {ρ : List Sl} {v : S → List Sl} {body rest A Bs : List Stmt} {k kA : KS R} {tg iter c : Expr} {pos : Pos} {g : TGD} {mi : Option (List D)} {s0 : S} {M : S → Option R} {nc : Option Bool}
theorem c_if (hc : TOk G L ρ c nc) {MA MB : Option R} (hA : BOk G L ρ A kA MA) (hB : BOk G L ρ rest k MB) (hk : ∀ r B F0 D nx, k r B F0 D → kA r B F0 { D with nx := nx }) : BOk G L ρ (.If c A [] pos :: rest) k (iteO nc MA MB) := b_if hc hA hB hk
end
end
section
open PySem PySem.Spec PySem.SeqAt PyProof.Rows L2
section
variable {R : Type} {G : GX} {L : LX} {ρ : List Sl} {sts : List Stmt} {k k0 : KS R} {e a b : Expr} {ma mb m : Option D} {pos p p1 : Pos} {x : Str}
theorem e_ng (ha : EOk G L ρ a ma) : EOk G L ρ (.UnaryOp .USub a pos) (E1 negD ma) := (e_neg ha).to (by
  unfold E1
  congr 1)
end
section
variable {G : GX} {L : LX} {ρ : List Sl} {e a b c : Expr} {ma mb : Option D} {pos p p2 : Pos}
theorem e_len1 (hm : G.mg "len" = none) (ha : EOk G L ρ a ma) (hg : GlS L "len" := by rfl) (s1 : ∀ env, starEach [a] env = (false, eval a env) :: starEach [] env := by intro _; rfl) :
    EOk G L ρ (.Call (.Name "len" p) [a] [] pos) (E1 (o1 lenD) ma) := aC1 ▸ (e_cb cd_len hm PySem.boot_len (a_cons ha a_nil s1) hg (by decide) (by decide) s1)
theorem e_all1 (hm : G.mg "all" = none) (ha : EOk G L ρ a ma) (hg : GlS L "all" := by rfl) (s1 : ∀ env, starEach [a] env = (false, eval a env) :: starEach [] env := by intro _; rfl) :
    EOk G L ρ (.Call (.Name "all" p) [a] [] pos) (E1 (o1 allD) ma) := aC1 ▸ (e_cb cd_all hm PyProof.Rows.boot_all (a_cons ha a_nil s1) hg (by decide) (by decide) s1)
theorem e_int1 (hm : G.mg "int" = none) (ha : EOk G L ρ a ma) (hg : GlS L "int" := by rfl) (s1 : ∀ env, starEach [a] env = (false, eval a env) :: starEach [] env := by intro _; rfl) :
    EOk G L ρ (.Call (.Name "int" p) [a] [] pos) (E1 (o1 intD) ma) := aC1 ▸ (e_ct cd_int hm PyProof.Rows.boot_int (a_cons ha a_nil s1) hg (by decide) (by decide) s1)
theorem e_tuple1 (hm : G.mg "tuple" = none) (ha : EOk G L ρ a ma) (hg : GlS L "tuple" := by rfl) (s1 : ∀ env, starEach [a] env = (false, eval a env) :: starEach [] env := by intro _; rfl) :
    EOk G L ρ (.Call (.Name "tuple" p) [a] [] pos) (E1 (o1 tupleD) ma) := aC1 ▸ (e_ct cd_tuple hm PyProof.Rows.boot_tuple (a_cons ha a_nil s1) hg (by decide) (by decide) s1)
theorem f_list1 (hm : G.mg "list" = none) (ha : EOk G L ρ a ma) (hg : GlS L "list" := by rfl) (s1 : ∀ env, starEach [a] env = (false, eval a env) :: starEach [] env := by intro _; rfl) :
    FOk G L ρ (.Call (.Name "list" p) [a] [] pos) (E1 (o1 listD) ma) := aC1 ▸ (f_ct cf_list hm PyProof.Rows.boot_list (a_cons ha a_nil s1) hg (by decide) (by decide) s1)
theorem e_is_int (hm : G.mg "isinstance" = none) (hmT : G.mg "int" = none) (h : EOk G L ρ e ma) (hg : GlS L "isinstance" := by rfl) (hgT : GlS L "int" := by rfl) (he : ∀ env, starEach [e, .Name "int" p2] env = (false, eval e env) :: starEach [.Name "int" p2] env := by intro _; rfl) :
    EOk G L ρ (.Call (.Name "isinstance" p) [e, .Name "int" p2] [] pos) (E1 (isiG isIntD) ma) := e_isi isi_int PyProof.Rows.boot_int hm hmT h hg hgT (by decide) (by decide) he
theorem e_is_bool (hm : G.mg "isinstance" = none) (hmT : G.mg "bool" = none) (h : EOk G L ρ e ma) (hg : GlS L "isinstance" := by rfl) (hgT : GlS L "bool" := by rfl) (he : ∀ env, starEach [e, .Name "bool" p2] env = (false, eval e env) :: starEach [.Name "bool" p2] env := by intro _; rfl) :
    EOk G L ρ (.Call (.Name "isinstance" p) [e, .Name "bool" p2] [] pos) (E1 (isiG isBlD) ma) := e_isi isi_bool PyProof.Rows.boot_bool hm hmT h hg hgT (by decide) (by decide) he
theorem e_is_tuple (hm : G.mg "isinstance" = none) (hmT : G.mg "tuple" = none) (h : EOk G L ρ e ma) (hg : GlS L "isinstance" := by rfl) (hgT : GlS L "tuple" := by rfl) (he : ∀ env, starEach [e, .Name "tuple" p2] env = (false, eval e env) :: starEach [.Name "tuple" p2] env := by intro _; rfl) :
    EOk G L ρ (.Call (.Name "isinstance" p) [e, .Name "tuple" p2] [] pos) (E1 (isiG isTupD) ma) := e_isi isi_tuple PyProof.Rows.boot_tuple hm hmT h hg hgT (by decide) (by decide) he
end
theorem fn_ok1 {G : GX} {x : Str} {st : Stmt} {N ps : List Str} {k : Nat} {g : D → Option D} (Fd : DefAt G x st ps) (S : FnScope N ps (defScope st)) (hn : ps.length = 1)
    (h : ∀ a0, BOk G ⟨N, k, defScope st, fun _ => true⟩ (rho N [a0]) (defBody st) (kF G.K) (g a0)) : FnD G (k + 1) x 1 (ap1 g) := fn_ok Fd S hn fun ds hds => by
  match ds, hds with
  | [a0], _ => exact h a0
theorem fn_ok2 {G : GX} {x : Str} {st : Stmt} {N ps : List Str} {k : Nat} {g : D → D → Option D} (Fd : DefAt G x st ps) (S : FnScope N ps (defScope st)) (hn : ps.length = 2)
    (h : ∀ a0 a1, BOk G ⟨N, k, defScope st, fun _ => true⟩ (rho N [a0, a1]) (defBody st) (kF G.K) (g a0 a1)) : FnD G (k + 1) x 2 (ap2 g) := fn_ok Fd S hn fun ds hds => by
  match ds, hds with
  | [a0, a1], _ => exact h a0 a1
theorem fn_ok3 {G : GX} {x : Str} {st : Stmt} {N ps : List Str} {k : Nat} {g : D → D → D → Option D} (Fd : DefAt G x st ps) (S : FnScope N ps (defScope st)) (hn : ps.length = 3)
    (h : ∀ a0 a1 a2, BOk G ⟨N, k, defScope st, fun _ => true⟩ (rho N [a0, a1, a2]) (defBody st) (kF G.K) (g a0 a1 a2)) : FnD G (k + 1) x 3 (ap3 g) := fn_ok Fd S hn fun ds hds => by
  match ds, hds with
  | [a0, a1, a2], _ => exact h a0 a1 a2
end
section
open PySem PySem.Spec PySem.SeqAt PyProof.Rows L2
section
variable {R S : Type} {G : GX} {L : LX} {ρ : List Sl} {v : S → List Sl} {body rest : List Stmt} {k : KS R} {tg iter c : Expr} {pos : Pos} {g : TGD} {mi : Option (List D)} {s0 : S} {M : S → Option R}
theorem BOk.to {sts : List Stmt} {m m' : Option R} (h : BOk G L ρ sts k m) (q : m = m') : BOk G L ρ sts k m' := q ▸ h
end
section
variable {G : GX} {L : LX} {ρ : List Sl} {e a b : Expr} {m ma mb : Option D} {pos p p2 pos2 : Pos}
end
section
variable {G : GX} {L : LX} {ρ : List Sl} {tg iter elt tg1 iter1 : Expr} {ifs ifs1 : List Expr} {scope : Scope} {own : List (Str × Nat)} {pos : Pos} {g g1 : TGD} {nt : D → Option Bool} {mi : D → Option (List D)} {nt1 : D → D → Option Bool} {f : D → D → Option D} {mi0 : Option (List D)} {vs1 : List Nat}
end
section
variable {R S : Type} {G : GX} {L : LX} {ρ : List Sl} {v : S → List Sl} {body rest : List Stmt} {k : KS R} {tg iter : Expr} {pos : Pos} {mi : Option (List D)} {s0 : S} {M : S → Option R}
end
theorem e_gI {G : GX} {L : LX} {ρ : List Sl} {x : Str} {i : Int} {pos : Pos} (h : ∃ u, G.mg x = some u ∧ RelV (.int i) u) (hg : L.sc.names.lookup x = some .globalImplicit := by rfl) (hd : (x == ("__debug__" : Str)) = false := by decide) : EOk G L ρ (.Name x pos) (some (.int i)) := by
  obtain ⟨u, h1, h2⟩ := h
  exact e_glob hg h1 h2 (fun _ _ => rep_i) hd
end
section
open PySem PySem.Spec PySem.SeqAt PyProof.Rows L2
section
variable {X : Cx} {tg e : Expr} {td : TE}
end
section
variable {G : GX} {L : LX} {ρ : List Sl} {tg iter elt : Expr} {ifs : List Expr} {scope : Scope} {own : List (Str × Nat)} {pos : Pos} {g : TGD} {nt : D → Option Bool} {f : D → Option D} {md : Option D}
end
section
variable {G : GX} {L : LX} {ρ : List Sl} {e a : Expr} {es : List Expr} {m : Option D} {ms : Option (List D)} {pos p p1 : Pos} {x : Str} {k n : Nat} {g : List D → Option D}
theorem FOk.to {e : Expr} {m m' : Option D} (h : FOk G L ρ e m) (q : m = m') : FOk G L ρ e m' := q ▸ h
end
section
variable {G : GX} {L : LX} {ρ : List Sl} {e1 e2 e3 e4 e5 : Expr} {m1 m2 m3 m4 m5 : Option D} {pos p : Pos} {x : Str} {k : Nat}
end
end
section
open PySem PySem.Spec PySem.SeqAt PyProof.Rows L2
section
variable {G : GX} {L : LX} {ρ : List Sl} {o e a : Expr} {mo me ma : Option D} {apos pos p : Pos}
theorem cd_str : CallD G L strD (.type "str") := fun X hX => ⟨_, call_str_int.or SkE.call_str_str, fun F H ds vs d Q s r e q => by
  unfold strD at e
  split at e
  · split at e
    · cases e
      obtain ⟨v, rfl, h⟩ := r.one
      unfold Rep at h
      exact .inl ⟨_, by rw [h], by assumption, q _ F H (.refl s) rep_s⟩
    · cases e
  · cases e
    obtain ⟨v, rfl, h⟩ := r.one
    unfold Rep at h
    exact .inr ⟨_, by rw [h], q _ F H (.refl s) rep_s⟩
  · cases e⟩
theorem e_str1 (hm : G.mg "str" = none) (ha : EOk G L ρ a ma) (hg : GlS L "str" := by rfl) (s1 : ∀ env, starEach [a] env = (false, eval a env) :: starEach [] env := by intro _; rfl) :
    EOk G L ρ (.Call (.Name "str" p) [a] [] pos) (E1 (o1 strD) ma) := aC1 ▸ (e_ct cd_str hm PyProof.Rows.boot_str (a_cons ha a_nil s1) hg (by decide) (by decide) s1)
end
section
variable {R : Type} {G : GX} {L : LX} {ρ : List Sl} {tg : Expr} {pos : Pos} {rest : List Stmt} {k : KS R}
end
section
variable {G : GX} {L : LX} {ρ : List Sl} {a b : Expr} {ma mb : Option D} {p2 pos : Pos}
end
end
end H
end DL
set_option autoImplicit false
set_option maxRecDepth 100000
set_option maxHeartbeats 4000000
namespace DL
noncomputable section
/-- is_coinage where an exception is handled: its zip is of two tuples -/
def f_is_coinage_H (x_value : D) (x_most : D) : Option D :=
  (iteO (orT (notT ((E1 (isiG isTupD) (some x_value)).bind truD)) (notT ((chD leD leD (some (D.int 1)) (E1 (o1 lenD) (some x_value)) (some x_most)).bind getB)))
  (some (D.bl false))
  (iteO (notT ((E1 (o1 allD) (LC ((some x_value).bind seqD) (fun x_part => (some true)) (fun x_part => (E3 f_is_number_D (some x_part) (some (D.int 1)) (some (D.int 60)))))).bind truD))
  (some (D.bl false))
  (E1 (o1 allD) (LC ((aC (some x_value) (aC (SL (some x_value) (((some (D.int 1)).bind getI).map some) (some none)) (some []))).bind H.zipTD) (un2 (fun x_less x_more => (some true))) (un2 (fun x_less x_more => (E2 ltD (some x_less) (some x_more))))))))
end
end DL
set_option autoImplicit false
set_option pp.maxSteps 40
set_option maxRecDepth 100000
set_option maxHeartbeats 4000000
namespace DL.H.k00
open PySem PySem.Spec PySem.SeqAt PyProof.Rows L2 DL.k00
theorem ok_is_number {G : GX} (T : Top G) : FnD G 1 "is_number" 3 (ap3 f_is_number_D) := by
  refine fn_ok3 (k := 0) T.t_is_number sc_is_number rfl fun x_value x_least x_most => ?_
  show BOk _ _ [.val x_value, .val x_least, .val x_most] _ _ _
  delta f_is_number_D
  refine c_if (t_w (w_or (t_not (t_tru (e_is_int T.z_isinstance T.z_int (e_var 0)))) (w_or (t_tru (e_is_bool T.z_isinstance T.z_bool (e_var 0))) (w_or1 (t_cmp opd_lt (e_var 0) (e_var 1)))))) ?_ ?_ kFD
  · exact b_retD e_bl
  exact b_retF (e_or (e_cmp opd_is (e_var 2) e_non) (e_one (e_cmp opd_le (e_var 0) (e_var 2))))
theorem ok_is_coinage {G : GX} (T : Top G) : FnD G 2 "is_coinage" 2 (ap2 f_is_coinage_H) := by
  refine fn_ok2 (k := 1) T.t_is_coinage sc_is_coinage rfl fun x_value x_most => ?_
  show BOk _ _ [.val x_value, .val x_most, .no, .no, .no] _ _ _
  delta f_is_coinage_H
  refine c_if (t_w (w_or (t_not (t_tru (e_is_tuple T.z_isinstance T.z_tuple (e_var 0)))) (w_or1 (t_not (t_chain opd_le opd_le e_int (e_len1 T.z_len (e_var 0)) (e_var 1)))))) ?_ ?_ kFD
  · exact b_retD e_bl
  refine c_if (t_not (t_tru (e_all1 T.z_all (e_new (f_lc (i_seq (e_var 0)) (lc1 (own := [("part", 4)]) (by decide +kernel) (g_name 4) (by decide) (fun x_part => ts_nil) (fun x_part => (e_call3 (ok_is_number T) (e_var 4) e_int (e_gI T.g_MOST_VALUE))))))))) ?_ ?_ kFD
  · exact b_retD e_bl
  exact b_retF (e_all1 T.z_all (e_new (f_lc (i_zip T.z_zip (a_cons (e_var 0) (a_cons (e_sl (e_var 0) (o_some e_int) o_none) a_nil))) (lc2 (own := [("less", 2), ("more", 3)]) (by decide +kernel) (g_tup (gs_cons (g_name 2) (gs_cons (g_name 3) gs_nil))) (by decide) (by decide) (fun x_less x_more => ts_nil) (fun x_less x_more => (e_cmp opd_lt (e_var 2) (e_var 3)))))))
theorem ok__law_is_int {G : GX} (T : Top G) : FnD G 1 "_law_is_int" 1 (ap1 f__law_is_int_D) := by
  refine fn_ok1 (k := 0) T.t__law_is_int sc__law_is_int rfl fun x_value => ?_
  show BOk _ _ [.val x_value] _ _ _
  delta f__law_is_int_D
  exact b_retF (e_and (e_is_int T.z_isinstance T.z_int (e_var 0)) (e_one (e_not (e_is_bool T.z_isinstance T.z_bool (e_var 0)))))
theorem ok__law_rises {G : GX} (T : Top G) : FnD G 1 "_law_rises" 1 (ap1 f__law_rises_D) := by
  refine fn_ok1 (k := 0) T.t__law_rises sc__law_rises rfl fun x_items => ?_
  show BOk _ _ [.val x_items, .no] _ _ _
  delta f__law_rises_D
  exact b_retF (e_all1 T.z_all (e_new (f_lc (i_range1 T.z_range (a_cons (e_op opd_sub (e_len1 T.z_len (e_var 0)) e_int) a_nil)) (lc1 (own := [("k", 1)]) (by decide +kernel) (g_name 1) (by decide) (fun x_k => ts_nil) (fun x_k => (e_cmp opd_lt (e_ix (e_var 0) (e_var 1)) (e_ix (e_var 0) (e_op opd_add (e_var 1) e_int))))))))
theorem ok__law_is_coinage {G : GX} (T : Top G) : FnD G 2 "_law_is_coinage" 1 (ap1 f__law_is_coinage_D) := by
  refine fn_ok1 (k := 1) T.t__law_is_coinage sc__law_is_coinage rfl fun x_value => ?_
  show BOk _ _ [.val x_value, .no] _ _ _
  delta f__law_is_coinage_D
  refine c_if (t_w (w_or (t_not (t_tru (e_is_tuple T.z_isinstance T.z_tuple (e_var 0)))) (w_or1 (t_not (t_chain opd_le opd_le e_int (e_len1 T.z_len (e_var 0)) e_int))))) ?_ ?_ kFD
  · exact b_retD e_bl
  refine c_if (t_not (t_tru (e_all1 T.z_all (e_new (f_lc (i_seq (e_var 0)) (lc1 (own := [("part", 1)]) (by decide +kernel) (g_name 1) (by decide) (fun x_part => ts_nil) (fun x_part => (e_and (e_call1 (ok__law_is_int T) (e_var 1)) (e_one (e_chain opd_le opd_le e_int (e_var 1) e_int)))))))))) ?_ ?_ kFD
  · exact b_retD e_bl
  exact b_retF (e_call1 (ok__law_rises T) (e_var 0))
theorem ok__law_placed {G : GX} (T : Top G) : FnD G 1 "_law_placed" 3 (ap3 f__law_placed_D) := by
  refine fn_ok3 (k := 0) T.t__law_placed sc__law_placed rfl fun x_good x_place x_part => ?_
  show BOk _ _ [.val x_good, .val x_place, .val x_part] _ _ _
  delta f__law_placed_D
  exact b_retF (e_op opd_add (e_op opd_add (e_sl (e_var 0) o_none (o_some (e_var 1))) (e_tup (a_cons (e_var 2) a_nil))) (e_sl (e_var 0) (o_some (e_op opd_add (e_var 1) e_int)) o_none))
theorem ok__law_part {G : GX} (T : Top G) : FnD G 1 "_law_part" 2 (ap2 f__law_part_k00_D) := by
  refine fn_ok2 (k := 0) T.t__law_part sc__law_part rfl fun x_kind x_value => ?_
  show BOk _ _ [.val x_kind, .val x_value] _ _ _
  delta f__law_part_k00_D
  refine c_if (t_cmp opd_eq (e_var 0) e_int) ?_ ?_ kFD
  · exact b_retD e_bl
  refine c_if (t_cmp opd_eq (e_var 0) e_int) ?_ ?_ kFD
  · exact b_retD e_bl
  refine c_if (t_cmp opd_eq (e_var 0) e_int) ?_ ?_ kFD
  · exact b_retD e_non
  refine c_if (t_cmp opd_eq (e_var 0) e_int) ?_ ?_ kFD
  · exact b_retD (e_str1 T.z_str (e_var 1))
  refine c_if (t_cmp opd_eq (e_var 0) e_int) ?_ ?_ kFD
  · exact b_retD (e_tup (a_cons (e_var 1) a_nil))
  exact b_retF (e_new (f_lst (a_cons (e_var 1) a_nil)))
theorem ok__law_spoiled {G : GX} (T : Top G) : FnD G 2 "_law_spoiled" 3 (ap3 f__law_spoiled_D) := by
  refine fn_ok3 (k := 1) T.t__law_spoiled sc__law_spoiled rfl fun x_good x_row x_at => ?_
  show BOk _ _ [.val x_good, .val x_row, .val x_at, .no, .no, .no, .no] _ _ _
  delta f__law_spoiled_D
  refine b_set 3 (e_op opd_mod (e_int1 T.z_int (e_ix (e_var 1) (e_var 2))) e_int) (fun x_kind => ?_)
  refine b_set 4 (e_op opd_mod (e_int1 T.z_int (e_ix (e_var 1) (e_op opd_add (e_var 2) e_int))) (e_len1 T.z_len (e_var 0))) (fun x_place => ?_)
  refine b_set 5 (e_op opd_mod (e_int1 T.z_int (e_ix (e_var 1) (e_op opd_add (e_var 2) e_int))) e_int) (fun x_more => ?_)
  refine c_if (t_cmp opd_lt (e_var 3) e_int) ?_ ?_ kFD
  · exact b_retD (e_call3 (ok__law_placed T) (e_var 0) (e_var 4) (e_call2 (ok__law_part T) (e_var 3) (e_ix (e_var 0) (e_var 4))))
  refine c_if (t_cmp opd_eq (e_var 3) e_int) ?_ ?_ kFD
  · exact b_retD (e_op opd_add (e_tup (a_cons e_bl a_nil)) (e_sl (e_var 0) (o_some e_int) o_none))
  refine c_if (t_cmp opd_eq (e_var 3) e_int) ?_ ?_ kFD
  · exact b_retD (e_op opd_add (e_tup (a_cons e_int a_nil)) (e_sl (e_var 0) (o_some e_int) o_none))
  refine c_if (t_cmp opd_eq (e_var 3) e_int) ?_ ?_ kFD
  · exact b_retD (e_op opd_add (e_tup (a_cons (e_op opd_sub (e_ng (e_ix (e_var 0) e_int)) (e_var 5)) a_nil)) (e_sl (e_var 0) (o_some e_int) o_none))
  refine c_if (t_cmp opd_eq (e_var 3) e_int) ?_ ?_ kFD
  · exact b_retD (e_op opd_add (e_sl (e_var 0) o_none (o_some (e_ng e_int))) (e_tup (a_cons e_int a_nil)))
  refine c_if (t_cmp opd_eq (e_var 3) e_int) ?_ ?_ kFD
  · exact b_retD (e_op opd_add (e_sl (e_var 0) o_none (o_some (e_ng e_int))) (e_tup (a_cons (e_op opd_add e_int (e_var 5)) a_nil)))
  refine c_if (t_cmp opd_eq (e_var 3) e_int) ?_ ?_ kFD
  · exact b_retD (e_call3 (ok__law_placed T) (e_var 0) (e_var 4) (e_op opd_add (e_op opd_pow e_int e_int) (e_var 5)))
  refine c_if (t_cmp opd_eq (e_var 3) e_int) ?_ ?_ kFD
  · exact b_retD (e_op opd_add (e_sl (e_var 0) o_none (o_some (e_op opd_add (e_var 4) e_int))) (e_sl (e_var 0) (o_some (e_var 4)) o_none))
  refine c_if (t_cmp opd_eq (e_var 3) e_int) ?_ ?_ kFD
  · exact b_retD (e_op opd_add (e_op opd_add (e_sl (e_var 0) (o_some (e_var 4)) o_none) (e_sl (e_var 0) o_none (o_some (e_var 4)))) (e_sl (e_var 0) o_none (o_some (e_int1 T.z_int (e_cmp opd_eq (e_var 4) e_int)))))
  refine c_if (t_cmp opd_lt (e_var 3) e_int) ?_ ?_ kFD
  · exact b_retD (e_tuple1 T.z_tuple (e_new (f_lc (i_range1 T.z_range (a_cons e_int a_nil)) (lc1 (own := [("k", 6)]) (by decide +kernel) (g_name 6) (by decide) (fun x_k => ts_nil) (fun x_k => (e_op opd_add (e_op opd_add e_int (e_op opd_mod (e_var 5) e_int)) (e_op opd_mul (e_op opd_add e_int (e_op opd_mod (e_op opd_fdiv (e_var 5) e_int) e_int)) (e_var 6))))))))
  refine c_if (t_cmp opd_eq (e_var 3) e_int) ?_ ?_ kFD
  · exact b_retD (e_tup a_nil)
  refine c_if (t_cmp opd_eq (e_var 3) e_int) ?_ ?_ kFD
  · exact b_retD (e_tup (a_cons (e_var 0) a_nil))
  refine c_if (t_cmp opd_eq (e_var 3) e_int) ?_ ?_ kFD
  · exact b_retD (e_op opd_add (e_var 0) (e_tup (a_cons (e_new (f_lst a_nil)) a_nil)))
  exact b_retF (e_ix (e_new (f_lst (a_cons (e_ix (e_var 0) e_int) (a_cons e_non (a_cons e_bl (a_cons e_str (a_cons (e_new (f_lst a_nil)) (a_cons e_str a_nil)))))))) (e_op opd_mod (e_int1 T.z_int (e_ix (e_var 1) (e_op opd_add (e_var 2) e_int))) e_int))
theorem ok__law_edge {G : GX} (T : Top G) : FnD G 1 "_law_edge" 2 (ap2 f__law_edge_D) := by
  refine fn_ok2 (k := 0) T.t__law_edge sc__law_edge rfl fun x_row x_at => ?_
  show BOk _ _ [.val x_row, .val x_at, .no, .no, .no] _ _ _
  delta f__law_edge_D
  refine b_set 2 (e_op opd_mod (e_int1 T.z_int (e_ix (e_var 0) (e_var 1))) e_int) (fun x_kind => ?_)
  refine b_set 3 (e_op opd_add e_int (e_op opd_mod (e_int1 T.z_int (e_ix (e_var 0) (e_op opd_add (e_var 1) e_int))) e_int)) (fun x_step => ?_)
  refine c_if (t_cmp opd_eq (e_var 2) e_int) ?_ ?_ kFD
  · exact b_retD (e_tup (a_cons e_int a_nil))
  refine c_if (t_cmp opd_eq (e_var 2) e_int) ?_ ?_ kFD
  · exact b_retD (e_tup (a_cons e_int a_nil))
  exact b_retF (e_tuple1 T.z_tuple (e_new (f_lc (i_range1 T.z_range (a_cons e_int a_nil)) (lc1 (own := [("k", 4)]) (by decide +kernel) (g_name 4) (by decide) (fun x_k => ts_nil) (fun x_k => (e_op opd_sub e_int (e_op opd_mul (e_var 3) (e_op opd_sub e_int (e_var 4)))))))))
end DL.H.k00
set_option autoImplicit false
set_option maxRecDepth 100000
set_option maxHeartbeats 4000000
/-! raise and try, where nothing is handled and where an exception is -/
namespace DL
open PySem PySem.Spec PySem.SeqAt PyProof.Rows L2
section
variable {P : Program} {w : World} {K : PySem.W.Frag} {mg : Str → Option Value} {base : Heap}
theorem okXN {x qual : Str} {st : Stmt} {f : Addr} {fd : FuncData} {N ps : List Str} {k : Nat} {sp : Sp} (F : Fun K x qual st f fd) (S : FnScope N ps (defScope st)) (len : ∀ vs H Q E, sp vs H Q E → vs.length = ps.length)
    (hbody : ∀ (cdv : Value) (A : Around) (outer : List Env) (s : Shared) (H : Hp) (vs : List V) (Q : VK) (E : XK), L2.Room k (A.deeper (envOfC qual (defScope st) s.heap.objs.size f cdv)) → sp vs H Q E →
      ∃ t, PSs (cxOf (L2N.CX P w) P w K mg base N qual (defScope st) f cdv A outer s H E) (defBody st) t ∧ t { nx := fun _ H' => Q .non H', rt := Q } (L2.start N vs) H) : FnOk P w K mg base (L2N.CX P w) (k + 1) f fd ps sp := by
  obtain ⟨oc, od, kV, doc, pm, an, cdv, ct, osl, rfl, lk, hcd⟩ := F.ex
  exact L2.fn_of lk hcd S len fun A outer s H vs Q E hr hsp => hbody cdv A outer s H vs Q E hr hsp
end
/-- as FnR, the error's context is None -/
def FnRN (G : GX) (k : Nat) (x : Str) (g : D → Option Bool) (C : Addr) : Prop := ∃ (f : Addr) (fd : FuncData) (a : Str), FnOk G.P G.w G.K G.mg G.base (L2N.CX G.P G.w) k f fd [a] (spR G.K g C) ∧ G.mg x = some (.ref f) ∧ PySem.W.keepIn G.K (.ref f) = true ∧ Binds G.K fd [a] []
theorem fn_raiseN {G : GX} {x xn a msg : Str} {st : Stmt} {N : List Str} {k j : Nat} {C : Addr} {e : Expr} {p p2 pos pos2 pos3 : Pos} {g : D → Option Bool} (Fd : DefAt G x st [a]) (S : FnScope N [a] (defScope st))
    (hbody : defBody st = [.If e [.Raise (some (.Call (.Name xn p) [.Constant (.str msg) j p2] [] pos)) none pos2] [] pos3]) (T : ExCls G xn C)
    (hgl : GlS ⟨N, k, defScope st, fun _ => true⟩ xn) (hdb : (xn == ("__debug__" : Str)) = false) (ht : ∀ d, TOk G ⟨N, k, defScope st, fun _ => true⟩ (rho N [d]) e (g d)) : FnRN G (k + 1) x g C := by
  obtain ⟨f, fd, F, hm, hb⟩ := Fd
  have hpl : 1 ≤ N.length := by have := congrArg List.length S.pre; rw [List.length_take] at this; simp at this; omega
  refine ⟨f, fd, a, okXN F S (fun vs H Q E ⟨F, d, v, b, ev, _⟩ => by rw [ev]; rfl) (fun cdv A outer s H vs Q E hr sp => ?_), hm, F.kp, hb⟩
  obtain ⟨F0, d, v, b, rfl, s0, r, eg, q1, q2⟩ := sp
  have hX : XOk G ⟨N, k, defScope st, fun _ => true⟩ (cxOf (L2N.CX G.P G.w) G.P G.w G.K G.mg G.base N x (defScope st) f cdv A outer s H E) := ⟨rfl, rfl, rfl, rfl, rfl, rfl, S.nd, rfl, rfl, rfl, hr⟩
  rw [hbody]
  refine ⟨_, pss_one (ps_if (ht d _ hX) (pss_one (L2N.ps_raise rfl (L2N.takes_of rfl rfl rfl rfl) (L2N.pmk_own PySem.F.excBase_ValueError T.xC T.gC T.kC (raises_own T.bC T.tC) (gl_of hX hgl) hdb))) pss_nil), ?_⟩
  refine ⟨F0, b, eg, ⟨s0, ?_, fun i d' h => ?_, fun i d' h => absurd h rho_own⟩, fun F' H' x1 => ?_⟩
  · simp only [L2.start, rho, List.length_append, List.length_map, List.length_replicate, List.length_singleton]
  · have hd : ([d] : List D)[i]? = some d' := rho_nth (N := N) h
    cases i with
    | zero =>
      simp at hd
      subst hd
      exact ⟨v, rfl, r⟩
    | succ i => simp at hd
  · cases b with
    | true => exact q2 rfl F' H' x1
    | false => exact q1 rfl F' H' x1
namespace H
/-- as FnR, where an exception is handled -/
def FnRH (G : GX) (k : Nat) (x : Str) (g : D → Option Bool) (C : Addr) : Prop := ∃ (f : Addr) (fd : FuncData) (a : Str), L2H.FnH G.P G.w G.K G.mg G.base (L2.CX G.P G.w) k f fd [a] (spR G.K g C) ∧ G.mg x = some (.ref f) ∧ PySem.W.keepIn G.K (.ref f) = true ∧ Binds G.K fd [a] []
theorem fn_raiseH {G : GX} {x xn a msg : Str} {st : Stmt} {N : List Str} {k j : Nat} {C : Addr} {e : Expr} {p p2 pos pos2 pos3 : Pos} {g : D → Option Bool} (Fd : DefAt G x st [a]) (S : FnScope N [a] (defScope st))
    (hbody : defBody st = [.If e [.Raise (some (.Call (.Name xn p) [.Constant (.str msg) j p2] [] pos)) none pos2] [] pos3]) (T : ExCls G xn C)
    (hgl : GlS ⟨N, k, defScope st, fun _ => true⟩ xn) (hdb : (xn == ("__debug__" : Str)) = false) (ht : ∀ d, TOk G ⟨N, k, defScope st, fun _ => true⟩ (rho N [d]) e (g d)) : FnRH G (k + 1) x g C := by
  obtain ⟨f, fd, F, hm, hb⟩ := Fd
  have hpl : 1 ≤ N.length := by have := congrArg List.length S.pre; rw [List.length_take] at this; simp at this; omega
  have kp := F.kp
  obtain ⟨oc, od, kV, doc, pm, an, cdv, ct, osl, rfl, lk, hcd⟩ := F.ex
  refine ⟨f, _, a, fn_of lk hcd S (fun vs H Q E ⟨F, d, v, b, ev, _⟩ => by rw [ev]; rfl) (fun A outer s H vs Q E pe hot hc hr sp => ?_), hm, kp, hb⟩
  obtain ⟨F0, d, v, b, rfl, s0, r, eg, q1, q2⟩ := sp
  have hX : XOk G ⟨N, k, defScope st, fun _ => true⟩ (L2H.cxH (L2.CX G.P G.w) G.P G.w G.K G.mg G.base N x (defScope st) f cdv A outer s H E pe) := ⟨rfl, rfl, rfl, rfl, rfl, rfl, S.nd, rfl, rfl, hot, hr⟩
  rw [hbody]
  refine ⟨_, pss_one (ps_if (ht d _ hX) (pss_one (L2H.ps_raiseH hc (takes_of rfl rfl rfl rfl) (L2N.pmk_own PySem.F.excBase_ValueError T.xC T.gC T.kC (raises_own T.bC T.tC) (gl_of hX hgl) hdb))) pss_nil), ?_⟩
  refine ⟨F0, b, eg, ⟨s0, ?_, fun i d' h => ?_, fun i d' h => absurd h rho_own⟩, fun F' H' x1 => ?_⟩
  · simp only [L2.start, rho, List.length_append, List.length_map, List.length_replicate, List.length_singleton]
  · have hd : ([d] : List D)[i]? = some d' := rho_nth (N := N) h
    cases i with
    | zero =>
      simp at hd
      subst hd
      exact ⟨v, rfl, r⟩
    | succ i => simp at hd
  · cases b with
    | true => exact q2 rfl F' H' x1
    | false => exact q1 rfl F' H' x1
/-! ### _law_only -/
/-- the error is of the right kinds alone -/
def spOnly (K : PySem.W.Frag) (CE : Addr) : Addr × Obj → Sp := fun p vs H Q _ => vs = [.ref p.1] ∧ Zc (.ref CE) none p.2 ∧ (∃ vs, p.2.data = .fields vs) ∧ Q (.bl true) H
/-- a kin -/
def Kin (G : GX) (CE : Addr) (x : Str) : Prop := ∃ C2, G.mg x = some (.ref C2) ∧ PySem.W.kitOne G.K (.ref CE) (.ref C2) = some true
def FnOn (G : GX) (CE : Addr) (k : Nat) (x : Str) : Prop := ∃ (f : Addr) (fd : FuncData) (ps : List Str), FnE G.P G.w G.K G.mg G.base CX0 k f fd ps (spOnly G.K CE) ∧ G.mg x = some (.ref f) ∧ PySem.W.keepIn G.K (.ref f) = true ∧ Binds G.K fd ps []
def isiE (n c : Str) (p1 p2 p3 q1 : Pos) : Expr := .Call (.Name "isinstance" p1) [.Name n p2, .Name c p3] [] q1
theorem fn_only {G : GX} {CE : Addr} {x n c1 c3 c4 c5 c6 : Str} {st : Stmt} {k : Nat} {p1 p2 p3 p4 p5 p6 p7 p8 p9 p10 p11 p12 p13 p14 p15 p16 p17 p18 q1 q2 q3 q4 q5 q6 u1 u2 u3 u4 o1 o2 o3 r1 r2 r3 i1 i2 w1 w2 : Pos} {j1 j2 : _} (Fd : DefAt G x st [n]) (S : FnScope [n] [n] (defScope st))
    (hbody : defBody st = [.If (.BoolOp .Or [.UnaryOp .Not (isiE n c1 p1 p2 p3 q1) u1, .UnaryOp .Not (isiE n "ValueError" p4 p5 p6 q2) u2] o1) [.Return (some (.Constant (.bool false) j1 r1)) i1] [] r2,
      .If (.BoolOp .Or [isiE n c3 p7 p8 p9 q3, isiE n c4 p10 p11 p12 q4] o2) [.Return (some (.Constant (.bool false) j2 r3)) i2] [] u3,
      .Return (some (.BoolOp .And [.UnaryOp .Not (isiE n c5 p13 p14 p15 q5) u4, .UnaryOp .Not (isiE n c6 p16 p17 p18 q6) o3] w1)) w2])
    (Ce : ExcC G.K CE) (hmi : G.mg "isinstance" = none) (hmv : G.mg "ValueError" = none) (hv : PySem.W.kitOne G.K (.ref CE) (.type "ValueError") = some true) (h1 : Kin G CE c1) (h3 : NoKin G CE c3) (h4 : NoKin G CE c4) (h5 : NoKin G CE c5) (h6 : NoKin G CE c6) (hvn : Vis (defScope st) n)
    (hgi : GlS ⟨[n], k, defScope st, fun _ => true⟩ "isinstance") (hgv : GlS ⟨[n], k, defScope st, fun _ => true⟩ "ValueError") (hg1 : GlS ⟨[n], k, defScope st, fun _ => true⟩ c1) (hg3 : GlS ⟨[n], k, defScope st, fun _ => true⟩ c3) (hg4 : GlS ⟨[n], k, defScope st, fun _ => true⟩ c4) (hg5 : GlS ⟨[n], k, defScope st, fun _ => true⟩ c5) (hg6 : GlS ⟨[n], k, defScope st, fun _ => true⟩ c6)
    (hd1 : (c1 == ("__debug__" : Str)) = false) (hd3 : (c3 == ("__debug__" : Str)) = false) (hd4 : (c4 == ("__debug__" : Str)) = false) (hd5 : (c5 == ("__debug__" : Str)) = false) (hd6 : (c6 == ("__debug__" : Str)) = false)
    (hdn : (n == ("__debug__" : Str)) = false) (hcn : (n == ("__classdict__" : Str)) = false) : FnOn G CE (k + 1) x := by
  obtain ⟨f, fd, F, hm, hb⟩ := Fd
  obtain ⟨D1, m1, k1⟩ := h1
  obtain ⟨D3, m3, k3⟩ := h3
  obtain ⟨D4, m4, k4⟩ := h4
  obtain ⟨D5, m5, k5⟩ := h5
  obtain ⟨D6, m6, k6⟩ := h6
  have kp := F.kp
  obtain ⟨oc, od, kV, doc, pm, an, cdv, ct, osl, rfl, lk, hcd⟩ := F.ex
  refine ⟨f, _, [n], fn_ofE lk hcd S (fun p vs H Q E h => by rw [h.1]; rfl) (fun A outer s H vs Q E p hr h => ?_), hm, kp, hb⟩
  obtain ⟨rfl, hz, hf, q⟩ := h
  rw [hbody]
  have hp : (p.1, p.2) ∈ (L2H.cxH CX0 G.P G.w G.K G.mg G.base [n] x (defScope st) f cdv A outer s H E p).pn := List.mem_singleton.mpr rfl
  have one : ∀ {c : Str} {D2 : Addr} {p1 p2 p3 q1 : Pos}, GlS ⟨[n], k, defScope st, fun _ => true⟩ c → G.mg c = some (.ref D2) → (c == ("__debug__" : Str)) = false → PE (L2H.cxH CX0 G.P G.w G.K G.mg G.base [n] x (defScope st) f cdv A outer s H E p) (isiE n c p1 p2 p3 q1) (tCB (rIsE G.K CE p.1) (tCons (tVar 0) (tCons (tC (.ref D2)) tNil))) := fun hg hm hd =>
    pe_callB (call_isEp hp Ce hz hf) hgi hmi boot_isinstance (pa_cons (pe_var (i := 0) rfl hvn hdn hcn) (pa_cons (pe_glob (v := .ref _) hg hm rfl hd) pa_nil))
  have val : ∀ {p1 p2 p3 q1 : Pos}, PE (L2H.cxH CX0 G.P G.w G.K G.mg G.base [n] x (defScope st) f cdv A outer s H E p) (isiE n "ValueError" p1 p2 p3 q1) (tCB (rIsE G.K CE p.1) (tCons (tVar 0) (tCons (tC (.ty "ValueError")) tNil))) :=
    pe_callB (call_isEp hp Ce hz hf) hgi hmi boot_isinstance (pa_cons (pe_var (i := 0) rfl hvn hdn hcn) (pa_cons (pe_bltn (v := .ty "ValueError") (u := .type "ValueError") hgv hmv rfl rfl (by decide) (by decide)) pa_nil))
  have e0 : (L2.start [n] [V.ref p.1])[0]? = some (some (.ref p.1)) := rfl
  have go : ∀ {D2 : Addr} {r : Bool} {Q : VK}, PySem.W.kitOne G.K (.ref CE) (.ref D2) = some r → Q (.bl r) H → (tCB (rIsE G.K CE p.1) (tCons (tVar 0) (tCons (tC (.ref D2)) tNil))) (L2.start [n] [V.ref p.1]) H Q := fun {D2 r Q} hk q => ⟨.ref p.1, e0, .ref D2, .ref D2, r, rfl, fun u h => h, hk, q⟩
  have gov : ∀ {Q : VK}, Q (.bl true) H → (tCB (rIsE G.K CE p.1) (tCons (tVar 0) (tCons (tC (.ty "ValueError")) tNil))) (L2.start [n] [V.ref p.1]) H Q := fun {Q} q => ⟨.ref p.1, e0, .ty "ValueError", .type "ValueError", true, rfl, fun u h => h, hv, q⟩
  refine ⟨_, pss_cons (ps_if (L2.PW.pt (pw_or (pt_not (pt_val (one hg1 m1 hd1))) (pw_or1 (pt_not (pt_val val))))) (pss_one (ps_ret pe_bl)) pss_nil)
    (pss_cons (ps_if (L2.PW.pt (pw_or (pt_val (one hg3 m3 hd3)) (pw_or1 (pt_val (one hg4 m4 hd4))))) (pss_one (ps_ret pe_bl)) pss_nil)
    (pss_one (ps_ret (pe_and (pe_not (one hg5 m5 hd5)) (pe_one (pe_not (one hg6 m6 hd6))))))), ?_⟩
  exact go k1 ⟨true, rfl, gov ⟨true, rfl, go k3 ⟨false, rfl, go k4 ⟨false, rfl, go k5 ⟨false, rfl, true, rfl, go k6 ⟨false, rfl, q⟩⟩⟩⟩⟩⟩
end H
end DL
set_option autoImplicit false
set_option maxRecDepth 100000
set_option maxHeartbeats 4000000
/-! a def that tries another and asks of the error, while an exception is handled -/
namespace DL
namespace H
open PySem PySem.Spec PySem.SeqAt PyProof.Rows L2
def boolNot : D → Option D
  | .bl t => some (.bl (!t))
  | _ => none
/-- what the suite wishes -/
def tsR (C : Addr) (a : Addr) (cls : Value) (dd : Option Addr) : TS := fun Dn σ H => cls = .ref C ∧ dd = none ∧ σ[3]? = some (some (.ref a)) ∧ ∃ t, σ[1]? = some (some (.bl t)) ∧ Dn.rt (.bl (!t)) H
theorem fn_right {G : GX} {x a y1 y2 n hn xn on : Str} {st : Stmt} {k k3 : Nat} {C : Addr} {p1 p2 p3 p4 p5 p6 p7 z1 z2 z3 z4 z5 z6 z7 np pos pos' : Pos} {g1 : D → Option D} {g : D → Option Bool} {e1 : Expr} {rest : List Stmt} {m2 : D → D → Option D}
    (Fd : DefAt G x st [a]) (S : FnScope [a, y1, y2, n] [a] (defScope st))
    (hbody : defBody st = .Assign [.Name y1 p1] e1 p2 :: .Try [.Assign [.Name y2 p3] (.Call (.Name hn p4) [.Name a p5] [] p6) p7] [.ExceptHandler (some (.Name xn np)) (some n) [.Return (some (.BoolOp .And [.UnaryOp .Not (.Name y1 z1) z2, .Call (.Name on z3) [.Name n z4] [] z5] z6)) z7] pos'] [] [] pos :: rest)
    (R : FnRH G k hn g C) (T : ExCls G xn C) (O : FnOn G C k3 on) (hk3 : k3 ≤ k) (hexm : PySem.W.exmOne G.K (.ref C) (.ref C) = some true)
    (hgh : GlS ⟨[a, y1, y2, n], k, defScope st, fun _ => true⟩ hn) (hgx : GlS ⟨[a, y1, y2, n], k, defScope st, fun _ => true⟩ xn) (hgo : GlS ⟨[a, y1, y2, n], k, defScope st, fun _ => true⟩ on)
    (hdx : (xn == ("__debug__" : Str)) = false) (hdh : (hn == ("__debug__" : Str)) = false) (hdo : (on == ("__debug__" : Str)) = false) (hda : (a == ("__debug__" : Str)) = false) (hca : (a == ("__classdict__" : Str)) = false)
    (hd1 : (y1 == ("__debug__" : Str)) = false) (hc1 : (y1 == ("__classdict__" : Str)) = false) (hdn : (n == ("__debug__" : Str)) = false) (hcn : (n == ("__classdict__" : Str)) = false)
    (hva : Vis (defScope st) a) (hv1 : Vis (defScope st) y1) (hvn : Vis (defScope st) n) (hly1 : Loc (defScope st) y1) (hly2 : Loc (defScope st) y2) (hln : (defScope st).names.lookup n = some .local)
    (hsw1 : ∀ env, swapsWith e1 (some (.Name y1 p1)) p2.line env = pure false) (hsw2 : ∀ env, swapsWith (.Call (.Name hn p4) [.Name a p5] [] p6) (some (.Name y2 p3)) p7.line env = pure false)
    (hdue : ∀ d, EOk G ⟨[a, y1, y2, n], k, defScope st, fun _ => true⟩ [.val d, .no, .no, .no] e1 (g1 d))
    (hrest : ∀ d due, BOk G ⟨[a, y1, y2, n], k, defScope st, fun _ => true⟩ [.val d, .val due, .val .non, .no] rest (kF G.K) (m2 d due)) :
    FnD G (k + 1) x 1 (ap1 fun d => (g1 d).bind fun due => (g d).bind fun b => if b = true then boolNot due else m2 d due) := by
  obtain ⟨f, fd, F, hm, hb⟩ := Fd
  obtain ⟨f2, fd2, a2, GT, hm2, hk2, hb2⟩ := R
  obtain ⟨f3, fd3, ps3, GO, hm3, hk3', hb3⟩ := O
  have kp := F.kp
  obtain ⟨oc, od, kV, doc, pm, an, cdv, ct, osl, rfl, lk, hcd⟩ := F.ex
  refine ⟨f, _, [a], rfl, fn_of lk hcd S (fun vs H Q E ⟨F, ds, d, hl, s, r, e, q⟩ => by rw [← r.len, hl]; rfl) (fun A outer s H vs Q E pe hot hc hr sp => ?_), hm, kp, hb⟩
  obtain ⟨F0, ds, d, hl, s0, r, e, q⟩ := sp
  match ds, hl with
  | [d0], _ =>
  obtain ⟨v, rfl, rv⟩ := r.one
  obtain ⟨due, edue, e⟩ := Option.bind_eq_some_iff.mp (show ((g1 d0).bind fun due => (g d0).bind fun b => if b = true then boolNot due else m2 d0 due) = some d from e)
  obtain ⟨b, eb, em⟩ := Option.bind_eq_some_iff.mp e
  have hX : XOk G ⟨[a, y1, y2, n], k, defScope st, fun _ => true⟩ (L2H.cxH CX0 G.P G.w G.K G.mg G.base [a, y1, y2, n] x (defScope st) f cdv A outer s H E pe) := ⟨rfl, rfl, rfl, rfl, rfl, rfl, S.nd, rfl, rfl, hot, hr⟩
  obtain ⟨p0, hot1, hp0⟩ := hc
  rw [hbody]
  refine ⟨_, pss_cons (ps_set (i := 1) S.nd rfl hly1 (hdue d0 _ hX) (hsw1 _)) (pss_cons (L2H.ps_try_asH (c := .ref C) (i := 3) (Wout := fun _ _ _ _ => False) (tb := fun W => tAsg (tCallS (spR G.K g C) (WE W) (tCons (tVar 0) tNil)) (gName 2)) (ts := tsR C) rfl rfl S.nd rfl hln ⟨gl_of hX hgx, hdx, .inl T.gC⟩ takes0
    (fun W pn xe hpn tk hpo => pss_one (ps_set (i := 2) S.nd rfl hly2 (pe_call (X := (L2H.cxH CX0 G.P G.w G.K G.mg G.base [a, y1, y2, n] x (defScope st) f cdv A outer s H E pe).tr pn xe) GT hr (HotI.of_pin hot1 (hpn _ hp0)) hgh hm2 hk2 hb2 (fun σ => passAt tk σ) (pa_cons (pe_var (i := 0) rfl hva hda hca) pa_nil) hdh) (hsw2 _)))
    (fun b oe cls dd pn hz hf => ⟨fun pins s2 σ2 H2 D2 I2 ⟨e1, e2, h3, t, h1, w⟩ => ?_⟩)) (hrest d0 due _ hX)), ?_⟩
  · subst e1
    subst e2
    have hPS : PSs ((L2H.cxH CX0 G.P G.w G.K G.mg G.base [a, y1, y2, n] x (defScope st) f cdv A outer s H E pe).suite b ((b, oe) :: pn)) [.Return (some (.BoolOp .And [.UnaryOp .Not (.Name y1 z1) z2, .Call (.Name on z3) [.Name n z4] [] z5] z6)) z7] (tRet (tAndV (tNotV (tVar 1)) (tCallS (spOnly G.K C (b, oe)) (fun _ => E0) (tCons (tVar 3) tNil)))) :=
      pss_one (ps_ret (pe_and (pe_not (pe_var (i := 1) rfl hv1 hd1 hc1)) (pe_one (pe_callE (X := (L2H.cxH CX0 G.P G.w G.K G.mg G.base [a, y1, y2, n] x (defScope st) f cdv A outer s H E pe).suite b ((b, oe) :: pn)) (p := (b, oe)) GO (by refine ⟨?_, ?_⟩; exact (hr.mono hk3).dp; exact (hr.mono hk3).un) List.mem_cons_self hgo hm3 hk3' hb3 (pa_cons (pe_var (i := 3) rfl hvn hdn hcn) pa_nil) hdo))))
    refine hPS.run pins s2 σ2 H2 D2 I2 ⟨.bl t, h1, t, rfl, !t, rfl, ?_⟩
    cases t with
    | true => exact w
    | false => exact ⟨.ref b, h3, rfl, hz, hf, w⟩
  · have vr0 : VR G.K [.val d0, .no, .no, .no] (L2.start [a, y1, y2, n] [v]) F0 H := by
      refine ⟨s0, rfl, fun i d' h => ?_, fun i d' h => ?_⟩
      · match i with
        | 0 => cases h; exact ⟨v, rfl, rv⟩
        | 1 => cases h
        | 2 => cases h
        | 3 => cases h
        | i + 4 => cases h
      · match i with
        | 0 => cases h
        | 1 => cases h
        | 2 => cases h
        | 3 => cases h
        | i + 4 => cases h
    refine ⟨F0, due, edue, vr0, fun vd F1 H1 x1 r1 => ?_⟩
    refine ⟨v, rfl, F1, d0, v, b, rfl, x1.sub, Rep.mono x1.froz _ _ rv, eb, fun hbf F' H' x2 => ?_, fun hbt F' H' x2 => ⟨true, hexm, fun _ e0 he0 => ?_, fun z => nomatch z⟩⟩
    · subst hbf
      have em' : m2 d0 due = some d := em
      have x3 := x1.trans x2
      have rv' := Rep.mono x3.froz _ _ rv
      have r1' := Rep.mono x2.froz _ _ r1
      refine ⟨H', F', F', d, em', ⟨⟨x3.sub, rfl, fun i d' h => ?_, fun i d' h => ?_⟩, ⟨Same.refl _, x3.sub, Same.refl _, fun a o h n => by rw [h] at n; cases n⟩, fun i d' p h => ?_, fun i j d' e' p h => ?_⟩, ?_, ?_⟩
      · match i with
        | 0 => cases h; exact ⟨v, rfl, rv'⟩
        | 1 => cases h; exact ⟨vd, rfl, r1'⟩
        | 2 => cases h; exact ⟨.non, rfl, rep_n⟩
        | 3 => cases h
        | i + 4 => cases h
      · match i with
        | 0 => cases h
        | 1 => cases h
        | 2 => cases h
        | 3 => cases h
        | i + 4 => cases h
      · match i with
        | 0 => cases h
        | 1 => cases h
        | 2 => cases h
        | 3 => cases h
        | i + 4 => cases h
      · match i with
        | 0 => cases h
        | 1 => cases h
        | 2 => cases h
        | 3 => cases h
        | i + 4 => cases h
      · intro v2 F2 H2 ro rv2
        exact q v2 F2 H2 (x3.trans ⟨ro.keep, ro.ext, ro.sub, ro.fresh⟩) rv2
      · intro hd σ2 F2 H2 ro
        subst hd
        exact q .non F2 H2 (x3.trans ⟨ro.keep, ro.ext, ro.sub, ro.fresh⟩) rep_n
    · subst hbt
      have em' : boolNot due = some d := em
      unfold boolNot at em'
      split at em'
      · rename_i t
        cases em'
        have hvd : vd = .bl t := by unfold Rep at r1; exact r1
        subst hvd
        exact ⟨rfl, rfl, rfl, t, rfl, q (.bl (!t)) F' H' (x1.trans x2) rep_b⟩
      · cases em'
end H
end DL
set_option autoImplicit false
set_option maxRecDepth 100000
set_option maxHeartbeats 4000000
/-! a try whose suite runs code -/
namespace DL
open PySem PySem.Spec PySem.SeqAt PyProof.Rows L2
section
variable {R : Type} {G : GX} {L : LX} {X : Cx} {ρ : List Sl} {rest : List Stmt} {k : KS R} {e : Expr} {m : Option D} {M : D → Option R} {pos pos' : Pos} {x : Str}
/-- x = e in one context -/
theorem pss_set (hX : XOk G L X) (j : Nat) (h : EOk G L ρ e m) (hr : ∀ d, PSs X rest (tS G.K (setS ρ j (.val d)) k (M d))) (hj : L.N[j]? = some x := by rfl) (hx : Loc L.sc x := by first | exact Or.inl rfl | exact Or.inr rfl)
    (hf : L.ow x = true ∨ L.sc.names.lookup x = some .local := by first | exact Or.inl rfl | exact Or.inr rfl) (hs : ∀ env, swapsWith e (some (.Name x pos')) pos.line env = pure false := by intro _; rfl) : PSs X (.Assign [.Name x pos'] e pos :: rest) (tS G.K ρ k (m.bind M)) :=
  wkSs (seqU (ps_set (i := j) (by rw [hX.hN]; exact hX.nd) (by rw [hX.hN]; exact hj) (by rw [hX.hsc]; exact hx) (h X hX) (hs _) (by rw [hX.hfn, hX.hsc]; exact hf)) fun d => hr d) fun D σ H ⟨B, F0, F, r, em, er, q⟩ => by
    obtain ⟨d, ed, em⟩ := Option.bind_eq_some_iff.mp em
    exact ⟨F, d, ed, er.vr, fun v F' H' x rv => ⟨d, B, F0, F', r, em, (er.go x).set rv, q⟩⟩
end
theorem ER.skip {K : PySem.W.Frag} {B F0 F H : Hp} {ρ : List Sl} {σ : L2.St} (r : ER K B F0 ρ σ F H) {i : Nat} (hi : nthS ρ i = .no) (x : Option V) : ER K B F0 ρ (σ.set i x) F H := by
  have ne : ∀ {j : Nat} {y : Sl}, nthS ρ j = y → y ≠ .no → i ≠ j := fun {j y} h1 h2 h3 => by
    subst h3
    exact h2 (h1.symm.trans hi)
  refine ⟨⟨r.vr.sub, by rw [List.length_set]; exact r.vr.len, fun j d h => ?_, fun j d h => ?_⟩, r.ret, fun j d p h h2 => ?_, fun j l d e p h1 h2 h3 h4 => ?_⟩
  · rw [List.getElem?_set_ne (ne h fun z => nomatch z)]; exact r.vr.vals j d h
  · rw [List.getElem?_set_ne (ne h fun z => nomatch z)]; exact r.vr.owns j d h
  · rw [List.getElem?_set_ne (ne h fun z => nomatch z)] at h2; exact r.ownB j d p h h2
  · rw [List.getElem?_set_ne (ne h1 fun z => nomatch z)] at h3
    rw [List.getElem?_set_ne (ne h2 fun z => nomatch z)] at h4
    exact r.dist j l d e p h1 h2 h3 h4
theorem takes0N {X : Cx} : L2N.Takes X (fun _ _ _ _ => False) := fun _ _ x => by
  obtain ⟨_, _, _, _, _, _, _, _, _, _, _, _, _, _, _, _, z⟩ := x
  exact z.elim
/-- what the suite wishes -/
def tsL (K : PySem.W.Frag) (ρ : List Sl) (C : Addr) (ie : Nat) (M : Option D) (a : Addr) (cls : Value) (dd : Option Addr) : TS := fun Dn σ H => cls = .ref C ∧ dd = none ∧ σ[ie]? = some (some (.ref a)) ∧ tS K ρ (kD K) M Dn σ H
section
variable {G : GX} {L : LX} {X : Cx} {ρ : List Sl} {rest suite : List Stmt} {b0 : Stmt} {k k3 ih ie : Nat} {C : Addr} {g : D → Option Bool} {dh : D} {M1 M2 : Option D} {hn h xn n on : Str} {p p1 p2 p3 p4 np pos pos' : Pos}
theorem xok_suite (hX : XOk G L X) {a : Addr} {oe : Obj} {pn : List (Addr × Obj)} (hf : ∃ vs, oe.data = .fields vs) (hz : PySem.PXN.CtxN oe) : H.XOk G L (X.suite a ((a, oe) :: pn)) := by
  obtain ⟨vs, hv⟩ := hf
  refine ⟨hX.hP, hX.hw, hX.hK, hX.hm, hX.hb, hX.hN, hX.nd, hX.hsc, hX.hfn, H.HotI.of_pin (p := (a, oe)) ⟨rfl, vs, hv, hz vs hv⟩ List.mem_cons_self, ?_⟩
  refine ⟨?_, ?_⟩
  · exact hX.room.dp
  · exact hX.room.un
theorem pss_tryL (hX : XOk G L X) (hs : X.stack = X.env :: X.outer) (hf : X.env.frame = some X.env.locals) (hni : L.N[ie]? = some n) (hln : L.sc.names.lookup n = some .local) (hR : FnRN G k hn g C) (hk : k ≤ L.k) (T : ExCls G xn C) (hexm : PySem.W.exmOne G.K (.ref C) (.ref C) = some true)
    (hgh : GlS L hn) (hgx : GlS L xn) (hdh : (hn == ("__debug__" : Str)) = false) (hdx : (xn == ("__debug__" : Str)) = false) (hhi : L.N[ih]? = some h) (hvh : Vis L.sc h) (hdd : (h == ("__debug__" : Str)) = false) (hdc : (h == ("__classdict__" : Str)) = false)
    (hsw : ∀ env, swapsWith (.Call (.Name hn p) [.Name h p1] [] p2) none p3.line env = pure false)
    (hih : nthS ρ ih = .val dh) (hie : nthS ρ ie = .no) (hie2 : ie < ρ.length)
    (hsu : ∀ (a : Addr) (oe : Obj) (pn : List (Addr × Obj)), Zc (.ref C) none oe → (∃ vs, oe.data = .fields vs) → H.XOk G L (X.suite a ((a, oe) :: pn)) → PSs (X.suite a ((a, oe) :: pn)) (b0 :: suite) (fun Dn σ H => σ[ie]? = some (some (.ref a)) ∧ tS G.K ρ (kD G.K) M1 Dn σ H))
    (hr : PSs X rest (tS G.K ρ (kF G.K) M2)) :
    PSs X (.Try [.Expr (.Call (.Name hn p) [.Name h p1] [] p2) p3] [.ExceptHandler (some (.Name xn np)) (some n) (b0 :: suite) pos'] [] [] pos :: rest) (tS G.K ρ (kF G.K) ((g dh).bind fun b => if b = true then M1 else M2)) := by
  obtain ⟨f2, fd2, a2, GT, hm2, hk2, hb2⟩ := hR
  have GT' : FnOk X.prog X.w X.K X.mg X.base (L2N.CX X.prog X.w) k f2 fd2 [a2] (spR G.K g C) := by rw [hX.hP, hX.hw, hX.hK, hX.hm, hX.hb]; exact GT
  refine wkSs (pss_cons (L2N.ps_try_as (c := .ref C) (i := ie) (Wout := fun _ _ _ _ => False) (tb := fun W => tDrop (tCallS (spR G.K g C) (WE W) (tCons (tVar ih) tNil))) (ts := tsL G.K ρ C ie M1) hs hf (by rw [hX.hN]; exact hX.nd) (by rw [hX.hN]; exact hni) (by show X.env.scope.names.lookup n = _; rw [hX.hsc]; exact hln) ⟨gl_of hX hgx, hdx, .inl (by rw [hX.hm]; exact T.gC)⟩ takes0N
    (fun W pn xe tk hpo => pss_one (ps_expr (pe_callS (X := X.tr pn xe) GT' (hX.room.mono hk) (gl_of (xok_tr hX) hgh) (by show X.mg hn = _; rw [hX.hm]; exact hm2) (by show PySem.W.keepIn X.K _ = true; rw [hX.hK]; exact hk2) (by show Binds X.K _ _ _; rw [hX.hK]; exact hb2) (fun σ => L2N.passAt tk σ) (pa_cons (pe_var (i := ih) (by show X.N[ih]? = some h; rw [hX.hN]; exact hhi) (by show Vis X.env.scope h; rw [hX.hsc]; exact hvh) hdd hdc) pa_nil) hdh) (hsw _)))
    (fun a oe cls dd pn hz hfl => ⟨fun pins s2 σ2 H2 D2 I2 ⟨e1, e2, h3, w⟩ => ?_⟩)) hr) fun D σ H ⟨B, F0, F, r, em, er, q⟩ => ?_
  · subst e1
    subst e2
    exact (hsu a oe pn hz.zc hfl (xok_suite hX hfl hz.2.2)).run pins s2 σ2 H2 D2 I2 ⟨h3, w⟩
  · obtain ⟨b, eb, em⟩ := Option.bind_eq_some_iff.mp em
    obtain ⟨v, hv, rv⟩ := er.vr.vals ih dh hih
    refine ⟨v, hv, F, dh, v, b, rfl, er.vr.sub, rv, eb, fun hbf F' H' x => ?_, fun hbt F' H' x => ?_⟩
    · subst hbf
      exact ⟨B, F0, F', r, em, er.go x, q⟩
    · subst hbt
      refine ⟨true, by rw [hX.hK]; exact hexm, fun _ a ha => ⟨rfl, rfl, ?_, B, F0, F', r, em, (er.go x).skip hie _, fun v F2 H2 ro rv => q.1 v F2 H2 ro rv⟩, fun z => nomatch z⟩
      rw [List.getElem?_set_self (by rw [er.vr.len]; exact hie2)]
end
namespace H
section
variable {G : GX} {L : LX} {X : Cx} {ρ : List Sl} {rest : List Stmt} {k3 ie : Nat} {C a : Addr} {oe : Obj} {pn : List (Addr × Obj)} {n on : Str} {c2 : Expr} {nc : Option Bool} {M : Option D} {p1 p2 p3 q1 o1 r1 i1 pos : Pos} {j1 : _}
/-- the suite's first question -/
theorem pss_ask (hX : XOk G L (X.suite a ((a, oe) :: pn))) (hz : Zc (.ref C) none oe) (hf : ∃ vs, oe.data = .fields vs) (O : FnOn G C k3 on) (hk : k3 ≤ L.k) (hgo : GlS L on) (hdo : (on == ("__debug__" : Str)) = false) (hni : L.N[ie]? = some n) (hvn : Vis L.sc n) (hdn : (n == ("__debug__" : Str)) = false) (hcn : (n == ("__classdict__" : Str)) = false)
    (hc : TOk G L ρ c2 nc) (hr : BOk G L ρ rest (kD G.K) M) :
    PSs (X.suite a ((a, oe) :: pn)) (.If (.BoolOp .Or [.UnaryOp .Not (.Call (.Name on p1) [.Name n p2] [] p3) q1, c2] o1) [.Return (some (.Constant (.bool false) j1 r1)) i1] [] pos :: rest)
      (fun Dn σ H => σ[ie]? = some (some (.ref a)) ∧ tS G.K ρ (kD G.K) (nc.bind fun b => if b = true then some (.bl false) else M) Dn σ H) := by
  obtain ⟨f3, fd3, ps3, GO, hm3, hk3', hb3⟩ := O
  have GO' : FnE (X.suite a ((a, oe) :: pn)).prog (X.suite a ((a, oe) :: pn)).w (X.suite a ((a, oe) :: pn)).K (X.suite a ((a, oe) :: pn)).mg (X.suite a ((a, oe) :: pn)).base CX0 k3 f3 fd3 ps3 (spOnly G.K C) := by rw [hX.hP, hX.hw, hX.hK, hX.hm, hX.hb]; exact GO
  have hroom : L2H.RoomH k3 (X.suite a ((a, oe) :: pn)).A := (hX.room.mono hk).up
  refine wkSs (pss_cons (ps_if (L2.PW.pt (pw_or (pt_not (pt_val (pe_callE (p := (a, oe)) GO' hroom List.mem_cons_self (gl_of hX hgo) (by rw [hX.hm]; exact hm3) (by rw [hX.hK]; exact hk3') (by rw [hX.hK]; exact hb3) (pa_cons (pe_var (i := ie) (by rw [hX.hN]; exact hni) (by rw [hX.hsc]; exact hvn) hdn hcn) pa_nil) hdo))) (pw_or1 (hc _ hX)))) (pss_one (ps_ret pe_bl)) pss_nil) (hr _ hX)) fun D σ H ⟨h4, B, F0, F, r, em, er, q⟩ => ?_
  obtain ⟨b, eb, em⟩ := Option.bind_eq_some_iff.mp em
  refine ⟨.ref a, h4, rfl, hz, hf, true, rfl, F, b, eb, er.vr, fun F' H' x => ?_⟩
  cases b with
  | true =>
    have : r = .bl false := (Option.some.inj em).symm
    subst this
    exact q (.bl false) F' H' (er.ret.go x) rep_b
  | false => exact ⟨B, F0, F', r, em, er.go x, q⟩
end
end H
end DL
set_option autoImplicit false
set_option maxRecDepth 100000
set_option maxHeartbeats 4000000
namespace DL
noncomputable section
/-- does check_coinage raise? -/
def f_check_coinage_N (x_value : D) : Option Bool := notT ((E2 f_is_coinage_D (some x_value) (some (D.int 8))).bind truD)
def f_check_coinage_H (x_value : D) : Option Bool := notT ((E2 f_is_coinage_H (some x_value) (some (D.int 8))).bind truD)
def f__law_right_D (x_value : D) : Option D :=
  (E1 f__law_is_coinage_D (some x_value)).bind fun x_due => (f_check_coinage_H x_value).bind fun b => if b = true then H.boolNot x_due else andV (some x_due) (E2 isD (some D.non) (some D.non))
def lawS (x_row x_good x_handed : D) : Option D :=
  ((E2 neD (some x_handed) (E1 (o1 listD) (some x_good))).bind getB).bind fun b => if b = true then some (.bl false) else
  (E3 f__law_spoiled_D (some x_good) (some x_row) (some (D.int 12))).bind fun x_first => (E3 f__law_spoiled_D (some x_good) (some x_row) (some (D.int 16))).bind fun x_second =>
  (E1 (o1 allD) (LC (((aC (some x_good) (aC (some x_first) (aC (E2 f__law_edge_D (some x_row) (some (D.int 20))) (aC (some x_second) (aC (some x_good) (some [])))))).bind lstD).bind seqD) (fun x_value => (some true)) (fun x_value => (E1 f__law_right_D (some x_value)))))
def f_law_D (x_script : D) : Option D :=
  (E2 f__law_row_D (some x_script) (some (D.int 24))).bind fun x_row => (E4 f__law_coinage_D (some x_row) (some (D.int 0)) (some (D.int 8)) (some (D.int 60))).bind fun x_good => (E1 (o1 listD) (some x_good)).bind fun x_handed =>
  (f_check_coinage_N x_handed).bind fun b => if b = true then lawS x_row x_good x_handed else some (D.bl false)
end
end DL
set_option autoImplicit false
set_option pp.maxSteps 40
set_option maxRecDepth 100000
set_option maxHeartbeats 4000000
namespace DL
open PySem PySem.Spec PySem.SeqAt PyProof.Rows L2
theorem kit_in {K : PySem.W.Frag} {C C2 : Addr} (h2 : PySem.W.hasDictIn K C2 = true) (h3 : PySem.W.typeIn K (.ref C2) = some (.type "type")) (h4 : PySem.W.subIn K (.ref C) (.ref C2) = some true) : PySem.W.kitOne K (.ref C) (.ref C2) = some true := by
  obtain ⟨cd, hc, _⟩ := PySem.W.any_some h2
  unfold PySem.W.kitOne PySem.W.kitCls
  split
  · rfl
  · simp only
    rw [if_pos (by rw [hc, h3]; rfl), h4]
theorem kit_val {K : PySem.W.Frag} {C : Addr} (h4 : PySem.W.subIn K (.ref C) (.type "ValueError") = some true) : PySem.W.kitOne K (.ref C) (.type "ValueError") = some true := by
  unfold PySem.W.kitOne PySem.W.kitCls
  split
  · rfl
  · simp only
    rw [if_pos (by decide +kernel), h4]
end DL
namespace DL.k00
open PySem PySem.Spec PySem.SeqAt PyProof.Rows L2 DL
theorem ok_check_coinage {G : GX} (T : Top G) {C : Addr} (hC : ExCls G "InvalidCoinage" C) : FnRN G 5 "check_coinage" f_check_coinage_N C :=
  fn_raiseN (k := 4) T.t_check_coinage sc_check_coinage rfl hC (by rfl) (by decide) (fun x_value => t_not (t_tru (e_call2 (ok_is_coinage T) (e_var 0) (e_gI T.g_MOST_VALUES))))
theorem ok__law_only {G : GX} (T : Top G) {C : Addr} (hC : ExcC G.K C) (h1 : H.Kin G C "ChangeError") (h2 : PySem.W.kitOne G.K (.ref C) (.type "ValueError") = some true) (h3 : NoKin G C "InvalidShop") (h4 : NoKin G C "BadText") (h5 : NoKin G C "NoChange") (h6 : NoKin G C "NoHistory") : H.FnOn G C 1 "_law_only" :=
  H.fn_only (k := 0) T.t__law_only sc__law_only rfl hC T.z_isinstance T.z_ValueError h2 h1 h3 h4 h5 h6 (Or.inl rfl) (by rfl) (by rfl) (by rfl) (by rfl) (by rfl) (by rfl) (by rfl) (by decide) (by decide) (by decide) (by decide) (by decide) (by decide) (by decide)
end DL.k00
namespace DL.H.k00
open PySem PySem.Spec PySem.SeqAt PyProof.Rows L2 DL.k00
theorem okh_check_coinage {G : GX} (T : Top G) {C : Addr} (hC : ExCls G "InvalidCoinage" C) : FnRH G 5 "check_coinage" f_check_coinage_H C :=
  fn_raiseH (k := 4) T.t_check_coinage sc_check_coinage rfl hC (by rfl) (by decide) (fun x_value => t_not (t_tru (e_call2 (ok_is_coinage T) (e_var 0) (e_gI T.g_MOST_VALUES))))
theorem ok__law_right {G : GX} (T : Top G) {C : Addr} (hC : ExCls G "InvalidCoinage" C) (hexm : PySem.W.exmOne G.K (.ref C) (.ref C) = some true) (O : FnOn G C 1 "_law_only") : FnD G 6 "_law_right" 1 (ap1 f__law_right_D) :=
  fn_right (k := 5) (k3 := 1) (g1 := fun d => E1 f__law_is_coinage_D (some d)) (m2 := fun _ x_due => andV (some x_due) (E2 isD (some D.non) (some D.non))) T.t__law_right sc__law_right rfl (okh_check_coinage T hC) hC O (by decide) hexm (by rfl) (by rfl) (by rfl) (by decide) (by decide) (by decide) (by decide) (by decide) (by decide) (by decide) (by decide) (by decide)
    (Or.inl rfl) (Or.inl rfl) (Or.inl rfl) (Or.inl rfl) (Or.inl rfl) (by rfl) (by intro _; rfl) (by intro _; rfl) (fun d => e_call1 (ok__law_is_coinage T) (e_var 0)) (fun d due => b_retF (e_and (e_var 1) (e_one (e_cmp opd_is (e_var 2) e_non))))
end DL.H.k00
namespace DL.k00
open PySem PySem.Spec PySem.SeqAt PyProof.Rows L2 DL
theorem law_ok {G : GX} (T : Top G) {f : Addr} {fd : FuncData} (F : Fun G.K "law" "law" s_law f fd) : FnOk G.P G.w G.K G.mg G.base CX0 7 f fd ["script"] (spD G.K 1 (ap1 f_law_D)) := by
  obtain ⟨C, hC, hexm, h3, h4, h5, h6, h1, h2⟩ := T.x_InvalidCoinage
  have O := ok__law_only T hC.ex h1 h2 h3 h4 h5 h6
  refine F.ok (N := ["script", "row", "good", "handed", "e", "first", "second", "value"]) sc_law (fun vs H Q E ⟨F, ds, d, hl, s, r, e, q⟩ => by rw [← r.len, hl]; rfl) (fun cdv A outer s H0 vs Q E hr sp => ?_)
  obtain ⟨F0, ds, d, hl, s0, r, e, q⟩ := sp
  match ds, hl with
  | [d0], _ =>
  obtain ⟨v, rfl, rv⟩ := r.one
  have e : f_law_D d0 = some d := e
  have hX : XOk G ⟨["script", "row", "good", "handed", "e", "first", "second", "value"], 6, defScope s_law, fun _ => true⟩ (cxOf CX0 G.P G.w G.K G.mg G.base ["script", "row", "good", "handed", "e", "first", "second", "value"] "law" (defScope s_law) f cdv A outer s H0 E).nox := ⟨rfl, rfl, rfl, rfl, rfl, rfl, sc_law.nd, rfl, rfl, rfl, hr⟩
  have hP : PSs (cxOf CX0 G.P G.w G.K G.mg G.base ["script", "row", "good", "handed", "e", "first", "second", "value"] "law" (defScope s_law) f cdv A outer s H0 E).nox (defBody s_law) (tS G.K [.val d0, .no, .no, .no, .no, .no, .no, .no] (kF G.K) (f_law_D d0)) := by
    delta f_law_D
    refine pss_set hX 1 (e_call2 (ok__law_row T) (e_var 0) e_int) (fun x_row => ?_)
    refine pss_set hX 2 (e_call4 (ok__law_coinage T) (e_var 1) e_int e_int e_int) (fun x_good => ?_)
    refine pss_set hX 3 (e_new (f_list1 T.z_list (e_var 2))) (fun x_handed => ?_)
    refine pss_tryL (ih := 3) (ie := 4) (dh := x_handed) hX rfl rfl rfl rfl (ok_check_coinage T hC) (by decide) hC hexm (by rfl) (by rfl) (by decide) (by decide) rfl (Or.inl rfl) (by decide) (by decide) (by intro _; rfl) rfl rfl (show (4 : Nat) < 8 from by decide) (fun a oe pn hz hf hXS => ?_) ?_
    · delta lawS
      exact H.pss_ask hXS hz hf O (by decide) (by rfl) (by decide) rfl (Or.inl rfl) (by decide) (by decide) (H.t_cmp H.opd_ne (H.e_var 3) (H.e_new (H.f_list1 T.z_list (H.e_var 2))))
        (H.b_set 5 (H.e_call3 (H.k00.ok__law_spoiled T) (H.e_var 2) (H.e_var 1) H.e_int) (fun x_first => H.b_set 6 (H.e_call3 (H.k00.ok__law_spoiled T) (H.e_var 2) (H.e_var 1) H.e_int) (fun x_second =>
          H.b_retD (H.e_all1 T.z_all (H.e_new (H.f_lc (H.i_seq (H.e_new (H.f_lst (H.a_cons (H.e_var 2) (H.a_cons (H.e_var 5) (H.a_cons (H.e_call2 (H.k00.ok__law_edge T) (H.e_var 1) H.e_int) (H.a_cons (H.e_var 6) (H.a_cons (H.e_var 2) H.a_nil)))))))) (H.lc1 (own := [("value", 7)]) (by decide +kernel) (H.g_name 7) (by decide) (fun x_value => H.ts_nil) (fun x_value => H.e_call1 (H.k00.ok__law_right T hC hexm O) (H.e_var 7)))))))))
    · exact b_retF e_bl _ hX
  have hno : ∀ i d, nthS [.val d0, .no, .no, .no, .no, .no, .no, .no] i ≠ .own d := fun i d => rho_own (ds := [d0]) (n := 7)
  refine ⟨_, hP, H0, F0, F0, d, e, ⟨⟨s0, ?_, fun i d h => ?_, fun i d h => absurd h (hno _ _)⟩, ⟨Same.refl _, s0, Same.refl _, fun a o h n => by rw [h] at n; cases n⟩, fun i d p h => absurd h (hno _ _), fun i j d e p h => absurd h (hno _ _)⟩, ?_, ?_⟩
  · rfl
  · match i with
    | 0 => cases h; exact ⟨v, rfl, rv⟩
    | 1 => cases h
    | 2 => cases h
    | 3 => cases h
    | 4 => cases h
    | 5 => cases h
    | 6 => cases h
    | 7 => cases h
    | i + 8 => cases h
  · intro v F H' ro rv
    exact q v F H' ⟨ro.keep, ro.ext, ro.sub, ro.fresh⟩ rv
  · intro hd σ F H' ro
    subst hd
    exact q .non F H' ⟨ro.keep, ro.ext, ro.sub, ro.fresh⟩ rep_n
end DL.k00
set_option autoImplicit false
set_option maxRecDepth 100000
set_option maxHeartbeats 4000000
namespace DL
open PySem PySem.Spec PySem.SeqAt PyProof.Rows L2
theorem mixed_spec (ns : List Int) (k : Int) (hk : 0 ≤ k) : ∃ n : Int, f__law_mixed_D (.scr ns) (.int k) = some (.int n) ∧ 0 ≤ n ∧ n < 1000003 := by
  have h1 : ∃ cell : Int, (iteO ((E2 gtD (E1 (o1 lenD) (some (.scr ns))) (some (D.int 0))).bind getB)
    ((E2 ixD (some (.scr ns)) (E2 modD (some (.int k)) (E1 (o1 lenD) (some (.scr ns))))).bind fun x_cell => (some x_cell)) (some (.int 0))) = some (.int cell) := by
    by_cases h : ns = []
    · subst h; exact ⟨0, by simp⟩
    · have hl : 0 < (ns.length : Int) := by have := List.length_pos_iff.mpr h; omega
      have h2 : 0 ≤ k % ns.length := Int.emod_nonneg _ (by omega)
      have h3 : k % ns.length < ns.length := Int.emod_lt_of_pos _ hl
      refine ⟨at0 ns (k % ns.length), ?_⟩
      simp [modD_i hl, ixD_scr ⟨h2, h3⟩, h]
  obtain ⟨cell, hc⟩ := h1
  unfold f__law_mixed_D
  simp only [Option.bind_some]
  rw [hc]
  have e1 : ∀ x y : Int, 0 < y → 0 ≤ x % y ∧ x % y < y := fun x y h => ⟨Int.emod_nonneg _ (by omega), Int.emod_lt_of_pos _ h⟩
  have a1 := e1 (cell * 48271 + k * 69621 + 8191) 2147483647 (by omega)
  generalize hf : (cell * 48271 + k * 69621 + 8191) % 2147483647 = first at a1
  have a2 := e1 (first * first + first / 7 + k * 16807) 2147483629 (by omega)
  generalize hs : (first * first + first / 7 + k * 16807) % 2147483629 = second at a2
  have a3 := e1 (second * second + second / 11 + 40692) 2147483563 (by omega)
  refine ⟨(second * second + second / 11 + 40692) % 2147483563 / 5 % 1000003, ?_, (e1 _ _ (by omega)).1, (e1 _ _ (by omega)).2⟩
  simp [mulD_r, modD_i, fdivD_i, hf, hs, mulD_l (i := first) (by omega), mulD_l (i := second) (by omega)]
theorem row_spec (ns : List Int) (m : Int) (hm : 0 ≤ m ∧ m ≤ 1000) : ∃ row : List Int, f__law_row_D (.scr ns) (.int m) = some (.lst (row.map .int)) ∧ row.length = m.toNat ∧ ∀ x ∈ row, 0 ≤ x ∧ x < 1000003 := by
  have h1 : ∃ big : Int, (iteO (andT ((E2 gtD (E1 (o1 lenD) (some (.scr ns))) (some (D.int 0))).bind getB) ((E2 geD (E2 ixD (some (.scr ns)) (some (D.int 0))) (E2 powD (some (D.int 10)) (some (D.int 18)))).bind getB))
    ((E2 ixD (some (.scr ns)) (some (D.int 0))).bind fun x_big => (some x_big)) (some (D.int 0))) = some (.int big) := by
    by_cases h : ns = []
    · subst h; exact ⟨0, by simp⟩
    · have hl : 0 < (ns.length : Int) := by have := List.length_pos_iff.mpr h; omega
      have hl' := List.length_pos_iff.mpr h
      simp [ixD_scr (ns := ns) (i := 0) ⟨by omega, hl⟩, powD_i, h, hl']
      split <;> simp
  obtain ⟨big, hb⟩ := h1
  unfold f__law_row_D
  simp only [Option.bind_some]
  rw [hb]
  simp only [Option.bind_some, aC_s, rg1_i (show -4611686018427387904 ≤ m ∧ m < 4611686018427387904 by omega)]
  rw [lstD_i (by simp)]
  simp only [Option.bind_some]
  obtain ⟨s', e, row, b, h1, h2, h3⟩ := forP_inv (f := f__law_row_L1 (.scr ns)) (g := D.int) (fun ys s => ∃ (row : List Int) (b : Int), s = (.int b, .lst (row.map .int)) ∧ row.length = ys.length ∧ ∀ x ∈ row, 0 ≤ x ∧ x < 1000003)
    (xs := rangeI 0 m) (s := (.int big, .lst [])) (ys := []) ⟨[], big, rfl, rfl, by simp⟩ (by
      rintro zs x ws s e ⟨row, b, rfl, hl, hr⟩
      have hx : x ∈ rangeI 0 m := by rw [show rangeI 0 m = zs ++ x :: ws from e]; simp
      rw [rangeI_mem] at hx
      have hz : zs.length + (ws.length + 1) = m.toNat := by
        have := congrArg List.length (show rangeI 0 m = zs ++ x :: ws from e)
        rw [rangeI_len] at this
        simpa using this.symm
      unfold f__law_row_L1
      by_cases hb : 0 < b
      · refine ⟨_, by simp [hb, modD_i, fdivD_i]; rw [appD_i (by simp; omega)]; simp; rfl, row ++ [b % 1000], b / 1000, by simp, by simp [hl], fun y hy => ?_⟩
        simp at hy
        rcases hy with hy | rfl
        · exact hr y hy
        · omega
      · obtain ⟨n, hn, h0, h1⟩ := mixed_spec ns x hx.1
        refine ⟨_, by simp [hb, hn]; rw [appD_i (by simp; omega)]; simp; rfl, row ++ [n], b, by simp, by simp [hl], fun y hy => ?_⟩
        simp at hy
        rcases hy with hy | rfl
        · exact hr y hy
        · exact ⟨h0, h1⟩)
  refine ⟨row, ?_, ?_, h3⟩
  · rw [e, h1]; rfl
  · rw [h2, List.nil_append, rangeI_len]; congr 1; omega
section
variable {f : D → Bool} {i : Int} {p : Bool} {x : Str} {ds : List D}
@[simp] theorem isi_i : isiG f (.int i) = some (.bl (f (.int i))) := id rfl
@[simp] theorem isi_b : isiG f (.bl p) = some (.bl (f (.bl p))) := id rfl
@[simp] theorem isi_s : isiG f (.str x) = some (.bl (f (.str x))) := id rfl
@[simp] theorem isi_n : isiG f .non = some (.bl (f .non)) := id rfl
@[simp] theorem isi_t : isiG f (.tup ds) = some (.bl (f (.tup ds))) := id rfl
@[simp] theorem isi_l : isiG f (.lst ds) = some (.bl (f (.lst ds))) := id rfl
end
def likeOk : Nat → D → Prop
  | _, .non => True
  | _, .bl _ => True
  | _, .int _ => True
  | _, .str x => PyData.strOk x = true
  | n + 1, .tup ds => ds.length ≤ 16777216 ∧ ∀ d ∈ ds, likeOk n d
  | _, _ => False
theorem likeOk_t {n : Nat} {ds : List D} : likeOk (n + 1) (.tup ds) = (ds.length ≤ 16777216 ∧ ∀ d ∈ ds, likeOk n d) := by rw [likeOk]
theorem all_true {xs : List Int} : allD [.lst (xs.map fun _ => .bl true)] = some (.bl true) := by
  have := allD_bs (bs := xs.map fun _ => true)
  rw [List.map_map] at this
  refine Eq.trans this ?_
  congr 2
  simp
theorem like_tup {n : Nat} {ds : List D} (ih : ∀ d ∈ ds, f__law_like_D_R n d d = some (.bl true)) (h1 : ds.length ≤ 16777216) : f__law_like_D_R (n + 1) (.tup ds) (.tup ds) = some (.bl true) := by
  have hr : rg1D [D.int ds.length] = some ((rangeI 0 ds.length).map .int) := rg1_i (by omega)
  have hl : LC (some ((rangeI 0 ds.length).map D.int)) (fun _ => some true) (fun k => E2 (f__law_like_D_R n) (ixD (.tup ds) k) (ixD (.tup ds) k)) = some (.lst ((rangeI 0 ds.length).map fun _ => .bl true)) := by
    refine LC_map (fun k hk => ?_) (by rw [rangeI_len]; omega)
    rw [rangeI_mem] at hk
    have h3 : k.toNat < ds.length := by omega
    rw [ixD_t hk.1, List.getElem?_eq_getElem h3]
    exact ih _ (List.getElem_mem h3)
  simp -implicitDefEqProofs [f__law_like_D_R, f__law_like_D_B, isBlD, isTupD, hr, hl, all_true]
theorem like_refl : ∀ (n : Nat) (v : D), likeOk n v → f__law_like_D_R n v v = some (.bl true) := by
  intro n
  induction n with
  | zero =>
    intro v h
    cases v <;> simp [likeOk] at h <;> simp [f__law_like_D_R, f__law_like_D_B, isBlD, isTupD, isStrD, isIntD, f__law_is_int_D]
    simp [eqD_s h h]
  | succ n ih =>
    intro v h
    cases v with
    | tup ds =>
      rw [likeOk_t] at h
      exact like_tup (fun d hd => ih d (h.2 d hd)) h.1
    | str x => simp [likeOk] at h; simp [f__law_like_D_R, f__law_like_D_B, isBlD, isTupD, isStrD, isIntD, f__law_is_int_D, eqD_s h h]
    | non => simp [f__law_like_D_R, f__law_like_D_B]
    | bl => simp [f__law_like_D_R, f__law_like_D_B, isBlD]
    | int => simp [f__law_like_D_R, f__law_like_D_B, isBlD, isTupD, isStrD, isIntD, f__law_is_int_D]
    | _ => simp [likeOk] at h
theorem like_i {i : Int} : f__law_like_D (.int i) (.int i) = some (.bl true) := like_refl 4 _ trivial
theorem like_n : f__law_like_D .non .non = some (.bl true) := like_refl 4 _ trivial
theorem like_b {p : Bool} : f__law_like_D (.bl p) (.bl p) = some (.bl true) := like_refl 4 _ trivial
theorem likeOk_ints {n : Nat} {ns : List Int} (h : ns.length ≤ 16777216) : likeOk (n + 1) (.tup (ns.map .int)) := likeOk_t ▸ ⟨by simpa using h, fun d hd => by
  obtain ⟨i, _, rfl⟩ := List.mem_map.mp hd
  cases n <;> simp [likeOk]⟩
theorem like_t {ns : List Int} (h : ns.length ≤ 16777216) : f__law_like_D (.tup (ns.map .int)) (.tup (ns.map .int)) = some (.bl true) := like_refl 4 _ (likeOk_ints h)
end DL
set_option autoImplicit false
set_option maxRecDepth 100000
set_option maxHeartbeats 4000000
namespace DL
open PySem PySem.Spec PySem.SeqAt PyProof.Rows L2
theorem ints_any {v : Int} {fs : List Int} : ((fs.map D.int).any fun z => deq z (.int v)) = decide (v ∈ fs) := by
  induction fs with
  | nil => simp
  | cons f fs ih =>
    rw [List.map_cons, List.any_cons, ih, deq_ii, ← Bool.decide_or]
    refine decide_eq_decide.mpr ?_
    rw [List.mem_cons]
    exact ⟨fun h => h.imp Eq.symm id, fun h => h.imp Eq.symm id⟩
theorem notIn_l {v : Int} {fs : List Int} : notInD (.int v) (.lst (fs.map .int)) = some (.bl (!decide (v ∈ fs))) := by
  simp only [notInD, memD, ok_i, ok_l, plains_ints, deps_ints, ints_any]
  rfl
theorem in_l {v : Int} {fs : List Int} : inD (.int v) (.lst (fs.map .int)) = some (.bl (decide (v ∈ fs))) := by
  simp only [inD, memD, ok_i, ok_l, plains_ints, deps_ints, ints_any]
  rfl
theorem notIn_t {v : Int} {fs : List Int} : notInD (.int v) (.tup (fs.map .int)) = some (.bl (!decide (v ∈ fs))) := by
  simp only [notInD, memD, ok_i, ok_t, plains_ints, deps_ints, ints_any]
  rfl
theorem in_t {v : Int} {fs : List Int} : inD (.int v) (.tup (fs.map .int)) = some (.bl (decide (v ∈ fs))) := by
  simp only [inD, memD, ok_i, ok_t, plains_ints, deps_ints, ints_any]
  rfl
theorem isort_lt {fs : List Int} (h : fs.Nodup) : (isort fs).Pairwise (· < ·) := by
  have h1 := isort_sorted fs
  have h2 : (isort fs).Nodup := (isort_perm fs).nodup_iff.mpr h
  exact (h1.and h2).imp fun h => by omega
/-- a coinage: ascending values of a bound -/
structure Coins (vs : List Int) (n : Nat) (top : Int) : Prop where
  asc : vs.Pairwise (· < ·)
  ne : vs ≠ []
  len : vs.length ≤ n
  bd : ∀ v ∈ vs, 1 ≤ v ∧ v ≤ top
theorem coinage_spec {row : List Int} {i most top : Int} (hi : 0 ≤ i ∧ i + most < row.length) (hm : 1 ≤ most ∧ most ≤ 100) (ht : 1 ≤ top ∧ top ≤ 100000) :
    ∃ vs, f__law_coinage_D (.lst (row.map .int)) (.int i) (.int most) (.int top) = some (.tup (vs.map .int)) ∧ Coins vs most.toNat top := by
  have hb := emod_bd (at0 row i) most (by omega)
  generalize hn : 1 + at0 row i % most = n at hb
  obtain ⟨s', e, fs, rfl, h1, h2, h3, h4⟩ := forP_inv (f := f__law_coinage_L1 (.lst (row.map .int)) (.int i) (.int top)) (g := D.int)
    (fun ys s => ∃ fs : List Int, s = .lst (fs.map .int) ∧ fs.length ≤ ys.length ∧ (ys ≠ [] → fs ≠ []) ∧ fs.Nodup ∧ ∀ v ∈ fs, 1 ≤ v ∧ v ≤ top)
    (xs := rangeI 0 n) (s := .lst []) (ys := []) ⟨[], rfl, by simp, by simp, by simp, by simp⟩ (by
      rintro zs x ws s e ⟨fs, rfl, hl, hne, hnd, hbd⟩
      have hx : x ∈ rangeI 0 n := by rw [show rangeI 0 n = zs ++ x :: ws from e]; simp
      rw [rangeI_mem] at hx
      have hz : zs.length + (ws.length + 1) = n.toNat := by
        have := congrArg List.length (show rangeI 0 n = zs ++ x :: ws from e)
        rw [rangeI_len] at this
        simpa using this.symm
      have hv := emod_bd (at0 row (i + 1 + x)) top (by omega)
      unfold f__law_coinage_L1
      by_cases hmem : 1 + at0 row (i + 1 + x) % top ∈ fs
      · refine ⟨_, ?_, fs, rfl, by simp; omega, fun _ => by rintro rfl; simp at hmem, hnd, hbd⟩
        simp -implicitDefEqProofs [ixD_row (ns := row) (i := i + 1 + x) (by omega), modD_i (show 0 < top by omega), notIn_l, hmem]
      · refine ⟨.lst ((fs ++ [1 + at0 row (i + 1 + x) % top]).map .int), ?_, fs ++ [1 + at0 row (i + 1 + x) % top], rfl, by simp; omega, by simp, ?_, ?_⟩
        · simp -implicitDefEqProofs [ixD_row (ns := row) (i := i + 1 + x) (by omega), modD_i (show 0 < top by omega), notIn_l, hmem]
          exact appD_i (by simp; omega)
        · rw [List.nodup_append]
          exact ⟨hnd, by simp, fun a ha b hb => by simp at hb; subst hb; rintro rfl; exact hmem ha⟩
        · intro v hvm
          simp at hvm
          rcases hvm with hvm | rfl
          · exact hbd v hvm
          · omega)
  refine ⟨isort fs, ?_, isort_lt h3, ?_, ?_, ?_⟩
  · unfold f__law_coinage_D
    simp -implicitDefEqProofs [ixD_row (ns := row) (i := i) (by omega), modD_i (show 0 < most by omega), hn, lstD_i, rg1_i (show -4611686018427387904 ≤ n ∧ n < 4611686018427387904 by omega), e]
  · intro h0
    have hp := (isort_perm fs).length_eq
    rw [h0] at hp
    have : fs ≠ [] := h2 (by
      intro h0'
      have := congrArg List.length h0'
      rw [List.nil_append, rangeI_len] at this
      simp at this; omega)
    exact this (List.length_eq_zero_iff.mp hp.symm)
  · rw [(isort_perm fs).length_eq]
    have := h1
    rw [List.nil_append, rangeI_len] at this
    omega
  · intro v hv
    exact h4 v ((isort_perm fs).mem_iff.mp hv)
theorem Coins.map {vs : List Int} {n m : Nat} {top t : Int} {f : Int → Int} (h : Coins vs n top) (hf : ∀ x y, x < y → f x < f y) (hb : ∀ x, 1 ≤ x → x ≤ top → 1 ≤ f x ∧ f x ≤ t) (hn : n ≤ m) : Coins (vs.map f) m t where
  asc := by rw [List.pairwise_map]; exact h.asc.imp fun h => hf _ _ h
  ne := by simpa using h.ne
  len := by simpa using Nat.le_trans h.len hn
  bd v hv := by
    obtain ⟨x, hx, rfl⟩ := List.mem_map.mp hv
    exact hb x (h.bd x hx).1 (h.bd x hx).2
theorem Coins.mono {vs : List Int} {n m : Nat} {top t : Int} (h : Coins vs n top) (hn : n ≤ m) (ht : top ≤ t) : Coins vs m t := ⟨h.asc, h.ne, Nat.le_trans h.len hn, fun v hv => ⟨(h.bd v hv).1, Int.le_trans (h.bd v hv).2 ht⟩⟩
theorem LC_ints {f : D → Option D} {h : Int → Int} {xs : List Int} (H : ∀ x ∈ xs, f (.int x) = some (.int (h x))) (hl : xs.length ≤ 16777216) : LC (some (xs.map .int)) (fun _ => some true) f = some (.lst ((xs.map h).map .int)) := by
  rw [LC_map (g := D.int) (h := fun x => D.int (h x)) H hl, List.map_map]; rfl
theorem coins_spec {row : List Int} {i : Int} (hi : 0 ≤ i ∧ i + 10 < row.length) : ∃ vs, f__law_coins_D (.lst (row.map .int)) (.int i) = some (.tup (vs.map .int)) ∧ Coins vs 8 60 := by
  have hb := emod_bd (at0 row i) 8 (by omega)
  unfold f__law_coins_D
  simp -implicitDefEqProofs only [E1_s, E2_s, o1_s, ixD_row (ns := row) (i := i) (by omega), intD_i, modD_i (i := at0 row i) (j := 8) (by omega), Option.bind_some, ltD_i, getB_b, iteO_s, eqD_i, addD_i, E4_s]
  generalize at0 row i % 8 = kind at hb
  by_cases h1 : kind < 2
  · simp only [h1, decide_true, if_true]
    obtain ⟨vs, e, h⟩ := coinage_spec (row := row) (i := i + 1) (most := 8) (top := 60) (by omega) (by omega) (by omega)
    exact ⟨vs, e, h⟩
  by_cases h2 : kind = 2
  · subst h2
    have hby := emod_bd (at0 row (i + 10)) 5 (by omega)
    simp -implicitDefEqProofs only [ixD_row (ns := row) (i := i + 10) (by omega), E1_s, o1_s, intD_i, E2_s, modD_i (i := at0 row (i + 10)) (j := 5) (by omega), addD_i, Option.bind_some]
    generalize hg : 2 + at0 row (i + 10) % 5 = by' at *
    rw [fdivD_i (by omega) (by omega)]
    have hq : 10 ≤ 60 / by' ∧ 60 / by' ≤ 30 ∧ by' * (60 / by') ≤ 60 := by
      rcases (by omega : by' = 2 ∨ by' = 3 ∨ by' = 4 ∨ by' = 5 ∨ by' = 6) with rfl | rfl | rfl | rfl | rfl <;> decide
    obtain ⟨vs, e, h⟩ := coinage_spec (row := row) (i := i + 1) (most := 5) (top := 60 / by') (by omega) (by omega) (by omega)
    simp -implicitDefEqProofs only [E4_s, e, Option.bind_some, seqD_t]
    rw [LC_ints (h := fun v => by' * v) (fun v hv => mulD_l (by omega)) (by have := h.len; omega)]
    refine ⟨vs.map fun v => by' * v, by simp, h.map (fun x y hxy => Int.mul_lt_mul_of_pos_left hxy (by omega)) (fun x h1 h2 => ⟨?_, ?_⟩) (by decide)⟩
    · have := Int.mul_le_mul_of_nonneg_left h1 (show 0 ≤ by' by omega); omega
    · have := Int.mul_le_mul_of_nonneg_left h2 (show 0 ≤ by' by omega); omega
  by_cases h3 : kind = 3
  · subst h3
    obtain ⟨vs, e, h⟩ := coinage_spec (row := row) (i := i + 1) (most := 4) (top := 30) (by omega) (by omega) (by omega)
    simp -implicitDefEqProofs [e]
    rw [LC_ints (h := fun v => 30 + v) (fun v hv => by simp) (by have := h.len; omega)]
    refine ⟨vs.map fun v => 30 + v, by simp, h.map (fun x y hxy => by omega) (fun x h1 h2 => by omega) (by decide)⟩
  by_cases h4 : kind = 4
  · subst h4
    obtain ⟨vs, e, h⟩ := coinage_spec (row := row) (i := i + 1) (most := 5) (top := 30) (by omega) (by omega) (by omega)
    simp -implicitDefEqProofs [e]
    rw [LC_ints (h := fun v => 1 + v) (fun v hv => by simp) (by have := h.len; omega)]
    have h' : Coins (vs.map fun v => 1 + v) 5 31 := h.map (fun x y hxy => by omega) (fun x h1 h2 => by omega) (by decide)
    refine ⟨1 :: vs.map fun v => 1 + v, ?_, ⟨?_, by simp, by have := h'.len; simp at this ⊢; omega, ?_⟩⟩
    · have := h.len
      simp -implicitDefEqProofs [tupD_i, addD]
      omega
    · rw [List.pairwise_cons]
      refine ⟨fun a ha => ?_, h'.asc⟩
      obtain ⟨x, hx, rfl⟩ := List.mem_map.mp ha
      have := (h.bd x hx).1
      omega
    · intro v hv
      rcases List.mem_cons.mp hv with rfl | hv
      · omega
      · have := h'.bd v hv; omega
  · obtain ⟨vs, e, h⟩ := coinage_spec (row := row) (i := i + 1) (most := 4) (top := 14) (by omega) (by omega) (by omega)
    simp -implicitDefEqProofs [h1, h2, h3, h4, e]
    exact ⟨vs, rfl, h.mono (by decide) (by omega)⟩
theorem amount_spec {row : List Int} {i : Int} (hi : 0 ≤ i ∧ i + 2 < row.length) : ∃ a, f__law_amount_D (.lst (row.map .int)) (.int i) = some (.int a) ∧ 0 ≤ a ∧ a ≤ 4000 := by
  have h1 := emod_bd (at0 row i) 250 (by omega)
  have h2 := emod_bd (at0 row i % 1000 * 5 + at0 row (i + 2) % 5) 4001 (by omega)
  unfold f__law_amount_D
  simp -implicitDefEqProofs [ixD_row (ns := row) (i := i) (by omega), ixD_row (ns := row) (i := i + 1) (by omega), ixD_row (ns := row) (i := i + 2) (by omega), modD_i, mulD_r]
  split <;> split <;> exact ⟨_, by simp; rfl, by omega, by omega⟩
end DL
set_option autoImplicit false
set_option maxRecDepth 100000
set_option maxHeartbeats 4000000
namespace DL
open PySem PySem.Spec PySem.SeqAt PyProof.Rows L2
/-- None or a number -/
def oD : Option Int → D
  | none => .non
  | some i => .int i
@[simp] theorem oD_n : oD none = .non := rfl
@[simp] theorem oD_s {i : Int} : oD (some i) = .int i := rfl
/-- what stands at a place (None beyond) -/
def atO (fs : List (Option Int)) (i : Int) : Option Int := (fs[i.toNat]?).join
theorem ixD_o {fs : List (Option Int)} {i : Int} (h : 0 ≤ i ∧ i < fs.length) : ixD (.lst (fs.map oD)) (.int i) = some (oD (atO fs i)) := by
  simp only [ixD]
  rw [atI_pos h.1, List.getElem?_map, atO, List.getElem?_eq_getElem (show i.toNat < fs.length by omega)]
  rfl
theorem setM_o {fs : List (Option Int)} {i : Int} {d : Option Int} (h : 0 ≤ i ∧ i < fs.length) : setM (some (oD d)) (some (.int i)) (.lst (fs.map oD)) = some (.lst ((fs.set i.toNat d).map oD)) := by
  simp only [setM, Option.bind_some, setD]
  rw [List.length_map]
  unfold ixN
  rw [if_pos h.1, if_pos h.2, List.map_set]
  rfl
theorem setM_l {ds : List D} {i : Int} {d : D} (h : 0 ≤ i ∧ i < ds.length) : setM (some d) (some (.int i)) (.lst ds) = some (.lst (ds.set i.toNat d)) := by
  simp only [setM, Option.bind_some, setD]
  unfold ixN
  rw [if_pos h.1, if_pos h.2]
  rfl
/-- the numbers before a sum -/
def before (vs : List Int) (fs : List (Option Int)) (a : Int) : List Int := (vs.filter fun v => decide (v ≤ a)).filterMap fun v => atO fs (a - v)
def leastO : List Int → Option Int
  | [] => none
  | n :: ns => some (lmin n ns)
def stepN (vs : List Int) (fs : List (Option Int)) (a : Int) : List (Option Int) := match leastO (before vs fs a) with
  | none => fs
  | some b => fs.set a.toNat (some (1 + b))
def numF (vs : List Int) (top : Int) : List (Option Int) := (rangeI 1 (top + 1)).foldl (stepN vs) (some 0 :: List.replicate top.toNat none)
theorem stepN_len {vs : List Int} {fs : List (Option Int)} {a : Int} : (stepN vs fs a).length = fs.length := by
  unfold stepN; split <;> simp
theorem numF_len {vs : List Int} {top : Int} : (numF vs top).length = top.toNat + 1 := by
  unfold numF
  have : ∀ (xs : List Int) (fs : List (Option Int)), (xs.foldl (stepN vs) fs).length = fs.length := by
    intro xs
    induction xs with
    | nil => intro fs; rfl
    | cons x xs ih => intro fs; rw [List.foldl_cons, ih, stepN_len]
  rw [this]; simp
theorem start_eq {top : Int} (h : 0 ≤ top ∧ top ≤ 1000000) : (E2 catD ((aC (some (D.int 0)) (some [])).bind lstD) (E2 repD ((aC (some D.non) (some [])).bind lstD) (some (.int top)))) = some (.lst ((some 0 :: List.replicate top.toNat none).map oD)) := by
  have h1 : repD (.lst [D.non]) (.int top) = some (.lst (List.replicate top.toNat D.non)) := by
    simp only [repD]
    rw [if_pos ⟨by omega, by omega, by simp; omega⟩]
    congr 2
    generalize top.toNat = n
    induction n with
    | zero => rfl
    | succ n ih => rw [List.replicate_succ, List.flatten_cons, ih]; rfl
  simp -implicitDefEqProofs [lstD_i, h1, catD]
  omega
theorem filter_nn {fs : List (Option Int)} : ((fs.map oD).filter fun d => match d with | .non => false | _ => true) = (fs.filterMap id).map D.int := by
  induction fs with
  | nil => rfl
  | cons f fs ih => cases f <;> simp [ih]
theorem minL_eq {n : Int} {ns : List Int} : minLD [.lst ((n :: ns).map .int)] = some (.int (lmin n ns)) := by
  simp only [minLD, intsOf_map, Option.bind_some]
theorem least_step {vs : List Int} {fs : List (Option Int)} {a : Int} (hv : ∀ v ∈ vs, 1 ≤ v) (hl : vs.length ≤ 1000) (ha : 0 ≤ a ∧ a < fs.length) :
    f_least_numbers_L1 (.tup (vs.map .int)) (.lst (fs.map oD)) (.int a) = some (.lst ((stepN vs fs a).map oD)) := by
  unfold f_least_numbers_L1
  have e1 : LC ((some (D.tup (vs.map .int))).bind seqD) (fun x_value => ((E2 leD (some x_value) (some (.int a))).bind getB)) (fun x_value => (E1 (ixD (.lst (fs.map oD))) (E2 subD (some (.int a)) (some x_value)))) = some (.lst ((vs.filter fun v => decide (v ≤ a)).map fun v => oD (atO fs (a - v)))) := by
    simp only [Option.bind_some, seqD_t]
    refine LC_filter (p := fun v => decide (v ≤ a)) (fun v _ => by simp) (fun v hm h => ?_) (by omega)
    have := hv v hm
    have h' : v ≤ a := of_decide_eq_true h
    simp only [E2_s, subD_i, E1_s]
    exact ixD_o (by omega)
  refine bstep e1 ?_
  have e2 : LC ((some (D.lst ((vs.filter fun v => decide (v ≤ a)).map fun v => oD (atO fs (a - v))))).bind seqD) (fun x_number => ((E2 isNotD (some x_number) (some D.non)).bind getB)) (fun x_number => (some x_number)) = some (.lst ((before vs fs a).map .int)) := by
    simp only [Option.bind_some, seqD_l]
    have h := LC_filter (f := fun x => some x) (nt := fun x_number => ((E2 isNotD (some x_number) (some D.non)).bind getB)) (g := fun v => oD (atO fs (a - v))) (h := fun v => oD (atO fs (a - v))) (p := fun v => (atO fs (a - v)).isSome) (xs := vs.filter fun v => decide (v ≤ a)) (fun v _ => by cases atO fs (a - v) <;> simp) (fun v _ _ => rfl) (Nat.le_trans (List.length_filter_le _ _) (by omega))
    rw [h]
    congr 2
    unfold before
    generalize vs.filter (fun v => decide (v ≤ a)) = us
    induction us with
    | nil => rfl
    | cons u us ih =>
      cases hu : atO fs (a - u) with
      | none => rw [List.filter_cons_of_neg (by simp [hu]), List.filterMap_cons]; simp only [hu]; exact ih
      | some i => rw [List.filter_cons_of_pos (by simp [hu]), List.filterMap_cons]; simp only [hu]; rw [List.map_cons, List.map_cons, ih, hu]; rfl
  refine bstep e2 ?_
  unfold stepN
  cases hb : before vs fs a with
  | nil => simp [leastO]
  | cons n ns =>
    simp only [leastO]
    have := setM_o (fs := fs) (i := a) (d := some (1 + lmin n ns)) ha
    simp -implicitDefEqProofs only [Option.bind_some, truD_l, List.map_cons, List.isEmpty_cons, Bool.not_false, iteO_s, if_true, E1_s, o1_s]
    rw [show minLD [D.lst (D.int n :: List.map D.int ns)] = some (.int (lmin n ns)) from minL_eq]
    simp -implicitDefEqProofs only [E2_s, addD_i]
    rw [show some (D.int (1 + lmin n ns)) = some (oD (some (1 + lmin n ns))) from rfl, this]
    rfl
theorem least_eq {vs : List Int} {top : Int} (hv : ∀ v ∈ vs, 1 ≤ v) (hl : vs.length ≤ 1000) (ht : 0 ≤ top ∧ top ≤ 1000000) : f_least_numbers_D (.tup (vs.map .int)) (.int top) = some (.lst ((numF vs top).map oD)) := by
  unfold f_least_numbers_D
  refine bstep (start_eq ht) ?_
  have hr : rg2D [D.int 1, D.int (top + 1)] = some ((rangeI 1 (top + 1)).map .int) := rg2_i (by omega) (by omega)
  simp -implicitDefEqProofs only [E2_s, addD_i, aC_s, Option.bind_some, hr]
  have := (forP_fold (f := f_least_numbers_L1 (.tup (vs.map .int))) (g := D.int) (emb := fun fs : List (Option Int) => D.lst (fs.map oD)) (st := stepN vs) (fun fs => fs.length = top.toNat + 1) (xs := rangeI 1 (top + 1)) (t := some 0 :: List.replicate top.toNat none) (by simp) (fun x hx fs hfs => by
    rw [rangeI_mem] at hx
    exact ⟨least_step hv hl (by omega), by rw [stepN_len]; exact hfs⟩)).1
  rw [this]
  rfl
/-! ### the law's own table -/
def bst (b : Option Int) (n : Int) : Option Int := match b with
  | none => some n
  | some m => some (if n < m then n else m)
theorem bst_least : ∀ (ns : List Int) (m : Int), ns.foldl bst (some m) = some (lmin m ns)
  | [], m => rfl
  | n :: ns, m => by rw [List.foldl_cons]; exact bst_least ns _
theorem bst_leastO (ns : List Int) : ns.foldl bst none = leastO ns := by
  cases ns with
  | nil => rfl
  | cons n ns => exact bst_least ns n
def vst (fs : List (Option Int)) (a : Int) (b : Option Int) (v : Int) : Option Int := if v ≤ a then (match atO fs (a - v) with | none => b | some n => bst b n) else b
theorem vst_fold (fs : List (Option Int)) (a : Int) : ∀ (vs : List Int) (b : Option Int), vs.foldl (vst fs a) b = (before vs fs a).foldl bst b
  | [], b => rfl
  | v :: vs, b => by
    rw [List.foldl_cons, vst_fold fs a vs]
    unfold vst before
    by_cases h : v ≤ a
    · rw [if_pos h, List.filter_cons_of_pos (by simpa using h), List.filterMap_cons]
      cases atO fs (a - v) with
      | none => rfl
      | some n => rfl
    · rw [if_neg h, List.filter_cons_of_neg (by simpa using h)]
theorem lawn_step {vs : List Int} {fs : List (Option Int)} {a : Int} (hv : ∀ v ∈ vs, 1 ≤ v) (ha : 0 ≤ a ∧ a < fs.length) :
    f__law_numbers_L2 (.tup (vs.map .int)) (.lst (fs.map oD)) (.int a) = some (.lst ((stepN vs fs a).map oD)) := by
  unfold f__law_numbers_L2
  have h := (forP_fold (f := f__law_numbers_L1 (.int a) (.lst (fs.map oD))) (g := D.int) (emb := oD) (st := vst fs a) (fun _ => True) (xs := vs) (t := none) trivial (fun v hm b _ => by
    refine ⟨?_, trivial⟩
    have h1 := hv v hm
    unfold f__law_numbers_L1 vst
    by_cases hle : v ≤ a
    · have hx : ixD (.lst (fs.map oD)) (.int (a - v)) = some (oD (atO fs (a - v))) := ixD_o (by omega)
      cases hu : atO fs (a - v) with
      | none => simp -implicitDefEqProofs [hle, hx, hu]
      | some n =>
        cases b with
        | none => simp -implicitDefEqProofs [hle, hx, hu, bst]
        | some m => by_cases hnm : n < m <;> simp -implicitDefEqProofs [hle, hx, hu, bst, hnm]
    · simp -implicitDefEqProofs [hle])).1
  rw [vst_fold, bst_leastO] at h
  simp only [Option.bind_some, seqD_t]
  rw [show D.non = oD none from rfl, h]
  unfold stepN
  cases hb : leastO (before vs fs a) with
  | none => simp
  | some b =>
    have := setM_o (fs := fs) (i := a) (d := some (1 + b)) ha
    simp -implicitDefEqProofs only [Option.bind_some, oD_s, oD_n, E2_s, isNotD_i, getB_b, iteO_s, if_true, addD_i]
    rw [Int.add_comm b 1, show some (D.int (1 + b)) = some (oD (some (1 + b))) from rfl, this]
    rfl
theorem lawn_eq {vs : List Int} {top : Int} (hv : ∀ v ∈ vs, 1 ≤ v) (ht : 0 ≤ top ∧ top ≤ 1000000) : f__law_numbers_D (.tup (vs.map .int)) (.int top) = some (.lst ((numF vs top).map oD)) := by
  unfold f__law_numbers_D
  refine bstep (start_eq ht) ?_
  have hr : rg2D [D.int 1, D.int (top + 1)] = some ((rangeI 1 (top + 1)).map .int) := rg2_i (by omega) (by omega)
  simp -implicitDefEqProofs only [E2_s, addD_i, aC_s, Option.bind_some, hr]
  have := (forP_fold (f := f__law_numbers_L2 (.tup (vs.map .int))) (g := D.int) (emb := fun fs : List (Option Int) => D.lst (fs.map oD)) (st := stepN vs) (fun fs => fs.length = top.toNat + 1) (xs := rangeI 1 (top + 1)) (t := some 0 :: List.replicate top.toNat none) (by simp) (fun x hx fs hfs => by
    rw [rangeI_mem] at hx
    exact ⟨lawn_step hv (by omega), by rw [stepN_len]; exact hfs⟩)).1
  rw [this]
  rfl
theorem least1_eq {vs : List Int} {a : Int} (hv : ∀ v ∈ vs, 1 ≤ v) (hl : vs.length ≤ 1000) (ht : 0 ≤ a ∧ a ≤ 1000000) : f_least_number_D (.tup (vs.map .int)) (.int a) = some (oD (atO (numF vs a) a)) := by
  unfold f_least_number_D
  rw [E2_s, least_eq hv hl ht, E2_s]
  exact ixD_o (by rw [numF_len]; omega)
theorem likeOk_o {n : Nat} {o : Option Int} : likeOk n (oD o) := by cases o <;> cases n <;> trivial
theorem like_o {o : Option Int} : f__law_like_D (oD o) (oD o) = some (.bl true) := like_refl 4 _ likeOk_o
end DL
set_option autoImplicit false
set_option pp.maxSteps 40
set_option maxRecDepth 100000
set_option maxHeartbeats 4000000
namespace DL
noncomputable section
def f_balances_L1 (s1 : D) (x_who : D) (x_whom : D) (x_amount : D) : Option (D) :=
  ((augM subD (some x_who) (some x_amount) s1).bind fun x_found => ((augM addI (some x_whom) (some x_amount) x_found).bind fun x_found => (some x_found)))
def f_balances_D (x_n : D) (x_debts : D) : Option D :=
  ((E2 repD ((aC (some (D.int 0)) (some [])).bind lstD) (some x_n)).bind fun x_found => ((((some x_debts).bind seqD).bind fun ds => forP (fun s1 => un3 (f_balances_L1 s1)) x_found ds).bind fun (s2 : D) => (E1 (o1 tupleD) (some s2))))
def f__law_debts_L1 (x_row : D) (x_at : D) (x_people : D) (x_top : D) (s1 : D) (x_k : D) : Option (D) :=
  ((E2 modD (E1 (o1 intD) (E2 ixD (some x_row) (E2 addD (E2 addD (some x_at) (some (D.int 1))) (E2 mulD (some (D.int 3)) (some x_k))))) (some x_people)).bind fun x_who => ((E2 modD (E1 (o1 intD) (E2 addD (E2 addD (some x_who) (some (D.int 1))) (E2 modD (E1 (o1 intD) (E2 ixD (some x_row) (E2 addD (E2 addD (some x_at) (some (D.int 2))) (E2 mulD (some (D.int 3)) (some x_k))))) (E2 (o2 max2D) (some (D.int 1)) (E2 subD (some x_people) (some (D.int 1))))))) (some x_people)).bind fun x_whom => ((((aC (some x_who) (aC (some x_whom) (aC (E2 addD (some (D.int 1)) (E2 modD (E1 (o1 intD) (E2 ixD (some x_row) (E2 addD (E2 addD (some x_at) (some (D.int 3))) (E2 mulD (some (D.int 3)) (some x_k))))) (some x_top))) (some [])))).bind tupD).bind (appD s1)).bind fun x_found => (some x_found))))
def f__law_debts_D (x_row : D) (x_at : D) (x_people : D) (x_many : D) (x_top : D) : Option D :=
  (((some []).bind lstD).bind fun x_found => ((((aC (E2 mulD (E2 modD (E1 (o1 intD) (E2 ixD (some x_row) (some x_at))) (E2 addD (some x_many) (some (D.int 1)))) (E1 (o1 intD) (E2 gtD (some x_people) (some (D.int 1))))) (some [])).bind rg1D).bind fun ds => forP (f__law_debts_L1 x_row x_at x_people x_top) x_found ds).bind fun (s2 : D) => (E1 (o1 tupleD) (some s2))))
def f__law_net_L1 (x_debts : D) (s1 : D) (x_person : D) : Option (D) :=
  ((E1 (o1 sumD) (LC ((some x_debts).bind seqD) (fun x_debt => ((E2 eqD (E2 ixD (some x_debt) (some (D.int 1))) (some x_person)).bind getB)) (fun x_debt => (E2 ixD (some x_debt) (some (D.int 2)))))).bind fun x_owed => ((E1 (o1 sumD) (LC ((some x_debts).bind seqD) (fun x_debt => ((E2 eqD (E2 ixD (some x_debt) (some (D.int 0))) (some x_person)).bind getB)) (fun x_debt => (E2 ixD (some x_debt) (some (D.int 2)))))).bind fun x_owes => (((E2 subD (some x_owed) (some x_owes)).bind (appD s1)).bind fun x_found => (some x_found))))
def f__law_net_D (x_n : D) (x_debts : D) : Option D :=
  (((some []).bind lstD).bind fun x_found => ((((aC (some x_n) (some [])).bind rg1D).bind fun ds => forP (f__law_net_L1 x_debts) x_found ds).bind fun (s2 : D) => (E1 (o1 tupleD) (some s2))))
end
end DL
set_option autoImplicit false
set_option maxRecDepth 100000
set_option maxHeartbeats 4000000
namespace DL
open PySem PySem.Spec PySem.SeqAt PyProof.Rows L2
section
variable {α S : Type}
/-- a loop that leaves at the first of a kind -/
theorem forR_find {f : S → D → Option (Lp S)} {g : α → D} {s : S} {p : α → Bool} {h : α → D} : ∀ {xs : List α}, (∀ x ∈ xs, f s (g x) = some (if p x = true then .rt (h x) else .go s)) →
    forR f s (xs.map g) = some (match xs.find? p with | none => .nx s | some x => .ex (h x))
  | [], _ => rfl
  | x :: xs, H => by
    have e := H x List.mem_cons_self
    simp only [List.map_cons, forR, e, Option.bind_some, List.find?_cons]
    cases hp : p x with
    | true => simp
    | false =>
      simp only [Bool.false_eq_true, if_false]
      exact forR_find fun y hy => H y (List.mem_cons_of_mem _ hy)
/-- a loop that stops at the first of a kind -/
theorem forB_find {f : S → D → Option (Lp S)} {g : α → D} {s : S} {p : α → Bool} {h : α → S} : ∀ {xs : List α}, (∀ x ∈ xs, f s (g x) = some (if p x = true then .br (h x) else .go s)) →
    forB f s (xs.map g) = some (match xs.find? p with | none => s | some x => h x)
  | [], _ => rfl
  | x :: xs, H => by
    have e := H x List.mem_cons_self
    simp only [List.map_cons, forB, e, Option.bind_some, List.find?_cons]
    cases hp : p x with
    | true => simp
    | false =>
      simp only [Bool.false_eq_true, if_false]
      exact forB_find fun y hy => H y (List.mem_cons_of_mem _ hy)
end
theorem rg3_down {top : Int} (h : 0 ≤ top ∧ top ≤ 1000000000) : rg3D [.int top, .int (-1), .int (-1)] = some (((rangeI 0 (top + 1)).map fun k => top - k).map .int) := by
  have h1 : Builtin.Range.rangeSize top (-1) (-1) = top + 1 := by
    unfold Builtin.Range.rangeSize
    rw [if_neg (by omega), if_pos (by omega)]
    simp
  have h2 : rg3N top (-1) (-1) = (top + 1).toNat := by unfold rg3N; rw [h1]
  have h3 : Builtin.Range.small top (-1) (-1) = true := by
    unfold Builtin.Range.small
    rw [h1]
    simp [Builtin.Range.rangeFitsLong]
    omega
  simp only [rg3D]
  rw [if_pos ⟨by decide, by decide, h3, by rw [h1, h2]; omega⟩]
  congr 2
  unfold stepI rangeI
  rw [h2, List.map_map]
  simp only [Int.sub_zero]
  apply List.map_congr_left
  intro k _
  show top + (k : Int) * -1 = top - (0 + (k : Int))
  omega
theorem ixD_neg {ns : List Int} {i : Int} (h : i < 0 ∧ -(ns.length : Int) ≤ i) : ixD (.lst (ns.map .int)) (.int i) = some (.int (at0 ns (i + ns.length))) := by
  simp only [ixD]
  rw [atI_neg h.1 (by rw [List.length_map]; exact h.2), List.getElem?_map, List.length_map, at0_get (by omega)]; rfl
theorem ixD_negT {ns : List Int} {i : Int} (h : i < 0 ∧ -(ns.length : Int) ≤ i) : ixD (.tup (ns.map .int)) (.int i) = some (.int (at0 ns (i + ns.length))) := by
  simp only [ixD]
  rw [atI_neg h.1 (by rw [List.length_map]; exact h.2), List.getElem?_map, List.length_map, at0_get (by omega)]; rfl
end DL
set_option autoImplicit false
set_option maxRecDepth 100000
set_option maxHeartbeats 4000000
namespace DL
open PySem PySem.Spec PySem.SeqAt PyProof.Rows L2
/-! ### rows by their places -/
theorem at0_ext {xs ys : List Int} (hl : xs.length = ys.length) (h : ∀ i : Int, 0 ≤ i ∧ i < xs.length → at0 xs i = at0 ys i) : xs = ys := by
  apply List.ext_getElem hl
  intro i h1 h2
  have := h (i : Int) (by omega)
  have a1 := at0_get (ns := xs) (i := (i : Int)) (by omega)
  have a2 := at0_get (ns := ys) (i := (i : Int)) (by omega)
  rw [this] at a1
  rw [← a2] at a1
  simp only [Int.toNat_natCast, List.getElem?_eq_getElem h1, List.getElem?_eq_getElem h2] at a1
  exact Option.some.inj a1
theorem at0_map {n i : Int} {f : Int → Int} (h : 0 ≤ i ∧ i < n) : at0 ((rangeI 0 n).map f) i = f i := by
  have := at0_get (ns := (rangeI 0 n).map f) (i := i) (by rw [List.length_map, rangeI_len]; omega)
  rw [List.getElem?_map] at this
  simp only [rangeI, List.getElem?_map, List.getElem?_range (show i.toNat < (n - 0).toNat by omega), Option.map_some] at this
  have h2 := Option.some.inj this
  rw [show rangeI 0 n = (List.range (n - 0).toNat).map fun (i : Nat) => 0 + (i : Int) from rfl, ← h2]
  congr 1; omega
theorem setD_i {ws : List Int} {i d : Int} (h : 0 ≤ i ∧ i < ws.length) : setD (.lst (ws.map .int)) (.int i) (.int d) = some (.lst ((ws.set i.toNat d).map .int)) := by
  simp only [setD]
  rw [List.length_map]
  unfold ixN
  rw [if_pos h.1, if_pos h.2, List.map_set]
  rfl
theorem at0_set {ws : List Int} {i j d : Int} (h : 0 ≤ i ∧ i < ws.length) (hj : 0 ≤ j) : at0 (ws.set i.toNat d) j = if i = j then d else at0 ws j := by
  unfold at0
  by_cases e : i = j
  · subst e
    rw [if_pos rfl, List.getD_eq_getElem?_getD, List.getElem?_set_self (by omega)]; rfl
  · rw [if_neg e, List.getD_eq_getElem?_getD, List.getElem?_set_ne (by omega), List.getD_eq_getElem?_getD]
theorem repD_i {x n : Int} (h : 0 ≤ n ∧ n ≤ 1000000) : repD (.lst [.int x]) (.int n) = some (.lst ((List.replicate n.toNat x).map .int)) := by
  simp only [repD]
  rw [if_pos ⟨by omega, by omega, by simp; omega⟩]
  congr 2
  generalize n.toNat = n
  induction n with
  | zero => rfl
  | succ n ih => rw [List.replicate_succ, List.flatten_cons, ih]; rfl
theorem cut_take {α : Type} {xs : List α} {p : Int} (h : 0 ≤ p) : cutD xs none (some p) = xs.take p.toNat := by
  unfold cutD
  obtain ⟨k, rfl⟩ : ∃ k : Nat, p = k := ⟨p.toNat, by omega⟩
  rw [HT.sIx_none, HT.sIx_nat]
  simp
theorem cut_drop {α : Type} {xs : List α} {p : Int} (h : 0 ≤ p) : cutD xs (some p) none = xs.drop p.toNat := by
  unfold cutD
  obtain ⟨k, rfl⟩ : ∃ k : Nat, p = k := ⟨p.toNat, by omega⟩
  rw [HT.sIx_none, HT.sIx_nat]
  by_cases hk : k ≤ xs.length
  · rw [Nat.min_eq_left hk, List.take_of_length_le (by rw [List.length_drop]; omega)]; simp
  · rw [Nat.min_eq_right (by omega), List.drop_of_length_le (Nat.le_refl _), List.drop_of_length_le (by simp; omega)]; simp
theorem sum_append {xs ys : List Int} : (xs ++ ys).sum = xs.sum + ys.sum := List.sum_append
/-! ### debts -/
abbrev Debt := Int × Int × Int
def dD (d : Debt) : D := .tup [.int d.1, .int d.2.1, .int d.2.2]
def got (p : Int) (d : Debt) : Int := (if d.2.1 = p then d.2.2 else 0) - (if d.1 = p then d.2.2 else 0)
def net (ds : List Debt) (p : Int) : Int := (ds.map (got p)).sum
theorem net_append {xs ys : List Debt} {p : Int} : net (xs ++ ys) p = net xs p + net ys p := by unfold net; rw [List.map_append, List.sum_append]
def okDebts (n : Int) (ds : List Debt) : Prop := ∀ d ∈ ds, (0 ≤ d.1 ∧ d.1 < n) ∧ (0 ≤ d.2.1 ∧ d.2.1 < n)
theorem balances_eq {n : Int} {ds : List Debt} (hn : 0 ≤ n ∧ n ≤ 1000) (h : okDebts n ds) : f_balances_D (.int n) (.tup (ds.map dD)) = some (.tup (((rangeI 0 n).map (net ds)).map .int)) := by
  unfold f_balances_D
  have h0 : E2 repD ((aC (some (D.int 0)) (some [])).bind lstD) (some (.int n)) = some (.lst (((rangeI 0 n).map (net [])).map .int)) := by
    simp -implicitDefEqProofs only [aC_s, Option.bind_some]
    rw [lstD_i (by simp), E2_s, repD_i (by omega)]
    congr 3
    apply at0_ext
    · simp [rangeI_len]
    · intro i hi
      rw [List.length_replicate] at hi
      rw [at0_map (by omega)]
      unfold at0
      have : i.toNat < n.toNat := by omega
      simp [List.getD, this, net]
  refine bstep h0 ?_
  simp -implicitDefEqProofs only [Option.bind_some, seqD_t]
  obtain ⟨s', e, hs⟩ := forP_inv (f := fun s1 => un3 (f_balances_L1 s1)) (g := dD) (fun ys s => s = .lst (((rangeI 0 n).map (net ys)).map .int)) (xs := ds) (ys := []) (s := .lst (((rangeI 0 n).map (net [])).map .int)) rfl (by
    rintro zs d ws s e rfl
    have hd := h d (by rw [show ds = zs ++ d :: ws from e]; simp)
    refine ⟨_, ?_, rfl⟩
    unfold dD
    rw [un3_s]
    unfold f_balances_L1
    have hl : ((rangeI 0 n).map (net zs)).length = n.toNat := by rw [List.length_map, rangeI_len]; omega
    generalize hfs : (rangeI 0 n).map (net zs) = fs at *
    have s1 := setD_i (ws := fs) (i := d.1) (d := at0 fs d.1 - d.2.2) (by omega)
    have x1 := ixD_row (ns := fs) (i := d.1) (by omega)
    have x2 := ixD_row (ns := fs.set d.1.toNat (at0 fs d.1 - d.2.2)) (i := d.2.1) (by simp; omega)
    have s2 := setD_i (ws := fs.set d.1.toNat (at0 fs d.1 - d.2.2)) (i := d.2.1) (d := at0 (fs.set d.1.toNat (at0 fs d.1 - d.2.2)) d.2.1 + d.2.2) (by simp; omega)
    simp -implicitDefEqProofs only [augM, Option.bind_some, x1, subD_i, s1, x2, addI_i, s2]
    congr 2
    congr 1
    apply at0_ext
    · simp [hl, rangeI_len]
    · intro i hi
      simp at hi
      rw [at0_set (by simp; omega) (by omega), at0_map (by omega), net_append]
      rw [at0_set (by omega) (by omega), at0_set (by omega) (by omega)]
      have hz : ∀ j, 0 ≤ j ∧ j < n → at0 fs j = net zs j := fun j hj => by rw [← hfs]; exact at0_map hj
      rw [hz d.1 (by omega), hz d.2.1 (by omega), hz i (by omega)]
      show _ = net zs i + (([d] : List Debt).map (got i)).sum
      simp only [List.map_cons, List.map_nil, List.sum_cons, List.sum_nil, got]
      by_cases e1 : d.2.1 = i
      · subst e1
        by_cases e2 : d.1 = d.2.1
        · rw [if_pos rfl, if_pos e2, if_pos rfl, if_pos e2]
          rw [e2]; omega
        · rw [if_pos rfl, if_neg e2, if_pos rfl, if_neg e2]; omega
      · by_cases e2 : d.1 = i
        · rw [if_neg e1, if_pos e2, if_neg e1, if_pos e2, e2]; omega
        · rw [if_neg e1, if_neg e2, if_neg e1, if_neg e2]; omega)
  rw [e, hs]
  rfl
theorem dD_0 {d : Debt} : ixD (dD d) (.int 0) = some (.int d.1) := by unfold dD; rw [ixD_t (by omega)]; rfl
theorem dD_1 {d : Debt} : ixD (dD d) (.int 1) = some (.int d.2.1) := by unfold dD; rw [ixD_t (by omega)]; rfl
theorem dD_2 {d : Debt} : ixD (dD d) (.int 2) = some (.int d.2.2) := by unfold dD; rw [ixD_t (by omega)]; rfl
theorem net_filter (p : Int) : ∀ ds : List Debt, net ds p = ((ds.filter fun d => decide (d.2.1 = p)).map fun d => d.2.2).sum - ((ds.filter fun d => decide (d.1 = p)).map fun d => d.2.2).sum
  | [] => rfl
  | d :: ds => by
    have ih := net_filter p ds
    unfold net at ih ⊢
    rw [List.map_cons, List.sum_cons, ih]
    unfold got
    by_cases e1 : d.2.1 = p <;> by_cases e2 : d.1 = p <;> simp [e1, e2] <;> omega
theorem sum_map {α : Type} {xs : List α} {f : α → Int} : sumD [.lst (xs.map fun x => .int (f x))] = some (.int (xs.map f).sum) := by
  have := sumD_ns (ns := xs.map f)
  rw [List.map_map] at this
  exact this
theorem lnet_eq {n : Int} {ds : List Debt} (hn : 0 ≤ n ∧ n ≤ 1000) (hd : ds.length ≤ 1000000) : f__law_net_D (.int n) (.tup (ds.map dD)) = some (.tup (((rangeI 0 n).map (net ds)).map .int)) := by
  unfold f__law_net_D
  have hr : rg1D [D.int n] = some ((rangeI 0 n).map .int) := rg1_i (by omega)
  refine bstep (lstD_i (by simp)) ?_
  simp -implicitDefEqProofs only [aC_s, Option.bind_some, hr]
  obtain ⟨s', e, hs, hl⟩ := forP_inv (f := f__law_net_L1 (.tup (ds.map dD))) (g := D.int) (fun ys s => s = .lst ((ys.map (net ds)).map .int)) (xs := rangeI 0 n) (ys := []) (s := .lst []) rfl (by
    rintro zs p ws s e rfl
    have hz : zs.length + (ws.length + 1) = n.toNat := by
      have := congrArg List.length (show rangeI 0 n = zs ++ p :: ws from e)
      rw [rangeI_len] at this
      simpa using this.symm
    refine ⟨_, ?_, rfl⟩
    unfold f__law_net_L1
    have l1 : LC (some (ds.map dD)) (fun x_debt => ((E2 eqD (E2 ixD (some x_debt) (some (D.int 1))) (some (D.int p))).bind getB)) (fun x_debt => (E2 ixD (some x_debt) (some (D.int 2)))) = some (.lst ((ds.filter fun d => decide (d.2.1 = p)).map fun d => .int d.2.2)) :=
      LC_filter (p := fun d : Debt => decide (d.2.1 = p)) (fun d _ => by simp -implicitDefEqProofs [dD_1]) (fun d _ _ => by simp -implicitDefEqProofs [dD_2]) (by omega)
    have l2 : LC (some (ds.map dD)) (fun x_debt => ((E2 eqD (E2 ixD (some x_debt) (some (D.int 0))) (some (D.int p))).bind getB)) (fun x_debt => (E2 ixD (some x_debt) (some (D.int 2)))) = some (.lst ((ds.filter fun d => decide (d.1 = p)).map fun d => .int d.2.2)) :=
      LC_filter (p := fun d : Debt => decide (d.1 = p)) (fun d _ => by simp -implicitDefEqProofs [dD_0]) (fun d _ _ => by simp -implicitDefEqProofs [dD_2]) (by omega)
    simp -implicitDefEqProofs only [Option.bind_some, seqD_t, l1, l2]
    simp -implicitDefEqProofs only [Option.bind_some, E1_s, o1_s, sum_map, E2_s, subD_i]
    rw [appD_i (by simp; omega)]
    simp -implicitDefEqProofs [net_filter])
  rw [e]
  simp
theorem debts_spec {row : List Int} {i n m t : Int} (hi : 0 ≤ i ∧ i + 3 * m < row.length) (hn : 1 ≤ n ∧ n ≤ 1000) (hm : 0 ≤ m ∧ m ≤ 1000) (ht : 1 ≤ t ∧ t ≤ 1000000000) :
    ∃ ds : List Debt, f__law_debts_D (.lst (row.map .int)) (.int i) (.int n) (.int m) (.int t) = some (.tup (ds.map dD)) ∧ okDebts n ds ∧ (ds.length : Int) ≤ m ∧ ∀ d ∈ ds, d.1 ≠ d.2.1 ∧ 1 ≤ d.2.2 ∧ d.2.2 ≤ t := by
  have hb := emod_bd (at0 row i) (m + 1) (by omega)
  have hK : ∃ K : Int, E2 mulD (E2 modD (E1 (o1 intD) (E2 ixD (some (.lst (row.map .int))) (some (.int i)))) (E2 addD (some (.int m)) (some (D.int 1)))) (E1 (o1 intD) (E2 gtD (some (.int n)) (some (D.int 1)))) = some (.int K) ∧ 0 ≤ K ∧ K ≤ m ∧ (1 ≤ K → 1 < n) := by
    by_cases h : 1 < n
    · refine ⟨at0 row i % (m + 1), ?_, by omega, by omega, fun _ => h⟩
      simp -implicitDefEqProofs [ixD_row (ns := row) (i := i) (by omega), modD_i (show 0 < m + 1 by omega), h, mulD_r]
    · refine ⟨0, ?_, by omega, by omega, by omega⟩
      simp -implicitDefEqProofs [ixD_row (ns := row) (i := i) (by omega), modD_i (show 0 < m + 1 by omega), h, mulD_r]
  obtain ⟨K, hK1, hK2, hK3, hK4⟩ := hK
  have hr : rg1D [D.int K] = some ((rangeI 0 K).map .int) := rg1_i (by omega)
  obtain ⟨s', e, ds, hs, hl, h1, h2⟩ := forP_inv (f := f__law_debts_L1 (.lst (row.map .int)) (.int i) (.int n) (.int t)) (g := D.int)
    (fun ys s => ∃ ds : List Debt, s = .lst (ds.map dD) ∧ ds.length = ys.length ∧ okDebts n ds ∧ ∀ d ∈ ds, d.1 ≠ d.2.1 ∧ 1 ≤ d.2.2 ∧ d.2.2 ≤ t) (xs := rangeI 0 K) (ys := []) (s := .lst []) ⟨[], rfl, rfl, (fun d h => by cases h), fun d h => by cases h⟩ (by
    rintro zs k ws s e ⟨ds, rfl, hl, h1, h2⟩
    have hk : k ∈ rangeI 0 K := by rw [show rangeI 0 K = zs ++ k :: ws from e]; simp
    rw [rangeI_mem] at hk
    have hz : zs.length + (ws.length + 1) = K.toNat := by
      have := congrArg List.length (show rangeI 0 K = zs ++ k :: ws from e)
      rw [rangeI_len] at this
      simpa using this.symm
    have hn2 : 1 < n := hK4 (by omega)
    have c1 := emod_bd (at0 row (i + 1 + 3 * k)) n (by omega)
    have c2 := emod_bd (at0 row (i + 2 + 3 * k)) (n - 1) (by omega)
    have c3 := emod_bd (at0 row (i + 3 + 3 * k)) t (by omega)
    have hmx : max 1 (n - 1) = n - 1 := by omega
    have x1 := ixD_row (ns := row) (i := i + 1 + 3 * k) (by omega)
    have x2 := ixD_row (ns := row) (i := i + 2 + 3 * k) (by omega)
    have x3 := ixD_row (ns := row) (i := i + 3 + 3 * k) (by omega)
    refine ⟨.lst ((ds ++ [(at0 row (i + 1 + 3 * k) % n, (at0 row (i + 1 + 3 * k) % n + 1 + at0 row (i + 2 + 3 * k) % (n - 1)) % n, 1 + at0 row (i + 3 + 3 * k) % t)]).map dD), ?_, _, rfl, by simp [hl], ?_, ?_⟩
    · unfold f__law_debts_L1
      simp -implicitDefEqProofs only [E1_s, E2_s, o1_s, o2_s, addD_i, mulD_l (i := 3) (j := k) (by omega), x1, x2, x3, intD_i, modD_i (i := at0 row (i + 1 + 3 * k)) (show 0 < n by omega), Option.bind_some, subD_i, max2D_i, hmx,
        modD_i (i := at0 row (i + 2 + 3 * k)) (show 0 < n - 1 by omega), modD_i (i := at0 row (i + 1 + 3 * k) % n + 1 + at0 row (i + 2 + 3 * k) % (n - 1)) (show 0 < n by omega), modD_i (i := at0 row (i + 3 + 3 * k)) (show 0 < t by omega), aC_s]
      rw [tupD_i (by simp)]
      simp -implicitDefEqProofs only [Option.bind_some]
      rw [appD_i (by simp; omega)]
      simp [dD]
    · intro d hd
      rcases List.mem_append.mp hd with hd | hd
      · exact h1 d hd
      · simp at hd; subst hd
        exact ⟨c1, emod_bd _ n (by omega)⟩
    · intro d hd
      rcases List.mem_append.mp hd with hd | hd
      · exact h2 d hd
      · simp at hd; subst hd
        refine ⟨?_, by simp only; omega, by simp only; omega⟩
        simp only
        generalize at0 row (i + 1 + 3 * k) % n = w at *
        generalize at0 row (i + 2 + 3 * k) % (n - 1) = u at *
        intro he
        by_cases hlt : w + 1 + u < n
        · rw [Int.emod_eq_of_lt (by omega) hlt] at he; omega
        · have : (w + 1 + u) % n = w + 1 + u - n := by
            rw [← Int.sub_emod_right, Int.emod_eq_of_lt (by omega) (by omega)]
          omega)
  refine ⟨ds, ?_, h1, ?_, h2⟩
  · unfold f__law_debts_D
    rw [hK1]
    refine bstep (lstD_i (by simp)) ?_
    simp -implicitDefEqProofs only [aC_s, Option.bind_some, hr, e, hs, E1_s, o1_s, tupleD_l]
  · rw [hl, List.nil_append, rangeI_len]; omega
end DL
set_option autoImplicit false
set_option maxRecDepth 100000
set_option maxHeartbeats 4000000
namespace DL
open PySem PySem.Spec PySem.SeqAt PyProof.Rows L2
/-! ### worth -/
def worth (vs cs : List Int) : Int := ((vs.zip cs).map fun p => p.1 * p.2).sum
theorem zip_snoc {a b : Int} : ∀ (xs ys : List Int), xs.length = ys.length → (xs ++ [a]).zip (ys ++ [b]) = xs.zip ys ++ [(a, b)]
  | [], [], _ => rfl
  | [], _ :: _, h => by cases h
  | _ :: _, [], h => by cases h
  | x :: xs, y :: ys, h => by simp only [List.cons_append, List.zip_cons_cons]; rw [zip_snoc xs ys (by simpa using h)]
theorem worth_rev : ∀ (vs cs : List Int), vs.length = cs.length → worth vs.reverse cs.reverse = worth vs cs
  | [], [], _ => rfl
  | [], _ :: _, h => by cases h
  | _ :: _, [], h => by cases h
  | v :: vs, c :: cs, h => by
    have ih := worth_rev vs cs (by simpa using h)
    unfold worth at ih ⊢
    rw [List.reverse_cons, List.reverse_cons, zip_snoc _ _ (by simpa using h), List.map_append, List.sum_append, ih]
    simp [Int.add_comm]
def pD (p : Int × Int) : D := .tup [.int p.1, .int p.2]
theorem zip2_eq : ∀ (vs cs : List Int), zip2 (vs.map .int) (cs.map .int) = (vs.zip cs).map pD
  | [], _ => by simp [zip2]
  | _ :: _, [] => by simp [zip2]
  | v :: vs, c :: cs => by simp [zip2, zip2_eq vs cs, pD]
theorem sum_of_eq {vs cs : List Int} (hv : ∀ v ∈ vs, 1 ≤ v ∧ v ≤ 1000000) (hl : vs.length ≤ 1000) : f_sum_of_D (.tup (vs.map .int)) (.tup (cs.map .int)) = some (.int (worth vs cs)) := by
  unfold f_sum_of_D
  have hz : zipD [.tup (vs.map .int), .tup (cs.map .int)] = some ((vs.zip cs).map pD) := by simp only [zipD]; rw [zip2_eq]
  have hlc := LC_filter (nt := un2 (fun x_value x_count => (some true))) (f := un2 (fun x_value x_count => (E2 mulD (some x_value) (some x_count)))) (g := pD) (h := fun p => .int (p.1 * p.2)) (p := fun _ => true) (xs := vs.zip cs) (fun p _ => rfl) (fun p hp _ => by
    have := hv p.1 (List.of_mem_zip hp).1
    show mulD (.int p.1) (.int p.2) = _
    exact mulD_l (by omega)) (by rw [List.length_zip]; omega)
  rw [List.filter_eq_self.mpr (fun _ _ => rfl)] at hlc
  simp -implicitDefEqProofs only [aC_s, Option.bind_some, hz, hlc, E1_s, o1_s, sum_map]
  rfl
theorem lworth_eq {vs cs : List Int} (hv : ∀ v ∈ vs, 1 ≤ v ∧ v ≤ 1000000) (hvl : vs.length ≤ 900) (hl : cs.length = vs.length) : f__law_worth_D (.tup (vs.map .int)) (.tup (cs.map .int)) = some (.int (worth vs cs)) := by
  have hr : rg1D [D.int vs.length] = some ((rangeI 0 vs.length).map .int) := rg1_i (by omega)
  have hlc := LC_map (f := fun x_k => (E2 mulD (E2 ixD (some (.tup (vs.map .int))) (some x_k)) (E2 ixD (some (.tup (cs.map .int))) (some x_k)))) (g := D.int) (h := fun k => .int (at0 vs k * at0 cs k)) (xs := rangeI 0 vs.length) (fun k hk => by
    rw [rangeI_mem] at hk
    have h1 := ixD_rowT (ns := vs) (i := k) hk
    have h2 := ixD_rowT (ns := cs) (i := k) (by omega)
    have h3 := hv _ (at0_mem (ns := vs) (i := k) hk)
    simp -implicitDefEqProofs only [E2_s, h1, h2]
    exact mulD_l (by omega)) (by rw [rangeI_len]; omega)
  unfold f__law_worth_D
  simp -implicitDefEqProofs only [E1_s, o1_s, lenD_t, List.length_map, aC_s, Option.bind_some, hr, hlc, sum_map]
  refine congrArg (fun z => some (D.int z)) ?_
  unfold worth
  refine congrArg List.sum ?_
  apply List.ext_getElem?
  intro k
  rw [List.getElem?_map, List.getElem?_map]
  unfold rangeI
  rw [List.getElem?_map]
  by_cases hk : k < vs.length
  · rw [List.getElem?_range (by omega), List.getElem?_eq_getElem (by rw [List.length_zip]; omega)]
    have h1 := at0_get (ns := vs) (i := (k : Int)) (by omega)
    have h2 := at0_get (ns := cs) (i := (k : Int)) (by omega)
    rw [Int.toNat_natCast, List.getElem?_eq_getElem (by omega)] at h1 h2
    simp [← Option.some.inj h1, ← Option.some.inj h2]
  · rw [List.getElem?_eq_none (by simp; omega), List.getElem?_eq_none (by rw [List.length_zip]; omega)]
    rfl
end DL
set_option autoImplicit false
set_option maxRecDepth 100000
set_option maxHeartbeats 4000000
namespace DL
open PySem PySem.Spec PySem.SeqAt PyProof.Rows L2
namespace k00
/-- the kinds that isinstance is asked of -/
def plD : D → Bool
  | .rg _ _ => false
  | .dT _ => false
  | _ => true
def okV (v : D) : Prop := plD v = true ∧ ∀ ds, v = .tup ds → ds.length ≤ 1000 ∧ ∀ d ∈ ds, plD d = true
theorem isi_pl {f : D → Bool} {p : D} (h : plD p = true) : isiG f p = some (.bl (f p)) := by
  cases p <;> first | rfl | (cases h; done)
theorem okV_t {ds : List D} (h : ds.length ≤ 1000) (h2 : ∀ d ∈ ds, plD d = true) : okV (.tup ds) := ⟨rfl, fun es e => by cases e; exact ⟨h, h2⟩⟩
theorem okV_n {v : D} (h : plD v = true) (h2 : isTupD v = false) : okV v := ⟨h, fun es e => by subst e; cases h2⟩
def isT : Option D → Bool
  | some (.bl b) => b
  | _ => false
theorem blq {α : Type} (p : α → Bool) (xs : List α) : (xs.map fun x => D.bl (p x)) = (xs.map p).map D.bl := by rw [List.map_map]; rfl
theorem all_q {f : D → Option D} {ds : List D} (H : ∀ d ∈ ds, ∃ b, f d = some (.bl b)) (hl : ds.length ≤ 1000) : E1 (o1 allD) (LC (some ds) (fun _ => some true) f) = some (.bl (ds.all fun d => isT (f d))) := by
  have h := LC_map (f := f) (g := id) (h := fun d => .bl (isT (f d))) (xs := ds) (fun d hd => by obtain ⟨b, e⟩ := H d hd; show f d = _; rw [e]; rfl) (by omega)
  rw [List.map_id] at h
  rw [h, blq, E1_s, o1_s, allD_bs, List.all_map]; rfl
theorem num_i {i a b : Int} : f_is_number_D (.int i) (.int a) (.int b) = some (.bl (decide (a ≤ i ∧ i ≤ b))) := by
  by_cases h1 : i < a
  · simp -implicitDefEqProofs [f_is_number_D, isIntD, isBlD, isiG, h1, show ¬ a ≤ i by omega]
  · simp -implicitDefEqProofs [f_is_number_D, isIntD, isBlD, isiG, h1, show a ≤ i by omega]
theorem ch_i {a b c : Int} : chD leD leD (some (.int a)) (some (.int b)) (some (.int c)) = some (.bl (decide (a ≤ b ∧ b ≤ c))) := by
  by_cases h : a ≤ b
  · simp -implicitDefEqProofs [chD, h]
  · simp -implicitDefEqProofs [chD, h]
theorem SL_hd {ds : List D} {p : Int} (h : 0 ≤ p) : SL (some (.tup ds)) (some none) (((some (D.int p)).bind getI).map some) = some (.tup (ds.take p.toNat)) := by
  simp -implicitDefEqProofs only [Option.bind_some, getI_i, Option.map_some, SL, slD, cut_take h]
theorem SL_tl {ds : List D} {p : Int} (h : 0 ≤ p) : SL (some (.tup ds)) (((some (D.int p)).bind getI).map some) (some none) = some (.tup (ds.drop p.toNat)) := by
  simp -implicitDefEqProofs only [Option.bind_some, getI_i, Option.map_some, SL, slD, cut_drop h]
theorem SL_ng {ds : List D} : SL (some (.tup ds)) (some none) (((E1 negD (some (D.int 1))).bind getI).map some) = some (.tup (cutD ds none (some (-1)))) := rfl
theorem cut_mem {ds : List D} {lo hi : Option Int} {d : D} (h : d ∈ cutD ds lo hi) : d ∈ ds := by
  unfold cutD at h
  exact List.mem_of_mem_drop (List.mem_of_mem_take h)
theorem cut_le {ds : List D} {lo hi : Option Int} : (cutD ds lo hi).length ≤ ds.length := by
  unfold cutD
  rw [List.length_take, List.length_drop]; omega
theorem add_t {xs ys : List D} (h : xs.length + ys.length ≤ 2000) : E2 addD (some (D.tup xs)) (some (D.tup ys)) = some (.tup (xs ++ ys)) := by
  rw [E2_s]
  simp only [addD]
  rw [if_pos (by omega)]
theorem tup1 {x : D} : (aC (some x) (some [])).bind tupD = some (.tup [x]) := by
  rw [aC_s, Option.bind_some, tupD_i (by simp)]
theorem lst1 {x : D} : (aC (some x) (some [])).bind lstD = some (.lst [x]) := by
  rw [aC_s, Option.bind_some, lstD_i (by simp)]
theorem lt_c {a b : Int} : ((E2 ltD (some (D.int a)) (some (D.int b))).bind getB) = some (decide (a < b)) := by rw [E2_s, ltD_i]; rfl
theorem eq_c {a b : Int} : ((E2 eqD (some (D.int a)) (some (D.int b))).bind getB) = some (decide (a = b)) := by rw [E2_s, eqD_i]; rfl
theorem list_t {ds : List D} : E1 (o1 listD) (some (D.tup ds)) = some (.lst ds) := rfl
theorem seq_t {ds : List D} : (some (D.tup ds)).bind seqD = some ds := rfl
theorem isi_t' {ds : List D} : E1 (isiG isTupD) (some (D.tup ds)) = some (.bl true) := rfl
theorem len_t {ds : List D} : E1 (o1 lenD) (some (D.tup ds)) = some (.int ds.length) := rfl
/-! ### the two checks -/
def ascB (ns : List Int) : Bool := (ns.zip (ns.drop 1)).all fun p => decide (p.1 < p.2)
def lpart (x_part : D) : Option D := (andV (E1 f__law_is_int_D (some x_part)) (chD leD leD (some (D.int 1)) (some x_part) (some (D.int 60))))
def npart (x_part : D) : Option D := (E3 f_is_number_D (some x_part) (some (D.int 1)) (some (D.int 60)))
theorem part_eq {p : D} (h : plD p = true) : ∃ b, lpart p = some (.bl b) ∧ npart p = some (.bl b) ∧ (b = true → ∃ i, p = .int i) := by
  unfold lpart npart
  cases p with
  | int i =>
    refine ⟨decide (1 ≤ i ∧ i ≤ 60), ?_, ?_, fun _ => ⟨i, rfl⟩⟩
    · have : f__law_is_int_D (.int i) = some (.bl true) := by simp -implicitDefEqProofs [f__law_is_int_D, isIntD, isBlD]
      rw [E1_s, this, ch_i]; rfl
    · rw [E3_s, num_i]
  | rg _ _ => cases h
  | dT _ => cases h
  | _ => exact ⟨false, by simp -implicitDefEqProofs [f__law_is_int_D, isIntD, isBlD, isiG], by simp -implicitDefEqProofs [f_is_number_D, isIntD, isBlD, isiG], fun z => nomatch z⟩
theorem ints_of : ∀ {ds : List D}, (∀ d ∈ ds, ∃ i, d = D.int i) → ∃ ns : List Int, ds = ns.map .int
  | [], _ => ⟨[], rfl⟩
  | d :: ds, h => by
    obtain ⟨i, rfl⟩ := h d (by simp)
    obtain ⟨ns, rfl⟩ := ints_of fun x hx => h x (List.mem_cons_of_mem _ hx)
    exact ⟨i :: ns, rfl⟩
theorem asc_places {ns : List Int} : ascB ns = (rangeI 0 ((ns.length : Int) - 1)).all fun k => decide (at0 ns k < at0 ns (k + 1)) := by
  unfold ascB
  rw [Bool.eq_iff_iff, List.all_eq_true, List.all_eq_true]
  constructor
  · intro h k hk
    rw [rangeI_mem] at hk
    have g1 := at0_get (ns := ns) (i := k) (by omega)
    have g2 := at0_get (ns := ns) (i := k + 1) (by omega)
    have hm : (at0 ns k, at0 ns (k + 1)) ∈ ns.zip (ns.drop 1) := by
      refine List.mem_of_getElem? (i := k.toNat) ?_
      rw [List.getElem?_zip_eq_some]
      refine ⟨g1, ?_⟩
      rw [List.getElem?_drop, show 1 + k.toNat = (k + 1).toNat by omega]
      exact g2
    exact h _ hm
  · intro h q hq
    obtain ⟨i, hi⟩ := List.getElem?_of_mem hq
    rw [List.getElem?_zip_eq_some, List.getElem?_drop] at hi
    have hlt : 1 + i < ns.length := (List.getElem?_eq_some_iff.mp hi.2).1
    have := h (i : Int) (by rw [rangeI_mem]; omega)
    have g1 := at0_get (ns := ns) (i := (i : Int)) (by omega)
    have g2 := at0_get (ns := ns) (i := (i : Int) + 1) (by omega)
    rw [Int.toNat_natCast, hi.1] at g1
    rw [show ((i : Int) + 1).toNat = 1 + i by omega, hi.2] at g2
    rw [← Option.some.inj g1, ← Option.some.inj g2] at this
    exact this
theorem lasc_q {ns : List Int} (hl : ns.length ≤ 1000) : f__law_rises_D (.tup (ns.map .int)) = some (.bl (ascB ns)) := by
  have hr : rg1D [D.int ((ns.length : Int) - 1)] = some ((rangeI 0 ((ns.length : Int) - 1)).map .int) := rg1_i (by omega)
  have hlc := LC_map (f := fun x_k => (E2 ltD (E2 ixD (some (.tup (ns.map .int))) (some x_k)) (E2 ixD (some (.tup (ns.map .int))) (E2 addD (some x_k) (some (D.int 1)))))) (g := D.int) (h := fun k => .bl (decide (at0 ns k < at0 ns (k + 1)))) (xs := rangeI 0 ((ns.length : Int) - 1)) (fun k hk => by
    rw [rangeI_mem] at hk
    have h1 := ixD_rowT (ns := ns) (i := k) (by omega)
    have h2 := ixD_rowT (ns := ns) (i := k + 1) (by omega)
    rw [E2_s, h1, E2_s, addD_i, E2_s, h2, E2_s, ltD_i]) (by rw [rangeI_len]; omega)
  unfold f__law_rises_D
  rw [len_t, List.length_map, E2_s, subD_i, aC_s, Option.bind_some, hr, hlc, blq, E1_s, o1_s, allD_bs, asc_places, List.all_map]
  rfl
theorem asc_q {ns : List Int} (hl : ns.length ≤ 1000) : (E1 (o1 allD) (LC ((aC (some (.tup (ns.map .int))) (aC (SL (some (.tup (ns.map .int))) (((some (D.int 1)).bind getI).map some) (some none)) (some []))).bind H.zipTD) (un2 (fun x_less x_more => (some true))) (un2 (fun x_less x_more => (E2 ltD (some x_less) (some x_more)))))) = some (.bl (ascB ns)) := by
  have hz : H.zipTD [.tup (ns.map .int), .tup ((ns.map .int).drop 1)] = some ((ns.zip (ns.drop 1)).map pD) := by
    simp only [H.zipTD]; rw [← List.map_drop, zip2_eq]
  have hlc := LC_filter (nt := un2 (fun x_less x_more => (some true))) (f := un2 (fun x_less x_more => (E2 ltD (some x_less) (some x_more)))) (g := pD) (h := fun p => D.bl (decide (p.1 < p.2))) (p := fun _ => true) (xs := ns.zip (ns.drop 1)) (fun p _ => rfl) (fun p hp _ => by
    unfold pD
    rw [un2_s, E2_s, ltD_i]) (by rw [List.length_zip]; omega)
  rw [List.filter_eq_self.mpr (fun _ _ => rfl)] at hlc
  rw [SL_tl (by omega), show (1 : Int).toNat = 1 from rfl, aC_s, aC_s, Option.bind_some, hz, hlc, blq, E1_s, o1_s, allD_bs, List.all_map]
  rfl
theorem same {v : D} (h : okV v) : ∃ t, f__law_is_coinage_D v = some (.bl t) ∧ f_is_coinage_H v (.int 8) = some (.bl t) := by
  by_cases ht : isTupD v = true
  · have : ∃ ds, v = .tup ds := by cases v <;> first | exact ⟨_, rfl⟩ | cases ht
    obtain ⟨ds, rfl⟩ := this
    obtain ⟨hl, hp⟩ := h.2 ds rfl
    have hL : E1 (o1 allD) (LC (some ds) (fun _ => some true) lpart) = some (.bl (ds.all fun d => isT (lpart d))) := all_q (fun d hd => by obtain ⟨b, e, _⟩ := part_eq (hp d hd); exact ⟨b, e⟩) hl
    have hN : E1 (o1 allD) (LC (some ds) (fun _ => some true) npart) = some (.bl (ds.all fun d => isT (npart d))) := all_q (fun d hd => by obtain ⟨b, _, e, _⟩ := part_eq (hp d hd); exact ⟨b, e⟩) hl
    have hQ : (ds.all fun d => isT (npart d)) = ds.all fun d => isT (lpart d) := by
      rw [Bool.eq_iff_iff, List.all_eq_true, List.all_eq_true]
      constructor
      · intro h d hd
        obtain ⟨b, e1, e2, _⟩ := part_eq (hp d hd)
        have := h d hd
        rw [e2] at this
        rw [e1]; exact this
      · intro h d hd
        obtain ⟨b, e1, e2, _⟩ := part_eq (hp d hd)
        have := h d hd
        rw [e1] at this
        rw [e2]; exact this
    have hI : (ds.all fun d => isT (lpart d)) = true → ∃ ns : List Int, ds = ns.map .int := fun h => ints_of fun d hd => by
      obtain ⟨b, e1, e2, e3⟩ := part_eq (hp d hd)
      have := List.all_eq_true.mp h d hd
      rw [e1] at this
      exact e3 this
    rw [hQ] at hN
    have eL : f__law_is_coinage_D (.tup ds) = (iteO (orT (notT ((E1 (isiG isTupD) (some (.tup ds))).bind truD)) (notT ((chD leD leD (some (D.int 1)) (E1 (o1 lenD) (some (.tup ds))) (some (D.int 8))).bind getB))) (some (D.bl false)) (iteO (notT ((E1 (o1 allD) (LC ((some (.tup ds)).bind seqD) (fun x_part => (some true)) lpart)).bind truD)) (some (D.bl false)) (E1 f__law_rises_D (some (.tup ds))))) := rfl
    have eN : f_is_coinage_H (.tup ds) (.int 8) = (iteO (orT (notT ((E1 (isiG isTupD) (some (.tup ds))).bind truD)) (notT ((chD leD leD (some (D.int 1)) (E1 (o1 lenD) (some (.tup ds))) (some (D.int 8))).bind getB))) (some (D.bl false)) (iteO (notT ((E1 (o1 allD) (LC ((some (.tup ds)).bind seqD) (fun x_part => (some true)) npart)).bind truD)) (some (D.bl false)) (E1 (o1 allD) (LC ((aC (some (.tup ds)) (aC (SL (some (.tup ds)) (((some (D.int 1)).bind getI).map some) (some none)) (some []))).bind H.zipTD) (un2 (fun x_less x_more => (some true))) (un2 (fun x_less x_more => (E2 ltD (some x_less) (some x_more)))))))) := rfl
    rw [eL, eN, isi_t', len_t, ch_i, seq_t, hL, hN]
    generalize (ds.all fun d => isT (lpart d)) = A at *
    by_cases hl8 : 1 ≤ (ds.length : Int) ∧ (ds.length : Int) ≤ 8
    · rw [decide_eq_true hl8]
      cases A with
      | false => exact ⟨false, rfl, rfl⟩
      | true =>
        obtain ⟨ns, rfl⟩ := hI rfl
        rw [List.length_map] at hl
        refine ⟨ascB ns, ?_, ?_⟩
        · rw [E1_s, lasc_q hl]; rfl
        · rw [asc_q hl]; rfl
    · rw [decide_eq_false hl8]
      exact ⟨false, rfl, rfl⟩
  · have hf : isTupD v = false := by simpa using ht
    have hi : E1 (isiG isTupD) (some v) = some (.bl false) := by rw [E1_s, isi_pl h.1, hf]
    refine ⟨false, ?_, ?_⟩
    · unfold f__law_is_coinage_D
      rw [hi]; rfl
    · unfold f_is_coinage_H
      rw [hi]; rfl
theorem right_ok {v : D} (h : okV v) : f__law_right_D v = some (.bl true) := by
  obtain ⟨t, e1, e2⟩ := same h
  unfold f__law_right_D f_check_coinage_H
  rw [E1_s, e1, Option.bind_some, E2_s, e2]
  cases t <;> rfl
/-! ### what is drawn -/
theorem bsY {α β : Type} {m : Option α} {x : α} {f : α → Option β} {P : β → Prop} (e : m = some x) (h : ∃ y, f x = some y ∧ P y) : ∃ y, m.bind f = some y ∧ P y := by
  subst e; exact h
theorem str_i {v : Int} (h : 1 ≤ v ∧ v ≤ 60) : ∃ s, strD [D.int v] = some (.str s) := by
  refine ⟨Str.ofString (toString v), ?_⟩
  show (if v.natAbs.log2 < 1920 then some (D.str (Str.ofString (toString v))) else none) = _
  rw [if_pos ?_]
  have h1 : v.natAbs < 2 ^ 6 := by omega
  have : v.natAbs.log2 < 6 := (Nat.log2_lt (by omega)).mpr h1
  omega
theorem part_ok {v k : Int} (h : 1 ≤ v ∧ v ≤ 60) : ∃ x, f__law_part_k00_D (.int k) (.int v) = some x ∧ plD x = true := by
  unfold f__law_part_k00_D
  rw [eq_c, eq_c, eq_c, eq_c, eq_c, iteO_s, iteO_s, iteO_s, iteO_s, iteO_s, tup1, lst1]
  obtain ⟨s, es⟩ := str_i h
  split
  · exact ⟨_, rfl, rfl⟩
  split
  · exact ⟨_, rfl, rfl⟩
  split
  · exact ⟨_, rfl, rfl⟩
  split
  · exact ⟨_, by rw [E1_s]; exact es, rfl⟩
  split
  · exact ⟨_, rfl, rfl⟩
  · exact ⟨_, rfl, rfl⟩
theorem placed_ok {ds : List D} {p : Int} {x : D} (hp : 0 ≤ p) (hl : ds.length ≤ 100) (hd : ∀ d ∈ ds, plD d = true) (hx : plD x = true) : ∃ y, f__law_placed_D (.tup ds) (.int p) x = some y ∧ okV y := by
  have h1 : ((E2 addD (some (D.int p)) (some (D.int 1))).bind getI).map some = ((some (D.int (p + 1))).bind getI).map some := rfl
  unfold f__law_placed_D
  rw [h1, SL_hd hp, SL_tl (by omega), tup1, add_t (by rw [List.length_take]; simp; omega), add_t (by rw [List.length_append, List.length_take, List.length_drop]; simp; omega)]
  refine ⟨_, rfl, okV_t (by rw [List.length_append, List.length_append, List.length_take, List.length_drop]; simp; omega) fun d h => ?_⟩
  rw [List.mem_append, List.mem_append] at h
  rcases h with (h | h) | h
  · exact hd d (List.mem_of_mem_take h)
  · rw [List.mem_singleton] at h; rw [h]; exact hx
  · exact hd d (List.mem_of_mem_drop h)
theorem add_ok {xs ys : List D} (hx : xs.length ≤ 100) (hy : ys.length ≤ 100) (h1 : ∀ d ∈ xs, plD d = true) (h2 : ∀ d ∈ ys, plD d = true) : ∃ z, E2 addD (some (D.tup xs)) (some (D.tup ys)) = some z ∧ okV z :=
  ⟨_, add_t (by omega), okV_t (by rw [List.length_append]; omega) fun d h => (List.mem_append.mp h).elim (h1 d) (h2 d)⟩
theorem one_pl {x : D} (h : plD x = true) : ∀ d ∈ [x], plD d = true := fun d hd => by
  rw [List.mem_singleton] at hd; rw [hd]; exact h
theorem ints_pl {ns : List Int} : ∀ d ∈ ns.map D.int, plD d = true := fun d hd => by
  obtain ⟨i, _, rfl⟩ := List.mem_map.mp hd; rfl
section
variable {vs row : List Int} {a : Int}
theorem spoiled_ok (h : Coins vs 8 60) (hi : 0 ≤ a ∧ a + 4 ≤ row.length) : ∃ x, f__law_spoiled_D (.tup (vs.map .int)) (.lst (row.map .int)) (.int a) = some x ∧ okV x := by
  have hne := List.length_pos_iff.mpr h.ne
  have hlen := h.len
  have i0 := ixD_row (ns := row) (i := a) (by omega)
  have i1 := ixD_row (ns := row) (i := a + 1) (by omega)
  have i2 := ixD_row (ns := row) (i := a + 2) (by omega)
  have i3 := ixD_row (ns := row) (i := a + 3) (by omega)
  have bp := emod_bd (at0 row (a + 1)) (vs.length : Int) (by omega)
  have bm := emod_bd (at0 row (a + 2)) 500 (by omega)
  unfold f__law_spoiled_D
  refine bsY (x := .int (at0 row a % 22)) (by rw [E2_s, i0, E1_s, o1_s, intD_i, E2_s, modD_i (by omega)]) ?_
  refine bsY (x := .int (at0 row (a + 1) % (vs.length : Int))) (by rw [E2_s, addD_i, E2_s, i1, E1_s, o1_s, intD_i, len_t, List.length_map, E2_s, modD_i (by omega)]) ?_
  refine bsY (x := .int (at0 row (a + 2) % 500)) (by rw [E2_s, addD_i, E2_s, i2, E1_s, o1_s, intD_i, E2_s, modD_i (by omega)]) ?_
  generalize at0 row a % 22 = kd
  generalize at0 row (a + 1) % (vs.length : Int) = p at *
  generalize at0 row (a + 2) % 500 = m at *
  have hvp := ixD_rowT (ns := vs) (i := p) (by omega)
  have hv0 := ixD_rowT (ns := vs) (i := 0) (by omega)
  have hbp := h.bd _ (at0_mem (ns := vs) (i := p) (by omega))
  have hml : (vs.map D.int).length ≤ 100 := by rw [List.length_map]; omega
  have hdl : ∀ n, ((vs.map D.int).drop n).length ≤ 100 := fun n => by rw [List.length_drop]; omega
  have htl : ∀ n, ((vs.map D.int).take n).length ≤ 100 := fun n => by rw [List.length_take]; omega
  have hdm : ∀ n, ∀ d ∈ (vs.map D.int).drop n, plD d = true := fun n d hd => ints_pl d (List.mem_of_mem_drop hd)
  have htm : ∀ n, ∀ d ∈ (vs.map D.int).take n, plD d = true := fun n d hd => ints_pl d (List.mem_of_mem_take hd)
  have hcl : (cutD (vs.map D.int) none (some (-1))).length ≤ 100 := Nat.le_trans cut_le hml
  have hcm : ∀ d ∈ cutD (vs.map D.int) none (some (-1)), plD d = true := fun d hd => ints_pl d (cut_mem hd)
  have ep1 : ((E2 addD (some (D.int p)) (some (D.int 1))).bind getI).map some = ((some (D.int (p + 1))).bind getI).map some := rfl
  rw [lt_c, iteO_s]
  split
  · obtain ⟨x, ex, hx⟩ := part_ok (k := kd) hbp
    rw [E2_s, hvp, E2_s, ex, E3_s]
    exact placed_ok (by omega) hml ints_pl hx
  rw [eq_c, iteO_s]
  split
  · rw [tup1, SL_tl (by omega)]; exact add_ok (by simp) (hdl _) (one_pl rfl) (hdm _)
  rw [eq_c, iteO_s]
  split
  · rw [tup1, SL_tl (by omega)]; exact add_ok (by simp) (hdl _) (one_pl rfl) (hdm _)
  rw [eq_c, iteO_s]
  split
  · rw [E2_s, hv0, E1_s, negD_i, E2_s, subD_i, tup1, SL_tl (by omega)]; exact add_ok (by simp) (hdl _) (one_pl rfl) (hdm _)
  rw [eq_c, iteO_s]
  split
  · rw [tup1, SL_ng]; exact add_ok hcl (by simp) hcm (one_pl rfl)
  rw [eq_c, iteO_s]
  split
  · rw [E2_s, addD_i, tup1, SL_ng]; exact add_ok hcl (by simp) hcm (one_pl rfl)
  rw [eq_c, iteO_s]
  split
  · rw [E2_s, powD_i (by omega) (by omega), E2_s, addD_i, E3_s]
    exact placed_ok (by omega) hml ints_pl rfl
  rw [eq_c, iteO_s]
  split
  · rw [ep1, SL_hd (by omega), SL_tl (by omega)]; exact add_ok (htl _) (hdl _) (htm _) (hdm _)
  rw [eq_c, iteO_s]
  split
  · have hq : ((E1 (o1 intD) (E2 eqD (some (D.int p)) (some (D.int 0)))).bind getI).map some = ((some (D.int (if decide (p = 0) = true then 1 else 0))).bind getI).map some := by
      rw [E2_s, eqD_i, E1_s, o1_s, intD_b]
    rw [hq, SL_hd (p := p) (by omega), SL_hd (p := if decide (p = 0) = true then 1 else 0) (by split <;> omega), SL_tl (by omega), add_t (by have := hdl p.toNat; have := htl p.toNat; omega)]
    refine add_ok ?_ (htl _) (fun d hd => (List.mem_append.mp hd).elim (hdm _ d) (htm _ d)) (htm _)
    rw [List.length_append, List.length_drop, List.length_take, List.length_map]; omega
  rw [lt_c, iteO_s]
  split
  · have hr : ((aC (some (D.int 9)) (some [])).bind rg1D) = some ((rangeI 0 9).map .int) := by rw [aC_s, Option.bind_some]; exact rg1_i (by omega)
    have hlc := LC_ints (f := fun x_k => (E2 addD (E2 addD (some (D.int 1)) (E2 modD (some (.int m)) (some (D.int 10)))) (E2 mulD (E2 addD (some (D.int 1)) (E2 modD (E2 fdivD (some (.int m)) (some (D.int 10))) (some (D.int 6)))) (some x_k)))) (h := fun k => 1 + m % 10 + (1 + m / 10 % 6) * k) (xs := rangeI 0 9) (fun k hk => by
      have b6 := emod_bd (m / 10) 6 (by omega)
      rw [E2_s, modD_i (by omega), E2_s, addD_i, E2_s, fdivD_i (by omega) (by omega), E2_s, modD_i (by omega), E2_s, addD_i, E2_s, mulD_l (by omega), E2_s, addD_i]) (by rw [rangeI_len]; omega)
    rw [hr, hlc, E1_s, o1_s, tupleD_l]
    exact ⟨_, rfl, okV_t (by rw [List.length_map, List.length_map, rangeI_len]; omega) ints_pl⟩
  rw [eq_c, iteO_s]
  split
  · exact ⟨.tup [], rfl, okV_t (by simp) (fun d hd => nomatch hd)⟩
  rw [eq_c, iteO_s]
  split
  · rw [tup1]; exact ⟨_, rfl, okV_t (by simp) (one_pl rfl)⟩
  rw [eq_c, iteO_s]
  split
  · have hz : ((some ([] : List D)).bind lstD) = some (.lst []) := rfl
    rw [hz, tup1]; exact add_ok hml (by simp) ints_pl (one_pl rfl)
  · have hz : ((some ([] : List D)).bind lstD) = some (.lst []) := rfl
    have b6 := emod_bd (at0 row (a + 3)) 6 (by omega)
    rw [E2_s, hv0, hz, aC_s, aC_s, aC_s, aC_s, aC_s, aC_s, Option.bind_some, lstD_i (by simp), E2_s, addD_i, E2_s, i3, E1_s, o1_s, intD_i, E2_s, modD_i (by omega), E2_s]
    generalize at0 row (a + 3) % 6 = j at *
    have : j = 0 ∨ j = 1 ∨ j = 2 ∨ j = 3 ∨ j = 4 ∨ j = 5 := by omega
    rcases this with rfl | rfl | rfl | rfl | rfl | rfl <;> exact ⟨_, rfl, okV_n rfl rfl⟩
theorem edge_ok (hi : 0 ≤ a ∧ a + 2 ≤ row.length) : ∃ x, f__law_edge_D (.lst (row.map .int)) (.int a) = some x ∧ okV x := by
  have i0 := ixD_row (ns := row) (i := a) (by omega)
  have i1 := ixD_row (ns := row) (i := a + 1) (by omega)
  have b1 := emod_bd (at0 row (a + 1)) 8 (by omega)
  unfold f__law_edge_D
  refine bsY (x := .int (at0 row a % 4)) (by rw [E2_s, i0, E1_s, o1_s, intD_i, E2_s, modD_i (by omega)]) ?_
  refine bsY (x := .int (1 + at0 row (a + 1) % 8)) (by rw [E2_s, addD_i, E2_s, i1, E1_s, o1_s, intD_i, E2_s, modD_i (by omega), E2_s, addD_i]) ?_
  generalize at0 row a % 4 = kd
  generalize at0 row (a + 1) % 8 = m at *
  rw [eq_c, iteO_s]
  split
  · rw [tup1]; exact ⟨_, rfl, okV_t (by simp) (one_pl rfl)⟩
  rw [eq_c, iteO_s]
  split
  · rw [tup1]; exact ⟨_, rfl, okV_t (by simp) (one_pl rfl)⟩
  · have hr : ((aC (some (D.int 8)) (some [])).bind rg1D) = some ((rangeI 0 8).map .int) := by rw [aC_s, Option.bind_some]; exact rg1_i (by omega)
    have hlc := LC_ints (f := fun x_k => (E2 subD (some (D.int 60)) (E2 mulD (some (.int (1 + m))) (E2 subD (some (D.int 7)) (some x_k))))) (h := fun k => 60 - (1 + m) * (7 - k)) (xs := rangeI 0 8) (fun k hk => by
      rw [E2_s, subD_i, E2_s, mulD_l (by omega), E2_s, subD_i]) (by rw [rangeI_len]; omega)
    rw [hr, hlc, E1_s, o1_s, tupleD_l]
    exact ⟨_, rfl, okV_t (by rw [List.length_map, List.length_map, rangeI_len]; omega) ints_pl⟩
end
theorem law_true (ns : List Int) (hns : ns.length ≤ 63) : f_law_D (.scr ns) = some (.bl true) := by
  obtain ⟨row, er, hl, hb⟩ := row_spec ns 24 (by omega)
  have hl' : row.length = 24 := by omega
  obtain ⟨vs, ec, hC⟩ := coinage_spec (row := row) (i := 0) (most := 8) (top := 60) (by omega) (by omega) (by omega)
  have hC : Coins vs 8 60 := hC
  have hlen := hC.len
  have hg : okV (.tup (vs.map .int)) := okV_t (by rw [List.length_map]; omega) ints_pl
  obtain ⟨x1, e1, h1⟩ := spoiled_ok (a := 12) (row := row) hC (by omega)
  obtain ⟨x2, e2, h2⟩ := spoiled_ok (a := 16) (row := row) hC (by omega)
  obtain ⟨x3, e3, h3⟩ := edge_ok (a := 20) (row := row) (by omega)
  have hch : f_check_coinage_N (.lst (vs.map .int)) = some true := rfl
  have hne : ((E2 neD (some (D.lst (vs.map .int))) (E1 (o1 listD) (some (.tup (vs.map .int))))).bind getB) = some false := by
    rw [list_t, E2_s]
    unfold neD
    rw [ok_l, plains_ints, deps_ints, deq_l, eqvs_ints]
    simp
  unfold f_law_D
  rw [E2_s, er, Option.bind_some, E4_s, ec, Option.bind_some, list_t, Option.bind_some, hch, Option.bind_some, if_pos rfl]
  unfold lawS
  rw [hne, Option.bind_some, if_neg (by simp), E3_s, e1, Option.bind_some, E3_s, e2, Option.bind_some, E2_s, e3, aC_s, aC_s, aC_s, aC_s, aC_s, Option.bind_some, lstD_i (by simp), Option.bind_some]
  have hall := all_q (f := fun x_value => E1 f__law_right_D (some x_value)) (ds := [.tup (vs.map .int), x1, x3, x2, .tup (vs.map .int)]) (fun d hd => by
    simp only [List.mem_cons, List.not_mem_nil, or_false] at hd
    rcases hd with rfl | rfl | rfl | rfl | rfl
    · exact ⟨true, right_ok hg⟩
    · exact ⟨true, right_ok h1⟩
    · exact ⟨true, right_ok h3⟩
    · exact ⟨true, right_ok h2⟩
    · exact ⟨true, right_ok hg⟩) (by simp)
  refine hall.trans ?_
  have q0 : E1 f__law_right_D (some (.tup (vs.map .int))) = some (.bl true) := right_ok hg
  have q1 : E1 f__law_right_D (some x1) = some (.bl true) := right_ok h1
  have q2 : E1 f__law_right_D (some x2) = some (.bl true) := right_ok h2
  have q3 : E1 f__law_right_D (some x3) = some (.bl true) := right_ok h3
  simp only [List.all_cons, List.all_nil, q0, q1, q2, q3]
  rfl
end k00
end DL
set_option autoImplicit false
set_option pp.maxSteps 40
set_option maxRecDepth 100000
set_option maxHeartbeats 4000000
namespace DL.k00
open PySem PySem.Spec PySem.SeqAt PyProof.Rows L2 DL
theorem all_mk {l : PySem.W.OpenLaw} {w : World} {K : PySem.W.Frag} {h : Heap} {mg : Str → Option Value} {fa f1 f2 f3 f4 f5 f6 f7 f8 f9 f10 f11 f12 f13 f14 f15 f16 : Addr} (X : K.In h) (GN : h.Ns mainGlobals mg) (hfa : mg "law" = some (.ref fa))
    {od1 an1 od2 an2 od3 an3 od4 an4 od5 an5 od6 an6 od7 an7 od8 an8 od9 an9 od10 an10 od11 an11 od12 an12 od13 an13 od14 an14 od15 an15 od16 an16 : Option Addr} {sl1 sl2 sl3 sl4 sl5 sl6 sl7 sl8 sl9 sl10 sl11 sl12 sl13 sl14 sl15 sl16 : Array (Option Value)} {oc1 kV1 dc1 pm1 cd1 ct1 oc2 kV2 dc2 pm2 cd2 ct2 oc3 kV3 dc3 pm3 cd3 ct3 oc4 kV4 dc4 pm4 cd4 ct4 oc5 kV5 dc5 pm5 cd5 ct5 oc6 kV6 dc6 pm6 cd6 ct6 oc7 kV7 dc7 pm7 cd7 ct7 oc8 kV8 dc8 pm8 cd8 ct8 oc9 kV9 dc9 pm9 cd9 ct9 oc10 kV10 dc10 pm10 cd10 ct10 oc11 kV11 dc11 pm11 cd11 ct11 oc12 kV12 dc12 pm12 cd12 ct12 oc13 kV13 dc13 pm13 cd13 ct13 oc14 kV14 dc14 pm14 cd14 ct14 oc15 kV15 dc15 pm15 cd15 ct15 oc16 kV16 dc16 pm16 cd16 ct16 : Value}
    (a1 : PySem.W.nsIn K mainGlobals "is_number" = some (some (.ref f1))) (l1 : K.lookup f1 = some ⟨oc1, od1, .func (PySem.W.fnOf "is_number" "is_number" (defArgs s_is_number) (defBody s_is_number) (defScope s_is_number) .none kV1 dc1 pm1 an1 cd1 ct1), sl1⟩) (c1 : PySem.W.codeIn K cd1 "is_number" = true) (k1 : PySem.W.keepIn K (.ref f1) = true)
    (a2 : PySem.W.nsIn K mainGlobals "is_coinage" = some (some (.ref f2))) (l2 : K.lookup f2 = some ⟨oc2, od2, .func (PySem.W.fnOf "is_coinage" "is_coinage" (defArgs s_is_coinage) (defBody s_is_coinage) (defScope s_is_coinage) .none kV2 dc2 pm2 an2 cd2 ct2), sl2⟩) (c2 : PySem.W.codeIn K cd2 "is_coinage" = true) (k2 : PySem.W.keepIn K (.ref f2) = true)
    (a3 : PySem.W.nsIn K mainGlobals "check_coinage" = some (some (.ref f3))) (l3 : K.lookup f3 = some ⟨oc3, od3, .func (PySem.W.fnOf "check_coinage" "check_coinage" (defArgs s_check_coinage) (defBody s_check_coinage) (defScope s_check_coinage) .none kV3 dc3 pm3 an3 cd3 ct3), sl3⟩) (c3 : PySem.W.codeIn K cd3 "check_coinage" = true) (k3 : PySem.W.keepIn K (.ref f3) = true)
    (a4 : PySem.W.nsIn K mainGlobals "_law_mixed" = some (some (.ref f4))) (l4 : K.lookup f4 = some ⟨oc4, od4, .func (PySem.W.fnOf "_law_mixed" "_law_mixed" (defArgs s__law_mixed) (defBody s__law_mixed) (defScope s__law_mixed) .none kV4 dc4 pm4 an4 cd4 ct4), sl4⟩) (c4 : PySem.W.codeIn K cd4 "_law_mixed" = true) (k4 : PySem.W.keepIn K (.ref f4) = true)
    (a5 : PySem.W.nsIn K mainGlobals "_law_row" = some (some (.ref f5))) (l5 : K.lookup f5 = some ⟨oc5, od5, .func (PySem.W.fnOf "_law_row" "_law_row" (defArgs s__law_row) (defBody s__law_row) (defScope s__law_row) .none kV5 dc5 pm5 an5 cd5 ct5), sl5⟩) (c5 : PySem.W.codeIn K cd5 "_law_row" = true) (k5 : PySem.W.keepIn K (.ref f5) = true)
    (a6 : PySem.W.nsIn K mainGlobals "_law_is_int" = some (some (.ref f6))) (l6 : K.lookup f6 = some ⟨oc6, od6, .func (PySem.W.fnOf "_law_is_int" "_law_is_int" (defArgs s__law_is_int) (defBody s__law_is_int) (defScope s__law_is_int) .none kV6 dc6 pm6 an6 cd6 ct6), sl6⟩) (c6 : PySem.W.codeIn K cd6 "_law_is_int" = true) (k6 : PySem.W.keepIn K (.ref f6) = true)
    (a7 : PySem.W.nsIn K mainGlobals "_law_rises" = some (some (.ref f7))) (l7 : K.lookup f7 = some ⟨oc7, od7, .func (PySem.W.fnOf "_law_rises" "_law_rises" (defArgs s__law_rises) (defBody s__law_rises) (defScope s__law_rises) .none kV7 dc7 pm7 an7 cd7 ct7), sl7⟩) (c7 : PySem.W.codeIn K cd7 "_law_rises" = true) (k7 : PySem.W.keepIn K (.ref f7) = true)
    (a8 : PySem.W.nsIn K mainGlobals "_law_coinage" = some (some (.ref f8))) (l8 : K.lookup f8 = some ⟨oc8, od8, .func (PySem.W.fnOf "_law_coinage" "_law_coinage" (defArgs s__law_coinage) (defBody s__law_coinage) (defScope s__law_coinage) .none kV8 dc8 pm8 an8 cd8 ct8), sl8⟩) (c8 : PySem.W.codeIn K cd8 "_law_coinage" = true) (k8 : PySem.W.keepIn K (.ref f8) = true)
    (a9 : PySem.W.nsIn K mainGlobals "_law_is_coinage" = some (some (.ref f9))) (l9 : K.lookup f9 = some ⟨oc9, od9, .func (PySem.W.fnOf "_law_is_coinage" "_law_is_coinage" (defArgs s__law_is_coinage) (defBody s__law_is_coinage) (defScope s__law_is_coinage) .none kV9 dc9 pm9 an9 cd9 ct9), sl9⟩) (c9 : PySem.W.codeIn K cd9 "_law_is_coinage" = true) (k9 : PySem.W.keepIn K (.ref f9) = true)
    (a10 : PySem.W.nsIn K mainGlobals "_law_only" = some (some (.ref f10))) (l10 : K.lookup f10 = some ⟨oc10, od10, .func (PySem.W.fnOf "_law_only" "_law_only" (defArgs s__law_only) (defBody s__law_only) (defScope s__law_only) .none kV10 dc10 pm10 an10 cd10 ct10), sl10⟩) (c10 : PySem.W.codeIn K cd10 "_law_only" = true) (k10 : PySem.W.keepIn K (.ref f10) = true)
    (a11 : PySem.W.nsIn K mainGlobals "_law_right" = some (some (.ref f11))) (l11 : K.lookup f11 = some ⟨oc11, od11, .func (PySem.W.fnOf "_law_right" "_law_right" (defArgs s__law_right) (defBody s__law_right) (defScope s__law_right) .none kV11 dc11 pm11 an11 cd11 ct11), sl11⟩) (c11 : PySem.W.codeIn K cd11 "_law_right" = true) (k11 : PySem.W.keepIn K (.ref f11) = true)
    (a12 : PySem.W.nsIn K mainGlobals "_law_placed" = some (some (.ref f12))) (l12 : K.lookup f12 = some ⟨oc12, od12, .func (PySem.W.fnOf "_law_placed" "_law_placed" (defArgs s__law_placed) (defBody s__law_placed) (defScope s__law_placed) .none kV12 dc12 pm12 an12 cd12 ct12), sl12⟩) (c12 : PySem.W.codeIn K cd12 "_law_placed" = true) (k12 : PySem.W.keepIn K (.ref f12) = true)
    (a13 : PySem.W.nsIn K mainGlobals "_law_part" = some (some (.ref f13))) (l13 : K.lookup f13 = some ⟨oc13, od13, .func (PySem.W.fnOf "_law_part" "_law_part" (defArgs s__law_part) (defBody s__law_part) (defScope s__law_part) .none kV13 dc13 pm13 an13 cd13 ct13), sl13⟩) (c13 : PySem.W.codeIn K cd13 "_law_part" = true) (k13 : PySem.W.keepIn K (.ref f13) = true)
    (a14 : PySem.W.nsIn K mainGlobals "_law_spoiled" = some (some (.ref f14))) (l14 : K.lookup f14 = some ⟨oc14, od14, .func (PySem.W.fnOf "_law_spoiled" "_law_spoiled" (defArgs s__law_spoiled) (defBody s__law_spoiled) (defScope s__law_spoiled) .none kV14 dc14 pm14 an14 cd14 ct14), sl14⟩) (c14 : PySem.W.codeIn K cd14 "_law_spoiled" = true) (k14 : PySem.W.keepIn K (.ref f14) = true)
    (a15 : PySem.W.nsIn K mainGlobals "_law_edge" = some (some (.ref f15))) (l15 : K.lookup f15 = some ⟨oc15, od15, .func (PySem.W.fnOf "_law_edge" "_law_edge" (defArgs s__law_edge) (defBody s__law_edge) (defScope s__law_edge) .none kV15 dc15 pm15 an15 cd15 ct15), sl15⟩) (c15 : PySem.W.codeIn K cd15 "_law_edge" = true) (k15 : PySem.W.keepIn K (.ref f15) = true)
    (a16 : PySem.W.nsIn K mainGlobals "law" = some (some (.ref f16))) (l16 : K.lookup f16 = some ⟨oc16, od16, .func (PySem.W.fnOf "law" "law" (defArgs s_law) (defBody s_law) (defScope s_law) .none kV16 dc16 pm16 an16 cd16 ct16), sl16⟩) (c16 : PySem.W.codeIn K cd16 "law" = true) (k16 : PySem.W.keepIn K (.ref f16) = true)
    {u_MOST_VALUE u_MOST_VALUES : Value} (g_MOST_VALUE : PySem.W.nsIn K mainGlobals "MOST_VALUE" = some (some u_MOST_VALUE)) (r_MOST_VALUE : RelV (.int 60) u_MOST_VALUE) (g_MOST_VALUES : PySem.W.nsIn K mainGlobals "MOST_VALUES" = some (some u_MOST_VALUES)) (r_MOST_VALUES : RelV (.int 8) u_MOST_VALUES)
    {C_InvalidCoinage C_InvalidShop C_BadText C_NoChange C_NoHistory C_ChangeError : Addr}
    (na_InvalidCoinage : PySem.W.nsIn K mainGlobals "InvalidCoinage" = some (some (.ref C_InvalidCoinage))) (nt_InvalidCoinage : PySem.W.typeIn K (.ref C_InvalidCoinage) = some (.type "type")) (nh_InvalidCoinage : PySem.W.hasDictIn K C_InvalidCoinage = true)
    (na_InvalidShop : PySem.W.nsIn K mainGlobals "InvalidShop" = some (some (.ref C_InvalidShop))) (nt_InvalidShop : PySem.W.typeIn K (.ref C_InvalidShop) = some (.type "type")) (nh_InvalidShop : PySem.W.hasDictIn K C_InvalidShop = true)
    (na_BadText : PySem.W.nsIn K mainGlobals "BadText" = some (some (.ref C_BadText))) (nt_BadText : PySem.W.typeIn K (.ref C_BadText) = some (.type "type")) (nh_BadText : PySem.W.hasDictIn K C_BadText = true)
    (na_NoChange : PySem.W.nsIn K mainGlobals "NoChange" = some (some (.ref C_NoChange))) (nt_NoChange : PySem.W.typeIn K (.ref C_NoChange) = some (.type "type")) (nh_NoChange : PySem.W.hasDictIn K C_NoChange = true)
    (na_NoHistory : PySem.W.nsIn K mainGlobals "NoHistory" = some (some (.ref C_NoHistory))) (nt_NoHistory : PySem.W.typeIn K (.ref C_NoHistory) = some (.type "type")) (nh_NoHistory : PySem.W.hasDictIn K C_NoHistory = true)
    (na_ChangeError : PySem.W.nsIn K mainGlobals "ChangeError" = some (some (.ref C_ChangeError))) (nt_ChangeError : PySem.W.typeIn K (.ref C_ChangeError) = some (.type "type")) (nh_ChangeError : PySem.W.hasDictIn K C_ChangeError = true)
    (xx_InvalidCoinage : PySem.W.excIn K C_InvalidCoinage [.type "ValueError", .type "Exception", .type "BaseException", .type "object"] "ValueError.__new__" = true) (xk_InvalidCoinage : PySem.W.keepIn K (.ref C_InvalidCoinage) = true) (xb_InvalidCoinage : PySem.W.subIn K (.ref C_InvalidCoinage) (.type "BaseException") = some true) (xs_InvalidCoinage : PySem.W.subIn K (.ref C_InvalidCoinage) (.ref C_InvalidCoinage) = some true)
    (xg_InvalidCoinage : PySem.W.findIn K (.ref C_InvalidCoinage) "__getattribute__" = some (some (.builtin "BaseException.__getattribute__"))) (xt_InvalidCoinage : PySem.W.findIn K (.ref C_InvalidCoinage) "__getattr__" = some none) (xc_InvalidCoinage : PySem.W.findIn K (.ref C_InvalidCoinage) "__class__" = some (some (.builtin "object.__class__"))) (xm_InvalidCoinage : PySem.W.mroIn K C_InvalidCoinage (.type "object") = some true)
    (xe_InvalidCoinage_InvalidShop : (Value.ref C_InvalidCoinage == Value.ref C_InvalidShop) = false) (xn_InvalidCoinage_InvalidShop : PySem.W.subIn K (.ref C_InvalidCoinage) (.ref C_InvalidShop) = some false)
    (xe_InvalidCoinage_BadText : (Value.ref C_InvalidCoinage == Value.ref C_BadText) = false) (xn_InvalidCoinage_BadText : PySem.W.subIn K (.ref C_InvalidCoinage) (.ref C_BadText) = some false)
    (xe_InvalidCoinage_NoChange : (Value.ref C_InvalidCoinage == Value.ref C_NoChange) = false) (xn_InvalidCoinage_NoChange : PySem.W.subIn K (.ref C_InvalidCoinage) (.ref C_NoChange) = some false)
    (xe_InvalidCoinage_NoHistory : (Value.ref C_InvalidCoinage == Value.ref C_NoHistory) = false) (xn_InvalidCoinage_NoHistory : PySem.W.subIn K (.ref C_InvalidCoinage) (.ref C_NoHistory) = some false)
    (xk_InvalidCoinage_ChangeError : PySem.W.subIn K (.ref C_InvalidCoinage) (.ref C_ChangeError) = some true) (xv_InvalidCoinage : PySem.W.subIn K (.ref C_InvalidCoinage) (.type "ValueError") = some true)
    (xo_get : PySem.W.specialIn K (.builtin "object.__class__") "__get__" = some (some (.builtin "getset_descriptor.__get__"))) (xo_tak : PySem.W.takesIn K (.builtin "object.__class__") = some true)
    (z_ValueError : PySem.W.nsIn K mainGlobals "ValueError" = some none) (z_all : PySem.W.nsIn K mainGlobals "all" = some none) (z_bool : PySem.W.nsIn K mainGlobals "bool" = some none) (z_int : PySem.W.nsIn K mainGlobals "int" = some none) (z_isinstance : PySem.W.nsIn K mainGlobals "isinstance" = some none) (z_len : PySem.W.nsIn K mainGlobals "len" = some none) (z_list : PySem.W.nsIn K mainGlobals "list" = some none) (z_range : PySem.W.nsIn K mainGlobals "range" = some none) (z_sorted : PySem.W.nsIn K mainGlobals "sorted" = some none) (z_str : PySem.W.nsIn K mainGlobals "str" = some none) (z_tuple : PySem.W.nsIn K mainGlobals "tuple" = some none) (z_zip : PySem.W.nsIn K mainGlobals "zip" = some none) :
    ∃ fd : FuncData, (∀ (s : Shared) (v : Value), BindsTo s fd ⟨[v], []⟩ [("script", v)]) ∧ ∀ base : Heap, K.In base → base.Ns mainGlobals mg → FnOk l.prog w K mg base CX0 7 fa fd ["script"] (spD K 1 (ap1 f_law_D)) := by
  have e := hfa.symm.trans (PySem.W.mg_of X GN a16)
  cases e
  have F1 := fun_mk (st := s_is_number) l1 c1 k1
  have b1 := F1.binds (ps := ["value", "least", "most"]) fun _ _ _ _ _ _ us hl => match us, hl with | [_, _, _], _ => rfl
  have F2 := fun_mk (st := s_is_coinage) l2 c2 k2
  have b2 := F2.binds (ps := ["value", "most"]) fun _ _ _ _ _ _ us hl => match us, hl with | [_, _], _ => rfl
  have F3 := fun_mk (st := s_check_coinage) l3 c3 k3
  have b3 := F3.binds (ps := ["value"]) fun _ _ _ _ _ _ us hl => match us, hl with | [_], _ => rfl
  have F4 := fun_mk (st := s__law_mixed) l4 c4 k4
  have b4 := F4.binds (ps := ["script", "k"]) fun _ _ _ _ _ _ us hl => match us, hl with | [_, _], _ => rfl
  have F5 := fun_mk (st := s__law_row) l5 c5 k5
  have b5 := F5.binds (ps := ["script", "many"]) fun _ _ _ _ _ _ us hl => match us, hl with | [_, _], _ => rfl
  have F6 := fun_mk (st := s__law_is_int) l6 c6 k6
  have b6 := F6.binds (ps := ["value"]) fun _ _ _ _ _ _ us hl => match us, hl with | [_], _ => rfl
  have F7 := fun_mk (st := s__law_rises) l7 c7 k7
  have b7 := F7.binds (ps := ["items"]) fun _ _ _ _ _ _ us hl => match us, hl with | [_], _ => rfl
  have F8 := fun_mk (st := s__law_coinage) l8 c8 k8
  have b8 := F8.binds (ps := ["row", "at", "most", "top"]) fun _ _ _ _ _ _ us hl => match us, hl with | [_, _, _, _], _ => rfl
  have F9 := fun_mk (st := s__law_is_coinage) l9 c9 k9
  have b9 := F9.binds (ps := ["value"]) fun _ _ _ _ _ _ us hl => match us, hl with | [_], _ => rfl
  have F10 := fun_mk (st := s__law_only) l10 c10 k10
  have b10 := F10.binds (ps := ["e"]) fun _ _ _ _ _ _ us hl => match us, hl with | [_], _ => rfl
  have F11 := fun_mk (st := s__law_right) l11 c11 k11
  have b11 := F11.binds (ps := ["value"]) fun _ _ _ _ _ _ us hl => match us, hl with | [_], _ => rfl
  have F12 := fun_mk (st := s__law_placed) l12 c12 k12
  have b12 := F12.binds (ps := ["good", "place", "part"]) fun _ _ _ _ _ _ us hl => match us, hl with | [_, _, _], _ => rfl
  have F13 := fun_mk (st := s__law_part) l13 c13 k13
  have b13 := F13.binds (ps := ["kind", "value"]) fun _ _ _ _ _ _ us hl => match us, hl with | [_, _], _ => rfl
  have F14 := fun_mk (st := s__law_spoiled) l14 c14 k14
  have b14 := F14.binds (ps := ["good", "row", "at"]) fun _ _ _ _ _ _ us hl => match us, hl with | [_, _, _], _ => rfl
  have F15 := fun_mk (st := s__law_edge) l15 c15 k15
  have b15 := F15.binds (ps := ["row", "at"]) fun _ _ _ _ _ _ us hl => match us, hl with | [_, _], _ => rfl
  have F16 := fun_mk (st := s_law) l16 c16 k16
  refine ⟨PySem.W.fnOf "law" "law" (defArgs s_law) (defBody s_law) (defScope s_law) .none kV16 dc16 pm16 an16 cd16 ct16, fun s v => .of_eq rfl, fun base _ _ => ?_⟩
  have T : Top ⟨l.prog, w, K, mg, base⟩ := ⟨PySem.W.mg_none_of X GN z_ValueError, PySem.W.mg_none_of X GN z_all, PySem.W.mg_none_of X GN z_bool, PySem.W.mg_none_of X GN z_int, PySem.W.mg_none_of X GN z_isinstance, PySem.W.mg_none_of X GN z_len, PySem.W.mg_none_of X GN z_list, PySem.W.mg_none_of X GN z_range, PySem.W.mg_none_of X GN z_sorted, PySem.W.mg_none_of X GN z_str, PySem.W.mg_none_of X GN z_tuple, PySem.W.mg_none_of X GN z_zip, ⟨_, PySem.W.mg_of X GN g_MOST_VALUE, r_MOST_VALUE⟩, ⟨_, PySem.W.mg_of X GN g_MOST_VALUES, r_MOST_VALUES⟩, ⟨C_InvalidCoinage, ⟨PySem.W.mg_of X GN na_InvalidCoinage, xx_InvalidCoinage, xk_InvalidCoinage, xb_InvalidCoinage, nt_InvalidCoinage, nh_InvalidCoinage, xs_InvalidCoinage, ⟨xg_InvalidCoinage, xt_InvalidCoinage, xb_InvalidCoinage, nh_InvalidCoinage, xc_InvalidCoinage, xo_get, xo_tak, xm_InvalidCoinage⟩⟩, PySem.W.exm_ref xb_InvalidCoinage nh_InvalidCoinage nt_InvalidCoinage xs_InvalidCoinage, ⟨_, PySem.W.mg_of X GN na_InvalidShop, kit_ne xe_InvalidCoinage_InvalidShop nh_InvalidShop nt_InvalidShop xn_InvalidCoinage_InvalidShop⟩, ⟨_, PySem.W.mg_of X GN na_BadText, kit_ne xe_InvalidCoinage_BadText nh_BadText nt_BadText xn_InvalidCoinage_BadText⟩, ⟨_, PySem.W.mg_of X GN na_NoChange, kit_ne xe_InvalidCoinage_NoChange nh_NoChange nt_NoChange xn_InvalidCoinage_NoChange⟩, ⟨_, PySem.W.mg_of X GN na_NoHistory, kit_ne xe_InvalidCoinage_NoHistory nh_NoHistory nt_NoHistory xn_InvalidCoinage_NoHistory⟩, ⟨_, PySem.W.mg_of X GN na_ChangeError, kit_in nh_ChangeError nt_ChangeError xk_InvalidCoinage_ChangeError⟩, kit_val xv_InvalidCoinage⟩, ⟨_, _, F1, PySem.W.mg_of X GN a1, b1⟩, ⟨_, _, F2, PySem.W.mg_of X GN a2, b2⟩, ⟨_, _, F3, PySem.W.mg_of X GN a3, b3⟩, ⟨_, _, F4, PySem.W.mg_of X GN a4, b4⟩, ⟨_, _, F5, PySem.W.mg_of X GN a5, b5⟩, ⟨_, _, F6, PySem.W.mg_of X GN a6, b6⟩, ⟨_, _, F7, PySem.W.mg_of X GN a7, b7⟩, ⟨_, _, F8, PySem.W.mg_of X GN a8, b8⟩, ⟨_, _, F9, PySem.W.mg_of X GN a9, b9⟩, ⟨_, _, F10, PySem.W.mg_of X GN a10, b10⟩, ⟨_, _, F11, PySem.W.mg_of X GN a11, b11⟩, ⟨_, _, F12, PySem.W.mg_of X GN a12, b12⟩, ⟨_, _, F13, PySem.W.mg_of X GN a13, b13⟩, ⟨_, _, F14, PySem.W.mg_of X GN a14, b14⟩, ⟨_, _, F15, PySem.W.mg_of X GN a15, b15⟩⟩
  exact law_ok (G := ⟨l.prog, w, K, mg, base⟩) T F16
end DL.k00
open PySem PySem.W PyProof.Rows
set_option maxHeartbeats 0 in
theorem PySem.Challenge.cw_changeforall_k00_check_coinage_holds : PySem.Challenge.rw_changeforall_k00_check_coinage.Holds := by
  w_on; o_law; k_head; (case hw => w_witness2)
  k_fill
  refine L2.walk_of (l := PySem.Challenge.rw_changeforall_k00_check_coinage) (n := 63) (k := 7) (x := "script") (CX := fun _ => L2.CX0) (sp := fun w => DL.spD _ 1 (DL.ap1 DL.f_law_D)) rfl (by decide) rfl ⟨rfl, by decide, by decide⟩ (fun w h Y => PySem.W.kIn_of Y) ?F (fun _ _ a ns hl _ hS => DL.sp_law (DL.k00.law_true ns hl) hS) (fun _ _ _ _ _ h => h)
  case F =>
    intro w mg fa h KX G hmg
    refine' DL.k00.all_mk KX G hmg ?a1 ?l1 ?c1 ?k1 ?a2 ?l2 ?c2 ?k2 ?a3 ?l3 ?c3 ?k3 ?a4 ?l4 ?c4 ?k4 ?a5 ?l5 ?c5 ?k5 ?a6 ?l6 ?c6 ?k6 ?a7 ?l7 ?c7 ?k7 ?a8 ?l8 ?c8 ?k8 ?a9 ?l9 ?c9 ?k9 ?a10 ?l10 ?c10 ?k10 ?a11 ?l11 ?c11 ?k11 ?a12 ?l12 ?c12 ?k12 ?a13 ?l13 ?c13 ?k13 ?a14 ?l14 ?c14 ?k14 ?a15 ?l15 ?c15 ?k15 ?a16 ?l16 ?c16 ?k16 ?g_MOST_VALUE ?r_MOST_VALUE ?g_MOST_VALUES ?r_MOST_VALUES ?na_InvalidCoinage ?nt_InvalidCoinage ?nh_InvalidCoinage ?na_InvalidShop ?nt_InvalidShop ?nh_InvalidShop ?na_BadText ?nt_BadText ?nh_BadText ?na_NoChange ?nt_NoChange ?nh_NoChange ?na_NoHistory ?nt_NoHistory ?nh_NoHistory ?na_ChangeError ?nt_ChangeError ?nh_ChangeError ?xx_InvalidCoinage ?xk_InvalidCoinage ?xb_InvalidCoinage ?xs_InvalidCoinage ?xg_InvalidCoinage ?xt_InvalidCoinage ?xc_InvalidCoinage ?xm_InvalidCoinage ?xe_InvalidCoinage_InvalidShop ?xn_InvalidCoinage_InvalidShop ?xe_InvalidCoinage_BadText ?xn_InvalidCoinage_BadText ?xe_InvalidCoinage_NoChange ?xn_InvalidCoinage_NoChange ?xe_InvalidCoinage_NoHistory ?xn_InvalidCoinage_NoHistory ?xk_InvalidCoinage_ChangeError ?xv_InvalidCoinage ?xo_get ?xo_tak ?z_ValueError ?z_all ?z_bool ?z_int ?z_isinstance ?z_len ?z_list ?z_range ?z_sorted ?z_str ?z_tuple ?z_zip
    (case a1 => k_is); (case l1 => k_is); (case c1 => k_is); (case k1 => k_is); (case a2 => k_is); (case l2 => k_is); (case c2 => k_is); (case k2 => k_is); (case a3 => k_is); (case l3 => k_is); (case c3 => k_is); (case k3 => k_is); (case a4 => k_is); (case l4 => k_is); (case c4 => k_is); (case k4 => k_is); (case a5 => k_is); (case l5 => k_is); (case c5 => k_is); (case k5 => k_is); (case a6 => k_is); (case l6 => k_is); (case c6 => k_is); (case k6 => k_is); (case a7 => k_is); (case l7 => k_is); (case c7 => k_is); (case k7 => k_is); (case a8 => k_is); (case l8 => k_is); (case c8 => k_is); (case k8 => k_is); (case a9 => k_is); (case l9 => k_is); (case c9 => k_is); (case k9 => k_is); (case a10 => k_is); (case l10 => k_is); (case c10 => k_is); (case k10 => k_is); (case a11 => k_is); (case l11 => k_is); (case c11 => k_is); (case k11 => k_is); (case a12 => k_is); (case l12 => k_is); (case c12 => k_is); (case k12 => k_is); (case a13 => k_is); (case l13 => k_is); (case c13 => k_is); (case k13 => k_is); (case a14 => k_is); (case l14 => k_is); (case c14 => k_is); (case k14 => k_is); (case a15 => k_is); (case l15 => k_is); (case c15 => k_is); (case k15 => k_is); (case a16 => k_is); (case l16 => k_is); (case c16 => k_is); (case k16 => k_is); (case g_MOST_VALUE => k_is); (case r_MOST_VALUE => exact ⟨_, rfl⟩); (case g_MOST_VALUES => k_is); (case r_MOST_VALUES => exact ⟨_, rfl⟩); (case na_InvalidCoinage => k_is); (case nt_InvalidCoinage => k_is); (case nh_InvalidCoinage => k_is); (case na_InvalidShop => k_is); (case nt_InvalidShop => k_is); (case nh_InvalidShop => k_is); (case na_BadText => k_is); (case nt_BadText => k_is); (case nh_BadText => k_is); (case na_NoChange => k_is); (case nt_NoChange => k_is); (case nh_NoChange => k_is); (case na_NoHistory => k_is); (case nt_NoHistory => k_is); (case nh_NoHistory => k_is); (case na_ChangeError => k_is); (case nt_ChangeError => k_is); (case nh_ChangeError => k_is); (case xx_InvalidCoinage => k_exc); (case xk_InvalidCoinage => k_is); (case xb_InvalidCoinage => k_is); (case xs_InvalidCoinage => first | rfl | decide +kernel | k_is); (case xg_InvalidCoinage => k_is); (case xt_InvalidCoinage => k_is); (case xc_InvalidCoinage => k_is); (case xm_InvalidCoinage => k_is); (case xe_InvalidCoinage_InvalidShop => first | rfl | decide +kernel | k_is); (case xn_InvalidCoinage_InvalidShop => first | rfl | decide +kernel | k_is); (case xe_InvalidCoinage_BadText => first | rfl | decide +kernel | k_is); (case xn_InvalidCoinage_BadText => first | rfl | decide +kernel | k_is); (case xe_InvalidCoinage_NoChange => first | rfl | decide +kernel | k_is); (case xn_InvalidCoinage_NoChange => first | rfl | decide +kernel | k_is); (case xe_InvalidCoinage_NoHistory => first | rfl | decide +kernel | k_is); (case xn_InvalidCoinage_NoHistory => first | rfl | decide +kernel | k_is); (case xk_InvalidCoinage_ChangeError => k_is); (case xv_InvalidCoinage => k_is); (case xo_get => k_is); (case xo_tak => k_is); (case z_ValueError => k_is); (case z_all => k_is); (case z_bool => k_is); (case z_int => k_is); (case z_isinstance => k_is); (case z_len => k_is); (case z_list => k_is); (case z_range => k_is); (case z_sorted => k_is); (case z_str => k_is); (case z_tuple => k_is); (case z_zip => k_is)
